import PyProof.Rows.All
import Wide.All
import OpenK.AllK
import Wide.FinOn
import Lean
import PySem.Challenge.RW_ok0094_01
set_option Elab.async false
set_option autoImplicit false
set_option linter.all false
set_option maxRecDepth 100000
set_option maxHeartbeats 8000000
set_option genSizeOf false
set_option genSizeOfSpec false
set_option bootstrap.genMatcherCode false
set_option compiler.extract_closed false
noncomputable section
namespace Mine
open PySem
theorem adj {a b c:Nat} (h:a<=b) (k:b<=c):a<=c:=Nat.le_trans h k
theorem adk {a b c:Nat} (h:a<b) (k:b<=c):a<c:=Nat.lt_of_lt_of_le h k
theorem adl {a b c:Nat} (h:a<=b) (k:b<c):a<c:=Nat.lt_of_le_of_lt h k
theorem adm (a b:Nat):a<=a+b:=Nat.le_add_right a b
theorem adn {p:Prop} [Decidable p] (h:decide p=true):p:=of_decide_eq_true h
theorem ado {p:Prop} [Decidable p] (h:decide p=false):¬p:=of_decide_eq_false h
theorem adp (a:Nat):a<=a:=Nat.le_refl a
inductive cj where |macro |table |eA
 deriving DecidableEq
inductive V where
 |none |bool (b:Bool) |int (i:Int) |str (s:List Nat) |tup (vs:List V) |ref (n:Nat)
 |frozen (vs:List V)
inductive Cell where
 |list (vs:List V)
 |dict (es:List (List Nat×V))
 |inst (c:cj) (fs:List (Nat×V))
abbrev ag:=List Cell
abbrev Locals:=List (Option V)
inductive BinOp where |add |sub |mul |fdiv |mod
inductive mT where |eq |ne |lt |le |gt |ge |is |iD |isin |iA
inductive Bi where |len |min |max |int |abs |sorted
inductive Bm where |append |pop |l9 |index |join |strip |count |split
mutual
inductive E where
 |none |bool (b:Bool) |int (i:Int) |str (s:List Nat)
 |loc (i:Nat)
 |jZ (k:Nat)
 |bin (op:BinOp) (a b:E)
 |cmp (op:mT) (a b:E)
 |and (es:Es) |or (es:Es)
 |not (a:E) |neg (a:E)
 |ite (c a b:E)
 |tup (es:Es) |list (es:Es) |dict (ks:List (List Nat)) (es:Es)
 |idx (a i:E)
 |slice (a lo hi:E) (F7 Hn:Bool)
 |attr (a:E) (f:Nat)
 |call (f:Nat) (es:Es)
 |own (a:E) (m:Nat) (es:Es)
 |bt (b:Bm) (a:E) (es:Es)
 |km (a:E) (c d:Nat)
 |new (c:cj) (es:Es)
 |bi (b:Bi) (es:Es)
 |comp (bc:E) (caps:List Nat) (iter:E)
 |iS (bc:E) (caps:List Nat) (n:E)
inductive Es where
 |nil |cons (e:E) (es:Es)
end
mutual
inductive S where
 |expr (e:E)
 |aA (i:Nat) (e:E)
 |lZ (i:Nat) (e:E)
 |setAttr (o:E) (f:Nat) (e:E)
 |eQ (o i e:E)
 |unpack (is:List Nat) (e:E)
 |gJ (i:Nat) (op:BinOp) (e:E)
 |g9 (o i:E) (op:BinOp) (e:E)
 |ret (e:E)
 |lI
 |ite (c:E) (a b:Ss)
 |dF (c:E) (b:Ss)
 |forL (i:Nat) (e:E) (b:Ss)
 |forR (i:Nat) (e:E) (b:Ss)
 |raise (es:Es)
 |j9 (b:Ss) (i w:Nat) (aQ:List Nat)
 |brk
 |lJ (o i:E)
inductive Ss where
 |nil |cons (s:S) (ss:Ss)
end
inductive Flow where |next |brk |ret (v:V)
structure aX where
 k:V
 a:V
 d:V
inductive Out (α:Type) where
 |stuck
 |ok (a:α) (O:ag)
 |exc (e:aX) (O:ag)
namespace Out
noncomputable def bind {α β:Type}:Out α→(α→ag→Out β)→Out β
 | .stuck,_=> .stuck
 | .ok a O,f=>f a O
 | .exc e O,_=> .exc e O
end Out
inductive aT where
 |stuck
 |ok (f:Flow) (L:Locals) (O:ag)
 |exc (e:aX) (L:Locals) (O:ag)
noncomputable def aT.bind:aT→(Flow→Locals→ag→aT)→aT
 | .stuck,_=> .stuck
 | .ok f L O,k=>k f L O
 | .exc e L O,_=> .exc e L O
noncomputable def pG {α β:Type} (o:Out α) (d:β) (f:α→ag→β):β:=match o with | .ok a O=>f a O |_=>d
noncomputable def gB {α:Type} (o:Option α) (O:ag):Out α:=match o with
 |some a=> .ok a O
 |Option.none=> .stuck
noncomputable def Locals.get (L:Locals) (i:Nat):Option V:=(L[i]?).join
noncomputable def Locals.put (L:Locals) (i:Nat) (v:V):Locals:=L.set i (some v)
noncomputable def aq:Nat:=16777216
section
variable {α:Type}
noncomputable def V.cA (v:V) (d:α) (f:Int→α):α:=match v with | .int i=>f i |_=>d
noncomputable def V.onStr (v:V) (d:α) (f:List Nat→α):α:=match v with | .str s=>f s |_=>d
noncomputable def V.iE (v:V) (d:α) (f:Bool→α):α:=match v with | .bool b=>f b |_=>d
noncomputable def V.dY (v:V) (d:α) (f:Nat→α):α:=match v with | .ref n=>f n |_=>d
noncomputable def V.q9 (v:V) (d:α) (f:List V→α):α:=match v with | .tup vs=>f vs |_=>d
noncomputable def V.vm (v:V) (d:α) (x:α):α:=match v with | .none=>x |_=>d
noncomputable def gY (O:ag) (n:Nat) (d:α) (f:Cell→α):α:=match O[n]? with |some c=>f c |Option.none=>d
noncomputable def Cell.eZ (c:Cell) (d:α) (f:List V→α):α:=match c with | .list vs=>f vs |_=>d
noncomputable def Cell.jy (c:Cell) (d:α) (f:List (List Nat×V)→α):α:=match c with | .dict es=>f es |_=>d
noncomputable def Cell.kY (c:Cell) (d:α) (f:cj→List (Nat×V)→α):α:=match c with | .inst c fs=>f c fs |_=>d
noncomputable def eZ (O:ag) (n:Nat) (d:α) (f:List V→α):α:=gY O n d λc=>c.eZ d f
noncomputable def jy (O:ag) (n:Nat) (d:α) (f:List (List Nat×V)→α):α:=gY O n d λc=>c.jy d f
noncomputable def kY (O:ag) (n:Nat) (d:α) (f:cj→List (Nat×V)→α):α:=gY O n d λc=>c.kY d f
noncomputable def qO (vs:List V) (d x:α):α:=match vs with |[]=>x |_=>d
noncomputable def ki (vs:List V) (d:α) (f:V→α):α:=match vs with |[]=>d |v::r=>qO r d (f v)
noncomputable def qH (vs:List V) (d:α) (f:V→V→α):α:=match vs with |[]=>d |v::r=>ki r d (f v)
noncomputable def W2 (vs:List V) (d:α) (f:V→V→V→α):α:=match vs with |[]=>d |v::r=>qH r d (f v)
noncomputable def bK {β:Type} (o:Option β) (d:α) (f:β→α):α:=match o with |some x=>f x |Option.none=>d
end
noncomputable def z9 (s:List Nat):Option V:=if s.length≤aq then some (.str s) else Option.none
noncomputable def jj {α β:Type} (f:α→Option β):List α→Option (List β)
 |[]=>some []
 |v::vs=>(f v).bind λx=>(jj f vs).bind λxs=>some (x::xs)
noncomputable def V.Cx:V→Option PyData
 | .none=>some .none
 | .bool b=>some (.bool b)
 | .int i=>some (.int i)
 | .str s=>some (.str ⟨s.toArray⟩)
 |_=>Option.none
noncomputable def V.py (O:ag):Nat→V→Option PyData
 |0,v=>v.Cx
 |d+1,v=>v.q9 (v.dY v.Cx λn=>eZ O n Option.none λvs=>(jj (V.py O d) vs).bind λxs=>some (.list xs)) λvs=>(jj (V.py O d) vs).bind λxs=>some (.tuple xs)
abbrev V.pd (O:ag) (d:Nat):List V→Option (List PyData):=jj (V.py O d)
noncomputable def jU (O:ag) (a b:V):Option Bool:=(V.py O 4 a).bind λd=>(V.py O 4 b).bind λe=>if (SeqAt.shaped d&&SeqAt.shaped e)=true then some (PyData.eqv d e) else Option.none
noncomputable def iX (O:ag) (a b:V):Option Bool:=
 a.cA (a.onStr (a.iE (jU O a b) λx=>b.iE (jU O (.bool x) b) λy=>some (x==y)) λx=>b.onStr (jU O (.str x) b) λy=>some (decide (x=y))) λx=>b.cA (jU O (.int x) b) λy=>some (decide (x=y))
noncomputable def DH:V→Option Bool
 | .none=>some true
 | .frozen _=>Option.none
 |_=>some false
noncomputable def dictGet (es:List (List Nat×V)) (k:List Nat):Option V:=match es with
 |[]=>Option.none
 |(x,v)::r=>if x=k then some v else dictGet r k
noncomputable def dictPut (es:List (List Nat×V)) (k:List Nat) (v:V):List (List Nat×V):=match es with
 |[]=>[(k,v)]
 |(x,u)::r=>if x=k then (x,v)::r else (x,u)::dictPut r k v
noncomputable def dictDel (es:List (List Nat×V)) (k:List Nat):List (List Nat×V):=match es with
 |[]=>[]
 |(x,u)::r=>if x=k then r else (x,u)::dictDel r k
noncomputable def ik:List V→Option (List (List Nat))
 |[]=>some []
 |v::r=>v.onStr Option.none λs=>(ik r).map (s:: ·)
noncomputable def one {α:Type} (l:List Nat) (d:α) (f:Nat→α):α:=match l with |[]=>d |k::r=>if r.isEmpty then f k else d
noncomputable def lR (O:ag) (x c:V):Option Bool:=x.onStr Option.none λs=>
 c.onStr (c.q9 (c.dY Option.none λn=>gY O n Option.none λc=>c.eZ (c.jy Option.none λes=>some (dictGet es s).isSome) λvs=>(ik vs).map λl=>decide (s∈l))
      λvs=>(ik vs).bind λl=>if vs.length≤100 then some (decide (s∈l)) else Option.none)
  λt=>one s Option.none λk=>some (decide (k∈t))
noncomputable def smallInt (i:Int):Bool:=decide (-2147483648<i)&&decide (i<2147483648)
noncomputable def co (op:mT) (O:ag) (a b:V):Option V:=match op with
 | .eq=>(iX O a b).map .bool
 | .ne=>(iX O a b).map λx=> .bool (!x)
 | .is=>b.vm Option.none ((DH a).map .bool)
 | .iD=>b.vm Option.none ((DH a).map λx=> .bool (!x))
 | .isin=>(lR O a b).map .bool
 | .iA=>(lR O a b).map λx=> .bool (!x)
 | .lt=>a.cA Option.none λx=>b.cA Option.none λy=>some (.bool (decide (x<y)))
 | .le=>a.cA (a.onStr Option.none λx=>b.onStr Option.none λy=>some (.bool (!decide (y<x)))) λx=>b.cA Option.none λy=>some (.bool (decide (x≤y)))
 | .gt=>a.cA Option.none λx=>b.cA Option.none λy=>some (.bool (decide (y<x)))
 | .ge=>a.cA Option.none λx=>b.cA Option.none λy=>some (.bool (decide (y≤x)))
noncomputable def iJ (s:List Nat):Nat→List Nat
 |0=>[]
 |n+1=>s++iJ s n
noncomputable def e8 (op:BinOp) (a b:V):Option V:=match op with
 | .add=>a.cA (a.onStr Option.none λx=>b.onStr Option.none λy=>z9 (x++y)) λx=>b.cA Option.none λy=>some (.int (x+y))
 | .sub=>a.cA Option.none λx=>b.cA Option.none λy=>some (.int (x-y))
 | .mul=>a.cA (a.onStr Option.none λx=>b.cA Option.none λy=>if 0≤y∧x.length*y.toNat≤aq∧y<4294967296 then some (.str (iJ x y.toNat)) else Option.none)
      λx=>b.cA Option.none λy=>if (smallInt x&&smallInt y)=true then some (.int (x*y)) else Option.none
 | .fdiv=>a.cA Option.none λx=>b.cA Option.none λy=>if 0<y∧y<1073741824 then some (.int (x.fdiv y)) else Option.none
 | .mod=>a.cA Option.none λx=>b.cA Option.none λy=>if 0<y∧y<1073741824 then some (.int (x.fmod y)) else Option.none
noncomputable def di (O:ag) (a i:V):Option V:=i.cA
  (i.onStr Option.none λk=>a.dY Option.none λn=>jy O n Option.none λes=>dictGet es k)
  λk=>a.onStr (a.q9 (a.dY Option.none λn=>eZ O n Option.none λvs=>if 0≤k then vs[k.toNat]? else if k= -1 then vs.getLast? else Option.none)
      λvs=>if 0≤k∧k<1000000 then vs[k.toNat]? else Option.none)
  λs=>if 0≤k then (s[k.toNat]?).map λc=> .str [c] else Option.none
noncomputable def ky (v:V) (b:Bool):Option (Option Nat):=match b with
 |false=>some Option.none
 |true=>v.cA Option.none λk=>if 0≤k∧k<4294967296 then some (some k.toNat) else Option.none
noncomputable def ku {α:Type} (l:List α) (lo hi:Option Nat):List α:=
 let l:=match hi with |some h=>l.take h |Option.none=>l
 match lo with |some k=>l.drop k |Option.none=>l
noncomputable def Ct (O:ag) (vs:List V) (l h:Option Nat):Out V:=match l with
 |some _=> .stuck
 |Option.none=>bK h .stuck λk=> .ok (.ref O.length) (O++[.list (vs.take k)])
noncomputable def iV (O:ag) (a lo hi:V) (F7 Hn:Bool):Out V:=bK (ky lo F7) .stuck λl=>bK (ky hi Hn) .stuck λh=>match a with
 | .str s=> .ok (.str (ku s l h)) O
 | .frozen vs=>Ct O vs l h
 | .ref n=>eZ O n .stuck λvs=>Ct O vs l h
 |_=> .stuck
noncomputable def pD (fs:List (Nat×V)) (f:Nat):Option V:=match fs with
 |[]=>Option.none
 |(x,v)::r=>if x=f then some v else pD r f
noncomputable def fc (fs:List (Nat×V)) (f:Nat) (v:V):List (Nat×V):=match fs with
 |[]=>[(f,v)]
 |(x,u)::r=>if x=f then (x,v)::r else (x,u)::fc r f v
noncomputable def tX:List String:=["names","body","macros","reserved","uses","table","nettypes","pieces","length","conditions","active","kind","at","detail"]
noncomputable def wc (O:ag) (a:V) (f:Nat):Option V:=a.dY Option.none λn=>kY O n Option.none λ_ fs=>pD fs f
noncomputable def Hk (O:ag) (v:V):Option V:=v.onStr (v.dY Option.none λn=>eZ O n Option.none λvs=>some (.int vs.length)) λs=>some (.int s.length)
noncomputable def GN (O:ag) (es:List (List Nat×V)):Out V:=match es with
 |[]=> .stuck
 |(k,_)::r=>if r.isEmpty∧k.length≤aq then .ok (.ref O.length) (O++[.list [.str k]]) else .stuck
noncomputable def mR (b:Bi) (O:ag) (vs:List V):Out V:=match b with
 | .len=>ki vs .stuck λv=>gB (Hk O v) O
 | .min=>qH vs .stuck λa b=>a.cA .stuck λx=>b.cA .stuck λy=> .ok (.int (if y<x then y else x)) O
 | .max=>qH vs .stuck λa b=>a.cA .stuck λx=>b.cA .stuck λy=> .ok (.int (if x<y then y else x)) O
 | .int=>ki vs .stuck λv=>v.cA .stuck λx=> .ok (.int x) O
 | .abs=>ki vs .stuck λv=>v.cA .stuck λx=> .ok (.int x.natAbs) O
 | .sorted=>ki vs .stuck λv=>v.dY .stuck λn=>jy O n .stuck λes=>GN O es
noncomputable def cu (sep:List Nat):List (List Nat)→List Nat
 |[]=>[]
 |[x]=>x
 |x::y::r=>x++sep++cu sep (y::r)
noncomputable def dC (c:Nat):Bool:=c==32||(decide (9≤c)&&decide (c≤13))||(decide (28≤c)&&decide (c≤31))
noncomputable def cZ (s:List Nat):List Nat:=((s.dropWhile dC).reverse.dropWhile dC).reverse
noncomputable def dg (c:Nat):List Nat→List (List Nat)
 |[]=>[[]]
 |x::r=>if x=c then []::dg c r else match dg c r with
  |p::ps=>(x::p)::ps
  |[]=>[[x]]
noncomputable def g6 (x:List Nat):List (List Nat)→Option Nat
 |[]=>Option.none
 |y::r=>if y=x then some 0 else (g6 x r).map (· +1)
noncomputable def CB:List String:=["use","piece","begin","emit","directive","operand","define","condition","expand"]
noncomputable def vZ (s:List Nat):Bool:=s.all λc=>decide (c<128)
noncomputable def t8 (O:ag) (n:Nat) (xs:List V):Out V:=match xs.getLast? with
 |some v=> .ok v (O.set n (.list xs.dropLast))
 |Option.none=> .stuck
noncomputable def qE (O:ag) (n:Nat) (es:List (List Nat×V)) (k:List Nat) (d:V):Out V:=match dictGet es k with
 |some v=> .ok v (O.set n (.dict (dictDel es k)))
 |Option.none=> .ok d O
noncomputable def fz (m:Bm) (O:ag) (a:V) (vs:List V):Out V:=match m with
 | .append=>a.dY .stuck λn=>ki vs .stuck λv=>eZ O n .stuck λxs=>if xs.length<aq then .ok .none (O.set n (.list (xs++[v]))) else .stuck
 | .pop=>a.dY .stuck λn=>qO vs .stuck (eZ O n .stuck λxs=>t8 O n xs)
 | .l9=>a.dY .stuck λn=>qH vs .stuck λk d=>k.onStr .stuck λk=>jy O n .stuck λes=>qE O n es k d
 | .index=>a.dY .stuck λn=>ki vs .stuck λx=>x.onStr .stuck λx=>eZ O n .stuck λxs=>bK (ik xs) .stuck λl=>bK (g6 x l) .stuck λi=> .ok (.int i) O
 | .join=>a.onStr .stuck λs=>ki vs .stuck λx=>x.dY .stuck λn=>eZ O n .stuck λxs=>bK (ik xs) .stuck λl=>if (cu s l).length+s.length≤aq then .ok (.str (cu s l)) O else .stuck
 | .strip=>a.onStr .stuck λs=>qO vs .stuck (if vZ s=true then .ok (.str (cZ s)) O else .stuck)
 | .count=>a.onStr .stuck λs=>ki vs .stuck λx=>x.onStr .stuck λx=>one x .stuck λc=> .ok (.int (s.count c)) O
 | .split=>a.onStr .stuck λs=>ki vs .stuck λx=>x.onStr .stuck λx=>one x .stuck λc=>if s.length<aq then .ok (.ref O.length) (O++[.list ((dg c s).map .str)]) else .stuck
noncomputable def jI (O:ag) (o i v:V):Option ag:=o.dY Option.none λn=>i.cA
  (i.onStr Option.none λk=>jy O n Option.none λes=>if es.length<1000000 then some (O.set n (.dict (dictPut es k v))) else Option.none)
  λk=>eZ O n Option.none λvs=>if 0≤k∧k.toNat<vs.length then some (O.set n (.list (vs.set k.toNat v))) else Option.none
noncomputable def qQ (O:ag) (o:V) (f:Nat) (v:V):Option ag:=o.dY Option.none λn=>kY O n Option.none λc fs=>some (O.set n (.inst c (fc fs f v)))
noncomputable def jr (op:BinOp) (O:ag) (a b:V):Out V:=match op with
 | .add=>a.dY (gB (e8 .add a b) O) λn=>b.dY .stuck λm=>eZ O n .stuck λxs=>eZ O m .stuck λys=>if n≠m∧xs.length+ys.length≤aq then .ok (.ref n) (O.set n (.list (xs++ys))) else .stuck
 | .mul=> .stuck
 |op=>gB (e8 op a b) O
noncomputable def rG (O:ag) (o i:V):Option ag:=o.dY Option.none λn=>i.onStr Option.none λk=>jy O n Option.none λes=>if (dictGet es k).isSome=true then some (O.set n (.dict (dictDel es k))) else Option.none
abbrev Calls:=Nat→List V→ag→Out V
noncomputable def tL:cj→List (Option Nat)
 | .macro=>[]
 | .table=>[some 17,some 18]
 | .eA=>[Option.none,Option.none,some 20,some 22,some 23,some 24,some 25,some 26,some 21]
noncomputable def gb (c:cj) (m:Nat):Option Nat:=((tL c)[m]?).join
noncomputable def nL:cj→Nat
 | .macro=>15
 | .table=>16
 | .eA=>19
inductive Kd where |s |l |d
noncomputable def Bm.kd:Bm→Kd
 | .append | .pop | .index=> .l
 | .l9=> .d
 |_=> .s
noncomputable def qj (k:Kd) (O:ag) (v:V):Bool:=match k with
 | .s=>v.onStr false λ_=>true
 | .l=>v.dY false λn=>eZ O n false λ_=>true
 | .d=>v.dY false λn=>jy O n false λ_=>true
noncomputable def G6 (O:ag) (v:V):Option cj:=v.dY Option.none λn=>kY O n Option.none λc _=>some c
noncomputable def oU (C:Calls) (c:cj) (O:ag) (vs:List V):Out V:=pG (C (nL c) (.ref O.length::vs) (O++[.inst c []])) .stuck λv af=>v.vm .stuck (.ok (.ref O.length) af)
noncomputable def ua:Nat→Int
 |0=>20
 |_=>1000
noncomputable def j4 (n:Nat) (i:Nat) (O:ag):Option (Option V):=eZ O n Option.none λvs=>some vs[i]?
noncomputable def f9 (k:Int) (i:Nat) (_:ag):Option (Option V):=some (if (i:Int)<k then some (.int i) else Option.none)
noncomputable def fN (item:Nat→ag→Option (Option V)) (f:V→ag→Out V):Nat→Nat→List V→ag→Option (List V×ag)
 |0,_,_,_=>Option.none
 |jq+1,i,acc,O=>(item i O).bind λo=>bK o (some (acc,O)) λx=>pG (f x O) Option.none λv af=>if acc.length<aq then fN item f jq (i+1) (acc++[v]) af else Option.none
noncomputable def m5 (o:Option (List V×ag)):Out V:=bK o .stuck λp=> .ok (.ref p.2.length) (p.2++[.list p.1])
mutual
noncomputable def ev (C:Calls) (fu:Nat):E→Locals→ag→Out V
 | .none,_,O=> .ok .none O
 | .bool b,_,O=> .ok (.bool b) O
 | .int i,_,O=> .ok (.int i) O
 | .str s,_,O=> .ok (.str s) O
 | .loc i,L,O=>gB (L.get i) O
 | .jZ k,_,O=> .ok (.int (ua k)) O
 | .bin op a b,L,O=>(ev C fu a L O).bind λx O=>(ev C fu b L O).bind λy O=>gB (e8 op x y) O
 | .cmp op a b,L,O=>(ev C fu a L O).bind λx O=>(ev C fu b L O).bind λy O=>gB (co op O x y) O
 | .and es,L,O=>eg C fu true es L O
 | .or es,L,O=>eg C fu false es L O
 | .not a,L,O=>(ev C fu a L O).bind λx O=>x.iE .stuck λb=> .ok (.bool (!b)) O
 | .neg a,L,O=>(ev C fu a L O).bind λx O=>x.cA .stuck λb=> .ok (.int (-b)) O
 | .ite c a b,L,O=>(ev C fu c L O).bind λx O=>x.iE .stuck λt=>match t with
  |true=>ev C fu a L O
  |false=>ev C fu b L O
 | .tup es,L,O=>(bx C fu es L O).bind λvs O=> .ok (.tup vs) O
 | .list es,L,O=>(bx C fu es L O).bind λvs O=> .ok (.ref O.length) (O++[.list vs])
 | .dict ks es,L,O=>(bx C fu es L O).bind λvs O=>if vs.length=ks.length∧ks.Nodup then .ok (.ref O.length) (O++[.dict (ks.zip vs)]) else .stuck
 | .idx a i,L,O=>(ev C fu a L O).bind λx O=>(ev C fu i L O).bind λy O=>gB (di O x y) O
 | .slice a lo hi hl hh,L,O=>(ev C fu a L O).bind λx O=>(ev C fu lo L O).bind λy O=>(ev C fu hi L O).bind λz O=>iV O x y z hl hh
 | .attr a f,L,O=>(ev C fu a L O).bind λx O=>gB (wc O x f) O
 | .call f es,L,O=>(bx C fu es L O).bind λvs O=>C f vs O
 | .own a m es,L,O=>(ev C fu a L O).bind λx O=>bK (G6 O x) .stuck λc=>bK (gb c m) .stuck λf=>(bx C fu es L O).bind λvs O=>C f (x::vs) O
 | .bt m a es,L,O=>(ev C fu a L O).bind λx O=>if qj m.kd O x=true then (bx C fu es L O).bind λvs O=>fz m O x vs else .stuck
 | .km a c d,L,O=>(ev C fu a L O).bind λx O=>x.onStr .stuck λs=>if s.length≤8000000 then .ok (.str (s.map λx=>if x=c then d else x)) O else .stuck
 | .new c es,L,O=>(bx C fu es L O).bind λvs O=>oU C c O vs
 | .bi b es,L,O=>(bx C fu es L O).bind λvs O=>mR b O vs
 | .comp bc caps iter,L,O=>(ev C fu iter L O).bind λx O=>x.dY .stuck λn=>m5 (fN (j4 n) (λv O=>ev C fu bc (some v::caps.map L.get) O) fu 0 [] O)
 | .iS bc caps n,L,O=>(ev C fu n L O).bind λx O=>x.cA .stuck λk=>if smallInt k=true then m5 (fN (f9 k) (λv O=>ev C fu bc (some v::caps.map L.get) O) fu 0 [] O) else .stuck
noncomputable def bx (C:Calls) (fu:Nat):Es→Locals→ag→Out (List V)
 | .nil,_,O=> .ok [] O
 | .cons e es,L,O=>(ev C fu e L O).bind λv O=>(bx C fu es L O).bind λvs O=> .ok (v::vs) O
noncomputable def eg (C:Calls) (fu:Nat) (t:Bool):Es→Locals→ag→Out V
 | .nil,_,_=> .stuck
 | .cons e es,L,O=>(ev C fu e L O).bind λv O=>v.iE .stuck λb=>match es with
  | .nil=> .ok (.bool b) O
  | .cons _ _=>match b==t with
   |true=>eg C fu t es L O
   |false=> .ok (.bool b) O
end
noncomputable def Out.toS (o:Out V) (L:Locals) (k:V→ag→aT):aT:=match o with
 | .stuck=> .stuck
 | .ok v O=>k v O
 | .exc e O=> .exc e L O
noncomputable def putAll:Locals→List Nat→List V→Option Locals
 |L,[],vs=>qO vs Option.none (some L)
 |L,i::is,vs=>match vs with
  |[]=>Option.none
  |v::vs=>putAll (L.put i v) is vs
noncomputable def Flow.turn (f:Flow) (L:Locals) (O:ag) (k:aT):aT:=match f with
 | .next=>k
 | .brk=> .ok .next L O
 | .ret v=> .ok (.ret v) L O
noncomputable def kh (c:Locals→ag→Out V) (b:Locals→ag→aT):Nat→Locals→ag→aT
 |0,_,_=> .stuck
 |n+1,L,O=>(c L O).toS L λv O=>v.iE .stuck λt=>match t with
  |true=>(b L O).bind λf L O=>f.turn L O (kh c b n L O)
  |false=> .ok .next L O
noncomputable def jl (item:Nat→ag→Option (Option V)) (x:Nat) (b:Locals→ag→aT):Nat→Nat→Locals→ag→aT
 |0,_,_,_=> .stuck
 |n+1,i,L,O=>bK (item i O) .stuck λo=>bK o (.ok .next L O) λv=>(b (L.put x v) O).bind λf L O=>f.turn L O (jl item x b n (i+1) L O)
noncomputable def pL (vs:List V):Option aX:=qH vs (W2 vs Option.none λk a d=>some ⟨k,a,d⟩) λk a=>some ⟨k,a,.str []⟩
noncomputable def sz (o:Out (List V)) (L:Locals):aT:=match o with
 | .stuck=> .stuck
 | .exc e O=> .exc e L O
 | .ok vs O=>bK (pL vs) .stuck λe=> .exc e L O
noncomputable def handled (o:aT) (w:Nat) (aQ:List Nat):aT:=match o with
 | .stuck=> .stuck
 | .ok f L O=> .ok f L O
 | .exc e L O=>bK ((L.get w).bind λx=>di O x (.str aQ)) .stuck λy=>bK (iX O (.tup [e.k,e.a]) y) .stuck λr=> .ok (.ret (.bool r)) L O
noncomputable def Flow.qg (f:Flow) (L:Locals) (O:ag) (k:aT):aT:=match f with
 | .next=>k
 | .brk=> .ok .brk L O
 | .ret v=> .ok (.ret v) L O
mutual
noncomputable def ex (C:Calls) (fu:Nat):S→Locals→ag→aT
 | .expr e,L,O=>(ev C fu e L O).toS L λ_ O=> .ok .next L O
 | .aA i e,L,O=>(ev C fu e L O).toS L λv O=> .ok .next (L.put i v) O
 | .lZ i e,L,O=>(ev C fu e L O).toS L λv O=> .ok .next (L.put i v) O
 | .setAttr o f e,L,O=>(ev C fu e L O).toS L λv O=>(ev C fu o L O).toS L λx O=>bK (qQ O x f v) .stuck λO=> .ok .next L O
 | .eQ o i e,L,O=>(ev C fu e L O).toS L λv O=>(ev C fu o L O).toS L λx O=>(ev C fu i L O).toS L λy O=>bK (jI O x y v) .stuck λO=> .ok .next L O
 | .unpack is e,L,O=>(ev C fu e L O).toS L λv O=>v.q9 .stuck λvs=>bK (putAll L is vs) .stuck λL=> .ok .next L O
 | .gJ i op e,L,O=>bK (L.get i) .stuck λx=>(ev C fu e L O).toS L λy O=>(jr op O x y).toS L λz O=> .ok .next (L.put i z) O
 | .g9 o i op e,L,O=>(ev C fu o L O).toS L λx O=>(ev C fu i L O).toS L λy O=>(gB (di O x y) O).toS L λold O=>
      (ev C fu e L O).toS L λv O=>(jr op O old v).toS L λz O=>bK (jI O x y z) .stuck λO=> .ok .next L O
 | .ret e,L,O=>(ev C fu e L O).toS L λv O=> .ok (.ret v) L O
 | .lI,L,O=> .ok (.ret .none) L O
 | .ite c a b,L,O=>(ev C fu c L O).toS L λv O=>v.iE .stuck λt=>match t with
  |true=>ah C fu a L O
  |false=>ah C fu b L O
 | .dF c b,L,O=>kh (ev C fu c) (ah C fu b) fu L O
 | .forL x e b,L,O=>(ev C fu e L O).toS L λv O=>v.dY .stuck λn=>jl (j4 n) x (ah C fu b) fu 0 L O
 | .forR x e b,L,O=>(ev C fu e L O).toS L λv O=>v.cA .stuck λk=>if smallInt k=true then jl (f9 k) x (ah C fu b) fu 0 L O else .stuck
 | .raise es,L,O=>sz (bx C fu es L O) L
 | .j9 b _ w aQ,L,O=>handled (ah C fu b L O) w aQ
 | .brk,L,O=> .ok .brk L O
 | .lJ o i,L,O=>(ev C fu o L O).toS L λx O=>(ev C fu i L O).toS L λy O=>bK (rG O x y) .stuck λO=> .ok .next L O
noncomputable def ah (C:Calls) (fu:Nat):Ss→Locals→ag→aT
 | .nil,L,O=> .ok .next L O
 | .cons s ss,L,O=>(ex C fu s L O).bind λf L O=>f.qg L O (ah C fu ss L O)
end
structure Fn where
 np:Nat
 nl:Nat
 body:Ss
noncomputable def Flow.val (f:Flow) (O:ag):Out V:=match f with
 | .next=> .ok .none O
 | .brk=> .stuck
 | .ret v=> .ok v O
noncomputable def fD:aT→Out V
 | .stuck=> .stuck
 | .ok f _ O=>f.val O
 | .exc e _ O=> .exc e O
noncomputable def wq (C:Calls) (fu:Nat) (F:Fn) (vs:List V) (O:ag):Out V:=
 if vs.length=F.np∧F.np≤F.nl then fD (ah C fu F.body (vs.map some++List.replicate (F.nl-F.np) Option.none) O) else .stuck
noncomputable def ay (gV:List Fn) (fu:Nat):Nat→Calls
 |0=>λ_ _ _=> .stuck
 |n+1=>λf vs O=>bK gV[f]? .stuck λF=>wq (ay gV fu n) fu F vs O
theorem dJ {c:Prop} {d:Decidable c} {t:c→Bool} (h:(@dite Bool c d t λ_=>false)=true):c:=by
 cases d with
 |isTrue e=>exact e
 |isFalse _=>cases h
theorem aN {p q:Bool} {P:Prop} (h:(p&&q)=true) (k:p=true→q=true→P):P:=by
 cases p
 ·cases h
 ·exact k rfl h
theorem fk {α:Type} [BEq α] [LawfulBEq α] {a b:α} {P:α→Prop} (h:(a==b)=true) (k:P b):P a:=by rw [eq_of_beq h];exact k
theorem ab4 {p:Prop} [d:Decidable p] {P:Prop} (h:decide p=true) (k:p→P):P:=k (adn h)
noncomputable def vC (x:PySem.Expr) (f:BoolOp→(List PySem.Expr)→Pos→Bool):Bool:=if h:x.ctorIdx=0 then PySem.Expr.BoolOp.elim x h f else false
theorem Ia {P:PySem.Expr→Prop} {f:BoolOp→(List PySem.Expr)→Pos→Bool} {x:PySem.Expr} (h:vC x f=true) (k:∀a b c,f a b c=true→P (.BoolOp a b c)):P x:=
 PySem.Expr.BoolOp.elim (motive_1:=λx=>vC x f=true→P x) x (dJ h) k h
noncomputable def BA (x:PySem.Expr) (f:PySem.Expr→Operator→PySem.Expr→Pos→Bool):Bool:=if h:x.ctorIdx=2 then PySem.Expr.BinOp.elim x h f else false
theorem YY {P:PySem.Expr→Prop} {f:PySem.Expr→Operator→PySem.Expr→Pos→Bool} {x:PySem.Expr} (h:BA x f=true) (k:∀a b c d,f a b c d=true→P (.BinOp a b c d)):P x:=
 PySem.Expr.BinOp.elim (motive_1:=λx=>BA x f=true→P x) x (dJ h) k h
noncomputable def xS (x:PySem.Expr) (f:UnaryOp→PySem.Expr→Pos→Bool):Bool:=if h:x.ctorIdx=3 then PySem.Expr.UnaryOp.elim x h f else false
theorem H7 {P:PySem.Expr→Prop} {f:UnaryOp→PySem.Expr→Pos→Bool} {x:PySem.Expr} (h:xS x f=true) (k:∀a b c,f a b c=true→P (.UnaryOp a b c)):P x:=
 PySem.Expr.UnaryOp.elim (motive_1:=λx=>xS x f=true→P x) x (dJ h) k h
noncomputable def Dz (x:PySem.Expr) (f:PySem.Expr→PySem.Expr→PySem.Expr→Pos→Bool):Bool:=if h:x.ctorIdx=5 then PySem.Expr.IfExp.elim x h f else false
theorem OG {P:PySem.Expr→Prop} {f:PySem.Expr→PySem.Expr→PySem.Expr→Pos→Bool} {x:PySem.Expr} (h:Dz x f=true) (k:∀a b c d,f a b c d=true→P (.IfExp a b c d)):P x:=
 PySem.Expr.IfExp.elim (motive_1:=λx=>Dz x f=true→P x) x (dJ h) k h
noncomputable def CW (x:PySem.Expr) (f:(List (Option PySem.Expr))→(List PySem.Expr)→Pos→Bool):Bool:=if h:x.ctorIdx=6 then PySem.Expr.Dict.elim x h f else false
theorem Tg {P:PySem.Expr→Prop} {f:(List (Option PySem.Expr))→(List PySem.Expr)→Pos→Bool} {x:PySem.Expr} (h:CW x f=true) (k:∀a b c,f a b c=true→P (.Dict a b c)):P x:=
 PySem.Expr.Dict.elim (motive_1:=λx=>CW x f=true→P x) x (dJ h) k h
noncomputable def um (x:PySem.Expr) (f:PySem.Expr→(List Comprehension)→Scope→Pos→Bool):Bool:=if h:x.ctorIdx=8 then PySem.Expr.ListComp.elim x h f else false
theorem Dk {P:PySem.Expr→Prop} {f:PySem.Expr→(List Comprehension)→Scope→Pos→Bool} {x:PySem.Expr} (h:um x f=true) (k:∀a b c d,f a b c d=true→P (.ListComp a b c d)):P x:=
 PySem.Expr.ListComp.elim (motive_1:=λx=>um x f=true→P x) x (dJ h) k h
noncomputable def w7 (x:PySem.Expr) (f:PySem.Expr→(List CmpOp)→(List PySem.Expr)→Pos→Bool):Bool:=if h:x.ctorIdx=15 then PySem.Expr.Compare.elim x h f else false
theorem K1 {P:PySem.Expr→Prop} {f:PySem.Expr→(List CmpOp)→(List PySem.Expr)→Pos→Bool} {x:PySem.Expr} (h:w7 x f=true) (k:∀a b c d,f a b c d=true→P (.Compare a b c d)):P x:=
 PySem.Expr.Compare.elim (motive_1:=λx=>w7 x f=true→P x) x (dJ h) k h
noncomputable def kz (x:PySem.Expr) (f:PySem.Expr→(List PySem.Expr)→(List Keyword)→Pos→Bool):Bool:=if h:x.ctorIdx=16 then PySem.Expr.Call.elim x h f else false
theorem mQ {P:PySem.Expr→Prop} {f:PySem.Expr→(List PySem.Expr)→(List Keyword)→Pos→Bool} {x:PySem.Expr} (h:kz x f=true) (k:∀a b c d,f a b c d=true→P (.Call a b c d)):P x:=
 PySem.Expr.Call.elim (motive_1:=λx=>kz x f=true→P x) x (dJ h) k h
noncomputable def su (x:PySem.Expr) (f:Const→Nat→Pos→Bool):Bool:=if h:x.ctorIdx=19 then PySem.Expr.Constant.elim x h f else false
theorem wW {P:PySem.Expr→Prop} {f:Const→Nat→Pos→Bool} {x:PySem.Expr} (h:su x f=true) (k:∀a b c,f a b c=true→P (.Constant a b c)):P x:=
 PySem.Expr.Constant.elim (motive_1:=λx=>su x f=true→P x) x (dJ h) k h
noncomputable def oM (x:PySem.Expr) (f:PySem.Expr→Str→Pos→Bool):Bool:=if h:x.ctorIdx=20 then PySem.Expr.Attribute.elim x h f else false
theorem sf {P:PySem.Expr→Prop} {f:PySem.Expr→Str→Pos→Bool} {x:PySem.Expr} (h:oM x f=true) (k:∀a b c,f a b c=true→P (.Attribute a b c)):P x:=
 PySem.Expr.Attribute.elim (motive_1:=λx=>oM x f=true→P x) x (dJ h) k h
noncomputable def nY (x:PySem.Expr) (f:PySem.Expr→PySem.Expr→Pos→Bool):Bool:=if h:x.ctorIdx=21 then PySem.Expr.Subscript.elim x h f else false
theorem qY {P:PySem.Expr→Prop} {f:PySem.Expr→PySem.Expr→Pos→Bool} {x:PySem.Expr} (h:nY x f=true) (k:∀a b c,f a b c=true→P (.Subscript a b c)):P x:=
 PySem.Expr.Subscript.elim (motive_1:=λx=>nY x f=true→P x) x (dJ h) k h
noncomputable def eR (x:PySem.Expr) (f:Str→Pos→Bool):Bool:=if h:x.ctorIdx=23 then PySem.Expr.Name.elim x h f else false
theorem iN {P:PySem.Expr→Prop} {f:Str→Pos→Bool} {x:PySem.Expr} (h:eR x f=true) (k:∀a b,f a b=true→P (.Name a b)):P x:=
 PySem.Expr.Name.elim (motive_1:=λx=>eR x f=true→P x) x (dJ h) k h
noncomputable def CL (x:PySem.Expr) (f:(List PySem.Expr)→Pos→Bool):Bool:=if h:x.ctorIdx=24 then PySem.Expr.List.elim x h f else false
theorem ON {P:PySem.Expr→Prop} {f:(List PySem.Expr)→Pos→Bool} {x:PySem.Expr} (h:CL x f=true) (k:∀a b,f a b=true→P (.List a b)):P x:=
 PySem.Expr.List.elim (motive_1:=λx=>CL x f=true→P x) x (dJ h) k h
noncomputable def uX (x:PySem.Expr) (f:(List PySem.Expr)→Nat→Pos→Bool):Bool:=if h:x.ctorIdx=25 then PySem.Expr.Tuple.elim x h f else false
theorem C6 {P:PySem.Expr→Prop} {f:(List PySem.Expr)→Nat→Pos→Bool} {x:PySem.Expr} (h:uX x f=true) (k:∀a b c,f a b c=true→P (.Tuple a b c)):P x:=
 PySem.Expr.Tuple.elim (motive_1:=λx=>uX x f=true→P x) x (dJ h) k h
noncomputable def DE (x:PySem.Expr) (f:(Option PySem.Expr)→(Option PySem.Expr)→(Option PySem.Expr)→Pos→Bool):Bool:=if h:x.ctorIdx=26 then PySem.Expr.Slice.elim x h f else false
theorem Vb {P:PySem.Expr→Prop} {f:(Option PySem.Expr)→(Option PySem.Expr)→(Option PySem.Expr)→Pos→Bool} {x:PySem.Expr} (h:DE x f=true) (k:∀a b c d,f a b c d=true→P (.Slice a b c d)):P x:=
 PySem.Expr.Slice.elim (motive_1:=λx=>DE x f=true→P x) x (dJ h) k h
noncomputable def tu (x:PySem.Stmt) (f:(Option PySem.Expr)→Pos→Bool):Bool:=if h:x.ctorIdx=3 then PySem.Stmt.Return.elim x h f else false
theorem Cm {P:PySem.Stmt→Prop} {f:(Option PySem.Expr)→Pos→Bool} {x:PySem.Stmt} (h:tu x f=true) (k:∀a b,f a b=true→P (.Return a b)):P x:=
 PySem.Stmt.Return.elim (motive_2:=λx=>tu x f=true→P x) x (dJ h) k h
noncomputable def zY (x:PySem.Stmt) (f:(List PySem.Expr)→Pos→Bool):Bool:=if h:x.ctorIdx=4 then PySem.Stmt.Delete.elim x h f else false
theorem aaf {P:PySem.Stmt→Prop} {f:(List PySem.Expr)→Pos→Bool} {x:PySem.Stmt} (h:zY x f=true) (k:∀a b,f a b=true→P (.Delete a b)):P x:=
 PySem.Stmt.Delete.elim (motive_2:=λx=>zY x f=true→P x) x (dJ h) k h
noncomputable def pg (x:PySem.Stmt) (f:(List PySem.Expr)→PySem.Expr→Pos→Bool):Bool:=if h:x.ctorIdx=5 then PySem.Stmt.Assign.elim x h f else false
theorem uq {P:PySem.Stmt→Prop} {f:(List PySem.Expr)→PySem.Expr→Pos→Bool} {x:PySem.Stmt} (h:pg x f=true) (k:∀a b c,f a b c=true→P (.Assign a b c)):P x:=
 PySem.Stmt.Assign.elim (motive_2:=λx=>pg x f=true→P x) x (dJ h) k h
noncomputable def yg (x:PySem.Stmt) (f:PySem.Expr→Operator→PySem.Expr→Pos→Bool):Bool:=if h:x.ctorIdx=7 then PySem.Stmt.AugAssign.elim x h f else false
theorem JT {P:PySem.Stmt→Prop} {f:PySem.Expr→Operator→PySem.Expr→Pos→Bool} {x:PySem.Stmt} (h:yg x f=true) (k:∀a b c d,f a b c d=true→P (.AugAssign a b c d)):P x:=
 PySem.Stmt.AugAssign.elim (motive_2:=λx=>yg x f=true→P x) x (dJ h) k h
noncomputable def ya (x:PySem.Stmt) (f:PySem.Expr→PySem.Expr→(List Stmt)→(List Stmt)→Pos→Bool):Bool:=if h:x.ctorIdx=9 then PySem.Stmt.For.elim x h f else false
theorem L7 {P:PySem.Stmt→Prop} {f:PySem.Expr→PySem.Expr→(List Stmt)→(List Stmt)→Pos→Bool} {x:PySem.Stmt} (h:ya x f=true) (k:∀a b c d e,f a b c d e=true→P (.For a b c d e)):P x:=
 PySem.Stmt.For.elim (motive_2:=λx=>ya x f=true→P x) x (dJ h) k h
noncomputable def yU (x:PySem.Stmt) (f:PySem.Expr→(List Stmt)→(List Stmt)→Pos→Bool):Bool:=if h:x.ctorIdx=11 then PySem.Stmt.While.elim x h f else false
theorem PM {P:PySem.Stmt→Prop} {f:PySem.Expr→(List Stmt)→(List Stmt)→Pos→Bool} {x:PySem.Stmt} (h:yU x f=true) (k:∀a b c d,f a b c d=true→P (.While a b c d)):P x:=
 PySem.Stmt.While.elim (motive_2:=λx=>yU x f=true→P x) x (dJ h) k h
noncomputable def Bh (x:PySem.Stmt) (f:PySem.Expr→(List Stmt)→(List Stmt)→Pos→Bool):Bool:=if h:x.ctorIdx=12 then PySem.Stmt.If.elim x h f else false
theorem QT {P:PySem.Stmt→Prop} {f:PySem.Expr→(List Stmt)→(List Stmt)→Pos→Bool} {x:PySem.Stmt} (h:Bh x f=true) (k:∀a b c d,f a b c d=true→P (.If a b c d)):P x:=
 PySem.Stmt.If.elim (motive_2:=λx=>Bh x f=true→P x) x (dJ h) k h
noncomputable def Cb (x:PySem.Stmt) (f:(Option PySem.Expr)→(Option PySem.Expr)→Pos→Bool):Bool:=if h:x.ctorIdx=16 then PySem.Stmt.Raise.elim x h f else false
theorem Yl {P:PySem.Stmt→Prop} {f:(Option PySem.Expr)→(Option PySem.Expr)→Pos→Bool} {x:PySem.Stmt} (h:Cb x f=true) (k:∀a b c,f a b c=true→P (.Raise a b c)):P x:=
 PySem.Stmt.Raise.elim (motive_2:=λx=>Cb x f=true→P x) x (dJ h) k h
noncomputable def CF (x:PySem.Stmt) (f:(List Stmt)→(List ExceptHandler)→(List Stmt)→(List Stmt)→Pos→Bool):Bool:=if h:x.ctorIdx=17 then PySem.Stmt.Try.elim x h f else false
theorem Sm {P:PySem.Stmt→Prop} {f:(List Stmt)→(List ExceptHandler)→(List Stmt)→(List Stmt)→Pos→Bool} {x:PySem.Stmt} (h:CF x f=true) (k:∀a b c d e,f a b c d e=true→P (.Try a b c d e)):P x:=
 PySem.Stmt.Try.elim (motive_2:=λx=>CF x f=true→P x) x (dJ h) k h
noncomputable def Bu (x:PySem.Stmt) (f:PySem.Expr→Pos→Bool):Bool:=if h:x.ctorIdx=24 then PySem.Stmt.Expr.elim x h f else false
theorem Vt {P:PySem.Stmt→Prop} {f:PySem.Expr→Pos→Bool} {x:PySem.Stmt} (h:Bu x f=true) (k:∀a b,f a b=true→P (.Expr a b)):P x:=
 PySem.Stmt.Expr.elim (motive_2:=λx=>Bu x f=true→P x) x (dJ h) k h
noncomputable def Ey (x:PySem.Stmt) (f:Pos→Bool):Bool:=if h:x.ctorIdx=26 then PySem.Stmt.Break.elim x h f else false
theorem ZM {P:PySem.Stmt→Prop} {f:Pos→Bool} {x:PySem.Stmt} (h:Ey x f=true) (k:∀a,f a=true→P (.Break a)):P x:=
 PySem.Stmt.Break.elim (motive_2:=λx=>Ey x f=true→P x) x (dJ h) k h
noncomputable def AH (x:PySem.Const) (f:Bool→Bool):Bool:=if h:x.ctorIdx=1 then PySem.Const.bool.elim x h f else false
theorem S7 {P:PySem.Const→Prop} {f:Bool→Bool} {x:PySem.Const} (h:AH x f=true) (k:∀a,f a=true→P (.bool a)):P x:=
 PySem.Const.bool.elim (motive:=λx=>AH x f=true→P x) x (dJ h) k h
noncomputable def Bj (x:PySem.Const) (f:Int→Bool):Bool:=if h:x.ctorIdx=2 then PySem.Const.int.elim x h f else false
theorem aal {P:PySem.Const→Prop} {f:Int→Bool} {x:PySem.Const} (h:Bj x f=true) (k:∀a,f a=true→P (.int a)):P x:=
 PySem.Const.int.elim (motive:=λx=>Bj x f=true→P x) x (dJ h) k h
noncomputable def Di (x:PySem.Const) (f:Str→Bool):Bool:=if h:x.ctorIdx=5 then PySem.Const.str.elim x h f else false
theorem YF {P:PySem.Const→Prop} {f:Str→Bool} {x:PySem.Const} (h:Di x f=true) (k:∀a,f a=true→P (.str a)):P x:=
 PySem.Const.str.elim (motive:=λx=>Di x f=true→P x) x (dJ h) k h
noncomputable def fT {α:Type} (l:List α) (f:α→Bool):Bool:=match l with |[]=>false |a::r=>r.isEmpty&&f a
theorem gW {α:Type} {P:List α→Prop} {f:α→Bool} {l:List α} (h:fT l f=true) (k:∀a,f a=true→P [a]):P l:=match l,h with
 |[a],h=>k a h
noncomputable def eU {α:Type} (l:List α) (b:Bool):Bool:=match l with |[]=>b |_::_=>false
theorem fR {α:Type} {P:List α→Prop} {b:Bool} {l:List α} (h:eU l b=true) (k:b=true→P []):P l:=match l,h with
 |[],h=>k h
noncomputable def iH {α:Type} (o:Option α) (f:α→Bool):Bool:=match o with |some a=>f a |Option.none=>false
theorem o9 {α:Type} {P:Option α→Prop} {f:α→Bool} {o:Option α} (h:iH o f=true) (k:∀a,f a=true→P (some a)):P o:=match o,h with
 |some a,h=>k a h
noncomputable def xM {α:Type} (o:Option α) (b:Bool):Bool:=match o with |some _=>false |Option.none=>b
theorem El {α:Type} {P:Option α→Prop} {b:Bool} {o:Option α} (h:xM o b=true) (k:b=true→P Option.none):P o:=match o,h with
 |Option.none,h=>k h
noncomputable def cps (s:String):List Nat:=s.toList.map Char.toNat
noncomputable def kZ:List String:=["is_name_char","name_end","row_end","blanks_end","layout_end","string_end","remark_end","escaped_end","whole_end","count_rows","read_arguments","substitute","read_body",
 "directive_names","","","","","","","","","","","","","","_law_pool","_law_pick","_law_macro","_law_written","_law_filled","_law_expanded","_law_emit","_law_use","_law_define","_law_condition","_law_rows","law"]
noncomputable def gH (l:List String) (i:Nat) (x:Str):Bool:=iH l[i]? λs=>x==Str.ofString s&&s !=""
noncomputable def Ag:List String:=["MOST_DEPTH","MOST_USES"]
noncomputable def uP:cj→String
 | .macro=>"Macro"
 | .table=>"MacroTable"
 | .eA=>"Preprocessor"
noncomputable def pv:Bi→String
 | .len=>"len" | .min=>"min" | .max=>"max" | .int=>"int" | .abs=>"abs" | .sorted=>"sorted"
noncomputable def Bm.name:Bm→String
 | .append=>"append" | .pop=>"pop" | .l9=>"pop" | .index=>"index" | .join=>"join" | .strip=>"strip" | .count=>"count" | .split=>"split"
noncomputable def jQ:BinOp→Operator
 | .add=> .Add | .sub=> .Sub | .mul=> .Mult | .fdiv=> .FloorDiv | .mod=> .Mod
noncomputable def fW:mT→CmpOp
 | .eq=> .Eq | .ne=> .NotEq | .lt=> .Lt | .le=> .LtE | .gt=> .Gt | .ge=> .GtE | .is=> .Is | .iD=> .IsNot | .isin=> .In | .iA=> .NotIn
noncomputable def boolOf:Bool→BoolOp
 |true=> .And |false=> .Or
noncomputable def d6 (sc:Scope) (x:Str):Bool:=sc.names.lookup x==some .globalImplicit&&x !=Str.ofString "__debug__"
noncomputable def iP (sc:Scope) (nm:List Str) (i:Nat) (x:Str):Bool:=nm[i]?==some x&&x !=Str.ofString "__debug__"&&(sc.names.lookup x==some .local||sc.names.lookup x==some .cell)
noncomputable def dR (sc:Scope) (nm:List Str) (i:Nat) (x:Str):Bool:=nm[i]?==some x&&sc.names.lookup x==some .local&&x !=Str.ofString "__debug__"
noncomputable def hV (sc:Scope):Scope:={sc with names:=sc.names.map λ(n,k)=>if k== .free then (n,.cell) else (n,k)}
noncomputable def freeNames (sc:Scope):List Str:=(sc.names.filter λx=>x.2== .free).map (·.1)
noncomputable def mf (sc:Scope) (nm:List Str) (aG:Scope) (x:Str) (caps:List Nat):Bool:=
 aG.kind== .function&&aG.names.all (λy=>y.2!= .cell)&&aG.names.all (λy=>y.2!= .local||aG.names.lookup y.1==some .local)&&aG.names.lookup x==some .local&&
 (freeNames aG).map some==caps.map (λi=>nm[i]?)&&(freeNames aG).all (λn=>sc.names.lookup n==some .cell)&&(freeNames aG).all (λn=>aG.names.lookup n==some .free)&&sc.kind== .function&&decide (freeNames aG).Nodup
noncomputable def abQ (n:Nat) (x:PySem.Expr):Bool:=x.ctorIdx==n
noncomputable def lg (x:PySem.Expr):Bool:=x.ctorIdx !=26
noncomputable def dG (x:PySem.Expr):Bool:=x.ctorIdx !=22&&x.ctorIdx !=7
noncomputable def kG (x:PySem.Expr):Bool:=x.ctorIdx !=8&&(x.ctorIdx !=9&&x.ctorIdx !=10)
noncomputable def kO (x:PySem.Expr):Bool:=if h:x.ctorIdx=16 then PySem.Expr.Call.elim x h (λf _ _ _=>f.ctorIdx !=23) else true
noncomputable def Ez {α:Type} (l:List α) (f:α→α→Bool):Bool:=match l with |[]=>false |a::r=>fT r (f a)
noncomputable def qR (x:PySem.Expr) (l:List Nat):Bool:=su x λc _ _=>Di c λx=>x.cps.toList==l
noncomputable def rF:List (List Nat)→List (Option PySem.Expr)→Bool
 |[],xs=>eU xs true
 |k::ks,xs=>match xs with
  |[]=>false
  |x::r=>iH x (qR · k)&&rF ks r
noncomputable def PG (c d:Nat) (l:List PySem.Expr):Bool:=Ez l λy z=>qR y [c]&&qR z [d]
noncomputable def qw (x:E):Bool:=x.ctorIdx==0
theorem Yq {P:E→Prop} {x:E} (h:qw x=true) (k:P .none):P x:=E.none.elim x (eq_of_beq h) k
noncomputable def uZ (f:PySem.Expr→Bool) (z:Bool) (o:Option PySem.Expr) (b:Bool):Bool:=match o with
 |some x=>b&&f x
 |Option.none=> !b&&z
mutual
noncomputable def aF (sc:Scope) (nm:List Str):E→PySem.Expr→Bool
 | .none,x=>su x λc _ _=>c.ctorIdx==0
 | .bool b,x=>su x λc _ _=>AH c λd=>d==b
 | .int i,x=>su x λc _ _=>Bj c λd=>d==i
 | .str s,x=>qR x s&&decide (s.length≤1000)
 | .loc i,x=>eR x λy _=>iP sc nm i y
 | .jZ k,x=>eR x λy _=>gH Ag k y&&d6 sc y
 | .bin op a b,x=>BA x λl o r _=>o==jQ op&&(aF sc nm a l&&aF sc nm b r)
 | .cmp op a b,x=>w7 x λl os rs _=>fT os λo=>fT rs λr=>o==fW op&&(!behindInMarks o r&&(aF sc nm a l&&aF sc nm b r))
 | .and es,x=>vC x λo vs _=>o== .And&&cE sc nm es vs
 | .or es,x=>vC x λo vs _=>o== .Or&&cE sc nm es vs
 | .not a,x=>xS x λo y _=>o== .Not&&aF sc nm a y
 | .neg a,x=>xS x λo y _=>o== .USub&&aF sc nm a y
 | .ite c a b,x=>Dz x λt y z _=>aF sc nm c t&&(aF sc nm a y&&aF sc nm b z)
 | .tup es,x=>uX x λvs _ _=>decide (vs.length≤1000)&&cE sc nm es vs
 | .list es,x=>CL x λvs _=>decide (vs.length≤1000)&&cE sc nm es vs
 | .dict ks es,x=>CW x λcw vs _=>rF ks cw&&(cE sc nm es vs&&(decide (vs.length≤15)&&cw.length==vs.length))
 | .idx a i,x=>nY x λy j _=>aF sc nm a y&&(aF sc nm i j&&lg j)
 | .slice a lo hi hl hh,x=>nY x λy j _=>DE j λl u s _=>xM s (aF sc nm a y&&(uZ (aF sc nm lo) (qw lo) l hl&&uZ (aF sc nm hi) (qw hi) u hh))
 | .attr a f,x=>oM x λy n _=>gH tX f n&&(aF sc nm a y&&kO y)
 | .call f es,x=>kz x λy args ks _=>eU ks (eR y λn _=>gH kZ f n&&(d6 sc n&&cE sc nm es args))
 | .own a m es,x=>kz x λy args ks p=>eU ks (oM y λo n ap=>gH CB m n&&(aF sc nm a o&&(cE sc nm es args&&(kO o&&(ap.endLine==p.line&&decide (args.length+1<30))))))
 | .bt b a es,x=>kz x λy args ks p=>eU ks (oM y λo n ap=>n==Str.ofString b.name&&(aF sc nm a o&&(cE sc nm es args&&(kO o&&(ap.endLine==p.line&&decide (args.length+1<30))))))
 | .km a c d,x=>kz x λy args ks p=>eU ks (oM y λo n ap=>n==Str.ofString "replace"&&(aF sc nm a o&&(kO o&&(ap.endLine==p.line&&(decide (c≠d)&&PG c d args)))))
 | .new c es,x=>kz x λy args ks _=>eU ks (eR y λn _=>n==Str.ofString (uP c)&&(d6 sc n&&cE sc nm es args))
 | .bi b es,x=>kz x λy args ks _=>eU ks (eR y λn _=>n==Str.ofString (pv b)&&(d6 sc n&&cE sc nm es args))
 | .comp bc caps it,x=>um x λpe gs aG _=>fT gs λg=>eR g.target λy _=>eU g.ifs (g.is_async==0&&(aF sc nm it g.iter&&(mf sc nm aG y caps&&aF (hV aG) (y::freeNames aG) bc pe)))
 | .iS bc caps n,x=>um x λpe gs aG _=>fT gs λg=>eR g.target λy _=>eU g.ifs (g.is_async==0&&kz g.iter λrg ps ks _=>fT ps λpn=>eU ks (eR rg λr _=>r==Str.ofString "range"&&
      (d6 sc r&&(aF sc nm n pn&&(mf sc nm aG y caps&&aF (hV aG) (y::freeNames aG) bc pe)))))
noncomputable def cE (sc:Scope) (nm:List Str):Es→List PySem.Expr→Bool
 | .nil,xs=>eU xs true
 | .cons e es,xs=>match xs with
  |[]=>false
  |x::xs=>aF sc nm e x&&cE sc nm es xs
end
noncomputable def oL (sc:Scope) (nm:List Str):List Nat→List PySem.Expr→Bool
 |[],xs=>eU xs true
 |i::is,xs=>match xs with
  |[]=>false
  |x::r=>(eR x λy _=>dR sc nm i y)&&oL sc nm is r
noncomputable def Av (v:PySem.Expr):Bool:=if h:v.ctorIdx=25 then PySem.Expr.Tuple.elim v h (λvs _ _=>vs.all (foldedForSure 8)) else true
noncomputable def AE (v:Str) (a:String) (x:PySem.Expr):Bool:=oM x λy n _=>n==Str.ofString a&&eR y λz _=>z==v
noncomputable def Ei (v:Str) (x:PySem.Expr):Bool:=uX x λts _ _=>Ez ts λa b=>AE v "kind" a&&AE v "at" b
noncomputable def yI (sc:Scope) (nm:List Str) (w:Nat) (aQ:List Nat) (v:Str) (x:PySem.Expr):Bool:=nY x λy k _=>qR k aQ&&eR y λn _=>iP sc nm w n&&n !=v
noncomputable def Ca (sc:Scope) (nm:List Str) (w:Nat) (aQ:List Nat) (v:Str) (x:PySem.Expr):Bool:=w7 x λl os rs _=>fT os λo=>fT rs λr=>o== .Eq&&(Ei v l&&yI sc nm w aQ v r)
noncomputable def qF (sc:Scope) (nm:List Str) (w:Nat) (aQ:List Nat) (v:Str) (l:List PySem.Stmt):Bool:=fT l λst=>tu st λe _=>iH e (Ca sc nm w aQ v)
noncomputable def yA (sc:Scope) (nm:List Str) (i w:Nat) (aQ:List Nat) (h:ExceptHandler):Bool:=match h with
 | .ExceptHandler ty v body _=>iH ty λty=>eR ty λn _=>n==Str.ofString "SourceError"&&(d6 sc n&&iH v λv=>dR sc nm i v&&(v !=Str.ofString "__debug__"&&qF sc nm w aQ v body))
mutual
noncomputable def fp (sc:Scope) (nm:List Str):S→PySem.Stmt→Bool
 | .expr e,st=>Bu st λx _=>aF sc nm e x&&kG x
 | .aA i e,st=>pg st λts x _=>fT ts λt=>eR t λn _=>dR sc nm i n&&(aF sc nm e x&&kG x)
 | .lZ i e,st=>pg st λts x _=>fT ts λt=>eR t λn q=>(e.ctorIdx==25||e.ctorIdx==26)&&(dR sc nm i n&&(aF sc nm e x&&um x λ_ _ c p=>q.line==p.line&& !(c.names.any λy=>y.1==n&&(y.2== .local||y.2== .cell))))
 | .setAttr o f e,st=>pg st λts v _=>fT ts λt=>oM t λx n _=>gH tX f n&&(aF sc nm o x&&(aF sc nm e v&&kG v))
 | .eQ o i e,st=>pg st λts v _=>fT ts λt=>nY t λx j _=>aF sc nm o x&&(aF sc nm i j&&(lg j&&(aF sc nm e v&&kG v)))
 | .unpack is e,st=>pg st λts v _=>fT ts λt=>uX t λts _ _=>oL sc nm is ts&&(aF sc nm e v&&(kG v&&(Av v&&decide is.Nodup)))
 | .gJ i op e,st=>yg st λt o v _=>eR t λn _=>o==jQ op&&(dR sc nm i n&&aF sc nm e v)
 | .g9 x i op e,st=>yg st λt o v _=>nY t λpx pi _=>o==jQ op&&(aF sc nm x px&&(aF sc nm i pi&&(lg pi&&aF sc nm e v)))
 | .ret e,st=>tu st λo _=>iH o λx=>aF sc nm e x
 | .lI,st=>tu st λo _=>xM o true
 | .ite c a b,st=>Bh st λt x y _=>aF sc nm c t&&(ez sc nm a x&&ez sc nm b y)
 | .dF c b,st=>yU st λt x eG _=>eU eG (aF sc nm c t&&ez sc nm b x)
 | .forL i e b,st=>ya st λt it x eG _=>eU eG (eR t λn _=>dR sc nm i n&&(aF sc nm e it&&ez sc nm b x))
 | .forR i e b,st=>ya st λt it x eG _=>eU eG (eR t λn _=>kz it λrg ps ks _=>fT ps λpn=>eU ks (eR rg λr _=>r==Str.ofString "range"&&(dR sc nm i n&&(d6 sc r&&(aF sc nm e pn&&ez sc nm b x)))))
 | .raise es,st=>Cb st λex c _=>xM c (iH ex λx=>kz x λf args ks _=>eU ks (eR f λn _=>n==Str.ofString "SourceError"&&(d6 sc n&&cE sc nm es args)))
 | .j9 b i w aQ,st=>CF st λx hs eG fin _=>eU eG (eU fin (fT hs (yA sc nm i w aQ)&&ez sc nm b x))
 | .brk,st=>Ey st λ_=>true
 | .lJ o i,st=>zY st λts _=>fT ts λt=>nY t λx j _=>aF sc nm o x&&(aF sc nm i j&&lg j)
noncomputable def ez (sc:Scope) (nm:List Str):Ss→List PySem.Stmt→Bool
 | .nil,xs=>eU xs true
 | .cons s ss,xs=>match xs with
  |[]=>false
  |x::xs=>fp sc nm s x&&ez sc nm ss xs
end
section
variable {sc:Scope} {nm:List Str} {P:PySem.Expr→Prop} {Ps:List PySem.Expr→Prop} {x:PySem.Expr} {xs:List PySem.Expr} {a b c e:E} {es:Es}
theorem HJ {α:Type} {P:List α→Prop} {f:α→α→Bool} {l:List α} (h:Ez l f=true) (k:∀a b,f a b=true→P [a,b]):P l:=match l,h with
 |a::r,h=>gW (P:=λr=>P (a::r)) (l:=r) h (k a)
theorem sT {l:List Nat} (h:qR x l=true) (k:∀q p,P (.Constant (.str ⟨l.toArray⟩) q p)):P x:=
 wW h λc q p h=>YF (P:=λc=>P (.Constant c q p)) h λy h=>fk (P:=λl=>P (.Constant (.str y) q p)) h (by
  obtain ⟨y⟩:=y
  have e:y.toList=l:=eq_of_beq h
  subst e;exact k q p)
theorem Bs (h:aF sc nm .none x=true) (k:∀q p,P (.Constant .none q p)):P x:=
 wW h λc q p h=>Const.none.elim (motive:=λc=>P (.Constant c q p)) c (eq_of_beq h) (k q p)
theorem DD {b:Bool} (h:aF sc nm (.bool b) x=true) (k:∀q p,P (.Constant (.bool b) q p)):P x:=
 wW h λc q p h=>S7 (P:=λc=>P (.Constant c q p)) h λd h=>fk (P:=λd=>P (.Constant (.bool d) q p)) h (k q p)
theorem DB {i:Int} (h:aF sc nm (.int i) x=true) (k:∀q p,P (.Constant (.int i) q p)):P x:=
 wW h λc q p h=>aal (P:=λc=>P (.Constant c q p)) h λd h=>fk (P:=λd=>P (.Constant (.int d) q p)) h (k q p)
theorem DW {l:List Nat} (h:aF sc nm (.str l) x=true) (k:∀q p,l.length≤1000→P (.Constant (.str ⟨l.toArray⟩) q p)):P x:=
 aN h λh1 h2=>sT h1 λq p=>k q p (adn h2)
theorem zq {i:Nat} (h:aF sc nm (.loc i) x=true) (k:∀y p,iP sc nm i y=true→P (.Name y p)):P x:=iN h k
theorem CP {i:Nat} (h:aF sc nm (.jZ i) x=true) (k:∀y p,gH Ag i y=true→d6 sc y=true→P (.Name y p)):P x:=
 iN h λy p h=>aN h (k y p)
theorem AF {op:BinOp} (h:aF sc nm (.bin op a b) x=true) (k:∀l r p,aF sc nm a l=true→aF sc nm b r=true→P (.BinOp l (jQ op) r p)):P x:=
 YY h λl o r p h=>aN h λh1 h=>aN h λh2 h3=>fk (P:=λo=>P (.BinOp l o r p)) h1 (k l r p h2 h3)
theorem CG {op:mT} (h:aF sc nm (.cmp op a b) x=true) (k:∀l r p,behindInMarks (fW op) r=false→aF sc nm a l=true→aF sc nm b r=true→P (.Compare l [fW op] [r] p)):P x:=
 K1 h λl os rs p h=>gW (P:=λos=>P (.Compare l os rs p)) h λo h=>gW (P:=λrs=>P (.Compare l [o] rs p)) h λr h=>aN h λh1 h=>
  fk (P:=λo=>(!behindInMarks o r&&(aF sc nm a l&&aF sc nm b r))=true→P (.Compare l [o] [r] p)) h1 (λh=>aN h λh2 h=>aN h (k l r p (Bool.not_eq_true' _▸h2))) h
theorem Eu (h:aF sc nm (.and es) x=true) (k:∀vs p,cE sc nm es vs=true→P (.BoolOp .And vs p)):P x:=
 Ia h λo vs p h=>aN h λh1 h2=>fk (P:=λo=>P (.BoolOp o vs p)) h1 (k vs p h2)
theorem DU (h:aF sc nm (.or es) x=true) (k:∀vs p,cE sc nm es vs=true→P (.BoolOp .Or vs p)):P x:=
 Ia h λo vs p h=>aN h λh1 h2=>fk (P:=λo=>P (.BoolOp o vs p)) h1 (k vs p h2)
theorem Du (h:aF sc nm (.not a) x=true) (k:∀y p,aF sc nm a y=true→P (.UnaryOp .Not y p)):P x:=
 H7 h λo y p h=>aN h λh1 h2=>fk (P:=λo=>P (.UnaryOp o y p)) h1 (k y p h2)
theorem Ab (h:aF sc nm (.neg a) x=true) (k:∀y p,aF sc nm a y=true→P (.UnaryOp .USub y p)):P x:=
 H7 h λo y p h=>aN h λh1 h2=>fk (P:=λo=>P (.UnaryOp o y p)) h1 (k y p h2)
theorem C3 (h:aF sc nm (.ite c a b) x=true) (k:∀t y z p,aF sc nm c t=true→aF sc nm a y=true→aF sc nm b z=true→P (.IfExp t y z p)):P x:=
 OG h λt y z p h=>aN h λh1 h=>aN h (k t y z p h1)
theorem zR (h:aF sc nm (.tup es) x=true) (k:∀vs q p,vs.length≤1000→cE sc nm es vs=true→P (.Tuple vs q p)):P x:=
 C6 h λvs q p h=>aN h λh1=>k vs q p (adn h1)
theorem Ah (h:aF sc nm (.list es) x=true) (k:∀vs p,vs.length≤1000→cE sc nm es vs=true→P (.List vs p)):P x:=
 ON h λvs p h=>aN h λh1=>k vs p (adn h1)
theorem C7 {ks:List (List Nat)} (h:aF sc nm (.dict ks es) x=true) (k:∀cw vs p,rF ks cw=true→cE sc nm es vs=true→vs.length≤15→cw.length=vs.length→P (.Dict cw vs p)):P x:=
 Tg h λcw vs p h=>aN h λh1 h=>aN h λh2 h=>aN h λh3 h4=>k cw vs p h1 h2 (adn h3) (eq_of_beq h4)
theorem BQ (h:aF sc nm (.idx a b) x=true) (k:∀y j p,aF sc nm a y=true→aF sc nm b j=true→lg j=true→P (.Subscript y j p)):P x:=
 qY h λy j p h=>aN h λh1 h=>aN h (k y j p h1)
theorem Co {hl hh:Bool} (h:aF sc nm (.slice a b c hl hh) x=true) (k:∀y l u q p,aF sc nm a y=true→uZ (aF sc nm b) (qw b) l hl=true→uZ (aF sc nm c) (qw c) u hh=true→P (.Subscript y (.Slice l u Option.none q) p)):P x:=
 qY h λy j p h=>Vb (P:=λj=>P (.Subscript y j p)) h λl u s q h=>El (P:=λs=>P (.Subscript y (.Slice l u s q) p)) h λh=>aN h λh1 h=>aN h (k y l u q p h1)
theorem Bg {f:Nat} (h:aF sc nm (.attr a f) x=true) (k:∀y n p,gH tX f n=true→aF sc nm a y=true→kO y=true→P (.Attribute y n p)):P x:=
 sf h λy n p h=>aN h λh1 h=>aN h (k y n p h1)
theorem Ea {f:Nat} (h:aF sc nm (.call f es) x=true) (k:∀y q args p,gH kZ f y=true→d6 sc y=true→cE sc nm es args=true→P (.Call (.Name y q) args [] p)):P x:=
 mQ h λy args ks p h=>fR (P:=λks=>P (.Call y args ks p)) h λh=>iN (P:=λy=>P (.Call y args [] p)) h λn q h=>aN h λh1 h=>aN h (k n q args p h1)
theorem t7 {n m:Str} {A:PySem.Expr→List Keyword→Prop} {y:PySem.Expr} {ks:List Keyword} {B:Str→Bool} (h:eU ks (eR y λn _=>n==m&&B n)=true) (k:∀q,B m=true→A (.Name m q) []):A y ks:=
 fR (P:=λks=>A y ks) h λh=>iN (P:=λy=>A y []) h λn q h=>aN h λh1 h=>fk (P:=λn=>B n=true→A (.Name n q) []) h1 (k q) h
theorem Bk {c:cj} (h:aF sc nm (.new c es) x=true) (k:∀q args p,d6 sc (Str.ofString (uP c))=true→cE sc nm es args=true→P (.Call (.Name (Str.ofString (uP c)) q) args [] p)):P x:=
 mQ h λy args ks p h=>t7 (n:=default) (A:=λy ks=>P (.Call y args ks p)) (B:=λn=>d6 sc n&&cE sc nm es args) h λq h=>aN h (k q args p)
theorem Eh {c:Bi} (h:aF sc nm (.bi c es) x=true) (k:∀q args p,d6 sc (Str.ofString (pv c))=true→cE sc nm es args=true→P (.Call (.Name (Str.ofString (pv c)) q) args [] p)):P x:=
 mQ h λy args ks p h=>t7 (n:=default) (A:=λy ks=>P (.Call y args ks p)) (B:=λn=>d6 sc n&&cE sc nm es args) h λq h=>aN h (k q args p)
theorem A1 {m:Nat} (h:aF sc nm (.own a m es) x=true) (k:∀y n ap args p,gH CB m n=true→aF sc nm a y=true→cE sc nm es args=true→kO y=true→(ap.endLine==p.line)=true→args.length+1<30→P (.Call (.Attribute y n ap) args [] p)):P x:=
 mQ h λy args ks p h=>fR (P:=λks=>P (.Call y args ks p)) h λh=>sf (P:=λy=>P (.Call y args [] p)) h λo n ap h=>aN h λh1 h=>aN h λh2 h=>aN h λh3 h=>aN h λh4 h=>aN h λh5 h6=>
  k o n ap args p h1 h2 h3 h4 h5 (adn h6)
theorem Dq {m:Bm} (h:aF sc nm (.bt m a es) x=true) (k:∀y ap args p,aF sc nm a y=true→cE sc nm es args=true→kO y=true→(ap.endLine==p.line)=true→args.length+1<30→P (.Call (.Attribute y (Str.ofString m.name) ap) args [] p)):P x:=
 mQ h λy args ks p h=>fR (P:=λks=>P (.Call y args ks p)) h λh=>sf (P:=λy=>P (.Call y args [] p)) h λo n ap h=>aN h λh1 h=>fk (P:=λn=>P (.Call (.Attribute o n ap) args [] p)) h1
    (aN h λh2 h=>aN h λh3 h=>aN h λh4 h=>aN h λh5 h6=>k o ap args p h2 h3 h4 h5 (adn h6))
theorem zT {c d:Nat} (h:aF sc nm (.km a c d) x=true) (k:∀y ap k1 p1 k2 p2 p,aF sc nm a y=true→kO y=true→(ap.endLine==p.line)=true→c≠d→P (.Call (.Attribute y (Str.ofString "replace") ap) [.Constant (.str ⟨#[c]⟩) k1 p1,.Constant (.str ⟨#[d]⟩) k2 p2] [] p)):P x:=
 mQ h λy args ks p h=>fR (P:=λks=>P (.Call y args ks p)) h λh=>sf (P:=λy=>P (.Call y args [] p)) h λo n ap h=>aN h λh1 h=>fk (P:=λn=>P (.Call (.Attribute o n ap) args [] p)) h1
    (aN h λh2 h=>aN h λh3 h=>aN h λh4 h=>aN h λh5 h=>HJ (P:=λargs=>P (.Call (.Attribute o _ ap) args [] p)) h λy z h=>aN h λh6 h7=>
   sT (P:=λy=>P (.Call (.Attribute o _ ap) [y,z] [] p)) h6 λk1 p1=>sT (P:=λz=>P (.Call (.Attribute o _ ap) [_,z] [] p)) h7 λk2 p2=>k o ap k1 p1 k2 p2 p h2 h3 h4 (adn h5))
theorem CC {i:Nat} {is:List Nat} (h:oL sc nm (i::is) xs=true) (k:∀y q r,dR sc nm i y=true→oL sc nm is r=true→Ps (.Name y q::r)):Ps xs:=match xs,h with
 |x::r,h=>aN h λh1 h2=>iN (P:=λx=>Ps (x::r)) h1 λy q h1=>k y q r h1 h2
theorem abW {i:Int} {P:Int→Prop} (h:(i==0)=true) (k:P 0):P i:=fk h k
theorem wV {caps:List Nat} (h:aF sc nm (.comp e caps b) x=true) (k:∀pe y q cI aG p,aF sc nm b cI=true→mf sc nm aG y caps=true→aF (hV aG) (y::freeNames aG) e pe=true→P (.ListComp pe [⟨.Name y q,cI,[],0⟩] aG p)):P x:=
 Dk h λpe gs aG p h=>gW (P:=λgs=>P (.ListComp pe gs aG p)) h λg h=>match g,h with
  |⟨t,it,ifs,kA⟩,h=>iN (P:=λt=>P (.ListComp pe [⟨t,it,ifs,kA⟩] aG p)) (x:=t) h λy q h=>fR (P:=λifs=>P (.ListComp pe [⟨.Name y q,it,ifs,kA⟩] aG p)) (l:=ifs) h λh=>aN h λh1 h=>
   fk (P:=λkA=>P (.ListComp pe [⟨.Name y q,it,[],kA⟩] aG p)) (a:=kA) h1 (aN h λh2 h=>aN h (k pe y q it aG p h2))
theorem wo {caps:List Nat} (h:aF sc nm (.iS e caps b) x=true) (k:∀pe y q pr pn pc aG p,d6 sc (Str.ofString "range")=true→aF sc nm b pn=true→mf sc nm aG y caps=true→aF (hV aG) (y::freeNames aG) e pe=true→
  P (.ListComp pe [⟨.Name y q,.Call (.Name (Str.ofString "range") pr) [pn] [] pc,[],0⟩] aG p)):P x:=
 Dk h λpe gs aG p h=>gW (P:=λgs=>P (.ListComp pe gs aG p)) h λg h=>match g,h with
  |⟨t,it,ifs,kA⟩,h=>iN (P:=λt=>P (.ListComp pe [⟨t,it,ifs,kA⟩] aG p)) (x:=t) h λy q h=>fR (P:=λifs=>P (.ListComp pe [⟨.Name y q,it,ifs,kA⟩] aG p)) (l:=ifs) h λh=>aN h λh1 h=>
   fk (P:=λkA=>P (.ListComp pe [⟨.Name y q,it,[],kA⟩] aG p)) (a:=kA) h1 (mQ (P:=λit=>P (.ListComp pe [⟨.Name y q,it,[],0⟩] aG p)) (x:=it) h λrg ps ks pc h=>
    gW (P:=λps=>P (.ListComp pe [⟨.Name y q,.Call rg ps ks pc,[],0⟩] aG p)) h λpn h=>t7 (n:=default) (A:=λrg ks=>P (.ListComp pe [⟨.Name y q,.Call rg [pn] ks pc,[],0⟩] aG p))
          (B:=λr=>d6 sc r&&(aF sc nm b pn&&(mf sc nm aG y caps&&aF (hV aG) (y::freeNames aG) e pe))) h λpr h=>aN h λh2 h=>aN h λh3 h=>aN h (k pe y q pr pn pc aG p h2 h3))
theorem sI (h:cE sc nm .nil xs=true):xs=[]:=fR (P:=λxs=>xs=[]) h λ_=>rfl
theorem qb (h:cE sc nm (.cons e es) xs=true) (k:∀y ys,aF sc nm e y=true→cE sc nm es ys=true→Ps (y::ys)):Ps xs:=match xs,h with
 |y::ys,h=>aN h (k y ys)
end
section
variable {sc:Scope} {nm:List Str} {P:PySem.Stmt→Prop} {Ps:List PySem.Stmt→Prop} {x:PySem.Stmt} {xs:List PySem.Stmt} {a b c e o i:E} {es:Es} {s:S} {ss s1 s2:Ss} {j:Nat}
theorem Tz (h:fp sc nm (.expr e) x=true) (k:∀y p,aF sc nm e y=true→kG y=true→P (.Expr y p)):P x:=Vt h λy p h=>aN h (k y p)
theorem HE {ts:List PySem.Expr} {Q:List PySem.Expr→Prop} {f:Str→Pos→Bool} (h:(fT ts λt=>eR t f)=true) (k:∀n q,f n q=true→Q [.Name n q]):Q ts:=
 gW h λt h=>iN (P:=λt=>Q [t]) h k
theorem Y1 (h:fp sc nm (.aA j e) x=true) (k:∀n q y p,dR sc nm j n=true→aF sc nm e y=true→kG y=true→P (.Assign [.Name n q] y p)):P x:=
 uq h λts y p h=>HE (Q:=λts=>P (.Assign ts y p)) h λn q h=>aN h λh1 h=>aN h (k n q y p h1)
theorem Tq {P:E→Prop} {e:E} (h:(e.ctorIdx==25||e.ctorIdx==26)=true) (k1:∀a b c,P (.comp a b c)) (k2:∀a b c,P (.iS a b c)):P e:=
 if h1:e.ctorIdx=25 then E.comp.elim e h1 k1 else if h2:e.ctorIdx=26 then E.iS.elim e h2 k2 else absurd h (by
  rw [beq_eq_false_iff_ne.mpr h1,beq_eq_false_iff_ne.mpr h2];exact Bool.false_ne_true)
theorem PK (h:fp sc nm (.lZ j e) x=true) (k:∀n q a b c p r,(e.ctorIdx==25||e.ctorIdx==26)=true→dR sc nm j n=true→aF sc nm e (.ListComp a b c p)=true→q.line=p.line→(c.names.any λy=>y.1==n&&(y.2== .local||y.2== .cell))=false→P (.Assign [.Name n q] (.ListComp a b c p) r)):P x:=
 uq h λts y r h=>HE (Q:=λts=>P (.Assign ts y r)) h λn q h=>aN h λh0 h=>aN h λh1 h=>aN h λh2 h=>Dk (P:=λy=>aF sc nm e y=true→P (.Assign [.Name n q] y r)) h (λa b c p h h2=>aN h λh3 h4=>k n q a b c p r h0 h1 h2 (eq_of_beq h3) (Bool.not_eq_true' _▸h4)) h2
theorem Q3 {f:Nat} (h:fp sc nm (.setAttr o f e) x=true) (k:∀y n q v p,gH tX f n=true→aF sc nm o y=true→aF sc nm e v=true→kG v=true→P (.Assign [.Attribute y n q] v p)):P x:=
 uq h λts v p h=>gW (P:=λts=>P (.Assign ts v p)) h λt h=>sf (P:=λt=>P (.Assign [t] v p)) h λy n q h=>aN h λh1 h=>aN h λh2 h=>aN h (k y n q v p h1 h2)
theorem SW (h:fp sc nm (.eQ o i e) x=true) (k:∀y j q v p,aF sc nm o y=true→aF sc nm i j=true→lg j=true→aF sc nm e v=true→kG v=true→P (.Assign [.Subscript y j q] v p)):P x:=
 uq h λts v p h=>gW (P:=λts=>P (.Assign ts v p)) h λt h=>qY (P:=λt=>P (.Assign [t] v p)) h λy j q h=>aN h λh1 h=>aN h λh2 h=>aN h λh3 h=>aN h (k y j q v p h1 h2 h3)
theorem UW {is:List Nat} (h:fp sc nm (.unpack is e) x=true) (k:∀ts k q v p,oL sc nm is ts=true→aF sc nm e v=true→kG v=true→Av v=true→is.Nodup→P (.Assign [.Tuple ts k q] v p)):P x:=
 uq h λts v p h=>gW (P:=λts=>P (.Assign ts v p)) h λt h=>C6 (P:=λt=>P (.Assign [t] v p)) h λts m q h=>aN h λh1 h=>aN h λh2 h=>aN h λh3 h=>aN h λh4 h5=>k ts m q v p h1 h2 h3 h4 (adn h5)
theorem ZN {op:BinOp} (h:fp sc nm (.gJ j op e) x=true) (k:∀n q v p,dR sc nm j n=true→aF sc nm e v=true→P (.AugAssign (.Name n q) (jQ op) v p)):P x:=
 JT h λt o v p h=>iN (P:=λt=>P (.AugAssign t o v p)) h λn q h=>aN h λh1 h=>fk (P:=λo=>P (.AugAssign (.Name n q) o v p)) h1 (aN h (k n q v p))
theorem Rn {op:BinOp} (h:fp sc nm (.g9 o i op e) x=true) (k:∀y j q v p,aF sc nm o y=true→aF sc nm i j=true→lg j=true→aF sc nm e v=true→P (.AugAssign (.Subscript y j q) (jQ op) v p)):P x:=
 JT h λt o v p h=>qY (P:=λt=>P (.AugAssign t o v p)) h λy j q h=>aN h λh1 h=>fk (P:=λo=>P (.AugAssign (.Subscript y j q) o v p)) h1 (aN h λh2 h=>aN h λh3 h=>aN h (k y j q v p h2 h3))
theorem Oc (h:fp sc nm (.ret e) x=true) (k:∀y p,aF sc nm e y=true→P (.Return (some y) p)):P x:=
 Cm h λo p h=>o9 (P:=λo=>P (.Return o p)) h λy h=>k y p h
theorem Sg (h:fp sc nm .lI x=true) (k:∀p,P (.Return Option.none p)):P x:=Cm h λo p h=>El (P:=λo=>P (.Return o p)) h λ_=>k p
theorem NO (h:fp sc nm (.ite c s1 s2) x=true) (k:∀t y z p,aF sc nm c t=true→ez sc nm s1 y=true→ez sc nm s2 z=true→P (.If t y z p)):P x:=
 QT h λt y z p h=>aN h λh1 h=>aN h (k t y z p h1)
theorem abc (h:fp sc nm (.dF c ss) x=true) (k:∀t y p,aF sc nm c t=true→ez sc nm ss y=true→P (.While t y [] p)):P x:=
 PM h λt y eG p h=>fR (P:=λeG=>P (.While t y eG p)) h λh=>aN h (k t y p)
theorem OA (h:fp sc nm (.forL j e ss) x=true) (k:∀n q it y p,dR sc nm j n=true→aF sc nm e it=true→ez sc nm ss y=true→P (.For (.Name n q) it y [] p)):P x:=
 L7 h λt it y eG p h=>fR (P:=λeG=>P (.For t it y eG p)) h λh=>iN (P:=λt=>P (.For t it y [] p)) h λn q h=>aN h λh1 h=>aN h (k n q it y p h1)
theorem aaw (h:fp sc nm (.forR j e ss) x=true) (k:∀n q pr pn pc y p,dR sc nm j n=true→d6 sc (Str.ofString "range")=true→aF sc nm e pn=true→ez sc nm ss y=true→P (.For (.Name n q) (.Call (.Name (Str.ofString "range") pr) [pn] [] pc) y [] p)):P x:=
 L7 h λt it y eG p h=>fR (P:=λeG=>P (.For t it y eG p)) h λh=>iN (P:=λt=>P (.For t it y [] p)) h λn q h=>mQ (P:=λit=>P (.For (.Name n q) it y [] p)) h λrg ps ks pc h=>
  gW (P:=λps=>P (.For (.Name n q) (.Call rg ps ks pc) y [] p)) h λpn h=>t7 (n:=default) (A:=λrg ks=>P (.For (.Name n q) (.Call rg [pn] ks pc) y [] p)) (B:=λr=>dR sc nm j n&&(d6 sc r&&(aF sc nm e pn&&ez sc nm ss y))) h
      λpr h=>aN h λh1 h=>aN h λh2 h=>aN h (k n q pr pn pc y p h1 h2)
theorem Z1 (h:fp sc nm (.raise es) x=true) (k:∀q args pc p,d6 sc (Str.ofString "SourceError")=true→cE sc nm es args=true→P (.Raise (some (.Call (.Name (Str.ofString "SourceError") q) args [] pc)) Option.none p)):P x:=
 Yl h λex c p h=>El (P:=λc=>P (.Raise ex c p)) h λh=>o9 (P:=λex=>P (.Raise ex Option.none p)) h λy h=>mQ (P:=λy=>P (.Raise (some y) Option.none p)) h λf args ks pc h=>
  t7 (n:=default) (A:=λf ks=>P (.Raise (some (.Call f args ks pc)) Option.none p)) (B:=λn=>d6 sc n&&cE sc nm es args) h λq h=>aN h (k q args pc p)
theorem Hx {P:PySem.Expr→Prop} {v:Str} {a:String} {x:PySem.Expr} (h:AE v a x=true) (k:∀p q,P (.Attribute (.Name v p) (Str.ofString a) q)):P x:=
 sf h λy n q h=>aN h λh1 h=>fk (P:=λn=>P (.Attribute y n q)) h1 (iN (P:=λy=>P (.Attribute y (Str.ofString a) q)) h λz p h=>fk (P:=λz=>P (.Attribute (.Name z p) (Str.ofString a) q)) h (k p q))
theorem Pw {P:PySem.Expr→Prop} {v:Str} {x:PySem.Expr} (h:Ei v x=true) (k:∀p1 p2 p3 p4 q p,P (.Tuple [.Attribute (.Name v p1) (Str.ofString "kind") p2,.Attribute (.Name v p3) (Str.ofString "at") p4] q p)):P x:=
 C6 h λts q p h=>HJ (P:=λts=>P (.Tuple ts q p)) h λa b h=>aN h λh1 h2=>Hx (P:=λa=>P (.Tuple [a,b] q p)) h1 λp1 p2=>Hx (P:=λb=>P (.Tuple [_,b] q p)) h2 λp3 p4=>k p1 p2 p3 p4 q p
theorem Vn {P:PySem.Expr→Prop} {w:Nat} {aQ:List Nat} {v:Str} {x:PySem.Expr} (h:yI sc nm w aQ v x=true) (k:∀n p1 q p2 p3,iP sc nm w n=true→n≠v→P (.Subscript (.Name n p1) (.Constant (.str ⟨aQ.toArray⟩) q p2) p3)):P x:=
 qY h λy z p3 h=>aN h λh1 h=>sT (P:=λz=>P (.Subscript y z p3)) h1 λq p2=>iN (P:=λy=>P (.Subscript y _ p3)) h λn p1 h=>aN h λh1 h2=>k n p1 q p2 p3 h1 (bne_iff_ne.1 h2)
theorem Y2 {P:PySem.Expr→Prop} {w:Nat} {aQ:List Nat} {v:Str} {x:PySem.Expr} (h:Ca sc nm w aQ v x=true) (k:∀l r p,Ei v l=true→yI sc nm w aQ v r=true→P (.Compare l [.Eq] [r] p)):P x:=
 K1 h λl os rs p h=>gW (P:=λos=>P (.Compare l os rs p)) h λo h=>gW (P:=λrs=>P (.Compare l [o] rs p)) h λr h=>aN h λh1 h=>fk (P:=λo=>P (.Compare l [o] [r] p)) h1 (aN h (k l r p))
theorem Ie {w:Nat} {aQ:List Nat} {v:Str} {l:List PySem.Stmt} (h:qF sc nm w aQ v l=true) (k:∀x p,Ca sc nm w aQ v x=true→Ps [.Return (some x) p]):Ps l:=
 gW h λst h=>Cm (P:=λst=>Ps [st]) h λo p h=>o9 (P:=λo=>Ps [.Return o p]) h λx h=>k x p h
theorem aaM {w:Nat} {aQ:List Nat} {H:ExceptHandler→Prop} {hd:ExceptHandler} (h:yA sc nm j w aQ hd=true)
    (k:∀q v body p,d6 sc (Str.ofString "SourceError")=true→dR sc nm j v=true→v≠Str.ofString "__debug__"→qF sc nm w aQ v body=true→H (.ExceptHandler (some (.Name (Str.ofString "SourceError") q)) (some v) body p)):H hd:=match hd,h with
 | .ExceptHandler ty v body p,h=>o9 (P:=λty=>H (.ExceptHandler ty v body p)) (o:=ty) h λty h=>iN (P:=λty=>H (.ExceptHandler (some ty) v body p)) (x:=ty) h λn q h=>aN h λh1 h=>
  fk (P:=λn=>(d6 sc n&&iH v λv=>dR sc nm j v&&(v !=Str.ofString "__debug__"&&qF sc nm w aQ v body))=true→H (.ExceptHandler (some (.Name n q)) v body p)) h1
      (λh=>aN h λh2 h=>o9 (P:=λv=>H (.ExceptHandler _ v body p)) (o:=v) h λv h=>aN h λh3 h=>aN h λh4 h5=>k q v body p h2 h3 (bne_iff_ne.1 h4) h5) h
theorem SJ {w:Nat} {aQ:List Nat} (h:fp sc nm (.j9 ss j w aQ) x=true) (k:∀y hd p,yA sc nm j w aQ hd=true→ez sc nm ss y=true→P (.Try y [hd] [] [] p)):P x:=
 Sm h λy hs eG fin p h=>fR (P:=λeG=>P (.Try y hs eG fin p)) h λh=>fR (P:=λfin=>P (.Try y hs [] fin p)) h λh=>aN h λh1 h2=>gW (P:=λhs=>P (.Try y hs [] [] p)) h1 λhd h1=>k y hd p h1 h2
theorem aa2 (h:fp sc nm .brk x=true) (k:∀p,P (.Break p)):P x:=ZM h λp _=>k p
theorem U3 (h:fp sc nm (.lJ o i) x=true) (k:∀y j q p,aF sc nm o y=true→aF sc nm i j=true→lg j=true→P (.Delete [.Subscript y j q] p)):P x:=
 aaf h λts p h=>gW (P:=λts=>P (.Delete ts p)) h λt h=>qY (P:=λt=>P (.Delete [t] p)) h λy j q h=>aN h λh1 h=>aN h (k y j q p h1)
theorem YG (h:ez sc nm .nil xs=true):xs=[]:=fR (P:=λxs=>xs=[]) h λ_=>rfl
theorem yS (h:ez sc nm (.cons s ss) xs=true) (k:∀y ys,fp sc nm s y=true→ez sc nm ss ys=true→Ps (y::ys)):Ps xs:=match xs,h with
 |y::ys,h=>aN h (k y ys)
end
end Mine
namespace Mine
noncomputable def LK:Ss:=
 (.cons (.ite (.or (.cons (.cmp .eq (.loc 0) (.str [95])) (.cons (.cmp .eq (.loc 0) (.str [36])) (.cons (.and (.cons (.cmp .le (.str [48]) (.loc 0)) (.cons (.cmp .le (.loc 0) (.str [57])) .nil))) .nil))))
   (.cons (.ret (.bool true)) .nil) .nil)
 (.cons (.ret (.or (.cons (.and (.cons (.cmp .le (.str [97]) (.loc 0)) (.cons (.cmp .le (.loc 0) (.str [122])) .nil))) (.cons (.and (.cons (.cmp .le (.str [65]) (.loc 0)) (.cons (.cmp .le (.loc 0) (.str [90])) .nil))) .nil)))) .nil))
noncomputable def Wg:List String:=["char"]
noncomputable def Gn:Ss:=
 (.cons (.aA 2 (.slice (.loc 0) (.loc 1) (.bin .add (.loc 1) (.int 1)) true true))
 (.cons (.ite (.or (.cons (.cmp .eq (.loc 2) (.str [36])) (.cons (.and (.cons (.cmp .le (.str [48]) (.loc 2)) (.cons (.cmp .le (.loc 2) (.str [57])) .nil))) .nil)))
   (.cons (.ret (.loc 1)) .nil) .nil)
 (.cons (.aA 3 (.loc 1))
 (.cons (.dF (.call 0 (.cons (.slice (.loc 0) (.loc 3) (.bin .add (.loc 3) (.int 1)) true true) .nil))
   (.cons (.aA 3 (.bin .add (.loc 3) (.int 1))) .nil))
 (.cons (.ret (.loc 3)) .nil)))))
noncomputable def Yd:List String:=["text","at","first","end"]
noncomputable def UL:Ss:=
 (.cons (.aA 2 (.loc 1))
 (.cons (.dF (.and (.cons (.cmp .lt (.loc 2) (.bi .len (.cons (.loc 0) .nil))) (.cons (.cmp .ne (.idx (.loc 0) (.loc 2)) (.str [10])) .nil)))
   (.cons (.aA 2 (.bin .add (.loc 2) (.int 1))) .nil))
 (.cons (.ret (.loc 2)) .nil)))
noncomputable def Wz:List String:=["text","at","end"]
noncomputable def aaP:Ss:=
 (.cons (.aA 2 (.loc 1))
 (.cons (.dF (.and (.cons (.cmp .lt (.loc 2) (.bi .len (.cons (.loc 0) .nil))) (.cons (.cmp .isin (.idx (.loc 0) (.loc 2)) (.str [32,9,13])) .nil)))
   (.cons (.aA 2 (.bin .add (.loc 2) (.int 1))) .nil))
 (.cons (.ret (.loc 2)) .nil)))
noncomputable def WX:List String:=["text","at","end"]
noncomputable def N4:Ss:=
 (.cons (.aA 2 (.loc 1))
 (.cons (.dF (.and (.cons (.cmp .lt (.loc 2) (.bi .len (.cons (.loc 0) .nil))) (.cons (.cmp .isin (.idx (.loc 0) (.loc 2)) (.str [32,9,13,10,12,11])) .nil)))
   (.cons (.aA 2 (.bin .add (.loc 2) (.int 1))) .nil))
 (.cons (.ret (.loc 2)) .nil)))
noncomputable def Ua:List String:=["text","at","end"]
noncomputable def OU:Ss:=
 (.cons (.aA 2 (.bin .add (.loc 1) (.int 1)))
 (.cons (.dF (.and (.cons (.cmp .lt (.loc 2) (.bi .len (.cons (.loc 0) .nil))) (.cons (.cmp .ne (.idx (.loc 0) (.loc 2)) (.str [10])) .nil)))
   (.cons (.ite (.cmp .eq (.idx (.loc 0) (.loc 2)) (.str [34]))
    (.cons (.ret (.bin .add (.loc 2) (.int 1))) .nil) .nil)
   (.cons (.ite (.and (.cons (.cmp .eq (.idx (.loc 0) (.loc 2)) (.str [92])) (.cons (.cmp .iA (.slice (.loc 0) (.bin .add (.loc 2) (.int 1)) (.bin .add (.loc 2) (.int 2)) true true) (.tup (.cons (.str []) (.cons (.str [10]) .nil)))) .nil)))
    (.cons (.aA 2 (.bin .add (.loc 2) (.int 1))) .nil) .nil)
   (.cons (.aA 2 (.bin .add (.loc 2) (.int 1))) .nil))))
 (.cons (.ret (.loc 2)) .nil)))
noncomputable def Ph:List String:=["text","at","end"]
noncomputable def GB:Ss:=
 (.cons (.aA 2 (.slice (.loc 0) (.loc 1) (.bin .add (.loc 1) (.int 2)) true true))
 (.cons (.ite (.cmp .eq (.loc 2) (.str [47,47]))
   (.cons (.ret (.call 2 (.cons (.loc 0) (.cons (.loc 1) .nil)))) .nil) .nil)
 (.cons (.ite (.cmp .ne (.loc 2) (.str [47,42]))
   (.cons (.ret (.loc 1)) .nil) .nil)
 (.cons (.aA 3 (.bin .add (.loc 1) (.int 2)))
 (.cons (.dF (.and (.cons (.cmp .lt (.loc 3) (.bi .len (.cons (.loc 0) .nil))) (.cons (.cmp .ne (.slice (.loc 0) (.loc 3) (.bin .add (.loc 3) (.int 2)) true true) (.str [42,47])) .nil)))
   (.cons (.aA 3 (.bin .add (.loc 3) (.int 1))) .nil))
 (.cons (.ret (.bi .min (.cons (.bin .add (.loc 3) (.int 2)) (.cons (.bi .len (.cons (.loc 0) .nil)) .nil)))) .nil))))))
noncomputable def XM:List String:=["text","at","mark","end"]
noncomputable def Xu:Ss:=
 (.cons (.aA 2 (.loc 1))
 (.cons (.dF (.and (.cons (.cmp .lt (.loc 2) (.bi .len (.cons (.loc 0) .nil))) (.cons (.cmp .iA (.idx (.loc 0) (.loc 2)) (.str [32,9,13,10,12,11])) .nil)))
   (.cons (.aA 2 (.bin .add (.loc 2) (.int 1))) .nil))
 (.cons (.ret (.loc 2)) .nil)))
noncomputable def Od:List String:=["text","at","end"]
noncomputable def IG:Ss:=
 (.cons (.aA 2 (.idx (.loc 0) (.loc 1)))
 (.cons (.ite (.cmp .eq (.loc 2) (.str [34]))
   (.cons (.ret (.call 5 (.cons (.loc 0) (.cons (.loc 1) .nil)))) .nil) .nil)
 (.cons (.ite (.cmp .eq (.loc 2) (.str [92]))
   (.cons (.ret (.call 7 (.cons (.loc 0) (.cons (.loc 1) .nil)))) .nil) .nil)
 (.cons (.aA 3 (.loc 1))
 (.cons (.ite (.cmp .eq (.loc 2) (.str [39]))
   (.cons (.aA 3 (.bin .add (.loc 1) (.int 1))) .nil) .nil)
 (.cons (.dF (.call 0 (.cons (.slice (.loc 0) (.loc 3) (.bin .add (.loc 3) (.int 1)) true true) .nil))
   (.cons (.aA 3 (.bin .add (.loc 3) (.int 1))) .nil))
 (.cons (.ret (.bi .max (.cons (.loc 3) (.cons (.bin .add (.loc 1) (.int 1)) .nil)))) .nil)))))))
noncomputable def Ow:List String:=["text","at","char","end"]
noncomputable def ZI:Ss:=
 (.cons (.ret (.bt .count (.loc 0) (.cons (.str [10]) .nil))) .nil)
noncomputable def NU:List String:=["text"]
noncomputable def Te:Ss:=
 (.cons (.ite (.cmp .ne (.slice (.loc 0) (.loc 1) (.bin .add (.loc 1) (.int 1)) true true) (.str [40]))
   (.cons (.ret .none) .nil) .nil)
 (.cons (.aA 2 (.list .nil))
 (.cons (.aA 3 (.list .nil))
 (.cons (.aA 4 (.int 0))
 (.cons (.aA 5 (.bin .add (.loc 1) (.int 1)))
 (.cons (.dF (.cmp .lt (.loc 5) (.bi .len (.cons (.loc 0) .nil)))
   (.cons (.aA 6 (.idx (.loc 0) (.loc 5)))
   (.cons (.aA 7 (.call 6 (.cons (.loc 0) (.cons (.loc 5) .nil))))
   (.cons (.ite (.cmp .gt (.loc 7) (.loc 5))
    (.cons (.expr (.bt .append (.loc 3) (.cons (.str [32]) .nil))) .nil)
    (.cons (.ite (.and (.cons (.cmp .eq (.loc 4) (.int 0)) (.cons (.or (.cons (.cmp .eq (.loc 6) (.str [44])) (.cons (.cmp .eq (.loc 6) (.str [41])) .nil))) .nil)))
      (.cons (.expr (.bt .append (.loc 2) (.cons (.bt .strip (.bt .join (.str []) (.cons (.loc 3) .nil)) .nil) .nil)))
      (.cons (.aA 3 (.list .nil))
      (.cons (.aA 7 (.bin .add (.loc 5) (.int 1)))
      (.cons (.ite (.cmp .eq (.loc 6) (.str [41]))
       (.cons (.ret (.tup (.cons (.loc 2) (.cons (.loc 7) .nil)))) .nil) .nil) .nil))))
      (.cons (.aA 7 (.call 8 (.cons (.loc 0) (.cons (.loc 5) .nil))))
      (.cons (.ite (.cmp .isin (.loc 6) (.str [40,91,123]))
       (.cons (.aA 4 (.bin .add (.loc 4) (.int 1))) .nil)
       (.cons (.ite (.cmp .isin (.loc 6) (.str [41,93,125]))
         (.cons (.aA 4 (.bin .sub (.loc 4) (.int 1))) .nil) .nil) .nil))
      (.cons (.ite (.cmp .lt (.loc 4) (.int 0))
       (.cons (.ret .none) .nil) .nil)
      (.cons (.expr (.bt .append (.loc 3) (.cons (.km (.slice (.loc 0) (.loc 5) (.loc 7) true true) 10 32) .nil))) .nil))))) .nil))
   (.cons (.aA 5 (.loc 7)) .nil)))))
 (.cons (.ret .none) .nil)))))))
noncomputable def Ts:List String:=["text","at","arguments","pieces","depth","index","char","end"]
noncomputable def Ys:Ss:=
 (.cons (.aA 3 (.list .nil))
 (.cons (.aA 4 (.int 0))
 (.cons (.dF (.cmp .lt (.loc 4) (.bi .len (.cons (.loc 0) .nil)))
   (.cons (.aA 5 (.call 8 (.cons (.loc 0) (.cons (.loc 4) .nil))))
   (.cons (.aA 6 (.slice (.loc 0) (.loc 4) (.loc 5) true true))
   (.cons (.ite (.cmp .isin (.loc 6) (.loc 1))
    (.cons (.aA 6 (.idx (.loc 2) (.bt .index (.loc 1) (.cons (.loc 6) .nil)))) .nil) .nil)
   (.cons (.expr (.bt .append (.loc 3) (.cons (.loc 6) .nil)))
   (.cons (.aA 4 (.loc 5)) .nil))))))
 (.cons (.ret (.bt .join (.str []) (.cons (.loc 3) .nil))) .nil))))
noncomputable def WZ:List String:=["body","names","arguments","pieces","index","end","piece"]
noncomputable def YQ:Ss:=
 (.cons (.aA 2 (.list .nil))
 (.cons (.aA 3 (.loc 1))
 (.cons (.dF (.and (.cons (.cmp .lt (.loc 3) (.bi .len (.cons (.loc 0) .nil))) (.cons (.cmp .ne (.idx (.loc 0) (.loc 3)) (.str [10])) .nil)))
   (.cons (.aA 4 (.call 6 (.cons (.loc 0) (.cons (.loc 3) .nil))))
   (.cons (.ite (.cmp .gt (.loc 4) (.loc 3))
    (.cons (.expr (.bt .append (.loc 2) (.cons (.str [32]) .nil))) .nil)
    (.cons (.ite (.and (.cons (.cmp .eq (.idx (.loc 0) (.loc 3)) (.str [92])) (.cons (.cmp .eq (.slice (.loc 0) (.bin .add (.loc 3) (.int 1)) (.bin .add (.loc 3) (.int 2)) true true) (.str [10])) .nil)))
      (.cons (.expr (.bt .append (.loc 2) (.cons (.str [32]) .nil)))
      (.cons (.aA 4 (.bin .add (.loc 3) (.int 2))) .nil))
      (.cons (.ite (.cmp .eq (.slice (.loc 0) (.loc 3) (.bin .add (.loc 3) (.int 3)) true true) (.str [92,13,10]))
       (.cons (.expr (.bt .append (.loc 2) (.cons (.str [32]) .nil)))
       (.cons (.aA 4 (.bin .add (.loc 3) (.int 3))) .nil))
       (.cons (.aA 4 (.call 8 (.cons (.loc 0) (.cons (.loc 3) .nil))))
       (.cons (.expr (.bt .append (.loc 2) (.cons (.slice (.loc 0) (.loc 3) (.loc 4) true true) .nil))) .nil))) .nil)) .nil))
   (.cons (.aA 3 (.loc 4)) .nil))))
 (.cons (.ret (.tup (.cons (.bt .strip (.bt .join (.str []) (.cons (.loc 2) .nil)) .nil) (.cons (.loc 3) .nil)))) .nil))))
noncomputable def QG:List String:=["text","at","pieces","index","end"]
noncomputable def UN:Ss:=
 (.cons (.ret (.tup (.cons (.str [100,101,102,105,110,101]) (.cons (.str [117,110,100,101,102]) (.cons (.str [105,102,100,101,102]) (.cons (.str [105,102,110,100,101,102]) (.cons (.str [101,108,115,105,102]) (.cons (.str [101,108,115,101]) (.cons (.str [101,110,100,105,102]) (.cons (.str [116,105,109,101,115,99,97,108,101]) (.cons (.str [100,101,102,97,117,108,116,95,110,101,116,116,121,112,101]) (.cons (.str [114,101,115,101,116,97,108,108]) (.cons (.str [99,101,108,108,100,101,102,105,110,101]) (.cons (.str [101,110,100,99,101,108,108,100,101,102,105,110,101]) (.cons (.str [105,110,99,108,117,100,101]) (.cons (.str [108,105,110,101]) (.cons (.str [117,110,99,111,110,110,101,99,116,101,100,95,100,114,105,118,101]) (.cons (.str [110,111,117,110,99,111,110,110,101,99,116,101,100,95,100,114,105,118,101]) .nil)))))))))))))))))) .nil)
noncomputable def TY:List String:=[]
noncomputable def Vm:Ss:=
 (.cons (.setAttr (.loc 0) 11 (.loc 1))
 (.cons (.setAttr (.loc 0) 12 (.loc 2))
 (.cons (.setAttr (.loc 0) 13 (.loc 3)) .nil)))
noncomputable def Yx:List String:=["self","kind","at","detail"]
noncomputable def VD:Ss:=
 (.cons (.setAttr (.loc 0) 0 (.loc 1))
 (.cons (.setAttr (.loc 0) 1 (.loc 2)) .nil))
noncomputable def TQ:List String:=["self","names","body"]
noncomputable def C1:Ss:=
 (.cons (.setAttr (.loc 0) 2 (.dict [] .nil))
 (.cons (.setAttr (.loc 0) 3 (.call 13 .nil))
 (.cons (.setAttr (.loc 0) 4 (.int 0))
 (.cons (.ite (.cmp .iD (.loc 1) .none)
   (.cons (.forL 2 (.bi .sorted (.cons (.loc 1) .nil))
    (.cons (.eQ (.attr (.loc 0) 2) (.loc 2) (.new .macro (.cons .none (.cons (.idx (.call 12 (.cons (.km (.idx (.loc 1) (.loc 2)) 10 32) (.cons (.int 0) .nil))) (.int 0)) .nil)))) .nil)) .nil) .nil) .nil))))
noncomputable def Z9:List String:=["self","defines","name"]
noncomputable def qy:Ss:=
 (.cons (.aA 6 (.slice (.loc 1) (.bin .add (.loc 2) (.int 1)) (.loc 3) true true))
 (.cons (.ite (.or (.cons (.cmp .isin (.loc 6) (.attr (.loc 0) 3)) (.cons (.cmp .eq (.loc 6) (.str [])) .nil)))
   (.cons (.raise (.cons (.str [98,97,100,95,100,105,114,101,99,116,105,118,101]) (.cons (.loc 4) (.cons (.loc 6) .nil)))) .nil) .nil)
 (.cons (.ite (.cmp .iA (.loc 6) (.attr (.loc 0) 2))
   (.cons (.raise (.cons (.str [117,110,100,101,102,105,110,101,100,95,109,97,99,114,111]) (.cons (.loc 4) (.cons (.loc 6) .nil)))) .nil) .nil)
 (.cons (.setAttr (.loc 0) 4 (.bin .add (.attr (.loc 0) 4) (.int 1)))
 (.cons (.ite (.or (.cons (.cmp .ge (.loc 5) (.jZ 0)) (.cons (.cmp .gt (.attr (.loc 0) 4) (.jZ 1)) .nil)))
   (.cons (.raise (.cons (.str [109,97,99,114,111,95,100,101,112,116,104]) (.cons (.loc 4) (.cons (.loc 6) .nil)))) .nil) .nil)
 (.cons (.aA 7 (.idx (.attr (.loc 0) 2) (.loc 6)))
 (.cons (.aA 8 (.attr (.loc 7) 1))
 (.cons (.ite (.cmp .iD (.attr (.loc 7) 0) .none)
   (.cons (.aA 9 (.call 10 (.cons (.loc 1) (.cons (.call 4 (.cons (.loc 1) (.cons (.loc 3) .nil))) .nil))))
   (.cons (.ite (.cmp .is (.loc 9) .none)
    (.cons (.raise (.cons (.str [109,97,99,114,111,95,97,114,103,117,109,101,110,116,115]) (.cons (.loc 4) (.cons (.loc 6) .nil)))) .nil) .nil)
   (.cons (.unpack [10,3] (.loc 9))
   (.cons (.ite (.and (.cons (.cmp .eq (.loc 10) (.list (.cons (.str []) .nil))) (.cons (.cmp .eq (.bi .len (.cons (.attr (.loc 7) 0) .nil)) (.int 0)) .nil)))
    (.cons (.aA 10 (.list .nil)) .nil) .nil)
   (.cons (.ite (.cmp .ne (.bi .len (.cons (.loc 10) .nil)) (.bi .len (.cons (.attr (.loc 7) 0) .nil)))
    (.cons (.raise (.cons (.str [109,97,99,114,111,95,97,114,103,117,109,101,110,116,115]) (.cons (.loc 4) (.cons (.loc 6) .nil)))) .nil) .nil)
   (.cons (.aA 8 (.call 11 (.cons (.loc 8) (.cons (.attr (.loc 7) 0) (.cons (.loc 10) .nil))))) .nil)))))) .nil)
 (.cons (.ret (.tup (.cons (.own (.loc 0) 1 (.cons (.loc 8) (.cons (.loc 4) (.cons (.bin .add (.loc 5) (.int 1)) .nil)))) (.cons (.loc 3) .nil)))) .nil)))))))))
noncomputable def Tv:List String:=["self","text","at","end","place","depth","name","macro","body","found","arguments"]
noncomputable def Y3:Ss:=
 (.cons (.aA 4 (.list .nil))
 (.cons (.aA 5 (.int 0))
 (.cons (.dF (.cmp .lt (.loc 5) (.bi .len (.cons (.loc 1) .nil)))
   (.cons (.ite (.cmp .eq (.idx (.loc 1) (.loc 5)) (.str [96]))
    (.cons (.unpack [6,5] (.own (.loc 0) 0 (.cons (.loc 1) (.cons (.loc 5) (.cons (.call 1 (.cons (.loc 1) (.cons (.bin .add (.loc 5) (.int 1)) .nil))) (.cons (.loc 2) (.cons (.loc 3) .nil)))))))
    (.cons (.expr (.bt .append (.loc 4) (.cons (.loc 6) .nil))) .nil))
    (.cons (.aA 7 (.call 8 (.cons (.loc 1) (.cons (.loc 5) .nil))))
    (.cons (.expr (.bt .append (.loc 4) (.cons (.slice (.loc 1) (.loc 5) (.loc 7) true true) .nil)))
    (.cons (.aA 5 (.loc 7)) .nil)))) .nil))
 (.cons (.ret (.bt .join (.str []) (.cons (.loc 4) .nil))) .nil))))
noncomputable def Q9:List String:=["self","text","place","depth","pieces","index","piece","end"]
noncomputable def N9:Ss:=
 (.cons (.setAttr (.loc 0) 5 (.new .table (.cons (.loc 1) .nil)))
 (.cons (.setAttr (.loc 0) 6 (.list .nil))
 (.cons (.expr (.own (.loc 0) 2 .nil)) .nil)))
noncomputable def VC:List String:=["self","defines"]
noncomputable def Q5:Ss:=
 (.cons (.setAttr (.loc 0) 6 (.list .nil))
 (.cons (.setAttr (.loc 0) 7 (.list .nil))
 (.cons (.setAttr (.loc 0) 8 (.int 0))
 (.cons (.setAttr (.loc 0) 9 (.list .nil))
 (.cons (.setAttr (.loc 0) 10 (.bool true))
 (.cons (.setAttr (.attr (.loc 0) 5) 4 (.int 0)) .nil))))))
noncomputable def N3:List String:=["self"]
noncomputable def Nb:Ss:=
 (.cons (.expr (.own (.loc 0) 2 .nil))
 (.cons (.aA 2 (.int 0))
 (.cons (.dF (.cmp .lt (.loc 2) (.bi .len (.cons (.loc 1) .nil)))
   (.cons (.aA 3 (.call 6 (.cons (.loc 1) (.cons (.loc 2) .nil))))
   (.cons (.ite (.cmp .eq (.idx (.loc 1) (.loc 2)) (.str [96]))
    (.cons (.aA 3 (.own (.loc 0) 4 (.cons (.loc 1) (.cons (.loc 2) .nil)))) .nil)
    (.cons (.ite (.cmp .eq (.loc 3) (.loc 2))
      (.cons (.aA 3 (.call 8 (.cons (.loc 1) (.cons (.loc 2) .nil)))) .nil) .nil)
    (.cons (.expr (.own (.loc 0) 3 (.cons (.slice (.loc 1) (.loc 2) (.loc 3) true true) .nil))) .nil)))
   (.cons (.aA 2 (.loc 3)) .nil))))
 (.cons (.ite (.cmp .gt (.bi .len (.cons (.attr (.loc 0) 9) .nil)) (.int 0))
   (.cons (.raise (.cons (.str [117,110,98,97,108,97,110,99,101,100,95,99,111,110,100,105,116,105,111,110]) (.cons (.idx (.idx (.attr (.loc 0) 9) (.neg (.int 1))) (.int 0)) .nil))) .nil) .nil)
 (.cons (.ret (.bt .join (.str []) (.cons (.attr (.loc 0) 7) .nil))) .nil)))))
noncomputable def Vu:List String:=["self","text","at","end"]
noncomputable def Kk:Ss:=
 (.cons (.ite (.not (.attr (.loc 0) 10))
   (.cons (.aA 1 (.bin .mul (.str [10]) (.call 9 (.cons (.loc 1) .nil)))) .nil) .nil)
 (.cons (.expr (.bt .append (.attr (.loc 0) 7) (.cons (.loc 1) .nil)))
 (.cons (.setAttr (.loc 0) 8 (.bin .add (.attr (.loc 0) 8) (.bi .len (.cons (.loc 1) .nil)))) .nil)))
noncomputable def aaA:List String:=["self","piece"]
noncomputable def H6:Ss:=
 (.cons (.aA 3 (.call 1 (.cons (.loc 1) (.cons (.bin .add (.loc 2) (.int 1)) .nil))))
 (.cons (.aA 4 (.slice (.loc 1) (.bin .add (.loc 2) (.int 1)) (.loc 3) true true))
 (.cons (.ite (.cmp .isin (.loc 4) (.tup (.cons (.str [105,102,100,101,102]) (.cons (.str [105,102,110,100,101,102]) (.cons (.str [101,108,115,105,102]) (.cons (.str [101,108,115,101]) (.cons (.str [101,110,100,105,102]) .nil)))))))
   (.cons (.ret (.own (.loc 0) 7 (.cons (.loc 4) (.cons (.loc 1) (.cons (.loc 2) (.cons (.loc 3) .nil)))))) .nil) .nil)
 (.cons (.ite (.not (.attr (.loc 0) 10))
   (.cons (.ret (.bi .max (.cons (.loc 3) (.cons (.bin .add (.loc 2) (.int 1)) .nil)))) .nil) .nil)
 (.cons (.ite (.cmp .eq (.loc 4) (.str [100,101,102,105,110,101]))
   (.cons (.ret (.own (.loc 0) 6 (.cons (.loc 1) (.cons (.loc 2) (.cons (.loc 3) .nil))))) .nil) .nil)
 (.cons (.ite (.cmp .eq (.loc 4) (.str [117,110,100,101,102]))
   (.cons (.unpack [5,3] (.own (.loc 0) 5 (.cons (.loc 1) (.cons (.loc 2) (.cons (.loc 3) .nil)))))
   (.cons (.ite (.cmp .isin (.loc 5) (.attr (.attr (.loc 0) 5) 2))
    (.cons (.lJ (.attr (.attr (.loc 0) 5) 2) (.loc 5)) .nil) .nil)
   (.cons (.ret (.loc 3)) .nil))) .nil)
 (.cons (.ite (.cmp .eq (.loc 4) (.str [100,101,102,97,117,108,116,95,110,101,116,116,121,112,101]))
   (.cons (.unpack [6,3] (.own (.loc 0) 5 (.cons (.loc 1) (.cons (.loc 2) (.cons (.loc 3) .nil)))))
   (.cons (.expr (.bt .append (.attr (.loc 0) 6) (.cons (.tup (.cons (.attr (.loc 0) 8) (.cons (.loc 6) .nil))) .nil)))
   (.cons (.ret (.loc 3)) .nil))) .nil)
 (.cons (.ite (.cmp .eq (.loc 4) (.str [116,105,109,101,115,99,97,108,101]))
   (.cons (.dF (.and (.cons (.cmp .lt (.loc 3) (.bi .len (.cons (.loc 1) .nil))) (.cons (.cmp .ne (.idx (.loc 1) (.loc 3)) (.str [10])) (.cons (.cmp .eq (.call 6 (.cons (.loc 1) (.cons (.loc 3) .nil))) (.loc 3)) .nil))))
    (.cons (.aA 3 (.bin .add (.loc 3) (.int 1))) .nil))
   (.cons (.ret (.loc 3)) .nil)) .nil)
 (.cons (.ite (.cmp .eq (.loc 4) (.str [114,101,115,101,116,97,108,108]))
   (.cons (.expr (.bt .append (.attr (.loc 0) 6) (.cons (.tup (.cons (.attr (.loc 0) 8) (.cons (.str [119,105,114,101]) .nil))) .nil)))
   (.cons (.ret (.loc 3)) .nil)) .nil)
 (.cons (.ite (.or (.cons (.cmp .eq (.loc 4) (.str [99,101,108,108,100,101,102,105,110,101])) (.cons (.cmp .eq (.loc 4) (.str [101,110,100,99,101,108,108,100,101,102,105,110,101])) .nil)))
   (.cons (.ret (.loc 3)) .nil) .nil)
 (.cons (.unpack [7,8] (.own (.attr (.loc 0) 5) 0 (.cons (.loc 1) (.cons (.loc 2) (.cons (.loc 3) (.cons (.loc 2) (.cons (.int 0) .nil)))))))
 (.cons (.expr (.own (.loc 0) 3 (.cons (.bin .add (.loc 7) (.bin .mul (.str [10]) (.call 9 (.cons (.slice (.loc 1) (.loc 2) (.loc 8) true true) .nil)))) .nil)))
 (.cons (.ret (.loc 8)) .nil)))))))))))))
noncomputable def UQ:List String:=["self","text","at","end","name","known","word","piece","behind"]
noncomputable def Qw:Ss:=
 (.cons (.aA 4 (.call 3 (.cons (.loc 1) (.cons (.loc 3) .nil))))
 (.cons (.aA 5 (.call 1 (.cons (.loc 1) (.cons (.loc 4) .nil))))
 (.cons (.ite (.cmp .eq (.loc 5) (.loc 4))
   (.cons (.raise (.cons (.str [98,97,100,95,100,105,114,101,99,116,105,118,101]) (.cons (.loc 2) .nil))) .nil) .nil)
 (.cons (.ret (.tup (.cons (.slice (.loc 1) (.loc 4) (.loc 5) true true) (.cons (.loc 5) .nil)))) .nil))))
noncomputable def Uq:List String:=["self","text","at","end","begin","behind"]
noncomputable def IB:Ss:=
 (.cons (.unpack [4,3] (.own (.loc 0) 5 (.cons (.loc 1) (.cons (.loc 2) (.cons (.loc 3) .nil)))))
 (.cons (.ite (.cmp .isin (.loc 4) (.attr (.attr (.loc 0) 5) 3))
   (.cons (.raise (.cons (.str [98,97,100,95,100,105,114,101,99,116,105,118,101]) (.cons (.loc 2) (.cons (.loc 4) .nil)))) .nil) .nil)
 (.cons (.aA 5 .none)
 (.cons (.aA 6 (.loc 3))
 (.cons (.ite (.cmp .eq (.slice (.loc 1) (.loc 3) (.bin .add (.loc 3) (.int 1)) true true) (.str [40]))
   (.cons (.aA 7 (.call 10 (.cons (.loc 1) (.cons (.loc 3) .nil))))
   (.cons (.ite (.cmp .is (.loc 7) .none)
    (.cons (.raise (.cons (.str [109,97,99,114,111,95,97,114,103,117,109,101,110,116,115]) (.cons (.loc 2) (.cons (.loc 4) .nil)))) .nil) .nil)
   (.cons (.unpack [5,6] (.loc 7))
   (.cons (.ite (.cmp .eq (.loc 5) (.list (.cons (.str []) .nil)))
    (.cons (.aA 5 (.list .nil)) .nil) .nil)
   (.cons (.forR 8 (.bi .len (.cons (.loc 5) .nil))
    (.cons (.aA 9 (.and (.cons (.cmp .ne (.idx (.loc 5) (.loc 8)) (.str [])) (.cons (.cmp .eq (.call 1 (.cons (.idx (.loc 5) (.loc 8)) (.cons (.int 0) .nil))) (.bi .len (.cons (.idx (.loc 5) (.loc 8)) .nil))) .nil))))
    (.cons (.ite (.or (.cons (.not (.loc 9)) (.cons (.cmp .isin (.idx (.loc 5) (.loc 8)) (.slice (.loc 5) .none (.loc 8) false true)) .nil)))
      (.cons (.raise (.cons (.str [109,97,99,114,111,95,97,114,103,117,109,101,110,116,115]) (.cons (.loc 2) (.cons (.loc 4) .nil)))) .nil) .nil) .nil))) .nil))))) .nil)
 (.cons (.unpack [10,11] (.call 12 (.cons (.loc 1) (.cons (.loc 6) .nil))))
 (.cons (.eQ (.attr (.attr (.loc 0) 5) 2) (.loc 4) (.new .macro (.cons (.loc 5) (.cons (.loc 10) .nil))))
 (.cons (.expr (.own (.loc 0) 3 (.cons (.bin .mul (.str [10]) (.call 9 (.cons (.slice (.loc 1) (.loc 2) (.loc 11) true true) .nil))) .nil)))
 (.cons (.ret (.loc 11)) .nil)))))))))
noncomputable def TX:List String:=["self","text","at","end","name","names","begin","found","i","proper","body","behind"]
noncomputable def MQ:Ss:=
 (.cons (.ite (.or (.cons (.cmp .eq (.loc 1) (.str [105,102,100,101,102])) (.cons (.cmp .eq (.loc 1) (.str [105,102,110,100,101,102])) .nil)))
   (.cons (.unpack [5,4] (.own (.loc 0) 5 (.cons (.loc 2) (.cons (.loc 3) (.cons (.loc 4) .nil)))))
   (.cons (.aA 6 (.cmp .eq (.cmp .isin (.loc 5) (.attr (.attr (.loc 0) 5) 2)) (.cmp .eq (.loc 1) (.str [105,102,100,101,102]))))
   (.cons (.expr (.bt .append (.attr (.loc 0) 9) (.cons (.list (.cons (.loc 3) (.cons (.attr (.loc 0) 10) (.cons (.loc 6) (.cons (.bool false) .nil))))) .nil)))
   (.cons (.setAttr (.loc 0) 10 (.and (.cons (.attr (.loc 0) 10) (.cons (.loc 6) .nil))))
   (.cons (.ret (.loc 4)) .nil))))) .nil)
 (.cons (.ite (.cmp .eq (.bi .len (.cons (.attr (.loc 0) 9) .nil)) (.int 0))
   (.cons (.raise (.cons (.str [117,110,98,97,108,97,110,99,101,100,95,99,111,110,100,105,116,105,111,110]) (.cons (.loc 3) .nil))) .nil) .nil)
 (.cons (.aA 7 (.idx (.attr (.loc 0) 9) (.neg (.int 1))))
 (.cons (.ite (.cmp .eq (.loc 1) (.str [101,110,100,105,102]))
   (.cons (.expr (.bt .pop (.attr (.loc 0) 9) .nil))
   (.cons (.setAttr (.loc 0) 10 (.idx (.loc 7) (.int 1)))
   (.cons (.ret (.loc 4)) .nil))) .nil)
 (.cons (.ite (.idx (.loc 7) (.int 3))
   (.cons (.raise (.cons (.str [117,110,98,97,108,97,110,99,101,100,95,99,111,110,100,105,116,105,111,110]) (.cons (.loc 3) .nil))) .nil) .nil)
 (.cons (.ite (.cmp .eq (.loc 1) (.str [101,108,115,101]))
   (.cons (.eQ (.loc 7) (.int 3) (.bool true))
   (.cons (.aA 6 (.bool true)) .nil))
   (.cons (.unpack [5,4] (.own (.loc 0) 5 (.cons (.loc 2) (.cons (.loc 3) (.cons (.loc 4) .nil)))))
   (.cons (.aA 6 (.cmp .isin (.loc 5) (.attr (.attr (.loc 0) 5) 2))) .nil)))
 (.cons (.setAttr (.loc 0) 10 (.and (.cons (.idx (.loc 7) (.int 1)) (.cons (.loc 6) (.cons (.not (.idx (.loc 7) (.int 2))) .nil)))))
 (.cons (.eQ (.loc 7) (.int 2) (.or (.cons (.idx (.loc 7) (.int 2)) (.cons (.loc 6) .nil))))
 (.cons (.ret (.loc 4)) .nil)))))))))
noncomputable def aaS:List String:=["self","name","text","at","end","known","holds","top"]
noncomputable def Lj:Ss:=
 (.cons (.aA 1 (.list .nil))
 (.cons (.aA 2 (.int 5))
 (.cons (.forL 3 (.slice (.loc 0) .none (.int 40) false true)
   (.cons (.aA 4 (.bi .int (.cons (.loc 3) .nil)))
   (.cons (.aA 2 (.bin .mod (.bin .add (.bin .mul (.loc 2) (.int 31)) (.loc 4)) (.int 1009)))
   (.cons (.aA 5 (.bi .abs (.cons (.loc 4) .nil)))
   (.cons (.forR 6 (.int 60)
    (.cons (.expr (.bt .append (.loc 1) (.cons (.bin .mod (.loc 5) (.int 840)) .nil)))
    (.cons (.gJ 5 .fdiv (.int 840))
    (.cons (.ite (.cmp .eq (.loc 5) (.int 0))
      (.cons .brk .nil) .nil) .nil))))
   (.cons (.ite (.cmp .gt (.bi .len (.cons (.loc 1) .nil)) (.int 400))
    (.cons .brk .nil) .nil) .nil))))))
 (.cons (.ret (.list (.cons (.loc 1) (.cons (.int 0) (.cons (.loc 2) .nil))))) .nil))))
noncomputable def aa8:List String:=["script","figures","mix","cell","big","rest","step"]
noncomputable def Iw:Ss:=
 (.cons (.ite (.cmp .lt (.idx (.loc 0) (.int 1)) (.bi .len (.cons (.idx (.loc 0) (.int 0)) .nil)))
   (.cons (.aA 2 (.idx (.idx (.loc 0) (.int 0)) (.idx (.loc 0) (.int 1))))
   (.cons (.g9 (.loc 0) (.int 1) .add (.int 1)) .nil))
   (.cons (.ite (.cmp .lt (.bi .len (.cons (.idx (.loc 0) (.int 0)) .nil)) (.int 3))
    (.cons (.aA 2 (.int 0)) .nil)
    (.cons (.eQ (.loc 0) (.int 2) (.bin .mod (.bin .add (.bin .mul (.idx (.loc 0) (.int 2)) (.int 37)) (.int 11)) (.int 1009)))
    (.cons (.aA 2 (.idx (.loc 0) (.int 2))) .nil))) .nil))
 (.cons (.ret (.bin .mod (.loc 2) (.loc 1))) .nil))
noncomputable def NP:List String:=["pool","bound","figure"]
noncomputable def V2:Ss:=
 (.cons (.aA 3 (.list .nil))
 (.cons (.forR 4 (.call 28 (.cons (.loc 0) (.cons (.int 4) .nil)))
   (.cons (.aA 5 (.call 28 (.cons (.loc 0) (.cons (.int 7) .nil))))
   (.cons (.ite (.cmp .lt (.loc 5) (.int 2))
    (.cons (.expr (.bt .append (.loc 3) (.cons (.tup (.cons (.str [116,101,120,116]) (.cons (.idx (.list (.cons (.str [120,49]) (.cons (.str [43,32,50]) (.cons (.str [56,39,104,53]) (.cons (.str [34,96,65,32,112,34]) (.cons (.str [91,114,93]) .nil)))))) (.call 28 (.cons (.loc 0) (.cons (.int 5) .nil)))) .nil))) .nil))) .nil)
    (.cons (.ite (.and (.cons (.cmp .lt (.loc 5) (.int 4)) (.cons (.cmp .gt (.loc 2) (.int 0)) .nil)))
      (.cons (.expr (.bt .append (.loc 3) (.cons (.tup (.cons (.str [112,97,114,97,109]) (.cons (.call 28 (.cons (.loc 0) (.cons (.loc 2) .nil))) .nil))) .nil))) .nil)
      (.cons (.ite (.cmp .lt (.loc 5) (.int 6))
       (.cons (.expr (.bt .append (.loc 3) (.cons (.tup (.cons (.str [117,115,101]) (.cons (.idx (.str [65,66,67]) (.call 28 (.cons (.loc 0) (.cons (.int 3) .nil)))) (.cons (.list .nil) .nil)))) .nil))) .nil)
       (.cons (.aA 6 (.ite (.cmp .gt (.loc 2) (.int 0)) (.tup (.cons (.str [112,97,114,97,109]) (.cons (.int 0) .nil))) (.tup (.cons (.str [116,101,120,116]) (.cons (.str [107]) .nil)))))
       (.cons (.expr (.bt .append (.loc 3) (.cons (.tup (.cons (.str [117,115,101]) (.cons (.str [70]) (.cons (.list (.cons (.list (.cons (.loc 6) .nil)) .nil)) .nil)))) .nil))) .nil))) .nil)) .nil)) .nil)))
 (.cons (.ret (.loc 3)) .nil)))
noncomputable def Pb:List String:=["pool","world","count","pieces","step","kind","inner"]
noncomputable def KC:Ss:=
 (.cons (.aA 1 (.list .nil))
 (.cons (.forL 2 (.loc 0)
   (.cons (.ite (.cmp .eq (.idx (.loc 2) (.int 0)) (.str [116,101,120,116]))
    (.cons (.expr (.bt .append (.loc 1) (.cons (.idx (.loc 2) (.int 1)) .nil))) .nil)
    (.cons (.ite (.cmp .eq (.idx (.loc 2) (.int 0)) (.str [112,97,114,97,109]))
      (.cons (.expr (.bt .append (.loc 1) (.cons (.idx (.str [112,113]) (.idx (.loc 2) (.int 1))) .nil))) .nil)
      (.cons (.aA 3 (.bt .join (.str [44,32]) (.cons (.comp (.call 30 (.cons (.loc 0) .nil)) [] (.idx (.loc 2) (.int 2))) .nil)))
      (.cons (.expr (.bt .append (.loc 1) (.cons (.bin .add (.bin .add (.str [96]) (.idx (.loc 2) (.int 1))) (.ite (.cmp .ne (.idx (.loc 2) (.int 2)) (.list .nil)) (.bin .add (.bin .add (.str [40]) (.loc 3)) (.str [41])) (.str []))) .nil))) .nil))) .nil)) .nil))
 (.cons (.ret (.bt .join (.str [32]) (.cons (.loc 1) .nil))) .nil)))
noncomputable def WA:List String:=["pieces","rows","piece","inside"]
noncomputable def Ic:Ss:=
 (.cons (.aA 2 (.list .nil))
 (.cons (.forL 3 (.loc 0)
   (.cons (.ite (.cmp .eq (.idx (.loc 3) (.int 0)) (.str [112,97,114,97,109]))
    (.cons (.gJ 2 .add (.idx (.loc 1) (.idx (.loc 3) (.int 1)))) .nil)
    (.cons (.ite (.cmp .eq (.idx (.loc 3) (.int 0)) (.str [117,115,101]))
      (.cons (.expr (.bt .append (.loc 2) (.cons (.tup (.cons (.str [117,115,101]) (.cons (.idx (.loc 3) (.int 1)) (.cons (.comp (.call 31 (.cons (.loc 0) (.cons (.loc 1) .nil))) [1] (.idx (.loc 3) (.int 2))) .nil)))) .nil))) .nil)
      (.cons (.expr (.bt .append (.loc 2) (.cons (.loc 3) .nil))) .nil)) .nil)) .nil))
 (.cons (.ret (.loc 2)) .nil)))
noncomputable def Za:List String:=["pieces","args","rows","piece"]
noncomputable def MY:Ss:=
 (.cons (.ite (.cmp .iA (.loc 1) (.idx (.loc 0) (.str [109,97,99,114,111,115])))
   (.cons (.ret (.tup (.cons .none (.cons (.str [117,110,100,101,102,105,110,101,100,95,109,97,99,114,111]) .nil)))) .nil) .nil)
 (.cons (.g9 (.loc 0) (.str [117,115,101,115]) .add (.int 1))
 (.cons (.ite (.or (.cons (.cmp .ge (.loc 3) (.int 20)) (.cons (.cmp .gt (.idx (.loc 0) (.str [117,115,101,115])) (.int 1000)) .nil)))
   (.cons (.ret (.tup (.cons .none (.cons (.str [109,97,99,114,111,95,100,101,112,116,104]) .nil)))) .nil) .nil)
 (.cons (.aA 4 (.list .nil))
 (.cons (.forL 5 (.call 31 (.cons (.idx (.idx (.loc 0) (.str [109,97,99,114,111,115])) (.loc 1)) (.cons (.loc 2) .nil)))
   (.cons (.ite (.cmp .eq (.idx (.loc 5) (.int 0)) (.str [116,101,120,116]))
    (.cons (.expr (.bt .append (.loc 4) (.cons (.idx (.loc 5) (.int 1)) .nil))) .nil)
    (.cons (.unpack [6,7] (.call 32 (.cons (.loc 0) (.cons (.idx (.loc 5) (.int 1)) (.cons (.idx (.loc 5) (.int 2)) (.cons (.bin .add (.loc 3) (.int 1)) .nil))))))
    (.cons (.ite (.cmp .ne (.loc 7) (.str []))
      (.cons (.ret (.tup (.cons .none (.cons (.loc 7) .nil)))) .nil) .nil)
    (.cons (.expr (.bt .append (.loc 4) (.cons (.loc 6) .nil))) .nil)))) .nil))
 (.cons (.ret (.tup (.cons (.bt .join (.str [32]) (.cons (.loc 4) .nil)) (.cons (.str []) .nil)))) .nil))))))
noncomputable def QA:List String:=["world","name","args","depth","rows","piece","text","fault"]
noncomputable def XC:Ss:=
 (.cons (.g9 (.loc 0) (.str [116,101,120,116]) .add (.loc 1))
 (.cons (.g9 (.loc 0) (.str [100,117,101]) .add (.ite (.idx (.loc 0) (.str [97,99,116,105,118,101])) (.loc 2) (.bin .mul (.str [10]) (.bt .count (.loc 2) (.cons (.str [10]) .nil))))) .nil))
noncomputable def Vh:List String:=["world","text","due"]
noncomputable def Iv:Ss:=
 (.cons (.aA 2 (.call 28 (.cons (.loc 0) (.cons (.int 5) .nil))))
 (.cons (.aA 3 (.bi .len (.cons (.idx (.loc 1) (.str [116,101,120,116])) .nil)))
 (.cons (.aA 4 (.idx (.str [65,66,67,70,71]) (.loc 2)))
 (.cons (.aA 5 (.list .nil))
 (.cons (.aA 6 (.int 0))
 (.cons (.aA 7 (.bin .add (.str [96]) (.loc 4)))
 (.cons (.ite (.cmp .gt (.loc 2) (.int 2))
   (.cons (.lZ 5 (.iS (.list (.cons (.idx (.list (.cons (.tup (.cons (.str [116,101,120,116]) (.cons (.str [117]) .nil))) (.cons (.tup (.cons (.str [116,101,120,116]) (.cons (.str [34,41,44,32,34]) .nil))) (.cons (.tup (.cons (.str [116,101,120,116]) (.cons (.str [40,49,44,32,50,41]) .nil))) .nil)))) (.call 28 (.cons (.loc 1) (.cons (.int 3) .nil)))) .nil)) [0] (.bin .sub (.loc 2) (.int 2))))
   (.cons (.ite (.cmp .eq (.call 28 (.cons (.loc 0) (.cons (.int 3) .nil))) (.int 2))
    (.cons (.eQ (.loc 5) (.int 0) (.list (.cons (.tup (.cons (.str [117,115,101]) (.cons (.str [65]) (.cons (.list .nil) .nil)))) .nil))) .nil) .nil)
   (.cons (.aA 8 (.cmp .eq (.call 28 (.cons (.loc 0) (.cons (.int 3) .nil))) (.int 2)))
   (.cons (.aA 6 (.ite (.loc 8) (.int 1) (.int 0)))
   (.cons (.gJ 7 .add (.bin .add (.bin .add (.ite (.loc 8) (.str [32,10,40,32]) (.str [40])) (.bt .join (.str [32,47,42,32,44,32,42,47,44]) (.cons (.comp (.call 30 (.cons (.loc 0) .nil)) [] (.loc 5)) .nil))) (.str [32,41]))) .nil))))) .nil)
 (.cons (.unpack [9,10] (.tup (.cons (.str []) (.cons (.str []) .nil))))
 (.cons (.ite (.idx (.loc 1) (.str [97,99,116,105,118,101]))
   (.cons (.unpack [9,10] (.call 32 (.cons (.loc 1) (.cons (.loc 4) (.cons (.loc 5) (.cons (.int 0) .nil)))))) .nil) .nil)
 (.cons (.ite (.cmp .ne (.loc 10) (.str []))
   (.cons (.eQ (.loc 1) (.str [102,97,117,108,116]) (.tup (.cons (.loc 10) (.cons (.loc 3) .nil)))) .nil) .nil)
 (.cons (.expr (.call 33 (.cons (.loc 1) (.cons (.loc 7) (.cons (.bin .add (.ite (.cmp .is (.loc 9) .none) (.str []) (.loc 9)) (.bin .mul (.str [10]) (.loc 6))) .nil))))) .nil)))))))))))
noncomputable def Pk:List String:=["pool","world","kind","at","name","args","rows","row","wide","text","fault"]
noncomputable def LM:Ss:=
 (.cons (.aA 2 (.call 28 (.cons (.loc 0) (.cons (.int 5) .nil))))
 (.cons (.aA 3 (.bi .max (.cons (.int 0) (.cons (.bin .sub (.loc 2) (.int 2)) .nil))))
 (.cons (.aA 4 (.idx (.str [65,66,67,70,71]) (.loc 2)))
 (.cons (.aA 5 (.call 29 (.cons (.loc 0) (.cons (.loc 1) (.cons (.loc 3) .nil)))))
 (.cons (.aA 6 (.bin .add (.bin .add (.bin .add (.str [96,100,101,102,105,110,101,32]) (.loc 4)) (.idx (.list (.cons (.str []) (.cons (.str [40,112,41]) (.cons (.str [40,32,112,32,44,32,113,32,41]) .nil)))) (.loc 3))) (.str [32])))
 (.cons (.aA 7 (.call 30 (.cons (.loc 5) .nil)))
 (.cons (.aA 8 (.call 28 (.cons (.loc 0) (.cons (.int 3) .nil))))
 (.cons (.ite (.cmp .eq (.loc 8) (.int 1))
   (.cons (.expr (.call 33 (.cons (.loc 1) (.cons (.bin .add (.bin .add (.bin .add (.loc 6) (.str [92,10])) (.loc 7)) (.str [32,47,47,32,96,65,10])) (.cons (.str [10,10]) .nil))))) .nil)
   (.cons (.ite (.cmp .eq (.loc 8) (.int 2))
    (.cons (.expr (.call 33 (.cons (.loc 1) (.cons (.bin .add (.bin .add (.bin .add (.loc 6) (.str [47,42,32,112,32,42,47])) (.loc 7)) (.str [32,92,10,32,10])) (.cons (.str [10,10]) .nil))))) .nil)
    (.cons (.expr (.call 33 (.cons (.loc 1) (.cons (.bin .add (.bin .add (.loc 6) (.loc 7)) (.str [10])) (.cons (.str [10]) .nil))))) .nil)) .nil))
 (.cons (.ite (.idx (.loc 1) (.str [97,99,116,105,118,101]))
   (.cons (.eQ (.idx (.loc 1) (.str [109,97,99,114,111,115])) (.loc 4) (.loc 5)) .nil) .nil) .nil)))))))))
noncomputable def QW:List String:=["pool","world","kind","count","name","pieces","row","spelled","way"]
noncomputable def GC:Ss:=
 (.cons (.aA 3 (.idx (.loc 1) (.str [97,99,116,105,118,101])))
 (.cons (.aA 4 (.bool false))
 (.cons (.forR 5 (.bin .add (.int 1) (.call 28 (.cons (.loc 0) (.cons (.int 3) .nil))))
   (.cons (.aA 6 (.ite (.cmp .eq (.loc 5) (.int 0)) (.idx (.list (.cons (.str [105,102,100,101,102]) (.cons (.str [105,102,110,100,101,102]) .nil))) (.call 28 (.cons (.loc 0) (.cons (.int 2) .nil)))) (.str [101,108,115,105,102])))
   (.cons (.aA 7 (.idx (.str [65,66,67,70,90]) (.call 28 (.cons (.loc 0) (.cons (.int 5) .nil)))))
   (.cons (.expr (.call 33 (.cons (.loc 1) (.cons (.str [32,32]) (.cons (.str [32,32]) .nil)))))
   (.cons (.expr (.call 33 (.cons (.loc 1) (.cons (.bin .add (.bin .add (.bin .add (.str [96]) (.loc 6)) (.str [32])) (.loc 7)) (.cons (.str []) .nil)))))
   (.cons (.aA 8 (.cmp .eq (.cmp .isin (.loc 7) (.idx (.loc 1) (.str [109,97,99,114,111,115]))) (.cmp .ne (.loc 6) (.str [105,102,110,100,101,102]))))
   (.cons (.eQ (.loc 1) (.str [97,99,116,105,118,101]) (.and (.cons (.loc 3) (.cons (.loc 8) (.cons (.not (.loc 4)) .nil)))))
   (.cons (.aA 4 (.or (.cons (.loc 4) (.cons (.loc 8) .nil))))
   (.cons (.expr (.call 33 (.cons (.loc 1) (.cons (.str [10]) (.cons (.str [10]) .nil)))))
   (.cons (.expr (.call 37 (.cons (.loc 0) (.cons (.loc 1) (.cons (.bin .add (.loc 2) (.int 1)) .nil)))))
   (.cons (.ite (.cmp .iD (.idx (.loc 1) (.str [102,97,117,108,116])) .none)
    (.cons .lI .nil) .nil) .nil)))))))))))
 (.cons (.ite (.cmp .eq (.call 28 (.cons (.loc 0) (.cons (.int 2) .nil))) (.int 1))
   (.cons (.expr (.call 33 (.cons (.loc 1) (.cons (.str [96,101,108,115,101]) (.cons (.str []) .nil)))))
   (.cons (.eQ (.loc 1) (.str [97,99,116,105,118,101]) (.and (.cons (.loc 3) (.cons (.not (.loc 4)) .nil))))
   (.cons (.expr (.call 33 (.cons (.loc 1) (.cons (.str [32,47,47,96,101,110,100,105,102,10]) (.cons (.str [32,47,47,96,101,110,100,105,102,10]) .nil)))))
   (.cons (.expr (.call 37 (.cons (.loc 0) (.cons (.loc 1) (.cons (.bin .add (.loc 2) (.int 1)) .nil))))) .nil)))) .nil)
 (.cons (.ite (.cmp .is (.idx (.loc 1) (.str [102,97,117,108,116])) .none)
   (.cons (.expr (.call 33 (.cons (.loc 1) (.cons (.str [96,101,110,100,105,102]) (.cons (.str []) .nil)))))
   (.cons (.eQ (.loc 1) (.str [97,99,116,105,118,101]) (.loc 3))
   (.cons (.expr (.call 33 (.cons (.loc 1) (.cons (.str [10]) (.cons (.str [10]) .nil))))) .nil))) .nil) .nil)))))
noncomputable def Qe:List String:=["pool","world","depth","outer","taken","step","word","name","holds"]
noncomputable def IW:Ss:=
 (.cons (.forR 3 (.call 28 (.cons (.loc 0) (.cons (.bin .sub (.int 6) (.loc 2)) .nil)))
   (.cons (.aA 4 (.call 28 (.cons (.loc 0) (.cons (.ite (.cmp .lt (.loc 2) (.int 3)) (.int 10) (.int 8)) .nil))))
   (.cons (.g9 (.loc 1) (.str [114,111,111,109]) .sub (.int 1))
   (.cons (.ite (.or (.cons (.cmp .iD (.idx (.loc 1) (.str [102,97,117,108,116])) .none) (.cons (.cmp .lt (.idx (.loc 1) (.str [114,111,111,109])) (.int 0)) .nil)))
    (.cons .lI .nil) .nil)
   (.cons (.ite (.cmp .lt (.loc 4) (.int 2))
    (.cons (.aA 5 (.idx (.list (.cons (.str [97,32,60,61,32,98,59]) (.cons (.str [34,96,105,102,100,101,102,32,65,32,92,34,32,47,47,34]) (.cons (.str [92,96,66,32,120]) (.cons (.str [47,42,32,96,101,110,100,105,102,10,32,96,90,32,42,47]) (.cons (.str [47,47,32,96,101,108,115,101]) .nil)))))) (.call 28 (.cons (.loc 0) (.cons (.int 5) .nil)))))
    (.cons (.expr (.call 33 (.cons (.loc 1) (.cons (.bin .add (.loc 5) (.str [10])) (.cons (.bin .add (.loc 5) (.str [10])) .nil))))) .nil))
    (.cons (.ite (.cmp .lt (.loc 4) (.int 4))
      (.cons (.expr (.call 35 (.cons (.loc 0) (.cons (.loc 1) .nil)))) .nil)
      (.cons (.ite (.cmp .lt (.loc 4) (.int 6))
       (.cons (.expr (.call 33 (.cons (.loc 1) (.cons (.str [119,32]) (.cons (.str [119,32]) .nil)))))
       (.cons (.expr (.call 34 (.cons (.loc 0) (.cons (.loc 1) .nil))))
       (.cons (.expr (.call 33 (.cons (.loc 1) (.cons (.str [32,59,10]) (.cons (.str [32,59,10]) .nil))))) .nil)))
       (.cons (.ite (.cmp .eq (.loc 4) (.int 6))
         (.cons (.aA 6 (.idx (.str [65,66,67,70,90]) (.call 28 (.cons (.loc 0) (.cons (.int 5) .nil)))))
         (.cons (.expr (.call 33 (.cons (.loc 1) (.cons (.bin .add (.str [96,117,110,100,101,102,32]) (.loc 6)) (.cons (.str []) .nil)))))
         (.cons (.expr (.call 33 (.cons (.loc 1) (.cons (.str [10]) (.cons (.str [10]) .nil)))))
         (.cons (.ite (.idx (.loc 1) (.str [97,99,116,105,118,101]))
          (.cons (.expr (.bt .l9 (.idx (.loc 1) (.str [109,97,99,114,111,115])) (.cons (.loc 6) (.cons .none .nil)))) .nil) .nil) .nil))))
         (.cons (.ite (.cmp .eq (.loc 4) (.int 7))
          (.cons (.unpack [5,7] (.idx (.list (.cons (.tup (.cons (.str [96,116,105,109,101,115,99,97,108,101,32,49,110,115,32,47,32,49,112,115]) (.cons (.str []) .nil))) (.cons (.tup (.cons (.str [96,100,101,102,97,117,108,116,95,110,101,116,116,121,112,101,32,110,111,110,101]) (.cons (.str [110,111,110,101]) .nil))) (.cons (.tup (.cons (.str [96,114,101,115,101,116,97,108,108]) (.cons (.str [119,105,114,101]) .nil))) (.cons (.tup (.cons (.str [96,99,101,108,108,100,101,102,105,110,101]) (.cons (.str []) .nil))) .nil))))) (.call 28 (.cons (.loc 0) (.cons (.int 4) .nil)))))
          (.cons (.ite (.and (.cons (.idx (.loc 1) (.str [97,99,116,105,118,101])) (.cons (.cmp .ne (.loc 7) (.str [])) .nil)))
            (.cons (.expr (.bt .append (.idx (.loc 1) (.str [110,101,116,116,121,112,101,115])) (.cons (.tup (.cons (.bi .len (.cons (.idx (.loc 1) (.str [100,117,101])) .nil)) (.cons (.loc 7) .nil))) .nil))) .nil) .nil)
          (.cons (.aA 8 (.bt .split (.loc 5) (.cons (.str [32]) .nil)))
          (.cons (.expr (.call 33 (.cons (.loc 1) (.cons (.idx (.loc 8) (.int 0)) (.cons (.str []) .nil)))))
          (.cons (.expr (.call 33 (.cons (.loc 1) (.cons (.bin .add (.slice (.loc 5) (.bi .len (.cons (.idx (.loc 8) (.int 0)) .nil)) .none true false) (.str [10])) (.cons (.str [10]) .nil))))) .nil)))))
          (.cons (.expr (.call 36 (.cons (.loc 0) (.cons (.loc 1) (.cons (.loc 2) .nil))))) .nil)) .nil)) .nil)) .nil)) .nil)) .nil))))) .nil)
noncomputable def Y5:List String:=["pool","world","depth","step","kind","row","name","word","parts"]
noncomputable def jz:Ss:=
 (.cons (.aA 1 (.call 27 (.cons (.loc 0) .nil)))
 (.cons (.aA 2 (.dict [[116,101,120,116],[100,117,101],[109,97,99,114,111,115],[97,99,116,105,118,101],[102,97,117,108,116],[110,101,116,116,121,112,101,115],[114,111,111,109],[117,115,101,115]] (.cons (.str []) (.cons (.str []) (.cons (.dict [] .nil) (.cons (.bool true) (.cons .none (.cons (.list .nil) (.cons (.int 24) (.cons (.int 0) .nil))))))))))
 (.cons (.aA 3 .none)
 (.cons (.ite (.cmp .eq (.call 28 (.cons (.loc 1) (.cons (.int 3) .nil))) (.int 1))
   (.cons (.aA 3 (.dict [[66]] (.cons (.str [32,55,32,96,67]) .nil)))
   (.cons (.eQ (.idx (.loc 2) (.str [109,97,99,114,111,115])) (.str [66]) (.list (.cons (.tup (.cons (.str [116,101,120,116]) (.cons (.str [55]) .nil))) (.cons (.tup (.cons (.str [117,115,101]) (.cons (.str [67]) (.cons (.list .nil) .nil)))) .nil)))) .nil)) .nil)
 (.cons (.expr (.call 37 (.cons (.loc 1) (.cons (.loc 2) (.cons (.int 0) .nil)))))
 (.cons (.ite (.cmp .is (.idx (.loc 2) (.str [102,97,117,108,116])) .none)
   (.cons (.aA 4 (.list (.cons (.tup (.cons (.str []) (.cons (.str []) (.cons (.int 0) .nil)))) (.cons (.tup (.cons (.str [96,101,110,100,105,102]) (.cons (.str [117,110,98,97,108,97,110,99,101,100,95,99,111,110,100,105,116,105,111,110]) (.cons (.int 0) .nil)))) (.cons (.tup (.cons (.str [96,105,102,100,101,102,32,65,10,96,105,102,100,101,102,32,66,10,96,101,110,100,105,102]) (.cons (.str [117,110,98,97,108,97,110,99,101,100,95,99,111,110,100,105,116,105,111,110]) (.cons (.int 0) .nil)))) .nil)))))
   (.cons (.gJ 4 .add (.list (.cons (.tup (.cons (.str [96,101,108,115,101]) (.cons (.str [117,110,98,97,108,97,110,99,101,100,95,99,111,110,100,105,116,105,111,110]) (.cons (.int 0) .nil)))) (.cons (.tup (.cons (.str [96,105,110,99,108,117,100,101,32,34,120,34]) (.cons (.str [98,97,100,95,100,105,114,101,99,116,105,118,101]) (.cons (.int 0) .nil)))) (.cons (.tup (.cons (.str [96,32,65]) (.cons (.str [98,97,100,95,100,105,114,101,99,116,105,118,101]) (.cons (.int 0) .nil)))) .nil)))))
   (.cons (.gJ 4 .add (.list (.cons (.tup (.cons (.str [96,100,101,102,105,110,101,10,65,32,49]) (.cons (.str [98,97,100,95,100,105,114,101,99,116,105,118,101]) (.cons (.int 0) .nil)))) (.cons (.tup (.cons (.str [96,81,57]) (.cons (.str [117,110,100,101,102,105,110,101,100,95,109,97,99,114,111]) (.cons (.int 0) .nil)))) (.cons (.tup (.cons (.str [96,100,101,102,105,110,101,32,101,108,115,101,32,120]) (.cons (.str [98,97,100,95,100,105,114,101,99,116,105,118,101]) (.cons (.int 0) .nil)))) .nil)))))
   (.cons (.gJ 4 .add (.list (.cons (.tup (.cons (.str [96,105,102,100,101,102,32,65,10,96,101,108,115,101,10,96,101,108,115,101,10]) (.cons (.str [117,110,98,97,108,97,110,99,101,100,95,99,111,110,100,105,116,105,111,110]) (.cons (.int 15) .nil)))) (.cons (.tup (.cons (.str [96,100,101,102,105,110,101,32,72,40,120,44,120,41,32,120]) (.cons (.str [109,97,99,114,111,95,97,114,103,117,109,101,110,116,115]) (.cons (.int 0) .nil)))) .nil))))
   (.cons (.gJ 4 .add (.list (.cons (.tup (.cons (.str [96,100,101,102,105,110,101,32,72,40,120,41,32,120,10,96,72]) (.cons (.str [109,97,99,114,111,95,97,114,103,117,109,101,110,116,115]) (.cons (.int 15) .nil)))) (.cons (.tup (.cons (.str [96,100,101,102,105,110,101,32,72,40,120,41,32,120,10,96,72,40,49,44,50,41]) (.cons (.str [109,97,99,114,111,95,97,114,103,117,109,101,110,116,115]) (.cons (.int 15) .nil)))) .nil))))
   (.cons (.unpack [5,6,7] (.idx (.loc 4) (.bin .mul (.call 28 (.cons (.loc 1) (.cons (.int 2) .nil))) (.call 28 (.cons (.loc 1) (.cons (.int 13) .nil))))))
   (.cons (.ite (.and (.cons (.cmp .eq (.loc 7) (.int 15)) (.cons (.cmp .eq (.loc 6) (.str [109,97,99,114,111,95,97,114,103,117,109,101,110,116,115])) (.cons (.cmp .ge (.idx (.loc 2) (.str [117,115,101,115])) (.int 1000)) .nil))))
    (.cons (.aA 6 (.str [109,97,99,114,111,95,100,101,112,116,104])) .nil) .nil)
   (.cons (.ite (.cmp .ne (.loc 6) (.str []))
    (.cons (.eQ (.loc 2) (.str [102,97,117,108,116]) (.tup (.cons (.loc 6) (.cons (.bin .add (.bi .len (.cons (.idx (.loc 2) (.str [116,101,120,116])) .nil)) (.loc 7)) .nil)))) .nil) .nil)
   (.cons (.g9 (.loc 2) (.str [116,101,120,116]) .add (.loc 5)) .nil))))))))) .nil)
 (.cons (.aA 8 (.new .eA (.cons (.loc 3) .nil)))
 (.cons (.j9
   (.cons (.aA 9 (.own (.loc 8) 8 (.cons (.idx (.loc 2) (.str [116,101,120,116])) .nil))) .nil) 10 2 [102,97,117,108,116])
 (.cons (.ret (.and (.cons (.cmp .is (.idx (.loc 2) (.str [102,97,117,108,116])) .none) (.cons (.cmp .eq (.loc 9) (.idx (.loc 2) (.str [100,117,101]))) (.cons (.cmp .eq (.attr (.loc 8) 6) (.idx (.loc 2) (.str [110,101,116,116,121,112,101,115]))) .nil))))) .nil)))))))))
noncomputable def O8:List String:=["script","pool","world","outside","faults","row","kind","inside","maker","told","error"]
noncomputable def gV:List Fn:=[
 ⟨1,1,LK⟩,
 ⟨2,4,Gn⟩,
 ⟨2,3,UL⟩,
 ⟨2,3,aaP⟩,
 ⟨2,3,N4⟩,
 ⟨2,3,OU⟩,
 ⟨2,4,GB⟩,
 ⟨2,3,Xu⟩,
 ⟨2,4,IG⟩,
 ⟨1,1,ZI⟩,
 ⟨2,8,Te⟩,
 ⟨3,7,Ys⟩,
 ⟨2,5,YQ⟩,
 ⟨0,0,UN⟩,
 ⟨4,4,Vm⟩,
 ⟨3,3,VD⟩,
 ⟨2,3,C1⟩,
 ⟨6,11,qy⟩,
 ⟨4,8,Y3⟩,
 ⟨2,2,N9⟩,
 ⟨1,1,Q5⟩,
 ⟨2,4,Nb⟩,
 ⟨2,2,Kk⟩,
 ⟨3,9,H6⟩,
 ⟨4,6,Qw⟩,
 ⟨4,12,IB⟩,
 ⟨5,8,MQ⟩,
 ⟨1,7,Lj⟩,
 ⟨2,3,Iw⟩,
 ⟨3,7,V2⟩,
 ⟨1,4,KC⟩,
 ⟨2,4,Ic⟩,
 ⟨4,8,MY⟩,
 ⟨3,3,XC⟩,
 ⟨2,11,Iv⟩,
 ⟨2,9,LM⟩,
 ⟨3,9,GC⟩,
 ⟨3,9,IW⟩,
 ⟨1,11,jz⟩]
noncomputable def ID:List (List String):=[
 Wg,
 Yd,
 Wz,
 WX,
 Ua,
 Ph,
 XM,
 Od,
 Ow,
 NU,
 Ts,
 WZ,
 QG,
 TY,
 Yx,
 TQ,
 Z9,
 Tv,
 Q9,
 VC,
 N3,
 Vu,
 aaA,
 UQ,
 Uq,
 TX,
 aaS,
 aa8,
 NP,
 Pb,
 WA,
 Za,
 QA,
 Vh,
 Pk,
 QW,
 Qe,
 Y5,
 O8]
noncomputable def Tx:List (Nat×Option Nat):=[(6,Option.none),(7,Option.none),(8,Option.none),(9,Option.none),(10,Option.none),(11,Option.none),(12,Option.none),(13,Option.none),(14,Option.none),(15,Option.none),(16,Option.none),(17,Option.none),(18,Option.none),(19,Option.none),(1,some 0),(20,some 0),(21,some 0),(21,some 1),(21,some 2),(22,some 0),(22,some 1),(22,some 2),(22,some 3),(22,some 4),(22,some 5),(22,some 6),(22,some 7),(24,Option.none),(25,Option.none),(26,Option.none),(27,Option.none),(28,Option.none),(29,Option.none),(30,Option.none),(31,Option.none),(32,Option.none),(33,Option.none),(34,Option.none),(35,Option.none)]
end Mine
namespace Mine
open PySem
abbrev pw:Program:=PySem.Challenge.pw_ok0094_01
structure Ff where
 name:Str
 args:Arguments
 body:List Stmt
 scope:Scope
noncomputable def Mg (l:List Stmt) (i:Nat):Option Ff:=match l[i]? with
 |some (.FunctionDef n a b _ _ _ sc _ _ _)=>some ⟨n,a,b,sc⟩
 |_=>none
noncomputable def aaQ (f:Nat):Option Ff:=match Tx[f]? with
 |some (i,none)=>Mg pw.main.body i
 |some (i,some j)=>match pw.main.body[i]? with
  |some (.ClassDef _ _ _ b _ _ _ _ _ _ _)=>Mg b j
  |_=>none
 |none=>none
noncomputable def GS (f:Nat):List Str:=(ID.getD f []).map Str.ofString
noncomputable def YK (f:Nat):Bool:=match aaQ f,gV[f]? with
 |some d,some F=>ez d.scope (GS f) F.body d.body&&d.scope.kind== .function&& !d.scope.isGenerator&& !d.scope.isCoroutine&&F.np==d.args.args.length&&F.nl==(GS f).length
 |_,_=>false
theorem ac7:(List.range 39).filter (λf=> !YK f)=[]:=by decide +kernel
end Mine
namespace Mine
open PySem PySem.W PyProof.Rows PySem.Calls
theorem GK (x y:List Nat):(⟨x.toArray⟩:Str)++(⟨y.toArray⟩:Str)=⟨(x++y).toArray⟩:=by
 show PySem.Str.mk _=_
 simp
noncomputable def mk (l:List Nat):Str:=⟨l.toArray⟩
theorem wg {x y:List Nat} (h:mk x=mk y):x=y:=by unfold mk at h;injection h with h;simpa using h
theorem Vc (x:Str):mk x.cps.toList=x:=by cases x;simp [mk]
theorem vy (sep:List Nat):∀l:List (List Nat),Str.join (mk sep) (l.map mk)=mk (cu sep l)
 |[]=>rfl
 |[x]=>rfl
 |x::y::r=>by
  show mk x++mk sep++Str.join (mk sep) ((y::r).map mk)=_
  rw [vy sep (y::r)]
  unfold mk
  rw [GK,GK]
  simp [cu]
theorem aa6 (sep:List Nat) (l:List (List Nat)):Txt.join (mk sep) (l.map mk)=mk (cu sep l):=by
 unfold Txt.join
 rw [StrLaws.glued_eq_join]
 exact vy sep l
theorem Hq (c:Nat):∀s,dg c s≠[]
 |[]=>by simp [dg]
 |x::r=>by
  unfold dg
  split
  ·simp
  ·split<;>simp
theorem FQ (c:Nat):∀p,c∉p→dg c p=[p]
 |[],_=>rfl
 |x::r,h=>by
  have h1:x≠c:=λe=>h (by rw [e];exact .head _)
  have h2:c∉r:=λe=>h (.tail _ e)
  unfold dg
  rw [if_neg h1,FQ c r h2]
theorem KS (c:Nat) (s:List Nat):∀p,c∉p→dg c (p++c::s)=p::dg c s
 |[],_=>by simp [dg]
 |x::r,h=>by
  have h1:x≠c:=λe=>h (by rw [e];exact .head _)
  have h2:c∉r:=λe=>h (.tail _ e)
  show dg c (x::(r++c::s))=_
  rw [dg,if_neg h1,KS c s r h2]
theorem Js (c:Nat):∀l:List (List Nat),l≠[]→(∀p∈l,c∉p)→dg c (cu [c] l)=l
 |[],h,_=>absurd rfl h
 |[x],_,h=>FQ c x (h x (.head _))
 |x::y::r,_,h=>by
  show dg c (x++[c]++cu [c] (y::r))=_
  rw [List.append_assoc,List.singleton_append,KS c _ x (h x (.head _)),Js c (y::r) (by simp) λp hp=>h p (.tail _ hp)]
theorem I5 (s:List Nat) (c:Nat):Txt.split (mk s) (mk [c])=(dg c s).map mk:=by
 have hj:=StrLaws.join_split (mk s) ⟨#[c]⟩
 have hf:=StrLaws.split_free (mk s) c
 have hl:=split_len (mk s) c
 show Txt.split (mk s) ⟨#[c]⟩=_
 generalize Txt.split (mk s) ⟨#[c]⟩=Jf at hj hf hl
 obtain ⟨l,rfl⟩:∃l:List (List Nat),Jf=l.map mk:=⟨Jf.map λp=>p.cps.toList,by rw [List.map_map];simp [Function.comp_def,Vc]⟩
 have XD:cu [c] l=s:=by
  have:Str.join (mk [c]) (l.map mk)=mk s:=hj
  rw [vy] at this
  exact wg this
 have cz:l≠[]:=by
  rintro rfl
  have:0≤cnt c (mk s).cps.toList:=by
   have:∀l:List Nat,0≤cnt c l:=λl=>by
    induction l with
    |nil=>rw [cnt_nil];exact Int.le_refl _
    |cons x r ih=>rw [cnt_cons];split<;>omega
   exact this _
  simp at hl
  omega
 rw [←XD,Js c l cz λp hp=>by simpa [mk] using hf (mk p) (List.mem_map_of_mem hp)]
theorem E5 (c d:Nat):∀s:List Nat,cu [d] (dg c s)=s.map λx=>if x=c then d else x
 |[]=>rfl
 |x::r=>by
  have ih:=E5 c d r
  unfold dg
  by_cases h:x=c
  ·rw [if_pos h,List.map_cons,if_pos h, ←ih]
   cases hq:dg c r with
   |nil=>exact absurd hq (Hq c r)
   |cons p ps=>rfl
  ·rw [if_neg h,List.map_cons,if_neg h, ←ih]
   cases hq:dg c r with
   |nil=>exact absurd hq (Hq c r)
   |cons p ps=>cases ps<;>rfl
theorem Ye (s:List Nat) (c d:Nat):Txt.replace (mk s) (mk [c]) (mk [d])=mk (s.map λx=>if x=c then d else x):=by
 have:=StrLaws.replace_one (mk s) (mk [d]) c
 show Txt.replace (mk s) ⟨#[c]⟩ (mk [d])=_
 rw [this]
 show Str.join (mk [d]) (Txt.split (mk s) (mk [c]))=_
 rw [I5,vy,E5]
theorem ML (c:Nat):∀l:List Nat,cnt c l=((l.count c:Nat):Int)
 |[]=>by rw [cnt_nil];rfl
 |x::r=>by
  rw [cnt_cons,ML c r,List.count_cons]
  by_cases h:x=c<;>simp [h]<;>omega
theorem N8 (s:List Nat) (c:Nat):Txt.count (mk s) (mk [c])=((s.count c:Nat):Int):=by
 have:=count_cnt (mk s) c
 show Txt.count (mk s) ⟨#[c]⟩=_
 rw [this,ML]
 simp [mk]
theorem LA {α:Type} (p:α→Bool) (l:List α):l.drop (l.takeWhile p).length=l.dropWhile p:=by
 induction l with
 |nil=>rfl
 |cons x r ih=>
  by_cases h:p x=true
  ·simp [h,ih]
  ·simp [h]
theorem RG:∀c,c<128→Unicode.isSpace c=dC c:=by decide +kernel
theorem EN {α:Type} {p q:α→Bool}:∀{l:List α},(∀x∈l,p x=q x)→l.dropWhile p=l.dropWhile q
 |[],_=>rfl
 |x::r,h=>by
  rw [List.dropWhile_cons,List.dropWhile_cons,h x (.head _),EN λy hy=>h y (.tail _ hy)]
theorem Xm (s:List Nat) (ha:vZ s=true):Txt.strip (mk s)=mk (cZ s):=by
 have hs:∀c∈s,Unicode.isSpace c=dC c:=λc hc=>by
  have:=List.all_eq_true.mp ha c hc
  exact RG c (by simpa using this)
 unfold Txt.strip
 rw [W.stripBy_eq]
 unfold W.stripped
 simp only [if_true]
 have hl:(mk s).cps.toList=s:=by simp [mk]
 have dw:(mk s).length=s.length:=by simp [mk,Str.length]
 rw [hl,LA,dw]
 unfold cZ Builtin.Str.strSub
 have e1:s.dropWhile Unicode.isSpace=s.dropWhile dC:=EN hs
 rw [e1]
 have UC:∀c∈s.dropWhile dC,Unicode.isSpace c=dC c:=λc hc=>hs c (List.dropWhile_suffix _ |>.subset hc)
 have e2:((s.dropWhile dC).reverse.takeWhile Unicode.isSpace).length=((s.dropWhile dC).reverse.takeWhile dC).length:=by
  have:∀l:List Nat,(∀c∈l,Unicode.isSpace c=dC c)→l.takeWhile Unicode.isSpace=l.takeWhile dC:=by
   intro l
   induction l with
   |nil=>intro _;rfl
   |cons x r ih=>intro h;rw [List.takeWhile_cons,List.takeWhile_cons,h x (.head _),ih λy hy=>h y (.tail _ hy)]
  rw [this _ λc hc=>UC c (List.mem_reverse.mp hc)]
 rw [e2]
 have vJ:(s.takeWhile Unicode.isSpace).length=(s.takeWhile dC).length:=by
  have h1:=congrArg List.length (List.takeWhile_append_dropWhile (p:=Unicode.isSpace) (l:=s))
  have h2:=congrArg List.length (List.takeWhile_append_dropWhile (p:=dC) (l:=s))
  rw [List.length_append,e1] at h1
  rw [List.length_append] at h2
  omega
 rw [vJ]
 unfold mk
 congr 1
 rw [←Array.toList_inj]
 simp only [Array.toList_extract,List.toList_toArray,List.extract_eq_take_drop]
 rw [LA]
 generalize hd:s.dropWhile dC=d
 have Mq:s.length=(s.takeWhile dC).length+d.length:=by
  rw [←hd, ←List.length_append,List.takeWhile_append_dropWhile]
 have:d=(d.reverse.dropWhile dC).reverse++(d.reverse.takeWhile dC).reverse:=by
  rw [←List.reverse_append,List.takeWhile_append_dropWhile,List.reverse_reverse]
 have acJ:d.length=((d.reverse.dropWhile dC).reverse).length+(d.reverse.takeWhile dC).length:=by
  have:=congrArg List.length this
  rw [List.length_append,List.length_reverse (as:=List.takeWhile _ _)] at this
  exact this
 have hk:s.length-(d.reverse.takeWhile dC).length-(s.takeWhile dC).length=((d.reverse.dropWhile dC).reverse).length:=by omega
 rw [hk]
 exact (congrArg (List.take _) this).trans List.take_left
theorem BE {M:Model} {Γ:Ctx} {p:Pos} {t:Sem Fin} {fs:List Frame} {s s':Shared} {e:End} (h:Runs M Γ p t fs s e s'):s.toks≤s'.toks:=by
 induction h with
 |done |raise |yield=>exact adp _
 |fresh _ ih=>exact adj (Nat.le_succ _) ih
 |again _ _ ih |rule _ ih | «at» _ ih |load _ _ ih |update _ _ ih |loadIfAlive _ ih |point _ ih |alloc _ ih |ask _ ih |choose _ _ ih |os _ ih |handled _ ih |genState _ _ ih |stack _ ih |thread _ ih |newGen _ ih=>exact ih
 |callSusp _ ih=>exact ih
 |call _ _ a b=>exact adj a b
 |resumeFresh _ _ _ _ a b=>exact adj a b
 |resumeSuspended _ _ _ _ a b=>exact adj a b
 |resumeJustStarted _ _ _ ih |resumeThrowFresh _ _ ih |resumeRunning _ _ ih |resumeFinished _ _ ih=>exact ih
 |segRet _ _ a b |segGen _ _ a b=>exact adj a b
 |segSuspOut _ _ ih=>exact ih
 |segSuspGen _ _ _ _ a b=>exact adj a b
theorem aaj {α:Type} {M:Model} {Γ:Ctx} {t:Sem α} {Q:α→Pos→Shared→Prop} {E:Value→Pos→Shared→Prop} {p:Pos} {s:Shared} (h:Sem.wp M Γ t Q E p s):
  Sem.wp M Γ t (λa p s'=>Q a p s'∧s.toks≤s'.toks) (λe p s'=>E e p s'∧s.toks≤s'.toks) p s:=by
 have aQ:∀(t:Sem α) (p:Pos) (bN:Shared),s.toks≤bN.toks→Sem.wp M Γ t Q E p bN→Sem.wp M Γ t (λa p s'=>Q a p s'∧s.toks≤s'.toks) (λe p s'=>E e p s'∧s.toks≤s'.toks) p bN:=by
  intro t
  induction t with
  |pure x |raise x=>exact λp bN l h=>⟨h,l⟩
  |unsupported |finish |yield |fork |await |register=>exact λ_ _ _ h=>h
  |fresh k ih=>exact λp bN l h=>ih _ _ _ (adj l (Nat.le_succ _)) h
  |rule _ k ih | «at» _ k ih |alloc _ k ih |loadIfAlive _ k ih |point _ k ih |ask k ih |os _ _ k ih |handled _ k ih |newGen _ k ih |stack k ih |thread k ih=>exact λp bN l h=>ih _ _ _ l h
  |load a _ k ih |genState a k ih=>exact λp bN l ⟨o,ho,h⟩=>⟨o,ho,ih _ _ _ l h⟩
  |update a _ f k ih |choose _ _ k ih=>exact λp bN l ⟨ha,h⟩=>⟨ha,ih _ _ _ l h⟩
  |call c h g l k ih=>exact λp bN l ⟨r,s',hr,h⟩=>⟨r,s',hr,ih _ _ _ (adj l (BE hr)) h⟩
  |resume g r l k ih=>
   intro p bN le ⟨res,s',hw,h⟩
   refine ⟨res,s',hw,ih _ _ _ (adj le ?_) h⟩
   unfold Wakes at hw
   repeat' split at hw
   all_goals first
    |(obtain ⟨_,_,h1,_,_,h2⟩:=hw;subst h2;exact (show bN.toks≤_ from (BE h1:)))
    |(obtain ⟨_,h2⟩:=hw;subst h2;exact adp _)
    |exact False.elim hw
 exact aQ t p s (adp _) h
theorem wpAny_toks {α:Type} {M:Model} {A:Around} {t:Sem α} {Q:α→Shared→Prop} {E:Value→Shared→Prop} {s:Shared} (h:wpAny M A t Q E s):
  wpAny M A t (λa s'=>Q a s'∧s.toks≤s'.toks) (λe s'=>E e s'∧s.toks≤s'.toks) s:=λΓ p Yk=>aaj (h Γ p Yk)
theorem acU {M:Model} {A:Around} {c:Code} {R:Result→Shared→Prop} {s:Shared} (h:codeAny M A c R s):
  codeAny M A c (λr s'=>R r s'∧s.toks≤s'.toks) s:=λΓ p h1 h2=>by
 obtain ⟨r,s',hr,h⟩:=h Γ p h1 h2
 exact ⟨r,s',hr,h,BE hr⟩
abbrev aH:=List (Addr×Addr)
noncomputable def bL (Z:aH) (b:Addr):Prop:=∃p∈Z,b=p.1∨b=p.2
noncomputable def cB:cj→Addr
 | .macro=>162
 | .table=>197
 | .eA=>268
noncomputable def bA:Addr:=45
noncomputable def aB (f:Nat):Str:=Str.ofString (tX.getD f "")
mutual
noncomputable def RV (J h:Heap) (Z:aH):V→Value→Prop
 | .none,v=>v= .none
 | .bool b,v=>v= .bool b
 | .int i,v=>∃t,v= .int i t
 | .str s,v=>(∃t,v= .str ⟨s.toArray⟩ t)∧s.length≤aq
 | .ref n,v=>∃p,Z[n]?=some p∧v= .ref p.1
 | .tup vs,v=>∃a ws,v= .ref a∧IsTup h a ws∧aD J h Z vs ws.toList
 | .frozen vs,v=>∃a o ws,v= .ref a∧J.get? a=some o∧h.IsList a ws∧ws.size≤aq∧aD J h Z vs ws.toList
noncomputable def aD (J h:Heap) (Z:aH):List V→List Value→Prop
 |[],ws=>ws=[]
 |v::vs,ws=>∃x r,ws=x::r∧RV J h Z v x∧aD J h Z vs r
end
theorem lp {Z ai:aH} (hp:Z<+:ai) {n:Nat} {p:Addr×Addr} (e:Z[n]?=some p):ai[n]?=some p:=by
 obtain ⟨t,rfl⟩:=hp
 rw [List.getElem?_append_left (List.getElem?_eq_some_iff.mp e).1]
 exact e
theorem aD.length {J h:Heap} {Z:aH}:∀{vs:List V} {ws:List Value},aD J h Z vs ws→ws.length=vs.length
 |[],_,e=>by simp only [aD] at e;rw [e];rfl
 |_::_,_,e=>by
  simp only [aD] at e
  obtain ⟨x,r,rfl,_,h⟩:=e
  rw [List.length_cons,List.length_cons,aD.length h]
theorem aD.get {J h:Heap} {Z:aH}:∀{vs:List V} {ws:List Value},aD J h Z vs ws→∀{i:Nat} {v:V},vs[i]?=some v→∃x,ws[i]?=some x∧RV J h Z v x
 |[],_,_,_,_,q=>by cases q
 |_::_,_,e,i,v,q=>by
  simp only [aD] at e
  obtain ⟨x,r,rfl,hx,h⟩:=e
  cases i with
  |zero=>cases q;exact ⟨x,rfl,hx⟩
  |succ i=>exact aD.get h (by simpa using q)
theorem aD.set {J h:Heap} {Z:aH}:∀{vs:List V} {ws:List Value},aD J h Z vs ws→∀{i:Nat} {v:V} {x:Value},RV J h Z v x→aD J h Z (vs.set i v) (ws.set i x)
 |[],_,e,_,_,_,_=>by simp only [aD] at e;subst e;simp [aD]
 |_::_,_,e,i,v,x,q=>by
  simp only [aD] at e
  obtain ⟨y,r,rfl,hy,h⟩:=e
  cases i with
  |zero=>simp only [List.set_cons_zero,aD];exact ⟨x,r,rfl,q,h⟩
  |succ i=>simp only [List.set_cons_succ,aD];exact ⟨y,_,rfl,hy,aD.set h q⟩
theorem aD.append {J h:Heap} {Z:aH}:∀{vs us:List V} {ws xs:List Value},aD J h Z vs ws→aD J h Z us xs→aD J h Z (vs++us) (ws++xs)
 |[],_,_,_,e,q=>by simp only [aD] at e;subst e;exact q
 |_::_,_,_,_,e,q=>by
  simp only [aD] at e
  obtain ⟨y,r,rfl,hy,h⟩:=e
  simp only [List.cons_append,aD]
  exact ⟨y,_,rfl,hy,aD.append h q⟩
theorem aD.cons {J h:Heap} {Z:aH} {v:V} {vs:List V} {x:Value} {ws:List Value} (a:RV J h Z v x) (b:aD J h Z vs ws):aD J h Z (v::vs) (x::ws):=by
 simp only [aD];exact ⟨x,ws,rfl,a,b⟩
theorem aD.nil {J h:Heap} {Z:aH}:aD J h Z [] []:=by simp only [aD]
theorem aD.one {J h:Heap} {Z:aH} {v:V} {x:Value} (a:RV J h Z v x):aD J h Z [v] [x]:=aD.cons a aD.nil
theorem aD.take {J h:Heap} {Z:aH}:∀{vs:List V} {ws:List Value},aD J h Z vs ws→∀n,aD J h Z (vs.take n) (ws.take n)
 |_,_,_,0=>by simp [aD]
 |[],_,e,n+1=>by simp only [aD] at e;subst e;simp [aD]
 |_::_,_,e,n+1=>by
  simp only [aD] at e
  obtain ⟨y,r,rfl,hy,h⟩:=e
  simp only [List.take_succ_cons]
  exact aD.cons hy (aD.take h n)
theorem aD.drop {J h:Heap} {Z:aH}:∀{vs:List V} {ws:List Value},aD J h Z vs ws→∀n,aD J h Z (vs.drop n) (ws.drop n)
 |_,_,e,0=>by simpa using e
 |[],_,e,n+1=>by simp only [aD] at e;subst e;simp [aD]
 |_::_,_,e,n+1=>by
  simp only [aD] at e
  obtain ⟨y,r,rfl,hy,h⟩:=e
  simp only [List.drop_succ_cons]
  exact aD.drop h n
structure VK (J:Heap) (Z:aH) (h:Heap) (ai:aH) (h':Heap):Prop where
 pre:Z<+:ai
 seq:∀b o,h.get? b=some o→¬bL Z b→(∃vs n,o.data= .seq vs n)→(o.cls= .type "tuple"∨(J.get? b).isSome)→∃sl,h'.get? b=some {o with slots:=sl}
 stays:J.StaysIn h'
 off:∀p∈Z,J.get? p.1=none∧J.get? p.2=none
 cells:∀b o,bL Z b→h.get? b=some o→(∀vs n,o.data= .seq vs n→o.cls= .type "list")
theorem AY {J:Heap} {Z:aH} (off:∀p∈Z,J.get? p.1=none∧J.get? p.2=none) {a:Addr} {o:Obj} (e:J.get? a=some o):¬bL Z a:=by
 rintro ⟨p,hp,rfl |rfl⟩
 ·rw [(off p hp).1] at e;cases e
 ·rw [(off p hp).2] at e;cases e
mutual
theorem RV.mono {J h h':Heap} {Z ai:aH} (k:VK J Z h ai h'):∀{v:V} {x:Value},RV J h Z v x→RV J h' ai v x
 | .none,_,e=>by simpa only [RV] using e
 | .bool _,_,e=>by simpa only [RV] using e
 | .int _,_,e=>by simpa only [RV] using e
 | .str _,_,e=>by simpa only [RV] using e
 | .ref n,_,e=>by
  simp only [RV] at e ⊢
  obtain ⟨p,hp,rfl⟩:=e
  exact ⟨p,lp k.pre hp,rfl⟩
 | .tup vs,_,e=>by
  simp only [RV] at e ⊢
  obtain ⟨a,ws,rfl,⟨o,ho,hc,n,hd⟩,r⟩:=e
  have nf:¬bL Z a:=λq=>by
   exact absurd (hc.symm.trans (k.cells a o q ho _ _ hd)) (by decide)
  obtain ⟨sl,hs⟩:=k.seq a o ho nf ⟨_,_,hd⟩ (.inl hc)
  exact ⟨a,ws,rfl,⟨_,hs,hc,n,hd⟩,aD.mono k r⟩
 | .frozen vs,_,e=>by
  simp only [RV] at e ⊢
  obtain ⟨a,o,ws,rfl,hb,⟨o',ho,hc,n,hd⟩,hz,r⟩:=e
  obtain ⟨sl,hs⟩:=k.seq a o' ho (AY k.off hb) ⟨_,_,hd⟩ (.inr (by rw [hb];rfl))
  exact ⟨a,o,ws,rfl,hb,⟨_,hs,hc,n,hd⟩,hz,aD.mono k r⟩
theorem aD.mono {J h h':Heap} {Z ai:aH} (k:VK J Z h ai h'):∀{vs:List V} {ws:List Value},aD J h Z vs ws→aD J h' ai vs ws
 |[],_,e=>by simpa only [aD] using e
 |_::_,_,e=>by
  simp only [aD] at e ⊢
  obtain ⟨x,r,rfl,hx,h⟩:=e
  exact ⟨x,r,rfl,RV.mono k hx,aD.mono k h⟩
end
section
variable (U:Program) (w:World)
noncomputable def bo (J h:Heap) (Z:aH):List (List Nat×V)→List (Str×Value)→Prop
 |[],l=>l=[]
 |(k,v)::r,l=>∃x q,l=(⟨k.toArray⟩,x)::q∧RV J h Z v x∧bo J h Z r q
noncomputable def cD (J h:Heap) (Z:aH):List (Nat×V)→List DictEntry→Prop
 |[],l=>l=[]
 |(f,v)::r,l=>∃hs t x q,l=⟨hs,.str (aB f) t,x⟩::q∧f<14∧RV J h Z v x∧cD J h Z r q
noncomputable def RC (J h:Heap) (Z:aH) (p:Addr×Addr):Cell→Prop
 | .list vs=>p.2=p.1∧vs.length≤aq∧∃ws,h.PlainList p.1 ws∧aD J h Z vs ws.toList
 | .dict es=>p.2=p.1∧es.length≤1000000∧∃cL,h.DictOf (strKind U w) p.1 cL∧bo J h Z es cL
 | .inst c fs=>h.get? p.1=some (instObj (cB c) p.2)∧fs.length≤14∧(fs.map (·.1)).Nodup∧∃es n,h.get? p.2=some (dictOf es n)∧cD J h Z fs es
structure SR (J h:Heap) (Z:aH) (O:ag):Prop where
 len:Z.length=O.length
 cell:∀(n:Nat) p c,Z[n]?=some p→O[n]?=some c→RC U w J h Z p c
 sep:∀(n m:Nat) p q,Z[n]?=some p→Z[m]?=some q→n≠m→p.1≠q.1∧p.1≠q.2∧p.2≠q.1∧p.2≠q.2
 off:∀p∈Z,J.get? p.1=none∧J.get? p.2=none
end
section
variable {U:Program} {w:World} {J h h':Heap} {Z ai:aH} {O:ag}
theorem bo.mono (k:VK J Z h ai h'):∀{es:List (List Nat×V)} {l:List (Str×Value)},bo J h Z es l→bo J h' ai es l
 |[],_,e=>e
 |(_,_)::_,_,e=>by
  simp only [bo] at e ⊢
  obtain ⟨x,q,a,b,c⟩:=e
  exact ⟨x,q,a,RV.mono k b,bo.mono k c⟩
theorem cD.mono (k:VK J Z h ai h'):∀{es:List (Nat×V)} {l:List DictEntry},cD J h Z es l→cD J h' ai es l
 |[],_,e=>e
 |(_,_)::_,_,e=>by
  simp only [cD] at e ⊢
  obtain ⟨hs,t,x,q,a,g,b,c⟩:=e
  exact ⟨hs,t,x,q,a,g,RV.mono k b,cD.mono k c⟩
theorem RC.mono (k:VK J Z h ai h') {p:Addr×Addr} (e1:∀o,h.get? p.1=some o→h'.get? p.1=some o) (e2:∀o,h.get? p.2=some o→h'.get? p.2=some o):∀{c:Cell},RC U w J h Z p c→RC U w J h' ai p c
 | .list vs,⟨a,b,ws,⟨o,ho⟩,d⟩=>⟨a,b,ws,⟨o,e1 _ ho⟩,aD.mono k d⟩
 | .dict es,⟨a,b,cL,⟨o,x,ep,ho,r⟩,d⟩=>⟨a,b,cL,⟨o,x,ep,e1 o ho,r⟩,bo.mono k d⟩
 | .inst c fs,⟨a,b,nd,es,n,d,f⟩=>⟨e1 _ a,b,nd,es,n,e2 _ d,cD.mono k f⟩
theorem RC.kind {p:Addr×Addr} {c:Cell} (x:RC U w J h Z p c) {b:Addr} (hb:b=p.1∨b=p.2):
  ∃o,h.get? b=some o∧((∃vs n,o.data= .seq vs n∧o.cls= .type "list")∨(∃es n,o.data= .dict es n)∨(o.data= .plain)):=by
 cases c with
 |list vs=>
  obtain ⟨a,_,ws,⟨n,ho⟩,_⟩:=x
  have:b=p.1:=by rcases hb with h |h<;>simp_all
  exact ⟨_,this▸ho,.inl ⟨_,_,rfl,rfl⟩⟩
 |dict es=>
  obtain ⟨a,_,cL,⟨o,x,ep,ho,_,hd,_⟩,_⟩:=x
  have:b=p.1:=by rcases hb with h |h<;>simp_all
  exact ⟨o,this▸ho,.inr (.inl ⟨_,_,hd⟩)⟩
 |inst c fs=>
  obtain ⟨a,_,_,es,n,d,_⟩:=x
  rcases hb with h |h
  ·exact ⟨_,h▸a,.inr (.inr rfl)⟩
  ·exact ⟨_,h▸d,.inr (.inl ⟨_,_,rfl⟩)⟩
theorem SR.kind (S:SR U w J h Z O) {b:Addr} (hb:bL Z b):
  ∃o,h.get? b=some o∧((∃vs n,o.data= .seq vs n∧o.cls= .type "list")∨(∃es n,o.data= .dict es n)∨(o.data= .plain)):=by
 obtain ⟨p,hp,e⟩:=hb
 obtain ⟨n,hn⟩:=List.getElem?_of_mem hp
 have hl:n<O.length:=by rw [←S.len];exact (List.getElem?_eq_some_iff.mp hn).1
 exact (S.cell n p _ hn (List.getElem?_eq_getElem hl)).kind e
theorem SR.live (S:SR U w J h Z O) {b:Addr} (hb:bL Z b):(h.get? b).isSome:=by
 obtain ⟨o,e,_⟩:=S.kind hb
 rw [e];rfl
theorem SR.BY (S:SR U w J h Z O) {b:Addr} {o:Obj} {vs:Array Value} (e:h.get? b=some o) (hd:o.data= .fields vs):¬bL Z b:=λq=>by
 obtain ⟨o',e',k⟩:=S.kind q
 rw [e] at e';cases e'
 rcases k with ⟨_,_,k,_⟩ |⟨_,_,k⟩ |k<;>rw [hd] at k<;>cases k
theorem SR.CV (S:SR U w J h Z O) {b:Addr} {o:Obj} {v:Option Value} (e:h.get? b=some o) (hd:o.data= .cell v):¬bL Z b:=λq=>by
 obtain ⟨o',e',k⟩:=S.kind q
 rw [e] at e';cases e'
 rcases k with ⟨_,_,k,_⟩ |⟨_,_,k⟩ |k<;>rw [hd] at k<;>cases k
theorem SR.cells (S:SR U w J h Z O):∀b o,bL Z b→h.get? b=some o→(∀vs n,o.data= .seq vs n→o.cls= .type "list"):=λb o q e vs n hd=>by
 obtain ⟨o',e',k⟩:=S.kind q
 rw [e] at e';cases e'
 rcases k with ⟨_,_,_,k⟩ |⟨_,_,k⟩ |k
 ·exact k
 ·rw [hd] at k;cases k
 ·rw [hd] at k;cases k
noncomputable def aE:Addr→Prop:=λ_=>False
structure aj (X:Addr→Prop) (Z:aH) (s:Shared) (ai:aH) (s':Shared):Prop where
 pre:Z<+:ai
 keep:∀b o,s.heap.get? b=some o→¬bL Z b→¬X b→s'.heap.get? b=some o
 live:∀b,(s.heap.get? b).isSome→(s'.heap.get? b).isSome
 new:∀(n:Nat) p,Z.length≤n→ai[n]?=some p→s.heap.get? p.1=none∧s.heap.get? p.2=none
 gens:s'.gens=s.gens
 drawn:s'.drawn=s.drawn
 os:s'.os=s.os
theorem aj.refl (X:Addr→Prop) (Z:aH) (s:Shared):aj X Z s Z s:=
 ⟨List.prefix_refl _,λ_ _ e _ _=>e,λ_ e=>e,λn p hn e=>(by rw [List.getElem?_eq_none hn] at e;cases e),rfl,rfl,rfl⟩
theorem abX {b:Addr} (hp:Z<+:ai) (q:bL Z b):bL ai b:=by
 obtain ⟨p,hm,e⟩:=q
 exact ⟨p,hp.subset hm,e⟩
theorem gT {X:Addr→Prop} {s s':Shared} (E:aj X Z s ai s') {b:Addr} (hl:(s.heap.get? b).isSome) (q:bL ai b):bL Z b:=by
 obtain ⟨p,hm,e⟩:=q
 obtain ⟨n,hn⟩:=List.getElem?_of_mem hm
 by_cases aK:n<Z.length
 ·have:=lp E.pre (List.getElem?_eq_getElem aK)
  rw [hn] at this
  injection this with this
  exact ⟨p,this▸List.getElem_mem aK,e⟩
 ·obtain ⟨a,c⟩:=E.new n p (Nat.le_of_not_lt aK) hn
  rcases e with rfl |rfl
  ·rw [a] at hl;cases hl
  ·rw [c] at hl;cases hl
theorem aj.trans {X:Addr→Prop} {s s' cc:Shared} {gC:aH} (a:aj X Z s ai s') (b:aj X ai s' gC cc):aj X Z s gC cc:=by
 refine ⟨a.pre.trans b.pre,λc o e nf nx=>b.keep c o (a.keep c o e nf nx) (λq=>nf (gT a (by rw [e];rfl) q)) nx,λc e=>b.live c (a.live c e),λn p hn e=>?_,
  b.gens.trans a.gens,b.drawn.trans a.drawn,b.os.trans a.os⟩
 have s9:∀c,s'.heap.get? c=none→s.heap.get? c=none:=λc q=>by
  cases z:s.heap.get? c with
  |none=>rfl
  |some o=>have:=a.live c (by rw [z];rfl);rw [q] at this;cases this
 by_cases aK:n<ai.length
 ·have:=lp b.pre (List.getElem?_eq_getElem aK)
  rw [e] at this
  exact a.new n p hn (by rw [this];exact List.getElem?_eq_getElem aK)
 ·obtain ⟨x,y⟩:=b.new n p (Nat.le_of_not_lt aK) e
  exact ⟨s9 _ x,s9 _ y⟩
theorem aj.chain {X Y:Addr→Prop} {s s' cc:Shared} {gC:aH} (a:aj X Z s ai s') (b:aj Y ai s' gC cc) (h:∀c,Y c→X c∨s.heap.get? c=none):aj X Z s gC cc:=by
 refine ⟨a.pre.trans b.pre,λc o e nf nx=>b.keep c o (a.keep c o e nf nx) (λq=>nf (gT a (by rw [e];rfl) q)) (λy=>?_),λc e=>b.live c (a.live c e),λn p hn e=>?_,
  b.gens.trans a.gens,b.drawn.trans a.drawn,b.os.trans a.os⟩
 ·rcases h c y with q |q
  ·exact nx q
  ·rw [q] at e;cases e
 have s9:∀c,s'.heap.get? c=none→s.heap.get? c=none:=λc q=>by
  cases z:s.heap.get? c with
  |none=>rfl
  |some o=>have:=a.live c (by rw [z];rfl);rw [q] at this;cases this
 by_cases aK:n<ai.length
 ·have:=lp b.pre (List.getElem?_eq_getElem aK)
  rw [e] at this
  exact a.new n p hn (by rw [this];exact List.getElem?_eq_getElem aK)
 ·obtain ⟨x,y⟩:=b.new n p (Nat.le_of_not_lt aK) e
  exact ⟨s9 _ x,s9 _ y⟩
theorem aj.weaken {X Y:Addr→Prop} {s s':Shared} (a:aj X Z s ai s') (h:∀b,X b→Y b):aj Y Z s ai s':=
 ⟨a.pre,λb o e nf ny=>a.keep b o e nf λq=>ny (h b q),a.live,a.new,a.gens,a.drawn,a.os⟩
theorem aj.vk {X:Addr→Prop} {s s':Shared} (a:aj X Z s ai s') (S:SR U w J s.heap Z O) (st:J.StaysIn s'.heap) (hX:∀b o,X b→s.heap.get? b=some o→∀vs n,o.data= .seq vs n→False):VK J Z s.heap ai s'.heap:=
 ⟨a.pre,λb o e nf ⟨vs,n,hd⟩ _=>⟨o.slots,a.keep b o e nf λq=>hX b o q e vs n hd⟩,st,S.off,S.cells⟩
theorem aj.stays {X:Addr→Prop} {s s':Shared} (a:aj X Z s ai s') (S:SR U w J s.heap Z O) (st:J.StaysIn s.heap) (hX:∀b,X b→J.get? b=none):J.StaysIn s'.heap:=λb o e=>
 a.keep b o (st b o e) (AY S.off e) λq=>by rw [hX b q] at e;cases e
theorem SR.grow (S:SR U w J h Z O) (k:VK J Z h Z h') (e:∀b o,bL Z b→h.get? b=some o→h'.get? b=some o):SR U w J h' Z O:=by
 refine ⟨S.len,λn p c hn hc=>(S.cell n p c hn hc).mono k (λo=>e p.1 o ⟨p,List.mem_of_getElem? hn,.inl rfl⟩) (λo=>e p.2 o ⟨p,List.mem_of_getElem? hn,.inr rfl⟩),S.sep,S.off⟩
theorem SR.turn (S:SR U w J h Z O) (k:VK J Z h Z h') {n:Nat} {p:Addr×Addr} (hn:Z[n]?=some p) {c:Cell} (hc:RC U w J h' Z p c)
    (e:∀b o,bL Z b→b≠p.1→b≠p.2→h.get? b=some o→h'.get? b=some o):SR U w J h' Z (O.set n c):=by
 refine ⟨by rw [List.length_set];exact S.len,λm q d hm hd=>?_,S.sep,S.off⟩
 by_cases eY:n=m
 ·subst eY
  rw [hn] at hm;cases hm
  have hl:n<O.length:=by rw [←S.len];exact (List.getElem?_eq_some_iff.mp hn).1
  rw [List.getElem?_set_self hl] at hd
  cases hd;exact hc
 ·rw [List.getElem?_set_ne eY] at hd
  obtain ⟨a1,a2,a3,a4⟩:=S.sep n m p q hn hm eY
  have kS:=List.mem_of_getElem? hm
  exact (S.cell m q d hm hd).mono k (λo=>e q.1 o ⟨q,kS,.inl rfl⟩ (Ne.symm a1) (Ne.symm a3)) (λo=>e q.2 o ⟨q,kS,.inr rfl⟩ (Ne.symm a2) (Ne.symm a4))
theorem SR.add {p:Addr×Addr} (S:SR U w J h Z O) (k:VK J Z h (Z++[p]) h') {c:Cell} (hc:RC U w J h' (Z++[p]) p c)
    (e:∀b o,bL Z b→h.get? b=some o→h'.get? b=some o) (n1:¬bL Z p.1) (n2:¬bL Z p.2) (b1:J.get? p.1=none) (b2:J.get? p.2=none):SR U w J h' (Z++[p]) (O++[c]):=by
 have L5:∀(n:Nat) q,Z[n]?=some q→q.1≠p.1∧q.1≠p.2∧q.2≠p.1∧q.2≠p.2:=λn q hq=>by
  have kS:=List.mem_of_getElem? hq
  refine ⟨λz=>n1 ⟨q,kS,.inl z.symm⟩,λz=>n2 ⟨q,kS,.inl z.symm⟩,λz=>n1 ⟨q,kS,.inr z.symm⟩,λz=>n2 ⟨q,kS,.inr z.symm⟩⟩
 refine ⟨by simp [S.len],λn q d hn hd=>?_,λn m x y hx hy ne=>?_,λq hq=>?_⟩
 ·by_cases aK:n<Z.length
  ·rw [List.getElem?_append_left aK] at hn
   rw [List.getElem?_append_left (S.len▸aK)] at hd
   have kS:=List.mem_of_getElem? hn
   exact (S.cell n q d hn hd).mono k (λo=>e q.1 o ⟨q,kS,.inl rfl⟩) (λo=>e q.2 o ⟨q,kS,.inr rfl⟩)
  ·have jX:=Nat.le_of_not_lt aK
   rw [List.getElem?_append_right jX] at hn
   rw [List.getElem?_append_right (S.len▸jX), ←S.len] at hd
   cases hk:n-Z.length with
   |zero=>rw [hk] at hn hd;cases hn;cases hd;exact hc
   |succ j=>rw [hk] at hn;simp at hn
 ·have cP:∀(i:Nat) q,(Z++[p])[i]?=some q→Z[i]?=some q∨(i=Z.length∧q=p):=λi q hi=>by
   by_cases aK:i<Z.length
   ·rw [List.getElem?_append_left aK] at hi;exact .inl hi
   ·have jX:=Nat.le_of_not_lt aK
    rw [List.getElem?_append_right jX] at hi
    cases hk:i-Z.length with
    |zero=>rw [hk] at hi;cases hi;exact .inr ⟨by omega,rfl⟩
    |succ j=>rw [hk] at hi;simp at hi
  rcases cP n x hx with a |⟨a,rfl⟩<;>rcases cP m y hy with c |⟨c,rfl⟩
  ·exact S.sep n m x y a c ne
  ·exact L5 n x a
  ·obtain ⟨z1,z2,z3,z4⟩:=L5 m y c
   exact ⟨Ne.symm z1,Ne.symm z3,Ne.symm z2,Ne.symm z4⟩
  ·exact absurd (a.trans c.symm) ne
 ·rcases List.mem_append.mp hq with z |z
  ·exact S.off q z
  ·rw [List.mem_singleton] at z;subst z;exact ⟨b1,b2⟩
theorem SR.more {p:Addr×Addr} (S:SR U w J h Z O) (k:VK J Z h (Z++[p]) h') {c:Cell} (hc:RC U w J h' (Z++[p]) p c)
    (e:∀b o,bL Z b→h.get? b=some o→h'.get? b=some o) (n1:h.get? p.1=none) (n2:h.get? p.2=none) (b1:J.get? p.1=none) (b2:J.get? p.2=none):SR U w J h' (Z++[p]) (O++[c]):=
 S.add k hc e (λq=>by have:=S.live q;rw [n1] at this;cases this) (λq=>by have:=S.live q;rw [n2] at this;cases this) b1 b2
end
noncomputable def bb (fl:List Env):List Addr:=fl.filterMap (·.frame)
structure St (U:Program) (w:World) (J:Heap) (fl:List Env) (Z:aH) (O:ag) (s:Shared):Prop where
 sr:SR U w J s.heap Z O
 stays:J.StaysIn s.heap
 frames:s.heap.FunFrames J fl
 jC:∀a∈bb fl,¬bL Z a
 tok:0<s.toks
structure cV (X F:Addr→Prop) (Z:aH) (s:Shared) (ai:aH) (s':Shared):Prop where
 pre:Z<+:ai
 keep:∀b o,s.heap.get? b=some o→¬bL Z b→¬X b→∃sl,s'.heap.get? b=some {o with slots:=sl}∧(¬F b→sl=o.slots)
 live:∀b,(s.heap.get? b).isSome→(s'.heap.get? b).isSome
 new:∀(n:Nat) p,Z.length≤n→ai[n]?=some p→s.heap.get? p.1=none∧s.heap.get? p.2=none
 gens:s'.gens=s.gens
 drawn:s'.drawn=s.drawn
 os:s'.os=s.os
inductive DZ (oN:Bool) (h₀ h:Heap) (x:Addr) (vs:Array Value):Prop where
 |no (hb:oN=false) (h1:vs[1]?=some .none):DZ oN h₀ h x vs
 |yes (tb:Addr) (ot:Obj) (dq:Array Value) (h1:vs[1]?=some (.ref tb)) (h2:h₀.get? tb=none) (h3:tb≠x) (h4:h.get? tb=some ot) (h5:ot.data= .fields dq) (h6:4≤dq.size):DZ oN h₀ h x vs
inductive Gp (oN:Bool) (J h₀ h:Heap) (Z:aH) (x:Addr) (e:aX):Prop where
 |mk (o:Obj) (dx:Addr) (vs:Array Value) (es:List DictEntry) (n:Nat) (ho:h.get? x=some o) (cR:o.cls= .ref bA) (dm:o.dict=some dx) (hd:o.data= .fields vs) (bS:vs.size=6) (j3:DZ oN h₀ h x vs)
      (d1:h₀.get? dx=none) (d2:¬bL Z dx) (d3:h.get? dx=some (dictOf es n)) (d4:cD J h Z [(11,e.k),(12,e.a),(13,e.d)] es):Gp oN J h₀ h Z x e
structure ka (oN:Bool) (J h₀ h:Heap) (Z:aH) (x:Addr) (e:aX):Prop where
 fresh:h₀.get? x=none
 off:¬bL Z x
 aco:Gp oN J h₀ h Z x e
inductive XO (U:Program) (w:World) (J:Heap) (F:Addr→Prop) (Z:aH) (s:Shared) (e:aX) (af:ag) (v:Value) (s':Shared):Prop where
 |mk (ai:aH) (x:Addr) (hv:v= .ref x) (hx:cV aE F Z s ai s') (hs:SR U w J s'.heap ai af) (he:ka false J s.heap s'.heap ai x e):XO U w J F Z s e af v s'
noncomputable def bh (U:Program) (w:World) (J:Heap) (F:Addr→Prop) {α:Type} (Z:aH) (s:Shared) (out:Out α) (v:Value) (s':Shared):Prop:=match out with
 | .exc e af=>XO U w J F Z s e af v s'
 |_=>False
inductive PO (U:Program) (w:World) (J:Heap) (X:Addr→Prop) (Z:aH) (s:Shared) (x:V) (af:ag) (v:Value) (s':Shared):Prop where
 |mk (ai:aH) (hx:aj X Z s ai s') (hs:SR U w J s'.heap ai af) (hv:RV J s'.heap ai x v):PO U w J X Z s x af v s'
noncomputable def aI (U:Program) (w:World) (J:Heap) (X:Addr→Prop) (Z:aH) (s:Shared) (out:Out V) (v:Value) (s':Shared):Prop:=match out with
 | .ok x af=>PO U w J X Z s x af v s'
 |_=>False
inductive LU (U:Program) (w:World) (J:Heap) (Z:aH) (s:Shared) (x:List V) (af:ag) (vs:List Value) (s':Shared):Prop where
 |mk (ai:aH) (hx:aj aE Z s ai s') (hs:SR U w J s'.heap ai af) (hv:aD J s'.heap ai x vs):LU U w J Z s x af vs s'
noncomputable def yY (U:Program) (w:World) (J:Heap) (Z:aH) (s:Shared) (out:Out (List V)) (vs:List Value) (s':Shared):Prop:=match out with
 | .ok x af=>LU U w J Z s x af vs s'
 |_=>False
section
variable {U:Program} {w:World} {J:Heap} {fl:List Env} {Z ai:aH} {O af:ag} {s s':Shared}
theorem om {h h' J:Heap}:∀{l:List Env},h.FunFrames J l→(∀a∈bb l,∀o,h.get? a=some o→(∀vs,o.data≠ .fields vs)→∃o',h'.get? a=some o'∧∀vs,o'.data≠ .fields vs)→h'.FunFrames J l
 |[],_,_=>trivial
 |aa::r,⟨hk,⟨L,o,hf,hn,ho,hd⟩,hr⟩,k=>by
  have e:bb (aa::r)=L::bb r:=by simp [bb,hf]
  obtain ⟨o',dZ,bO⟩:=k L (by rw [e];exact .head _) o ho hd
  exact ⟨hk,⟨L,o',hf,hn,dZ,bO⟩,om hr λa ha=>k a (by rw [e];exact .tail _ ha)⟩
theorem me {h J:Heap}:∀{l:List Env},h.FunFrames J l→∀a∈bb l,J.get? a=none∧∃o,h.get? a=some o∧∀vs,o.data≠ .fields vs
 |[],_,a,ha=>by cases ha
 |aa::r,⟨hk,⟨L,o,hf,hn,ho,hd⟩,hr⟩,a,ha=>by
  have e:bb (aa::r)=L::bb r:=by simp [bb,hf]
  rw [e] at ha
  rcases List.mem_cons.mp ha with rfl |ha
  ·exact ⟨hn,o,ho,hd⟩
  ·exact me hr a ha
theorem aj.fe (E:aj aE Z s ai s') (S:St U w J fl Z O s):VK J Z s.heap ai s'.heap:=
 E.vk S.sr (E.stays S.sr S.stays λ_ x=>x.elim) λ_ _ x=>x.elim
theorem St.ext (S:St U w J fl Z O s) (E:aj aE Z s ai s') (R:SR U w J s'.heap ai af) (ht:s.toks≤s'.toks):St U w J fl ai af s':=by
 refine ⟨R,E.stays S.sr S.stays λ_ x=>x.elim,om S.frames λa ha o ho hd=>⟨o,E.keep a o ho (S.jC a ha) λx=>x,hd⟩,λa ha q=>?_,adk S.tok ht⟩
 obtain ⟨_,o,ho,_⟩:=me S.frames a ha
 exact S.jC a ha (gT E (by rw [ho];rfl) q)
theorem aj.toks (X:Addr→Prop) (Z:aH) (s:Shared) (k:Nat):aj X Z s Z {s with toks:=k}:=
 ⟨List.prefix_refl _,λ_ _ e _ _=>e,λ_ e=>e,λn p hn e=>(by rw [List.getElem?_eq_none hn] at e;cases e),rfl,rfl,rfl⟩
theorem cV.refl (X F:Addr→Prop) (Z:aH) (s:Shared):cV X F Z s Z s:=
 ⟨List.prefix_refl _,λb o e _ _=>⟨o.slots,e,λ_=>rfl⟩,λ_ e=>e,λn p hn e=>(by rw [List.getElem?_eq_none hn] at e;cases e),rfl,rfl,rfl⟩
theorem gP {h h':Heap} (live:∀b,(h.get? b).isSome→(h'.get? b).isSome) {c:Addr} (q:h'.get? c=none):h.get? c=none:=by
 cases z:h.get? c with
 |none=>rfl
 |some o=>have:=live c (by rw [z];rfl);rw [q] at this;cases this
theorem cV.chain {X Y F:Addr→Prop} {cc:Shared} {gC:aH} (a:aj X Z s ai s') (b:cV Y F ai s' gC cc) (h:∀c,Y c→X c∨s.heap.get? c=none):cV X F Z s gC cc:=by
 refine ⟨a.pre.trans b.pre,λc o e nf nx=>b.keep c o (a.keep c o e nf nx) (λq=>nf (gT a (by rw [e];rfl) q)) (λy=>?_),λc e=>b.live c (a.live c e),λn p hn e=>?_,
  b.gens.trans a.gens,b.drawn.trans a.drawn,b.os.trans a.os⟩
 ·rcases h c y with q |q
  ·exact nx q
  ·rw [q] at e;cases e
 by_cases aK:n<ai.length
 ·have:=lp b.pre (List.getElem?_eq_getElem aK)
  rw [e] at this
  exact a.new n p hn (by rw [this];exact List.getElem?_eq_getElem aK)
 ·obtain ⟨x,y⟩:=b.new n p (Nat.le_of_not_lt aK) e
  exact ⟨gP a.live x,gP a.live y⟩
theorem cV.after {F:Addr→Prop} {cc:Shared} {gC:aH} (a:aj aE Z s ai s') (b:cV aE F ai s' gC cc):cV aE F Z s gC cc:=cV.chain a b λ_ x=>x.elim
theorem ka.before {nt:Bool} {h₀ fB h:Heap} {x:Addr} {e:aX} (live:∀b,(h₀.get? b).isSome→(fB.get? b).isSome) (k:ka nt J fB h Z x e):ka nt J h₀ h Z x e:=match k with
 |⟨a,b,o,dx,vs,es,n,h1,h2,h3,h4,h5,h6,h7,h8,h9,sV⟩=>⟨gP live a,b,o,dx,vs,es,n,h1,h2,h3,h4,h5,(match h6 with
  | .no h h1=> .no h h1
  | .yes tb ot dq q1 q2 q3 q4 q5 q6=> .yes tb ot dq q1 (gP live q2) q3 q4 q5 q6),gP live h7,h8,h9,sV⟩
theorem bh.after {α β:Type} {F:Addr→Prop} {out:Out α} {ui:Out β} {v:Value} {cc:Shared} (a:aj aE Z s ai s') (b:bh U w J F ai s' out v cc) (ho:∀e O,out= .exc e O→ui= .exc e O):bh U w J F Z s ui v cc:=by
 cases out with
 |exc e O=>
  rw [ho e O rfl]
  obtain ⟨gC,x,hv,hx,hs,he⟩:=b
  exact ⟨gC,x,hv,cV.after a hx,hs,he.before a.live⟩
 |stuck=>exact b.elim
 |ok _ _=>exact b.elim
theorem bh.bind {α β:Type} {F:Addr→Prop} {out:Out α} {k:α→ag→Out β} {v:Value} {cc:Shared} (b:bh U w J F Z s out v cc):bh U w J F Z s (out.bind k) v cc:=by
 cases out with
 |exc e O=>exact b
 |stuck=>exact b.elim
 |ok _ _=>exact b.elim
theorem aI.after {out:Out V} {v:Value} {cc:Shared} (a:aj aE Z s ai s') (b:aI U w J aE ai s' out v cc):aI U w J aE Z s out v cc:=by
 cases out with
 |ok x O=>
  obtain ⟨gC,e,r,q⟩:=b
  exact ⟨gC,a.trans e,r,q⟩
 |stuck=>exact b.elim
 |exc _ _=>exact b.elim
theorem aI.same {X:Addr→Prop} (R:SR U w J s.heap Z O) {x:V} {v:Value} (r:RV J s.heap Z x v) (k:Nat):aI U w J X Z s (.ok x O) v {s with toks:=k}:=
 ⟨Z,aj.toks X Z s k,R,r⟩
theorem aI.here {X:Addr→Prop} (R:SR U w J s.heap Z O) {x:V} {v:Value} (r:RV J s.heap Z x v):aI U w J X Z s (.ok x O) v s:=
 ⟨Z,aj.refl X Z s,R,r⟩
theorem aj.push (X:Addr→Prop) (Z:aH) (s:Shared) (o:Obj) (k:Nat):aj X Z s Z {s with heap:=s.heap.push o,toks:=k}:=
 ⟨List.prefix_refl _,λ_ _ e _ _=>Heap.get?_push_of_some _ e,λb e=>by
  obtain ⟨x,hx⟩:=Option.isSome_iff_exists.mp e
  rw [Heap.get?_push_of_some _ hx];rfl,λn p hn e=>(by rw [List.getElem?_eq_none hn] at e;cases e),rfl,rfl,rfl⟩
theorem Au (S:St U w J fl Z O s) (o:Obj):VK J Z s.heap Z (s.heap.push o):=
  (aj.push aE Z s o s.toks).fe S
theorem nP (S:St U w J fl Z O s) (o:Obj):SR U w J (s.heap.push o) Z O:=
 S.sr.grow (Au S o) λ_ _ _ e=>Heap.get?_push_of_some _ e
theorem St.push (S:St U w J fl Z O s) (o:Obj) (k:Nat) (hk:s.toks≤k):St U w J fl Z O {s with heap:=s.heap.push o,toks:=k}:=
 S.ext (aj.push aE Z s o k) (nP S o) hk
theorem St.toks (S:St U w J fl Z O s) (k:Nat) (hk:s.toks≤k):St U w J fl Z O {s with toks:=k}:=
 S.ext (aj.toks aE Z s k) S.sr hk
theorem fX (h:Heap):h.get? h.objs.size=none:=by
 cases e:h.get? h.objs.size with
 |none=>rfl
 |some o=>exact absurd (Heap.lt_size e) (Nat.lt_irrefl _)
theorem jG {h:Heap} (k:J.StaysIn h) {a:Addr} (e:h.get? a=none):J.get? a=none:=by
 cases q:J.get? a with
 |none=>rfl
 |some o=>have:=k a o q;rw [e] at this;cases this
theorem K9 (S:St U w J fl Z O s) {o:Obj} {c:Cell} (k:Nat)
    (hc:∀h',h'=s.heap.push o→VK J Z s.heap (Z++[(s.heap.objs.size,s.heap.objs.size)]) h'→RC U w J h' (Z++[(s.heap.objs.size,s.heap.objs.size)]) (s.heap.objs.size,s.heap.objs.size) c):
  aI U w J aE Z s (.ok (.ref O.length) (O++[c])) (.ref s.heap.objs.size) {s with heap:=s.heap.push o,toks:=k}:=by
 have v:VK J Z s.heap (Z++[(s.heap.objs.size,s.heap.objs.size)]) (s.heap.push o):=by
  have:=Au S o
  exact ⟨List.prefix_append _ _,this.seq,this.stays,this.off,this.cells⟩
 refine ⟨Z++[(s.heap.objs.size,s.heap.objs.size)],?_,S.sr.more v (hc _ rfl v) (λ_ _ _ e=>Heap.get?_push_of_some _ e) (fX _) (fX _) (jG S.stays (fX _)) (jG S.stays (fX _)),?_⟩
 ·have E:=aj.push aE Z s o k
  refine ⟨List.prefix_append _ _,E.keep,E.live,λn p hn e=>?_,rfl,rfl,rfl⟩
  rw [List.getElem?_append_right hn] at e
  cases hk:n-Z.length with
  |zero=>rw [hk] at e;cases e;exact ⟨fX _,fX _⟩
  |succ j=>rw [hk] at e;simp at e
 ·simp only [RV]
  exact ⟨(s.heap.objs.size,s.heap.objs.size),by rw [←S.sr.len];simp,rfl⟩
theorem Ak (S:St U w J fl Z O s) {vs:List V} {ws:List Value} (r:aD J s.heap Z vs ws) (hz:vs.length≤aq) (k:Nat) (n:Nat):
  aI U w J aE Z s (.ok (.ref O.length) (O++[.list vs])) (.ref s.heap.objs.size) {s with heap:=s.heap.push {cls:= .type "list",data:= .seq ws.toArray n},toks:=k}:=
 K9 S k λh' e v=>by
  subst e
  exact ⟨rfl,hz,ws.toArray,⟨n,Heap.get?_push_size _ rfl⟩,aD.mono v (by simpa using r)⟩
theorem HB (S:St U w J fl Z O s) {vs:List V} {ws:List Value} (r:aD J s.heap Z vs ws) (k:Nat):
  aI U w J aE Z s (.ok (.tup vs) O) (.ref s.heap.objs.size) {s with heap:=s.heap.push {cls:= .type "tuple",data:= .seq ws.toArray},toks:=k}:=by
 refine ⟨Z,aj.push aE Z s _ k,nP S _,?_⟩
 simp only [RV]
 exact ⟨_,ws.toArray,rfl,⟨_,Heap.get?_push_size _ rfl,rfl,_,rfl⟩,aD.mono (Au S _) (by simpa using r)⟩
theorem B3 (S:St U w J fl Z O s) {n:Nat} {p:Addr×Addr} {c:Cell} (hn:Z[n]?=some p) {a:Addr} (ha:a=p.1∨a=p.2) {h':Heap} (hs:Heap.SameBut a s.heap h') (hl:(h'.get? a).isSome) (k:Nat)
    (hc:VK J Z s.heap Z h'→RC U w J h' Z p c):aj aE Z s Z {s with heap:=h',toks:=k}∧SR U w J h' Z (O.set n c):=by
 have E:aj aE Z s Z {s with heap:=h',toks:=k}:=by
  refine ⟨List.prefix_refl _,λb o e nf _=>(hs.2 b λq=>nf ⟨p,List.mem_of_getElem? hn,q▸ha⟩).trans e,λb e=>?_,λn p hn e=>(by rw [List.getElem?_eq_none hn] at e;cases e),rfl,rfl,rfl⟩
  by_cases q:b=a
  ·subst q;exact hl
  ·show (h'.get? b).isSome
   rw [hs.2 b q];exact e
 have v:VK J Z s.heap Z h':=E.fe S
 refine ⟨E,S.sr.turn v hn (hc v) λb o _ n1 n2 e=>(hs.2 b λq=>?_).trans e⟩
 subst q
 rcases ha with h |h
 ·exact n1 h
 ·exact n2 h
theorem mS {α:Type} {M:Model} {A:Around} {t:Sem α} {P Q:α→Shared→Prop} {E E':Value→Shared→Prop}
    (h:wpAny M A t P E s) (hk:∀a s',P a s'→s.toks≤s'.toks→Q a s') (hE:∀e s',E e s'→s.toks≤s'.toks→E' e s'):wpAny M A t Q E' s:=
 wpAny_mono (wpAny_toks h) (λa s' x=>hk a s' x.1 x.2) λe s' x=>hE e s' x.1 x.2
theorem mM {α:Type} {M:Model} {A:Around} {t:Sem α} {P Q:α→Shared→Prop} {E E':Value→Shared→Prop}
    (h:wpAny M A t P E s) (hk:∀a s',P a s'→s.toks≤s'.toks→Q a s') (hE:∀e s',E e s'→E' e s'):wpAny M A t Q E' s:=
 wpAny_mono (wpAny_toks h) (λa s' x=>hk a s' x.1 x.2) λe s' x=>hE e s' x.1
theorem abG {α β:Type} {M:Model} {A:Around} {t:Sem α} {k:α→Sem β} {P:α→Shared→Prop} {Q:β→Shared→Prop} {E:Value→Shared→Prop}
    (h:wpAny M A t P E s) (hk:∀a s',P a s'→wpAny M A (k a) Q E s'):wpAny M A (t>>=k) Q E s:=
 wpAny_bind (wpAny_mono h (λa s' x=>hk a s' x) λ_ _ x=>x)
end
section
variable {U:Program} {w:World} {J:Heap} {fl:List Env} {Z:aH} {O:ag} {s:Shared} {A:Around} {E:Value→Shared→Prop}
theorem str_len (l:List Nat):(⟨l.toArray⟩:Str).length=l.length:=by simp [PySem.Str.length]
theorem gU:aq=sizeLine:=by decide
theorem acX {l:List Nat} {v:V} (h:z9 l=some v):v= .str l∧l.length≤aq:=by
 unfold z9 at h
 split at h
 ·cases h;exact ⟨rfl,by assumption⟩
 ·cases h
theorem KX (x y:List Nat):(⟨x.toArray⟩:Str)++(⟨y.toArray⟩:Str)=⟨(x++y).toArray⟩:=by
 show PySem.Str.mk _=_
 simp
theorem eW {h:Heap} (i:Int) (t:Tok):RV J h Z (.int i) (.int i t):=by simp only [RV];exact ⟨t,rfl⟩
theorem iu {h:Heap} {l:List Nat} (t:Tok) (hl:l.length≤aq):RV J h Z (.str l) (.str ⟨l.toArray⟩ t):=by simp only [RV];exact ⟨⟨t,rfl⟩,hl⟩
theorem iy {h:Heap} (b:Bool):RV J h Z (.bool b) (.bool b):=by simp only [RV]
theorem vR {h:Heap}:RV J h Z .none .none:=by simp only [RV]
theorem Z6 (l:List Nat):∀n,iJ l n=(List.replicate n l).flatten
 |0=>rfl
 |n+1=>by rw [iJ,Z6 l n,List.replicate_succ,List.flatten_cons]
theorem Fv {i:Int} (h:smallInt i=true): -2147483648<i∧i<2147483648:=by
 unfold smallInt at h
 rw [Bool.and_eq_true,decide_eq_true_iff,decide_eq_true_iff] at h
 exact h
end
theorem sn {α:Type} {z:α}:some z≠none:=Option.some_ne_none z
@[elab_as_elim] theorem ct {α:Type} {a z:α} {P:α→Prop} (h:some a=some z) (k:P a):P z:=Option.some.inj h▸k
@[elab_as_elim] theorem l7 {α β:Type} {o:Option α} {f:α→β} {z:β} {P:β→Prop} (h:o.map f=some z) (k:∀a,o=some a→P (f a)):P z:=match o,h with
 |some a,h=>ct h (k a rfl)
theorem lO {α β:Type} {o:Option α} {f:α→Option β} {z:β} {P:Prop} (h:o.bind f=some z) (k:∀a,o=some a→f a=some z→P):P:=match o,h with
 |some a,h=>k a rfl h
theorem da {α:Type} {c:Prop} [i:Decidable c] {a d r:α} {P:Prop} (h:(if c then a else d)=r) (hn:r≠d) (k:c→a=r→P):P:=match i,h with
 | .isTrue e,h=>k e h
 | .isFalse _,h=>absurd h.symm hn
theorem fo {α β:Type} {o:Option β} {d r:α} {f:β→α} {P:Prop} (h:bK o d f=r) (hn:r≠d) (k:∀x,o=some x→f x=r→P):P:=match o,h with
 |some a,h=>k a rfl h
 |Option.none,h=>absurd h.symm hn
theorem Gi {α β:Type} {o:Option β} {d r:α} {f:β→α} {P:Prop} (h:bK o d f=r) (k:∀x,o=some x→f x=r→P) (k2:o=none→d=r→P):P:=match o,h with
 |some a,h=>k a rfl h
 |Option.none,h=>k2 rfl h
theorem EY {α β:Type} {o:Out α} {d r:β} {f:α→ag→β} {P:Prop} (h:pG o d f=r) (hn:r≠d) (k:∀v O,o= .ok v O→f v O=r→P):P:=match o,h with
 | .ok a O,h=>k a O rfl h
 | .stuck,h | .exc _ _,h=>absurd h.symm hn
@[elab_as_elim] theorem HW {α β:Type} {a z:α} {b y:β} {P:α→β→Prop} (h:some (a,b)=some (z,y)) (k:P a b):P z y:=by cases h;exact k
@[elab_as_elim] theorem m6 {α:Type} {o:Option α} {O:ag} {out:Out α} {P:Out α→Prop} (h:gB o O=out) (hn:out≠ .stuck) (k:∀v,o=some v→P (.ok v O)):P out:=match o,h with
 |some v,h=>h▸k v rfl
 |Option.none,h=>absurd h.symm hn
section
variable {U:Program} {w:World} {J h:Heap} {Z:aH} {α:Type} {x:V} {v:Value} {vs:List V} {ws:List Value} {d r:α}
@[elab_as_elim] theorem vo {i:Int} {P:Value→Prop} (rv:RV J h Z (.int i) v) (k:∀t,P (.int i t)):P v:=match rv with
 |⟨t,e⟩=>e▸k t
@[elab_as_elim] theorem ux {l:List Nat} {P:Value→Prop} (rv:RV J h Z (.str l) v) (k:∀t,l.length≤aq→P (.str ⟨l.toArray⟩ t)):P v:=match rv with
 |⟨⟨t,e⟩,hl⟩=>e▸k t hl
@[elab_as_elim] theorem uy {b:Bool} {P:Value→Prop} (rv:RV J h Z (.bool b) v) (k:P (.bool b)):P v:=Eq.symm (show v=_ from rv)▸k
@[elab_as_elim] theorem wb {P:Value→Prop} (rv:RV J h Z .none v) (k:P .none):P v:=Eq.symm (show v=_ from rv)▸k
@[elab_as_elim] theorem tO {n:Nat} {P:Value→Prop} (rv:RV J h Z (.ref n) v) (k:∀p,Z[n]?=some p→P (.ref p.1)):P v:=match rv with
 |⟨p,hp,e⟩=>e▸k p hp
@[elab_as_elim] theorem Aa {us:List V} {P:Value→Prop} (rv:RV J h Z (.tup us) v) (k:∀a xs,IsTup h a xs→aD J h Z us xs.toList→P (.ref a)):P v:=match rv with
 |⟨a,xs,e,ht,rs⟩=>e▸k a xs ht rs
@[elab_as_elim] theorem mj {f:Int→α} {P:V→Value→Prop} (e:x.cA d f=r) (rv:RV J h Z x v) (k:∀i t,f i=r→P (.int i) (.int i t)) (k2:d=r→P x v):P x v:=match x,e,rv with
 | .int i,e,rv=>vo (P:=P (.int i)) rv λt=>k i t e
 | .none,e,_ | .bool _,e,_ | .str _,e,_ | .tup _,e,_ | .ref _,e,_ | .frozen _,e,_=>k2 e
@[elab_as_elim] theorem dB {f:Int→α} {P:V→Value→Prop} (e:x.cA d f=r) (hn:r≠d) (rv:RV J h Z x v) (k:∀i t,f i=r→P (.int i) (.int i t)):P x v:=mj e rv k λe=>absurd e.symm hn
@[elab_as_elim] theorem sE {f:List Nat→α} {P:V→Value→Prop} (e:x.onStr d f=r) (rv:RV J h Z x v) (k:∀l t,l.length≤aq→f l=r→P (.str l) (.str ⟨l.toArray⟩ t)) (k2:d=r→P x v):P x v:=match x,e,rv with
 | .str l,e,rv=>ux (P:=P (.str l)) rv λt hl=>k l t hl e
 | .none,e,_ | .bool _,e,_ | .int _,e,_ | .tup _,e,_ | .ref _,e,_ | .frozen _,e,_=>k2 e
@[elab_as_elim] theorem eh {f:List Nat→α} {P:V→Value→Prop} (e:x.onStr d f=r) (hn:r≠d) (rv:RV J h Z x v) (k:∀l t,l.length≤aq→f l=r→P (.str l) (.str ⟨l.toArray⟩ t)):P x v:=sE e rv k λe=>absurd e.symm hn
@[elab_as_elim] theorem Bl {f:Nat→α} {P:V→Value→Prop} (e:x.dY d f=r) (rv:RV J h Z x v) (k:∀n p,Z[n]?=some p→f n=r→P (.ref n) (.ref p.1)) (k2:d=r→P x v):P x v:=match x,e,rv with
 | .ref n,e,rv=>tO (P:=P (.ref n)) rv λp hp=>k n p hp e
 | .none,e,_ | .bool _,e,_ | .int _,e,_ | .tup _,e,_ | .str _,e,_ | .frozen _,e,_=>k2 e
@[elab_as_elim] theorem gr {f:Nat→α} {P:V→Value→Prop} (e:x.dY d f=r) (hn:r≠d) (rv:RV J h Z x v) (k:∀n p,Z[n]?=some p→f n=r→P (.ref n) (.ref p.1)):P x v:=Bl e rv k λe=>absurd e.symm hn
@[elab_as_elim] theorem w8 {f:List V→α} {P:V→Value→Prop} (e:x.q9 d f=r) (rv:RV J h Z x v) (k:∀us a xs,IsTup h a xs→aD J h Z us xs.toList→f us=r→P (.tup us) (.ref a)) (k2:d=r→P x v):P x v:=match x,e,rv with
 | .tup us,e,rv=>Aa (P:=P (.tup us)) rv λa xs ht rs=>k us a xs ht rs e
 | .none,e,_ | .bool _,e,_ | .int _,e,_ | .ref _,e,_ | .str _,e,_ | .frozen _,e,_=>k2 e
@[elab_as_elim] theorem VQ {f:List V→α} {P:V→Value→Prop} (e:x.q9 d f=r) (hn:r≠d) (rv:RV J h Z x v) (k:∀us a xs,IsTup h a xs→aD J h Z us xs.toList→f us=r→P (.tup us) (.ref a)):P x v:=w8 e rv k λe=>absurd e.symm hn
@[elab_as_elim] theorem zG {f:Bool→α} {P:V→Value→Prop} (e:x.iE d f=r) (rv:RV J h Z x v) (k:∀b,f b=r→P (.bool b) (.bool b)) (k2:d=r→P x v):P x v:=match x,e,rv with
 | .bool b,e,rv=>uy (P:=P (.bool b)) rv (k b e)
 | .none,e,_ | .str _,e,_ | .int _,e,_ | .tup _,e,_ | .ref _,e,_ | .frozen _,e,_=>k2 e
@[elab_as_elim] theorem CM {f:Bool→α} {P:V→Value→Prop} (e:x.iE d f=r) (hn:r≠d) (rv:RV J h Z x v) (k:∀b,f b=r→P (.bool b) (.bool b)):P x v:=zG e rv k λe=>absurd e.symm hn
@[elab_as_elim] theorem Mk {f:Bool→α} {P:V→Prop} (e:x.iE d f=r) (hn:r≠d) (k:∀b,f b=r→P (.bool b)):P x:=match x,e with
 | .bool b,e=>k b e
 | .none,e | .str _,e | .int _,e | .tup _,e | .ref _,e | .frozen _,e=>absurd e.symm hn
@[elab_as_elim] theorem GH {f:Nat→α} {P:V→Prop} (e:x.dY d f=r) (hn:r≠d) (k:∀b,f b=r→P (.ref b)):P x:=match x,e with
 | .ref b,e=>k b e
 | .none,e | .str _,e | .int _,e | .tup _,e | .bool _,e | .frozen _,e=>absurd e.symm hn
@[elab_as_elim] theorem G3 {f:Int→α} {P:V→Prop} (e:x.cA d f=r) (hn:r≠d) (k:∀b,f b=r→P (.int b)):P x:=match x,e with
 | .int b,e=>k b e
 | .none,e | .str _,e | .ref _,e | .tup _,e | .bool _,e | .frozen _,e=>absurd e.symm hn
@[elab_as_elim] theorem Dy {c:α} {P:V→Value→Prop} (e:x.vm d c=r) (hn:r≠d) (rv:RV J h Z x v) (k:c=r→P .none .none):P x v:=match x,e,rv with
 | .none,e,rv=>wb (P:=P .none) rv (k e)
 | .bool _,e,_ | .str _,e,_ | .int _,e,_ | .tup _,e,_ | .ref _,e,_ | .frozen _,e,_=>absurd e.symm hn
@[elab_as_elim] theorem k7 {u:V} {us:List V} {P:List Value→Prop} (rs:aD J h Z (u::us) ws) (k:∀a as,RV J h Z u a→aD J h Z us as→P (a::as)):P ws:=match rs with
 |⟨a,as,e,ra,r⟩=>e▸k a as ra r
@[elab_as_elim] theorem uk {P:List Value→Prop} (rs:aD J h Z [] ws) (k:P []):P ws:=Eq.symm (show ws=_ from rs)▸k
@[elab_as_elim] theorem wQ {c:α} {P:List V→List Value→Prop} (e:qO vs d c=r) (hn:r≠d) (rs:aD J h Z vs ws) (k:c=r→P [] []):P vs ws:=match vs,e,rs with
 |[],e,rs=>uk (P:=P []) rs (k e)
 |_::_,e,_=>absurd e.symm hn
@[elab_as_elim] theorem k6 {f:V→α} {P:List V→List Value→Prop} (e:ki vs d f=r) (hn:r≠d) (rs:aD J h Z vs ws) (k:∀u a,RV J h Z u a→f u=r→P [u] [a]):P vs ws:=match vs,e,rs with
 |u::us,e,rs=>k7 (P:=P (u::us)) rs λa as ra rs=>wQ (P:=λus as=>P (u::us) (a::as)) e hn rs (k u a ra)
 |[],e,_=>absurd e.symm hn
@[elab_as_elim] theorem Er {f:V→V→α} {P:List V→List Value→Prop} (e:qH vs d f=r) (hn:r≠d) (rs:aD J h Z vs ws) (k:∀u u2 a a2,RV J h Z u a→RV J h Z u2 a2→f u u2=r→P [u,u2] [a,a2]):P vs ws:=match vs,e,rs with
 |u::us,e,rs=>k7 (P:=P (u::us)) rs λa as ra rs=>k6 (P:=λus as=>P (u::us) (a::as)) e hn rs λu2 a2=>k u u2 a a2 ra
 |[],e,_=>absurd e.symm hn
end
section
variable {U:Program} {w:World} {J h:Heap} {Z:aH} {O:ag} {α:Type} {n:Nat} {p:Addr×Addr} {d r:α} {P:Prop}
theorem rU {f:Cell→α} (e:gY O n d f=r) (hn:r≠d) (k:∀c,O[n]?=some c→f c=r→P):P:=match hc:O[n]? with
 |some c=>k c hc (by unfold gY at e;rw [hc] at e;exact e)
 |Option.none=>absurd (by unfold gY at e;rw [hc] at e;exact e.symm) hn
@[elab_as_elim] theorem xr {c:Cell} {f:List V→α} {P:Cell→Prop} (e:c.eZ d f=r) (k:∀us,f us=r→P (.list us)) (k2:d=r→P c):P c:=match c,e with
 | .list us,e=>k us e
 | .dict _,e | .inst _ _,e=>k2 e
@[elab_as_elim] theorem Ng {c:Cell} {f:List (List Nat×V)→α} {P:Cell→Prop} (e:c.jy d f=r) (hn:r≠d) (k:∀es,f es=r→P (.dict es)):P c:=match c,e with
 | .dict us,e=>k us e
 | .list _,e | .inst _ _,e=>absurd e.symm hn
@[elab_as_elim] theorem Un {c:Cell} {f:cj→List (Nat×V)→α} {P:Cell→Prop} (e:c.kY d f=r) (hn:r≠d) (k:∀c fs,f c fs=r→P (.inst c fs)):P c:=match c,e with
 | .inst c fs,e=>k c fs e
 | .list _,e | .dict _,e=>absurd e.symm hn
inductive qr (J h:Heap) (Z:aH) (a:Addr) (us:List V):Prop where
 |mk (ws:Array Value) (hl:h.PlainList a ws) (rs:aD J h Z us ws.toList) (bS:ws.size=us.length) (hz:us.length≤aq):qr J h Z a us
theorem SR.list (S:SR U w J h Z O) (hp:Z[n]?=some p) {us:List V} (hs:O[n]?=some (.list us)):qr J h Z p.1 us:=match S.cell _ _ _ hp hs with
 |⟨_,hz,ws,hl,rs⟩=>⟨ws,hl,rs,Array.length_toList.symm.trans (aD.length rs),hz⟩
inductive yF (U:Program) (w:World) (J h:Heap) (Z:aH) (a:Addr) (es:List (List Nat×V)):Prop where
 |mk (cL:List (Str×Value)) (hd:h.DictOf (strKind U w) a cL) (rd:bo J h Z es cL) (hz:es.length≤1000000):yF U w J h Z a es
theorem SR.dict (S:SR U w J h Z O) (hp:Z[n]?=some p) {es:List (List Nat×V)} (hs:O[n]?=some (.dict es)):yF U w J h Z p.1 es:=match S.cell _ _ _ hp hs with
 |⟨_,hz,cL,hd,rd⟩=>⟨cL,hd,rd,hz⟩
inductive Bv (J h:Heap) (Z:aH) (p:Addr×Addr) (c:cj) (fs:List (Nat×V)):Prop where
 |mk (es:List DictEntry) (m:Nat) (ho:h.get? p.1=some (instObj (cB c) p.2)) (hd:h.get? p.2=some (dictOf es m)) (fr:cD J h Z fs es) (hz:fs.length≤14) (nN:(fs.map (·.1)).Nodup):Bv J h Z p c fs
theorem SR.inst (S:SR U w J h Z O) (hp:Z[n]?=some p) {c:cj} {fs:List (Nat×V)} (hs:O[n]?=some (.inst c fs)):Bv J h Z p c fs:=match S.cell _ _ _ hp hs with
 |⟨ho,hz,nN,es,m,hd,fr⟩=>⟨es,m,ho,hd,fr,hz,nN⟩
theorem iL (S:SR U w J h Z O) (hp:Z[n]?=some p) {f:List V→α} (e:eZ O n d f=r) (hn:r≠d) (k:∀us,O[n]?=some (.list us)→qr J h Z p.1 us→f us=r→P):P:=
 rU e hn λc hs e=>xr (P:=λc=>O[n]?=some c→P) e (λus e hs=>k us hs (S.list hp hs) e) (λe=>absurd e.symm hn) hs
theorem qG (S:SR U w J h Z O) (hp:Z[n]?=some p) {f:List (List Nat×V)→α} (e:jy O n d f=r) (hn:r≠d) (k:∀es,O[n]?=some (.dict es)→yF U w J h Z p.1 es→f es=r→P):P:=
 rU e hn λc hs e=>Ng (P:=λc=>O[n]?=some c→P) e hn (λus e hs=>k us hs (S.dict hp hs) e) hs
theorem zN (S:SR U w J h Z O) (hp:Z[n]?=some p) {f:cj→List (Nat×V)→α} (e:kY O n d f=r) (hn:r≠d) (k:∀c fs,O[n]?=some (.inst c fs)→Bv J h Z p c fs→f c fs=r→P):P:=
 rU e hn λc hs e=>Un (P:=λc=>O[n]?=some c→P) e hn (λc fs e hs=>k c fs hs (S.inst hp hs) e) hs
@[elab_as_elim] theorem BO {l:List Nat} {f:Nat→α} {P:List Nat→Prop} (e:one l d f=r) (hn:r≠d) (k:∀c,f c=r→P [c]):P l:=match l,e with
 |[c],e=>k c e
 |[],e |_::_::_,e=>absurd e.symm hn
end
inductive BP (s:Shared) (b:Bool):Value→Shared→Prop where
 |mk (k:Nat):BP s b (.bool b) {s with toks:=k}
theorem BP.of {s:Shared} {b c:Bool} (e:c=b) (k:Nat):BP s b (.bool c) {s with toks:=k}:=e▸ .mk k
theorem BP.at {s:Shared} {b c:Bool} (e:c=b):BP s b (.bool c) s:=BP.of e s.toks
section
variable {U:Program} {w:World} {J:Heap} {fl:List Env} {Z:aH} {O:ag} {s:Shared} {A:Around} {E:Value→Shared→Prop} {X:Addr→Prop}
theorem JU {y:Int} (h:0<y∧y<1073741824):y.natAbs<1073741824:=by omega
theorem KI {i j:Int}:(i==j)=decide (i=j):=rfl
theorem Xh {i:Int} (h:smallInt i=true):Builtin.Int.intBits i≤64:=by
 obtain ⟨a,b⟩:=Fv h
 exact PySem.intBits_le_64 (by omega) (by omega)
theorem Tc {x y:Int} (h1:smallInt x=true) (h2:smallInt y=true):PySem.IntMulOk x y:=by
 unfold PySem.IntMulOk
 have a:=Xh h1
 have:decide (Builtin.Int.intBits x>shortFactorBits)=false:=decide_eq_false (by unfold shortFactorBits;omega)
 rw [this]
 simp
theorem N7 (n:Nat) (l:List Nat):∀acc:Array Nat,(List.replicate n l.toArray).foldl (· ++ ·) acc=acc++(iJ l n).toArray:=by
 induction n with
 |zero=>intro acc;simp [iJ]
 |succ n ih=>intro acc;rw [List.replicate_succ,List.foldl_cons,ih,iJ];simp
theorem DK (l:List Nat):∀n,(iJ l n).length=l.length*n
 |0=>by simp [iJ]
 |n+1=>by rw [iJ,List.length_append,DK l n,Nat.mul_succ];omega
theorem O9 (l:List Nat) (n:Int) (h:0≤n):Txt.mul ⟨l.toArray⟩ n=(⟨(iJ l n.toNat).toArray⟩:Str):=by
 unfold Txt.mul
 by_cases h1:n<1
 ·rw [if_pos h1]
  have:n.toNat=0:=by omega
  rw [this];rfl
 ·rw [if_neg h1]
  by_cases h2:(n==1||(⟨l.toArray⟩:Str).length==0)=true
  ·rw [if_pos h2]
   rw [Bool.or_eq_true,beq_iff_eq,beq_iff_eq,str_len] at h2
   rcases h2 with h2 |h2
   ·subst h2;simp [iJ]
   ·obtain rfl:=List.length_eq_zero_iff.mp h2
    have:iJ [] n.toNat=[]:=List.length_eq_zero_iff.mp (by rw [DK];simp)
    rw [this]
  ·rw [if_neg h2]
   have:=N7 n.toNat l #[]
   simp only [this]
   simp
theorem aa7 {l:List Nat} {n:Int} (h:0≤n∧l.length*n.toNat≤aq∧n<4294967296) (hl:l.length≤aq):MulOk ⟨l.toArray⟩ n:=by
 obtain ⟨h0,h1,h2⟩:=h
 refine ⟨?_,λa b=>?_,λa b=>?_⟩
 ·rw [Bool.or_eq_false_iff]
  exact ⟨decide_eq_false (by omega),decide_eq_false (by omega)⟩
 ·rw [str_len]
  intro q
  have:(l.length:Int)*n≤2^63-1:=by
   have e:(l.length:Int)*n=((l.length*n.toNat:Nat):Int):=by
    rw [Int.natCast_mul,Int.toNat_of_nonneg h0]
   rw [e]
   unfold aq at h1
   omega
  have:=Int.le_ediv_of_mul_le (c:=n) (by omega) this
  omega
 ·rw [str_len]
  unfold Builtin.Str.tooLong
  rw [←gU]
  exact decide_eq_false (by omega)
theorem Og (S:SR U w J s.heap Z O) {op:BinOp} {x y z:V} {a b:Value} (rx:RV J s.heap Z x a) (ry:RV J s.heap Z y b) (h:e8 op x y=some z):
  wpAny (model U w) A (binaryOp (jQ op) a b) (aI U w J X Z s (.ok z O)) E s:=by
 cases op with
 |add=>
  refine mj h rx (λi t h=>dB h sn ry λj u h=>?_) λh=>eh h sn rx λl t hl h=>eh h sn ry λm u hm h=>?_
  ·exact ct h (PyProof.Rows.add_int (aI.same S (eW _ _) _))
  ·refine da h sn λhl h=>ct h (PyProof.Rows.add_str (λt' tk=>?_) ?_)
   ·rw [KX]
    exact aI.same S (iu _ hl) _
   ·rw [str_len,str_len, ←gU, ←List.length_append];exact hl
 |sub=>exact dB h sn rx λi t h=>dB h sn ry λj u h=>ct h (PyProof.Rows.sub_int (aI.same S (eW _ _) _))
 |mul=>
  refine mj h rx (λi t h=>dB h sn ry λj u h=>da h sn λhs h=>?_) λh=>eh h sn rx λl t hl h=>dB h sn ry λj u h=>da h sn λhs h=>?_
  ·exact ct h (aN hs λh1 h2=>PyProof.Rows.mul_int (aI.same S (eW _ _) _) (Tc h1 h2))
  ·refine ct h (SB.mul (aa7 hs hl) λt' k=>?_)
   rw [O9 _ _ hs.1]
   exact aI.same S (iu _ (by rw [DK];exact hs.2.1)) _
 |fdiv=>exact dB h sn rx λi t h=>dB h sn ry λj u h=>da h sn λhs h=>ct h (PyProof.Rows.floordiv_int (Int.ne_of_gt hs.1) (aI.same S (eW _ _) _) (.inl (PyProof.noPylong_small (JU hs))))
 |mod=>exact dB h sn rx λi t h=>dB h sn ry λj u h=>da h sn λhs h=>ct h (PyProof.Rows.mod_int' (Int.ne_of_gt hs.1) (aI.same S (eW _ _) _))
theorem yR {d:Nat} {h:Heap} (P:∀(x:V) (v:Value) (D:PyData),V.py O d x=some D→RV J h Z x v→∃as,Reads h v D as):
  ∀(xs:List V) (vs:List Value) (Ds:List PyData),V.pd O d xs=some Ds→aD J h Z xs vs→∃as,ReadsAll h vs Ds as
 |[],_,_,e,r=>ct (P:=λDs=>∃as,ReadsAll h _ Ds as) e (uk (P:=λvs=>∃as,ReadsAll h vs [] as) r ⟨[],.nil⟩)
 |x::xs,_,_,e,r=>k7 (P:=λvs=>∃as,ReadsAll h vs _ as) r λv vs rx rs=>lO e λD e1 e=>lO e λDs e2 e=>ct (P:=λDs=>∃as,ReadsAll h _ Ds as) e
      (match P x v D e1 rx,yR P xs vs Ds e2 rs with
    |⟨a1,q1⟩,⟨a2,q2⟩=>⟨_,.cons q1 q2⟩)
theorem Lb {h:Heap} {x:V} {v:Value} {D:PyData} (e:x.Cx=some D) (r:RV J h Z x v):∃as,Reads h v D as:=match x,e,r with
 | .none,e,r=>ct (P:=λD=>∃as,Reads h v D as) e (wb (P:=λv=>∃as,Reads h v _ as) r ⟨[],.none⟩)
 | .bool b,e,r=>ct (P:=λD=>∃as,Reads h v D as) e (uy (P:=λv=>∃as,Reads h v _ as) r ⟨[],.bool _⟩)
 | .int i,e,r=>ct (P:=λD=>∃as,Reads h v D as) e (vo (P:=λv=>∃as,Reads h v _ as) r λt=>⟨[],.int _ _⟩)
 | .str l,e,r=>ct (P:=λD=>∃as,Reads h v D as) e (ux (P:=λv=>∃as,Reads h v _ as) r λt _=>⟨[],.str _ _⟩)
theorem xE {h:Heap} (S:SR U w J h Z O):∀(d:Nat) (x:V) (v:Value) (D:PyData),V.py O d x=some D→RV J h Z x v→∃as,Reads h v D as
 |0,x,v,D,e,r=>Lb e r
 |d+1,x,v,D,e,r=>w8 (P:=λ_ v=>∃as,Reads h v D as) e r (λus a xs ht rs e=>lO e λDs e1 e=>ct (P:=λD=>∃as,Reads h _ D as) e (match yR (xE S d) _ _ _ e1 rs,ht with
    |⟨as,q⟩,⟨o,ho,hc,n,hd⟩=>⟨_,Reads.tuple ho hc hd q⟩))
   λe=>Bl (P:=λ_ v=>∃as,Reads h v D as) e r (λn p hp e=>iL S hp e sn λus hs L e=>lO e λDs e1 e=>ct (P:=λD=>∃as,Reads h _ D as) e (match L with
    |⟨ws,⟨m,ho⟩,rs,_,_⟩=>match yR (xE S d) _ _ _ e1 rs with
     |⟨as,q⟩=>⟨_,Reads.list ho rfl rfl q⟩)) λe=>Lb e r
theorem BH {x y:List Nat}:((⟨x.toArray⟩:Str)==(⟨y.toArray⟩:Str))=decide (x=y):=by
 rw [Bool.eq_iff_iff,beq_iff_eq,decide_eq_true_iff]
 constructor
 ·intro h;injection h with h;simpa using h
 ·rintro rfl;rfl
theorem wY (S:SR U w J s.heap Z O) {x y:V} {a b:Value} {r:Bool} (rx:RV J s.heap Z x a) (ry:RV J s.heap Z y b) (hu:A.units+64<cLine) (h:jU O x y=some r) (neg:Bool):
  wpAny (model U w) A (compareOp (if neg then .NotEq else .Eq) a b) (BP s (cond neg (!r) r)) E s:=
 lO h λD e1 h=>lO h λF e2 h=>da h sn λhs h=>aN hs λh1 h2=>match xE S _ _ _ _ e1 rx,xE S _ _ _ _ e2 ry with
  |⟨as,q1⟩,⟨bs,q2⟩=>ct (P:=λr=>wpAny (model U w) A (compareOp (if neg then .NotEq else .Eq) a b) (BP s (cond neg (!r) r)) E s) h (match neg with
   |false=>eq_dataH q1 q2 h1 h2 hu (BP.at rfl)
   |true=>ne_dataH q1 q2 h1 h2 hu (BP.at rfl))
theorem D2 (S:SR U w J s.heap Z O) {x y:V} {a b:Value} {r:Bool} (rx:RV J s.heap Z x a) (ry:RV J s.heap Z y b) (hu:A.units+64<cLine) (h:iX O x y=some r) (neg:Bool):
  wpAny (model U w) A (compareOp (if neg then .NotEq else .Eq) a b) (BP s (cond neg (!r) r)) E s:=by
 have fin:∀{a b:Value} {p:Bool},p=r→wpAny (model U w) A (compareOp .Eq a b) (BP s p) E s→wpAny (model U w) A (compareOp .NotEq a b) (BP s (!p)) E s→wpAny (model U w) A (compareOp (if neg then .NotEq else .Eq) a b) (BP s (cond neg (!r) r)) E s:=by
  intro a b p e h1 h2
  subst e
  cases neg
  ·exact h1
  ·exact h2
 refine mj h rx (λi t h=>mj h ry (λj u h=>?a) λh=>?b) λh=>sE h rx (λl t hl h=>sE h ry (λm u hm h=>?c) λh=>?d) λh=>zG h rx (λp h=>zG h ry (λq h=>?e) λh=>?f) λh=>?g
 case a=>exact fin (Option.some.inj h) (PyProof.Rows.eq_int (BP.at KI)) (PyProof.Rows.ne_int (BP.at (congrArg (!·) KI)))
 case b=>exact wY S (eW _ _) ry hu h neg
 case c=>exact fin (Option.some.inj h) (PyProof.Rows.eq_str (BP.at BH)) (PyProof.Rows.ne_str (BP.at (congrArg (!·) BH)))
 case d=>exact wY S (iu _ hl) ry hu h neg
 case e=>exact fin (Option.some.inj h) (PyProof.Rows.eq_bool (BP.at rfl)) (PyProof.Rows.ne_bool (BP.at rfl))
 case f=>exact wY S (iy _) ry hu h neg
 case g=>exact wY S rx ry hu h neg
theorem qz {h:Heap}:∀{vs:List V} {ws:List Value} {l:List (List Nat)},ik vs=some l→aD J h Z vs ws→StrsAre ws (l.map λx=>⟨x.toArray⟩)
 |[],_,_,e,r=>ct (P:=λl=>StrsAre _ (l.map λx=>(⟨x.toArray⟩:Str))) e (uk (P:=λws=>StrsAre ws _) r .nil)
 |v::vs,_,_,e,r=>k7 (P:=λws=>StrsAre ws _) r λa as ra rs=>eh (P:=λ_ a=>StrsAre (a::as) _) e sn ra λl t hl e=>l7 (P:=λl=>StrsAre (_::as) (l.map λx=>(⟨x.toArray⟩:Str))) e λl e=> .cons _ _ (qz e rs)
theorem uc (k:List Nat):∀l:List (List Nat),(l.map λx=>(⟨x.toArray⟩:Str)).any (· ==(⟨k.toArray⟩:Str))=decide (k∈l)
 |[]=>by simp
 |x::l=>by
  rw [List.map_cons,List.any_cons,BH,uc k l,Bool.eq_iff_iff]
  simp only [Bool.or_eq_true,decide_eq_true_iff,List.mem_cons]
  constructor
  ·rintro (h |h)
   ·exact .inl h.symm
   ·exact .inr h
  ·rintro (h |h)
   ·exact .inl h.symm
   ·exact .inr h
theorem xZ {h:Heap} (k:List Nat):∀{es:List (List Nat×V)} {l:List (Str×Value)},bo J h Z es l→
    (match dictGet es k with |some v=>∃x,valueAt l (⟨k.toArray⟩:Str)=some x∧RV J h Z v x |Option.none=>valueAt l (⟨k.toArray⟩:Str)=Option.none)
 |[],l,e=>by simp only [bo] at e;subst e;simp [dictGet,valueAt]
 |(x,v)::es,l,e=>by
  simp only [bo] at e
  obtain ⟨u,q,rfl,rv,r⟩:=e
  have ih:=xZ k r
  simp only [dictGet,valueAt,List.find?_cons]
  by_cases hx:x=k
  ·subst hx
   simp only [if_true]
   exact ⟨u,by simp,rv⟩
  ·have:decide ((⟨x.toArray⟩:Str)=⟨k.toArray⟩)=false:=decide_eq_false λz=>hx (by injection z with z;simpa using z)
   simp only [hx,if_false,this]
   exact ih
theorem zK {h:Heap} {k:List Nat} {es:List (List Nat×V)} {l:List (Str×Value)} (rd:bo J h Z es l):(valueAt l (⟨k.toArray⟩:Str)).isSome=(dictGet es k).isSome:=by
 have g:=xZ k rd
 cases e:dictGet es k with
 |none=>rw [e] at g;rw [show valueAt l _=_ from g];rfl
 |some v=>rw [e] at g;obtain ⟨x,e2,_⟩:=(show ∃x,_ from g);rw [e2];rfl
theorem Ew (hb:(J.get? sysModules).isSome) (S:SR U w J s.heap Z O) {n:Nat} {p:Addr×Addr} (hp:Z[n]?=some p):(p.1==sysModules)=false:=by
 cases q:p.1==sysModules with
 |false=>rfl
 |true=>
  have:=(S.off p (List.mem_of_getElem? hp)).1
  rw [beq_iff_eq.mp q] at this
  rw [this] at hb;cases hb
theorem Kt (hb:(J.get? sysModules).isSome) (S:SR U w J s.heap Z O) {x y:V} {a b:Value} {r:Bool} (rx:RV J s.heap Z x a) (ry:RV J s.heap Z y b) (h:lR O x y=some r) (neg:Bool):
  wpAny (model U w) A (compareOp (if neg then .NotIn else .In) a b) (BP s (cond neg (!r) r)) E s:=by
 have MN:∀{a b:Value} {p:Bool},wpAny (model U w) A (compareOp .In a b) (BP s p) E s→wpAny (model U w) A (compareOp .NotIn a b) (BP s (!p)) E s→wpAny (model U w) A (compareOp (if neg then .NotIn else .In) a b) (BP s (cond neg (!p) p)) E s:=by
  intro a b p h1 h2
  cases neg
  ·exact h1
  ·exact h2
 have fin:∀{a b:Value} {p:Bool},p=r→wpAny (model U w) A (compareOp .In a b) (BP s p) E s→wpAny (model U w) A (compareOp .NotIn a b) (BP s (!p)) E s→wpAny (model U w) A (compareOp (if neg then .NotIn else .In) a b) (BP s (cond neg (!r) r)) E s:=λe=>e▸MN
 refine eh h sn rx λl t hl h=>sE h ry (λm u hm h=>BO h sn λc h=>?a) λh=>w8 h ry (λus a ws ht rs h=>lO h λls e h=>da h sn λ_ h=>?b) λh=>gr h sn ry λn p hp h=>rU h sn λc hs h=>?c
 case a=>exact fin (Option.some.inj h) (PyProof.Rows.in_str (BP.of (by rw [PySem.StrLaws.found_one]) _)) (PySem.P.notIn_str (BP.of (by rw [PySem.StrLaws.found_one]) _))
 case b=>exact fin (Option.some.inj h) (in_tuple_strs ht (qz e rs) (BP.at (uc l ls))) (notin_tuple_strs ht (qz e rs) (BP.at (congrArg (!·) (uc l ls))))
 case c=>
  refine xr (P:=λc=>O[n]?=some c→_) h (λus h hs=>?a) (λh=>Ng (P:=λc=>O[n]?=some c→_) h sn λes h hs=>?b) hs
  case a=>
   obtain ⟨ws,hl,rs,bS,hz⟩:=S.list hp hs
   refine l7 h λls e=>?_
   exact MN (in_list_strs (vs:=ws.toList) hl.isList (qz e rs) (BP.at (uc l ls))) (notin_list_strs (vs:=ws.toList) hl.isList (qz e rs) (BP.at (congrArg (!·) (uc l ls))))
  case b=>
   obtain ⟨cL,hd,rd,hz⟩:=S.dict hp hs
   have cz:=Ew hb S hp
   exact fin (Option.some.inj h) (wpAny_in_of (knd:=strKind U w) (strKind_is U w _ t) cz hd.mapOf (BP.of (zK rd) _)) (wpAny_notIn_of (knd:=strKind U w) (strKind_is U w _ t) cz hd.mapOf (BP.of (congrArg (!·) (zK rd)) _))
theorem acE (S:SR U w J s.heap Z O) {t:Sem Value} {M:Model} {b:Bool} (h:wpAny M A t (BP s b) E s):wpAny M A t (aI U w J X Z s (.ok (.bool b) O)) E s:=
 wpAny_mono h (λv s' e=>match e with | .mk k=>aI.same S (iy _) _) λ_ _ x=>x
theorem HZ {h:Heap} {x:V} {a:Value} {r:Bool} (e:DH x=some r) (rx:RV J h Z x a):(a==Value.none)=r:=match x,e,rx with
 | .none,e,rx=>ct (P:=λr=>(a==Value.none)=r) e (wb (P:=λa=>(a==Value.none)=true) rx rfl)
 | .bool b,e,rx=>ct (P:=λr=>(a==Value.none)=r) e (uy (P:=λa=>(a==Value.none)=false) rx rfl)
 | .int b,e,rx=>ct (P:=λr=>(a==Value.none)=r) e (vo (P:=λa=>(a==Value.none)=false) rx λ_=>rfl)
 | .str b,e,rx=>ct (P:=λr=>(a==Value.none)=r) e (ux (P:=λa=>(a==Value.none)=false) rx λ_ _=>rfl)
 | .tup b,e,rx=>ct (P:=λr=>(a==Value.none)=r) e (Aa (P:=λa=>(a==Value.none)=false) rx λ_ _ _ _=>rfl)
 | .ref b,e,rx=>ct (P:=λr=>(a==Value.none)=r) e (tO (P:=λa=>(a==Value.none)=false) rx λ_ _=>rfl)
theorem Wl (hb:(J.get? sysModules).isSome) (S:SR U w J s.heap Z O) (hu:A.units+64<cLine) {op:mT} {x y z:V} {a b:Value} {G:V→Prop} (rx:RV J s.heap Z x a) (ry:RV J s.heap Z y b) (h:co op O x y=some z)
    (k:∀r,wpAny (model U w) A (compareOp (fW op) a b) (BP s r) E s→G (.bool r)):G z:=by
 cases op with
 |eq=>exact l7 h λr e=>k _ (D2 S rx ry hu e false)
 |ne=>exact l7 h λr e=>k _ (D2 S rx ry hu e true)
 |is=>exact Dy (P:=λy b=>(∀r,wpAny (model U w) A (compareOp (fW .is) a b) (BP s r) E s→G (.bool r))→G z) h sn ry (λh k=>l7 h λr e=>k r (PySem.is_none (BP.at (HZ e rx)))) k
 |iD=>exact Dy (P:=λy b=>(∀r,wpAny (model U w) A (compareOp (fW .iD) a b) (BP s r) E s→G (.bool r))→G z) h sn ry (λh k=>l7 h λr e=>k _ (PySem.isNot_none (BP.at (congrArg (!·) (HZ e rx))))) k
 |isin=>exact l7 h λr e=>k _ (Kt hb S rx ry e false)
 |iA=>exact l7 h λr e=>k _ (Kt hb S rx ry e true)
 |lt=>exact dB (P:=λ_ a=>(∀r,wpAny (model U w) A (compareOp (fW .lt) a b) (BP s r) E s→G (.bool r))→G z) h sn rx (λi t h=>dB (P:=λ_ b=>(∀r,wpAny (model U w) A (compareOp (fW .lt) _ b) (BP s r) E s→G (.bool r))→G z) h sn ry λj u h k=>ct h (k _ (PyProof.Rows.lt_int (BP.at rfl)))) k
 |gt=>exact dB (P:=λ_ a=>(∀r,wpAny (model U w) A (compareOp (fW .gt) a b) (BP s r) E s→G (.bool r))→G z) h sn rx (λi t h=>dB (P:=λ_ b=>(∀r,wpAny (model U w) A (compareOp (fW .gt) _ b) (BP s r) E s→G (.bool r))→G z) h sn ry λj u h k=>ct h (k _ (PyProof.Rows.gt_int (BP.at rfl)))) k
 |ge=>exact dB (P:=λ_ a=>(∀r,wpAny (model U w) A (compareOp (fW .ge) a b) (BP s r) E s→G (.bool r))→G z) h sn rx (λi t h=>dB (P:=λ_ b=>(∀r,wpAny (model U w) A (compareOp (fW .ge) _ b) (BP s r) E s→G (.bool r))→G z) h sn ry λj u h k=>ct h (k _ (PyProof.Rows.ge_int (BP.at rfl)))) k
 |le=>exact mj (P:=λ_ a=>(∀r,wpAny (model U w) A (compareOp (fW .le) a b) (BP s r) E s→G (.bool r))→G z) h rx (λi t h=>dB (P:=λ_ b=>(∀r,wpAny (model U w) A (compareOp (fW .le) _ b) (BP s r) E s→G (.bool r))→G z) h sn ry λj u h k=>ct (P:=G) h (k _ (PyProof.Rows.le_int (BP.at rfl))))
            (λh=>eh (P:=λ_ a=>(∀r,wpAny (model U w) A (compareOp (fW .le) a b) (BP s r) E s→G (.bool r))→G z) h sn rx λl t hl h=>eh (P:=λ_ b=>(∀r,wpAny (model U w) A (compareOp (fW .le) _ b) (BP s r) E s→G (.bool r))→G z) h sn ry λm u hm h k=>ct h (k _ (PySem.P.le_str (BP.at (by simp))))) k
theorem IV {k:Int} {n:Nat} (h0:0≤k) (h1:k.toNat<n):seqIndex? k n=some k.toNat:=by
 unfold seqIndex?
 have:¬k<0:=by omega
 simp only [this,if_false]
 rw [if_pos]
 rw [Bool.and_eq_true,decide_eq_true_iff,decide_eq_true_iff]
 omega
theorem O3:([0]:List Nat).length≤aq:=by decide
theorem TK {k:Int} {n:Nat} (hl:n≤aq) (h0:0≤k) (h:k.toNat<n):(decide (k< -(2^63:Int))||decide (k≥2^63))=false:=by
 unfold aq at hl
 rw [Bool.or_eq_false_iff];exact ⟨decide_eq_false (by omega),decide_eq_false (by omega)⟩
theorem Nt {k:Int} {n:Nat} (h0:0≤k) (h:k.toNat<n) (hl:n≤aq):k<2^63:=by unfold aq at hl;omega
inductive BX (U:Program) (w:World) (A:Around) (s:Shared) (a b:Value) (Q:Value→Shared→Prop) (E:Value→Shared→Prop):Prop where
 |mk (T:String) (id:String) (h:wpAny (model U w) A (getItem a b) Q E s) (hT:s.TypeIs a T) (hl:typeLookup (.type T) "__getitem__"=pure (some (.builtin id))):BX U w A s a b Q E
theorem C8 (S:SR U w J s.heap Z O) {x y z:V} {a b:Value} (rx:RV J s.heap Z x a) (ry:RV J s.heap Z y b) (h:di O x y=some z):BX U w A s a b (aI U w J X Z s (.ok z O)) E:=by
 refine mj h ry (λk u h=>sE h rx (λl t hl h=>da h sn λh0 h=>?a) λh=>w8 h rx (λus a ws ht rs h=>da h sn λh0 h=>?b) λh=>gr h sn rx λn p hp h=>iL S hp h sn λus hs L h=>?c) λh=>
  eh h sn ry λk u hk h=>gr h sn rx λn p hp h=>qG S hp h sn λes hs D h=>?d
 case a=>
  refine l7 (P:=λz=>BX U w A s _ _ (aI U w J X Z s (.ok z O)) E) h λc hc=>?_
  have aK:=(List.getElem?_eq_some_iff.mp hc).1
  refine ⟨"str",_,PyProof.Rows.getItem_str (c:=c) (TK hl h0 aK) ?_ (aI.same S (iu (l:=[c]) _ O3) _),rfl,PySem.F.slot_str_getitem.lookup⟩
  rw [str_len,IV h0 aK];simpa using hc
 case b=>
  obtain ⟨x,hx,rx⟩:=aD.get rs h
  have aK:=(List.getElem?_eq_some_iff.mp h).1
  have bS:ws.size=us.length:=(Array.length_toList (xs:=ws)).symm.trans (aD.length rs)
  refine ⟨"tuple",_,PyProof.Rows.getItem_tuple ht (by omega) (by omega) (IV h0.1 (bS▸aK)) (by simpa using hx) (aI.here S rx),?_,PySem.F.slot_tuple_getitem.lookup⟩
  obtain ⟨o,ho,hc,_⟩:=ht
  exact ⟨o,ho,hc⟩
 case c=>
  obtain ⟨ws,hl,rs,bS,hz⟩:=L
  have hl:=hl.isList
  refine ⟨"list",_,?_,(match hl with |⟨o,ho,hc,_⟩=>⟨o,ho,hc⟩),PySem.slot_list_getitem.lookup⟩
  by_cases h0:0≤k
  ·rw [if_pos h0] at h
   obtain ⟨x,hx,rx⟩:=aD.get rs h
   exact wpAny_getItem_list hl h0 (Nt h0 (List.getElem?_eq_some_iff.mp h).1 hz) (by simpa using hx) (aI.here S rx)
  ·rw [if_neg h0] at h
   refine da h sn λh1 h=>?_
   subst h1
   rw [List.getLast?_eq_getElem?] at h
   obtain ⟨x,hx,rx⟩:=aD.get rs h
   obtain ⟨aK,_⟩:=List.getElem?_eq_some_iff.mp h
   refine wpAny_getItem_list_neg hl (by omega) (by omega) (by omega) (x:=x) ?_ (aI.here S rx)
   have:(-1+(ws.size:Int)).toNat=us.length-1:=by omega
   rw [this];simpa using hx
 case d=>
  obtain ⟨cL,hd,rd,hz⟩:=D
  have g:=xZ k rd
  rw [h] at g
  obtain ⟨x,e,rx⟩:=g
  exact ⟨"dict",_,wpAny_getItem_of (knd:=strKind U w) (strKind_is U w _ u) hd.mapOf e (aI.same S rx _),hd.typeIs,PySem.slot_dict_getitem.lookup⟩
theorem Qc {α:Type} (l:Array α):∀(a k:Nat),a+k≤l.size→((List.range k).map λ(j:Nat)=>((a:Int)+1*(j:Int)).toNat).filterMap (l[·]?)=(l.toList.drop a).take k:=by
 intro a k h
 have e:((List.range k).map λ(j:Nat)=>((a:Int)+1*(j:Int)).toNat)=(List.range k).map λj=>a+j:=List.map_congr_left λj _=>by omega
 rw [e]
 refine List.ext_getElem? λi=>?_
 rw [List.filterMap_map]
 have:(List.range k).filterMap ((λx=>l[x]?)∘λj=>a+j)=(List.range k).filterMap λj=>l[a+j]?:=rfl
 rw [this]
 have aQ:∀k,a+k≤l.size→(List.range k).filterMap (λj=>l[a+j]?)=(l.toList.drop a).take k:=by
  intro k
  induction k with
  |zero=>intro _;simp
  |succ k ih=>
   intro h
   rw [List.range_succ,List.filterMap_append,ih (by omega),List.take_add_one]
   congr 1
   rw [List.getElem?_drop]
   have:a+k<l.size:=by omega
   simp [this]
 rw [aQ k h]
theorem Xo {a b n:Nat} (h:b≤n):sliceRange (a:Int) (b:Int) 1=(List.range (b-a)).map λ(k:Nat)=>((a:Int)+1*(k:Int)).toNat:=by
 unfold sliceRange
 simp only [show (1:Int)>0 from by decide,if_true]
 by_cases ie:(a:Int)<b
 ·rw [if_pos ie]
  have:(((b:Int)-a+1-1)/1).toNat=b-a:=by omega
  rw [this]
 ·rw [if_neg ie]
  have:b-a=0:=by omega
  rw [this];rfl
noncomputable def gy (v:Option Nat) (d n:Nat):Nat:=match v with
 |some k=>min k n
 |Option.none=>d
theorem Se (lo hi:Option Nat) (n:Nat):Builtin.Str.strSliceIndices (lo.map λ(k:Nat)=>(k:Int)) (hi.map λ(k:Nat)=>(k:Int)) 1 n=sliceRange ((gy lo 0 n:Nat):Int) ((gy hi n n:Nat):Int) 1:=by
 unfold Builtin.Str.strSliceIndices
 simp only [show (1:Int)>0 from by decide,if_true]
 have c:∀(v:Option Nat) (d:Nat),(match v.map λ(k:Nat)=>(k:Int) with
   |Option.none=>(d:Int)
   |some i=>max 0 (min (if i<0 then i+(n:Int) else i) (n:Int)))=((gy v d n:Nat):Int):=by
  intro v d
  cases v with
  |none=>rfl
  |some k=>
   simp only [Option.map_some,gy]
   have:¬((k:Int)<0):=by omega
   rw [if_neg this]
   simp only [Int.max_def,Int.min_def,Nat.min_def]
   repeat' split
   all_goals first |omega |rfl
 have e1:=c lo 0
 have e2:=c hi n
 simp only [Int.ofNat_zero,Int.natCast_zero] at e1 e2 ⊢
 cases lo<;>cases hi<;>simp_all
theorem yV {α:Type} (l:List α) (lo hi:Option Nat):(l.drop (gy lo 0 l.length)).take (gy hi l.length l.length-gy lo 0 l.length)=ku l lo hi:=by
 unfold ku gy
 cases lo with
 |none=>
  cases hi with
  |none=>simp
  |some h=>
   simp only [List.drop_zero,Nat.sub_zero]
   rw [Nat.min_def]
   split
   ·rfl
   ·rw [List.take_of_length_le (adp _),List.take_of_length_le (by omega)]
 |some k=>
  cases hi with
  |none=>
   simp only
   rw [List.take_of_length_le (by rw [List.length_drop];exact adp _)]
   rw [Nat.min_def]
   split
   ·rfl
   ·rw [List.drop_of_length_le (adp _),List.drop_of_length_le (by omega)]
  |some h=>
   simp only
   rw [List.drop_take]
   by_cases hk:k≤l.length
   ·rw [Nat.min_eq_left hk]
    by_cases hh:h≤l.length
    ·rw [Nat.min_eq_left hh]
    ·rw [Nat.min_eq_right (by omega),List.take_of_length_le (by rw [List.length_drop];exact adp _),List.take_of_length_le (by rw [List.length_drop];omega)]
   ·have e:min k l.length=l.length:=Nat.min_eq_right (by omega)
    rw [e,List.drop_of_length_le (adp _),List.drop_of_length_le (l:=l) (i:=k) (by omega)]
    simp
theorem VG (l:List Nat) (lo hi:Option Nat):Txt.slice ⟨l.toArray⟩ (lo.map λ(k:Nat)=>(k:Int)) (hi.map λ(k:Nat)=>(k:Int))=(⟨(ku l lo hi).toArray⟩:Str):=by
 have vJ:gy lo 0 l.length≤l.length:=by unfold gy;cases lo<;>simp;omega
 have Qq:gy hi l.length l.length≤l.length:=by unfold gy;cases hi<;>simp;omega
 unfold Txt.slice
 rw [str_len,Se,Xo (n:=l.length) Qq]
 by_cases ie:gy lo 0 l.length≤gy hi l.length l.length
 ·rw [Qc (l:=l.toArray) _ _ (by simp;omega)]
  simp only [List.toList_toArray]
  rw [yV]
  split
  ·rename_i h
   simp only [beq_self_eq_true,Bool.true_and,beq_iff_eq,List.length_map,List.length_range] at h
   have h0:gy lo 0 l.length=0:=by omega
   have h1:gy hi l.length l.length=l.length:=by omega
   have:=yV l lo hi
   rw [h0,h1] at this
   simp at this
   rw [←this]
  ·rfl
 ·have h0:gy hi l.length l.length-gy lo 0 l.length=0:=by omega
  have c:=yV l lo hi
  rw [h0] at c ⊢
  simp only [List.take_zero] at c
  rw [←c]
  simp only [List.range_zero,List.map_nil,List.length_nil,List.filterMap_nil]
  split
  ·rename_i h
   simp only [beq_self_eq_true,Bool.true_and,beq_iff_eq] at h
   have:l=[]:=List.length_eq_zero_iff.mp h.symm
   subst this;rfl
  ·rfl
end
noncomputable def OS:List Addr:=[54,61,68,75,82,89,96,103,110,117,124,131,138,145,29,159,180,187,194,216,223,230,237,244,251,258,265,279,286,293,298,303,310,317,322,329,336,343,350]
noncomputable def bQ (f:Nat):Addr:=OS.getD f 0
noncomputable def nM (m:Nat):Str:=Str.ofString (CB.getD m "")
theorem M4:∀f,f<14→∀g,g<14→aB f=aB g→f=g:=by decide +kernel
structure KF (K:Frag):Prop where
 ga:∀c,findIn K (.ref (cB c)) "__getattribute__"=some (some (.builtin "object.__getattribute__"))
 Nf:∀c,findIn K (.ref (cB c)) "__getattr__"=some none
 sa:∀c,findIn K (.ref (cB c)) "__setattr__"=some (some (.builtin "object.__setattr__"))
 hd:∀c,hasDictIn K (cB c)=true
 po:∀c,plainOver K (cB c)=true
 fld:∀c,∀f,f<14→findIn K (.ref (cB c)) (aB f)=some none
 GO:∀c m f,gb c m=some f→findIn K (.ref (cB c)) (nM m)=some (some (.ref (bQ f)))
 Na:∀m,m<9→∀f,f<14→aB f≠nM m
 isFn:∀f,f<39→typeIn K (.ref (bQ f))=some (.type "function")
 kp:∀f,f<39→keepIn K (.ref (bQ f))=true
 kc:∀c,keepIn K (.ref (cB c))=true
 Kw:∀c,makesIn K (cB c)=true
 init:∀c,findIn K (.ref (cB c)) "__init__"=some (some (.ref (bQ (nL c))))
section
variable {U:Program} {w:World} {J:Heap} {fl:List Env} {Z:aH} {O:ag} {s:Shared} {A:Around} {E:Value→Shared→Prop} {X:Addr→Prop} {K:Frag}
theorem Ma {h:Heap}:∀{fs:List (Nat×V)} {es:List DictEntry},cD J h Z fs es→es.any (·.refKey)=false
 |[],_,e=>by simp only [cD] at e;subst e;rfl
 |(_,_)::_,_,e=>by
  simp only [cD] at e
  obtain ⟨hs,t,x,q,rfl,_,_,r⟩:=e
  rw [List.any_cons,Ma r];rfl
theorem Ad {h:Heap} {f:Nat} (hf:f<14):∀{fs:List (Nat×V)} {es:List DictEntry},cD J h Z fs es→
    (match pD fs f with |some v=>∃x,getL (aB f) es=some (some x)∧RV J h Z v x |Option.none=>getL (aB f) es=some Option.none)
 |[],_,e=>by simp only [cD] at e;subst e;rfl
 |(g,v)::r,_,e=>by
  have e0:=e
  simp only [cD] at e
  obtain ⟨hs,t,x,q,rfl,hg,rv,rr⟩:=e
  have ih:=Ad hf rr
  simp only [pD]
  by_cases qc:g=f
  ·subst qc
   simp only [if_true]
   refine ⟨x,?_,rv⟩
   unfold getL
   rw [List.find?_cons]
   have:(Value.str (aB g) t).isStr (aB g)=true:=by simp [Value.isStr]
   rw [this]
  ·simp only [qc,if_false]
   have cz:(Value.str (aB g) t).isStr (aB f)=false:=by
    simp only [Value.isStr,beq_eq_false_iff_ne]
    exact λz=>qc (M4 g hg f hf z)
   have ve:getL (aB f) (⟨hs,.str (aB g) t,x⟩::q)=getL (aB f) q:=by
    unfold getL
    rw [List.find?_cons]
    simp only [cz]
    rw [List.any_cons]
    rfl
   rw [ve]
   exact ih
theorem Jj {h:Heap} {n:Str} (hn:∀f,f<14→aB f≠n):∀{fs:List (Nat×V)} {es:List DictEntry},cD J h Z fs es→getL n es=some Option.none
 |[],_,e=>by simp only [cD] at e;subst e;rfl
 |(g,v)::r,_,e=>by
  simp only [cD] at e
  obtain ⟨hs,t,x,q,rfl,hg,rv,rr⟩:=e
  have ih:=Jj hn rr
  have cz:(Value.str (aB g) t).isStr n=false:=by
   simp only [Value.isStr,beq_eq_false_iff_ne]
   exact hn g hg
  unfold getL at ih ⊢
  rw [List.find?_cons]
  simp only [cz]
  rw [List.any_cons]
  exact ih
theorem uh {h:Heap} {f:Nat} (hf:f<14) {v:V} {x:Value} (rv:RV J h Z v x) (ze:Int) (t:Tok):∀{fs:List (Nat×V)} {es:List DictEntry},cD J h Z fs es→
  cD J h Z (fc fs f v) (putL (aB f) ze (.str (aB f) t) x es)
 |[],_,e=>by
  simp only [cD] at e;subst e
  simp only [fc,putL,cD]
  exact ⟨ze,t,x,[],rfl,hf,rv,rfl⟩
 |(g,u)::r,_,e=>by
  simp only [cD] at e
  obtain ⟨hs,t',y,q,rfl,hg,ru,rr⟩:=e
  simp only [fc,putL]
  by_cases qc:g=f
  ·subst qc
   have:(Value.str (aB g) t').isStr (aB g)=true:=by simp [Value.isStr]
   simp only [this,if_true,cD]
   exact ⟨hs,t',x,q,rfl,hg,rv,rr⟩
  ·have cz:(Value.str (aB g) t').isStr (aB f)=false:=by
    simp only [Value.isStr,beq_eq_false_iff_ne]
    exact λz=>qc (M4 g hg f hf z)
   simp only [cz,qc,Bool.false_eq_true,if_false,cD]
   exact ⟨hs,t',y,_,rfl,hg,ru,uh hf rv ze t rr⟩
theorem Dp (f:Nat) (v:V):∀fs:List (Nat×V),(fc fs f v).map (·.1)=if f∈fs.map (·.1) then fs.map (·.1) else fs.map (·.1)++[f]
 |[]=>by simp [fc]
 |(g,u)::r=>by
  simp only [fc]
  by_cases h:g=f
  ·subst h;simp
  ·simp only [h,if_false,List.map_cons,Dp f v r,List.mem_cons]
   have:¬f=g:=λz=>h z.symm
   simp only [this,false_or]
   split<;>simp
theorem UP:∀l:List Nat,l.Nodup→(∀x∈l,x<14)→l.length≤14:=λl hn hx=>by
 have h:=List.Nodup.length_le_of_subset (l₂:=List.range 14) hn (λx hm=>List.mem_range.mpr (hx x hm))
 simpa using h
theorem Bz {h:Heap}:∀{fs:List (Nat×V)} {es:List DictEntry},cD J h Z fs es→(∀x∈fs.map (·.1),x<14)∧es.length=fs.length
 |[],_,e=>by simp only [cD] at e;subst e;simp
 |(g,v)::r,_,e=>by
  simp only [cD] at e
  obtain ⟨hs,t,x,q,rfl,hg,rv,rr⟩:=e
  obtain ⟨a,b⟩:=Bz rr
  refine ⟨λy hy=>?_,by simp [b]⟩
  simp only [List.map_cons,List.mem_cons] at hy
  rcases hy with rfl |hy
  ·exact hg
  ·exact a y hy
theorem JA {h:Heap} {x:V} {v:Value} (r:RV J h Z x v):handedIn v=true:=match x,r with
 | .none,r=>wb (P:=λv=>handedIn v=true) r rfl
 | .bool _,r=>uy (P:=λv=>handedIn v=true) r rfl
 | .int _,r=>vo (P:=λv=>handedIn v=true) r λ_=>rfl
 | .str _,r=>ux (P:=λv=>handedIn v=true) r λ_ _=>rfl
 | .tup _,r=>Aa (P:=λv=>handedIn v=true) r λ_ _ _ _=>rfl
 | .ref _,r=>tO (P:=λv=>handedIn v=true) r λ_ _=>rfl
 | .frozen _,⟨_,_,_,e,_⟩=>e▸rfl
theorem yT {h:Heap} {p:Addr×Addr} {c:cj} {es:List DictEntry} {n:Nat} (h1:h.get? p.1=some (instObj (cB c) p.2)) (h2:h.get? p.2=some (dictOf es n)):
  InstAt h p.1 (instObj (cB c) p.2) (cB c) (some (dictOf es n)):=⟨h1,rfl,rfl,h2⟩
theorem aas (kf:KF K) (X0:K.In s.heap) (S:SR U w J s.heap Z O) {x z:V} {a:Value} {f:Nat} {b:Bool} (hf:f<14) (rx:RV J s.heap Z x a) (h:wc O x f=some z):
  wpAny (model U w) A (getAttr a (aB f) b) (aI U w J X Z s (.ok z O)) E s:=by
 refine gr h sn rx λn p hp h=>zN S hp h sn λc fs hs I h=>?_
 obtain ⟨es,m,h1,h2,fr,_,_⟩:=I
 have g:=Ad hf fr
 rw [h] at g
 obtain ⟨v,e,rv⟩:=g
 exact get_value X0 (yT h1 h2) (kf.ga c) (findObj_own (attr:=none) (kf.hd c) (kf.fld c f hf) rfl (by rw [lookIn_dict];exact e)) (JA rv) (aI.same S rv _)
theorem Ux {c:cj} {x dx:Addr} {es:List DictEntry} {n:Nat} {name:Str} {tk:Tok} {v:Value} {R:Result→Shared→Prop} (kf:KF K) (X0:K.In s.heap)
    (h1:s.heap.get? x=some (instObj (cB c) dx)) (h2:s.heap.get? dx=some (dictOf es n)) (hn:findIn K (.ref (cB c)) name=some none) (hk:es.any (·.refKey)=false)
    (hz:(putL name (PyData.keyHash w.params name) (.str name s.toks) v es).length≤1000)
    (h:∀h',Heap.SameBut dx s.heap h'→h'.get? dx=some (dictOf (putL name (PyData.keyHash w.params name) (.str name s.toks) v es) (putN name es n))→R (.ok (.ret .none)) {s with heap:=h',toks:=s.toks+1}):
  codeAny (model U w) A (.call (.builtin "object.__setattr__") ⟨[.ref x,.str name tk,v],[]⟩) R s:=by
 have I:InstAt s.heap x (instObj (cB c) dx) (cB c) (some (dictOf es n)):=⟨h1,rfl,rfl,h2⟩
 refine osa_open (r:=none) X0 I (kf.po c) (by unfold takerIn;rw [hn];rfl) λb=>?_
 obtain ⟨cd,hc,bO⟩:=any_some (kf.hd c)
 refine wpAny_bind (wpAny_pure (wpAny_bind (wpAny_bind (wpAny_loadPart h1 (wpAny_bind ((looks_clsIn X0 hc).here ?_))))))
 rw [bO]
 refine wpAny_pure (a:=some dx) (wpAny_bind (wpAny_pure (wpAny_bind ?_)))
 unfold nsSet
 refine wpAny_bind (wpAny_bind (wpAny_askSetting (wpAny_pure (wpAny_bind (wpAny_mkText (wpAny_bind (wpAny_loadPart h2 ?_)))))))
 have q:aRefKeyMayBeTheName name es.toArray=false:=by
  rw [aRefKeyMayBeTheName_at]
  have:(es.toArray.any λx:DictEntry=>x.refKey)=false:=by rw [←Array.any_toList];exact hk
  rw [this,Bool.and_false]
 dsimp only
 rw [q]
 have ac6:(dictOf (putL name (PyData.keyHash w.params name) (.str name s.toks) v es) (putN name es n)).isFreed=false:=rfl
 have hu:=putName_dict name (PyData.keyHash w.params name) (.str name s.toks) v es n
 have g:(s.heap.update dx (Obj.putName name (PyData.keyHash w.params name) (.str name s.toks) v)).get? dx=some (dictOf (putL name (PyData.keyHash w.params name) (.str name s.toks) v es) (putN name es n)):=by
  rw [←hu];exact Heap.get?_update_self _ h2 (by rw [hu];rfl)
 refine wpAny_updatePart h2 ?_
 refine wpAny_bind (wpAny_lookBehind g (pastItsLine_dict (by rw [List.size_toArray,sizeLine_eq];omega)) ?_)
 exact wpAny_pure (h _ (Heap.SameBut.update ..) g)
structure Left (U:Program) (w:World) (J:Heap) (Z:aH) (s:Shared) (af:ag) (s':Shared):Prop where
 x:aj aE Z s Z s'
 sr:SR U w J s'.heap Z af
theorem ZK {fs:List (Nat×V)} (f:Nat) (v:V) (nd:(fs.map (·.1)).Nodup):((fc fs f v).map (·.1)).Nodup:=by
 rw [Dp]
 split
 ·exact nd
 ·rename_i hm
  exact List.nodup_append.mpr ⟨nd,by simp,λa ha b hb q=>hm (by simp at hb;rw [←hb, ←q];exact ha)⟩
theorem S4 {fs:List (Nat×V)} {f:Nat} (v:V) (hf:f<14) (sm:∀x∈fs.map (·.1),x<14):∀y∈(fc fs f v).map (·.1),y<14:=λy hy=>by
 rw [Dp] at hy
 split at hy
 ·exact sm y hy
 ·rcases List.mem_append.mp hy with q |q
  ·exact sm y q
  ·simp at q;subst q;exact hf
theorem YN (kf:KF K) (X0:K.In s.heap) (S:St U w J fl Z O s) {x v:V} {a b:Value} {f:Nat} {af:ag} (hf:f<14) (rx:RV J s.heap Z x a) (rv:RV J s.heap Z v b) (h:qQ O x f v=some af):
  wpAny (model U w) A (setAttr a (aB f) b) (λ_ s'=>Left U w J Z s af s') E s:=by
 refine gr h sn rx λn p hp h=>zN S.sr hp h sn λc fs hs I h=>ct h ?_
 obtain ⟨es,m,h1,h2,fr,hl,nd⟩:=I
 have KU:=ZK f v nd
 have He:(fc fs f v).length≤14:=by
  have:=UP _ KU (S4 v hf (Bz fr).1)
  rw [List.length_map] at this;exact this
 have HK:=λt=>uh hf rv (PyData.keyHash w.params (aB f)) t fr
 refine set_plain X0 (yT h1 h2) (kf.sa c) (Ux (s:={s with toks:=s.toks+1}) kf X0 h1 h2 (kf.fld c f hf) (Ma fr) ?_ λh' a9 hg=>?_)
 ·rw [(Bz (HK _)).2];exact adj He (by decide)
 ·have T:=B3 (c:= .inst c (fc fs f v)) S hp (.inr rfl) a9 (by rw [hg];rfl) (s.toks+1+1) λvk=>by
   have ne:p.1≠p.2:=λq=>by
    rw [q,h2] at h1
    injection h1 with h1;injection h1 with h1;cases h1
   exact ⟨(a9.2 _ ne).trans h1,He,KU,_,_,hg,cD.mono vk (HK _)⟩
  exact ⟨T.1,T.2⟩
end
section
variable {U:Program} {w:World} {J:Heap} {fl:List Env} {Z:aH} {O:ag} {s:Shared} {A:Around} {E:Value→Shared→Prop} {X:Addr→Prop} {K:Frag}
theorem Left.post {af:ag} {s':Shared} (h:Left U w J Z s af s') {x:V} {v:Value} (r:RV J s'.heap Z x v):aI U w J aE Z s (.ok x af) v s':=⟨Z,h.1,h.2,r⟩
theorem yD (S:St U w J fl Z O s) {n:Nat} {p:Addr×Addr} {vs us:List V} {ws xs:Array Value} (hp:Z[n]?=some p) (hs:O[n]?=some (.list vs)) {h':Heap} (a9:Heap.SameBut p.1 s.heap h') (hl:h'.PlainList p.1 xs)
    (rs:aD J s.heap Z us xs.toList) (hz:us.length≤aq) (k:Nat):Left U w J Z s (O.set n (.list us)) {s with heap:=h',toks:=k}:=by
 obtain ⟨e,_⟩:=S.sr.cell _ _ _ hp hs
 obtain ⟨m,hm⟩:=hl
 have T:=B3 (c:= .list us) S hp (.inl rfl) a9 (by rw [hm];rfl) k λv=>⟨e,hz,xs,⟨m,hm⟩,aD.mono v rs⟩
 exact ⟨T.1,T.2⟩
theorem MX {h:Heap} {k:List Nat} {v:V} {x:Value} (rv:RV J h Z v x):∀{es:List (List Nat×V)} {l:List (Str×Value)},bo J h Z es l→(l.map (·.1)).Nodup→bo J h Z (dictPut es k v) (stored l (⟨k.toArray⟩:Str) x)
 |[],l,e,_=>by
  simp only [bo] at e;subst e
  simp only [dictPut,stored,List.any_nil,Bool.false_eq_true,if_false,List.nil_append,bo]
  exact ⟨x,[],rfl,rv,rfl⟩
 |(y,u)::es,l,e,nd=>by
  simp only [bo] at e
  obtain ⟨a,q,rfl,ru,r⟩:=e
  have ih:=MX (k:=k) rv r (List.nodup_cons.mp nd).2
  simp only [dictPut]
  by_cases hx:y=k
  ·subst hx
   simp only [if_true,stored,List.any_cons,decide_true,Bool.true_or,List.map_cons]
   have:(q.map λkv=>if kv.1=(⟨y.toArray⟩:Str) then (kv.1,x) else kv)=q:=map_store_of_not_mem q _ x (List.nodup_cons.mp nd).1
   rw [this]
   simp only [bo]
   exact ⟨x,q,rfl,rv,r⟩
  ·have cz:¬((⟨y.toArray⟩:Str)=⟨k.toArray⟩):=λz=>hx (by injection z with z;simpa using z)
   simp only [hx,if_false,bo]
   refine ⟨a,stored q (⟨k.toArray⟩:Str) x,?_,ru,ih⟩
   simp only [stored,List.any_cons,decide_eq_false cz,Bool.false_or,List.map_cons,if_neg cz]
   split<;>rfl
theorem Cg {h:Heap} {k:List Nat}:∀{es:List (List Nat×V)} {l:List (Str×Value)},bo J h Z es l→(l.map (·.1)).Nodup→bo J h Z (dictDel es k) (without l (⟨k.toArray⟩:Str))
 |[],l,e,_=>by
  simp only [bo] at e;subst e
  simp only [dictDel,without,List.filter_nil,bo]
 |(y,u)::es,l,e,nd=>by
  simp only [bo] at e
  obtain ⟨a,q,rfl,ru,r⟩:=e
  have ih:=Cg (k:=k) r (List.nodup_cons.mp nd).2
  simp only [dictDel]
  by_cases hx:y=k
  ·subst hx
   have nm:=(List.nodup_cons.mp nd).1
   have:without ((((⟨y.toArray⟩:Str),a)::q)) (⟨y.toArray⟩:Str)=q:=by
    unfold without
    rw [List.filter_cons]
    simp only [ne_eq,not_true_eq_false,decide_false,Bool.false_eq_true,if_false]
    exact List.filter_eq_self.mpr λz hz=>decide_eq_true λe=>nm (by rw [List.mem_map];exact ⟨z,hz,e⟩)
   simp only [if_true]
   rw [this];exact r
  ·have cz:¬((⟨y.toArray⟩:Str)=⟨k.toArray⟩):=λz=>hx (by injection z with z;simpa using z)
   simp only [hx,if_false,bo]
   refine ⟨a,without q (⟨k.toArray⟩:Str),?_,ru,ih⟩
   unfold without
   rw [List.filter_cons]
   simp only [ne_eq,cz,not_false_eq_true,decide_true,if_true]
theorem vD {h:Heap}:∀{es:List (List Nat×V)} {l:List (Str×Value)},bo J h Z es l→l.length=es.length
 |[],l,e=>by simp only [bo] at e;subst e;rfl
 |(y,u)::es,l,e=>by
  simp only [bo] at e
  obtain ⟨a,q,rfl,ru,r⟩:=e
  simp [vD r]
theorem Nz (k:List Nat) (v:V):∀es:List (List Nat×V),(dictPut es k v).length≤es.length+1
 |[]=>by simp [dictPut]
 |(y,u)::es=>by
  simp only [dictPut]
  split
  ·simp
  ·have:=Nz k v es;simp;omega
theorem Ac (k:List Nat):∀es:List (List Nat×V),(dictDel es k).length≤es.length
 |[]=>by simp [dictDel]
 |(y,u)::es=>by
  simp only [dictDel]
  split
  ·simp
  ·have:=Ac k es;simp;omega
theorem Cr (S:St U w J fl Z O s) {n:Nat} {p:Addr×Addr} {es fs:List (List Nat×V)} {cL:List (Str×Value)} (hp:Z[n]?=some p) (hs:O[n]?=some (.dict es)) {h':Heap} (a9:Heap.SameBut p.1 s.heap h')
    (hd:h'.DictOf (strKind U w) p.1 cL) (rd:bo J s.heap Z fs cL) (hz:fs.length≤1000000) (k:Nat):Left U w J Z s (O.set n (.dict fs)) {s with heap:=h',toks:=k}:=by
 obtain ⟨e,_⟩:=S.sr.cell _ _ _ hp hs
 have hl:(h'.get? p.1).isSome:=by obtain ⟨o,_,_,ho,_⟩:=hd;rw [ho];rfl
 have T:=B3 (c:= .dict fs) S hp (.inl rfl) a9 hl k λv=>⟨e,hz,cL,hd,bo.mono v rd⟩
 exact ⟨T.1,T.2⟩
theorem By {h:Heap} {a:Addr} {cL:List (Str×Value)} (hd:h.DictOf (strKind U w) a cL):(cL.map (·.1)).Nodup:=by
 obtain ⟨_,_,_,_,_,_,_,_,nd⟩:=hd;exact nd
theorem yM {n:Nat} (h:n≤1000000):n≤sizeLine:=adj h (by rw [←gU];decide)
theorem acC {n:Nat} (h:n<1000000):n<sizeLine:=adk h (by rw [←gU];decide)
theorem Mu (S:St U w J fl Z O s) {x y v:V} {a b c:Value} {af:ag} (rx:RV J s.heap Z x a) (ry:RV J s.heap Z y b) (rv:RV J s.heap Z v c) (h:jI O x y v=some af):
  wpAny (model U w) A (setItem a b c) (λ_ s'=>Left U w J Z s af s') E s:=by
 refine gr h sn rx λn p hp h=>mj h ry (λk u h=>iL S.sr hp h sn λus hs L h=>da h sn λh0 h=>ct h ?a) λh=>eh h sn ry λk u hk h=>qG S.sr hp h sn λes hs D h=>da h sn λh0 h=>ct h ?b
 case a=>
  obtain ⟨ws,⟨m,hm⟩,rs,bS,hz⟩:=L
  refine ki_setAt (n:=m) hm h0.1 (Nt h0.1 h0.2 hz) ((Int.toNat_lt h0.1).1 (bS▸h0.2)) ?_
  have hu:=PySem.IsL.update hm (·.setIfInBounds (Int.toNat k) c)
  exact yD (ws:=ws) S hp hs (Heap.SameBut.update ..) ⟨_,hu⟩ (by rw [Array.toList_setIfInBounds];exact aD.set rs rv) (by rw [List.length_set];exact hz) s.toks
 case b=>
  obtain ⟨cL,hd,rd,hz⟩:=D
  refine wpAny_setItem_pairs (knd:=strKind U w) (strKind_is U w _ u) hd (λh' bO a9=>?_) (vD rd▸yM hz)
  exact Cr S hp hs a9 bO (MX rv rd (By hd)) (adj (Nz k v es) h0) _
theorem XK (S:St U w J fl Z O s) {x y:V} {a b:Value} {af:ag} (rx:RV J s.heap Z x a) (ry:RV J s.heap Z y b) (h:rG O x y=some af):
  wpAny (model U w) A (delItem a b) (λ_ s'=>Left U w J Z s af s') E s:=by
 refine gr h sn rx λn p hp h=>eh h sn ry λk u hk h=>qG S.sr hp h sn λes hs D h=>da h sn λh0 h=>ct h ?_
 obtain ⟨cL,hd,rd,hz⟩:=D
 refine wpAny_delItem_slot hd.typeIs (by decide) PySem.F.slot_dict_delitem (call_meetsIn PySem.F.slot_dict_delitem hd.typeIs PySem.F.entry_dict_delitem (PySem.F.args_dict_delitem_2 _ _)
    (meets_dict_delitem_pairs (strKind U w) p.1 (strKind_is U w _ u)) ⟨cL,hd,vD rd▸yM hz,(zK rd).trans h0,λh' bO a9=>?_⟩)
 exact Cr S hp hs a9 bO (Cg rd (By hd)) (adj (Ac k es) hz) _
theorem uj {Q:Value→Shared→Prop} {v:Value} {s':Shared} (h:Q v s'):wants Q E (.ok (.ret v)) s':=h
theorem Gy {ws:Array Value} {vs:List V} {h:Heap} (rs:aD J h Z vs ws.toList):ws.size=vs.length:=by rw [←aD.length rs];simp
theorem KV:typeLookup (.type "list") (dunderI "add")=pure (some (Value.builtin "list.__iadd__")):=PySem.F.slot_list_iadd.lookup
theorem Oi {a b:Value} {Q:Value→Shared→Prop} (ha:s.TypeIs a "list") (hb:s.TypeIs b "list") (hc:wpAny (model U w) A (call (.builtin "list.__iadd__") [a,b]) Q E s):
  wpAny (model U w) A (inplaceOp .Add a b) Q E s:=by
 unfold inplaceOp
 refine wpAny_holding ?_
 have hq:isSeqSlot (some (Value.builtin "list.__iadd__"))=true:=by decide +kernel
 have U6:fillsInplaceSlot (.type "list") "add" (Operator.Add== .Add)=pure false:=by
  unfold fillsInplaceSlot
  show (typeLookup (.type "list") (dunderI "add")>>=λfi=>pure (fi.isSome&& !isSeqSlot fi))=pure false
  rw [KV,pure_bind,hq];rfl
 have Tw:seqSlot? (.type "list") (dunderI "add")=pure (some (Value.builtin "list.__iadd__")):=PySem.seqSlot_of KV hq
 refine wpAny_bind (wpAny_typeOf ha (wpAny_bind (wpAny_of_eq U6 ?_)))
 show wpAny _ A (if false=true then _ else _) Q E s
 rw [if_neg Bool.false_ne_true]
 refine wpAny_bind (wpAny_binaryOp1_none (nm:="add") ha hb PySem.noFill_list_add ?_)
 refine wpAny_bind (wpAny_of_eq Tw ?_)
 exact wpAny_bind (wpAny_rule hc)
theorem Oh (S:SR U w J s.heap Z O) {op:BinOp} {x y z:V} {a b:Value} (rx:RV J s.heap Z x a) (ry:RV J s.heap Z y b) (h:e8 op x y=some z) (hm:op≠ .mul):
  wpAny (model U w) A (inplaceOp (jQ op) a b) (aI U w J X Z s (.ok z O)) E s:=by
 cases op with
 |add=>
  refine mj h rx (λi t h=>dB h sn ry λj u h=>ct h ?a) λh=>eh h sn rx λl t hl h=>eh h sn ry λm u hm h=>da h sn λhl h=>ct h ?b
  case a=>exact PyProof.Rows.iadd_int (aI.same S (eW _ _) _)
  case b=>
   refine PyProof.Rows.iadd_str (λt' tk=>?_) ?_
   ·rw [KX]
    exact aI.same S (iu _ hl) _
   ·rw [str_len,str_len, ←gU, ←List.length_append];exact hl
 |sub=>exact dB h sn rx λi t h=>dB h sn ry λj u h=>ct h (PyProof.Rows.isub_int (aI.same S (eW _ _) _))
 |mul=>exact absurd rfl hm
 |fdiv=>exact dB h sn rx λi t h=>dB h sn ry λj u h=>da h sn λhs h=>ct h (PyProof.Rows.ifloordiv_int (Int.ne_of_gt hs.1) (aI.same S (eW _ _) _) (.inl (PyProof.noPylong_small (JU hs))))
 |mod=>exact dB h sn rx λi t h=>dB h sn ry λj u h=>da h sn λhs h=>ct h (PyProof.Rows.imod_int (Int.ne_of_gt hs.1) (aI.same S (eW _ _) _))
theorem QH {n m:Nat} (h:n+m≤aq):n≤sizeLine∧m≤sizeLine∧n+m≤sizeLine:=by rw [←gU];exact ⟨adj (adm ..) h,adj (Nat.le_add_left ..) h,h⟩
theorem JQ (S:St U w J fl Z O s) {op:BinOp} {x y:V} {a b:Value} {out:Out V} (rx:RV J s.heap Z x a) (ry:RV J s.heap Z y b) (h:jr op O x y=out) (hn:out≠ .stuck):
  wpAny (model U w) A (inplaceOp (jQ op) a b) (aI U w J aE Z s out) E s:=by
 have plain:op≠ .mul→gB (e8 op x y) O=out→wpAny (model U w) A (inplaceOp (jQ op) a b) (aI U w J aE Z s out) E s:=λhm h=>m6 h hn λz hz=>Oh S.sr rx ry hz hm
 cases op with
 |add=>
  refine Bl (P:=λx a=>_→wpAny (model U w) A (inplaceOp (jQ .add) a b) (aI U w J aE Z s out) E s) h rx (λn p hp h _=>gr h hn ry λm q hq h=>iL S.sr hp h hn λxs hx L1 h=>iL S.sr hq h hn λys hy L2 h=>da h hn λh0 h=>?a) (λh pl=>pl nofun h) plain
  obtain ⟨ws,⟨m1,hm⟩,rs,l1,hz⟩:=L1
  obtain ⟨us,⟨m2,oH⟩,Yu,l2,acf⟩:=L2
  subst h
  have ⟨f1,f2,f3⟩:=QH h0.2
  have T1:s.TypeIs (.ref p.1) "list":=⟨_,hm,rfl⟩
  have T2:s.TypeIs (.ref q.1) "list":=⟨_,oH,rfl⟩
  refine Oi T1 T2 (call_meets PySem.F.slot_list_iadd T1 PySem.F.entry_list_iadd (PySem.F.args_list_iadd_2 _ _)
      (AutoSeq1.list___iadd___list_list_0 p.1 ws m1 q.1 us m2 ?_ (by rw [l1];exact f1) (by rw [l1,l2];exact Nat.le_succ_of_le f3)) ⟨hm,oH,?_⟩)
  ·rw [Bool.and_eq_true,not_and]
   intro _
   unfold Builtin.List.listTooLong
   simp only [decide_eq_true_eq,sizeLine_eq] at*
   omega
  ·have hu:=PySem.IsL.update hm (· ++us)
   exact uj (Left.post (yD (ws:=ws) S hp hx (Heap.SameBut.update ..) ⟨_,hu⟩ (by rw [Array.toList_append];exact aD.append rs Yu) (by rw [List.length_append];exact h0.2) s.toks) ⟨p,hp,rfl⟩)
 |mul=>exact absurd h.symm hn
 |sub |fdiv |mod=>exact plain nofun h
end
section
variable {U:Program} {w:World} {J:Heap} {fl:List Env} {Z:aH} {O:ag} {s:Shared} {A:Around} {E:Value→Shared→Prop} {X:Addr→Prop} {K:Frag}
noncomputable def AZ:Bi→Value
 | .len=> .builtin "len" | .min=> .builtin "min" | .max=> .builtin "max" | .int=> .type "int" | .abs=> .builtin "abs" | .sorted=> .builtin "sorted"
theorem Ib (S:St U w J fl Z O s) {x:V} {v:Value} {h':Heap} {k:Nat} (g:∀c o,s.heap.get? c=some o→h'.get? c=some o) (r:∀h,RV J h Z x v):aI U w J aE Z s (.ok x O) v {s with heap:=h',toks:=k}:=by
 have E:aj aE Z s Z {s with heap:=h',toks:=k}:=⟨List.prefix_refl _,λb o e _ _=>g b o e,λb e=>by
  obtain ⟨o,ho⟩:=Option.isSome_iff_exists.mp e
  rw [g b o ho];rfl,λn p hn e=>(by rw [List.getElem?_eq_none hn] at e;cases e),rfl,rfl,rfl⟩
 exact ⟨Z,E,S.sr.grow (E.fe S) λb o _ e=>g b o e,r _⟩
theorem Lm (S:St U w J fl Z O s) {h':Heap} (g:∀c o,s.heap.get? c=some o→h'.get? c=some o) {p:Addr×Addr} (h1:s.heap.get? p.1=none) (h2:s.heap.get? p.2=none) {c:Cell} (k:Nat)
    (hc:VK J Z s.heap (Z++[p]) h'→RC U w J h' (Z++[p]) p c):aI U w J aE Z s (.ok (.ref O.length) (O++[c])) (.ref p.1) {s with heap:=h',toks:=k}:=by
 have E0:aj aE Z s Z {s with heap:=h',toks:=k}:=⟨List.prefix_refl _,λb o e _ _=>g b o e,λb e=>by
  obtain ⟨o,ho⟩:=Option.isSome_iff_exists.mp e
  rw [g b o ho];rfl,λn p hn e=>(by rw [List.getElem?_eq_none hn] at e;cases e),rfl,rfl,rfl⟩
 have v0:=E0.fe S
 have v:VK J Z s.heap (Z++[p]) h':=⟨List.prefix_append _ _,v0.seq,v0.stays,v0.off,v0.cells⟩
 refine ⟨Z++[p],?_,S.sr.more v (hc v) (λb o _ e=>g b o e) h1 h2 (jG S.stays h1) (jG S.stays h2),?_⟩
 ·refine ⟨List.prefix_append _ _,E0.keep,E0.live,λn q hn e=>?_,rfl,rfl,rfl⟩
  rw [List.getElem?_append_right hn] at e
  cases hk:n-Z.length with
  |zero=>rw [hk] at e;cases e;exact ⟨h1,h2⟩
  |succ j=>rw [hk] at e;simp at e
 ·simp only [RV]
  exact ⟨p,by rw [←S.sr.len];simp,rfl⟩
theorem PY {k:Str} {v:Value} (h:(PySem.strKind U w).is k v=true):∃t,v= .str k t:=by
 have h:v.isStrOf k=true:=h
 cases v<;>simp [Value.isStrOf] at h
 subst h
 exact ⟨_,rfl⟩
theorem Sn (S:St U w J fl Z O s) (hh:A.handled=none) (hb:(J.get? sysModules).isSome) {n:Nat} {k:List Nat} {v:V} {p:Addr×Addr} (hp:Z[n]?=some p) (hs:O[n]?=some (.dict [(k,v)])) (Wh:k.length≤aq):
  wpAny (model U w) A (call (.builtin "sorted") [.ref p.1]) (aI U w J aE Z s (.ok (.ref O.length) (O++[.list [.str k]]))) E s:=by
 obtain ⟨cL,hd,⟨x,q,rfl,rx,rfl⟩,_⟩:=S.sr.dict hp hs
 have cz:=Ew hb S.sr hp
 obtain ⟨ep,wX⟩:=hd.dictAt
 refine call_function_entry kind_sorted plain_sorted entry_sorted (args_sorted1 _) ?_
 unfold Builtin.«sorted»
 refine wpAny_bind (m:=checkCount "sorted" 1 1 _) (wpAny_pure ?_)
 refine wpAny_bind (kdu_collect (A:=A.in1) (kdl_dict (knd:=PySem.strKind U w) cz) hh wX (by show 1≤_;decide) λh' tk acc hk Et=>?_)
 obtain ⟨bS,hv⟩:=Et
 have ac1:acc.size=1:=bS
 obtain ⟨y,hy⟩:∃y,acc[0]?=some y:=⟨acc[0],by rw [Array.getElem?_eq_getElem]⟩
 obtain ⟨k1,x1,e1,e2⟩:=hv 0 y hy
 simp only [List.getElem?_cons_zero,Option.some.injEq,Prod.mk.injEq] at e1
 obtain ⟨rfl,rfl⟩:=e1
 obtain ⟨t,rfl⟩:=PY e2
 have Et:acc.toList=[.str ⟨k.toArray⟩ t]:=by
  apply List.ext_getElem?
  intro i
  rw [Array.getElem?_toList]
  match i with
  |0=>exact hy
  |i+1=>rw [Array.getElem?_eq_none (by omega)];rfl
 rw [Et]
 refine wpAny_bind (wpAny_newList ?_ (by show 1≤_;decide))
 have BW:(h'.push (seqObj "list" [Value.str ⟨k.toArray⟩ t].toArray 0)).get? h'.objs.size=some (seqObj "list" [Value.str ⟨k.toArray⟩ t].toArray 0):=Heap.get?_push_size _ rfl
 refine wpAny_bind (wpAny_holding (wpAny_call_entry PyProof.Rows.slot_list_sort (s:={s with heap:=h'.push (seqObj "list" [Value.str ⟨k.toArray⟩ t].toArray 0),toks:=tk}) ⟨_,BW,rfl⟩ PyProof.Rows.entry_list_sort
    (list_sort_treeK strKind_oneLt BW (λz hz=>?_) (λ_ _ _ e=>by cases e) (by show 1<64;decide) λKA a1 a2=>⟨_,rfl,?_⟩) (args_list_sort _)))
 ·have:z=(Value.str ⟨k.toArray⟩ t,Value.str ⟨k.toArray⟩ t):=by simpa [pairsOf] using hz
  subst this
  exact ⟨_,rfl⟩
 ·refine wpAny_pure ⟨_,rfl,?_⟩
  have EV:s.heap.get? h'.objs.size=none:=by
   cases q:s.heap.get? h'.objs.size with
   |none=>rfl
   |some o=>exact absurd (Heap.lt_size (hk _ _ q)) (Nat.lt_irrefl _)
  have VP:(arrOf KA).map (·.2)= #[Value.str ⟨k.toArray⟩ t]:=by
   have e1:(pairsOf [Value.str ⟨k.toArray⟩ t])= #[(Value.str ⟨k.toArray⟩ t,Value.str ⟨k.toArray⟩ t)]:=by simp [pairsOf]
   rw [e1] at a1
   have:=a1.toList
   have h2:=List.perm_singleton.mp this
   have h3:arrOf KA= #[(Value.str ⟨k.toArray⟩ t,Value.str ⟨k.toArray⟩ t)]:=by
    rw [←Array.toList_inj];exact h2
   rw [h3];simp
  rw [VP]
  obtain ⟨e,he⟩:=sortedHeap_at (out:= #[Value.str ⟨k.toArray⟩ t]) BW
  refine Lm (p:=(h'.objs.size,h'.objs.size)) S (λb o q=>?_) EV EV tk λv=>⟨rfl,by show 1≤_;decide, #[Value.str ⟨k.toArray⟩ t],⟨e,he⟩,aD.one (iu t ?_)⟩
  ·have aK:b<h'.objs.size:=Heap.lt_size (hk _ _ q)
   rw [sortedHeap_old (Nat.ne_of_lt aK) (by rw [size_push'];exact Nat.lt_succ_of_lt aK),Heap.get?_push_ne _ _ _ (Nat.ne_of_lt aK)]
   exact hk _ _ q
  ·exact Wh
theorem IS {n:Nat} (h:n≤aq):(n:Int)<2^63:=Int.lt_of_le_of_lt (Int.ofNat_le.2 h) (by decide)
theorem ZT (S:SR U w J s.heap Z O) {x z:V} {v:Value} (h:Hk O x=some z) (r:RV J s.heap Z x v):wpAny (model U w) A (call (.builtin "len") [v]) (aI U w J aE Z s (.ok z O)) E s:=by
 refine sE h r (λl t hl h=>ct h ?a) λh=>gr h sn r λn p hp h=>iL S hp h sn λus hs L h=>ct h ?b
 case a=>exact PyProof.Rows.len_str (by rw [str_len];exact Int.not_le.2 (IS hl)) (aI.same S (by rw [str_len];exact eW _ _) _)
 case b=>
  obtain ⟨ws,hl,rs,bS,hz⟩:=L
  exact PyProof.Rows.len_list hl.isList (IS (bS▸hz)) (aI.same S (by rw [bS];exact eW _ _) _)
theorem Wy (i:Int):(if i<0 then -i else i)=((i.natAbs:Nat):Int):=by split<;>omega
theorem aca {α:Type} {z:α} {O:ag}:Out.ok z O≠ .stuck:=nofun
@[elab_as_elim] theorem adf {α:Type} {a z:α} {O af:ag} {P:α→ag→Prop} (h:Out.ok a O= .ok z af) (k:P a O):P z af:=by cases h;exact k
theorem QF (hb:(J.get? sysModules).isSome) (S:St U w J fl Z O s) (hh:A.handled=none) {b:Bi} {vs:List V} {ws:List Value} {out:Out V} (h:mR b O vs=out) (hn:out≠ .stuck) (r:aD J s.heap Z vs ws):
  wpAny (model U w) A (call (AZ b) ws) (aI U w J aE Z s out) E s:=by
 cases b with
 |len=>exact k6 h hn r λx a rx h=>m6 h hn λz hz=>ZT S.sr hz rx
 |min=>
  refine Er h hn r λx y a b rx ry h=>dB h hn rx λi t h=>dB h hn ry λj u h=>h▸min_two_ints hh λh' tk hk=>?_
  split<;>exact Ib S hk λh=>eW _ _
 |max=>
  refine Er h hn r λx y a b rx ry h=>dB h hn rx λi t h=>dB h hn ry λj u h=>h▸max_two_ints hh λh' tk hk=>?_
  split<;>exact Ib S hk λh=>eW _ _
 |int=>exact k6 h hn r λx a rx h=>dB h hn rx λi t h=>h▸call_int_int (aI.here S.sr (eW _ _))
 |abs=>exact k6 h hn r λx a rx h=>dB h hn rx λi t h=>h▸call_abs_int λu tk=>aI.same S.sr (Wy i▸eW _ _) _
 |sorted=>
  refine k6 h hn r λx a rx h=>gr h hn rx λn p hp h=>qG S.sr hp h hn λes hs D h=>?_
  match es,h,hs with
  |[],h,_=>exact absurd h.symm hn
  |(k,v)::r,h,hs=>
   refine da h hn λh0 h=>h▸?_
   have e:=List.isEmpty_iff.1 h0.1
   subst e
   exact Sn S hh hb hp hs h0.2
end
section
variable {U:Program} {w:World} {J:Heap} {fl:List Env} {Z:aH} {O af:ag} {s:Shared} {A:Around} {E:Value→Shared→Prop} {X:Addr→Prop} {K:Frag}
noncomputable def Bm.id:Bm→String
 | .append=>"list.append" | .pop=>"list.pop" | .index=>"list.index" | .l9=>"dict.pop" | .join=>"str.join" | .strip=>"str.strip" | .count=>"str.count" | .split=>"str.split"
theorem abg {name:Str} {id:String} {p:Addr×Addr} {n:Nat} {vs:List V} {pl:Sem Bool} {Q:Value×List Value→Shared→Prop} (S:SR U w J s.heap Z O) (hp:Z[n]?=some p) (hs:O[n]?=some (.list vs))
    (slot:Slot "list" name id) (ty:typeOf (.builtin id)=pure (.type "method_descriptor")) (h:Q (.builtin id,[.ref p.1]) s):wpAny (model U w) A (getMethod (.ref p.1) name pl) Q E s:=match S.list hp hs with
 |⟨ws,⟨m,hm⟩,_,_,_⟩=>getMethod_builtin ⟨_,hm,rfl⟩ PySem.F.plainAttrs_list slot ty (λa e=>by cases e;exact ⟨_,hm,rfl⟩) h
theorem To {name:Str} {id:String} {p:Addr×Addr} {n:Nat} {vs:List (List Nat×V)} {pl:Sem Bool} {Q:Value×List Value→Shared→Prop} (S:SR U w J s.heap Z O) (hp:Z[n]?=some p) (hs:O[n]?=some (.dict vs))
    (slot:Slot "dict" name id) (ty:typeOf (.builtin id)=pure (.type "method_descriptor")) (h:Q (.builtin id,[.ref p.1]) s):wpAny (model U w) A (getMethod (.ref p.1) name pl) Q E s:=match S.dict hp hs with
 |⟨cL,hd,_,_⟩=>getMethod_builtin hd.typeIs PySem.F.plainAttrs_dict slot ty (λa e=>by
   cases e
   obtain ⟨o,_,_,ho,hc,_⟩:=hd
   exact ⟨o,ho,hc.2.1⟩) h
theorem acV {v:V} (h:qj .s O v=true):∃l,v= .str l:=by
 cases v<;>first |exact ⟨_,rfl⟩ |exact absurd h Bool.false_ne_true
theorem XQ (S:SR U w J s.heap Z O) {x:V} {v:Value} {m:Bm} {pl:Sem Bool} {Q:Value×List Value→Shared→Prop} (hk:qj m.kd O x=true) (r:RV J s.heap Z x v) (h:Q (.builtin m.id,[v]) s):
  wpAny (model U w) A (getMethod v (Str.ofString m.name) pl) Q E s:=by
 have L:qj .l O x=true→∀{name:Str} {id:String},Slot "list" name id→typeOf (.builtin id)=pure (.type "method_descriptor")→Q (.builtin id,[v]) s→wpAny (model U w) A (getMethod v name pl) Q E s:=λhk name id sl ty h=>
  gr (P:=λ_ v=>Q (.builtin id,[v]) s→wpAny (model U w) A (getMethod v name pl) Q E s) hk nofun r (λn p hp e h=>iL S hp e nofun λus hs _ _=>abg S hp hs sl ty h) h
 have D:qj .d O x=true→∀{name:Str} {id:String},Slot "dict" name id→typeOf (.builtin id)=pure (.type "method_descriptor")→Q (.builtin id,[v]) s→wpAny (model U w) A (getMethod v name pl) Q E s:=λhk name id sl ty h=>
  gr (P:=λ_ v=>Q (.builtin id,[v]) s→wpAny (model U w) A (getMethod v name pl) Q E s) hk nofun r (λn p hp e h=>qG S hp e nofun λus hs _ _=>To S hp hs sl ty h) h
 cases m with
 |append=>exact L hk PySem.F.slot_list_append PySem.F.type_list_append h
 |pop=>exact L hk PySem.F.slot_list_pop PySem.F.type_list_pop h
 |index=>exact L hk PySem.F.slot_list_index PySem.F.type_list_index h
 |l9=>exact D hk PySem.F.slot_dict_pop PySem.F.type_dict_pop h
 |join=>exact eh (P:=λ_ v=>Q (.builtin "str.join",[v]) s→wpAny (model U w) A (getMethod v (Str.ofString "join") pl) Q E s) hk nofun r (λl t _ _ h=>by with_reducible refine GM.join ?_;exact h) h
 |strip=>exact eh (P:=λ_ v=>Q (.builtin "str.strip",[v]) s→wpAny (model U w) A (getMethod v (Str.ofString "strip") pl) Q E s) hk nofun r (λl t _ _ h=>by with_reducible refine GM.strip ?_;exact h) h
 |count=>exact eh (P:=λ_ v=>Q (.builtin "str.count",[v]) s→wpAny (model U w) A (getMethod v (Str.ofString "count") pl) Q E s) hk nofun r (λl t _ _ h=>by with_reducible refine GM.count ?_;exact h) h
 |split=>exact eh (P:=λ_ v=>Q (.builtin "str.split",[v]) s→wpAny (model U w) A (getMethod v (Str.ofString "split") pl) Q E s) hk nofun r (λl t _ _ h=>by with_reducible refine GM.split ?_;exact h) h
theorem TF (l:List Nat):(cZ l).length≤l.length:=by
 unfold cZ
 rw [List.length_reverse]
 refine adj (List.dropWhile_suffix _).length_le ?_
 rw [List.length_reverse]
 exact (List.dropWhile_suffix _).length_le
theorem Hl (sep:List Nat):∀l:List (List Nat),(l.map (·.length)).sum+l.length*sep.length≤(cu sep l).length+sep.length
 |[]=>by simp [cu]
 |[x]=>by simp [cu]
 |x::y::r=>by
  have ih:=Hl sep (y::r)
  simp only [List.map_cons,List.sum_cons,List.length_cons,cu,List.length_append,Nat.succ_mul] at ih ⊢
  omega
theorem FY (c:Nat):∀s:List Nat,(dg c s).length≤s.length+1∧∀p∈dg c s,p.length≤s.length
 |[]=>by simp [dg]
 |x::r=>by
  obtain ⟨h1,h2⟩:=FY c r
  unfold dg
  split
  ·refine ⟨by simp;omega,λp hp=>?_⟩
   rcases List.mem_cons.mp hp with rfl |hp
   ·simp
   ·have:=h2 p hp;simp;omega
  ·cases hq:dg c r with
   |nil=>simp
   |cons p ps=>
    rw [hq] at h1 h2
    refine ⟨by simp at h1 ⊢;omega,λq hm=>?_⟩
    rcases List.mem_cons.mp hm with rfl |hm
    ·have:=h2 p (.head _);simp;omega
    ·have:=h2 q (.tail _ hm);simp;omega
theorem J8 {h:Heap}:∀{l:List (List Nat)} {ws:List Value} {ys:List Str},StrsAre ws ys→ys=l.map mk→(∀p∈l,p.length≤aq)→aD J h Z (l.map .str) ws
 |l,_,_,.nil,e,_=>by
  cases l with
  |nil=>exact aD.nil
  |cons _ _=>cases e
 |l,_,_,.cons x t r,e,hl=>by
  cases l with
  |nil=>cases e
  |cons p ps=>
   rw [List.map_cons] at e
   injection e with e1 e2
   subst e1
   exact aD.cons (iu t (hl p (.head _))) (J8 r e2 λq hq=>hl q (.tail _ hq))
theorem FL:∀l:List (Str×Tok),StrsAre (strValues l) (l.map (·.1))
 |[]=> .nil
 |(x,t)::r=> .cons x t (FL r)
theorem U2 (S:St U w J fl Z O s) {l:List Nat} {c:Nat} {t u:Tok} (hl:l.length<aq):
  wpAny (model U w) A (call (.builtin "str.split") [.str (mk l) t,.str (mk [c]) u]) (aI U w J aE Z s (.ok (.ref O.length) (O++[.list ((dg c l).map .str)]))) E s:=by
 have Ln:=I5 l c
 have dw:=FY c l
 have fin:∀(ps:List (Str×Tok)) (k:Nat),ps.map (·.1)=Txt.split (mk l) (mk [c])→
   aI U w J aE Z s (.ok (.ref O.length) (O++[.list ((dg c l).map .str)])) (.ref s.heap.objs.size) {s with heap:=s.heap.push {cls:= .type "list",data:= .seq (strValues ps).toArray},toks:=k}:=by
  intro ps k e
  rw [Ln] at e
  refine Ak S (J8 (e▸FL ps) rfl λp hp=>?_) ?_ k 0
  ·have:=dw.2 p hp;omega
  ·rw [List.length_map];omega
 have sO:(mk l).length=l.length:=str_len l
 have hy:((mk [c]).length==0)=false:=rfl
 cases h1:(decide ((mk l).length<(mk [c]).length)||decide (Builtin.Str.strKind (mk l)<Builtin.Str.strKind (mk [c])))
 ·cases hf:(Builtin.Str.occurrences (mk l) (mk [c]) 0 (mk l).length ((mk l).length+1)).isEmpty
  ·have e:Txt.split (mk l) (mk [c])=Builtin.Str.partsBetween (mk l) (Builtin.Str.occurrences (mk l) (mk [c]) 0 (mk l).length ((mk l).length+1)) (mk [c]).length:=
        (if_neg (by rw [h1];exact Bool.false_ne_true)).trans (if_neg (by rw [hf];exact Bool.false_ne_true))
   refine call_meets PySem.F.slot_str_split (typeIs_str _ _ _) PySem.F.entry_str_split (PySem.F.args_str_split_2 _ _) (meets_str_split_sep (mk l) (mk [c]) t u h1 hy hf (by rw [sO, ←gU];omega) ?_) ?_
   ·rw [←e,Ln,List.length_map, ←gU];omega
   ·have:=fin (numbered s.toks (Txt.split (mk l) (mk [c]))) (s.toks+(Txt.split (mk l) (mk [c])).length) (numbered_texts _ _)
    rw [e, ←strsFrom_eq] at this
    exact this
  ·refine call_meets PySem.F.slot_str_split (typeIs_str _ _ _) PySem.F.entry_str_split (PySem.F.args_str_split_2 _ _) (meets_str_split_not_found (mk l) (mk [c]) t u h1 hy hf) ?_
   exact fin [(mk l,t)] s.toks ((if_neg (by rw [h1];exact Bool.false_ne_true)).trans (if_pos hf)).symm
 ·refine call_meets PySem.F.slot_str_split (typeIs_str _ _ _) PySem.F.entry_str_split (PySem.F.args_str_split_2 _ _) (meets_str_split_cannot_occur (mk l) (mk [c]) t u h1) ?_
  exact fin [(mk l,t)] s.toks (if_pos h1).symm
theorem FA {xs:List V} {l:List (List Nat)}:∀{h:Heap} {ws:List Value},ik xs=some l→aD J h Z xs ws→StrsAre ws (l.map mk):=λe r=>qz e r
theorem I9 {x:List Nat}:∀{l:List (List Nat)} {i:Nat},g6 x l=some i→l[i]?=some x∧∀j,j<i→∃y,l[j]?=some y∧y≠x
 |[],_,h=>by cases h
 |y::r,i,h=>by
  unfold g6 at h
  split at h
  ·rename_i e
   cases h
   exact ⟨by rw [e];rfl,λj hj=>absurd hj (Nat.not_lt_zero _)⟩
  ·rename_i e
   obtain ⟨k,hk,rfl⟩:=Option.map_eq_some_iff.mp h
   obtain ⟨h1,h2⟩:=I9 hk
   refine ⟨h1,λj hj=>?_⟩
   cases j with
   |zero=>exact ⟨y,rfl,e⟩
   |succ j=>exact h2 j (by omega)
theorem RH {ws:List Value} {ys:List Str} (h:StrsAre ws ys):∀{j:Nat} {y:Str},ys[j]?=some y→∃t,ws[j]?=some (.str y t):=by
 induction h with
 |nil=>intro j y e;cases e
 |cons n u r ih=>
  intro j y e
  cases j with
  |zero=>cases e;exact ⟨u,rfl⟩
  |succ j=>exact ih e
theorem Ue (S:St U w J fl Z O s) {n:Nat} {p:Addr×Addr} {us:List V} {u:V} {a:Value} (hp:Z[n]?=some p) (hs:O[n]?=some (.list us)) (L:qr J s.heap Z p.1 us) (ru:RV J s.heap Z u a) (hz:us.length<aq):
  wpAny (model U w) A (call (.builtin "list.append") [.ref p.1,a]) (aI U w J aE Z s (.ok .none (O.set n (.list (us++[u]))))) E s:=by
 obtain ⟨fS,hl,ri,bS,se⟩:=L
 refine wpAny_list_append_plain hl (λh' wx a9=>?_) (by rw [bS, ←gU];exact Nat.le_of_lt hz)
 refine Left.post (yD (ws:=fS) S hp hs a9 wx ?_ (by rw [List.length_append,List.length_singleton];exact hz) s.toks) vR
 rw [Array.toList_push]
 exact aD.append ri (aD.one ru)
theorem OQ {xs:List V} (h:xs.length≤aq):xs.dropLast.length≤aq:=by rw [List.length_dropLast];exact adj (Nat.sub_le ..) h
theorem Pt {fS:Array Value} {k:Nat} (hk:fS.size=k+1):(fS.eraseIdxIfInBounds (fS.size-1)).toList=fS.toList.take k:=by
 have aK:fS.size-1<fS.size:=by rw [hk];exact Nat.lt_succ_self _
 unfold Array.eraseIdxIfInBounds
 rw [dif_pos aK,Array.toList_eraseIdx,List.eraseIdx_eq_take_drop_succ,List.drop_of_length_le (by rw [Array.length_toList,hk];exact adp _),List.append_nil,hk];rfl
theorem YW (S:St U w J fl Z O s) {n:Nat} {p:Addr×Addr} {us:List V} {out:Out V} (hp:Z[n]?=some p) (hs:O[n]?=some (.list us)) (L:qr J s.heap Z p.1 us) (h:t8 O n us=out) (hn:out≠ .stuck):
  wpAny (model U w) A (call (.builtin "list.pop") [.ref p.1]) (aI U w J aE Z s out) E s:=by
 unfold t8 at h
 cases hu:us.getLast? with
 |none=>rw [hu] at h;exact absurd h.symm hn
 |some u=>
  rw [hu] at h
  subst h
  obtain ⟨fS,⟨e,he⟩,ri,bS,se⟩:=L
  rw [List.getLast?_eq_getElem?] at hu
  obtain ⟨y,hy,ry⟩:=aD.get ri hu
  obtain ⟨k,hk⟩:∃k,us.length=k+1:=⟨us.length-1,(Nat.succ_pred_eq_of_pos (adl (Nat.zero_le _) (List.getElem?_eq_some_iff.mp hu).1)).symm⟩
  have T:s.TypeIs (.ref p.1) "list":=⟨_,he,rfl⟩
  refine call_meets PySem.F.slot_list_pop T PySem.F.entry_list_pop (PySem.F.args_list_pop_1 _) (MeetsSeq.list_pop_last p.1 fS e y (by rw [bS];simpa using hy) (by rw [bS, ←gU];exact se)) ⟨he,?_⟩
  have ZJ:=PySem.IsL.update he (λxs=>xs.eraseIdxIfInBounds (fS.size-1))
  have L:=yD (us:=us.dropLast) (ws:=fS) S hp hs (Heap.SameBut.update ..) ⟨_,ZJ⟩ (by rw [Pt (bS.trans hk),List.dropLast_eq_take,hk];exact aD.take ri _) (OQ se) s.toks
  exact uj (Left.post L (RV.mono (L.1.fe S) ry))
theorem Pn (hb:(J.get? sysModules).isSome) (S:St U w J fl Z O s) {n:Nat} {p:Addr×Addr} {es:List (List Nat×V)} {k:List Nat} {t:Tok} {d:V} {b:Value} (hp:Z[n]?=some p) (hs:O[n]?=some (.dict es)) (D:yF U w J s.heap Z p.1 es) (OP:RV J s.heap Z d b):
  wpAny (model U w) A (call (.builtin "dict.pop") [.ref p.1,.str ⟨k.toArray⟩ t,b]) (aI U w J aE Z s (qE O n es k d)) E s:=by
 obtain ⟨cL,hd,rd,hz⟩:=D
 have g:=xZ k rd
 unfold qE
 cases hq:dictGet es k with
 |some q=>
  rw [hq] at g
  obtain ⟨y,e,ry⟩:=g
  refine call_meetsIn PySem.F.slot_dict_pop hd.typeIs PySem.F.entry_dict_pop (PySem.F.args_dict_pop_3 _ _ _) (meets_dict_pop_there (PySem.strKind U w) p.1 (strKind_is U w _ t) [b] (.inr ⟨b,rfl⟩) rfl) ⟨cL,y,hd,vD rd▸yM hz,e,λh' bO a9=>?_⟩
  have L:=Cr S hp hs a9 bO (Cg rd (By hd)) (adj (Ac k es) hz) (s.toks+1)
  exact uj (Left.post L (RV.mono (L.1.fe S) ry))
 |none=>
  rw [hq] at g
  exact call_meetsIn PySem.F.slot_dict_pop hd.typeIs PySem.F.entry_dict_pop (PySem.F.args_dict_pop_3 _ _ _) (meets_dict_pop_default (PySem.strKind U w) p.1 (strKind_is U w _ t) (Ew hb S.sr hp) rfl b) ⟨cL,hd,g,uj (aI.same S.sr OP _)⟩
theorem aaJ (S:SR U w J s.heap Z O) {p:Addr×Addr} {us:List V} {x:List Nat} {t:Tok} {l:List (List Nat)} {i:Nat} (L:qr J s.heap Z p.1 us) (hl:ik us=some l) (hi:g6 x l=some i):
  wpAny (model U w) A (call (.builtin "list.index") [.ref p.1,.str ⟨x.toArray⟩ t]) (aI U w J aE Z s (.ok (.int i) O)) E s:=by
 obtain ⟨fS,⟨e,he⟩,ri,bS,se⟩:=L
 have sa:StrsAre fS.toList (l.map mk):=FA hl ri
 obtain ⟨h1,h2⟩:=I9 hi
 have T:s.TypeIs (.ref p.1) "list":=⟨_,he,rfl⟩
 have at':∀{j:Nat} {y:List Nat},l[j]?=some y→∃(t:Tok) (h:j<fS.size),fS[j]= .str (mk y) t:=λ{j y} q=>by
  obtain ⟨t1,g1⟩:=RH sa (j:=j) (y:=mk y) (by rw [List.getElem?_map,q];rfl)
  rw [Array.getElem?_toList] at g1
  obtain ⟨aK,AW⟩:=Array.getElem?_eq_some_iff.mp g1
  exact ⟨t1,aK,AW⟩
 obtain ⟨t1,aK,AW⟩:=at' h1
 refine call_meets PySem.F.slot_list_index T PySem.F.entry_list_index (PySem.F.args_list_index_2 _ _) (MeetsSeq.list_index p.1 fS e (.str (mk x) t) (isStrOf (mk x)) (λy hy=>eq_isStrOf (mk x) t sa y (by simpa using hy)) i aK
    (by unfold aq at se;omega) (by rw [AW];simp [isStrOf]) λj hj Uw=>?_) ⟨he,uj (aI.same S (eW _ _) _)⟩
 obtain ⟨y,q1,q2⟩:=h2 j Uw
 obtain ⟨t2,_,Ox⟩:=at' q1
 rw [Ox]
 simp only [isStrOf,beq_eq_false_iff_ne]
 exact λe=>q2 (wg e)
theorem QI (S:SR U w J s.heap Z O) {p:Addr×Addr} {us:List V} {sep:List Nat} {t:Tok} {l:List (List Nat)} (L:qr J s.heap Z p.1 us) (hl:ik us=some l) (hz:(cu sep l).length+sep.length≤aq):
  wpAny (model U w) A (call (.builtin "str.join") [.str ⟨sep.toArray⟩ t,.ref p.1]) (aI U w J aE Z s (.ok (.str (cu sep l)) O)) E s:=by
 obtain ⟨fS,ml,ri,bS,se⟩:=L
 have sa:StrsAre fS.toList (l.map mk):=FA hl ri
 refine join_list ml.isList sa ?_ λt' k=>?_
 ·rw [show ((l.map mk).map (·.length)).sum=(l.map (·.length)).sum by rw [List.map_map];rfl,List.length_map,str_len]
  exact adj (Hl sep l) hz
 ·rw [show Txt.join (⟨sep.toArray⟩:Str) (l.map mk)=⟨(cu sep l).toArray⟩ from aa6 sep l]
  exact aI.same S (iu _ (adj (adm ..) hz)) _
theorem Xz (hb:(J.get? sysModules).isSome) (S:St U w J fl Z O s) {x:V} {v:Value} {vs:List V} {ws:List Value} {m:Bm} {out:Out V} (r:RV J s.heap Z x v) (rs:aD J s.heap Z vs ws) (h:fz m O x vs=out) (hn:out≠ .stuck):
  wpAny (model U w) A (call (.builtin m.id) (v::ws)) (aI U w J aE Z s out) E s:=by
 cases m with
 |append=>exact gr h hn r λn p hp h=>k6 h hn rs λu a ru h=>iL S.sr hp h hn λus hs L h=>da h hn λhz h=>h▸Ue S hp hs L ru hz
 |pop=>exact gr h hn r λn p hp h=>wQ h hn rs λh=>iL S.sr hp h hn λus hs L h=>YW S hp hs L h hn
 |l9=>exact gr h hn r λn p hp h=>Er h hn rs λk d a b rk rd h=>eh h hn rk λk t hk h=>qG S.sr hp h hn λes hs D h=>h▸Pn hb S hp hs D rd
 |index=>exact gr h hn r λn p hp h=>k6 h hn rs λu a ru h=>eh h hn ru λk t hk h=>iL S.sr hp h hn λus hs L h=>fo h hn λl hl h=>fo h hn λi hi h=>h▸aaJ S.sr L hl hi
 |join=>exact eh h hn r λsep t _ h=>k6 h hn rs λu a ru h=>gr h hn ru λn p hp h=>iL S.sr hp h hn λus hs L h=>fo h hn λl hl h=>da h hn λhz h=>h▸QI S.sr L hl hz
 |strip=>
  refine eh h hn r λl t hl h=>wQ h hn rs λh=>da h hn λha h=>h▸?_
  refine SC.strip (λt' k=>?_) (by rw [str_len, ←gU];exact hl)
  rw [show Txt.strip (⟨l.toArray⟩:Str)=mk (cZ l) from Xm _ ha]
  exact aI.same S.sr (iu _ (adj (TF _) hl)) _
 |count=>
  refine eh h hn r λl t hl h=>k6 h hn rs λu a ru h=>eh h hn ru λx t' _ h=>BO h hn λc h=>h▸?_
  refine SC.count ?_
  rw [show Txt.count (⟨l.toArray⟩:Str) ⟨[c].toArray⟩=((l.count c:Nat):Int) from N8 l c]
  exact aI.same S.sr (eW _ _) _
 |split=>exact eh h hn r λl t hl h=>k6 h hn rs λu a ru h=>eh h hn ru λx t' _ h=>BO h hn λc h=>da h hn λhz h=>h▸U2 S hz
end
noncomputable def GL (U:Program) (w:World) (J:Heap) (gl bl:Addr) (x:Str) (v:Value):Prop:=
 ∀(aa:Env) (s:Shared) (A:Around) (Q:Value→Shared→Prop) (E:Value→Shared→Prop),aa.globals=gl→aa.builtins=bl→J.StaysIn s.heap→Q v s→wpAny (model U w) A (loadGlobal aa x) Q E s
structure ES (U:Program) (w:World) (J:Heap) (gl bl:Addr):Prop where
 fn:∀f x,gH kZ f x=true→GL U w J gl bl x (.ref (bQ f))
 cls:∀c,GL U w J gl bl (Str.ofString (uP c)) (.ref (cB c))
 bi:∀b,GL U w J gl bl (Str.ofString (pv b)) (AZ b)
 Kp:GL U w J gl bl (Str.ofString "range") (.type "range")
 jZ:∀k x,gH Ag k x=true→∃t,GL U w J gl bl x (.int (ua k) t)
 err:GL U w J gl bl (Str.ofString "SourceError") (.ref bA)
structure cx (U:Program) (w:World) (J:Heap) (gl bl:Addr) (K:Frag):Prop where
 kT:K.In J
 kf:KF K
 sys:(J.get? sysModules).isSome
 lim:J.NoLimit
 g:ES U w J gl bl
structure bJ (gl bl:Addr) (aa:Env):Prop where
 kind:aa.scope.kind= .function
 glob:aa.globals=gl
 Gm:aa.builtins=bl
 cells:∀n,aa.kindOf n=some .cell→(aa.cells.lookup n).isSome=true
structure bI (n k:Nat) (fl:List Env) (A:Around):Prop where
 hand:A.handled=none
 frames:A.frames=some fl
 depth:A.depth+12*n+k+10≤recursionLimit
 units:A.units+40*n+k+200≤cLine
noncomputable def pY (J h:Heap) (Z:aH) (aa:Env) (nm:List Str) (L:Locals):Prop:=
 ∃m,h.Ns aa.locals m∧∀i v,L.get i=some v→∃n x,nm[i]?=some n∧RV J h Z v x∧
    ((aa.kindOf n=some .local∧m n=some x)∨(aa.kindOf n=some .cell∧∃c,aa.cells.lookup n=some c∧h.IsCell c (some x)))
structure aR (U:Program) (w:World) (J:Heap) (fl:List Env) (aa:Env) (nm:List Str) (Z:aH) (O:ag) (L:Locals) (s:Shared):Prop where
 st:St U w J fl Z O s
 loc:pY J s.heap Z aa nm L
 jJ:¬bL Z aa.locals
 ou:J.get? aa.locals=none
section
variable {U:Program} {w:World} {J:Heap} {gl bl:Addr} {K:Frag} {fl:List Env} {Z ai:aH} {O af:ag} {s s':Shared} {A:Around} {E:Value→Shared→Prop} {aa:Env} {nm:List Str} {L:Locals}
theorem pY.mono {h h':Heap} (l:pY J h Z aa nm L) (v:VK J Z h ai h') (k:∀b o,h.get? b=some o→(∀vs n,o.data≠ .seq vs n)→(b=aa.locals∨∃x,o.data= .cell x)→h'.get? b=some o):pY J h' ai aa nm L:=by
 obtain ⟨m,hm,hl⟩:=l
 refine ⟨m,hm.at λo e=>?_,λi v' e=>?_⟩
 ·obtain ⟨o',es,ep,dZ,hd,_⟩:=hm
  rw [e] at dZ;cases dZ
  exact k _ _ e (λvs n q=>by rw [hd] at q;cases q) (.inl rfl)
 ·obtain ⟨n,x,hn,rv,hx⟩:=hl i v' e
  refine ⟨n,x,hn,RV.mono v rv,?_⟩
  rcases hx with hx |⟨h1,c,h2,h3⟩
  ·exact .inl hx
  ·obtain ⟨o,ho,hd⟩:=h3
   exact .inr ⟨h1,c,h2,o,k _ _ ho (λvs n q=>by rw [hd] at q;cases q) (.inr ⟨_,hd⟩),hd⟩
theorem aR.ext (H:aR U w J fl aa nm Z O L s) (X:aj aE Z s ai s') (R:SR U w J s'.heap ai af) (ht:s.toks≤s'.toks):aR U w J fl aa nm ai af L s':=by
 refine ⟨H.st.ext X R ht,H.loc.mono (X.fe H.st) λb o e _ hb=>X.keep b o e (λq=>?_) λx=>x,λq=>?_,H.ou⟩
 ·rcases hb with rfl |⟨x,hd⟩
  ·exact H.jJ q
  ·exact H.st.sr.CV e hd q
 ·obtain ⟨m,hm,_⟩:=H.loc
  obtain ⟨o,_,_,ho,_⟩:=hm
  exact H.jJ (gT X (by rw [ho];rfl) q)
theorem zH {α β:Type} {o:Out α} {f:α→ag→Out β} {out:Out β} (h:o.bind f=out) (hn:out≠ .stuck):(∃v O,o= .ok v O∧f v O=out)∨∃e O,o= .exc e O∧out= .exc e O:=by
 cases o with
 |stuck=>exact absurd h.symm hn
 |ok v O=>exact .inl ⟨v,O,rfl,h⟩
 |exc e O=>exact .inr ⟨e,O,rfl,h.symm⟩
theorem go {α β γ:Type} {F:Addr→Prop} {aP:aH} {s0:Shared} (X:aj aE aP s0 Z s) {o:Out α} {f:α→ag→Out β} {out:Out β} {t:Sem γ} {P:Out α→γ→Shared→Prop} {Q:γ→Shared→Prop} (h:o.bind f=out) (hn:out≠ .stuck)
    (ih:o≠ .stuck→wpAny (model U w) A t (P o) (bh U w J F Z s o) s) (hP:∀e O r s',P (.exc e O) r s'→False)
    (k:∀v O,o= .ok v O→f v O=out→∀r s',P (.ok v O) r s'→s.toks≤s'.toks→Q r s'):wpAny (model U w) A t Q (bh U w J F aP s0 out) s:=by
 rcases zH h hn with ⟨v,O,e1,e2⟩ |⟨e,O,e1,e2⟩
 ·subst e1
  exact mM (ih (by simp)) (λr s' p ht=>k v O rfl e2 r s' p ht) λ_ _ x=>x.elim
 ·subst e1
  refine mM (ih (by simp)) (λr s' p _=>(hP _ _ _ _ p).elim) λv s' x=>?_
  rw [e2]
  exact bh.after X x λ_ _ q=>by cases q;rfl
theorem acK {X:Addr→Prop} {e:aX} {v:Value}:aI U w J X Z s (.exc e O) v s'→False:=λx=>x
theorem acM {e:aX} {v:List Value}:yY U w J Z s (.exc e O) v s'→False:=λx=>x
theorem fin {aP:aH} {s0:Shared} (X:aj aE aP s0 Z s) {t:Sem Value} {out:Out V} (h:wpAny (model U w) A t (aI U w J aE Z s out) E s):wpAny (model U w) A t (aI U w J aE aP s0 out) E s:=
 wpAny_mono h (λ_ _ p=>aI.after X p) λ_ _ x=>x
theorem acB {α:Type} {o:Option α} {out:Out α} (h:gB o O=out) (hn:out≠ .stuck):∃v,o=some v∧out= .ok v O:=by
 cases o with
 |none=>exact absurd h.symm hn
 |some v=>exact ⟨v,rfl,h.symm⟩
theorem Ee (eo:bJ gl bl aa) (H:aR U w J fl aa nm Z O L s) {i:Nat} {x:Str} {v:V} (hi:iP aa.scope nm i x=true) (hv:L.get i=some v):
  wpAny (model U w) A (loadName aa x) (aI U w J aE Z s (.ok v O)) E s:=by
 obtain ⟨m,hm,hl⟩:=H.loc
 obtain ⟨n,y,hn,rv,hx⟩:=hl i v hv
 unfold iP at hi
 simp only [Bool.and_eq_true,beq_iff_eq] at hi
 rw [hi.1.1] at hn
 cases hn
 rcases hx with ⟨h1,h2⟩ |⟨h1,c,h2,h3⟩
 ·exact wpAny_loadName_local eo.kind h1 hm h2 (aI.here H.st.sr rv)
 ·exact wpAny_loadName_cell eo.kind h1 h2 h3 (aI.here H.st.sr rv)
theorem oX (eo:bJ gl bl aa) (H:aR U w J fl aa nm Z O L s) {x:Str} {v:Value} {pos:Pos} {Q:Value→Shared→Prop} (g:GL U w J gl bl x v) (hx:d6 aa.scope x=true) (h:Q v s):wpAny (model U w) A (eval (.Name x pos) aa) Q E s:=by
 unfold d6 at hx
 simp only [Bool.and_eq_true,beq_iff_eq,bne_iff_ne,ne_eq] at hx
 refine wpAny_Name ?_ (beq_eq_false_iff_ne.mpr hx.2)
 rw [loadName_read eo.kind hx.1]
 exact g aa s A Q E eo.glob eo.Gm H.st.stays h
end
noncomputable def Iy (U:Program) (w:World) (J:Heap) (F:Addr→Prop) (Z:aH) (s:Shared) (out:Out V) (r:Result) (s':Shared):Prop:=match r with
 | .ok (.ret v)=>aI U w J aE Z s out v s'
 | .ok _=>False
 | .error e=>bh U w J F Z s out e s'
noncomputable def iT (U:Program) (w:World) (J:Heap) (n:Nat) (C:Calls):Prop:=∀f vs O out,C f vs O=out→out≠ .stuck→∀fl A Z s ws,bI n 0 fl A→St U w J fl Z O s→aD J s.heap Z vs ws→
 codeAny (model U w) A (.call (.ref (bQ f)) ⟨ws,[]⟩) (Iy U w J (· ∈bb fl) Z s out) s
theorem iT.call {U:Program} {w:World} {J:Heap} {n:Nat} {C:Calls} (CO:iT U w J n C) {f:Nat} {vs:List V} {O:ag} {out:Out V} (h:C f vs O=out) (hn:out≠ .stuck) {fl:List Env} {A:Around} {Z:aH} {s:Shared} {ws:List Value} (R:bI n 0 fl A)
    (S:St U w J fl Z O s) (r:aD J s.heap Z vs ws):wpAny (model U w) A (call (.ref (bQ f)) ws []) (aI U w J aE Z s out) (bh U w J (· ∈bb fl) Z s out) s:=
 wpAny_call (CO f vs O out h hn fl A Z s ws R S r)
noncomputable def f7 (U:Program) (w:World) (J:Heap) (gl bl:Addr) (fl:List Env) (A:Around) (C:Calls) (fu:Nat) (e:E):Prop:=
 ∀{aa:Env} {nm:List Str} {x:PySem.Expr} {L:Locals} {O:ag} {out:Out V} {Z:aH} {s:Shared},aF aa.scope nm e x=true→bJ gl bl aa→aR U w J fl aa nm Z O L s→ev C fu e L O=out→out≠ .stuck→
  wpAny (model U w) A (eval x aa) (aI U w J aE Z s out) (bh U w J (· ∈bb fl) Z s out) s
noncomputable def qS (U:Program) (w:World) (J:Heap) (gl bl:Addr) (fl:List Env) (A:Around) (C:Calls) (fu:Nat) (e:E):Prop:=
 ∀{aa:Env} {nm:List Str} {x:PySem.Expr} {L:Locals} {O:ag} {out:Out V} {Z:aH} {s:Shared},aF aa.scope nm e x=true→bJ gl bl aa→aR U w J fl aa nm Z O L s→ev C fu e L O=out→out≠ .stuck→(∀v af,out= .ok v af→∃b,v= .bool b)→
  wpAny (model U w) A (isTrue x aa (eval x aa)) (λb s'=>aI U w J aE Z s out (.bool b) s') (bh U w J (· ∈bb fl) Z s out) s
noncomputable def rq (U:Program) (w:World) (J:Heap) (gl bl:Addr) (fl:List Env) (A:Around) (C:Calls) (fu:Nat) (es:Es):Prop:=
 ∀{aa:Env} {nm:List Str} {xs:List PySem.Expr} {pos:Pos} {L:Locals} {O:ag} {out:Out (List V)} {Z:aH} {s:Shared},cE aa.scope nm es xs=true→bJ gl bl aa→aR U w J fl aa nm Z O L s→bx C fu es L O=out→out≠ .stuck→
  wpAny (model U w) A (spliced (backTo pos (starEach xs aa))) (yY U w J Z s out) (bh U w J (· ∈bb fl) Z s out) s
noncomputable def tm (U:Program) (w:World) (J:Heap) (gl bl:Addr) (fl:List Env) (A:Around) (C:Calls) (fu:Nat) (op:BoolOp) (f:Es→Locals→ag→Out V) (es:Es):Prop:=
 ∀{aa:Env} {nm:List Str} {xs:List PySem.Expr} {pos:Pos} {L:Locals} {O:ag} {out:Out V} {Z:aH} {s:Shared},cE aa.scope nm es xs=true→bJ gl bl aa→aR U w J fl aa nm Z O L s→f es L O=out→out≠ .stuck→
  wpAny (model U w) A (boolOp pos op (evalEach xs aa)) (aI U w J aE Z s out) (bh U w J (· ∈bb fl) Z s out) s∧
  wpAny (model U w) A (allTrue op xs aa) (λb s'=>aI U w J aE Z s out (.bool b) s') (bh U w J (· ∈bb fl) Z s out) s
section
variable {U:Program} {w:World} {J:Heap} {gl bl:Addr} {K:Frag} {fl:List Env} {Z ai:aH} {O af:ag} {s s':Shared} {A:Around} {E0:Value→Shared→Prop} {aa:Env} {nm:List Str} {L:Locals}
variable {C:Calls} {n fu:Nat}
theorem bI.weaken {n k n' k':Nat} (h:bI n k fl A) (a:n'≤n) (b:k'≤k):bI n' k' fl A:=
 ⟨h.hand,h.frames,adj (Nat.add_le_add_right (Nat.add_le_add (Nat.add_le_add_left (Nat.mul_le_mul_left 12 a) _) b) 10) h.depth,adj (Nat.add_le_add_right (Nat.add_le_add (Nat.add_le_add_left (Nat.mul_le_mul_left 40 a) _) b) 200) h.units⟩
theorem zm {sc:Scope} {x:PySem.Expr}:∀{e:E},aF sc nm e x=true→dG x=true
 | .none,h=>Bs (P:=λx=>dG x=true) h λ_ _=>rfl
 | .bool _,h=>DD (P:=λx=>dG x=true) h λ_ _=>rfl
 | .int _,h=>DB (P:=λx=>dG x=true) h λ_ _=>rfl
 | .str _,h=>DW (P:=λx=>dG x=true) h λ_ _ _=>rfl
 | .loc _,h=>zq (P:=λx=>dG x=true) h λ_ _ _=>rfl
 | .jZ _,h=>CP (P:=λx=>dG x=true) h λ_ _ _ _=>rfl
 | .bin _ _ _,h=>AF (P:=λx=>dG x=true) h λ_ _ _ _ _=>rfl
 | .cmp _ _ _,h=>CG (P:=λx=>dG x=true) h λ_ _ _ _ _ _=>rfl
 | .and _,h=>Eu (P:=λx=>dG x=true) h λ_ _ _=>rfl
 | .or _,h=>DU (P:=λx=>dG x=true) h λ_ _ _=>rfl
 | .not _,h=>Du (P:=λx=>dG x=true) h λ_ _ _=>rfl
 | .neg _,h=>Ab (P:=λx=>dG x=true) h λ_ _ _=>rfl
 | .ite _ _ _,h=>C3 (P:=λx=>dG x=true) h λ_ _ _ _ _ _ _=>rfl
 | .tup _,h=>zR (P:=λx=>dG x=true) h λ_ _ _ _ _=>rfl
 | .list _,h=>Ah (P:=λx=>dG x=true) h λ_ _ _ _=>rfl
 | .dict _ _,h=>C7 (P:=λx=>dG x=true) h λ_ _ _ _ _ _ _=>rfl
 | .idx _ _,h=>BQ (P:=λx=>dG x=true) h λ_ _ _ _ _ _=>rfl
 | .slice _ _ _ _ _,h=>Co (P:=λx=>dG x=true) h λ_ _ _ _ _ _ _ _=>rfl
 | .attr _ _,h=>Bg (P:=λx=>dG x=true) h λ_ _ _ _ _ _=>rfl
 | .call _ _,h=>Ea (P:=λx=>dG x=true) h λ_ _ _ _ _ _ _=>rfl
 | .own _ _ _,h=>A1 (P:=λx=>dG x=true) h λ_ _ _ _ _ _ _ _ _ _ _=>rfl
 | .bt _ _ _,h=>Dq (P:=λx=>dG x=true) h λ_ _ _ _ _ _ _ _ _=>rfl
 | .km _ _ _,h=>zT (P:=λx=>dG x=true) h λ_ _ _ _ _ _ _ _ _ _ _=>rfl
 | .new _ _,h=>Bk (P:=λx=>dG x=true) h λ_ _ _ _ _=>rfl
 | .bi _ _,h=>Eh (P:=λx=>dG x=true) h λ_ _ _ _ _=>rfl
 | .comp _ _ _,h=>wV (P:=λx=>dG x=true) h λ_ _ _ _ _ _ _ _ _=>rfl
 | .iS _ _ _,h=>wo (P:=λx=>dG x=true) h λ_ _ _ _ _ _ _ _ _ _ _ _=>rfl
theorem K6 {aa:Env} {y:Value}:∀{x:PySem.Expr},dG x=true→foldedSetIterable x aa y=pure y:=by
 intro x
 cases x<;>first |exact λ_=>rfl |exact λh=>absurd h Bool.false_ne_true
theorem S8:∀{x:PySem.Expr},dG x=true→∀(ac:List PySem.Expr) (aa:Env),starEach (x::ac) aa=(false,eval x aa)::starEach ac aa:=by
 intro x
 cases x<;>first |exact λ_ _ _=>rfl |exact λh=>absurd h Bool.false_ne_true
theorem uv {sc:Scope} {e:E} {x:PySem.Expr} (h:aF sc nm e x=true) (ac:List PySem.Expr) (aa:Env):starEach (x::ac) aa=(false,eval x aa)::starEach ac aa:=S8 (zm h) ac aa
theorem uI {sc:Scope}:∀{es:Es} {xs:List PySem.Expr},cE sc nm es xs=true→∀aa pos,(backTo pos (starEach xs aa)).any (·.1)=false
 | .nil,xs,h,aa,pos=>by rw [sI h];rfl
 | .cons e es,xs,h,aa,pos=>qb (Ps:=λxs=>(backTo pos (starEach xs aa)).any (·.1)=false) h λy ys h1 h2=>by
  rw [uv h1]
  exact uI h2 aa pos
theorem Vp {f:Nat} {x:Str} (h:gH kZ f x=true):f<39:=by
 unfold gH at h
 cases hs:kZ[f]? with
 |none=>rw [hs] at h;cases h
 |some s=>exact (List.getElem?_eq_some_iff.mp hs).1
theorem adh (H:aR U w J fl aa nm Z O L s) {x:V} {v:Value} {k:Nat} (r:RV J s.heap Z x v):aI U w J aE Z s (.ok x O) v {s with toks:=k}:=aI.same H.st.sr r k
theorem acZ {aP:aH} {s0:Shared} (X:aj aE aP s0 Z s) (S:St U w J fl Z O s) {α:Type} {x:V} {v:Value} (r:RV J s0.heap aP x v) (S0:St U w J fl aP af s0):RV J s.heap Z x v:=RV.mono (X.fe S0) r
theorem W7 {x:List Nat} {t:Tok} {l u:Option (Int×Tok)} {lo hi:Option Nat} {Q:Value→Shared→Prop} (hl:x.length≤aq) (h1:l.map (·.1)=lo.map λ(k:Nat)=>(k:Int)) (h2:u.map (·.1)=hi.map λ(k:Nat)=>(k:Int))
    (h:∀t' k,Q (.str ⟨(ku x lo hi).toArray⟩ t') {s with toks:=k}):(sliceMade ⟨x.toArray⟩ t l u none).post Q s:=by
 have e:=VG x lo hi
 rw [←h1, ←h2] at e
 unfold Txt.slice at e
 unfold sliceMade slicePicked
 split
 ·rename_i hc
  have e:=(if_pos hc).symm.trans e
  have:=h t s.toks
  rw [←e] at this
  exact this
 ·rename_i hc
  have e:=(if_neg hc).symm.trans e
  have dw:(ku x lo hi).length≤x.length:=by
   unfold ku
   cases hi<;>cases lo<;>simp<;>omega
  have e':(⟨(Builtin.Str.strSliceIndices (l.map (·.1)) (u.map (·.1)) ((Option.map (·.1) (none:Option (Int×Tok))).getD 1) (⟨x.toArray⟩:Str).length).filterMap ((⟨x.toArray⟩:Str).cps[·]?) |>.toArray⟩:Str)=⟨(ku x lo hi).toArray⟩:=e
  refine ⟨?_,?_⟩
  ·rw [e',str_len, ←gU];omega
  ·rw [e']
   exact h _ _
theorem EW {name:Str}:∀{x:PySem.Expr},kO x=true→attributeBase x name aa (eval x aa)=eval x aa:=by
 intro x
 cases x with
 |Call f a k p=>cases f<;>first |exact λ_=>rfl |exact λh=>absurd h Bool.false_ne_true
 |_=>exact λ_=>rfl
theorem CK {o:PySem.Expr} {name:Str} {A4 pos:Pos} {args:List PySem.Expr} {Q:Value→Shared→Prop} (hb:kO o=true) (mP:(backTo pos (starEach args aa)).any (·.1)=false) (dw:args.length+1<30) (SN:(A4.endLine==pos.line)=true)
    (h:wpAny (model U w) A (eval o aa) (λov bN=>wpAny (model U w) A (getMethod ov name (do return (←importBound o aa).getD true)) (λp lP=>wpAny (model U w) A (callWith pos p.1 p.2 (backTo pos (starEach args aa)) []) Q E0 lP) E0 bN) E0 s):
  wpAny (model U w) A (eval (.Call (.Attribute o name A4) args [] pos) aa) Q E0 s:=by
 rw [arm_eval_Call,EW hb]
 refine wpAny_bind (wpAny_mono h (λov bN fB=>?_) λ_ _ e=>e)
 refine wpAny_bind (wpAny_standAt ?_)
 have ju:∀l:List (Bool×Sem Value),l.any (·.1)=false→l.all (λx=> !x.1)=true:=λl hl=>by
  rw [List.all_eq_true]
  intro y hy
  have:=List.any_eq_false.mp hl y hy
  simpa using this
 have Xq:methodCallForm (args.length+([]:List Keyword).length) (backTo pos (starEach args aa)) (backToKw pos (keywordEach [] aa))=true:=by
  unfold methodCallForm
  rw [ju _ mP]
  simp only [backToKw,keywordEach,List.map_nil,List.all_nil,Bool.true_and,decide_eq_true_eq,List.length_nil,List.isEmpty_nil,if_true]
  omega
 have aan:methodCallPos true o aa A4 pos=pure pos:=by unfold methodCallPos;simp [SN]
 unfold methodCall
 rw [Xq]
 refine wpAny_bind (wpAny_holding ?_)
 show wpAny _ _ (getMethod ov name _) _ _ _
 exact wpAny_mono fB (λp lP oa=>wpAny_bind (wpAny_of_eq aan oa)) λ_ _ e=>e
end
section
variable {U:Program} {w:World} {J:Heap} {gl bl:Addr} {K:Frag} {fl:List Env} {Z ai ao:aH} {O af ae:ag} {s s' s1:Shared} {A:Around} {E0:Value→Shared→Prop} {aa:Env} {nm:List Str} {L:Locals}
variable {C:Calls} {n fu:Nat}
structure uF (U:Program) (w:World) (J:Heap) (A:Around) (aP:aH) (I:Addr) (item:Nat→ag→Option (Option V)) (T:Nat→Heap→Prop):Prop where
 at':∀i h,T i h→∃o vs,h.get? I=some o∧o.data= .fields vs
 same:∀i h h',T i h→h'.get? I=h.get? I→T i h'
 vB:∀i v Z O s (Q:Option Value→Shared→Prop) E,aP<+:Z→T i s.heap→SR U w J s.heap Z O→item i O=some (some v)→
    (∀h' x k,T (i+1) h'→Heap.SameBut I s.heap h'→s.toks≤k→RV J s.heap Z v x→Q (some x) {s with heap:=h',toks:=k})→wpAny (model U w) A (pyNext (.ref I)) Q E s
 stop:∀i Z O s (Q:Option Value→Shared→Prop) E,aP<+:Z→T i s.heap→SR U w J s.heap Z O→item i O=some none→(∀h',Heap.ExtBut I s.heap h'→Q none {s with heap:=h'})→wpAny (model U w) A (pyNext (.ref I)) Q E s
 self:∀i s (Q:Value→Shared→Prop) E,T i s.heap→Q (.ref I) s→wpAny (model U w) A (pyIter (.ref I)) Q E s
theorem aao (hh:A.handled=none) {n:Nat} {p:Addr×Addr} {aP:aH} {I:Addr} (hp:aP[n]?=some p):uF U w J A aP I (j4 n) (λi h=>h.IsListIter I p.1 i) where
 at':=λi h ⟨o,ho,_,hd⟩=>⟨o,_,ho,hd⟩
 same:=λi h h' ⟨o,ho,r⟩ e=>⟨o,e.trans ho,r⟩
 vB:=λi v Z O s Q E iz gj S hv hQ=>iL S (lp iz hp) hv sn λus hs L e=>by
  obtain ⟨ws,hl,rs,bS,hz⟩:=L
  obtain ⟨x,hx,rx⟩:=aD.get rs (Option.some.inj e)
  exact wpAny_pyNext_list_item gj hl.isList (x:=x) (by simpa using hx) λh' hi a9=>hQ h' x s.toks hi a9 (adp _) rx
 stop:=λi Z O s Q E iz gj S hv hQ=>iL S (lp iz hp) hv sn λus hs L e=>by
  obtain ⟨ws,hl,rs,bS,hz⟩:=L
  exact wpAny_pyNext_list_end hh gj hl.isList (Array.getElem?_eq_none (bS▸List.getElem?_eq_none_iff.mp (Option.some.inj e))) hQ
 self:=λi s Q E gj h=>wpAny_pyIter_listiter gj h
theorem aaG (hh:A.handled=none) {k:Int} {aP:aH} {I:Addr}:uF U w J A aP I (f9 k) (λi h=>IsRangeIter h I (i:Int) ((k.toNat:Int)-i) 1) where
 at':=λi h e=>⟨_,_,e,rfl⟩
 same:=λi h h' x e=>e.trans x
 vB:=λi v Z O s Q E iz gj S hv hQ=>by
  unfold f9 at hv
  injection hv with hv
  split at hv
  ·rename_i aK
   injection hv with hv
   subst hv
   refine wpAny_pyNext_range_item gj (by omega) λh' hi a9=>hQ h' _ _ ?_ a9 (Nat.le_succ _) (eW _ _)
   show IsRangeIter h' I ((i+1:Nat):Int) ((k.toNat:Int)-((i+1:Nat):Int)) 1
   rw [show ((i+1:Nat):Int)=(i:Int)+1 from by omega,show (k.toNat:Int)-((i:Int)+1)=(k.toNat:Int)-(i:Int)-1 from by omega]
   exact hi
  ·cases hv
 stop:=λi Z O s Q E iz gj S hv hQ=>by
  unfold f9 at hv
  injection hv with hv
  split at hv
  ·cases hv
  ·exact wpAny_pyNext_range_end hh gj (by omega) hQ
 self:=λi s Q E gj h=>wpAny_pyIter_rangeiter gj h
structure Xf (U:Program) (w:World) (J:Heap) (fl:List Env) (ao:aH) (s1:Shared) (ai:aH) (af:ag) (s':Shared) (h':Heap) (k:Nat):Prop where
 x:aj aE ao s1 ai {s' with heap:=h',toks:=k}
 st:St U w J fl ai af {s' with heap:=h',toks:=k}
 v:VK J ai s'.heap ai h'
theorem sL {a:Addr} (S1:St U w J fl ao ae s1) (X:aj aE ao s1 ai s') (S:St U w J fl ai af s') (ha:s1.heap.get? a=none) (nf:¬bL ai a) {h':Heap} (a9:∀b o,b≠a→s'.heap.get? b=some o→h'.get? b=some o)
    (xu:∀o,s'.heap.get? a=some o→(∃vs n,o.data= .seq vs n)→o.cls≠ .type "tuple") (k:Nat) (hk:s'.toks≤k):
  Xf U w J fl ao s1 ai af s' h' k:=by
 have nb:J.get? a=none:=jG S1.stays ha
 have v:VK J ai s'.heap ai h':=by
  refine ⟨List.prefix_refl _,λb o e nf hq hc=>⟨o.slots,a9 b o (λz=>?_) e⟩,λb o e=>a9 b o (λz=>?_) (S.stays b o e),S.sr.off,S.sr.cells⟩
  ·subst z
   rcases hc with hc |hc
   ·exact xu o e hq hc
   ·rw [nb] at hc;cases hc
  ·subst z;rw [nb] at e;cases e
 have keep:∀b o,s1.heap.get? b=some o→¬bL ao b→h'.get? b=some o:=λb o e nf=>a9 b o (λz=>by subst z;rw [ha] at e;cases e) (X.keep b o e nf λx=>x)
 refine ⟨⟨X.pre,λb o e nf _=>keep b o e nf,λb e=>?_,X.new,X.gens,X.drawn,X.os⟩,⟨S.sr.grow v λb o q e=>a9 b o (λz=>nf (z▸q)) e,v.stays,?_,S.jC,adk S.tok hk⟩,v⟩
 ·obtain ⟨o,ho⟩:=Option.isSome_iff_exists.mp (X.live b e)
  show (h'.get? b).isSome
  rw [a9 b o (λz=>by subst z;rw [ha] at e;cases e) ho];rfl
 ·refine om S1.frames λb hb o ho hd=>⟨o,keep b o ho (S1.jC b hb),hd⟩
inductive sv (U:Program) (w:World) (J:Heap) (A:Around) (fl:List Env) (aa:Env) (nm:List Str) (L:Locals) (Z:aH) (s:Shared) (item:Nat→ag→Option (Option V)) (ae:ag) (it:Value) (s2:Shared):Prop where
 |mk (I:Addr) (ao:aH) (s1:Shared) (T:Nat→Heap→Prop) (gj:it= .ref I) (X:aj aE Z s ao s1) (H:aR U w J fl aa nm ao ae L s1) (hI:s1.heap.get? I=none) (X2:aj aE ao s1 ao s2) (H2:aR U w J fl aa nm ao ae L s2)
      (fd:uF U w J A ao I item T) (hT:T 0 s2.heap):sv U w J A fl aa nm L Z s item ae it s2
theorem Jk (R:bI n 10 fl A) (eo:bJ gl bl aa) (H:aR U w J fl aa nm Z O L s) {iter:E} {cI:PySem.Expr} {Q:Value→Shared→Prop} (lr:aF aa.scope nm iter cI=true) (Vi:f7 U w J gl bl fl A C fu iter)
    (cv:ev C fu iter L O≠ .stuck) (pV:∀e af,ev C fu iter L O= .exc e af→∀v s',bh U w J (· ∈bb fl) Z s (.exc e af:Out V) v s'→s.toks≤s'.toks→E0 v s')
    (rn:∀v ae,ev C fu iter L O= .ok v ae→∃m vs,v= .ref m∧ae[m]?=some (.list vs))
    (hk:∀m ae,ev C fu iter L O= .ok (.ref m) ae→∀it s2,sv U w J A fl aa nm L Z s (j4 m) ae it s2→Q it s2):
  wpAny (model U w) A (eval cI aa) (λx bN=>wpAny (model U w) A (pyIter x) Q E0 bN) E0 s:=by
 cases ho:ev C fu iter L O with
 |stuck=>exact absurd ho cv
 |exc e af=>
  refine mS (Vi lr eo H ho (by simp)) (λ_ _ p _=>p.elim) λv s' x ht=>pV e af ho v s' x ht
 |ok v ae=>
  refine mM (Vi lr eo H ho (by simp)) (λx s1 ⟨ao,X1,R1,r1⟩ t1=>?_) λ_ _ x=>x.elim
  obtain ⟨m,vs,rfl,hs⟩:=rn v ae ho
  refine tO r1 λp hp=>?_
  obtain ⟨ws,hl,rs,bS,hz⟩:=R1.list hp hs
  have H1:=H.ext X1 R1 t1
  refine wpAny_pyIter_list hl.isList (hk m ae ho _ _ ⟨s1.heap.objs.size,ao,s1,_,rfl,X1,H1,fX _,aj.push aE ao s1 _ s1.toks,H1.ext (aj.push aE ao s1 _ s1.toks) (nP H1.st _) (adp _),aao R.hand hp,?_⟩)
  exact ⟨_,Heap.get?_push_size _ rfl,rfl,rfl⟩
theorem acR {k:Int} (h:0≤k):Builtin.Range.rangeSize 0 k 1=k:=by
 rw [rangeSize_nat];omega
theorem Jr (B:cx U w J gl bl K) (R:bI n 10 fl A) (eo:bJ gl bl aa) (H:aR U w J fl aa nm Z O L s) {iter:E} {cI:PySem.Expr} {pr pc:Pos} {Q:Value→Shared→Prop} (hg:d6 aa.scope (Str.ofString "range")=true)
    (lr:aF aa.scope nm iter cI=true) (Vi:f7 U w J gl bl fl A C fu iter)
    (cv:ev C fu iter L O≠ .stuck) (pV:∀e af,ev C fu iter L O= .exc e af→∀v s',bh U w J (· ∈bb fl) Z s (.exc e af:Out V) v s'→s.toks≤s'.toks→E0 v s')
    (rn:∀v ae,ev C fu iter L O= .ok v ae→∃k,v= .int k∧smallInt k=true)
    (hk:∀k ae,ev C fu iter L O= .ok (.int k) ae→∀it s2,sv U w J A fl aa nm L Z s (f9 k) ae it s2→Q it s2):
  wpAny (model U w) A (eval (.Call (.Name (Str.ofString "range") pr) [cI] [] pc) aa) (λx bN=>wpAny (model U w) A (pyIter x) Q E0 bN) E0 s:=by
 refine wpAny_Call_NameR (oX eo H B.g.Kp hg ?_)
 have mP:=uv lr [] aa
 refine callWith_of (P:=λ_=>True) (by rw [mP];rfl) (λh X=>⟨.machine,.inr (.inl rfl),Looks.of_pure rfl⟩) ?_
 suffices aQ:wpAny (model U w) A (spliced (backTo pc (starEach [cI] aa))) (λvs s'=>True∧wpAny (model U w) A (call (.type "range") ([]++vs) []) (λx bN=>wpAny (model U w) A (pyIter x) Q E0 bN) E0 s') E0 s by
  rw [mP] at aQ ⊢
  exact evalArgs_plain aQ
 refine spliced_more (rest:=[]) ?_ mP
 cases ho:ev C fu iter L O with
 |stuck=>exact absurd ho cv
 |exc e af=>
  refine mS (Vi lr eo H ho (by simp)) (λ_ _ p _=>p.elim) λv s' x ht=>pV e af ho v s' x ht
 |ok v ae=>
  refine mM (Vi lr eo H ho (by simp)) (λx s1 ⟨ao,X1,R1,r1⟩ t1=>?_) λ_ _ x=>x.elim
  obtain ⟨k,rfl,Sj⟩:=rn v ae ho
  obtain ⟨t,rfl⟩:∃t,x= .int k t:=r1
  have H1:=H.ext X1 R1 t1
  refine spliced_none ⟨trivial,?_⟩
  refine call_range_1 (n:=k) (t:=t) ?_
  obtain ⟨k1,k2⟩:=Fv Sj
  have X2:=aj.push aE ao s1 {cls:= .type "range",data:= .fields #[.int 0 s1.toks,.int k t,.int 1 (s1.toks+1)]} (s1.toks+1+1)
  have H2:aR U w J fl aa nm ao ae L _:=H1.ext X2 (nP H1.st _) (by show s1.toks≤s1.toks+1+1;omega)
  refine wpAny_pyIter_range (IsRange.new ..) (small_one (by omega) (by omega) (by omega) (by omega)) ?_
  refine hk k ae ho _ _ ⟨_,ao,_,_,rfl,X1.trans X2,H2,fX _,aj.push aE ao _ _ _,H2.ext (aj.push aE ao _ _ _) (nP H2.st _) (adp _),aaG R.hand,?_⟩
  rw [rangeSize_nat]
  show IsRangeIter _ _ ((0:Nat):Int) ((k.toNat:Int)-((0:Nat):Int)) 1
  rw [show (k.toNat:Int)-((0:Nat):Int)=(((k-0).toNat:Nat):Int) from by omega]
  exact Heap.get?_push_size _ rfl
end
section
variable {U:Program} {w:World} {J:Heap} {gl bl:Addr} {K:Frag} {fl:List Env} {Z ai ao:aH} {O af ae az:ag} {s s' s1 s2:Shared} {A:Around} {E0:Value→Shared→Prop} {aa:Env} {nm:List Str} {L:Locals}
variable {C:Calls} {n fu:Nat}
theorem aR.ext2 (H:aR U w J fl aa nm Z O L s) (X:aj aE Z s ai s') (S':St U w J fl ai af s'):aR U w J fl aa nm ai af L s':=by
 refine ⟨S',H.loc.mono (X.fe H.st) λb o e _ hb=>X.keep b o e (λq=>?_) λx=>x,λq=>?_,H.ou⟩
 ·rcases hb with rfl |⟨x,hd⟩
  ·exact H.jJ q
  ·exact H.st.sr.CV e hd q
 ·obtain ⟨m,hm,_⟩:=H.loc
  obtain ⟨o,_,_,ho,_⟩:=hm
  exact H.jJ (gT X (by rw [ho];rfl) q)
theorem G8 {aG:Scope} (hk:aa.scope.kind= .function) (hf:∀x∈aG.names,x.2= .free→aa.kindOf x.1=some .cell):relabel aG aa=hV aG:=by
 unfold relabel hV
 congr 1
 refine List.map_congr_left λx hx=>?_
 obtain ⟨a,k⟩:=x
 cases k<;>simp
 simp [hk,hf _ hx rfl]
theorem AL:∀(names:List (Str×NameKind)) (acc:List (Str×Addr)),(∀x∈names,x.2= .free→(aa.cells.lookup x.1).isSome=true)→(∀n c,acc.lookup n=some c→aa.cells.lookup n=some c)→
  ∃cl,(forIn (m:=Sem) names acc λ(x:Str×NameKind) (cs:List (Str×Addr))=>(do
   if x.2== .free then
    let c←cellOf aa x.1
    pure (ForInStep.yield ((x.1,c)::cs))
   else pure (ForInStep.yield cs):Sem (ForInStep (List (Str×Addr)))))=pure cl∧(∀n c,cl.lookup n=some c→aa.cells.lookup n=some c)∧(∀x∈names,x.2= .free→(cl.lookup x.1).isSome=true)∧(∀n,(acc.lookup n).isSome=true→(cl.lookup n).isSome=true)
 |[],acc,_,h=>⟨acc,by simp,h,λ_ hx=>(by cases hx),λ_ h=>h⟩
 |(a,k)::r,acc,hc,h=>by
  rw [List.forIn_cons]
  by_cases hk:k= .free
  ·subst hk
   have h1:=hc (a,.free) (.head _) rfl
   obtain ⟨c,nR⟩:=Option.isSome_iff_exists.mp h1
   obtain ⟨cl,e,h2,h3,h4⟩:=AL r ((a,c)::acc) (λx hx=>hc x (.tail _ hx)) λn c' q=>by
    rw [List.lookup_cons] at q
    split at q
    ·rename_i hn
     cases q
     rw [beq_iff_eq.mp hn];exact nR
    ·exact h n c' q
   refine ⟨cl,?_,h2,λx hx hf=>?_,λn hn=>h4 n ?_⟩
   ·have:cellOf aa a=pure c:=by unfold cellOf;have Ot:aa.cells.lookup a=some c:=nR;rw [Ot]
    simp only [beq_self_eq_true,if_true,this,pure_bind]
    exact e
   ·rcases List.mem_cons.mp hx with rfl |hx
    ·exact h4 a (by rw [List.lookup_cons];simp)
    ·exact h3 x hx hf
   ·rw [List.lookup_cons];split<;>simp [hn]
  ·obtain ⟨cl,e,h2,h3,h4⟩:=AL r acc (λx hx=>hc x (.tail _ hx)) h
   refine ⟨cl,?_,h2,λx hx hf=>?_,h4⟩
   ·have:(k==NameKind.free)=false:=by cases k<;>first |rfl |exact absurd rfl hk
    simp only [this,Bool.false_eq_true,if_false,pure_bind]
    exact e
   ·rcases List.mem_cons.mp hx with rfl |hx
    ·exact absurd hf hk
    ·exact h3 x hx hf
theorem abd {aG:Scope} (hc:∀x∈aG.names,x.2= .free→(aa.cells.lookup x.1).isSome=true):∃cl,closureFor aG aa=pure cl∧(∀x∈aG.names,x.2= .free→cl.lookup x.1=aa.cells.lookup x.1):=by
 obtain ⟨cl,e,h1,h2,_⟩:=AL aG.names [] hc λn c q=>by cases q
 refine ⟨cl,?_,λx hx hf=>?_⟩
 ·unfold closureFor
  exact (congrArg (λt=>t>>=pure) e).trans (by rw [pure_bind])
 ·obtain ⟨c,nR⟩:=Option.isSome_iff_exists.mp (h2 x hx hf)
  rw [nR,h1 _ _ nR]
structure o7 (aa:Env) (nm:List Str) (aG:Scope) (x:Str) (caps:List Nat):Prop where
 kind:aG.kind= .function
 Gw:∀y∈aG.names,y.2≠ .cell
 loc:∀y∈aG.names,y.2= .local→aG.names.lookup y.1=some .local
 hx:aG.names.lookup x=some .local
 caps:(freeNames aG).map some=caps.map (λi=>nm[i]?)
 outer:∀n∈freeNames aG,aa.kindOf n=some .cell
 inner:∀n∈freeNames aG,aG.names.lookup n=some .free
theorem Vy {aG:Scope} {x:Str} {caps:List Nat} (h:mf aa.scope nm aG x caps=true):o7 aa nm aG x caps:=by
 unfold mf at h
 simp only [Bool.and_eq_true,List.all_eq_true,beq_iff_eq,bne_iff_ne,Bool.or_eq_true] at h
 obtain ⟨⟨⟨⟨⟨⟨⟨⟨h1,h2⟩,h3⟩,h4⟩,h5⟩,h6⟩,h7⟩,h8⟩,h9⟩:=h
 exact ⟨h1,h2,λy hy hl=>(h3 y hy).resolve_left λq=>q hl,h4,h5,λn hn=>h6 n hn,h7⟩
theorem vA {aG:Scope} {y:Str×NameKind} (hy:y∈aG.names) (hf:y.2= .free):y.1∈freeNames aG:=by
 unfold freeNames
 exact List.mem_map.mpr ⟨y,List.mem_filter.mpr ⟨hy,by rw [hf];rfl⟩,rfl⟩
theorem B7:∀{names:List (Str×NameKind)} {n:Str},(names.map λ(n,k)=>if k==NameKind.free then (n,NameKind.cell) else (n,k)).lookup n=(names.lookup n).map λk=>if k== .free then .cell else k
 |[],_=>rfl
 |(a,k)::r,n=>by
  have ih:=@B7 r n
  rw [List.map_cons]
  by_cases hk:(k==NameKind.free)=true
  ·simp only [hk,if_true,List.lookup_cons]
   split
   ·simp only [Option.map_some,hk,if_true]
   ·exact ih
  ·simp only [hk,if_false,List.lookup_cons,Bool.false_eq_true]
   split
   ·simp only [Option.map_some,hk,if_false,Bool.false_eq_true]
   ·exact ih
theorem Wt {aG:Scope} {x:Str} {caps:List Nat} {cl:List (Str×Addr)} {Cc:Addr} (ci:o7 aa nm aG x caps) (eo:bJ gl bl aa) (gK:∀y∈aG.names,y.2= .free→cl.lookup y.1=aa.cells.lookup y.1):
    (compEnvC aG cl Cc aa).scope=hV aG∧bJ gl bl (compEnvC aG cl Cc aa):=by
 have e:relabel aG aa=hV aG:=G8 eo.kind λy hy hf=>ci.outer _ (vA hy hf)
 refine ⟨e,⟨?_,eo.glob,eo.Gm,λn hn=>?_⟩⟩
 ·show (relabel aG aa).kind=_
  exact ci.kind
 ·have hn:(relabel aG aa).names.lookup n=some .cell:=hn
  rw [e] at hn
  have jw:(aG.names.lookup n).map (λk=>if k== .free then NameKind.cell else k)=some .cell:=by rw [←B7];exact hn
  cases hq:aG.names.lookup n with
  |none=>rw [hq] at jw;cases jw
  |some k=>
   rw [hq] at jw
   simp only [Option.map_some,Option.some.injEq] at jw
   have hm:=mem_of_lookup hq
   by_cases hk:k= .free
   ·subst hk
    have:=gK _ hm rfl
    show (cl.lookup n).isSome=true
    rw [this]
    exact eo.cells n (ci.outer n (vA hm rfl))
   ·have:(k==NameKind.free)=false:=by cases k<;>first |rfl |exact absurd rfl hk
    rw [this] at jw
    exact absurd jw (ci.Gw _ hm)
theorem T9 {aG:Scope} {x:Str} {caps:List Nat} {cl:List (Str×Addr)} {Cc:Addr} {m:Str→Option Value} {v:V} {y:Value} (ci:o7 aa nm aG x caps) (eo:bJ gl bl aa) (gK:∀y∈aG.names,y.2= .free→cl.lookup y.1=aa.cells.lookup y.1)
    (H:aR U w J fl aa nm Z O L s) (hm:s.heap.Ns Cc m) (Qb:m x=some y) (ry:RV J s.heap Z v y) (nf:¬bL Z Cc) (nb:J.get? Cc=none):aR U w J fl (compEnvC aG cl Cc aa) (x::freeNames aG) Z O (some v::caps.map L.get) s:=by
 refine ⟨H.st,⟨m,hm,λi u hu=>?_⟩,nf,nb⟩
 have e:relabel aG aa=hV aG:=G8 eo.kind λy hy hf=>ci.outer _ (vA hy hf)
 cases i with
 |zero=>
  have hu:(some v:Option V)=some u:=hu
  cases hu
  refine ⟨x,y,rfl,ry,.inl ⟨?_,Qb⟩⟩
  exact lookup_relabel_local ci.hx
 |succ i=>
  have hu:((caps.map L.get)[i]?).join=some u:=hu
  rw [List.getElem?_map] at hu
  cases hc:caps[i]? with
  |none=>rw [hc] at hu;cases hu
  |some j=>
   rw [hc] at hu
   have hu:L.get j=some u:=hu
   obtain ⟨m0,yl,hl⟩:=H.loc
   obtain ⟨nn,z,hn,rz,hz⟩:=hl j u hu
   have h1:((freeNames aG).map some)[i]?=some (nm[j]?):=by rw [ci.caps,List.getElem?_map,hc];rfl
   rw [List.getElem?_map] at h1
   cases hf:(freeNames aG)[i]? with
   |none=>rw [hf] at h1;cases h1
   |some aaW=>
    rw [hf,hn] at h1
    have h1:some (some aaW)=some (some nn):=h1
    cases h1
    have sX:=List.mem_of_getElem? hf
    have hk:=ci.outer nn sX
    refine ⟨nn,z,hf,rz,.inr ⟨?_,?_⟩⟩
    ·show (relabel aG aa).names.lookup nn=some .cell
     rw [e]
     have:=@B7 aG.names nn
     rw [ci.inner nn sX] at this
     exact this
    ·rcases hz with ⟨hz,_⟩ |⟨_,c,ZO,xB⟩
     ·rw [hk] at hz;cases hz
     ·refine ⟨c,?_,xB⟩
      show cl.lookup nn=some c
      rw [←ZO]
      exact gK _ (mem_of_lookup (ci.inner nn sX)) rfl
theorem tJ {aa:Env} (h:aa.scope.kind= .function):(aa.scope.kind== .class||(aa.scope.kind== .module&&aa.locals !=aa.globals))=false:=by rw [h];rfl
structure n7 (U:Program) (w:World) (J:Heap) (fl:List Env) (ao:aH) (s1:Shared) (D Cc:Addr) (vs:List V) (az:ag) (ai:aH) (s':Shared):Prop where
 ext:aj aE ao s1 ai s'
 st:St U w J fl ai az s'
 acc:∃ws,s'.heap.PlainList D ws∧aD J s'.heap ai vs ws.toList
 len:vs.length≤aq
 ns:∃m,s'.heap.Ns Cc m
 ne:D≠Cc
 yy:¬bL ai D
 KZ:¬bL ai Cc
 newD:s1.heap.get? D=none
 vw:s1.heap.get? Cc=none
structure xP (U:Program) (w:World) (J:Heap) (A:Around) (fl:List Env) (aa:Env) (nm:List Str) (L:Locals) (ao:aH) (s1:Shared) (ae:ag) (I D Cc:Addr) (item:Nat→ag→Option (Option V)) (T:Nat→Heap→Prop):Prop where
 H:aR U w J fl aa nm ao ae L s1
 fd:uF U w J A ao I item T
 acv:s1.heap.get? I=none
 newD:s1.heap.get? D=none
 vw:s1.heap.get? Cc=none
 nO:D≠Cc
 oz:I≠Cc
 pQ:I≠D
inductive nq (U:Program) (w:World) (J:Heap) (fl:List Env) (ao:aH) (s1:Shared) (I D Cc:Addr) (T:Nat→Heap→Prop) (i:Nat) (acc:List V) (af:ag) (sx:Shared):Prop where
 |mk (ai:aH) (ws:Array Value) (m:Str→Option Value) (X:aj aE ao s1 ai sx) (S:St U w J fl ai af sx) (hT:T i sx.heap) (hD:sx.heap.PlainList D ws) (rs:aD J sx.heap ai acc ws.toList) (cv:sx.heap.Ns Cc m)
      (nI:¬bL ai I) (nD:¬bL ai D) (nC:¬bL ai Cc) (hz:acc.length≤aq):nq U w J fl ao s1 I D Cc T i acc af sx
section
variable {I D Cc:Addr} {item:Nat→ag→Option (Option V)} {T:Nat→Heap→Prop} {bc:E} {caps:List Nat} {pe:PySem.Expr} {x:Str} {px:Pos} {aG:Scope} {cl:List (Str×Addr)} {i:Nat} {acc:List V}
theorem wR {h h':Heap} {a:Addr} {o:Obj} {vs:Array Value} (e:h.get? a=some o) (hd:o.data= .fields vs):∀o',h.get? a=some o'→(∃vs n,o'.data= .seq vs n)→o'.cls≠ .type "tuple":=λo' e' ⟨vs,n,q⟩=>by
 rw [e] at e';cases e';rw [hd] at q;cases q
theorem CU {h:Heap} {a:Addr} {m:Str→Option Value} (cv:h.Ns a m):∀o',h.get? a=some o'→(∃vs n,o'.data= .seq vs n)→o'.cls≠ .type "tuple":=λo' e' ⟨vs,n,q⟩=>by
 obtain ⟨o,es,ep,ho,hd,_⟩:=cv
 rw [ho] at e';cases e';rw [hd] at q;cases q
theorem SY {h:Heap} {a:Addr} {ws:Array Value} (hl:h.PlainList a ws):∀o',h.get? a=some o'→(∃vs n,o'.data= .seq vs n)→o'.cls≠ .type "tuple":=λo' e' _ q=>by
 obtain ⟨dn,ho⟩:=hl
 rw [ho] at e';cases e';have q:Value.type "list"=Value.type "tuple":=q;injection q with q;exact absurd q (by decide)
theorem Rc {h:Heap} {a:Addr} {m:Str→Option Value} (cv:h.Ns a m):(h.get? a).isSome:=by obtain ⟨o,_,_,e,_⟩:=cv;rw [e];rfl
theorem RX (ci:o7 aa nm aG x caps) (eo:bJ gl bl aa) (gK:∀y∈aG.names,y.2= .free→cl.lookup y.1=aa.cells.lookup y.1) (hm:aF (hV aG) (x::freeNames aG) bc pe=true) (Ve:f7 U w J gl bl fl A C fu bc)
    (ce:xP U w J A fl aa nm L ao s1 ae I D Cc item T) {u:V} {cM:ag} (inv:nq U w J fl ao s1 I D Cc T i acc af s) {v:V} (hv:item i af=some (some v)) (hf:ev C fu bc (some v::caps.map L.get) af= .ok u cM) (dw:acc.length<aq)
  {Q:Option Value→Shared→Prop} {Q1:Shared→Prop} (hQ:∀s',nq U w J fl ao s1 I D Cc T (i+1) (acc++[u]) cM s'→Q1 s')
  (hy:∀y sy,wpAny (model U w) A (assign (.Name x px) (compEnvC aG cl Cc aa) y) (λ_ s2=>wpAny (model U w) A (eval pe (compEnvC aG cl Cc aa)) (λz s5=>wpAny (model U w) A (call (.builtin "list.append") [.ref D,z]) (λ_ s6=>Q1 s6) E0 s5) E0 s2) E0 sy→Q (some y) sy):
  wpAny (model U w) A (pyNext (.ref I)) Q E0 s:=by
 obtain ⟨ai,ws,m,X,S,hT,hD,rs,cv,nI,nD,nC,hz⟩:=inv
 obtain ⟨H1,fd,hI,rM,mA,nO,oz,pQ⟩:=ce
 obtain ⟨oI,vI,jt,mD⟩:=fd.at' _ _ hT
 refine fd.vB i v ai af s _ _ X.pre hT S.sr hv λh' y tk qs a9 Cp ry=>?_
 have a:=sL H1.st X S hI nI (λb o hb e=>(a9.2 b hb).trans e) (wR (h':=h') jt mD) tk Cp
 have Kz:h'.Ns Cc m:=cv.at λo e=>(a9.2 Cc (Ne.symm oz)).trans e
 refine hy _ _ (wpAny_assign_Name (wpAny_storeName_local (m:=m) (lookup_relabel_local ci.hx) Kz (λh2 pI lq=>?_) (tJ ci.kind)))
 replace pI:h2.Ns Cc _:=pI
 replace lq:Heap.SameBut Cc h' h2:=lq
 have b:=sL H1.st a.x a.st mA nC (λb o hb e=>(lq.2 b hb).trans e) (CU Kz) (tk+1) (Nat.le_succ _)
 have Hc:=T9 (Cc:=Cc) (y:=y) (v:=v) ci eo gK (H1.ext2 b.x b.st) pI (by simp) (RV.mono b.v (RV.mono a.v ry)) nC (jG H1.st.stays mA)
 have ce:=Wt (Cc:=Cc) (cl:=cl) ci eo gK
 refine mM (Ve (aa:=compEnvC aG cl Cc aa) (nm:=x::freeNames aG) (x:=pe) (by rw [ce.1];exact hm) ce.2 Hc hf nofun) (λz s5 ⟨wU,X5,R5,r5⟩ t5=>?_) λ_ _ q=>q.elim
 have S5:=b.st.ext X5 R5 t5
 have WJ:aj aE ao s1 wU s5:=b.x.trans X5
 obtain ⟨dn,mK⟩:=hD
 have Fq:h2.get? D=some {cls:= .type "list",data:= .seq ws dn}:=(lq.2 _ nO).trans ((a9.2 _ (Ne.symm pQ)).trans mK)
 have ET:s5.heap.PlainList D ws:=⟨dn,X5.keep _ _ Fq nD λq=>q⟩
 refine wpAny_list_append_plain ET (λh6 aa0 CJ=>hQ _ ?_) (by rw [Gy rs, ←gU];exact hz)
 obtain ⟨Rk,_,eI,_⟩:=fd.at' _ _ qs
 have JG:h2.get? I=some Rk:=(lq.2 I oz).trans eI
 have Mp:¬bL wU D:=λq=>nD (gT X5 (by show (h2.get? D).isSome;rw [Fq];rfl) q)
 have d:=sL H1.st WJ S5 rM Mp (λb o hb e=>(CJ.2 b hb).trans e) (SY ET) s5.toks (adp _)
 refine ⟨wU,ws.push z,_,d.x,d.st,fd.same _ _ _ qs ?_,aa0,?_,(pI.at λo e=>X5.keep _ _ e nC λq=>q).at λo e=>(CJ.2 Cc (Ne.symm nO)).trans e,
    λq=>nI (gT X5 (by show (h2.get? I).isSome;rw [JG];rfl) q),Mp,λq=>nC (gT X5 (Rc pI) q),by rw [List.length_append];exact dw⟩
 ·show h6.get? I=h'.get? I
  rw [eI,CJ.2 I pQ]
  exact X5.keep _ _ JG nI λq=>q
 ·rw [Array.toList_push]
  exact aD.append (aD.mono d.v (aD.mono (X5.fe b.st) (aD.mono b.v (aD.mono a.v rs)))) (aD.one (RV.mono d.v r5))
theorem Vz (ce:xP U w J A fl aa nm L ao s1 ae I D Cc item T) (inv:nq U w J fl ao s1 I D Cc T i acc az s) (hv:item i az=some none) {Q:Option Value→Shared→Prop}
    (hQ:∀ai s',n7 U w J fl ao s1 D Cc acc az ai s'→Q none s'):wpAny (model U w) A (pyNext (.ref I)) Q E0 s:=by
 obtain ⟨ai,ws,m,X,S,hT,⟨dn,mK⟩,rs,cv,nI,nD,nC,hz⟩:=inv
 obtain ⟨H1,fd,hI,rM,mA,nO,oz,pQ⟩:=ce
 obtain ⟨oI,vI,jt,mD⟩:=fd.at' _ _ hT
 refine fd.stop i ai az s _ _ X.pre hT S.sr hv λh' a9=>hQ ai _ ?_
 have a:=sL H1.st X S hI nI (λb o hb e=>a9 b o hb e) (wR (h':=h') jt mD) s.toks (adp _)
 exact ⟨a.x,a.st,⟨ws,⟨dn,a9 _ _ (Ne.symm pQ) mK⟩,aD.mono a.v rs⟩,hz,⟨m,cv.at λo e=>a9 _ _ (Ne.symm oz) e⟩,nO,nD,nC,rM,mA⟩
end
theorem Pa {item:Nat→ag→Option (Option V)} {I D Cc:Addr} {T:Nat→Heap→Prop} {h3 h4:Heap} {k:Nat} {m:Str→Option Value} (H1:aR U w J fl aa nm ao ae L s1) (hI:s1.heap.get? I=none) (H2:aR U w J fl aa nm ao ae L s2) (fd:uF U w J A ao I item T) (hT:T 0 s2.heap)
    (X3:aj aE ao s1 ao {s2 with heap:=h3}) (S3:St U w J fl ao ae {s2 with heap:=h3}) (keep:∀b o,s2.heap.get? b=some o→h3.get? b=some o) (Md:s2.heap.get? D=none) (hD:h3.PlainList D #[]) (live:∀b,(s1.heap.get? b).isSome→(s2.heap.get? b).isSome) (xc:h3.get? Cc=none) (cv:h4.Ns Cc m) (CR:∀b o,b≠Cc→h3.get? b=some o→h4.get? b=some o) (hk:s2.toks≤k):
  xP U w J A fl aa nm L ao s1 ae I D Cc item T∧nq U w J fl ao s1 I D Cc T 0 [] ae {s2 with heap:=h4,toks:=k}:=by
 obtain ⟨dn,mK⟩:=hD
 have nO:D≠Cc:=λe=>by rw [e,xc] at mK;cases mK
 have rM:s1.heap.get? D=none:=gP live Md
 have mA:s1.heap.get? Cc=none:=gP X3.live xc
 have zQ:∀a,s1.heap.get? a=none→¬bL ao a:=λa e q=>by have:=H1.st.sr.live q;rw [e] at this;cases this
 obtain ⟨oI,vI,jt,mD⟩:=fd.at' _ _ hT
 have q3:=keep _ _ jt
 have oz:I≠Cc:=λe=>by rw [e,xc] at q3;cases q3
 have pQ:I≠D:=λe=>by rw [e,Md] at jt;cases jt
 have d:=sL H1.st X3 S3 mA (zQ _ mA) CR (λo e=>by rw [show (_:Option Obj)=none from xc] at e;cases e) k hk
 exact ⟨⟨H1,fd,hI,rM,mA,nO,oz,pQ⟩,⟨ao, #[],_,d.x,d.st,fd.same 0 _ _ hT (by rw [jt];exact CR _ _ oz q3),⟨dn,CR _ _ nO mK⟩,aD.nil,cv,H2.st.sr.BY jt mD,zQ _ rM,zQ _ mA,Nat.zero_le _⟩⟩
theorem Qz {item:Nat→ag→Option (Option V)} {I D Cc:Addr} {T:Nat→Heap→Prop} {bc:E} {caps:List Nat} {pe cI:PySem.Expr} {x:Str} {px pos:Pos} {aG:Scope} {cl:List (Str×Addr)} {vs:List V} (eo:bJ gl bl aa)
    (ci:o7 aa nm aG x caps) (gK:∀y∈aG.names,y.2= .free→cl.lookup y.1=aa.cells.lookup y.1)
    (hm:aF (hV aG) (x::freeNames aG) bc pe=true) (Ve:f7 U w J gl bl fl A C fu bc) (ce:xP U w J A fl aa nm L ao s1 ae I D Cc item T) (inv:nq U w J fl ao s1 I D Cc T 0 [] ae s)
    (hG:fN item (λv O=>ev C fu bc (some v::caps.map L.get) O) fu 0 [] ae=some (vs,az)) {Rr:Result→Shared→Prop} (hR:∀ai s',n7 U w J fl ao s1 D Cc vs az ai s'→Rr (.ok .next) s'):
  codeAny (model U w) A (.compLoop (.ListComp pe [⟨.Name x px,cI,[],0⟩] aG pos) 0 (.ref I) (.ref D) (compEnvC aG cl Cc aa)) Rr s:=by
 refine codeAny_compLoop_list (λj (sy:Shared)=>∃i acc af,fN item (λv O=>ev C fu bc (some v::caps.map L.get) O) j i acc af=some (vs,az)∧nq U w J fl ao s1 I D Cc T i acc af sy) ?_ fu ⟨0,[],ae,hG,inv⟩
 rintro j sy ⟨i,acc,af,hG,inv⟩
 match j,hG with
 |j+1,hG=>exact lO hG λo hv hG=>Gi hG
                     (λv ho hG=>EY hG sn λu cM hf hG=>da hG sn λdw hG=>RX ci eo gK hm Ve ce inv (ho▸hv) hf dw (λs' c=>⟨j,Nat.lt_succ_self _,i+1,acc++[u],cM,hG,c⟩) λy sy h=>h)
                     λho hG=>Vz ce (HW (P:=λacc O=>nq U w J fl ao s1 I D Cc T i acc O sy) hG inv) (HW (P:=λ_ O=>item i O=some none) hG (ho▸hv)) hR
theorem U7 {item:Nat→ag→Option (Option V)} {it:Value} {bc:E} {caps:List Nat} {pe cI:PySem.Expr} {x:Str} {px pos:Pos} {aG:Scope} {cl:List (Str×Addr)} {vs:List V} (eo:bJ gl bl aa)
    (bg:sv U w J A fl aa nm L Z s item ae it s2) (ci:o7 aa nm aG x caps) (gK:∀y∈aG.names,y.2= .free→cl.lookup y.1=aa.cells.lookup y.1)
    (hm:aF (hV aG) (x::freeNames aG) bc pe=true) (Ve:f7 U w J gl bl fl A C fu bc)
    (hG:fN item (λv O=>ev C fu bc (some v::caps.map L.get) O) fu 0 [] ae=some (vs,az)) {Rr:Value→Addr→Result→Shared→Prop}
    (hR:∀D Cc ao s1 ai s',aj aE Z s ao s1→aR U w J fl aa nm ao ae L s1→n7 U w J fl ao s1 D Cc vs az ai s'→Rr (.ref D) Cc (.ok .next) s'):
  wpAny (model U w) A (newList []) (λacc Uv=>wpAny (model U w) A (newFunctionEnv aG aa.globals cl [] aa.qual none .none (some aa)) (λNc aaT=>
   codeAny (model U w) A (.compStart (.ListComp pe [⟨.Name x px,cI,[],0⟩] aG pos) 0 it acc {Nc with scope:=relabel aG aa}) (Rr acc Nc.locals) aaT) E0 Uv) E0 s2:=by
 obtain ⟨I,ao,s1,T,gj,X0,H1,hI,X1,H2,fd,hT⟩:=bg
 refine wpAny_newObj_type (wpAny_newFunctionEnv ci.Gw (by intro y hy;cases hy) (λfB Oa Zi=>?_) ci.kind)
 have d:=Pa H1 hI H2 fd hT (X1.trans (aj.push aE ao s2 _ s2.toks)) (H2.st.push _ s2.toks (adp _)) (λb o e=>Heap.get?_push_of_some _ e) (fX _) ⟨0,Heap.get?_push_size _ rfl⟩ X1.live (fX _) Oa
    (λb o hb e=>(Zi.2 b hb).trans (Heap.get?_push_of_some _ e)) (adp _)
 obtain ⟨_,_,_,_,_,qs,_⟩:=d.2
 have fin:=Qz (cI:=cI) (px:=px) (pos:=pos) eo ci gK hm Ve d.1 d.2 hG (Rr:=Rr _ _) λai s' c=>hR _ _ ao s1 ai s' X0 H1 c
 rw [gj]
 exact codeAny_compStart_list fin (fd.self 0 _ _ _ qs fin)
theorem TM {D Cc:Addr} {vs:List V} {h':Heap} (H1:aR U w J fl aa nm ao ae L s1) (X0:aj aE Z s ao s1) (d:n7 U w J fl ao s1 D Cc vs az ai s') (a9:Heap.SameBut Cc s'.heap h'):
  aI U w J aE Z s (.ok (.ref az.length) (az++[.list vs])) (.ref D) {s' with heap:=h'}:=by
 obtain ⟨ws,hD,rs⟩:=d.acc
 obtain ⟨m,cv⟩:=d.ns
 obtain ⟨dn,mK⟩:=hD
 obtain ⟨Xa,Sa,Va⟩:=sL H1.st d.ext d.st d.vw d.KZ (λb o hb e=>(a9.2 b hb).trans e) (CU cv) s'.toks (adp _)
 have N2:h'.get? D=some {cls:= .type "list",data:= .seq ws dn}:=(a9.2 _ d.ne).trans mK
 have nb:J.get? D=none:=jG H1.st.stays d.newD
 have v:VK J ai h' (ai++[(D,D)]) h':=⟨List.prefix_append _ _,λb o e _ _ _=>⟨o.slots,e⟩,Sa.stays,Sa.sr.off,Sa.sr.cells⟩
 refine aI.after X0 ⟨ai++[(D,D)],?_,Sa.sr.add (p:=(D,D)) v ⟨rfl,d.len,ws,⟨dn,N2⟩,aD.mono v (aD.mono Va rs)⟩ (λb o _ e=>e) d.yy d.yy nb nb,?_⟩
 ·refine ⟨Xa.pre.trans (List.prefix_append _ _),Xa.keep,Xa.live,λn p hn e=>?_,Xa.gens,Xa.drawn,Xa.os⟩
  by_cases aK:n<ai.length
  ·rw [List.getElem?_append_left aK] at e
   exact Xa.new n p hn e
  ·rw [List.getElem?_append_right (Nat.le_of_not_lt aK)] at e
   cases hk:n-ai.length with
   |zero=>rw [hk] at e;cases e;exact ⟨d.newD,d.newD⟩
   |succ j=>rw [hk] at e;simp at e
 ·simp only [RV]
  exact ⟨(D,D),by rw [←Sa.sr.len];simp,rfl⟩
theorem QL {aG:Scope} {x:Str} {caps:List Nat} (ci:o7 aa nm aG x caps) (eo:bJ gl bl aa):∃cl,closureFor aG aa=pure cl∧(∀x∈aG.names,x.2= .free→cl.lookup x.1=aa.cells.lookup x.1):=
 abd λy hy hf=>eo.cells _ (ci.outer _ (vA hy hf))
theorem abY {o:Option (List V×ag)} {out:Out V} (h:m5 o=out) (hn:out≠ .stuck):∃vs az,o=some (vs,az)∧out= .ok (.ref az.length) (az++[.list vs]):=by
 cases o with
 |none=>exact absurd h.symm hn
 |some p=>exact ⟨p.1,p.2,rfl,h.symm⟩
theorem ZG {item:Nat→ag→Option (Option V)} {f:V→ag→Out V} {jq i:Nat} {acc:List V} {r:List V×ag} (h:fN item f jq i acc O=some r):∃o,item i O=some o:=by
 cases jq with
 |zero=>cases h
 |succ k=>
  exact lO h λo ho _=>⟨o,ho⟩
theorem Lz {iter:E} {cI:PySem.Expr} (h:aF aa.scope nm iter cI=true) (y:Value):foldedSetIterable cI aa y=pure y:=K6 (zm h)
noncomputable def ym (U:Program) (w:World) (J:Heap) (A:Around) (fl:List Env) (aa:Env) (nm:List Str) (L:Locals) (Z:aH) (s:Shared) (C:Calls) (fu:Nat) (bc:E) (caps:List Nat) (o:Out V) (E0:Value→Shared→Prop) (cI:PySem.Expr):Prop:=
 ∀Q:Value→Shared→Prop,(∀item ae vs az it s2,fN item (λv O=>ev C fu bc (some v::caps.map L.get) O) fu 0 [] ae=some (vs,az)→o= .ok (.ref az.length) (az++[.list vs])→sv U w J A fl aa nm L Z s item ae it s2→Q it s2)→
  wpAny (model U w) A (eval cI aa) (λx bN=>wpAny (model U w) A (pyIter x) Q E0 bN) E0 s
theorem zZ {o:Out V} {bc:E} {caps:List Nat} {pe cI:PySem.Expr} {x:Str} {px pos pos':Pos} {aG:Scope} {use:Option (Value→Sem Unit)} {Q:Value→Shared→Prop} (eo:bJ gl bl aa) (Dd:∀y,foldedSetIterable cI aa y=pure y) (ib:mf aa.scope nm aG x caps=true)
    (hm:aF (hV aG) (x::freeNames aG) bc pe=true) (Ve:f7 U w J gl bl fl A C fu bc) (gj:ym U w J A fl aa nm L Z s C fu bc caps o E0 cI)
    (hH:∀D Cc ao s1 ae ai s' vs az,o= .ok (.ref az.length) (az++[.list vs])→aj aE Z s ao s1→aR U w J fl aa nm ao ae L s1→n7 U w J fl ao s1 D Cc vs az ai s'→compPost (model U w) A E0 use Q (.ref D) Cc (.ok .next) s'):
  wpAny (model U w) A (comprehension (.ListComp pe [⟨.Name x px,cI,[],0⟩] aG pos) aG aa pos' (newList []) false (eval cI aa) use) Q E0 s:=
 have ci:=Vy ib
 match QL ci eo with
 |⟨cl,gK,Uj⟩=>wpAny_comprehension_free (g:=⟨.Name x px,cI,[],0⟩) (gs:=[]) rfl Dd gK ci.kind ci.loc (gj _ λitem ae vs az it s2 hG ho bg=>U7 eo bg ci Uj hm Ve hG λD Cc ao s1 ai s' X0 H1 d=>hH D Cc ao s1 ae ai s' vs az ho X0 H1 d)
theorem K7 {bc iter:E} {caps:List Nat} {cI:PySem.Expr} {o:Out V} (R:bI n 10 fl A) (eo:bJ gl bl aa) (H:aR U w J fl aa nm Z O L s) (lr:aF aa.scope nm iter cI=true) (Vi:f7 U w J gl bl fl A C fu iter) (h:ev C fu (.comp bc caps iter) L O=o) (hn:o≠ .stuck)
    (pV:∀e af,o= .exc e af→∀v s',bh U w J (· ∈bb fl) Z s (.exc e af:Out V) v s'→s.toks≤s'.toks→E0 v s'):ym U w J A fl aa nm L Z s C fu bc caps o E0 cI:=λQ hQ=>by
 replace h:((ev C fu iter L O).bind λx O=>x.dY .stuck λn=>m5 (fN (j4 n) (λv O=>ev C fu bc (some v::caps.map L.get) O) fu 0 [] O))=o:=h
 refine Jk R eo H lr Vi (λq=>?_) (λe af q v s' x t=>?_) (λv ae q=>?_) λm ae q it s2 bg=>?_
 ·rw [q] at h;exact hn h.symm
 ·rw [q] at h;exact pV e af h.symm v s' x t
 ·rw [q] at h
  exact GH (P:=λv=>∃m vs,v= .ref m∧ae[m]?=some (.list vs)) h hn λm h=>fo h hn λp hp _=>match ZG hp with
   |⟨o,ho⟩=>rU ho sn λc hc e=>xr (P:=λc=>ae[m]?=some c→_) e (λus _ hc=>⟨m,us,rfl,hc⟩) (λe=>absurd e.symm sn) hc
 ·rw [q] at h
  exact fo (show m5 (fN (j4 m) (λv O=>ev C fu bc (some v::caps.map L.get) O) fu 0 [] ae)=o from h) hn λp hp h=>hQ _ _ _ _ _ _ hp h.symm bg
theorem Ki {bc iter:E} {caps:List Nat} {pr pc:Pos} {cI:PySem.Expr} {o:Out V} (B:cx U w J gl bl K) (R:bI n 10 fl A) (eo:bJ gl bl aa) (H:aR U w J fl aa nm Z O L s) (hg:d6 aa.scope (Str.ofString "range")=true) (lr:aF aa.scope nm iter cI=true) (Vi:f7 U w J gl bl fl A C fu iter) (h:ev C fu (.iS bc caps iter) L O=o) (hn:o≠ .stuck)
    (pV:∀e af,o= .exc e af→∀v s',bh U w J (· ∈bb fl) Z s (.exc e af:Out V) v s'→s.toks≤s'.toks→E0 v s'):ym U w J A fl aa nm L Z s C fu bc caps o E0 (.Call (.Name (Str.ofString "range") pr) [cI] [] pc):=λQ hQ=>by
 replace h:((ev C fu iter L O).bind λx O=>x.cA .stuck λk=>if smallInt k=true then m5 (fN (f9 k) (λv O=>ev C fu bc (some v::caps.map L.get) O) fu 0 [] O) else .stuck)=o:=h
 refine Jr B R eo H hg lr Vi (λq=>?_) (λe af q v s' x t=>?_) (λv ae q=>?_) λk ae q it s2 bg=>?_
 ·rw [q] at h;exact hn h.symm
 ·rw [q] at h;exact pV e af h.symm v s' x t
 ·rw [q] at h
  exact G3 (P:=λv=>∃k,v= .int k∧smallInt k=true) h hn λk h=>da h hn λhs _=>⟨k,rfl,hs⟩
 ·rw [q] at h
  exact da (show (if smallInt k=true then m5 (fN (f9 k) (λv O=>ev C fu bc (some v::caps.map L.get) O) fu 0 [] ae) else .stuck)=o from h) hn λ_ h=>fo h hn λp hp h=>hQ _ _ _ _ _ _ hp h.symm bg
theorem JX {o:Out V} {bc:E} {caps:List Nat} {pe cI:PySem.Expr} {x:Str} {px pos:Pos} {aG:Scope} (eo:bJ gl bl aa) (Dd:∀y,foldedSetIterable cI aa y=pure y) (ib:mf aa.scope nm aG x caps=true) (hm:aF (hV aG) (x::freeNames aG) bc pe=true) (Ve:f7 U w J gl bl fl A C fu bc)
    (gj:ym U w J A fl aa nm L Z s C fu bc caps o (bh U w J (· ∈bb fl) Z s o) cI):wpAny (model U w) A (eval (.ListComp pe [⟨.Name x px,cI,[],0⟩] aG pos) aa) (aI U w J aE Z s o) (bh U w J (· ∈bb fl) Z s o) s:=
 zZ (pos':=cI.pos) (use:=none) eo Dd ib hm Ve gj λD Cc ao s1 ae ai s' vs az ho X0 H1 d=>match d.ns with
  |⟨m',U5⟩=>⟨m',U5,λh' a9=>ho▸TM H1 X0 d a9⟩
end
section
variable {U:Program} {w:World} {J:Heap} {gl bl:Addr} {K:Frag} {fl:List Env} {Z ai aP:aH} {O af:ag} {s s' s0:Shared} {A:Around} {E0:Value→Shared→Prop} {aa:Env} {nm:List Str} {L:Locals}
variable {C:Calls} {n fu:Nat}
theorem step {e:E} {x:PySem.Expr} {β:Type} {f:V→ag→Out β} {out:Out β} {Q:Value→Shared→Prop} (V:f7 U w J gl bl fl A C fu e) (hm:aF aa.scope nm e x=true) (eo:bJ gl bl aa) (H:aR U w J fl aa nm Z O L s) (X:aj aE aP s0 Z s)
    (h:(ev C fu e L O).bind f=out) (hn:out≠ .stuck) (k:∀v ae va ao s1,f v ae=out→aj aE aP s0 ao s1→VK J Z s.heap ao s1.heap→aR U w J fl aa nm ao ae L s1→RV J s1.heap ao v va→Q va s1):
  wpAny (model U w) A (eval x aa) Q (bh U w J (· ∈bb fl) aP s0 out) s:=
 go X h hn (λei=>V hm eo H rfl ei) (λ_ _ _ _ x=>x) λv ae _ h' va s1 p t=>match p with
  |⟨ao,X1,R1,r1⟩=>k v ae va ao s1 h' (X.trans X1) (X1.fe H.st) (H.ext X1 R1 t) r1
theorem vq {es:Es} {xs:List PySem.Expr} {pos:Pos} {β:Type} {f:List V→ag→Out β} {out:Out β} {Q:List Value→Shared→Prop} (V:rq U w J gl bl fl A C fu es) (hm:cE aa.scope nm es xs=true) (eo:bJ gl bl aa) (H:aR U w J fl aa nm Z O L s) (X:aj aE aP s0 Z s)
    (h:(bx C fu es L O).bind f=out) (hn:out≠ .stuck) (k:∀v ae va ao s1,bx C fu es L O= .ok v ae→f v ae=out→aj aE aP s0 ao s1→VK J Z s.heap ao s1.heap→aR U w J fl aa nm ao ae L s1→aD J s1.heap ao v va→Q va s1):
  wpAny (model U w) A (spliced (backTo pos (starEach xs aa))) Q (bh U w J (· ∈bb fl) aP s0 out) s:=
 go (P:=λo ws s'=>yY U w J Z s o ws s') X h hn (λei=>V hm eo H rfl ei) (λ_ _ _ _ x=>x) λv ae e h' va s1 p t=>match p with
  |⟨ao,X1,R1,r1⟩=>k v ae va ao s1 e h' (X.trans X1) (X1.fe H.st) (H.ext X1 R1 t) r1
theorem JI {h:Heap} {b:Bool} {x:V} (r:RV J h Z x (.bool b)):x= .bool b:=match x,r with
 | .bool _,r=>by cases (show Value.bool _=Value.bool _ from r);rfl
 | .none,r=>nomatch (show Value.bool b=_ from r)
 | .int _,⟨_,r⟩=>nomatch r
 | .str _,⟨⟨_,r⟩,_⟩=>nomatch r
 | .tup _,⟨_,_,r,_⟩=>nomatch r
 | .ref _,⟨_,_,r⟩=>nomatch r
 | .frozen _,⟨_,_,_,r,_⟩=>nomatch r
theorem stepT {e:E} {x:PySem.Expr} {β:Type} {f:Bool→ag→Out β} {out:Out β} {Q:Bool→Shared→Prop} (T:qS U w J gl bl fl A C fu e) (hm:aF aa.scope nm e x=true) (eo:bJ gl bl aa) (H:aR U w J fl aa nm Z O L s) (X:aj aE aP s0 Z s)
    (h:((ev C fu e L O).bind λv O=>v.iE .stuck λb=>f b O)=out) (hn:out≠ .stuck) (k:∀b ae ao s1,f b ae=out→aj aE aP s0 ao s1→aR U w J fl aa nm ao ae L s1→Q b s1):
  wpAny (model U w) A (isTrue x aa (eval x aa)) Q (bh U w J (· ∈bb fl) aP s0 out) s:=
 go (P:=λo b s'=>aI U w J aE Z s o (.bool b) s') X h hn (λei=>T hm eo H rfl ei λv af q=>by
   rw [q] at h
   exact Mk (P:=λv=>∃b,v= .bool b) h hn λb _=>⟨b,rfl⟩) (λ_ _ _ _ x=>x) λv ae _ h' b s1 p t=>match p with
  |⟨ao,X1,R1,r1⟩=>k b ae ao s1 (by rw [JI r1] at h';exact h') (X.trans X1) (H.ext X1 R1 t)
theorem Ms {e:E} {x:PySem.Expr} {out:Out V} (V:f7 U w J gl bl fl A C fu e) (hm:aF aa.scope nm e x=true) (eo:bJ gl bl aa) (H:aR U w J fl aa nm Z O L s) (X:aj aE aP s0 Z s) (h:ev C fu e L O=out) (hn:out≠ .stuck):
  wpAny (model U w) A (eval x aa) (aI U w J aE aP s0 out) (bh U w J (· ∈bb fl) aP s0 out) s:=
 wpAny_mono (V hm eo H h hn) (λ_ _ p=>aI.after X p) λ_ _ p=>bh.after X p λ_ _ q=>q
theorem HH {e:E} {x:PySem.Expr} {out:Out V} (T:qS U w J gl bl fl A C fu e) (hm:aF aa.scope nm e x=true) (eo:bJ gl bl aa) (H:aR U w J fl aa nm Z O L s) (X:aj aE aP s0 Z s) (h:ev C fu e L O=out) (hn:out≠ .stuck) (hb:∀v af,out= .ok v af→∃b,v= .bool b):
  wpAny (model U w) A (isTrue x aa (eval x aa)) (λb s'=>aI U w J aE aP s0 out (.bool b) s') (bh U w J (· ∈bb fl) aP s0 out) s:=
 wpAny_mono (T hm eo H h hn hb) (λ_ _ p=>aI.after X p) λ_ _ p=>bh.after X p λ_ _ q=>q
theorem bI.cmp (R:bI n 10 fl A):A.units+64<cLine:=by have:=R.units;omega
theorem NG {X:Addr→Prop} {t:Sem Value} {out:Out V} {F:Addr→Prop} (hb:∀v af,out= .ok v af→∃b,v= .bool b)
    (h:wpAny (model U w) A t (aI U w J X Z s out) (bh U w J F Z s out) s):
  wpAny (model U w) A t (λv bN=>wpAny (model U w) A (truthy v) (λb s'=>aI U w J X Z s out (.bool b) s') (bh U w J F Z s out) bN) (bh U w J F Z s out) s:=
 wpAny_mono h (λv bN p=>match out,hb,p with
  | .ok x af,hb,⟨ai,e,r,rv⟩=>match x,hb x af rfl,rv with
   |_,⟨b,rfl⟩,rv=>uy (P:=λv=>wpAny (model U w) A (truthy v) (λb' s'=>aI U w J X Z s (.ok (.bool b) af) (.bool b') s') _ bN) rv (wpAny_truthy_bool ⟨ai,e,r,iy b⟩)) λ_ _ x=>x
theorem Xs (c:cj):nL c<39:=by cases c<;>decide
theorem Oz (B:cx U w J gl bl K) (CO:iT U w J n C) (R:bI n 10 fl A) (S:St U w J fl Z O s) {c:cj} {vs:List V} {ws:List Value} {out:Out V} (h:oU C c O vs=out) (hn:out≠ .stuck) (r:aD J s.heap Z vs ws):
  wpAny (model U w) A (call (.ref (cB c)) ws []) (aI U w J aE Z s out) (bh U w J (· ∈bb fl) Z s out) s:=by
 have X0:K.In s.heap:=B.kT.keeps λb o e=>S.stays b o e
 obtain ⟨hh,g,d,t,os⟩:=s
 refine wpAny_call (make_core (makes_of X0 (B.kf.Kw c)) (looks_findIn X0 (B.kf.init c)) (λself=>bind_fn X0 self (B.kf.isFn _ (Xs c))) (.inl rfl) ?_)
 have k:∀b o,hh.get? b=some o→((hh.push emptyDict).push (instObj (cB c) hh.objs.size)).get? b=some o:=λb o e=>Heap.get?_push_of_some _ (Heap.get?_push_of_some _ e)
 have e1:hh.get? (hh.objs.size+1)=none:=by
  cases q:hh.get? (hh.objs.size+1) with
  |none=>rfl
  |some o=>exact absurd (Nat.lt_of_succ_lt (Heap.lt_size q)) (Nat.lt_irrefl _)
 have hx:((hh.push emptyDict).push (instObj (cB c) hh.objs.size)).get? (hh.objs.size+1)=some (instObj (cB c) hh.objs.size):=by heap_get
 have hd:((hh.push emptyDict).push (instObj (cB c) hh.objs.size)).get? hh.objs.size=some (dictOf [] 0):=Heap.get?_push_of_some _ (Heap.get?_push_size _ rfl)
 generalize (hh.push emptyDict).push (instObj (cB c) hh.objs.size)=h1 at*
 obtain ⟨ao,X1,R1,r1⟩:=Lm (s:=⟨hh,g,d,t,os⟩) (p:=(hh.objs.size+1,hh.objs.size)) S k e1 (fX hh) (c:= .inst c []) t λv=>⟨hx,Nat.zero_le _,List.nodup_nil,[],0,hd,rfl⟩
 refine EY h hn λv az hC h=>?_
 have R':bI n 0 fl (A.under (.builtin "type.__call__" ⟨.ref (cB c)::ws,[]⟩)):=⟨R.hand,R.frames,by have:=R.depth;show A.depth+1+12*n+0+10≤_;omega,by have:=R.units;show A.units+1+40*n+0+200≤_;omega⟩
 refine codeAny_mono (CO (nL c) _ _ _ hC nofun fl _ ao _ (.ref (hh.objs.size+1)::ws) R' (S.ext X1 R1 (adp _)) (aD.cons r1 (aD.mono (X1.fe S) r))) λq s' z=>?_
 match q,z with
 | .ok (.ret a),⟨eM,X2,R2,r2⟩=>
  refine Dy (P:=λ_ a=>a=Value.none∧aI U w J aE Z ⟨hh,g,d,t,os⟩ out (.ref (hh.objs.size+1)) s') h hn r2 λh=>⟨rfl,h▸⟨eM,X1.trans X2,R2,?_⟩⟩
  obtain ⟨p,hp,e2⟩:=r1
  exact ⟨p,lp X2.pre hp,e2⟩
theorem Y0 {s0 s1:Shared} {aP ao:aH} {gz ae:ag} {o:Obj} {k0:Nat} (S0:St U w J fl aP gz s0) (E1:aj aE aP {s0 with heap:=s0.heap.push o,toks:=k0} ao s1) (S1:St U w J fl ao ae s1) (ho:∀vs n,o.data≠ .seq vs n) (hf:o.isFreed=false)
  {h':Heap} (a9:Heap.SameBut s0.heap.objs.size s1.heap h') (hl:(h'.get? s0.heap.objs.size).isSome) {c:Cell} (k:Nat)
  (hc:VK J ao s1.heap (ao++[(s0.heap.objs.size,s0.heap.objs.size)]) h'→RC U w J h' (ao++[(s0.heap.objs.size,s0.heap.objs.size)]) (s0.heap.objs.size,s0.heap.objs.size) c):
  aI U w J aE aP s0 (.ok (.ref ae.length) (ae++[c])) (.ref s0.heap.objs.size) {s1 with heap:=h',toks:=k}:=by
 have eE:(s0.heap.push o).get? s0.heap.objs.size=some o:=Heap.get?_push_size _ hf
 have xA:¬bL aP s0.heap.objs.size:=λq=>by have:=S0.sr.live q;rw [fX] at this;cases this
 have yK:¬bL ao s0.heap.objs.size:=λq=>xA (gT E1 (by show ((s0.heap.push o).get? _).isSome;rw [eE];rfl) q)
 have dp:s1.heap.get? s0.heap.objs.size=some o:=E1.keep _ _ eE xA λx=>x
 have hb:J.get? s0.heap.objs.size=none:=jG S0.stays (fX _)
 have v:VK J ao s1.heap (ao++[(s0.heap.objs.size,s0.heap.objs.size)]) h':=by
  refine ⟨List.prefix_append _ _,λb o' e nf ⟨vs,n,q⟩ _=>⟨o'.slots,(a9.2 b λz=>?_).trans e⟩,λb o' e=>(a9.2 b λz=>?_).trans (S1.stays b o' e),S1.sr.off,S1.sr.cells⟩
  ·subst z;rw [dp] at e;cases e;exact ho vs n q
  ·subst z;rw [hb] at e;cases e
 refine ⟨ao++[(s0.heap.objs.size,s0.heap.objs.size)],?_,S1.sr.add v (hc v) (λb o' q e=>(a9.2 b λz=>yK (z▸q)).trans e) yK yK hb hb,?_⟩
 ·refine ⟨E1.pre.trans (List.prefix_append _ _),λb o' e nf _=>(a9.2 b λz=>?_).trans (E1.keep b o' (Heap.get?_push_of_some _ e) nf λx=>x),λb e=>?_,λn p hn e=>?_,E1.gens,E1.drawn,E1.os⟩
  ·have:=Heap.lt_size e
   rw [z] at this
   exact Nat.lt_irrefl _ this
  ·obtain ⟨o',dZ⟩:=Option.isSome_iff_exists.mp e
   have:(s1.heap.get? b).isSome:=E1.live b (by show ((s0.heap.push o).get? b).isSome;rw [Heap.get?_push_of_some _ dZ];rfl)
   show (h'.get? b).isSome
   rw [a9.2 b λz=>absurd (Heap.lt_size dZ) (by rw [z];exact Nat.lt_irrefl _)]
   exact this
  ·by_cases aK:n<ao.length
   ·rw [List.getElem?_append_left aK] at e
    obtain ⟨a1,a2⟩:=E1.new n p hn e
    have live:∀b,(s0.heap.get? b).isSome→((s0.heap.push o).get? b).isSome:=λb q=>by
     obtain ⟨o',dZ⟩:=Option.isSome_iff_exists.mp q
     rw [Heap.get?_push_of_some _ dZ];rfl
    exact ⟨gP live a1,gP live a2⟩
   ·rw [List.getElem?_append_right (Nat.le_of_not_lt aK)] at e
    cases hk:n-ao.length with
    |zero=>rw [hk] at e;cases e;exact ⟨fX _,fX _⟩
    |succ j=>rw [hk] at e;simp at e
 ·exact ⟨(s0.heap.objs.size,s0.heap.objs.size),by rw [←S1.sr.len];simp,rfl⟩
noncomputable def fq (U:Program) (w:World) (J:Heap) (gl bl:Addr) (fl:List Env) (A:Around) (C:Calls) (fu:Nat):Es→Prop
 | .nil=>True
 | .cons e es=>(f7 U w J gl bl fl A C fu e∧qS U w J gl bl fl A C fu e)∧fq U w J gl bl fl A C fu es
theorem SD:rq U w J gl bl fl A C fu .nil:=λ{aa nm xs pos L O out Z s} hm eo H h hn=>by
  rw [sI hm]
  exact h▸spliced_none ⟨Z,aj.refl _ _ _,H.st.sr,aD.nil⟩
theorem Qh {e:E} {es:Es} (V:f7 U w J gl bl fl A C fu e) (Vs:rq U w J gl bl fl A C fu es):rq U w J gl bl fl A C fu (.cons e es):=λ{aa nm xs pos L O out Z s} hm eo H h hn=>by
  refine qb (Ps:=λxs=>wpAny (model U w) A (spliced (backTo pos (starEach xs aa))) _ _ s) hm λy ys h1 h2=>?_
  refine spliced_more (step V h1 eo H (aj.refl _ _ _) h hn λv ae va ao s1 h X1 _ H1 r1=>?_) (uv h1 ys aa)
  exact vq Vs h2 eo H1 X1 h hn λvs az ws eM s2 _ h X2 v2 H2 r2=>h▸⟨eM,X2,H2.st.sr,aD.cons (RV.mono v2 r1) r2⟩
theorem lM:∀{es:Es},fq U w J gl bl fl A C fu es→rq U w J gl bl fl A C fu es
 | .nil,_=>SD
 | .cons e es,⟨⟨V,_⟩,Vs⟩=>Qh V (lM Vs)
theorem Y4 (t:Bool):tm U w J gl bl fl A C fu (boolOf t) (eg C fu t) .nil:=λ_ _ _ h hn=>absurd h.symm hn
theorem aaL {e:E} (t:Bool) (V:f7 U w J gl bl fl A C fu e) (T:qS U w J gl bl fl A C fu e):tm U w J gl bl fl A C fu (boolOf t) (eg C fu t) (.cons e .nil):=λ{aa nm xs pos L O out Z s} hm eo H h hn=>by
  refine qb (Ps:=λxs=>wpAny (model U w) A (boolOp pos (boolOf t) (evalEach xs aa)) _ _ s∧wpAny (model U w) A (allTrue (boolOf t) xs aa) _ _ s) hm λy ys h1 h2=>?_
  rw [sI h2]
  refine ⟨step V h1 eo H (aj.refl _ _ _) h hn λv ae va ao s1 h X1 _ H1 r1=>CM h hn r1 λb h=>h▸⟨ao,X1,H1.st.sr,iy b⟩,?_⟩
  have aQ:=stepT (f:=λb O=>(Out.ok (Mine.V.bool b) O:Out Mine.V)) (Q:=λb s1=>aI U w J aE Z s out (.bool b) s1) T h1 eo H (aj.refl _ _ _) h hn λb ae ao s1 h X1 H1=>h▸⟨ao,X1,H1.st.sr,iy b⟩
  cases t
  ·refine wpAny_allTrue_Or_cons (wpAny_mono aQ (λb s1 p=>?_) λ_ _ x=>x)
   cases b
   ·exact wpAny_allTrue_Or_nil p
   ·exact p
  ·refine wpAny_allTrue_And_cons (wpAny_mono aQ (λb s1 p=>?_) λ_ _ x=>x)
   cases b
   ·exact p
   ·exact wpAny_allTrue_And_nil p
theorem TR {e e':E} {es:Es} (t:Bool) (V:f7 U w J gl bl fl A C fu e) (T:qS U w J gl bl fl A C fu e) (ih:tm U w J gl bl fl A C fu (boolOf t) (eg C fu t) (.cons e' es)):tm U w J gl bl fl A C fu (boolOf t) (eg C fu t) (.cons e (.cons e' es)):=λ{aa nm xs pos L O out Z s} hm eo H h hn=>by
  refine qb (Ps:=λxs=>wpAny (model U w) A (boolOp pos (boolOf t) (evalEach xs aa)) _ _ s∧wpAny (model U w) A (allTrue (boolOf t) xs aa) _ _ s) hm λy ys h1 h2=>?_
  refine qb (Ps:=λys=>cE aa.scope nm (.cons e' es) ys=true→wpAny (model U w) A (boolOp pos (boolOf t) (evalEach (y::ys) aa)) _ _ s∧wpAny (model U w) A (allTrue (boolOf t) (y::ys) aa) _ _ s) h2 (λz zs _ _ h2=>?_) h2
  constructor
  ·show wpAny (model U w) A (do
    let v←eval y aa
    standAt pos
    let b←holding [v] (truthy v)
    match boolOf t,b with
    | .And,false | .Or,true=>pure v
    |_,_=>boolOp pos (boolOf t) (evalEach (z::zs) aa)) _ _ s
   refine wpAny_bind (step V h1 eo H (aj.refl _ _ _) h hn λv ae va ao s1 h X1 _ H1 r1=>CM h hn r1 λb h=>?_)
   refine wpAny_bind (wpAny_standAt (wpAny_bind (wpAny_holding (wpAny_truthy_bool ?_))))
   cases t<;>cases b
   ·exact wpAny_mono (ih h2 eo H1 h hn).1 (λ_ _ p=>aI.after X1 p) λ_ _ p=>bh.after X1 p λ_ _ q=>q
   ·exact h▸wpAny_pure ⟨ao,X1,H1.st.sr,iy _⟩
   ·exact h▸wpAny_pure ⟨ao,X1,H1.st.sr,iy _⟩
   ·exact wpAny_mono (ih h2 eo H1 h hn).1 (λ_ _ p=>aI.after X1 p) λ_ _ p=>bh.after X1 p λ_ _ q=>q
  ·have more:∀ae ao s1,eg C fu t (.cons e' es) L ae=out→aj aE Z s ao s1→aR U w J fl aa nm ao ae L s1→wpAny (model U w) A (allTrue (boolOf t) (z::zs) aa) (λb s'=>aI U w J aE Z s out (.bool b) s') (bh U w J (· ∈bb fl) Z s out) s1:=
        λae ao s1 h X1 H1=>wpAny_mono (ih (pos:=pos) h2 eo H1 h hn).2 (λ_ _ p=>aI.after X1 p) λ_ _ p=>bh.after X1 p λ_ _ q=>q
   cases t
   ·refine wpAny_allTrue_Or_cons (stepT T h1 eo H (aj.refl _ _ _) h hn λb ae ao s1 h X1 H1=>?_)
    cases b
    ·exact more ae ao s1 h X1 H1
    ·exact h▸⟨ao,X1,H1.st.sr,iy _⟩
   ·refine wpAny_allTrue_And_cons (stepT T h1 eo H (aj.refl _ _ _) h hn λb ae ao s1 h X1 H1=>?_)
    cases b
    ·exact h▸⟨ao,X1,H1.st.sr,iy _⟩
    ·exact more ae ao s1 h X1 H1
theorem uo (t:Bool):∀{es:Es},fq U w J gl bl fl A C fu es→tm U w J gl bl fl A C fu (boolOf t) (eg C fu t) es
 | .nil,_=>Y4 t
 | .cons e .nil,⟨⟨V,T⟩,_⟩=>aaL t V T
 | .cons e (.cons e' es),⟨⟨V,T⟩,Vs⟩=>TR t V T (uo t Vs)
inductive Pairs (U:Program) (w:World) (J:Heap) (Z:aH) (s:Shared) (ks:List (List Nat)) (out:Out (List V)) (ps:List (Value×Value)) (s':Shared):Prop where
 |mk (vs:List V) (af:ag) (ai:aH) (cL:List (Str×Value)) (ho:out= .ok vs af) (X:aj aE Z s ai s') (R:SR U w J s'.heap ai af) (hc:Carries (PySem.strKind U w) ps cL) (rd:bo J s'.heap ai (ks.zip vs) cL) (hl:vs.length=ks.length) (hk:cL.map (·.1)=ks.map mk):Pairs U w J Z s ks out ps s'
theorem I0 {ks:List (List Nat)} {e:aX} {ps:List (Value×Value)} (p:Pairs U w J Z s ks (.exc e O) ps s'):False:=by obtain ⟨_,_,_,_,q,_⟩:=p;cases q
theorem M5 {pos:Pos}:∀{es:Es} {ks:List (List Nat)} {cw:List (Option PySem.Expr)} {xs:List PySem.Expr} {out:Out (List V)} {O:ag} {Z:aH} {s:Shared},fq U w J gl bl fl A C fu es→rF ks cw=true→cE aa.scope nm es xs=true→cw.length=xs.length→
  bJ gl bl aa→aR U w J fl aa nm Z O L s→bx C fu es L O=out→out≠ .stuck→
  wpAny (model U w) A (evalPairs (pairTrees cw xs aa pos)) (Pairs U w J Z s ks out) (bh U w J (· ∈bb fl) Z s out) s
 | .nil,ks,cw,xs,out,O,Z,s,av,hk,hm,hl,eo,H,h,hn=>by
  have e1:=sI hm
  subst e1
  have e2:=List.length_eq_zero_iff.mp hl
  subst e2
  match ks,hk with
  |[],_=>exact evalPairs_nil ⟨[],O,Z,[],h.symm,aj.refl _ _ _,H.st.sr,trivial,rfl,rfl,rfl⟩
 | .cons e es,ks,cw,xs,out,O,Z,s,⟨⟨v1,_⟩,v2⟩,hk,hm,hl,eo,H,h,hn=>by
  refine qb (Ps:=λxs=>cw.length=xs.length→wpAny (model U w) A (evalPairs (pairTrees cw xs aa pos)) (Pairs U w J Z s ks out) _ s) hm (λy ys h1 h2 hl=>?_) hl
  match ks,cw,hk,hl with
  |[],cw,hk,hl=>exact fR (P:=λcw=>cw.length=(y::ys).length→wpAny (model U w) A (evalPairs (pairTrees cw (y::ys) aa pos)) (Pairs U w J Z s [] out) _ s) hk (λ_ hl=>nomatch hl) hl
  |k::ks,ke::cw,hk,hl=>
   refine aN hk λBL vG=>o9 (P:=λke=>wpAny (model U w) A (evalPairs (pairTrees (ke::cw) (y::ys) aa pos)) (Pairs U w J Z s (k::ks) out) _ s) BL λke BL=>
    sT (P:=λke=>wpAny (model U w) A (evalPairs (pairTrees (some ke::cw) (y::ys) aa pos)) (Pairs U w J Z s (k::ks) out) _ s) BL λq1 q2=>evalPairs_cons (wpAny_Constant_str ?_)
   have H0:aR U w J fl aa nm Z O L {s with toks:=s.toks+1}:=H.ext (aj.toks aE Z s _) H.st.sr (Nat.le_succ _)
   refine wpAny_bind (step v1 h1 eo H0 (aj.toks aE Z s (s.toks+1)) h hn λv ae va ao s1 h X1 _ H1 r1=>wpAny_bind (wpAny_standAt (wpAny_pure ?_)))
   refine go (P:=λo ps s'=>Pairs U w J ao s1 ks o ps s') X1 h hn (λjw=>M5 v2 vG h2 (Nat.succ.inj hl) eo H1 rfl jw) (λ_ _ _ _ q=>I0 q) λvs az e2 h ps s2 q t2=>?_
   obtain ⟨kF,af,eM,cL,q0,X2,R2,q1,q2,q3,q4⟩:=q
   cases q0
   exact ⟨v::vs,az,eM,(_,va)::cL,h.symm,X1.trans X2,R2,⟨strKind_is U w _ _,rfl,q1⟩,⟨va,cL,rfl,RV.mono (X2.fe H1.st) r1,q2⟩,congrArg Nat.succ q3,congrArg (mk k:: ·) q4⟩
theorem FT:∀{l:List (List Nat)},l.Nodup→(l.map mk).Nodup
 |[],_=>List.nodup_nil
 |x::r,h=>by
  rw [List.map_cons,List.nodup_cons]
  obtain ⟨h1,h2⟩:=List.nodup_cons.mp h
  refine ⟨λq=>?_,FT h2⟩
  obtain ⟨y,hy,e⟩:=List.mem_map.mp q
  exact h1 (wg e▸hy)
theorem zX:∀{ks:List (List Nat)} {cw:List (Option PySem.Expr)},rF ks cw=true→cw.all (·.isSome)=true∧ks.length=cw.length
 |[],cw,h=>fR (P:=λcw=>cw.all (·.isSome)=true∧([]:List (List Nat)).length=cw.length) h λ_=>⟨rfl,rfl⟩
 |k::ks,ke::cw,h=>aN h λh1 h2=>o9 (P:=λke=>(ke::cw).all (·.isSome)=true∧(k::ks).length=(ke::cw).length) h1 λ_ _=>⟨(zX h2).1,congrArg Nat.succ (zX h2).2⟩
theorem abt {ks:List (List Nat)} {es:Es} {cw:List (Option PySem.Expr)} {vs:List PySem.Expr} {pos:Pos} {out:Out V} (eo:bJ gl bl aa) (H:aR U w J fl aa nm Z O L s) (hk:rF ks cw=true)
    (hm:cE aa.scope nm es vs=true) (hl:cw.length=vs.length) (hz:vs.length≤15) (Ls:fq U w J gl bl fl A C fu es) (h:ev C fu (.dict ks es) L O=out) (hn:out≠ .stuck):
  wpAny (model U w) A (eval (.Dict cw vs pos) aa) (aI U w J aE Z s out) (bh U w J (· ∈bb fl) Z s out) s:=by
 obtain ⟨ha,dw⟩:=zX hk
 replace h:((bx C fu es L O).bind λvs O=>if vs.length=ks.length∧ks.Nodup then Out.ok (V.ref O.length) (O++[Cell.dict (ks.zip vs)]) else Out.stuck)=out:=h
 match cw,ks,vs,es,hk,hm,hl,dw with
 |[],[],[],.nil,_,_,_,_=>
  refine da (show (if ([]:List V).length=([]:List (List Nat)).length∧([]:List (List Nat)).Nodup then Out.ok (V.ref O.length) (O++[Cell.dict (([]:List (List Nat)).zip ([]:List V))]) else Out.stuck)=out from h) hn λ_ h=>h▸?_
  exact wpAny_Dict_empty (K9 (c:= .dict []) H.st s.toks λh' e v=>by
   subst e
   exact ⟨rfl,Nat.zero_le _,[],Heap.DictOf.new _,rfl⟩)
 |[],[],[],.cons _ _,_,hm,_,_=>exact absurd hm Bool.false_ne_true
 |k0::cw,ks,vs,es,hk,hm,hl,dw=>
  have Xp:=aj.push aE Z s {cls:= .type "dict",data:= .dict #[]} s.toks
  have Hp:aR U w J fl aa nm Z O L {s with heap:=s.heap.push {cls:= .type "dict",data:= .dict #[]}}:=H.ext Xp (nP H.st _) (adp _)
  refine wpAny_Dict_walk (knd:=PySem.strKind U w) ha hl nofun (adj (hl▸hz) (by decide)) ?_
  refine go (P:=λo ps s'=>Pairs U w J Z _ ks o ps s') Xp h hn (λei=>M5 Ls hk hm hl eo Hp rfl ei) (λ_ _ _ _ q=>I0 q) λus ae e1 h ps s1 q t1=>da h hn λhc h=>?_
  obtain ⟨acs,ab0,ao,cL,q0,X1,R1,q1,q2,q3,q4⟩:=q
  cases q0
  have xA:¬bL Z s.heap.objs.size:=λq=>by have:=H.st.sr.live q;rw [fX] at this;cases this
  have dp:s1.heap.get? s.heap.objs.size=some {cls:= .type "dict",data:= .dict #[]}:=X1.keep _ _ (Heap.get?_push_size _ rfl) xA λx=>x
  have eE:=(Heap.DictOf.new (knd:=PySem.strKind U w) s.heap).at λo e=>by
   rw [Heap.get?_push_size _ rfl] at e;cases e;exact dp
  refine ⟨cL,q1,eE,λh' bO a9=>?_⟩
  rw [merged_nil_of_nodup cL (q4▸FT hc.2)] at bO
  refine h▸Y0 H.st X1 (Hp.st.ext X1 R1 t1) (λ_ _ q=>by cases q) rfl a9 ?_ _ λv=>⟨rfl,?_,cL,bO,bo.mono v q2⟩
  ·obtain ⟨o,_,_,ho,_⟩:=bO;rw [ho];rfl
  ·rw [List.length_zip,q3,Nat.min_self,dw,hl];exact adj hz (by decide)
theorem sQ (B:cx U w J gl bl K) {f:Value} (hk:∀h,K.In h→∃k,(k=Keeper.frame∨k=Keeper.machine∨k=Keeper.boundFrame)∧Looks (model U w) h (keeperOf f) k) {es:Es} {xs:List PySem.Expr} {pos:Pos} {first:List Value} {out:Out V} {g:List V→ag→Out V} (X0:aj aE aP s0 Z s)
    (eo:bJ gl bl aa) (H:aR U w J fl aa nm Z O L s) (hm:cE aa.scope nm es xs=true) (Ls:rq U w J gl bl fl A C fu es) (h:(bx C fu es L O).bind g=out) (hn:out≠ .stuck)
    (hc:∀vs af ai ws s',g vs af=out→VK J Z s.heap ai s'.heap→aR U w J fl aa nm ai af L s'→aD J s'.heap ai vs ws→wpAny (model U w) A (call f (first++ws) []) (aI U w J aE ai s' out) (bh U w J (· ∈bb fl) ai s' out) s'):
  wpAny (model U w) A (callWith pos f first (backTo pos (starEach xs aa)) []) (aI U w J aE aP s0 out) (bh U w J (· ∈bb fl) aP s0 out) s:=by
 have mP:=uI hm aa pos
 refine callWith_of (P:=λh=>K.In h) (by rw [mP];rfl) hk ?_
 have aQ:=vq (pos:=pos) (Q:=λws bN=>K.In bN.heap∧wpAny (model U w) A (call f (first++ws) []) (aI U w J aE aP s0 out) (bh U w J (· ∈bb fl) aP s0 out) bN) Ls hm eo H X0 h hn λvs af ws ai s' _ h X V H' r=>
  ⟨B.kT.keeps λb o e=>H'.st.stays b o e,wpAny_mono (hc vs af ai ws s' h V H' r) (λ_ _ p=>aI.after X p) λ_ _ p=>bh.after X p λ_ _ q=>q⟩
 match es,xs,hm,h,aQ with
 | .nil,xs,hm,h,aQ=>
  rw [sI hm]
  exact evalArgs_nil3 ⟨B.kT.keeps λb o e=>H.st.stays b o e,wpAny_mono (hc [] O Z [] s h ⟨List.prefix_refl _,λb o e _ _ _=>⟨o.slots,e⟩,H.st.stays,H.st.sr.off,H.st.sr.cells⟩ H aD.nil) (λ_ _ p=>aI.after X0 p) λ_ _ p=>bh.after X0 p λ_ _ q=>q⟩
 | .cons e es,x::xs,hm,h,aQ=>
  rw [uv (aN hm λh1 _=>h1)] at aQ ⊢
  exact evalArgs_plain aQ
theorem Dl {l:List String} {i:Nat} {x:Str} (h:gH l i x=true):i<l.length∧x=Str.ofString (l.getD i ""):=by
 unfold gH at h
 cases hs:l[i]? with
 |none=>rw [hs] at h;cases h
 |some s=>
  rw [hs] at h
  exact ⟨(List.getElem?_eq_some_iff.mp hs).1,aN h λh1 _=>by rw [eq_of_beq h1,List.getD_eq_getElem?_getD,hs];rfl⟩
theorem tw (B:cx U w J gl bl K) (S:St U w J fl Z O s):K.In s.heap:=B.kT.keeps λb o e=>S.stays b o e
theorem AD {y:PySem.Expr} {attr:Str} {pos:Pos} {Q:Value→Shared→Prop} (hb:kO y=true) (h:wpAny (model U w) A (eval y aa) (λo bN=>wpAny (model U w) A (getAttr o attr true) Q E0 bN) E0 s):
  wpAny (model U w) A (eval (.Attribute y attr pos) aa) Q E0 s:=by
 rw [show eval (.Attribute y attr pos) aa=(do
  let o←attributeBase y attr aa (eval y aa)
  standAt pos.atName
  let r←holding [o] (getAttr o attr true)
  letTemporaryGo y o r
  pure r) from rfl,EW hb]
 refine wpAny_bind (wpAny_mono h (λo bN fB=>?_) λ_ _ e=>e)
 refine wpAny_bind (wpAny_standAt (wpAny_bind (wpAny_holding (wpAny_mono fB (λr lP oa=>?_) λ_ _ e=>e))))
 exact wpAny_bind (wpAny_letTemporaryGo (wpAny_pure oa))
theorem Ae {sc:Scope}:∀{es:Es} {xs:List PySem.Expr} {L:Locals} {O af:ag} {vs:List V},cE sc nm es xs=true→bx C fu es L O= .ok vs af→vs.length=xs.length
 | .nil,xs,L,O,af,vs,hm,h=>by rw [sI hm];cases (show Out.ok [] O= .ok vs af from h);rfl
 | .cons e es,xs,L,O,af,vs,hm,h=>qb (Ps:=λxs=>vs.length=xs.length) hm λy ys h1 h2=>by
  rcases zH (show (ev C fu e L O).bind _=_ from h) nofun with ⟨v,ae,e1,e2⟩ |⟨_,_,_,e2⟩
  ·rcases zH e2 nofun with ⟨us,az,e3,e4⟩ |⟨_,_,_,e4⟩
   ·cases e4
    exact congrArg Nat.succ (Ae h2 e3)
   ·cases e4
  ·cases e2
theorem T8 {M:Model} {id:String} (h:Heap) (X:K.In h):∃k,(k=Keeper.frame∨k=Keeper.machine∨k=Keeper.boundFrame)∧Looks M h (keeperOf (.builtin id)) k:=⟨.machine,.inr (.inl rfl),Looks.of_pure rfl⟩
theorem UX {M:Model} (b:Bi) (h:Heap) (X:K.In h):∃k,(k=Keeper.frame∨k=Keeper.machine∨k=Keeper.boundFrame)∧Looks M h (keeperOf (AZ b)) k:=by
 cases b<;>exact ⟨.machine,.inr (.inl rfl),Looks.of_pure rfl⟩
theorem zU {c:cj} {m f:Nat} (h:gb c m=some f):f<39∧m<9:=by
 have h:((tL c)[m]?).join=some f:=h
 cases q:(tL c)[m]? with
 |none=>rw [q] at h;cases h
 |some o=>
  rw [q] at h
  have h:o=some f:=h
  subst h
  obtain ⟨a,b⟩:=List.getElem?_eq_some_iff.mp q
  have aQ:∀c:cj,(tL c).length≤9∧∀x∈tL c,x.getD 0<39:=λc=>by cases c<;>decide
  exact ⟨(aQ c).2 _ (List.mem_of_getElem? q),adk a (aQ c).1⟩
theorem aba (kf:KF K) {m:Nat} {c:cj} {h:Heap} {fs:List (Nat×V)} {es:List DictEntry} {dn:Nat} (hm:m<9) (fr:cD J h Z fs es):shadowIn (some (dictOf es dn)) (nM m)=some false:=by
 have:=Jj (kf.Na m hm) fr
 show (lookIn (nM m) (dictOf es dn)).map (·.isSome)=_
 rw [lookIn_dict,this];rfl
theorem aa4 (B:cx U w J gl bl K) (X:aj aE aP s0 Z s) (H:aR U w J fl aa nm Z O L s) {l:List Nat} {c d:Nat} {va:Value} {k1 p1 k2 p2 pl} {pos:Pos} (j6:c≠d) (r:RV J s.heap Z (.str l) va) (hl:l.length≤8000000):
  wpAny (model U w) A (getMethod va (Str.ofString "replace") pl) (λp lP=>wpAny (model U w) A (callWith pos p.1 p.2 (backTo pos (starEach [.Constant (.str ⟨#[c]⟩) k1 p1,.Constant (.str ⟨#[d]⟩) k2 p2] aa)) [])
      (aI U w J aE aP s0 (.ok (.str (l.map λx=>if x=c then d else x)) O)) E0 lP) E0 s:=by
 obtain ⟨⟨t,rfl⟩,_⟩:=r
 with_reducible refine GM.replace ?_
 refine callWith_builtin (by rfl) (evalArgs_plain ?_)
 refine spliced_more (wpAny_Constant_str (spliced_more (wpAny_Constant_str (spliced_none ?_)) rfl)) rfl
 have ht:=H.st.tok
 refine SC.replace (x:=mk l) (y:=mk [c]) (z:=mk [d]) (by show s.toks≠0;omega) (by show s.toks+1≠0;omega) (by show s.toks≠s.toks+1;omega) ?_ ?_ λt' k=>?_
 ·rw [beq_eq_false_iff_ne]
  exact λe=>j6 (by have:=wg e;injection this)
 ·rw [show (mk l).length=l.length from str_len l]
  show l.length+(l.length+1)*1≤16777216
  omega
 ·rw [Ye]
  exact aI.after X (aI.same H.st.sr (iu _ (by rw [List.length_map];unfold aq;omega)) _)
noncomputable def pC (J h:Heap) (Z:aH) (v:V) (b:Bool) (va:Value):Prop:=cond b (RV J h Z v va) (va= .none)
theorem pC.mono {h h':Heap} (k:VK J Z h ai h') {v:V} {b:Bool} {va:Value} (p:pC J h Z v b va):pC J h' ai v b va:=match b,p with
 |true,p=>RV.mono k p
 |false,p=>p
theorem EG {e:E} {l:Option PySem.Expr} {b:Bool} {f:V→ag→Out V} {out:Out V} {Q:Value→Shared→Prop} (V:f7 U w J gl bl fl A C fu e) (hm:uZ (aF aa.scope nm e) (qw e) l b=true) (eo:bJ gl bl aa) (H:aR U w J fl aa nm Z O L s) (X:aj aE aP s0 Z s)
    (h:(ev C fu e L O).bind f=out) (hn:out≠ .stuck) (k:∀v ae va ao s1,f v ae=out→aj aE aP s0 ao s1→VK J Z s.heap ao s1.heap→aR U w J fl aa nm ao ae L s1→pC J s1.heap ao v b va→Q va s1):
  wpAny (model U w) A (evalPart l aa) Q (bh U w J (· ∈bb fl) aP s0 out) s:=match l,b,hm,k with
 |some x,b,hm,k=>aN hm λh1 h2=>match b,h1,k with
  |true,_,k=>evalPart_some_step (step V h2 eo H X h hn k)
 |none,b,hm,k=>aN hm λh1 h2=>match b,h1,k with
  |false,_,k=>Yq (P:=λe=>(ev C fu e L O).bind f=out→wpAny (model U w) A (evalPart none aa) Q _ s) h2 (λh=>evalPart_none_step (k .none O .none Z s h X ⟨List.prefix_refl _,λb o e _ _ _=>⟨o.slots,e⟩,H.st.stays,H.st.sr.off,H.st.sr.cells⟩ H rfl)) h
inductive qk (v:Value) (k:Option Nat):Prop where
 |mk (i:Option (Int×Tok)) (e:v=partValue i) (hm:i.map (·.1)=k.map λ(n:Nat)=>(n:Int)) (hp:IsPart v (k.map λ(n:Nat)=>(n:Int))):qk v k
theorem JZ {h:Heap} {b:Bool} {y:V} {v:Value} {k:Option Nat} (hk:ky y b=some k) (r:pC J h Z y b v):qk v k:=match b,hk,r with
 |false,hk,r=>ct (P:=qk v) hk ((show v= .none from r)▸⟨none,rfl,rfl,.none⟩)
 |true,hk,r=>dB (P:=λ_ v=>qk v k) hk sn r λi t hk=>da hk sn λhi hk=>ct (P:=qk (.int i t)) hk (by
   have e:((i.toNat:Nat):Int)=i:=Int.toNat_of_nonneg hi.1
   exact ⟨some (i,t),rfl,by simp [e],by simp only [Option.map_some,e];exact IsPart.int i t⟩)
theorem Wx {α:Type} (l:List α) (lo hi:Option Nat):(ku l lo hi).length≤l.length:=by
 have a:∀(l:List α) k,(l.drop k).length≤l.length:=λl k=>by rw [List.length_drop];exact Nat.sub_le ..
 have b:∀(l:List α) k,(l.take k).length≤l.length:=λl k=>by rw [List.length_take];exact Nat.min_le_right ..
 cases lo<;>cases hi
 ·exact adp _
 ·exact b _ _
 ·exact a _ _
 ·exact adj (a _ _) (b _ _)
theorem II {value:PySem.Expr} {lo up st:Option PySem.Expr} {sp:Pos} {vl vu:Value} {us:List V} {k1 k2:Option Nat} {out:Out V} {a:Addr} {ws:Array Value} (H:aR U w J fl aa nm Z O L s) (X:aj aE aP s0 Z s) (hl:s.heap.IsList a ws) (rs:aD J s.heap Z us ws.toList) (hz:ws.size≤aq)
    (p1:qk vl k1) (p2:qk vu k2) (h:Ct O us k1 k2=out) (hn:out≠ .stuck) (mP:subscripted (.Slice lo up st sp) false (.ref a) (.ref s.heap.objs.size)=operate [.ref s.heap.objs.size,.ref a] (getItem (.ref a) (.ref s.heap.objs.size))):
  wpAny (model U w) A (subscriptTail value (.Slice lo up st sp) (.ref a) (.ref s.heap.objs.size)) (aI U w J aE aP s0 out) E0 {s with heap:=s.heap.push {cls:= .type "slice",data:= .fields #[vl,vu,.none]}}:=by
 match k1,h with
 |none,h=>
  refine fo h hn λk hk h=>?_
  subst hk
  have Xp:=aj.push aE Z s {cls:= .type "slice",data:= .fields #[vl,vu,.none]} s.toks
  have Hp:aR U w J fl aa nm Z O L {s with heap:=s.heap.push {cls:= .type "slice",data:= .fields #[vl,vu,.none]}}:=H.ext Xp (nP H.st _) (adp _)
  have wx:(s.heap.push {cls:= .type "slice",data:= .fields #[vl,vu,.none]}).IsList a ws:=hl.push _
  obtain ⟨_,_,_,q1⟩:=p1
  obtain ⟨_,_,_,q2⟩:=p2
  refine tail_any (T:="list") wx.typeIs list_getitem_lookup (wpAny_getItem_list_slice wx (Heap.IsSliceOf.new ..) q1 q2 .none (by simp) ?_ (by rw [←gU];exact hz)) mP
  simp only [Option.map_none,Option.map_some]
  rw [slicePick_upto']
  refine h▸aI.after (X.trans Xp) (Ak Hp.st (aD.take (aD.mono (Xp.fe H.st) rs) _) ?_ s.toks 0)
  have:=aD.length rs
  rw [Array.length_toList] at this
  rw [List.length_take, ←this];exact adj (Nat.min_le_right ..) hz
 |some _,h=>exact absurd h.symm hn
theorem aah {value:PySem.Expr} {lo up:Option PySem.Expr} {sp:Pos} {o vl vu:Value} {x y z:V} {hl hh:Bool} {out:Out V} (H:aR U w J fl aa nm Z O L s) (X:aj aE aP s0 Z s) (rx:RV J s.heap Z x o) (ry:pC J s.heap Z y hl vl) (rz:pC J s.heap Z z hh vu) (h:iV O x y z hl hh=out) (hn:out≠ .stuck):
  wpAny (model U w) A (subscriptTail value (.Slice lo up none sp) o (.ref s.heap.objs.size)) (aI U w J aE aP s0 out) E0 {s with heap:=s.heap.push {cls:= .type "slice",data:= .fields #[vl,vu,.none]}}:=by
 refine fo h hn λk1 e1 h=>fo h hn λk2 e2 h=>?_
 have p1:=JZ e1 ry
 have p2:=JZ e2 rz
 have Xp:=aj.push aE Z s {cls:= .type "slice",data:= .fields #[vl,vu,.none]} s.toks
 match x,rx,h with
 | .str t,rx,h=>
  obtain ⟨i1,rfl,m1,_⟩:=p1
  obtain ⟨i2,rfl,m2,_⟩:=p2
  refine ux (P:=λo=>wpAny (model U w) A (subscriptTail value (.Slice lo up none sp) o (.ref s.heap.objs.size)) (aI U w J aE aP s0 out) E0 _) rx λtk hz=>?_
  refine tail_any (ops:=[.ref s.heap.objs.size,.str ⟨t.toArray⟩ tk]) (T:="str") (typeIs_str _ _ _) PySem.F.slot_str_getitem.lookup (wpAny_getItem_str_slice (l:=i1) (u:=i2) (st:=none) ⟨_,Heap.get?_push_size _ rfl,rfl,rfl⟩ rfl ?_) rfl
  exact W7 hz m1 m2 λt' k=>h▸aI.after (X.trans Xp) (aI.same (nP H.st _) (iu _ (adj (Wx ..) hz)) k)
 | .frozen us,⟨a,o',ws,e,hb,CX,hz,rs⟩,h=>exact e▸II H X CX rs hz p1 p2 h hn rfl
 | .ref m,rx,h=>
  refine tO (P:=λo=>wpAny (model U w) A (subscriptTail value (.Slice lo up none sp) o (.ref s.heap.objs.size)) (aI U w J aE aP s0 out) E0 _) rx λp hp=>iL H.st.sr hp h hn λus hs Lt h=>?_
  obtain ⟨ws,CX,rs,bS,hz⟩:=Lt
  exact II H X CX.isList rs (bS▸hz) p1 p2 h hn rfl
 | .none,_,h | .bool _,_,h | .int _,_,h | .tup _,_,h=>exact absurd h.symm hn
theorem Pm {M:Model} {o i:Value}:∀{x:PySem.Expr},lg x=true→subscripted x false o i=operate [o,i] (getItem o i):=by
 intro x
 cases x<;>first |exact λ_=>rfl |exact λh=>absurd h Bool.false_ne_true
noncomputable def Plain (x:PySem.Expr):Prop:=∀(aa:Env) (BR:Sem Value),isTrue x aa BR=(do let v←BR;standAt x.pos;holding [v] (truthy v))
noncomputable def a8 (U:Program) (w:World) (J:Heap) (gl bl:Addr) (fl:List Env) (A:Around) (C:Calls) (fu:Nat) (e:E):Prop:=f7 U w J gl bl fl A C fu e∧qS U w J gl bl fl A C fu e
theorem gx {e:E} (hp:∀{sc:Scope} {nm:List Str} {x:PySem.Expr},aF sc nm e x=true→Plain x) (V:f7 U w J gl bl fl A C fu e):a8 U w J gl bl fl A C fu e:=
 ⟨V,λ{aa nm x L O out Z s} hm eo H h hn hb=>wpAny_isTrue_value (NG hb (V hm eo H h hn)) (hp hm _ _)⟩
section
variable {a b c:E} {es:Es}
theorem tp {e:E} {v:V} (hp:∀{sc:Scope} {nm:List Str} {x:PySem.Expr},aF sc nm e x=true→Plain x) (he:∀L O,ev C fu e L O= .ok v O)
    (k:∀{aa:Env} {nm:List Str} {x:PySem.Expr} {L:Locals} {O:ag} {Z:aH} {s:Shared},aF aa.scope nm e x=true→bJ gl bl aa→aR U w J fl aa nm Z O L s→wpAny (model U w) A (eval x aa) (aI U w J aE Z s (.ok v O)) (bh U w J (· ∈bb fl) Z s (.ok v O)) s):a8 U w J gl bl fl A C fu e:=
 gx hp λ{aa nm x L O out Z s} hm eo H h hn=>h▸he L O▸k hm eo H
theorem Q8:a8 U w J gl bl fl A C fu .none:=tp (λh=>Bs (P:=Plain) h λ_ _ _ _=>rfl) (λ_ _=>rfl) λ{aa nm x L O Z s} hm eo H=>Bs (P:=λx=>wpAny (model U w) A (eval x aa) _ _ s) hm λ_ _=>wpAny_Constant_none (aI.here H.st.sr vR)
theorem aae {p:Bool}:a8 U w J gl bl fl A C fu (.bool p):=tp (λh=>DD (P:=Plain) h λ_ _ _ _=>rfl) (λ_ _=>rfl) λ{aa nm x L O Z s} hm eo H=>DD (P:=λx=>wpAny (model U w) A (eval x aa) _ _ s) hm λ_ _=>wpAny_Constant_bool (aI.here H.st.sr (iy _))
theorem R9 {i:Int}:a8 U w J gl bl fl A C fu (.int i):=tp (λh=>DB (P:=Plain) h λ_ _ _ _=>rfl) (λ_ _=>rfl) λ{aa nm x L O Z s} hm eo H=>DB (P:=λx=>wpAny (model U w) A (eval x aa) _ _ s) hm λ_ _=>wpAny_Constant_int (aI.same H.st.sr (eW _ _) _)
theorem TH {l:List Nat}:a8 U w J gl bl fl A C fu (.str l):=tp (λh=>DW (P:=Plain) h λ_ _ _ _ _=>rfl) (λ_ _=>rfl) λ{aa nm x L O Z s} hm eo H=>DW (P:=λx=>wpAny (model U w) A (eval x aa) _ _ s) hm λ_ _ hl=>wpAny_Constant_str (aI.same H.st.sr (iu _ (adj hl (by decide))) _)
theorem OY {i:Nat}:a8 U w J gl bl fl A C fu (.loc i):=gx (λh=>zq (P:=Plain) h λ_ _ _ _ _=>rfl) λ{aa nm x L O out Z s} hm eo H h hn=>zq (P:=λx=>wpAny (model U w) A (eval x aa) _ _ s) hm λy p hi=>
 m6 (P:=λout=>wpAny (model U w) A (eval (.Name y p) aa) (aI U w J aE Z s out) (bh U w J _ Z s out) s) h hn λv hv=>wpAny_Name (Ee eo H hi hv) (beq_eq_false_iff_ne.mpr (aN hi λhi _=>aN hi λ_ hi=>bne_iff_ne.1 hi))
theorem Qn (B:cx U w J gl bl K) {i:Nat}:a8 U w J gl bl fl A C fu (.jZ i):=tp (λh=>CP (P:=Plain) h λ_ _ _ _ _ _=>rfl) (λ_ _=>rfl) λ{aa nm x L O Z s} hm eo H=>CP (P:=λx=>wpAny (model U w) A (eval x aa) _ _ s) hm λy p h1 h2=>match B.g.jZ i y h1 with
 |⟨t,g⟩=>oX eo H g h2 (aI.here H.st.sr (eW _ _))
theorem OK (a1:a8 U w J gl bl fl A C fu a) (b1:a8 U w J gl bl fl A C fu b) {op:BinOp}:a8 U w J gl bl fl A C fu (.bin op a b):=gx (λh=>AF (P:=Plain) h λ_ _ _ _ _ _ _=>rfl) λ{aa nm x L O out Z s} hm eo H h hn=>AF (P:=λx=>wpAny (model U w) A (eval x aa) _ _ s) hm λl r p h1 h2=>
 wpAny_BinOp (step a1.1 h1 eo H (aj.refl _ _ _) h hn λv ae va ao s1 h X1 _ H1 r1=>step b1.1 h2 eo H1 X1 h hn λu az vb eM s2 h X2 k2 H2 r2=>
  m6 (P:=λout=>wpAny (model U w) A (binaryOp (jQ op) va vb) (aI U w J aE Z s out) (bh U w J _ Z s out) s2) h hn λz hz=>fin X2 (Og H2.st.sr (RV.mono k2 r1) r2 hz))
theorem EM (B:cx U w J gl bl K) (R:bI n 10 fl A) (a1:a8 U w J gl bl fl A C fu a) (b1:a8 U w J gl bl fl A C fu b) {op:mT} {l r:PySem.Expr} {out:Out V} (h1:aF aa.scope nm a l=true) (h2:aF aa.scope nm b r=true) (eo:bJ gl bl aa) (H:aR U w J fl aa nm Z O L s) (h:ev C fu (.cmp op a b) L O=out) (hn:out≠ .stuck)
  {Q:Value→Shared→Prop} (k:∀c s',aI U w J aE Z s out (.bool c) s'→Q (.bool c) s'):
  wpAny (model U w) A (eval l aa) (λva bN=>wpAny (model U w) A (eval r aa) (λvb lP=>wpAny (model U w) A (compareOp (fW op) va vb) Q (bh U w J (· ∈bb fl) Z s out) lP) (bh U w J (· ∈bb fl) Z s out) bN) (bh U w J (· ∈bb fl) Z s out) s:=
 step a1.1 h1 eo H (aj.refl _ _ _) h hn λv ae va ao s1 h X1 _ H1 r1=>step b1.1 h2 eo H1 X1 h hn λu az vb eM s2 h X2 k2 H2 r2=>
  m6 (P:=λout=>(∀c s',aI U w J aE Z s out (.bool c) s'→Q (.bool c) s')→wpAny (model U w) A (compareOp (fW op) va vb) Q (bh U w J _ Z s out) s2) h hn (λz hz=>
   Wl (G:=λz=>(∀c s',aI U w J aE Z s (.ok z az) (.bool c) s'→Q (.bool c) s')→wpAny (model U w) A (compareOp (fW op) va vb) Q (bh U w J _ Z s (.ok z az)) s2) B.sys H2.st.sr (bI.cmp R) (RV.mono k2 r1) r2 hz
        λc hc k=>wpAny_mono hc (λv s' e=>match e with | .mk t=>k c _ (aI.after X2 (aI.same H2.st.sr (iy _) t))) λ_ _ x=>x) k
theorem NQ (B:cx U w J gl bl K) (R:bI n 10 fl A) (a1:a8 U w J gl bl fl A C fu a) (b1:a8 U w J gl bl fl A C fu b) {op:mT}:a8 U w J gl bl fl A C fu (.cmp op a b):=
 ⟨λ{aa nm x L O out Z s} hm eo H h hn=>CG (P:=λx=>wpAny (model U w) A (eval x aa) _ _ s) hm λl r p hq h1 h2=>wpAny_Compare1 (EM B R a1 b1 h1 h2 eo H h hn λ_ _ p=>p) hq,
   λ{aa nm x L O out Z s} hm eo H h hn hb=>CG (P:=λx=>wpAny (model U w) A (isTrue x aa (eval x aa)) _ _ s) hm λl r p hq h1 h2=>wpAny_isTrue_Compare1 (EM B R a1 b1 h1 h2 eo H h hn λ_ _ p=>wpAny_truthy_bool p) hq⟩
theorem Vl (Ls:fq U w J gl bl fl A C fu es):a8 U w J gl bl fl A C fu (.and es):=
 ⟨λ{aa nm x L O out Z s} hm eo H h hn=>Eu (P:=λx=>wpAny (model U w) A (eval x aa) _ _ s) hm λvs p h1=>(arm_eval_BoolOp .And vs p aa)▸(uo true Ls h1 eo H h hn).1,
   λ{aa nm x L O out Z s} hm eo H h hn hb=>Eu (P:=λx=>wpAny (model U w) A (isTrue x aa (eval x aa)) _ _ s) hm λvs p h1=>wpAny_isTrue_BoolOp (uo true Ls (pos:=p) h1 eo H h hn).2⟩
theorem SP (Ls:fq U w J gl bl fl A C fu es):a8 U w J gl bl fl A C fu (.or es):=
 ⟨λ{aa nm x L O out Z s} hm eo H h hn=>DU (P:=λx=>wpAny (model U w) A (eval x aa) _ _ s) hm λvs p h1=>(arm_eval_BoolOp .Or vs p aa)▸(uo false Ls h1 eo H h hn).1,
   λ{aa nm x L O out Z s} hm eo H h hn hb=>DU (P:=λx=>wpAny (model U w) A (isTrue x aa (eval x aa)) _ _ s) hm λvs p h1=>wpAny_isTrue_BoolOp (uo false Ls (pos:=p) h1 eo H h hn).2⟩
theorem WD (a1:a8 U w J gl bl fl A C fu a):a8 U w J gl bl fl A C fu (.not a):=
 ⟨λ{aa nm x L O out Z s} hm eo H h hn=>Du (P:=λx=>wpAny (model U w) A (eval x aa) _ _ s) hm λy p h1=>wpAny_UnaryOp (step a1.1 h1 eo H (aj.refl _ _ _) h hn λv ae va ao s1 h X1 _ H1 r1=>CM h hn r1 λb h=>h▸PyProof.Rows.not_of (wpAny_truthy_bool ⟨ao,X1,H1.st.sr,iy _⟩)),
   λ{aa nm x L O out Z s} hm eo H h hn hb=>Du (P:=λx=>wpAny (model U w) A (isTrue x aa (eval x aa)) _ _ s) hm λy p h1=>wpAny_isTrue_Not (stepT a1.2 h1 eo H (aj.refl _ _ _) h hn λb ae ao s1 h X1 H1=>h▸⟨ao,X1,H1.st.sr,iy _⟩)⟩
theorem aaY (a1:a8 U w J gl bl fl A C fu a):a8 U w J gl bl fl A C fu (.neg a):=gx (λh=>Ab (P:=Plain) h λ_ _ _ _ _=>rfl) λ{aa nm x L O out Z s} hm eo H h hn=>Ab (P:=λx=>wpAny (model U w) A (eval x aa) _ _ s) hm λy p h1=>
 wpAny_UnaryOp (step a1.1 h1 eo H (aj.refl _ _ _) h hn λv ae va ao s1 h X1 _ H1 r1=>dB h hn r1 λi t h=>h▸PyProof.Rows.neg_int (aI.after X1 (aI.same H1.st.sr (eW _ _) _)))
theorem Td (c1:a8 U w J gl bl fl A C fu c) (a1:a8 U w J gl bl fl A C fu a) (b1:a8 U w J gl bl fl A C fu b):a8 U w J gl bl fl A C fu (.ite c a b):=
 ⟨λ{aa nm x L O out Z s} hm eo H h hn=>C3 (P:=λx=>wpAny (model U w) A (eval x aa) _ _ s) hm λt y z p h1 h2 h3=>wpAny_IfExp (stepT c1.2 h1 eo H (aj.refl _ _ _) h hn λt ae ao s1 h X1 H1=>match t,h with
   |true,h=>Ms a1.1 h2 eo H1 X1 h hn
   |false,h=>Ms b1.1 h3 eo H1 X1 h hn),
  λ{aa nm x L O out Z s} hm eo H h hn hb=>C3 (P:=λx=>wpAny (model U w) A (isTrue x aa (eval x aa)) _ _ s) hm λt y z p h1 h2 h3=>isTrue_IfExp (stepT c1.2 h1 eo H (aj.refl _ _ _) h hn λt ae ao s1 h X1 H1=>match t,h with
   |true,h=>HH a1.2 h2 eo H1 X1 h hn hb
   |false,h=>HH b1.2 h3 eo H1 X1 h hn hb)⟩
theorem Rw (Ls:fq U w J gl bl fl A C fu es):a8 U w J gl bl fl A C fu (.tup es):=gx (λh=>zR (P:=Plain) h λ_ _ _ _ _ _ _=>rfl) λ{aa nm x L O out Z s} hm eo H h hn=>zR (P:=λx=>wpAny (model U w) A (eval x aa) _ _ s) hm λvs q p hz h1=>
 PySem.wpAny_Tuple_spliced (vq (lM Ls) h1 eo H (aj.refl _ _ _) h hn λus ae ws ao s1 e h X1 _ H1 r1=>h▸⟨by rw [aD.length r1,Ae h1 e, ←gU];exact adj hz (by decide),aI.after X1 (HB H1.st r1 s1.toks)⟩)
theorem W8 (Ls:fq U w J gl bl fl A C fu es):a8 U w J gl bl fl A C fu (.list es):=gx (λh=>Ah (P:=Plain) h λ_ _ _ _ _ _=>rfl) λ{aa nm x L O out Z s} hm eo H h hn=>Ah (P:=λx=>wpAny (model U w) A (eval x aa) _ _ s) hm λvs p hz h1=>
 PySem.wpAny_List_spliced (vq (lM Ls) h1 eo H (aj.refl _ _ _) h hn λus ae ws ao s1 e h X1 _ H1 r1=>
  have Fz:us.length≤aq:=Ae h1 e▸adj hz (by decide)
  h▸⟨by rw [aD.length r1, ←gU];exact Fz,aI.after X1 (Ak H1.st r1 Fz s1.toks 0)⟩)
theorem Qj {ks:List (List Nat)} (Ls:fq U w J gl bl fl A C fu es):a8 U w J gl bl fl A C fu (.dict ks es):=gx (λh=>C7 (P:=Plain) h λ_ _ _ _ _ _ _ _ _=>rfl) λ{aa nm x L O out Z s} hm eo H h hn=>C7 (P:=λx=>wpAny (model U w) A (eval x aa) _ _ s) hm λcw vs p h1 h2 hz hl=>abt eo H h1 h2 hl hz Ls h hn
theorem TA (a1:a8 U w J gl bl fl A C fu a) (b1:a8 U w J gl bl fl A C fu b):a8 U w J gl bl fl A C fu (.idx a b):=gx (λh=>BQ (P:=Plain) h λ_ _ _ _ _ _ _ _=>rfl) λ{aa nm x L O out Z s} hm eo H h hn=>BQ (P:=λx=>wpAny (model U w) A (eval x aa) _ _ s) hm λy j p h1 h2 h3=>
 PyProof.Rows.Subscript_ (step a1.1 h1 eo H (aj.refl _ _ _) h hn λv ae va ao s1 h X1 _ H1 r1=>step b1.1 h2 eo H1 X1 h hn λu az vb eM s2 h X2 k2 H2 r2=>
  m6 (P:=λout=>wpAny (model U w) A (subscriptTail y j va vb) (aI U w J aE Z s out) (bh U w J _ Z s out) s2) h hn λz hz=>match C8 (A:=A) (E:=bh U w J (· ∈bb fl) Z s (.ok z az)) (X:=aE) H2.st.sr (RV.mono k2 r1) r2 hz with
   |⟨T,id,g,hT,hl⟩=>fin X2 (tail_any (ops:=[va,vb]) hT hl g (Pm (M:=model U w) h3)))
theorem R6 (a1:a8 U w J gl bl fl A C fu a) (b1:a8 U w J gl bl fl A C fu b) (c1:a8 U w J gl bl fl A C fu c) {hl hh:Bool}:a8 U w J gl bl fl A C fu (.slice a b c hl hh):=gx (λh=>Co (P:=Plain) h λ_ _ _ _ _ _ _ _ _ _=>rfl) λ{aa nm x L O out Z s} hm eo H h hn=>Co (P:=λx=>wpAny (model U w) A (eval x aa) _ _ s) hm λy l u q p h1 h2 h3=>
 PyProof.Rows.Subscript_ (step a1.1 h1 eo H (aj.refl _ _ _) h hn λv ae va ao s1 h X1 _ H1 r1=>wpAny_Slice (EG b1.1 h2 eo H1 X1 h hn λu az vb eM s2 h X2 k2 H2 r2=>EG c1.1 h3 eo H2 X2 h hn λz cM vc ni s3 h X3 k3 H3 r3=>
  evalPart_none_step (aah H3 X3 (RV.mono k3 (RV.mono k2 r1)) (r2.mono k3) r3 h hn)))
theorem PX (B:cx U w J gl bl K) (a1:a8 U w J gl bl fl A C fu a) {f:Nat}:a8 U w J gl bl fl A C fu (.attr a f):=gx (λh=>Bg (P:=Plain) h λ_ _ _ _ _ _ _ _=>rfl) λ{aa nm x L O out Z s} hm eo H h hn=>Bg (P:=λx=>wpAny (model U w) A (eval x aa) _ _ s) hm λy nn p h1 h2 h3=>
 AD h3 (step a1.1 h2 eo H (aj.refl _ _ _) h hn λv ae va ao s1 h X1 _ H1 r1=>
  m6 (P:=λout=>wpAny (model U w) A (getAttr va nn true) (aI U w J aE Z s out) (bh U w J _ Z s out) s1) h hn λz hz=>match Dl h1 with
   |⟨hf,e⟩=>e▸fin X1 (aas B.kf (tw B H1.st) H1.st.sr hf r1 hz))
theorem Rz (B:cx U w J gl bl K) (CO:iT U w J n C) (R:bI n 10 fl A) (Ls:fq U w J gl bl fl A C fu es) {f:Nat}:a8 U w J gl bl fl A C fu (.call f es):=gx (λh=>Ea (P:=Plain) h λ_ _ _ _ _ _ _ _ _=>rfl) λ{aa nm x L O out Z s} hm eo H h hn=>Ea (P:=λx=>wpAny (model U w) A (eval x aa) _ _ s) hm λy q args p h1 h2 h3=>
 wpAny_Call_NameR (oX eo H (B.g.fn f y h1) h2 (sQ B (λh X=>keeps_K (B.kf.kp f (Vp h1)) h X) (aj.refl _ _ _) eo H h3 (lM Ls) h hn λvs ae ao ws s1 h k H1 r1=>CO.call h hn (R.weaken (adp _) (Nat.zero_le _)) H1.st r1))
theorem U4 (B:cx U w J gl bl K) (CO:iT U w J n C) (R:bI n 10 fl A) (Ls:fq U w J gl bl fl A C fu es) {c:cj}:a8 U w J gl bl fl A C fu (.new c es):=gx (λh=>Bk (P:=Plain) h λ_ _ _ _ _ _ _=>rfl) λ{aa nm x L O out Z s} hm eo H h hn=>Bk (P:=λx=>wpAny (model U w) A (eval x aa) _ _ s) hm λq args p h2 h3=>
 wpAny_Call_NameR (oX eo H (B.g.cls c) h2 (sQ B (λh X=>keeps_K (B.kf.kc c) h X) (aj.refl _ _ _) eo H h3 (lM Ls) h hn λvs ae ao ws s1 h k H1 r1=>Oz B CO R H1.st h hn r1))
theorem YT (B:cx U w J gl bl K) (R:bI n 10 fl A) (Ls:fq U w J gl bl fl A C fu es) {p:Bi}:a8 U w J gl bl fl A C fu (.bi p es):=gx (λh=>Eh (P:=Plain) h λ_ _ _ _ _ _ _=>rfl) λ{aa nm x L O out Z s} hm eo H h hn=>Eh (P:=λx=>wpAny (model U w) A (eval x aa) _ _ s) hm λq args pp h2 h3=>
 wpAny_Call_NameR (oX eo H (B.g.bi p) h2 (sQ B (UX p) (aj.refl _ _ _) eo H h3 (lM Ls) h hn λvs ae ao ws s1 h k H1 r1=>QF B.sys H1.st R.hand h hn r1))
theorem aat (B:cx U w J gl bl K) (R:bI n 10 fl A) (a1:a8 U w J gl bl fl A C fu a) (b1:a8 U w J gl bl fl A C fu b) {caps:List Nat}:a8 U w J gl bl fl A C fu (.comp a caps b):=gx (λh=>wV (P:=Plain) h λ_ _ _ _ _ _ _ _ _ _ _=>rfl) λ{aa nm x L O out Z s} hm eo H h hn=>wV (P:=λx=>wpAny (model U w) A (eval x aa) _ _ s) hm λpe y q cI aG p h1 h2 h3=>JX eo (Lz h1) h2 h3 a1.1 (K7 R eo H h1 b1.1 h hn λe af q v s' x _=>q▸x)
theorem Ww (B:cx U w J gl bl K) (R:bI n 10 fl A) (a1:a8 U w J gl bl fl A C fu a) (b1:a8 U w J gl bl fl A C fu b) {caps:List Nat}:a8 U w J gl bl fl A C fu (.iS a caps b):=gx (λh=>wo (P:=Plain) h λ_ _ _ _ _ _ _ _ _ _ _ _ _ _=>rfl) λ{aa nm x L O out Z s} hm eo H h hn=>wo (P:=λx=>wpAny (model U w) A (eval x aa) _ _ s) hm λpe y q pr pn pc aG p h0 h1 h2 h3=>JX eo (λ_=>rfl) h2 h3 a1.1 (Ki B R eo H h0 h1 b1.1 h hn λe af q v s' x _=>q▸x)
theorem aaK (B:cx U w J gl bl K) (a1:a8 U w J gl bl fl A C fu a) (Ls:fq U w J gl bl fl A C fu es) {m:Bm}:a8 U w J gl bl fl A C fu (.bt m a es):=gx (λh=>Dq (P:=Plain) h λ_ _ _ _ _ _ _ _ _ _ _=>rfl) λ{aa nm x L O out Z s} hm eo H h hn=>Dq (P:=λx=>wpAny (model U w) A (eval x aa) _ _ s) hm λy ap args p h2 h3 h4 h5 h6=>
 CK h4 (uI h3 aa p) h6 h5 (step a1.1 h2 eo H (aj.refl _ _ _) h hn λv ae va ao s1 h X1 _ H1 r1=>da h hn λhk h=>XQ H1.st.sr hk r1
    (sQ B (T8 (id:=m.id)) X1 eo H1 h3 (lM Ls) h hn λvs az eM ws s2 h k2 H2 r2=>Xz B.sys H2.st (RV.mono k2 r1) r2 h hn))
theorem Oe (B:cx U w J gl bl K) (CO:iT U w J n C) (R:bI n 10 fl A) (Ls:fq U w J gl bl fl A C fu es) {m:Nat} {v:V} {va:Value} {args:List PySem.Expr} {p:Pos} {out:Out V} {pl:Sem Bool} (AN:m<9) (h3:cE aa.scope nm es args=true) (eo:bJ gl bl aa) (H1:aR U w J fl aa nm Z O L s) (X1:aj aE aP s0 Z s) (r1:RV J s.heap Z v va)
    (h:(bK (G6 O v) .stuck λc=>bK (gb c m) .stuck λf=>(bx C fu es L O).bind λvs O=>C f (v::vs) O)=out) (hn:out≠ .stuck):
  wpAny (model U w) A (getMethod va (nM m) pl) (λq lP=>wpAny (model U w) A (callWith p q.1 q.2 (backTo p (starEach args aa)) []) (aI U w J aE aP s0 out) (bh U w J (· ∈bb fl) aP s0 out) lP) (bh U w J (· ∈bb fl) aP s0 out) s:=
 fo h hn λc hc h=>fo h hn λf hf h=>gr (P:=λv va=>RV J s.heap Z v va→((bx C fu es L O).bind λvs O=>C f (v::vs) O)=out→wpAny (model U w) A (getMethod va (nM m) pl) _ _ s) hc sn r1 (λnn q hq hc r1 h=>
  zN H1.st.sr hq hc sn λc' fs hs I e=>match I with
   |⟨acb,dn,g1,g2,fr,_,_⟩=>have hf:gb c' m=some f:=Option.some.inj e▸hf
    method_fn (tw B H1.st) (yT g1 g2) (B.kf.ga c') (B.kf.Nf c') (B.kf.GO c' m f hf) (B.kf.isFn f (zU hf).1) (aba B.kf (c:=c') AN fr)
    (sQ B (λh X=>keeps_K (B.kf.kp f (zU hf).1) h X) X1 eo H1 h3 (lM Ls) h hn λvs az eM ws s2 h k2 H2 r2=>CO.call h hn (R.weaken (adp _) (Nat.zero_le _)) H2.st (aD.cons (RV.mono k2 r1) r2))) r1 h
theorem NW (B:cx U w J gl bl K) (CO:iT U w J n C) (R:bI n 10 fl A) (a1:a8 U w J gl bl fl A C fu a) (Ls:fq U w J gl bl fl A C fu es) {m:Nat}:a8 U w J gl bl fl A C fu (.own a m es):=gx (λh=>A1 (P:=Plain) h λ_ _ _ _ _ _ _ _ _ _ _ _ _=>rfl) λ{aa nm x L O out Z s} hm eo H h hn=>A1 (P:=λx=>wpAny (model U w) A (eval x aa) _ _ s) hm λy nn ap args p h1 h2 h3 h4 h5 h6=>
 CK h4 (uI h3 aa p) h6 h5 (step a1.1 h2 eo H (aj.refl _ _ _) h hn λv ae va ao s1 h X1 _ H1 r1=>match Dl h1 with
  |⟨AN,e⟩=>e▸Oe B CO R Ls AN h3 eo H1 X1 r1 h hn)
theorem So (B:cx U w J gl bl K) (a1:a8 U w J gl bl fl A C fu a) {c d:Nat}:a8 U w J gl bl fl A C fu (.km a c d):=gx (λh=>zT (P:=Plain) h λ_ _ _ _ _ _ _ _ _ _ _ _ _=>rfl) λ{aa nm x L O out Z s} hm eo H h hn=>zT (P:=λx=>wpAny (model U w) A (eval x aa) _ _ s) hm λy ap k1 p1 k2 p2 p h2 h4 h5 j6=>
 CK h4 rfl (by show 3<30;decide) h5 (step a1.1 h2 eo H (aj.refl _ _ _) h hn λv ae va ao s1 h X1 _ H1 r1=>eh (P:=λv va=>RV J s1.heap ao v va→wpAny (model U w) A (getMethod va (Str.ofString "replace") _) _ _ s1) h hn r1 (λl t _ h r1=>da h hn λhl h=>h▸aa4 B X1 H1 j6 r1 hl) r1)
end
mutual
theorem ea (B:cx U w J gl bl K) (CO:iT U w J n C) (R:bI n 10 fl A):∀e:E,a8 U w J gl bl fl A C fu e
 | .none=>Q8
 | .bool b=>aae
 | .int i=>R9
 | .str l=>TH
 | .loc i=>OY
 | .jZ i=>Qn B
 | .bin op a b=>OK (ea B CO R a) (ea B CO R b)
 | .cmp op a b=>NQ B R (ea B CO R a) (ea B CO R b)
 | .and es=>Vl (jd B CO R es)
 | .or es=>SP (jd B CO R es)
 | .not a=>WD (ea B CO R a)
 | .neg a=>aaY (ea B CO R a)
 | .ite c a b=>Td (ea B CO R c) (ea B CO R a) (ea B CO R b)
 | .tup es=>Rw (jd B CO R es)
 | .list es=>W8 (jd B CO R es)
 | .dict ks es=>Qj (jd B CO R es)
 | .idx a i=>TA (ea B CO R a) (ea B CO R i)
 | .slice a lo hi hl hh=>R6 (ea B CO R a) (ea B CO R lo) (ea B CO R hi)
 | .attr a f=>PX B (ea B CO R a)
 | .call f es=>Rz B CO R (jd B CO R es)
 | .own a m es=>NW B CO R (ea B CO R a) (jd B CO R es)
 | .bt m a es=>aaK B (ea B CO R a) (jd B CO R es)
 | .km a c d=>So B (ea B CO R a)
 | .new c es=>U4 B CO R (jd B CO R es)
 | .bi b es=>YT B R (jd B CO R es)
 | .comp bc caps it=>aat B R (ea B CO R bc) (ea B CO R it)
 | .iS bc caps it=>Ww B R (ea B CO R bc) (ea B CO R it)
theorem jd (B:cx U w J gl bl K) (CO:iT U w J n C) (R:bI n 10 fl A):∀es:Es,fq U w J gl bl fl A C fu es
 | .nil=>trivial
 | .cons e es=>⟨ea B CO R e,jd B CO R es⟩
end
end
noncomputable def cQ (aa:Env):Addr→Prop:=λb=>b=aa.locals
noncomputable def FV (J h:Heap) (Z:aH):Flow→PySem.Flow→Prop
 | .next,f=>f= .next
 | .brk,f=>f= .brk
 | .ret v,f=>∃x,f= .ret x∧RV J h Z v x
structure eN (fl:List Env) (aa:Env) (nm:List Str):Prop where
 nodup:nm.Nodup
 frame:aa.frame=some aa.locals
 head:∃r,fl=aa::r
inductive SO (U:Program) (w:World) (J:Heap) (fl:List Env) (aa:Env) (nm:List Str) (Z:aH) (s:Shared) (g:Flow) (L':Locals) (af:ag) (f:PySem.Flow) (s':Shared):Prop where
 |mk (ai:aH) (hx:aj (cQ aa) Z s ai s') (hh:aR U w J fl aa nm ai af L' s') (hf:FV J s'.heap ai g f):SO U w J fl aa nm Z s g L' af f s'
noncomputable def PS (U:Program) (w:World) (J:Heap) (fl:List Env) (aa:Env) (nm:List Str) (Z:aH) (s:Shared) (out:aT) (f:PySem.Flow) (s':Shared):Prop:=match out with
 | .ok g L' af=>SO U w J fl aa nm Z s g L' af f s'
 |_=>False
inductive GA (b:Bool) (U:Program) (w:World) (J:Heap) (fl:List Env) (aa:Env) (nm:List Str) (Z:aH) (s:Shared) (e:aX) (L':Locals) (af:ag) (v:Value) (s':Shared):Prop where
 |mk (ai:aH) (x:Addr) (hv:v= .ref x) (hx:cV (cQ aa) (· ∈bb fl) Z s ai s') (hh:aR U w J fl aa nm ai af L' s') (he:ka b J s.heap s'.heap ai x e):GA b U w J fl aa nm Z s e L' af v s'
noncomputable def XS (b:Bool) (U:Program) (w:World) (J:Heap) (fl:List Env) (aa:Env) (nm:List Str) (Z:aH) (s:Shared) (out:aT) (v:Value) (s':Shared):Prop:=match out with
 | .exc e L' af=>GA b U w J fl aa nm Z s e L' af v s'
 |_=>False
section
variable {U:Program} {w:World} {J:Heap} {gl bl:Addr} {K:Frag} {fl:List Env} {Z ai ao aP:aH} {O af ae:ag} {s s' s1 s0:Shared} {A:Around} {E0:Value→Shared→Prop} {aa:Env} {nm:List Str} {L:Locals}
variable {C:Calls} {n fu:Nat}
theorem cV.vk {X F:Addr→Prop} (a:cV X F Z s ai s') (S:SR U w J s.heap Z O) (st:J.StaysIn s'.heap) (hX:∀b o,X b→s.heap.get? b=some o→∀vs n,o.data= .seq vs n→False):VK J Z s.heap ai s'.heap:=
 ⟨a.pre,λb o e nf ⟨vs,n,hd⟩ _=>by
  obtain ⟨sl,h,_⟩:=a.keep b o e nf λq=>hX b o q e vs n hd
  exact ⟨sl,h⟩,st,S.off,S.cells⟩
theorem cV.gT {X F:Addr→Prop} (E:cV X F Z s ai s') {b:Addr} (hl:(s.heap.get? b).isSome) (q:bL ai b):bL Z b:=by
 obtain ⟨p,hm,e⟩:=q
 obtain ⟨n,hn⟩:=List.getElem?_of_mem hm
 by_cases aK:n<Z.length
 ·have:=lp E.pre (List.getElem?_eq_getElem aK)
  rw [hn] at this
  injection this with this
  exact ⟨p,this▸List.getElem_mem aK,e⟩
 ·obtain ⟨a,c⟩:=E.new n p (Nat.le_of_not_lt aK) hn
  rcases e with rfl |rfl
  ·rw [a] at hl;cases hl
  ·rw [c] at hl;cases hl
theorem cV.stays {X:Addr→Prop} (a:cV X (· ∈bb fl) Z s ai s') (S:St U w J fl Z O s) (hX:∀b,X b→J.get? b=none):J.StaysIn s'.heap:=λb o e=>by
 obtain ⟨sl,h,hs⟩:=a.keep b o (S.stays b o e) (AY S.sr.off e) λq=>by rw [hX b q] at e;cases e
 have:sl=o.slots:=hs λq=>by
  have:=(me S.frames b q).1
  rw [this] at e;cases e
 rw [h,this]
theorem pY.JE {h h':Heap} (l:pY J h Z aa nm L) (v:VK J Z h ai h') (k:∀b o,h.get? b=some o→(∀vs n,o.data≠ .seq vs n)→(b=aa.locals∨∃x,o.data= .cell x)→∃sl,h'.get? b=some {o with slots:=sl}):pY J h' ai aa nm L:=by
 obtain ⟨m,hm,hl⟩:=l
 refine ⟨m,?_,λi v' e=>?_⟩
 ·obtain ⟨o,es,ep,ho,hd,r⟩:=hm
  obtain ⟨sl,hs⟩:=k _ _ ho (λvs n q=>by rw [hd] at q;cases q) (.inl rfl)
  exact ⟨_,es,ep,hs,hd,r⟩
 ·obtain ⟨n,x,hn,rv,hx⟩:=hl i v' e
  refine ⟨n,x,hn,RV.mono v rv,?_⟩
  rcases hx with hx |⟨h1,c,h2,h3⟩
  ·exact .inl hx
  ·obtain ⟨o,ho,hd⟩:=h3
   obtain ⟨sl,hs⟩:=k _ _ ho (λvs n q=>by rw [hd] at q;cases q) (.inr ⟨_,hd⟩)
   exact .inr ⟨h1,c,h2,_,hs,hd⟩
theorem aR.exc (H:aR U w J fl aa nm Z O L s) (X:cV aE (· ∈bb fl) Z s ai s') (R:SR U w J s'.heap ai af) (ht:s.toks≤s'.toks):aR U w J fl aa nm ai af L s':=by
 have st:=X.stays H.st λ_ x=>x.elim
 have v:VK J Z s.heap ai s'.heap:=X.vk H.st.sr st λ_ _ x=>x.elim
 refine ⟨⟨R,st,om H.st.frames λa ha o ho hd=>?_,λa ha q=>?_,adk H.st.tok ht⟩,H.loc.JE v λb o e _ hb=>?_,λq=>?_,H.ou⟩
 ·obtain ⟨sl,h,_⟩:=X.keep a o ho (H.st.jC a ha) λx=>x
  exact ⟨_,h,hd⟩
 ·obtain ⟨_,o,ho,_⟩:=me H.st.frames a ha
  exact H.st.jC a ha (X.gT (by rw [ho];rfl) q)
 ·obtain ⟨sl,h,_⟩:=X.keep b o e (λq=>by
   rcases hb with rfl |⟨x,hd⟩
   ·exact H.jJ q
   ·exact H.st.sr.CV e hd q) λx=>x
  exact ⟨sl,h⟩
 ·obtain ⟨m,hm,_⟩:=H.loc
  obtain ⟨o,_,_,ho,_⟩:=hm
  exact H.jJ (X.gT (by rw [ho];rfl) q)
theorem XS.after {b:Bool} {out ui:aT} {v:Value} (a:aj (cQ aa) aP s0 Z s) (x:XS b U w J fl aa nm Z s out v s') (ho:∀e L O,out= .exc e L O→ui= .exc e L O):XS b U w J fl aa nm aP s0 ui v s':=by
 cases out with
 |exc e L O=>
  rw [ho e L O rfl]
  obtain ⟨ai,y,h1,h2,h3,h4⟩:=x
  exact ⟨ai,y,h1,cV.chain a h2 λc q=> .inl q,h3,h4.before a.live⟩
 |stuck=>exact x.elim
 |ok _ _ _=>exact x.elim
theorem PS.after {out:aT} {f:PySem.Flow} (a:aj (cQ aa) aP s0 Z s) (x:PS U w J fl aa nm Z s out f s'):PS U w J fl aa nm aP s0 out f s':=by
 cases out with
 |ok g L O=>
  obtain ⟨ai,h1,h2,h3⟩:=x
  exact ⟨ai,a.trans h1,h2,h3⟩
 |stuck=>exact x.elim
 |exc _ _ _=>exact x.elim
theorem Fi {γ:Type} (X:aj (cQ aa) aP s0 Z s) (H:aR U w J fl aa nm Z O L s) {o:Out V} {k:V→ag→aT} {out:aT} {t:Sem γ} {P:Out V→γ→Shared→Prop} {Q:γ→Shared→Prop} (h:o.toS L k=out) (hn:out≠ .stuck)
    (ih:o≠ .stuck→wpAny (model U w) A t (P o) (bh U w J (· ∈bb fl) Z s o) s) (hP:∀e O r s',P (.exc e O) r s'→False)
    (kk:∀v O,o= .ok v O→k v O=out→∀r s',P (.ok v O) r s'→s.toks≤s'.toks→Q r s'):wpAny (model U w) A t Q (XS false U w J fl aa nm aP s0 out) s:=match o,h,ih,kk with
 | .stuck,h,_,_=>absurd h.symm hn
 | .ok v ae,h,ih,kk=>mS (ih nofun) (λr s' p ht=>kk v ae rfl h r s' p ht) λ_ _ x _=>x.elim
 | .exc e ae,h,ih,_=>mS (ih nofun) (λr s' p _=>(hP _ _ _ _ p).elim) λv s' x ht=>match x with
  |⟨ai,x,h1,h2,h3,h4⟩=>(show aT.exc e L ae=out from h)▸⟨ai,x,h1,cV.chain X (Y:=aE) h2 λ_ q=>q.elim,H.exc h2 h3 ht,h4.before X.live⟩
theorem aj.loc (X:aj aE Z s ai s'):aj (cQ aa) Z s ai s':=X.weaken λ_ q=>q.elim
theorem tF {o:Out V} {t:Sem Value} {k:V→ag→aT} {out:aT} {Q:Value→Shared→Prop} (ih:o≠ .stuck→wpAny (model U w) A t (aI U w J aE Z s o) (bh U w J (· ∈bb fl) Z s o) s) (H:aR U w J fl aa nm Z O L s) (X:aj (cQ aa) aP s0 Z s)
    (h:o.toS L k=out) (hn:out≠ .stuck) (kk:∀v ae va ao s1,k v ae=out→aj (cQ aa) aP s0 ao s1→VK J Z s.heap ao s1.heap→aR U w J fl aa nm ao ae L s1→RV J s1.heap ao v va→Q va s1):wpAny (model U w) A t Q (XS false U w J fl aa nm aP s0 out) s:=
 Fi X H h hn ih (λ_ _ _ _ x=>x) λv ae _ h va s1 p t=>match p with
  |⟨ao,X1,R1,r1⟩=>kk v ae va ao s1 h (X.trans X1.loc) (X1.fe H.st) (H.ext X1 R1 t) r1
theorem ic {e:E} {x:PySem.Expr} {k:V→ag→aT} {out:aT} {Q:Value→Shared→Prop} (V:a8 U w J gl bl fl A C fu e) (hm:aF aa.scope nm e x=true) (eo:bJ gl bl aa) (H:aR U w J fl aa nm Z O L s) (X:aj (cQ aa) aP s0 Z s)
    (h:(ev C fu e L O).toS L k=out) (hn:out≠ .stuck) (kk:∀v ae va ao s1,k v ae=out→aj (cQ aa) aP s0 ao s1→VK J Z s.heap ao s1.heap→aR U w J fl aa nm ao ae L s1→RV J s1.heap ao v va→Q va s1):wpAny (model U w) A (eval x aa) Q (XS false U w J fl aa nm aP s0 out) s:=
 tF (λei=>V.1 hm eo H rfl ei) H X h hn kk
theorem UB {γ:Type} {b:Bool} (X:aj (cQ aa) aP s0 Z s) {o:aT} {k:Flow→Locals→ag→aT} {out:aT} {t:Sem γ} {P:aT→γ→Shared→Prop} {Q:γ→Shared→Prop} (h:o.bind k=out) (hn:out≠ .stuck)
    (ih:o≠ .stuck→wpAny (model U w) A t (P o) (XS b U w J fl aa nm Z s o) s) (hP:∀e L O r s',P (.exc e L O) r s'→False)
    (kk:∀f L O,o= .ok f L O→k f L O=out→∀r s',P (.ok f L O) r s'→s.toks≤s'.toks→Q r s'):wpAny (model U w) A t Q (XS b U w J fl aa nm aP s0 out) s:=match o,h,ih,kk with
 | .stuck,h,_,_=>absurd h.symm hn
 | .ok f L ae,h,ih,kk=>mS (ih nofun) (λr s' p ht=>kk f L ae rfl h r s' p ht) λ_ _ x _=>x.elim
 | .exc e L ae,h,ih,_=>mS (ih nofun) (λr s' p _=>(hP _ _ _ _ _ p).elim) λv s' x ht=>XS.after X x λe' L' af q=>by cases q;exact h.symm
structure UT (U:Program) (w:World) (J:Heap) (fl:List Env) (aa:Env) (Z:aH) (O:ag) (s:Shared) (h':Heap) (k:Nat):Prop where
 x:aj (cQ aa) Z s Z {s with heap:=h',toks:=k}
 st:St U w J fl Z O {s with heap:=h',toks:=k}
 v:VK J Z s.heap Z h'
theorem Iu (H:aR U w J fl aa nm Z O L s) {h':Heap} (a9:Heap.SameBut aa.locals s.heap h') {m:Str→Option Value} (hm:h'.Ns aa.locals m) (k:Nat) (hk:s.toks≤k):
  UT U w J fl aa Z O s h' k:=by
 obtain ⟨m0,⟨o0,es,ep,PL,eE,_⟩,_⟩:=H.loc
 obtain ⟨o1,adg,acH,pS,dp,_⟩:=hm
 have v:VK J Z s.heap Z h':=by
  refine ⟨List.prefix_refl _,λb o e nf ⟨vs,n,hd⟩ _=>⟨o.slots,(a9.2 b λz=>?_).trans e⟩,λb o e=>(a9.2 b λz=>?_).trans (H.st.stays b o e),H.st.sr.off,H.st.sr.cells⟩
  ·subst z;rw [PL] at e;cases e;rw [eE] at hd;cases hd
  ·subst z;rw [H.ou] at e;cases e
 refine ⟨⟨List.prefix_refl _,λb o e _ nx=>(a9.2 b nx).trans e,λb e=>?_,λn p hn e=>(by rw [List.getElem?_eq_none hn] at e;cases e),rfl,rfl,rfl⟩,
  ⟨H.st.sr.grow v λb o q e=>(a9.2 b λz=>H.jJ (z▸q)).trans e,v.stays,om H.st.frames λa ha o ho hd=>?_,H.st.jC,adk H.st.tok hk⟩,v⟩
 ·show (h'.get? b).isSome
  by_cases z:b=aa.locals
  ·subst z;rw [pS];rfl
  ·rw [a9.2 b z];exact e
 ·by_cases z:a=aa.locals
  ·subst z;exact ⟨o1,pS,λvs q=>by rw [dp] at q;cases q⟩
  ·exact ⟨o,(a9.2 a z).trans ho,hd⟩
theorem Rm {i j:Nat} {v u:V} (h:(L.put i v).get j=some u):(j=i∧u=v)∨(j≠i∧L.get j=some u):=by
 unfold Locals.put Locals.get at*
 by_cases hj:j=i
 ·subst hj
  by_cases hl:j<L.length
  ·rw [List.getElem?_set_self hl] at h
   cases h;exact .inl ⟨rfl,rfl⟩
  ·rw [List.getElem?_eq_none (by rw [List.length_set];omega)] at h;cases h
 ·rw [List.getElem?_set_ne (Ne.symm hj)] at h
  exact .inr ⟨hj,h⟩
theorem m7 {sc:Scope} {i:Nat} {x:Str} (h:dR sc nm i x=true):nm[i]?=some x∧sc.names.lookup x=some .local∧iP sc nm i x=true:=by
 unfold dR at h
 simp only [Bool.and_eq_true,beq_iff_eq,bne_iff_ne,ne_eq] at h
 refine ⟨h.1.1,h.1.2,?_⟩
 unfold iP
 simp [h.1.1,h.1.2,h.2]
structure wJ (U:Program) (w:World) (J:Heap) (fl:List Env) (aa:Env) (nm:List Str) (Z:aH) (s:Shared) (af:ag) (L':Locals) (s':Shared):Prop where
 x:aj (cQ aa) Z s Z s'
 h:aR U w J fl aa nm Z af L' s'
theorem vT (eo:bJ gl bl aa) (ef:eN fl aa nm) (H:aR U w J fl aa nm Z O L s) {i:Nat} {x:Str} {v:V} {y:Value} (hi:dR aa.scope nm i x=true) (rv:RV J s.heap Z v y):
  wpAny (model U w) A (storeName aa x y) (λ_ s'=>wJ U w J fl aa nm Z s O (L.put i v) s') E0 s:=by
 replace hi:=m7 hi
 obtain ⟨m,hm,hl⟩:=H.loc
 refine wpAny_storeName_local (m:=m) hi.2.1 hm (λh' cv a9=>?_) (tJ eo.kind)
 obtain ⟨X,S,V⟩:=Iu H a9 cv (s.toks+1) (Nat.le_succ _)
 refine ⟨X,S,⟨_,cv,λj u hu=>?_⟩,H.jJ,H.ou⟩
 rcases Rm hu with ⟨rfl,rfl⟩ |⟨hj,hu⟩
 ·exact ⟨x,y,hi.1,RV.mono V rv,.inl ⟨hi.2.1,by simp⟩⟩
 ·obtain ⟨nn,z,hn,rz,hz⟩:=hl j u hu
  have cz:nn≠x:=λe=>by
   subst e
   exact hj ((List.getElem?_inj (List.getElem?_eq_some_iff.mp hn).1 ef.nodup).mp (hn.trans hi.1.symm))
  refine ⟨nn,z,hn,RV.mono V rz,?_⟩
  rcases hz with ⟨hk,hz⟩ |⟨hk,c,hc,hz⟩
  ·exact .inl ⟨hk,by simp [cz,hz]⟩
  ·obtain ⟨o,ho,hd⟩:=hz
   refine .inr ⟨hk,c,hc,o,(a9.2 c λz=>?_).trans ho,hd⟩
   subst z
   obtain ⟨o',_,_,dZ,bO,_⟩:=hm
   rw [ho] at dZ;cases dZ;rw [hd] at bO;cases bO
noncomputable def rD (U:Program) (w:World) (J:Heap) (fl:List Env) (A:Around) (aa:Env) (nm:List Str):Prop:=∀(E0:Value→Shared→Prop) (Z:aH) (s:Shared) (out:aT) (v:Value) (s':Shared) (gz:ag),St U w J fl Z gz s→
 XS false U w J fl aa nm Z s out v s'→wpAny (model U w) A (noteFrame v aa) (λ_ cc=>XS true U w J fl aa nm Z s out v cc) E0 s'
noncomputable def fw (U:Program) (w:World) (J:Heap) (gl bl:Addr) (fl:List Env) (A:Around) (C:Calls) (fu:Nat) (st:S):Prop:=
 ∀{aa:Env} {nm:List Str} {x:PySem.Stmt} {L:Locals} {O:ag} {out:aT} {Z:aH} {s:Shared},fp aa.scope nm st x=true→bJ gl bl aa→eN fl aa nm→aR U w J fl aa nm Z O L s→ex C fu st L O=out→out≠ .stuck→
  wpAny (model U w) A (exec x aa) (PS U w J fl aa nm Z s out) (XS false U w J fl aa nm Z s out) s
noncomputable def io (U:Program) (w:World) (J:Heap) (gl bl:Addr) (fl:List Env) (A:Around) (C:Calls) (fu:Nat) (st:Ss):Prop:=
 ∀{aa:Env} {nm:List Str} {xs:List PySem.Stmt} {L:Locals} {O:ag} {out:aT} {Z:aH} {s:Shared},ez aa.scope nm st xs=true→bJ gl bl aa→eN fl aa nm→aR U w J fl aa nm Z O L s→ah C fu st L O=out→out≠ .stuck→
  wpAny (model U w) A (execs xs aa) (PS U w J fl aa nm Z s out) (XS false U w J fl aa nm Z s out) s
theorem uQ {t:Option PySem.Expr} {l:Nat} {aa:Env}:∀{v:PySem.Expr},kG v=true→swapsWith v t l aa=pure false:=by
 intro v
 cases v<;>first |exact λ_=>rfl |exact λh=>absurd h Bool.false_ne_true
theorem yv {af:ag} (X:aj (cQ aa) aP s0 Z s) (H:aR U w J fl aa nm Z O L s) {s':Shared} (x:Left U w J Z s af s') (ht:s.toks≤s'.toks):PS U w J fl aa nm aP s0 (.ok .next L af) .next s':=
 ⟨Z,X.trans x.1.loc,H.ext x.1 x.2 ht,rfl⟩
theorem LF {i:Nat} {v:V} {x:Str} {y:Value} (eo:bJ gl bl aa) (ef:eN fl aa nm) (X:aj (cQ aa) aP s0 Z s) (H:aR U w J fl aa nm Z O L s) (hi:dR aa.scope nm i x=true) (rv:RV J s.heap Z v y):
  wpAny (model U w) A (storeName aa x y) (λ_ s'=>PS U w J fl aa nm aP s0 (.ok .next (L.put i v) O) .next s') E0 s:=
 wpAny_mono (vT eo ef H hi rv) (λ_ cc p=>⟨Z,X.trans p.x,p.h,rfl⟩) λ_ _ x=>x
theorem n6 {e:E} (a1:a8 U w J gl bl fl A C fu e):fw U w J gl bl fl A C fu (.expr e):=λ{aa nm x L O out Z s} hm eo ef H h hn=>Tz (P:=λx=>wpAny (model U w) A (exec x aa) _ _ s) hm λy p h1 h2=>
 wpAny_Expr_any (ic a1 h1 eo H (aj.refl _ _ _) h hn λv ae va ao s1 h X1 _ H1 r1=>h▸⟨ao,X1,H1,rfl⟩) (by unfold interactive;rw [eo.kind];rfl) (uQ h2)
theorem VN {i:Nat} {e:E} (a1:a8 U w J gl bl fl A C fu e):fw U w J gl bl fl A C fu (.aA i e):=λ{aa nm x L O out Z s} hm eo ef H h hn=>Y1 (P:=λx=>wpAny (model U w) A (exec x aa) _ _ s) hm λnn q y p h1 h2 h3=>
 wpAny_Assign_Name (ic a1 h2 eo H (aj.refl _ _ _) h hn λv ae va ao s1 h X1 _ H1 r1=>h▸LF eo ef X1 H1 h1 r1) (uQ h3)
theorem Ol (B:cx U w J gl bl K) {o e:E} {f:Nat} (a1:a8 U w J gl bl fl A C fu o) (b1:a8 U w J gl bl fl A C fu e):fw U w J gl bl fl A C fu (.setAttr o f e):=λ{aa nm x L O out Z s} hm eo ef H h hn=>Q3 (P:=λx=>wpAny (model U w) A (exec x aa) _ _ s) hm λy nn q v p h1 h2 h3 h4=>
 plainObj_wpAny_Assign_Attribute (ic b1 h3 eo H (aj.refl _ _ _) h hn λv ae va ao s1 h X1 _ H1 r1=>ic a1 h2 eo H1 X1 h hn λu az vb eM s2 h X2 k2 H2 r2=>fo h hn λcM hs h=>match Dl h1 with
  |⟨hf,e⟩=>h▸e▸mM (YN B.kf (tw B H2.st) H2.st hf r2 (RV.mono k2 r1) hs) (λ_ s3 x t3=>yv X2 H2 x t3) λ_ _ x=>x) (uQ h4)
theorem Uu {o i e:E} (a1:a8 U w J gl bl fl A C fu o) (b1:a8 U w J gl bl fl A C fu i) (c1:a8 U w J gl bl fl A C fu e):fw U w J gl bl fl A C fu (.eQ o i e):=λ{aa nm x L O out Z s} hm eo ef H h hn=>SW (P:=λx=>wpAny (model U w) A (exec x aa) _ _ s) hm λy j q v p h1 h2 h3 h4 h5=>
 wpAny_Assign_Subscript (ic c1 h4 eo H (aj.refl _ _ _) h hn λv ae va ao s1 h X1 _ H1 r1=>ic a1 h1 eo H1 X1 h hn λu az vb eM s2 h X2 k2 H2 r2=>ic b1 h2 eo H2 X2 h hn λz cM vc ni s3 h X3 k3 H3 r3=>fo h hn λeH hs h=>
  h▸mM (Mu H3.st (RV.mono k3 r2) r3 (RV.mono k3 (RV.mono k2 r1)) hs) (λ_ s4 x t4=>yv X3 H3 x t4) λ_ _ x=>x) (uQ h5)
theorem Cs {i:Nat} {op:BinOp} {e:E} (a1:a8 U w J gl bl fl A C fu e):fw U w J gl bl fl A C fu (.gJ i op e):=λ{aa nm x L O out Z s} hm eo ef H h hn=>ZN (P:=λx=>wpAny (model U w) A (exec x aa) _ _ s) hm λnn q v p h1 h2=>fo h hn λu hu h=>
 wpAny_AugAssign_Name (tF (o:= .ok u O) (k:=λu O=>(ev C fu e L O).toS L λy O=>(jr op O u y).toS L λz O=> .ok .next (L.put i z) O) (λ_=>Ee eo H (m7 h1).2.2 hu) H (aj.refl _ _ _) h hn λu ae va ao s1 h X1 _ H1 r1=>ic a1 h2 eo H1 X1 h hn λu2 az vb eM s2 h X2 k2 H2 r2=>
  tF (λei=>JQ H2.st (RV.mono k2 r1) r2 rfl ei) H2 X2 h hn λz cM vc ni s3 h X3 k3 H3 r3=>h▸LF eo ef X3 H3 h1 r3)
theorem QP:∀{j:PySem.Expr},lg j=true→∀(o i new:Value),augStore j o i new=(do holding [new,o,i] (setItem o i new);release [new,o,i] [];pure PySem.Flow.next):=by
 intro j
 cases j<;>first |exact λ_ _ _ _=>rfl |exact λh=>absurd h Bool.false_ne_true
theorem B5 {o i e:E} {op:BinOp} (a1:a8 U w J gl bl fl A C fu o) (b1:a8 U w J gl bl fl A C fu i) (c1:a8 U w J gl bl fl A C fu e):fw U w J gl bl fl A C fu (.g9 o i op e):=λ{aa nm x L O out Z s} hm eo ef H h hn=>Rn (P:=λx=>wpAny (model U w) A (exec x aa) _ _ s) hm λy j q v p h1 h2 h3 h4=>
 wpAny_AugAssign_SubscriptAny (ic a1 h1 eo H (aj.refl _ _ _) h hn λv ae va ao s1 h X1 _ H1 r1=>ic b1 h2 eo H1 X1 h hn λu az vb eM s2 h X2 k2 H2 r2=>
  tF (λei=>m6 (P:=λo=>wpAny (model U w) A (getItem va vb) (aI U w J aE eM s2 o) (bh U w J _ eM s2 o) s2) rfl ei λz hz=>match C8 H2.st.sr (RV.mono k2 r1) r2 hz with |⟨_,_,g,_,_⟩=>g) H2 X2 h hn λz cM vc ni s3 h X3 k3 H3 r3=>
  ic c1 h4 eo H3 X3 h hn λz4 eH vd sG s4 h X4 k4 H4 r4=>tF (λei=>JQ H4.st (RV.mono k4 r3) r4 rfl ei) H4 X4 h hn λz5 lV vf wU s5 h X5 k5 H5 r5=>fo h hn λyZ hs h=>
  h▸mM (Mu H5.st (RV.mono k5 (RV.mono k4 (RV.mono k3 (RV.mono k2 r1)))) (RV.mono k5 (RV.mono k4 (RV.mono k3 r2))) r5 hs) (λ_ s6 x t6=>yv X5 H5 x t6) λ_ _ x=>x) (QP h3)
theorem uU {e:E} (a1:a8 U w J gl bl fl A C fu e):fw U w J gl bl fl A C fu (.ret e):=λ{aa nm x L O out Z s} hm eo ef H h hn=>Oc (P:=λx=>wpAny (model U w) A (exec x aa) _ _ s) hm λy p h1=>
 wpAny_Return_some (ic a1 h1 eo H (aj.refl _ _ _) h hn λv ae va ao s1 h X1 _ H1 r1=>h▸⟨ao,X1,H1,va,rfl,r1⟩)
theorem vi:fw U w J gl bl fl A C fu .lI:=λ{aa nm x L O out Z s} hm eo ef H h hn=>Sg (P:=λx=>wpAny (model U w) A (exec x aa) _ _ s) hm λp=>h▸wpAny_Return_none ⟨Z,aj.refl _ _ _,H,.none,rfl,vR⟩
theorem wj:fw U w J gl bl fl A C fu .brk:=λ{aa nm x L O out Z s} hm eo ef H h hn=>aa2 (P:=λx=>wpAny (model U w) A (exec x aa) _ _ s) hm λp=>h▸wpAny_Break ⟨Z,aj.refl _ _ _,H,rfl⟩
theorem Rf {o i:E} (a1:a8 U w J gl bl fl A C fu o) (b1:a8 U w J gl bl fl A C fu i):fw U w J gl bl fl A C fu (.lJ o i):=λ{aa nm x L O out Z s} hm eo ef H h hn=>U3 (P:=λx=>wpAny (model U w) A (exec x aa) _ _ s) hm λy j q p h1 h2 h3=>
 wpAny_Delete (wpAny_deleteEach_cons (wpAny_delete_Subscript (ic a1 h1 eo H (aj.refl _ _ _) h hn λv ae va ao s1 h X1 _ H1 r1=>ic b1 h2 eo H1 X1 h hn λu az vb eM s2 h X2 k2 H2 r2=>fo h hn λcM hs h=>
  h▸mM (XK H2.st (RV.mono k2 r1) r2 hs) (λ_ s3 x t3=>wpAny_deleteEach_nil (yv X2 H2 x t3)) λ_ _ x=>x)))
end
noncomputable def vx (U:Program) (w:World) (J:Heap) (fl:List Env) (A:Around) (aa:Env) (nm:List Str):Prop:=∀(Z:aH) (s:Shared) (out:aT) (v:Value) (s':Shared) (gz:ag),St U w J fl Z gz s→
 XS true U w J fl aa nm Z s out v s'→cameBackBy (model U w) A aa (XS false U w J fl aa nm Z s out) v s'
section
variable {U:Program} {w:World} {J:Heap} {gl bl:Addr} {K:Frag} {fl:List Env} {Z ai ao aP:aH} {O af ae:ag} {s s' s1 s0 s2:Shared} {A:Around} {E0:Value→Shared→Prop} {aa:Env} {nm:List Str} {L L':Locals}
variable {C:Calls} {n fu:Nat}
theorem z7 {γ:Type} {gz:ag} (S0:St U w J fl aP gz s0) (hN:rD U w J fl A aa nm) {t:Sem γ} {Q:γ→Shared→Prop} {out:aT} {R:Value→Shared→Prop} (hR:∀x s',XS true U w J fl aa nm aP s0 out x s'→R x s')
    (h:wpAny (model U w) A t Q (XS false U w J fl aa nm aP s0 out) s):wpAny (model U w) A t Q (notedBy (model U w) A aa R) s:=
 wpAny_mono h (λ_ _ x=>x) λv s' x=>wpAny_mono (hN R aP s0 out v s' gz S0 x) (λ_ cc y=>hR v cc y) λ_ _ y=>y
structure Wa (U:Program) (w:World) (J:Heap) (fl:List Env) (aa:Env) (nm:List Str) (ao:aH) (s1:Shared) (ai:aH) (af:ag) (L':Locals) (s':Shared) (h':Heap) (k:Nat):Prop where
 x:aj (cQ aa) ao s1 ai {s' with heap:=h',toks:=k}
 h:aR U w J fl aa nm ai af L' {s' with heap:=h',toks:=k}
 v:VK J ai s'.heap ai h'
theorem zA {a:Addr} {En:List Str} {L1:Locals} (H1:aR U w J fl aa nm ao ae L1 s1) (X:aj (cQ aa) ao s1 ai s') (H:aR U w J fl aa nm ai af L' s') (ha:s1.heap.get? a=none) (nf:¬bL ai a) {h':Heap} (a9:∀b o,b≠a→s'.heap.get? b=some o→h'.get? b=some o)
    (BV:∀o v,s'.heap.get? a=some o→o.data≠ .cell v)
    (xu:∀o,s'.heap.get? a=some o→(∃vs n,o.data= .seq vs n)→o.cls≠ .type "tuple") (k:Nat) (hk:s'.toks≤k):
  Wa U w J fl aa nm ao s1 ai af L' s' h' k:=by
 have nb:J.get? a=none:=jG H1.st.stays ha
 have v:VK J ai s'.heap ai h':=by
  refine ⟨List.prefix_refl _,λb o e nf hq hc=>⟨o.slots,a9 b o (λz=>?_) e⟩,λb o e=>a9 b o (λz=>?_) (H.st.stays b o e),H.st.sr.off,H.st.sr.cells⟩
  ·subst z
   rcases hc with hc |hc
   ·exact xu o e hq hc
   ·rw [nb] at hc;cases hc
  ·subst z;rw [nb] at e;cases e
 have Ir:(s1.heap.get? aa.locals).isSome:=by obtain ⟨m,⟨o,_,_,e,_⟩,_⟩:=H1.loc;rw [e];rfl
 have cz:aa.locals≠a:=λe=>by rw [e,ha] at Ir;cases Ir
 refine ⟨⟨X.pre,λb o e nf nx=>a9 b o (λz=>by subst z;rw [ha] at e;cases e) (X.keep b o e nf nx),λb e=>?_,X.new,X.gens,X.drawn,X.os⟩,
  ⟨⟨H.st.sr.grow v λb o q e=>a9 b o (λz=>nf (z▸q)) e,v.stays,om H.st.frames λb hb o ho hd=>⟨o,a9 b o (λz=>?_) ho,hd⟩,H.st.jC,adk H.st.tok hk⟩,H.loc.mono v λb o e _ hb=>a9 b o (λz=>?_) e,H.jJ,H.ou⟩,v⟩
 ·obtain ⟨o,ho⟩:=Option.isSome_iff_exists.mp (X.live b e)
  show (h'.get? b).isSome
  rw [a9 b o (λz=>by subst z;rw [ha] at e;cases e) ho];rfl
 ·subst z
  obtain ⟨_,o',dZ,_⟩:=me H1.st.frames b hb
  rw [ha] at dZ;cases dZ
 ·subst z
  rcases hb with hb |⟨x,hd⟩
  ·exact cz hb.symm
  ·exact BV o _ e hd
@[elab_as_elim] theorem I6 {h:Heap} {f:Flow} {r:PySem.Flow} {k out:aT} {P:PySem.Flow→Prop} (e:f.turn L O k=out) (fv:FV J h Z f r) (k1:k=out→P .next) (k2:out= .ok .next L O→P .brk) (k3:∀v x,out= .ok (.ret v) L O→RV J h Z v x→P (.ret x)):P r:=match f,e,fv with
 | .next,e,fv=>Eq.symm (show r=_ from fv)▸k1 e
 | .brk,e,fv=>Eq.symm (show r=_ from fv)▸k2 e.symm
 | .ret v,e,⟨x,q,rv⟩=>q▸k3 v x e.symm rv
@[elab_as_elim] theorem Ek {h:Heap} {f:Flow} {r:PySem.Flow} {k out:aT} {P:PySem.Flow→Prop} (e:f.qg L O k=out) (fv:FV J h Z f r) (k1:k=out→P .next) (k2:out= .ok .brk L O→P .brk) (k3:∀v x,out= .ok (.ret v) L O→RV J h Z v x→P (.ret x)):P r:=match f,e,fv with
 | .next,e,fv=>Eq.symm (show r=_ from fv)▸k1 e
 | .brk,e,fv=>Eq.symm (show r=_ from fv)▸k2 e.symm
 | .ret v,e,⟨x,q,rv⟩=>q▸k3 v x e.symm rv
theorem wB {o:aT} {t:Sem PySem.Flow} {k:Flow→Locals→ag→aT} {out:aT} {Q:PySem.Flow→Shared→Prop} (ih:o≠ .stuck→wpAny (model U w) A t (PS U w J fl aa nm Z s o) (XS false U w J fl aa nm Z s o) s) (X:aj (cQ aa) aP s0 Z s)
    (h:o.bind k=out) (hn:out≠ .stuck) (kk:∀f L1 ae r ao s1,k f L1 ae=out→aj (cQ aa) aP s0 ao s1→aj (cQ aa) Z s ao s1→aR U w J fl aa nm ao ae L1 s1→FV J s1.heap ao f r→Q r s1):wpAny (model U w) A t Q (XS false U w J fl aa nm aP s0 out) s:=
 UB (P:=λo f s'=>PS U w J fl aa nm Z s o f s') X h hn ih (λ_ _ _ _ _ x=>x) λf L1 ae _ h r s1 p _=>match p with
  |⟨ao,X1,H1,fv⟩=>kk f L1 ae r ao s1 h (X.trans X1) X1 H1 fv
theorem Ep {o:aT} {t:Sem PySem.Flow} {b:Bool} (X:aj (cQ aa) aP s0 Z s) (h:wpAny (model U w) A t (PS U w J fl aa nm Z s o) (XS b U w J fl aa nm Z s o) s):wpAny (model U w) A t (PS U w J fl aa nm aP s0 o) (XS b U w J fl aa nm aP s0 o) s:=
 wpAny_mono h (λ_ _ x=>PS.after X x) λ_ _ x=>XS.after X x λ_ _ _ q=>q
theorem MK {e:E} {x:PySem.Expr} {f:Bool→ag→aT} {out:aT} {Q:Bool→Shared→Prop} (T:a8 U w J gl bl fl A C fu e) (hm:aF aa.scope nm e x=true) (eo:bJ gl bl aa) (H:aR U w J fl aa nm Z O L s) (X:aj (cQ aa) aP s0 Z s)
    (h:((ev C fu e L O).toS L λv O=>v.iE .stuck λb=>f b O)=out) (hn:out≠ .stuck) (k:∀b ae ao s1,f b ae=out→aj (cQ aa) aP s0 ao s1→aR U w J fl aa nm ao ae L s1→Q b s1):
  wpAny (model U w) A (isTrue x aa (eval x aa)) Q (XS false U w J fl aa nm aP s0 out) s:=
 Fi (P:=λo b s'=>aI U w J aE Z s o (.bool b) s') X H h hn (λei=>T.2 hm eo H rfl ei λv af q=>by
   rw [q] at h
   exact Mk (P:=λv=>∃b,v= .bool b) h hn λb _=>⟨b,rfl⟩) (λ_ _ _ _ x=>x) λv ae _ h' b s1 p t=>match p with
  |⟨ao,X1,R1,r1⟩=>k b ae ao s1 (by rw [JI r1] at h';exact h') (X.trans X1.loc) (H.ext X1 R1 t)
theorem PD:io U w J gl bl fl A C fu .nil:=λ{aa nm xs L O out Z s} hm eo ef H h hn=>by
 rw [YG hm]
 exact h▸wpAny_execs_nil ⟨Z,aj.refl _ _ _,H,rfl⟩
theorem QD {st:S} {ss:Ss} (a:fw U w J gl bl fl A C fu st) (b:io U w J gl bl fl A C fu ss):io U w J gl bl fl A C fu (.cons st ss):=λ{aa nm xs L O out Z s} hm eo ef H h hn=>yS (Ps:=λxs=>wpAny (model U w) A (execs xs aa) _ _ s) hm λy ys h1 h2=>
 wpAny_execs_cons (wB (λei=>a h1 eo ef H rfl ei) (aj.refl _ _ _) h hn λf L1 ae r ao s1 h X1 _ H1 fv=>Ek h fv (λh=>Ep X1 (b h2 eo ef H1 h hn)) (λh=>h▸⟨ao,X1,H1,rfl⟩) λv x h rv=>h▸⟨ao,X1,H1,x,rfl,rv⟩)
theorem mE {c:E} {a b:Ss} (c1:a8 U w J gl bl fl A C fu c) (sa:io U w J gl bl fl A C fu a) (sb:io U w J gl bl fl A C fu b):fw U w J gl bl fl A C fu (.ite c a b):=λ{aa nm x L O out Z s} hm eo ef H h hn=>NO (P:=λx=>wpAny (model U w) A (exec x aa) _ _ s) hm λt y z p h1 h2 h3=>
 wpAny_If (MK c1 h1 eo H (aj.refl _ _ _) h hn λt ae ao s1 h X1 H1=>match t,h with
  |true,h=>Ep X1 (sa h2 eo ef H1 h hn)
  |false,h=>Ep X1 (sb h3 eo ef H1 h hn))
inductive Jb (U:Program) (w:World) (J:Heap) (fl:List Env) (aa:Env) (nm:List Str) (Z:aH) (s:Shared) (C:Calls) (fu:Nat) (c:E) (b:Ss) (out:aT) (k:Nat) (sy:Shared):Prop where
 |mk (L':Locals) (af:ag) (ai:aH) (hW:kh (ev C fu c) (ah C fu b) k L' af=out) (X:aj (cQ aa) Z s ai sy) (H:aR U w J fl aa nm ai af L' sy):Jb U w J fl aa nm Z s C fu c b out k sy
theorem W3 (hN:∀aa nm,eN fl aa nm→rD U w J fl A aa nm) (hC:∀aa nm,eN fl aa nm→vx U w J fl A aa nm) {c:E} {b:Ss} (c1:a8 U w J gl bl fl A C fu c) (sb:io U w J gl bl fl A C fu b):fw U w J gl bl fl A C fu (.dF c b):=λ{aa nm x L O out Z s} hm eo ef H h hn=>abc (P:=λx=>wpAny (model U w) A (exec x aa) _ _ s) hm λt y p h1 h2=>by
 have cb:∀v s',XS true U w J fl aa nm Z s out v s'→cameBackBy (model U w) A aa (XS false U w J fl aa nm Z s out) v s':=λv s' x=>hC aa nm ef _ _ _ _ _ _ H.st x
 refine wpAny_While (codeAny_whileLoop (Jb U w J fl aa nm Z s C fu c b out) ?_ fu ⟨L,O,Z,h,aj.refl _ _ _,H⟩)
 intro k sy wi
 match k,wi with
 |0,⟨_,_,_,hW,_,_⟩=>exact absurd hW.symm hn
 |k+1,⟨L',af,ai,hW,X,Hy⟩=>
  refine z7 H.st (hN aa nm ef) cb (MK c1 h1 eo Hy X hW hn λt ae ao s1 h X1 H1=>?_)
  match t,h with
  |false,h=>exact h▸wpAny_execs_nil ⟨ao,X1,H1,rfl⟩
  |true,h=>exact z7 H.st (hN aa nm ef) cb (wB (λei=>sb h2 eo ef H1 rfl ei) X1 h hn λf L2 az g eM s2 h X2 _ H2 fv=>I6 h fv (λh=>⟨k,Nat.lt_succ_self _,L2,az,eM,h,X2,H2⟩) (λh=>h▸⟨eM,X2,H2,rfl⟩) λv x h rv=>h▸⟨eM,X2,H2,x,rfl,rv⟩)
inductive Kq (U:Program) (w:World) (J:Heap) (fl:List Env) (aa:Env) (nm:List Str) (ao:aH) (s1:Shared) (C:Calls) (fu:Nat) (I:Addr) (item:Nat→ag→Option (Option V)) (T:Nat→Heap→Prop) (i:Nat) (b:Ss) (out:aT) (k:Nat) (sy:Shared):Prop where
 |mk (j:Nat) (L':Locals) (af:ag) (ai:aH) (hG:jl item i (ah C fu b) k j L' af=out) (X:aj (cQ aa) ao s1 ai sy) (H:aR U w J fl aa nm ai af L' sy) (hT:T j sy.heap) (nI:¬bL ai I):Kq U w J fl aa nm ao s1 C fu I item T i b out k sy
theorem D4 (H:aR U w J fl aa nm Z O L s):(s.heap.get? aa.locals).isSome:=by obtain ⟨m,⟨o,_,_,e,_⟩,_⟩:=H.loc;rw [e];rfl
theorem LP {item:Nat→ag→Option (Option V)} {it:Value} {i:Nat} {b:Ss} {y:List PySem.Stmt} {nn:Str} {q:Pos} {out:aT} {gz:ag} (S0:St U w J fl Z gz s) (eo:bJ gl bl aa) (ef:eN fl aa nm) (hN:rD U w J fl A aa nm)
    (bg:sv U w J A fl aa nm L Z s item ae it s2) (h1:dR aa.scope nm i nn=true) (h2:ez aa.scope nm b y=true) (sb:io U w J gl bl fl A C fu b) (hF:jl item i (ah C fu b) fu 0 L ae=out) (hn:out≠ .stuck) {R:Result→Shared→Prop}
    (hR:∀x s',XS true U w J fl aa nm Z s out x s'→R (.error x) s') (D7:∀f s',PS U w J fl aa nm Z s out f s'→R (.ok f) s'):
  codeAny (model U w) A (.forLoop (.Name nn q) it y [] aa) R s2:=by
 obtain ⟨I,ao,s1,T,rfl,X0,H1,hI,X1,H2,fd,hT⟩:=bg
 obtain ⟨acp,ac8,abr,aaF⟩:=fd.at' _ _ hT
 have Ha:¬cQ aa I:=λe=>by have:=D4 H1;rw [←(show I=aa.locals from e),hI] at this;cases this
 refine codeAny_forLoop (Kq U w J fl aa nm ao s1 C fu I item T i b out) ?_ fu ⟨0,L,ae,ao,hF,X1.loc,H2,hT,H2.st.sr.BY abr aaF⟩
 intro k sy fi
 match k,fi with
 |0,⟨_,_,_,_,hG,_,_,_,_⟩=>exact absurd hG.symm hn
 |k+1,⟨j,L',af,ai,hG,X,Hy,CE,nI⟩=>
  obtain ⟨oI,vI,jt,mD⟩:=fd.at' _ _ CE
  have MP:∀o v,sy.heap.get? I=some o→o.data≠ .cell v:=λo v e q=>by rw [jt] at e;cases e;rw [mD] at q;cases q
  refine fo hG hn λo hv hG=>Gi hG (λv ho hG=>?_) λho hG=>?_
  ·refine fd.vB j v ai af sy _ _ X.pre CE Hy.st.sr (ho▸hv) λh' z tk qs a9 Cp rz=>?_
   have a:=zA (En:=nm) H1 X Hy hI nI (λb o hb e=>(a9.2 b hb).trans e) MP (wR (h':=h') jt mD) tk Cp
   refine wpAny_assign_Name (wpAny_mono (vT eo ef a.h h1 (RV.mono a.v rz)) (λ_ s3 st=>?_) λ_ _ x=>x)
   refine z7 S0 hN hR (wB (λei=>sb h2 eo ef st.h rfl ei) ((X0.loc.trans a.x).trans st.x) hG hn λf L2 az g sG s4 h X4 X5 H4 fv=>?_)
   obtain ⟨oJ,_,KJ,_⟩:=fd.at' _ _ qs
   have I3:=st.x.keep _ _ KJ nI Ha
   refine I6 h fv (λh=>⟨k,Nat.lt_succ_self _,j+1,L2,az,sG,h,(a.x.trans st.x).trans X5,H4,fd.same _ _ _ qs ((X5.keep _ _ I3 nI Ha).trans KJ.symm),λq=>nI (gT X5 (by rw [I3];rfl) q)⟩) (λh=>D7 _ _ (h▸⟨sG,X4,H4,rfl⟩)) λv x h rv=>D7 _ _ (h▸⟨sG,X4,H4,x,rfl,rv⟩)
  ·refine fd.stop j ai af sy _ _ X.pre CE Hy.st.sr (ho▸hv) λh' a9=>?_
   have a:=zA (En:=nm) H1 X Hy hI nI (λb o hb e=>a9 b o hb e) MP (wR (h':=h') jt mD) sy.toks (adp _)
   exact wpAny_execs_nil (D7 _ _ (hG▸⟨ai,X0.loc.trans a.x,a.h,rfl⟩))
theorem ZY {item:Nat→ag→Option (Option V)} {i jq j:Nat} {f:Locals→ag→aT} {out:aT} (h:jl item i f jq j L O=out) (hn:out≠ .stuck):∃o,item j O=some o:=match jq,h with
 |0,h=>absurd h.symm hn
 |k+1,h=>fo h hn λo ho _=>⟨o,ho⟩
theorem Vq {m j:Nat} {o:Option V} (h:j4 m j O=some o):∃vs,O[m]?=some (.list vs):=
 rU h sn λc hc e=>xr (P:=λc=>O[m]?=some c→∃vs,O[m]?=some (.list vs)) e (λus _ hc=>⟨us,hc⟩) (λe=>absurd e.symm sn) hc
theorem vE {e:aX} {out:aT} {v:Value} (H:aR U w J fl aa nm Z O L s) (h:aT.exc e L ae=out) (x:bh U w J (· ∈bb fl) Z s (.exc e ae:Out V) v s1) (t1:s.toks≤s1.toks):XS false U w J fl aa nm Z s out v s1:=match x with
 |⟨ai,y,a1,a2,a3,a4⟩=>h▸⟨ai,y,a1,cV.chain (aj.refl _ _ _) a2 λ_ q=>q.elim,H.exc a2 a3 t1,a4⟩
theorem p6 (R:bI n 10 fl A) (hN:∀aa nm,eN fl aa nm→rD U w J fl A aa nm) (hC:∀aa nm,eN fl aa nm→vx U w J fl A aa nm) {i:Nat} {e:E} {b:Ss} (a1:a8 U w J gl bl fl A C fu e) (sb:io U w J gl bl fl A C fu b):fw U w J gl bl fl A C fu (.forL i e b):=λ{aa nm x L O out Z s} hm eo ef H h hn=>OA (P:=λx=>wpAny (model U w) A (exec x aa) _ _ s) hm λnn q it y p h1 h2 h3=>by
 replace h:((ev C fu e L O).toS L λv O=>v.dY .stuck λn=>jl (j4 n) i (ah C fu b) fu 0 L O)=out:=h
 refine wpAny_For (Jk (fu:=fu) R eo H h2 a1.1 (λq=>?_) (λe1 ae q v s1 x t1=>?_) (λv ae q=>?_) λm ae q it s2 bg=>?_) λz=>K6 (zm h2)
 ·rw [q] at h;exact hn h.symm
 ·rw [q] at h;exact vE H h x t1
 ·rw [q] at h
  exact GH (P:=λv=>∃m vs,v= .ref m∧ae[m]?=some (.list vs)) h hn λm h=>match ZY h hn with
   |⟨o,ho⟩=>match Vq ho with
    |⟨vs,hs⟩=>⟨m,vs,rfl,hs⟩
 ·rw [q] at h
  exact LP H.st eo ef (hN aa nm ef) bg h1 h3 sb h hn (λx s' xx=>hC aa nm ef _ _ _ _ _ _ H.st xx) λf s' pp=>pp
theorem xj (B:cx U w J gl bl K) (R:bI n 10 fl A) (hN:∀aa nm,eN fl aa nm→rD U w J fl A aa nm) (hC:∀aa nm,eN fl aa nm→vx U w J fl A aa nm) {i:Nat} {e:E} {b:Ss} (a1:a8 U w J gl bl fl A C fu e) (sb:io U w J gl bl fl A C fu b):fw U w J gl bl fl A C fu (.forR i e b):=λ{aa nm x L O out Z s} hm eo ef H h hn=>aaw (P:=λx=>wpAny (model U w) A (exec x aa) _ _ s) hm λnn q pr pn pc y p h1 h0 h2 h3=>by
 replace h:((ev C fu e L O).toS L λv O=>v.cA .stuck λk=>if smallInt k=true then jl (f9 k) i (ah C fu b) fu 0 L O else aT.stuck)=out:=h
 refine wpAny_For (Jr (fu:=fu) B R eo H h0 h2 a1.1 (λq=>?_) (λe1 ae q v s1 x t1=>?_) (λv ae q=>?_) λk ae q it s2 bg=>?_)
 ·rw [q] at h;exact hn h.symm
 ·rw [q] at h;exact vE H h x t1
 ·rw [q] at h
  exact G3 (P:=λv=>∃k,v= .int k∧smallInt k=true) h hn λk h=>da h hn λhs _=>⟨k,rfl,hs⟩
 ·rw [q] at h
  exact da (show (if smallInt k=true then jl (f9 k) i (ah C fu b) fu 0 L ae else aT.stuck)=out from h) hn λ_ h=>LP H.st eo ef (hN aa nm ef) bg h1 h3 sb h hn (λx s' xx=>hC aa nm ef _ _ _ _ _ _ H.st xx) λf s' pp=>pp
end
section
variable {U:Program} {w:World} {J:Heap} {gl bl:Addr} {K:Frag} {fl:List Env} {Z ai ao aP:aH} {O af ae az:ag} {s s' s1 s0 s2:Shared} {A:Around} {E0:Value→Shared→Prop} {aa:Env} {nm:List Str} {L L':Locals}
variable {C:Calls} {n fu:Nat}
theorem Hb {sc:Scope}:∀{is:List Nat} {ts:List PySem.Expr},oL sc nm is ts=true→assignEach ts aa=ts.map λt=>(false,assign t aa)
 |[],ts,h=>fR (P:=λts=>assignEach ts aa=ts.map λt=>(false,assign t aa)) h λ_=>rfl
 |i::is,ts,h=>CC (Ps:=λts=>assignEach ts aa=ts.map λt=>(false,assign t aa)) h λy p r _ h2=>congrArg ((false,assign (.Name y p) aa):: ·) (Hb h2)
theorem Gb {P:List V→Prop} {i:Nat} {is:List Nat} {vs:List V} (h:putAll L (i::is) vs=some L') (k:∀v r,putAll (L.put i v) is r=some L'→P (v::r)):P vs:=match vs,h with
 |v::r,h=>k v r h
theorem Vv {α:Type} {P:List V→Prop} {vs:List V} {d x r:α} (h:qO vs d x=r) (hn:r≠d) (k:x=r→P []):P vs:=match vs,h with
 |[],h=>k h
 |_::_,h=>absurd h.symm hn
theorem CZ {α:Type} {c:Prop} [i:Decidable c] {a b:α} (h:b=a):(if c then a else b)=a:=match i with
 | .isTrue _=>rfl
 | .isFalse _=>h
theorem TJ {ts:List PySem.Expr} {k:Nat} {q:Pos}:∀{v:PySem.Expr},Av v=true→swappedStores [.Tuple ts k q] v aa=pure none:=by
 intro v
 cases v with
 |Tuple vs l p=>
  intro h
  have h:vs.all (foldedForSure 8)=true:=h
  refine CZ (CZ (CZ (if_pos h)))
 |_=>exact λ_=>rfl
theorem aak (H:aR U w J fl aa nm Z O L s) (p:wJ U w J fl aa nm Z s af L' s'):VK J Z s.heap Z s'.heap:=by
 obtain ⟨m,⟨o,es,ep,ho,hd,_⟩,_⟩:=H.loc
 exact p.x.vk H.st.sr p.h.st.stays λb o' q e vs n bO=>by
  have:b=aa.locals:=q
  subst this
  rw [ho] at e;cases e;rw [hd] at bO;cases bO
theorem E8 (eo:bJ gl bl aa) (ef:eN fl aa nm):∀{is:List Nat} {ts:List PySem.Expr} {vs:List V} {ws:List Value} {L L':Locals} {s:Shared},oL aa.scope nm is ts=true→putAll L is vs=some L'→aD J s.heap Z vs ws→aR U w J fl aa nm Z O L s→
  wpAny (model U w) A (assignInOrder (ts.map λt=>assign t aa) ws) (λ_ s'=>wJ U w J fl aa nm Z s O L' s') E0 s
 |[],ts,vs,ws,L,L',s,h,hp,r,H=>fR (P:=λts=>wpAny (model U w) A (assignInOrder (ts.map λt=>assign t aa) ws) _ E0 s) h λ_=>wQ (P:=λ_ ws=>wpAny (model U w) A (assignInOrder [] ws) _ E0 s) hp sn r λhp=>
   ct (P:=λL'=>wpAny (model U w) A (assignInOrder [] []) (λ_ s'=>wJ U w J fl aa nm Z s O L' s') E0 s) hp (wpAny_pure ⟨aj.refl _ _ _,H⟩)
 |i::is,ts,vs,ws,L,L',s,h,hp,r,H=>CC (Ps:=λts=>wpAny (model U w) A (assignInOrder (ts.map λt=>assign t aa) ws) _ E0 s) h λy q ts hi h2=>Gb (P:=λvs=>aD J s.heap Z vs ws→wpAny (model U w) A (assignInOrder ((.Name y q::ts).map λt=>assign t aa) ws) _ E0 s) hp (λv vs hp r=>
   k7 (P:=λws=>wpAny (model U w) A (assignInOrder ((.Name y q::ts).map λt=>assign t aa) ws) _ E0 s) r λa ac ra rr=>
    wpAny_bind (wpAny_holding (wpAny_assign_Name (wpAny_mono (vT eo ef H hi ra) (λ_ s1 p=>wpAny_mono (E8 eo ef h2 hp (aD.mono (aak H p) rr) p.h) (λ_ s2 p2=>⟨p.x.trans p2.x,p2.h⟩) λ_ _ x=>x) λ_ _ x=>x)))) r
theorem KL {sc:Scope}:∀{is:List Nat} {ts:List PySem.Expr} {vs:List V} {L L':Locals},oL sc nm is ts=true→putAll L is vs=some L'→ts.length=vs.length
 |[],ts,vs,L,L',h,hp=>fR (P:=λts=>ts.length=vs.length) h λ_=>Vv (P:=λvs=>([]:List PySem.Expr).length=vs.length) hp sn λ_=>rfl
 |i::is,ts,vs,L,L',h,hp=>CC (Ps:=λts=>ts.length=vs.length) h λy q r _ h2=>Gb (P:=λvs=>(PySem.Expr.Name y q::r).length=vs.length) hp λv vs hp=>congrArg Nat.succ (KL h2 hp)
theorem pW (R:bI n 10 fl A) {is:List Nat} {e:E} (a1:a8 U w J gl bl fl A C fu e):fw U w J gl bl fl A C fu (.unpack is e):=λ{aa nm x L O out Z s} hm eo ef H h hn=>UW (P:=λx=>wpAny (model U w) A (exec x aa) _ _ s) hm λts k q v p h1 h2 h3 h4 h5=>by
 refine wpAny_Assign_stores (ic a1 h2 eo H (aj.refl _ _ _) h hn λv ae va ao s1 h X1 _ H1 r1=>VQ (P:=λ_ va=>wpAny (model U w) A (assignAll va ((assignEach [.Tuple ts k q] aa).map (·.2))) _ _ s1) h hn r1 λus a ws ht rs h=>fo h hn λL2 hp h=>?_) (show swapsWithSole _ _ _ _=_ from uQ (t:=some (.Tuple ts k q)) (l:=p.line) (aa:=aa) h3) (TJ h4)
 have he:=Hb (aa:=aa) h1
 show wpAny _ A (assign (.Tuple ts k q) aa (.ref a)) _ _ _
 refine wpAny_assign_Tuple R.hand ht (by rw [he,List.length_map,Gy rs];exact KL h1 hp) (by rw [he];simp [List.findIdx?_eq_none_iff]) λh' Wr=>?_
 rw [he,List.map_map]
 have g:∀c o,s1.heap.get? c=some o→h'.get? c=some o:=λc o e=>Wr c o (Nat.ne_of_lt (Heap.lt_size e)) e
 have E1:aj aE ao s1 ao {s1 with heap:=h'}:=⟨List.prefix_refl _,λb o e _ _=>g b o e,λb e=>by
  obtain ⟨o,ho⟩:=Option.isSome_iff_exists.mp e
  show (h'.get? b).isSome
  rw [g b o ho];rfl,λn p hn e=>(by rw [List.getElem?_eq_none hn] at e;cases e),rfl,rfl,rfl⟩
 have vk:=E1.fe H1.st
 exact wpAny_mono (E8 eo ef h1 hp (aD.mono vk rs) (H1.ext E1 (H1.st.sr.grow vk λb o _ e=>g b o e) (adp _))) (λ_ s2 p=>h▸⟨ao,(X1.trans E1.loc).trans p.x,p.h,rfl⟩) λ_ _ x=>x
theorem Tn {a:PySem.Expr} {b:List Comprehension} {c:Scope} {p q:Pos} {nn:Str} {l:Nat} (eo:bJ gl bl aa) (hl:aa.kindOf nn=some .local) (hq:q.line=p.line) (hc:(c.names.any λy=>y.1==nn&&(y.2== .local||y.2== .cell))=false):
  swapsWithSole [.Name nn q] (.ListComp a b c p) l aa=pure true:=by
 show pure (aa.blockKind== .function&&aa.kindOf nn==some .local&&q.line==p.line&& !(c.names.any λy=>y.1==nn&&(y.2== .local||y.2== .cell)))=_
 have:aa.blockKind= .function:=by unfold Env.blockKind;rw [eo.kind];rfl
 rw [this,hl,hq,hc]
 simp
structure Z7 (U:Program) (w:World) (J:Heap) (fl:List Env) (aa:Env) (nm:List Str) (ao:aH) (s1:Shared) (ai:aH) (s':Shared) (D:Addr) (az:ag) (vs:List V) (L:Locals):Prop where
 x:aj aE ao s1 (ai++[(D,D)]) s'
 h:aR U w J fl aa nm (ai++[(D,D)]) (az++[.list vs]) L s'
 r:RV J s'.heap (ai++[(D,D)]) (.ref az.length) (.ref D)
theorem Ta {D Cc:Addr} {vs:List V} (H1:aR U w J fl aa nm ao ae L s1) (d:n7 U w J fl ao s1 D Cc vs az ai s'):
  Z7 U w J fl aa nm ao s1 ai s' D az vs L:=by
 obtain ⟨ws,hD,rs⟩:=d.acc
 have nb:J.get? D=none:=jG H1.st.stays d.newD
 have v:VK J ai s'.heap (ai++[(D,D)]) s'.heap:=⟨List.prefix_append _ _,λb o e _ _ _=>⟨o.slots,e⟩,d.st.stays,d.st.sr.off,d.st.sr.cells⟩
 have R:SR U w J s'.heap (ai++[(D,D)]) (az++[.list vs]):=d.st.sr.add (p:=(D,D)) v ⟨rfl,d.len,ws,hD,aD.mono v rs⟩ (λb o _ e=>e) d.yy d.yy nb nb
 have X:aj aE ao s1 (ai++[(D,D)]) s':=by
  refine ⟨d.ext.pre.trans (List.prefix_append _ _),d.ext.keep,d.ext.live,λn p hn e=>?_,d.ext.gens,d.ext.drawn,d.ext.os⟩
  by_cases aK:n<ai.length
  ·rw [List.getElem?_append_left aK] at e
   exact d.ext.new n p hn e
  ·rw [List.getElem?_append_right (Nat.le_of_not_lt aK)] at e
   cases hk:n-ai.length with
   |zero=>rw [hk] at e;cases e;exact ⟨d.newD,d.newD⟩
   |succ j=>rw [hk] at e;simp at e
 refine ⟨X,H1.ext2 X ⟨R,d.st.stays,d.st.frames,λa ha q=>?_,d.st.tok⟩,?_⟩
 ·obtain ⟨_,o,ho,_⟩:=me H1.st.frames a ha
  exact H1.st.jC a ha (gT X (by rw [ho];rfl) q)
 ·exact ⟨(D,D),by rw [←d.st.sr.len];simp,rfl⟩
theorem Pr {b:Addr} {p:Addr×Addr} (h:bL (Z++[p]) b):bL Z b∨b=p.1∨b=p.2:=by
 obtain ⟨q,hq,e⟩:=h
 rcases List.mem_append.mp hq with z |z
 ·exact .inl ⟨q,z,e⟩
 ·rw [List.mem_singleton] at z;subst z;exact .inr e
theorem Ze {D Cc:Addr} {vs:List V} {i:Nat} {nn:Str} {q:Pos} (eo:bJ gl bl aa) (ef:eN fl aa nm) (X0:aj aE Z s ao s1) (H1:aR U w J fl aa nm ao ae L s1) (d:n7 U w J fl ao s1 D Cc vs az ai s') (hi:dR aa.scope nm i nn=true):
  wpAny (model U w) A (assignAll (.ref D) ((assignEach [.Name nn q] aa).map (·.2))) (λ_ cc=>∃m,cc.heap.Ns Cc m∧∀h',Heap.SameBut Cc cc.heap h'→PS U w J fl aa nm Z s (.ok .next (L.put i (.ref az.length)) (az++[.list vs])) .next {cc with heap:=h'}) E0 s':=by
 obtain ⟨X2,H2,r2⟩:=Ta H1 d
 obtain ⟨m,cv⟩:=d.ns
 show wpAny _ A (assign (.Name nn q) aa (.ref D)) _ _ _
 refine wpAny_assign_Name (wpAny_mono (vT eo ef H2 hi r2) (λ_ s3 st=>?_) λ_ _ x=>x)
 have nC:¬bL (ai++[(D,D)]) Cc:=λq=>by
  rcases Pr q with z |z |z
  ·exact d.KZ z
  ·exact d.ne z.symm
  ·exact d.ne z.symm
 have Ti:¬cQ aa Cc:=λe=>by
  have:=D4 H1
  rw [←(show Cc=aa.locals from e),d.vw] at this;cases this
 obtain ⟨oC,ZH,UZ,aaD,Fx,rC⟩:=cv
 have Jq:s3.heap.get? Cc=some oC:=st.x.keep _ _ aaD nC Ti
 have Lk:s3.heap.Ns Cc m:=⟨oC,ZH,UZ,Jq,Fx,rC⟩
 refine ⟨m,Lk,λh' a9=>?_⟩
 have a:=zA (En:=nm) H1 (X2.loc.trans st.x) st.h d.vw nC (λb o hb e=>(a9.2 b hb).trans e) (λo v e q=>by rw [Jq] at e;cases e;rw [Fx] at q;cases q) (CU Lk) s3.toks (adp _)
 exact ⟨_,X0.loc.trans a.x,a.h,rfl⟩
theorem Wo {pe:PySem.Expr} {gs:List Comprehension} {aG:Scope} {p q r:Pos} {nn:Str} {i:Nat} {out:aT} (eo:bJ gl bl aa) (h1:dR aa.scope nm i nn=true) (h3:q.line=p.line) (h4:(aG.names.any λy=>y.1==nn&&(y.2== .local||y.2== .cell))=false)
    (aQ:wpAny (model U w) A (comprehension (.ListComp pe gs aG p) aG aa (firstIterPos gs p) (newList []) (firstAsync gs) (firstIter gs aa) (some λv=>assignAll v ((assignEach [.Name nn q] aa).map (·.2)))) (λ_ s'=>PS U w J fl aa nm Z s out .next s') (XS false U w J fl aa nm Z s out) s):
  wpAny (model U w) A (exec (.Assign [.Name nn q] (.ListComp pe gs aG p) r) aa) (PS U w J fl aa nm Z s out) (XS false U w J fl aa nm Z s out) s:=by
 rw [exec_Assign_arm]
 refine wpAny_bind (wpAny_standAt ?_)
 rw [Tn eo (m7 h1).2.1 h3 h4]
 refine wpAny_bind (wpAny_pure ?_)
 rw [if_pos rfl]
 have e1:evalThenUse (.ListComp pe gs aG p) aa (λv=>assignAll v ((assignEach [.Name nn q] aa).map (·.2)))=(comprehension (.ListComp pe gs aG p) aG aa (firstIterPos gs p) (newList []) (firstAsync gs) (firstIter gs aa) (some λv=>assignAll v ((assignEach [.Name nn q] aa).map (·.2)))>>=λ_=>pure ()):=rfl
 rw [e1]
 exact wpAny_bind (wpAny_bind (wpAny_mono aQ (λ_ _ x=>wpAny_pure (wpAny_pure x)) λ_ _ x=>x))
theorem Hi {o:Out V} {out:aT} {i:Nat} {nn:Str} {q:Pos} (eo:bJ gl bl aa) (ef:eN fl aa nm) (h1:dR aa.scope nm i nn=true) (h:o.toS L (λv O=> .ok .next (L.put i v) O)=out):
  ∀D Cc ao s1 ae ai s' vs az,o= .ok (.ref az.length) (az++[.list vs])→aj aE Z s ao s1→aR U w J fl aa nm ao ae L s1→n7 U w J fl ao s1 D Cc vs az ai s'→
   compPost (model U w) A (XS false U w J fl aa nm Z s out) (some λv=>assignAll v ((assignEach [.Name nn q] aa).map (·.2))) (λ_ s'=>PS U w J fl aa nm Z s out .next s') (.ref D) Cc (.ok .next) s':=λD Cc ao s1 ae ai s' vs az ho X0 H1 d=>by
 rw [ho] at h
 exact (show aT.ok .next (L.put i (.ref az.length)) (az++[.list vs])=out from h)▸Ze eo ef X0 H1 d h1
theorem GZ {o:Out V} {k:V→ag→aT} {out:aT} (h:o.toS L k=out) (hn:out≠ .stuck):o≠ .stuck:=λq=>by rw [q] at h;exact hn h.symm
theorem JW {o:Out V} {k:V→ag→aT} {out:aT} (H:aR U w J fl aa nm Z O L s) (h:o.toS L k=out):∀e1 ae,o= .exc e1 ae→∀v s',bh U w J (· ∈bb fl) Z s (.exc e1 ae:Out V) v s'→s.toks≤s'.toks→XS false U w J fl aa nm Z s out v s':=λe1 ae q v s' x t=>by
 rw [q] at h;exact vE H h x t
theorem Sx {i:Nat} {e:E} {a:PySem.Expr} {b:List Comprehension} {c:Scope} {p q:Pos} {nn:Str} {out:aT} (B:cx U w J gl bl K) (R:bI n 10 fl A) (ih:∀e,a8 U w J gl bl fl A C fu e) (eo:bJ gl bl aa) (ef:eN fl aa nm) (H:aR U w J fl aa nm Z O L s) (hn:out≠ .stuck)
    (h0:(e.ctorIdx==25||e.ctorIdx==26)=true) (h1:dR aa.scope nm i nn=true) (h2:aF aa.scope nm e (.ListComp a b c p)=true) (h:(ev C fu e L O).toS L (λv O=> .ok .next (L.put i v) O)=out):
  wpAny (model U w) A (comprehension (.ListComp a b c p) c aa (firstIterPos b p) (newList []) (firstAsync b) (firstIter b aa) (some λv=>assignAll v ((assignEach [.Name nn q] aa).map (·.2)))) (λ_ s'=>PS U w J fl aa nm Z s out .next s') (XS false U w J fl aa nm Z s out) s:=by
 have k1:∀bc caps iter,aF aa.scope nm (.comp bc caps iter) (.ListComp a b c p)=true→(ev C fu (.comp bc caps iter) L O).toS L (λv O=> .ok .next (L.put i v) O)=out→
  wpAny (model U w) A (comprehension (.ListComp a b c p) c aa (firstIterPos b p) (newList []) (firstAsync b) (firstIter b aa) (some λv=>assignAll v ((assignEach [.Name nn q] aa).map (·.2)))) (λ_ s'=>PS U w J fl aa nm Z s out .next s') (XS false U w J fl aa nm Z s out) s:=λbc caps iter h2 h=>
  wV (P:=λx=>x= .ListComp a b c p→_) h2 (λpe y q2 cI aG p2 g1 g2 g3 e1=>by
   cases e1
   exact zZ eo (Lz g1) g2 g3 (ih bc).1 (K7 R eo H g1 (ih iter).1 rfl (GZ h hn) (JW H h)) (Hi eo ef h1 h)) rfl
 have k2:∀bc caps iter,aF aa.scope nm (.iS bc caps iter) (.ListComp a b c p)=true→(ev C fu (.iS bc caps iter) L O).toS L (λv O=> .ok .next (L.put i v) O)=out→
  wpAny (model U w) A (comprehension (.ListComp a b c p) c aa (firstIterPos b p) (newList []) (firstAsync b) (firstIter b aa) (some λv=>assignAll v ((assignEach [.Name nn q] aa).map (·.2)))) (λ_ s'=>PS U w J fl aa nm Z s out .next s') (XS false U w J fl aa nm Z s out) s:=λbc caps iter h2 h=>
  wo (P:=λx=>x= .ListComp a b c p→_) h2 (λpe y q2 pr pn pc aG p2 g0 g1 g2 g3 e1=>by
   cases e1
   exact zZ eo (λ_=>rfl) g2 g3 (ih bc).1 (Ki B R eo H g0 g1 (ih iter).1 rfl (GZ h hn) (JW H h)) (Hi eo ef h1 h)) rfl
 generalize wpAny (model U w) A (comprehension (.ListComp a b c p) c aa (firstIterPos b p) (newList []) (firstAsync b) (firstIter b aa) (some λv=>assignAll v ((assignEach [.Name nn q] aa).map (·.2)))) (λ_ s'=>PS U w J fl aa nm Z s out .next s') (XS false U w J fl aa nm Z s out) s=G at*
 exact Tq (P:=λe=>aF aa.scope nm e (.ListComp a b c p)=true→(ev C fu e L O).toS L (λv O=> .ok .next (L.put i v) O)=out→G) h0 k1 k2 h2 h
theorem WO {i:Nat} {e:E} (B:cx U w J gl bl K) (R:bI n 10 fl A) (ih:∀e,a8 U w J gl bl fl A C fu e):fw U w J gl bl fl A C fu (.lZ i e):=λ{aa nm x L O out Z s} hm eo ef H h hn=>PK (P:=λx=>wpAny (model U w) A (exec x aa) _ _ s) hm λnn q a b c p r h0 h1 h2 h3 h4=>
 Wo (i:=i) eo h1 h3 h4 (Sx B R ih eo ef H hn h0 h1 h2 h)
end
section
variable {U:Program} {w:World} {J:Heap} {gl bl:Addr} {K:Frag} {fl outer:List Env} {Z ai ao aP:aH} {O af ae az:ag} {s s' s1 s0 s2:Shared} {A:Around} {E0:Value→Shared→Prop} {aa:Env} {nm:List Str} {L L':Locals}
variable {C:Calls} {n fu:Nat}
noncomputable def NK (fl:List Env) (Y:Addr→Prop) (h h':Heap):Prop:=∀b o,h.get? b=some o→¬Y b→∃sl,h'.get? b=some {o with slots:=sl}∧(b∉bb fl→sl=o.slots)
theorem NK.refl (fl:List Env) (Y:Addr→Prop) (h:Heap):NK fl Y h h:=λb o e _=>⟨o.slots,e,λ_=>rfl⟩
theorem NK.trans {Y Y':Addr→Prop} {h h' AJ:Heap} (a:NK fl Y h h') (b:NK fl Y' h' AJ):NK fl (λc=>Y c∨Y' c) h AJ:=λc o e ny=>by
 obtain ⟨sl,e1,f1⟩:=a c o e λq=>ny (.inl q)
 obtain ⟨DI,e2,f2⟩:=b c _ e1 λq=>ny (.inr q)
 exact ⟨DI,e2,λq=>(f2 q).trans (f1 q)⟩
inductive Entry (fl:List Env) (h:Heap) (x:Addr) (o:Obj) (h':Heap):Prop where
 |mk (T:Addr) (ot:Obj) (dq:Array Value) (e1:h'.get? x=some (o.mapFields (·.setIfInBounds 1 (.ref T)))) (e2:h.get? T=none) (e3:T≠x) (e4:h'.get? T=some ot) (e5:ot.data= .fields dq) (e6:4≤dq.size) (nk:NK fl (· =x) h h') (live:∀b,(h.get? b).isSome→(h'.get? b).isSome):Entry fl h x o h'
theorem V1 {h:Heap} {x:Addr} {o:Obj} {vs:Array Value} (sA:h.FunFrames J fl) (ho:h.get? x=some o) (hd:o.data= .fields vs):x∉bb fl:=λhm=>by
 obtain ⟨_,o',dZ,vU⟩:=me sA x hm
 rw [ho] at dZ;cases dZ;exact vU vs hd
theorem Ri {h fB oa:Heap} {x T:Addr} {o ot:Obj} {vs dq:Array Value} (ho:h.get? x=some o) (hd:o.data= .fields vs) (yd:x∉bb fl) (bS:fB.objs.size=h.objs.size) (FO:∀b,b∉bb fl→fB.get? b=h.get? b) (Yz:∀b ob,h.get? b=some ob→∃sl,fB.get? b=some {ob with slots:=sl})
    (hT:T=fB.objs.size) (push:∀b ob,fB.get? b=some ob→oa.get? b=some ob) (f6:oa.get? T=some ot) (eX:ot.data= .fields dq) (h4:4≤dq.size):Entry fl h x o (oa.update x (Obj.mapFields (·.setIfInBounds 1 (.ref T)))):=by
 have wz:fB.get? x=some o:=(FO x yd).trans ho
 have YO:=push _ _ wz
 have yx:T≠x:=by rw [hT];exact Nat.ne_of_gt (Heap.lt_size wz)
 have QR:h.get? T=none:=by rw [hT,bS];exact fX _
 have nk:NK fl (· =x) h (oa.update x (Obj.mapFields (·.setIfInBounds 1 (.ref T)))):=λb ob e nx=>by
  obtain ⟨sl,e1⟩:=Yz b ob e
  refine ⟨sl,(Heap.get?_update_other _ _ (Ne.symm nx)).trans (push _ _ e1),λq=>?_⟩
  have:=FO b q
  rw [e1,e] at this
  injection this with this
  exact congrArg Obj.slots this
 have Mi:=Heap.get?_update_self (Obj.mapFields (·.setIfInBounds 1 (Value.ref T))) YO (Obj.isFreed_of_fields (Obj.data_mapFields hd (·.setIfInBounds 1 (Value.ref T))))
 refine ⟨T,ot,dq,Mi,QR,yx,(Heap.get?_update_other _ _ (Ne.symm yx)).trans f6,eX,h4,nk,λb hb=>?_⟩
 by_cases vv:b=x
 ·rw [vv,Mi];rfl
 ·obtain ⟨ob,mq⟩:=Option.isSome_iff_exists.mp hb
  obtain ⟨sl,e1,_⟩:=nk b ob mq vv
  rw [e1];rfl
theorem MS {x Lx:Addr} {o:Obj} {vs:Array Value} {head:Value} {Zo:Bool} {Q:Unit→Shared→Prop} (qB:A.frames=some (aa::outer)) (sA:s.heap.FunFrames J (aa::outer)) (hf:aa.frame=some Lx) (ho:s.heap.get? x=some o) (hd:o.data= .fields vs) (bS:vs.size=6)
    (h:∀h',Entry (aa::outer) s.heap x o h'→Q () {s with heap:=h'}):
  wpAny (model U w) A (do let a←frameOf aa;let pl←entryPlaceOf Lx Zo;let b←EntryCells.newEntry head a .none (rawInt Lx) .none pl;setField (.ref x) 1 b) Q E0 s:=by
 have yd:=V1 sA ho hd
 refine wpAny_bind (wpAny_frameOf_fun qB sA hf λfB xw=>wpAny_bind (wpAny_entryPlaceOf λpl qe=>?_))
 unfold EntryCells.newEntry newFields
 refine wpAny_bind (wpAny_newObj_type ?_ (qe.sizeOk5 _ _ _ _ _))
 have wz:fB.get? x=some o:=(xw.2.1 x yd).trans ho
 refine wpAny_setField (Heap.get?_push_of_some _ wz) hd (by rw [bS];decide) (h _ ?_)
 refine Ri ho hd yd xw.1 xw.2.1 xw.2.2 rfl (λb ob e=>Heap.get?_push_of_some _ e) (Heap.get?_push_size fB rfl) rfl ?_
 simp only [List.size_toArray,List.length_append,List.length_cons,List.length_nil];omega
theorem Fl {b':Bool} {e:aX} {x:Addr} {h':Heap} {Y:Addr→Prop} (S:St U w J fl Z O s) (X:cV (cQ aa) (· ∈bb fl) Z s ai s') (H:aR U w J fl aa nm ai af L' s')
    (hY:∀b,Y b→s.heap.get? b=none∧∃o vs,s'.heap.get? b=some o∧o.data= .fields vs) (nk:NK fl Y s'.heap h') (live:∀b,(s'.heap.get? b).isSome→(h'.get? b).isSome) (ex:VK J ai s'.heap ai h'→ka b' J s.heap h' ai x e):
  XS b' U w J fl aa nm Z s (.exc e L' af) (.ref x) {s' with heap:=h'}:=by
 have stays:J.StaysIn h':=λb o q=>by
  obtain ⟨sl,e1,f1⟩:=nk b o (H.st.stays b o q) λy=>by
   have:=S.stays b o q
   rw [(hY b y).1] at this;cases this
  have:sl=o.slots:=f1 λm=>by
   have:=(me H.st.frames b m).1
   rw [this] at q;cases q
  rw [e1,this]
 have v:VK J ai s'.heap ai h':=⟨List.prefix_refl _,λb o q nf ⟨vs,n,hd⟩ _=>by
  obtain ⟨sl,e1,_⟩:=nk b o q λy=>by
   obtain ⟨_,o',kF,e2,bO⟩:=hY b y
   rw [q] at e2;cases e2;rw [hd] at bO;cases bO
  exact ⟨sl,e1⟩,stays,H.st.sr.off,H.st.sr.cells⟩
 refine ⟨ai,x,rfl,⟨X.pre,λb o q nf nx=>?_,λb q=>live b (X.live b q),X.new,X.gens,X.drawn,X.os⟩,⟨⟨H.st.sr.grow v λb o q e1=>?_,stays,om H.st.frames λa ha o ho hd=>?_,H.st.jC,H.st.tok⟩,H.loc.JE v λb o q hd hb=>?_,H.jJ,H.ou⟩,ex v⟩
 ·obtain ⟨sl,e1,f1⟩:=X.keep b o q nf nx
  obtain ⟨DI,e2,f2⟩:=nk b _ e1 λy=>by rw [(hY b y).1] at q;cases q
  exact ⟨DI,e2,λm=>(f2 m).trans (f1 m)⟩
 ·obtain ⟨sl,e2,f2⟩:=nk b o e1 λy=>by
   obtain ⟨_,o',kF,e3,bO⟩:=hY b y
   exact H.st.sr.BY e3 bO q
  have:sl=o.slots:=f2 λm=>H.st.jC b m q
  rw [e2,this]
 ·obtain ⟨sl,e1,_⟩:=nk a o ho λy=>by
   obtain ⟨_,o',kF,e2,bO⟩:=hY a y
   rw [ho] at e2;cases e2;exact hd kF bO
  exact ⟨_,e1,hd⟩
 ·obtain ⟨sl,e1,_⟩:=nk b o q λy=>by
   obtain ⟨_,o',kF,e2,bO⟩:=hY b y
   rw [q] at e2;cases e2
   rcases hb with rfl |⟨z,hz⟩
   ·obtain ⟨m,⟨o2,_,_,e3,zF,_⟩,_⟩:=H.loc
    rw [q] at e3;cases e3;rw [zF] at bO;cases bO
   ·rw [hz] at bO;cases bO
  exact ⟨sl,e1⟩
theorem Xy (o:Obj) (f:Array Value→Array Value):(o.mapFields f).dict=o.dict:=by
 obtain ⟨c,d,dt,sl⟩:=o;cases dt<;>rfl
theorem YL {e:aX} {h0 hA h':Heap} {x T:Addr} {o ot:Obj} {dx:Addr} {vs dq:Array Value} {es:List DictEntry} {nn:Nat} {Y:Addr→Prop} (v:VK J ai hA ai h') (fresh:h0.get? x=none) (off:¬bL ai x) (cR:o.cls= .ref bA) (dm:o.dict=some dx) (hd:o.data= .fields vs) (bS:vs.size=6)
    (d1:h0.get? dx=none) (d2:¬bL ai dx) (d3:hA.get? dx=some (dictOf es nn)) (d4:cD J hA ai [(11,e.k),(12,e.a),(13,e.d)] es)
    (hx:h'.get? x=some (o.mapFields (·.setIfInBounds 1 (.ref T)))) (hT:h0.get? T=none) (yx:T≠x) (f6:h'.get? T=some ot) (eX:ot.data= .fields dq) (h4:4≤dq.size) (nk:NK fl Y hA h') (ny:¬Y dx) (nf:dx∉bb fl):ka true J h0 h' ai x e:=by
 obtain ⟨sl,e1,f1⟩:=nk dx _ d3 ny
 have TP:=f1 nf
 refine ⟨fresh,off,_,dx,_,es,nn,hx,(Obj.cls_mapFields _ _).trans cR,(Xy _ _).trans dm,Obj.data_mapFields hd _,by rw [Array.size_setIfInBounds];exact bS,.yes T ot dq ?_ hT yx f6 eX h4,d1,d2,?_,cD.mono v d4⟩
 ·rw [Array.getElem?_setIfInBounds_self_of_lt (by omega)]
 ·rw [e1,TP]
@[elab_as_elim] theorem ta {b:Bool} {out:aT} {v:Value} {P:aT→Value→Prop} (z:XS b U w J fl aa nm Z s out v s')
    (k:∀e L' af ai x,cV (cQ aa) (· ∈bb fl) Z s ai s'→aR U w J fl aa nm ai af L' s'→ka b J s.heap s'.heap ai x e→P (.exc e L' af) (.ref x)):P out v:=match out,z with
 | .exc e L' af,⟨ai,x,hv,hx,hh,he⟩=>Eq.symm hv▸k e L' af ai x hx hh he
 | .stuck,z | .ok _ _ _,z=>z.elim
structure Uz (fl:List Env) (h h':Heap) (tb:Addr) (HC:Obj):Prop where
 at':h'.get? tb=some HC
 other:∀b,b≠tb→h'.get? b=h.get? b
 nk:NK fl (· =tb) h h'
 live:∀b,(h.get? b).isSome→(h'.get? b).isSome
theorem K5 {h:Heap} {tb:Addr} {ot:Obj} {dq:Array Value} {f:Array Value→Array Value} (f6:h.get? tb=some ot) (eX:ot.data= .fields dq):Uz fl h (h.update tb (Obj.mapFields f)) tb (ot.mapFields f):=by
 have Fu:=Heap.get?_update_self (Obj.mapFields f) f6 (Obj.isFreed_of_fields (Obj.data_mapFields eX f))
 have other:∀b,b≠tb→(h.update tb (Obj.mapFields f)).get? b=h.get? b:=λb hb=>Heap.get?_update_other _ _ (Ne.symm hb)
 refine ⟨Fu,other,λb ob q nb=>⟨ob.slots,(other b nb).trans q,λ_=>rfl⟩,λb q=>?_⟩
 by_cases hb:b=tb
 ·rw [hb,Fu];rfl
 ·rw [other b hb];exact q
theorem vW {dq:Array Value} (h4:4≤dq.size):3<dq.size:=h4
theorem Jp {e:aX} {x dx:Addr} {o:Obj} {vs:Array Value} {es:List DictEntry} {nn:Nat} {h0 h':Heap} {Y:Addr→Prop} {gz:ag} (S:St U w J fl Z gz s) (X:cV (cQ aa) (· ∈bb fl) Z s ai s') (H:aR U w J fl aa nm ai af L' s') (fresh:s.heap.get? x=none) (off:¬bL ai x) (cR:o.cls= .ref bA) (dm:o.dict=some dx) (hd:o.data= .fields vs) (bS:vs.size=6)
    (d1:s.heap.get? dx=none) (d2:¬bL ai dx) (d3:s'.heap.get? dx=some (dictOf es nn)) (d4:cD J s'.heap ai [(11,e.k),(12,e.a),(13,e.d)] es) (en:Entry fl h0 x o h') (hY:∀b,Y b∨b=x→s.heap.get? b=none∧∃o vs,s'.heap.get? b=some o∧o.data= .fields vs) (ny:¬Y dx) (yz:dx≠x) (L4:NK fl Y s'.heap h0) (JJ:∀b,(s'.heap.get? b).isSome→(h0.get? b).isSome):
  XS true U w J fl aa nm Z s (.exc e L' af) (.ref x) {s' with heap:=h'}:=by
 obtain ⟨T,ot,dq,e1,e2,e3,e4,e5,e6,nk,live⟩:=en
 have nf:dx∉bb fl:=λm=>by
  obtain ⟨_,o',dZ,_⟩:=me S.frames dx m
  rw [d1] at dZ;cases dZ
 exact Fl (Y:=λc=>Y c∨c=x) S X H hY (L4.trans nk) (λb q=>live b (JJ b q)) λvk=>YL (Y:=λc=>Y c∨c=x) vk fresh off cR dm hd bS d1 d2 d3 d4 e1 (gP X.live (gP JJ e2)) e3 e4 e5 e6 (L4.trans nk) (λq=>q.elim ny yz) nf
theorem uJ (qB:A.frames=some fl) (ef:eN fl aa nm):rD U w J fl A aa nm:=λE0 Z s out v s' gz S z=>by
 refine ta z λe L' af ai x X H ex=>?_
 obtain ⟨fresh,off,o,dx,vs,es,nn,ho,cR,dm,hd,bS,j3,d1,d2,d3,d4⟩:=ex
 obtain ⟨outer,rfl⟩:=ef.head
 have yz:dx≠x:=λq=>by rw [q,ho] at d3;cases d3;cases hd
 have Ja:∀b,b=x→s.heap.get? b=none∧∃o vs,s'.heap.get? b=some o∧o.data= .fields vs:=λb hb=>hb▸⟨fresh,o,vs,ho,hd⟩
 unfold noteFrame
 simp only [ef.frame]
 cases j3 with
 |no _ h1=>
  refine wpAny_bind (wpAny_field ho hd h1 ?_)
  rw [if_neg (by decide)]
  exact MS qB H.st.frames ef.frame ho hd bS λh' en=>Jp (Y:=λ_=>False) S X H fresh off cR dm hd bS d1 d2 d3 d4 en (λb hb=>hb.elim False.elim (Ja b)) id yz (λb o q _=>⟨o.slots,q,λ_=>rfl⟩) λ_ q=>q
 |yes tb ot dq h1 sH rJ f6 eX h4=>
  refine wpAny_bind (wpAny_field ho hd h1 ?_)
  rw [if_pos (show (Value.ref tb !=Value.none)=true from bne_iff_ne.2 nofun)]
  refine wpAny_bind (wpAny_field f6 eX (Array.getElem?_eq_getElem (vW h4)) ?_)
  by_cases Nu:(dq[3]'(vW h4)==rawInt aa.locals)=true
  ·rw [if_pos Nu]
   exact wpAny_pure ⟨ai,x,rfl,X,H,fresh,off,o,dx,vs,es,nn,ho,cR,dm,hd,bS,.yes tb ot dq h1 sH rJ f6 eX h4,d1,d2,d3,d4⟩
  ·rw [if_neg Nu]
   refine wpAny_bind (wpAny_setField f6 eX (vW h4) ?_)
   have u:=K5 (fl:=aa::outer) (f:=(·.setIfInBounds 3 Value.none)) f6 eX
   have yP:dx≠tb:=λq=>by rw [q,f6] at d3;cases d3;cases eX
   generalize s'.heap.update tb (Obj.mapFields (·.setIfInBounds 3 Value.none))=h1 at u ⊢
   have sA:h1.FunFrames J (aa::outer):=om H.st.frames λa ha ob mq vU=>⟨ob,(u.other a λq=>by rw [q,f6] at mq;cases mq;exact vU _ eX).trans mq,vU⟩
   exact MS (s:={s' with heap:=h1}) qB sA ef.frame ((u.other x (Ne.symm rJ)).trans ho) hd bS λh' en=>Jp (s':=s') (Y:=(· =tb)) S X H fresh off cR dm hd bS d1 d2 d3 d4 en (λb hb=>hb.elim (λq=>q▸⟨sH,ot,dq,f6,eX⟩) (Ja b)) yP yz u.nk u.live
theorem xp {b:Bool} {out:aT} {v:Value} {fa:Option Addr} (S:St U w J fl Z O s) (z:XS b U w J fl aa nm Z s out v s'):wpAny (model U w) A (setFlight v fa) (λ_ cc=>XS b U w J fl aa nm Z s out v cc) E0 s':=by
 refine ta z λe L' af ai x X H ex=>?_
 obtain ⟨fresh,off,o,dx,vs,es,nn,ho,cR,dm,hd,bS,j3,d1,d2,d3,d4⟩:=ex
 unfold setFlight
 cases j3 with
 |no hb h1=>
  refine wpAny_bind (wpAny_field ho hd h1 ?_)
  rw [if_neg (by decide)]
  exact wpAny_pure ⟨ai,x,rfl,X,H,fresh,off,o,dx,vs,es,nn,ho,cR,dm,hd,bS,.no hb h1,d1,d2,d3,d4⟩
 |yes tb ot dq h1 sH rJ f6 eX h4=>
  refine wpAny_bind (wpAny_field ho hd h1 ?_)
  rw [if_pos (show (Value.ref tb !=Value.none)=true from bne_iff_ne.2 nofun)]
  refine wpAny_setField f6 eX (vW h4) ?_
  have u:=K5 (fl:=fl) (f:=(·.setIfInBounds 3 (fa.elim Value.none λf=>rawInt f))) f6 eX
  have yP:dx≠tb:=λq=>by rw [q,f6] at d3;cases d3;cases eX
  have od:=Obj.data_mapFields eX (·.setIfInBounds 3 (fa.elim Value.none λf=>rawInt f))
  generalize ot.mapFields (·.setIfInBounds 3 (fa.elim Value.none λf=>rawInt f))=HC at u od
  generalize s'.heap.update tb (Obj.mapFields (·.setIfInBounds 3 (fa.elim Value.none λf=>rawInt f)))=h2 at u ⊢
  exact Fl (Y:=(· =tb)) S X H (λb hb=>hb▸⟨sH,ot,dq,f6,eX⟩) u.nk u.live λvk=>⟨fresh,off,o,dx,vs,es,nn,(u.other x (Ne.symm rJ)).trans ho,cR,dm,hd,bS,.yes tb _ _ h1 sH rJ u.at' od (by rw [Array.size_setIfInBounds];exact h4),d1,d2,(u.other dx yP).trans d3,cD.mono vk d4⟩
theorem XS.weaken {out:aT} {v:Value} (z:XS true U w J fl aa nm Z s out v s'):XS false U w J fl aa nm Z s out v s':=ta (P:=λout v=>XS false U w J fl aa nm Z s out v s') z λe L' af ai x X H ex=>match ex with
 |⟨fresh,off,o,dx,vs,es,nn,ho,cR,dm,hd,bS,j3,r1,r2,r3,r4⟩=>⟨ai,x,rfl,X,H,fresh,off,o,dx,vs,es,nn,ho,cR,dm,hd,bS,(match j3 with
  | .no q _=>nomatch q
  | .yes tb ot dq q1 q2 q3 q4 q5 q6=> .yes tb ot dq q1 q2 q3 q4 q5 q6),r1,r2,r3,r4⟩
theorem Be (ef:eN fl aa nm):vx U w J fl A aa nm:=λZ s out v s' gz S z=>ta (P:=λout v=>XS true U w J fl aa nm Z s out v s'→cameBackBy (model U w) A aa (XS false U w J fl aa nm Z s out) v s') z (λe L' af ai x X H ex z0=>match ex with
 |⟨fresh,off,o,dx,vs,es,nn,ho,cR,dm,hd,bS,j3,d1,d2,d3,d4⟩=>match j3 with
  | .no q _=>nomatch q
  | .yes tb ot dq h1 sH rJ f6 eX h4=>by
   unfold cameBackBy
   refine wpAny_bind (wpAny_field ho hd h1 ?_)
   rw [if_neg (show ¬(Value.ref tb==Value.none)=true from λq=>nomatch (beq_iff_eq.1 q))]
   exact wpAny_mono (xp S z0) (λ_ _ y=>XS.weaken y) λ_ _ y=>y) z
theorem ZR {out:aT} {v:Value} (qB:A.frames=some fl) (ef:eN fl aa nm) (S:St U w J fl Z O s) (z:XS false U w J fl aa nm Z s out v s'):
  wpAny (model U w) A (leaving aa v) (λ_ cc=>XS true U w J fl aa nm Z s out v cc) E0 s':=by
 unfold leaving
 exact wpAny_bind (wpAny_mono (uJ qB ef E0 Z s out v s' O S z) (λ_ s1 y=>xp S y) λ_ _ y=>y)
end
inductive oT (J:Heap) (gl bl:Addr) (f:Nat) (F:Fn):Prop where
 |mk (o:Obj) (fd:FuncData) (body:List PySem.Stmt) (nm:List Str) (ho:J.get? (bQ f)=some o) (hd:o.data= .func fd) (hk:fd.scope.kind= .function) (hg:fd.scope.isGenerator=false) (hc:fd.scope.isCoroutine=false) (Mr:fd.globals=gl) (uG:fd.builtins=bl) (gK:fd.closure=[])
      (GX:fd.body= .stmts body) (vQ:J.CodeRec fd.code fd.qualname) (hm:ez fd.scope nm F.body body=true) (wG:nm.length=F.nl) (nN:nm.Nodup) (pk:F.np≤F.nl)
      (uE:∀x∈nm.take F.np,fd.scope.names.lookup x=some .local∨fd.scope.names.lookup x=some .cell)
      (rA:∀s ws,J.StaysIn s.heap→ws.length=F.np→BindsTo s fd ⟨ws,[]⟩ ((nm.take F.np).zip ws)):oT J gl bl f F
section
variable {U:Program} {w:World} {J:Heap} {gl bl:Addr} {K:Frag} {fl outer:List Env} {Z ai ao aP:aH} {O af ae az:ag} {s s' s1 s0 s2:Shared} {A:Around} {E0:Value→Shared→Prop} {aa:Env} {nm:List Str} {L L':Locals}
variable {C:Calls} {n fu:Nat}
theorem I7 {kd:Str→Option NameKind} {x:Str}:∀{b:List (Str×Value)} {m:Str→Option Value},x∉b.map (·.1)→bindL kd b m x=m x
 |[],_,_=>rfl
 |(y,v)::r,m,h=>by
  rw [List.map_cons,List.mem_cons,not_or] at h
  rw [bindL,I7 h.2]
  split
  ·simp [h.1]
  ·rfl
theorem JR {kd:Str→Option NameKind} {x:Str} {v:Value} (hk:kd x=some .local):∀{b:List (Str×Value)} {m:Str→Option Value},(b.map (·.1)).Nodup→(x,v)∈b→bindL kd b m x=some v
 |(y,u)::r,m,hn,h=>by
  rw [List.map_cons,List.nodup_cons] at hn
  rcases List.mem_cons.mp h with h |h
  ·cases h
   rw [bindL,I7 hn.1,if_pos hk]
   simp
  ·rw [bindL];exact JR hk hn.2 h
theorem Gs {kd:Str→Option NameKind} {x:Str}:∀{b:List (Str×Value)} {m:Str→Option Value},x∉b.map (·.1)→bindC kd b m x=m x
 |[],_,_=>rfl
 |(y,v)::r,m,h=>by
  rw [List.map_cons,List.mem_cons,not_or] at h
  rw [bindC,Gs h.2]
  split
  ·rfl
  ·simp [h.1]
theorem IY {kd:Str→Option NameKind} {x:Str} {v:Value} (hk:kd x≠some .local):∀{b:List (Str×Value)} {m:Str→Option Value},(b.map (·.1)).Nodup→(x,v)∈b→bindC kd b m x=some v
 |(y,u)::r,m,hn,h=>by
  rw [List.map_cons,List.nodup_cons] at hn
  rcases List.mem_cons.mp h with h |h
  ·cases h
   rw [bindC,Gs hn.1,if_neg hk]
   simp
  ·rw [bindC];exact IY hk hn.2 h
theorem B9:∀{names:List (Str×NameKind)} {k:Nat} {acc:List (Str×Addr)} {x:Str},(acc.lookup x).isSome=true→((cellsFrom k names acc).lookup x).isSome=true
 |[],_,_,_,h=>h
 |(y,kd)::r,k,acc,x,h=>by
  rw [cellsFrom]
  split
  ·refine B9 ?_
   rw [List.lookup_cons];split<;>simp [h]
  ·exact B9 h
theorem uB:∀{names:List (Str×NameKind)} {k:Nat} {acc:List (Str×Addr)} {x:Str},names.lookup x=some .cell→((cellsFrom k names acc).lookup x).isSome=true
 |(y,kd)::r,k,acc,x,h=>by
  rw [cellsFrom]
  rw [List.lookup_cons] at h
  split at h
  ·rename_i hx
   cases h
   rw [if_pos (by decide)]
   refine B9 ?_
   rw [List.lookup_cons,hx];rfl
  ·split
   ·exact uB h
   ·exact uB h
theorem Mt {h:Heap}:∀{vs:List V} {ws:List Value} {ns:List Str} {i:Nat} {v:V},aD J h Z vs ws→ns.length=vs.length→vs[i]?=some v→∃n x,ns[i]?=some n∧(n,x)∈ns.zip ws∧RV J h Z v x
 |[],_,_,_,_,_,_,h=>by cases h
 |v::vs,ws,ns,i,u,r,hl,h=>by
  obtain ⟨x,q,rfl,rx,rr⟩:=r
  cases ns with
  |nil=>cases hl
  |cons n ns=>
   cases i with
   |zero=>cases h;exact ⟨n,x,rfl,.head _,rx⟩
   |succ i=>
    obtain ⟨n',x',a,b,c⟩:=Mt rr (by simpa using hl) (by simpa using h)
    exact ⟨n',x',a,.tail _ b,c⟩
theorem N1 {fd:FuncData} {f:Nat} {vs:List V} {ws:List Value} {np nl:Nat} (S:St U w J fl Z O s) (hk:fd.scope.kind= .function) (wG:nm.length=nl) (nN:nm.Nodup) (pk:np≤nl) (acn:vs.length=np) (r:aD J s.heap Z vs ws)
    (uE:∀x∈nm.take np,fd.scope.names.lookup x=some .local∨fd.scope.names.lookup x=some .cell)
    (x:InCallC s (callEnvC fd s.heap.objs.size (bQ f)).locals (bindL (callEnvC fd s.heap.objs.size (bQ f)).kindOf ((nm.take np).zip ws) λ_=>none) (callEnvC fd s.heap.objs.size (bQ f)).cells
        (bindC (callEnvC fd s.heap.objs.size (bQ f)).kindOf ((nm.take np).zip ws) λ_=>none) s1) (ht:s.toks≤s1.toks):
  aj aE Z s Z s1∧aR U w J (callEnvC fd s.heap.objs.size (bQ f)::fl) (callEnvC fd s.heap.objs.size (bQ f)) nm Z O (vs.map some++List.replicate (nl-np) none) s1:=by
 obtain ⟨h1,k1,e1⟩:=x.toInCall.same
 have keep:=x.toInCall.keep
 have X:aj aE Z s Z s1:=by
  refine ⟨List.prefix_refl _,λb o e _ _=>keep b o e,λb e=>?_,λn p hn e=>(by rw [List.getElem?_eq_none hn] at e;cases e),by rw [e1],by rw [e1],by rw [e1]⟩
  obtain ⟨o,ho⟩:=Option.isSome_iff_exists.mp e
  rw [keep b o ho];rfl
 have V:=X.fe S
 have dead:s.heap.get? s.heap.objs.size=none:=fX _
 have HM:¬bL Z s.heap.objs.size:=λq=>by have:=S.sr.live q;rw [dead] at this;cases this
 have nb:J.get? s.heap.objs.size=none:=jG S.stays dead
 have S1:=S.ext X (S.sr.grow V λb o _ e=>keep b o e) ht
 have cv:s1.heap.Ns s.heap.objs.size _:=x.toInCall.ns
 refine ⟨X,⟨S1.sr,S1.stays,⟨?_,⟨s.heap.objs.size,?_⟩,S1.frames⟩,λa ha=>?_,S1.tok⟩,⟨_,cv,λi v hv=>?_⟩,HM,nb⟩
 ·show fd.scope.kind≠_
  rw [hk];intro q;cases q
 ·obtain ⟨o,es,ep,ho,hd,_⟩:=cv
  exact ⟨o,rfl,nb,ho,λvs q=>by rw [hd] at q;cases q⟩
 ·have:a=s.heap.objs.size∨a∈bb fl:=by simpa [bb,callEnvC,newEnv] using ha
  rcases this with rfl |ha
  ·exact HM
  ·exact S1.jC a ha
 ·have hv:((vs.map some++List.replicate (nl-np) none)[i]?).join=some v:=hv
  have GI:vs[i]?=some v:=by
   by_cases hi:i<vs.length
   ·rw [List.getElem?_append_left (by simpa using hi),List.getElem?_map] at hv
    cases hq:vs[i]? with
    |none=>rw [hq] at hv;cases hv
    |some u=>rw [hq] at hv;exact hv
   ·rw [List.getElem?_append_right (by simpa using hi)] at hv
    rw [List.getElem?_replicate] at hv
    split at hv<;>cases hv
  have dw:(nm.take np).length=vs.length:=by rw [List.length_take];omega
  obtain ⟨nn,y,a1,a2,a3⟩:=Mt r dw GI
  have sX:nn∈nm.take np:=List.mem_of_getElem? a1
  have eY:nm[i]?=some nn:=by
   have:(nm.take np)[i]?=nm[i]?:=by
    rw [List.getElem?_take]
    have:i<vs.length:=(List.getElem?_eq_some_iff.mp GI).1
    rw [if_pos (by omega)]
   rw [←this];exact a1
  have HO:(((nm.take np).zip ws).map (·.1)).Nodup:=by
   have:((nm.take np).zip ws).map (·.1)=nm.take np:=by
    rw [List.map_fst_zip]
    rw [dw,aD.length r];exact adp _
   rw [this]
   exact nN.sublist (List.take_sublist _ _)
  refine ⟨nn,y,eY,RV.mono V a3,?_⟩
  rcases uE nn sX with hl |hc
  ·exact .inl ⟨hl,JR hl HO a2⟩
  ·refine .inr ⟨hc,?_⟩
   have hs:=uB (k:=s.heap.objs.size+1) (acc:=[]) hc
   obtain ⟨c,nR⟩:=Option.isSome_iff_exists.mp hs
   refine ⟨c,nR,?_⟩
   have:=x.cell nn c nR
   rw [IY (by intro q;rw [show (callEnvC fd s.heap.objs.size (bQ f)).kindOf nn=some .cell from hc] at q;cases q) HO a2] at this
   exact this
noncomputable def FH (v:PySem.Flow):Value:=match v with | .ret x=>x |_=> .none
theorem Yo {out:aT} {v:PySem.Flow} {e1:Env} (hL:s.heap.get? e1.locals=none) (X:aj aE Z s Z s1) (p:PS U w J (e1::fl) e1 nm Z s1 out v s') (hn:fD out≠ .stuck):
  aI U w J aE Z s (fD out) (FH v) s':=match out,p,hn with
 | .ok g L2 az,⟨ai,X2,H2,fv⟩,hn=>
  have X3:aj aE Z s ai s':=X.chain X2 λc hc=> .inr (by rw [show c=e1.locals from hc];exact hL)
  match g,fv,hn with
  | .next,fv,_=>Eq.symm (show v=_ from fv)▸⟨ai,X3,H2.st.sr,vR⟩
  | .brk,_,hn=>absurd rfl hn
  | .ret u,⟨y,e,ry⟩,_=>e▸⟨ai,X3,H2.st.sr,ry⟩
 | .stuck,p,_ | .exc _ _ _,p,_=>p.elim
theorem call_exc {b:Bool} {out:aT} {v:Value} {e1:Env} (hL:s.heap.get? e1.locals=none) (hf:e1.frame=some e1.locals) (X:aj aE Z s Z s1) (p:XS b U w J (e1::fl) e1 nm Z s1 out v s'):
  bh U w J (· ∈bb fl) Z s (fD out) v s':=ta (P:=λout v=>bh U w J (· ∈bb fl) Z s (fD out) v s') p λe L2 az ai x X2 H2 ex=>by
 have X3:cV aE (· ∈bb (e1::fl)) Z s ai s':=cV.chain X X2 λc hc=> .inr (by rw [show c=e1.locals from hc];exact hL)
 refine ⟨ai,x,rfl,⟨X3.pre,λb o q nf nx=>?_,X3.live,X3.new,X3.gens,X3.drawn,X3.os⟩,H2.st.sr,?_⟩
 ·obtain ⟨sl,h1,h2⟩:=X3.keep b o q nf nx
  refine ⟨sl,h1,λhb=>h2 λhm=>?_⟩
  have:b=e1.locals∨b∈bb fl:=by simpa [bb,hf] using hm
  rcases this with rfl |hm
  ·rw [hL] at q;cases q
  ·exact hb hm
 ·match ex.before X.live with
  |⟨a1,a2,o,dx,vs,es,nn,b1,b2,b3,b4,b5,b6,b7,b8,b9,aaE⟩=>exact ⟨a1,a2,o,dx,vs,es,nn,b1,b2,b3,b4,b5,(match b6 with
   | .no _ q=> .no rfl q
   | .yes tb ot dq q1 q2 q3 q4 q5 q6=> .yes tb ot dq q1 q2 q3 q4 q5 q6),b7,b8,b9,aaE⟩
noncomputable def BodyOk (U:Program) (w:World) (J:Heap) (gl bl:Addr) (n:Nat) (C:Calls) (fu:Nat) (ss:Ss):Prop:=∀fl A,bI n 10 fl A→io U w J gl bl fl A C fu ss
structure Lw (U:Program) (w:World) (J:Heap) (gl bl:Addr) (n:Nat) (fl:List Env) (A:Around) (Z:aH) (O:ag) (s:Shared) (F:Fn) (vs:List V) (e1:Env) (nm:List Str) (body:List PySem.Stmt) (s2:Shared):Prop where
 hm:ez e1.scope nm F.body body=true
 eo:bJ gl bl e1
 ef:eN (e1::fl) e1 nm
 R:bI n 10 (e1::fl) (A.deeper e1)
 dead:s.heap.get? e1.locals=none
 X:aj aE Z s Z s2
 H:aR U w J (e1::fl) e1 nm Z O (vs.map some++List.replicate (F.nl-F.np) none) s2
theorem bI.call (R:bI (n+1) 0 fl A) (e1:Env):bI n 10 (e1::fl) (A.deeper e1):=by
 refine ⟨R.hand,by show A.frames.map _=_;rw [R.frames];rfl,?_,?_⟩
 ·have:=R.depth;show A.depth+1+12*n+10+10≤_;omega
 ·have:=R.units;show A.units+3+40*n+10+200≤_;omega
theorem bI.oe (R:bI (n+1) 0 fl A):A.depth<recursionLimit:=by have:=R.depth;omega
noncomputable def ZF (U:Program) (w:World) (A:Around) (s:Shared) (f:Nat) (k:Nat) (fd:FuncData) (jY:List (Str×Value)):Prop:=∀(Q:Env→Shared→Prop) (E:Value→Shared→Prop),
  (∀aa,aa=callEnvC fd s.heap.objs.size (bQ f)→∀s',InCallC s aa.locals (bindL aa.kindOf jY λ_=>none) aa.cells (bindC aa.kindOf jY λ_=>none) s'→k≤s'.toks→Q aa s')→
  wpAny (model U w) A.in1 (newFunctionEnv fd.scope fd.globals [] jY (fd.qualname++".<locals>.") (some (bQ f)) fd.code none fd.builtins) Q E s
noncomputable def xn (U:Program) (w:World) (A:Around) (J:Heap) (s:Shared) (f np:Nat) (k:Nat):Prop:=∀o fd jY,J.get? (bQ f)=some o→o.data= .func fd→fd.scope.kind= .function→jY.length=np→
  (∀x∈jY,fd.scope.names.lookup x.1=some .local∨(fd.scope.names.lookup x.1=some .cell∧((cellsFrom (s.heap.objs.size+1) fd.scope.names []).lookup x.1).isSome=true))→ZF U w A s f k fd jY
theorem We {f np:Nat}:xn U w A J s f np s.toks:=λo fd jY _ _ hk _ hz Q E hQ=>
 wpAny_mono (wpAny_toks (wpAny_newFunctionEnv_cells (Q:=λaa s2=>aa=callEnvC fd s.heap.objs.size (bQ f)∧InCallC s aa.locals (bindL aa.kindOf jY λ_=>none) aa.cells (bindC aa.kindOf jY λ_=>none) s2) hk hz λaa he s' x=>⟨he,x⟩))
    (λaa s2 x=>hQ aa x.1.1 s2 x.1.2 x.2) λe s' x=>x.1
theorem Lo (B:cx U w J gl bl K) {f:Nat} {F:Fn} (D:oT J gl bl f F) {vs:List V} {ws:List Value} (R:bI (n+1) 0 fl A) {k:Nat} (S:St U w J fl Z O {s with toks:=k}) (r:aD J s.heap Z vs ws) (hl:vs.length=F.np)
    (st:xn U w A J s f F.np k) {Rr:Result→Shared→Prop}
    (go:∀e1 nm body s2,Lw U w J gl bl n fl A Z O s F vs e1 nm body s2→wpAny (model U w) (A.deeper e1) (execs body e1) (λf s'=>Rr (.ok (.ret (FH f))) s') (λe s'=>wpAny (model U w) (A.deeper e1) (leaving e1 e) (λ_ cc=>Rr (.error e) cc) (λe' cc=>Rr (.error e') cc) s') s2):
  codeAny (model U w) A (.call (.ref (bQ f)) ⟨ws,[]⟩) Rr s:=by
 obtain ⟨o,fd,body,nm,ho,hd,hk,hg,hc,Mr,uG,gK,GX,vQ,hm,wG,nN,pk,uE,rA⟩:=D
 have stays:∀b o,J.get? b=some o→s.heap.get? b=some o:=λb o e=>S.stays b o e
 refine codeAny_call_function R.oe (stays _ _ ho) hd hc hg GX (vQ.keeps stays) (rA s ws S.stays ((aD.length r).trans hl) _ _ _ _ ?_)
 rw [gK]
 have dw:((nm.take F.np).zip ws).length=F.np:=by rw [List.length_zip,List.length_take,aD.length r,hl,wG,Nat.min_eq_left pk,Nat.min_self]
 refine st o fd _ ho hd hk dw (λx hx=>(uE x.1 (List.of_mem_zip hx).1).imp_right λq=>⟨q,uB q⟩) _ _ λaa he s2 x VF=>?_
 obtain ⟨X,H⟩:=N1 (s:={s with toks:=k}) S hk wG nN pk hl r uE (he▸(⟨⟨x.toInCall.same,x.toInCall.ns,x.toInCall.keep,x.toInCall.fresh⟩,x.cell,x.apart,x.above⟩:InCallC {s with toks:=k} aa.locals _ aa.cells _ s2)) VF
 rw [←he] at H
 have run:Lw U w J gl bl n fl A Z O s F vs aa nm body s2:=⟨he▸hm,he▸⟨hk,Mr,uG,λn q=>uB q⟩,he▸⟨nN,rfl,fl,rfl⟩,R.call aa,he▸fX _,⟨X.pre,X.keep,X.live,X.new,X.gens,X.drawn,X.os⟩,H⟩
 refine ⟨B.lim.keeps λb o e=>H.st.stays b o e,codeAny_func (wpAny_mono (go aa nm body s2 run) (λv s' p=>?_) λe s' p=>p)⟩
 cases v<;>exact p
theorem abl (B:cx U w J gl bl K) {f:Nat} {F:Fn} (D:oT J gl bl f F) (hB:BodyOk U w J gl bl n C fu F.body) {vs:List V} {ws:List Value} {out:Out V} (R:bI (n+1) 0 fl A) (S:St U w J fl Z O s) (h:wq C fu F vs O=out) (hn:out≠ .stuck) (r:aD J s.heap Z vs ws):
  codeAny (model U w) A (.call (.ref (bQ f)) ⟨ws,[]⟩) (Iy U w J (· ∈bb fl) Z s out) s:=
 da h hn λdw h=>Lo B D R (k:=s.toks) S r dw.1 We λe1 nm body s2 r0=>wpAny_mono (hB _ _ r0.R r0.hm r0.eo r0.ef r0.H rfl λq=>hn (by rw [←h,q];rfl)) (λv s' p=>h▸Yo r0.dead r0.X p (h▸hn))
    λe s' p=>wpAny_mono (ZR r0.R.frames r0.ef r0.H.st p) (λ_ cc q=>h▸call_exc r0.dead r0.ef.frame r0.X q) λ_ _ z=>z
end
end Mine
namespace Mine
open PySem PySem.W PyProof.Rows PySem.Calls
open Builtin Builtin.ObjectAttr
noncomputable def uT:List Value:=[.ref 45,.ref 32,.type "Exception",.type "BaseException",.type "object"]
structure EK (K:Frag):Prop where
 cd:∃cd,clsIn K bA=some cd∧cd.mro=uT∧cd.hasDict=true
 sa:findIn K (.ref bA) "__setattr__"=some (some (.builtin "object.__setattr__"))
 AU:∀f,11≤f→f<14→findIn K (.ref bA) (aB f)=some none
 init:findIn K (.ref bA) "__init__"=some (some (.ref 29))
 isFn:typeIn K (.ref 29)=some (.type "function")
 kp:keepIn K (.ref bA)=true
section
variable {U:Program} {w:World} {J:Heap} {gl bl:Addr} {K:Frag} {fl outer:List Env} {Z ai ao aP:aH} {O af ae az:ag} {s s' s1 s0 s2:Shared} {A:Around} {E0:Value→Shared→Prop} {aa:Env} {nm:List Str} {L L':Locals}
variable {C:Calls} {n fu:Nat}
theorem SX (self:Value):refuseLoop self "__setattr__" uT=pure ():=by
 unfold uT
 rw [refuseLoop_ref,refuseLoop_ref]
 exact PySem.F.store_object.passes self
theorem Fp {x:Addr} {ox:Obj} {od:Option Obj} {f:Nat} {tk:Tok} {v:Value} {R:Result→Shared→Prop} (ek:EK K) (X:K.In s.heap) (I:InstAt s.heap x ox bA od) (h1:11≤f) (h2:f<14)
    (h:wpAny (model U w) A.in1 (storeInOwnDict (.ref x) (.ref bA) (.str (aB f) tk) (aB f) v false)
      (λfin s'=>match fin with | .done f=>R (.ok f) s' | .again c'=>c'.quiet=true∧codeAny (model U w) A c' R s') (λe s'=>R (.error e) s') s):
  codeAny (model U w) A (.call (.builtin "object.__setattr__") ⟨[.ref x,.str (aB f) tk,v],[]⟩) R s:=by
 have SF:=PySem.F.store_object
 obtain ⟨cd,hc,lW,dm⟩:=ek.cd
 have AI:cd.mro.contains (.type "object")=true:=by rw [lW];decide
 have ne:cd.mro.isEmpty=false:=by rw [lW];rfl
 have sub:Looks (model U w) s.heap (isInstance (.ref x) (.type "object")) true:=I.type.andThen (looks_mroIn X (by unfold mroIn;rw [hc,Option.bind_some,if_neg (by rw [ne];decide),AI]))
 refine codeAny_call_builtin SF.slot.plain SF.entry (@check_slot (model U w) _ _ s "object.__setattr__" "object" "__setattr__" (.ref x) [.str (aB f) tk,v] [] _ SF.kind SF.split sub (SF.args (.ref x) (.str (aB f) tk) v) ?_)
 have hm:Looks (model U w) s.heap (mroOf (.ref bA)) cd.mro:=(looks_clsIn X hc).andThen .now
 have L3:Looks (model U w) s.heap (storeTaker? none) none:=Looks.of_pure rfl
 rw [osa_eq,refuse_eq]
 refine wpAny_bind (wpAny_bind (I.type.here (wpAny_bind (hm.here ?_))))
 rw [lW,SX]
 refine wpAny_pure (wpAny_bind (I.type.here (wpAny_bind ((looks_findIn X (ek.AU f h1 h2)).here (wpAny_bind (L3.here ?_))))))
 exact h
theorem MG {x dx:Addr} {ox:Obj} {vs:Array Value} {es:List DictEntry} {nn f:Nat} {v:Value} {Q:Unit→Shared→Prop} (ek:EK K) (X:K.In s.heap) (hx:s.heap.get? x=some ox) (cR:ox.cls= .ref bA) (kR:ox.data= .fields vs) (dm:ox.dict=some dx) (pU:s.heap.get? dx=some (dictOf es nn))
    (h1:11≤f) (h2:f<14) (hk:es.any (·.refKey)=false) (hz:∀t,(putL (aB f) (PyData.keyHash w.params (aB f)) (.str (aB f) t) v es).length≤1000)
    (h:∀h' t,Heap.SameBut dx s.heap h'→h'.get? dx=some (dictOf (putL (aB f) (PyData.keyHash w.params (aB f)) (.str (aB f) t) v es) (putN (aB f) es nn))→Q () {s with heap:=h',toks:=s.toks+1+1}):
  wpAny (model U w) A (setAttr (.ref x) (aB f) v) Q E0 s:=by
 have I:InstAt s.heap x ox bA (some (dictOf es nn)):=⟨hx,cR,by obtain ⟨_,_,dd,_⟩:=ox;cases kR;rfl,by rw [dm];exact pU⟩
 refine set_plain X I ek.sa (Fp (s:={s with toks:=s.toks+1}) ek X I h1 h2 ?_)
 obtain ⟨cd,hc,lW,bO⟩:=ek.cd
 obtain ⟨oc,abj,WE,NZ⟩:=ox
 dsimp only at cR kR dm
 subst cR kR dm
 refine wpAny_bind (wpAny_pure (wpAny_bind (wpAny_bind (wpAny_loadPart hx (wpAny_bind (Looks.here (s:={s with toks:=s.toks+1}) (looks_clsIn X hc) ?_))))))
 rw [bO]
 refine wpAny_pure (a:=some dx) (wpAny_bind (wpAny_pure (wpAny_bind ?_)))
 unfold nsSet
 refine wpAny_bind (wpAny_bind (wpAny_askSetting (wpAny_pure (wpAny_bind (wpAny_mkText (wpAny_bind (wpAny_loadPart pU ?_)))))))
 have q:aRefKeyMayBeTheName (aB f) es.toArray=false:=by
  rw [aRefKeyMayBeTheName_at]
  have:(es.toArray.any λx:DictEntry=>x.refKey)=false:=by rw [←Array.any_toList];exact hk
  rw [this,Bool.and_false]
 dsimp only
 rw [q]
 have hu:=putName_dict (aB f) (PyData.keyHash w.params (aB f)) (.str (aB f) (s.toks+1)) v es nn
 have g:(s.heap.update dx (Obj.putName (aB f) (PyData.keyHash w.params (aB f)) (.str (aB f) (s.toks+1)) v)).get? dx=some (dictOf (putL (aB f) (PyData.keyHash w.params (aB f)) (.str (aB f) (s.toks+1)) v es) (putN (aB f) es nn)):=by
  rw [←hu];exact Heap.get?_update_self _ pU (by rw [hu];rfl)
 refine wpAny_updatePart pU ?_
 refine wpAny_bind (wpAny_lookBehind g (pastItsLine_dict (by rw [List.size_toArray,sizeLine_eq];have:=hz (s.toks+1);omega)) ?_)
 exact wpAny_pure (h _ _ (Heap.SameBut.update ..) g)
theorem Yh {x:Addr} {ox:Obj} {vs:Array Value} {f:Nat} {v:Value} {Q:Unit→Shared→Prop} (ek:EK K) (X:K.In s.heap) (hx:s.heap.get? x=some ox) (cR:ox.cls= .ref bA) (kR:ox.data= .fields vs) (dm:ox.dict=none)
    (h1:11≤f) (h2:f<14)
    (h:∀h' t,(∀b o,b≠x→s.heap.get? b=some o→h'.get? b=some o)→h'.get? x=some {ox with dict:=some s.heap.objs.size}→h'.get? s.heap.objs.size=some (dictOf (putL (aB f) (PyData.keyHash w.params (aB f)) (.str (aB f) t) v []) (putN (aB f) [] 0))→Q () {s with heap:=h',toks:=s.toks+1+1}):
  wpAny (model U w) A (setAttr (.ref x) (aB f) v) Q E0 s:=by
 have I:InstAt s.heap x ox bA none:=⟨hx,cR,by obtain ⟨_,_,dd,_⟩:=ox;cases kR;rfl,by rw [dm];trivial⟩
 refine set_plain X I ek.sa (Fp (s:={s with toks:=s.toks+1}) ek X I h1 h2 ?_)
 obtain ⟨cd,hc,lW,bO⟩:=ek.cd
 obtain ⟨oc,abj,WE,NZ⟩:=ox
 dsimp only at cR kR dm
 subst cR kR dm
 refine wpAny_bind (wpAny_pure (wpAny_bind (wpAny_bind (wpAny_loadPart hx (wpAny_bind (Looks.here (s:={s with toks:=s.toks+1}) (looks_clsIn X hc) ?_))))))
 rw [bO]
 have uL:x<s.heap.objs.size:=Heap.lt_size hx
 have MR:=Heap.get?_push_of_some (h:=s.heap) {cls:= .type "dict",data:= .dict #[]} hx
 have VA:(s.heap.push {cls:= .type "dict",data:= .dict #[]}).get? s.heap.objs.size=some (dictOf [] 0):=Heap.get?_push_size _ rfl
 show wpAny _ _ (alloc {cls:= .type "dict",data:= .dict #[]}>>=_) _ _ _
 refine wpAny_bind (wpAny_alloc (wpAny_bind (wpAny_update MR (wpAny_pure (a:=some s.heap.objs.size) ?_))))
 have Zp:=Heap.get?_update_self (λo:Obj=>{o with dict:=some s.heap.objs.size}) MR rfl
 have Bo:((s.heap.push {cls:= .type "dict",data:= .dict #[]}).update x λo=>{o with dict:=some s.heap.objs.size}).get? s.heap.objs.size=some (dictOf [] 0):=(Heap.get?_update_other _ _ (Nat.ne_of_lt uL)).trans VA
 refine wpAny_bind (wpAny_pure (wpAny_bind ?_))
 unfold nsSet
 refine wpAny_bind (wpAny_bind (wpAny_askSetting (wpAny_pure (wpAny_bind (wpAny_mkText (wpAny_bind (wpAny_loadPart Bo ?_)))))))
 have q:aRefKeyMayBeTheName (aB f) (#[]:Array DictEntry)=false:=by
  rw [aRefKeyMayBeTheName_at];simp
 dsimp only
 rw [q]
 have hu:=putName_dict (aB f) (PyData.keyHash w.params (aB f)) (.str (aB f) (s.toks+1)) v [] 0
 have g:=Heap.get?_update_self (Obj.putName (aB f) (PyData.keyHash w.params (aB f)) (.str (aB f) (s.toks+1)) v) Bo (by rw [hu];rfl)
 rw [hu] at g
 refine wpAny_updatePart Bo ?_
 refine wpAny_bind (wpAny_lookBehind g (pastItsLine_dict (by rw [List.size_toArray,sizeLine_eq];show 1≤_;decide)) ?_)
 refine wpAny_pure (h _ (s.toks+1) (λb o hb e=>?_) ?_ g)
 ·have O4:b≠s.heap.objs.size:=Nat.ne_of_lt (Heap.lt_size e)
  rw [Heap.get?_update_other _ _ (Ne.symm O4),Heap.get?_update_other _ _ (Ne.symm hb)]
  exact Heap.get?_push_of_some _ e
 ·rw [Heap.get?_update_other _ _ (Ne.symm (Nat.ne_of_lt uL))]
  exact Zp
end
end Mine
namespace Mine
open PySem PySem.W PySem.Calls
open Builtin Builtin.ObjectAttr
section
variable {U:Program} {w:World} {A:Around} {E:Value→Shared→Prop} {h:Heap} {g:Array GenState} {d:Drawn} {t:Nat} {os:OsState} {K:Frag} {R:Result→Shared→Prop}
variable {nm q:Str} {C N:Addr} {bs bm:List Value} {hdct:Bool} {sn:List Str} {sub:List Value} {ab:Bool} {col:Option Bool} {dd:Option Addr} {k0 k1 k2 k3 k5:Option Value} {Bn newId IK:String} {IU:List Value}
theorem aaH (Fn:ExcBaseFacts Bn newId IK IU) (Aj:(Value.ref C::bm).contains (.type Bn)=true) (BN:(Value.ref C::bm).contains (.type "AttributeError")=false) (zd:(Value.ref C::bm).contains (.type "NameError")=false)
  {ac:List Value} (hC:h.get? C=some (excClassObj nm q C N bs bm hdct sn sub ab col dd k0 k1 k2 k3 k5 newId))
  (hq:R (.ok (.ret (.ref (h.objs.size+1)))) ⟨(h.push {cls:= .type "tuple",data:= .seq ac.toArray}).push {cls:= .ref C,data:= .fields #[.ref h.objs.size,.none,.none,.none,.bool false,.none]},g,d,t,os⟩) (Jh:ac.length≤sizeLine):
  codeAny (model U w) A (.builtin newId ⟨.ref C::ac,[]⟩) R ⟨h,g,d,t,os⟩:=by
 have acL:=Fn.ends
 refine codeAny_builtinAt Fn.entry ?_
 unfold Builtin.«BaseException.__new__»
 refine wpAt_bind ?_
 show wpAt _ _ _ (stack>>=_) _ _ _
 refine wpAt_bind (wpAt_stack λp cO=>wpAt_of_wpAny ?_)
 wp_walk
 refine wpAt_of_wpAny ?_
 rw [Fn.owner]
 repeat (first |with_reducible refine wpAny_madeHere_exc Fn.canon hC ?_ |with_reducible refine wpAny_loadPart_at hC ?_ |(with_reducible refine wpAny_isSubtype_exc hC ?_;first |rw [Aj] |rw [BN] |rw [zd]) |wp_step)
 show R _ _
 rw [Heap.size_push]
 exact hq
theorem OH {ac:List Value} {fI:Addr} {Q:Value→Shared→Prop} (Fn:ExcBaseFacts Bn newId IK IU) (T:OwnTail h bm bm) (EP:bm.contains (.type Bn)=true) (BN:(Value.ref C::bm).contains (.type "AttributeError")=false) (zd:(Value.ref C::bm).contains (.type "NameError")=false)
    (X:K.In h) (hC:h.get? C=some (excClassObj nm q C N bs bm hdct sn sub ab col dd k0 k1 k2 k3 k5 newId)) (hi:findIn K (.ref C) "__init__"=some (some (.ref fI))) (hf:typeIn K (.ref fI)=some (.type "function"))
    (hq:∀h' e,Heap.MadeExcOf h h' e (.ref C) ac→wpAny (model U w) (A.under (.builtin "type.__call__" ⟨.ref C::ac,[]⟩)) (call (.ref fI) (.ref e::ac)) (λr s'=>r= .none∧Q (.ref e) s') E ⟨h',g,d,t,os⟩) (Jh:ac.length≤sizeLine):
  wpAny (model U w) A (call (.ref C) ac) Q E ⟨h,g,d,t,os⟩:=by
 have f1:=tc_lookup
 have f2:=tc_bind (.ref C)
 have hT:(⟨h,g,d,t,os⟩:Shared).TypeIs (.ref C) "type":=⟨_,hC,rfl⟩
 refine wpAny_call (codeAny_of_tree ?_)
 show wpAny _ _ (callAny (.ref C) _) _ _ _
 repeat (any_goals (first |assumption |with_reducible refine wpAny_loadPart_at hC ?_ |wp_step))
 refine ⟨rfl,?_⟩
 refine codeAny_call_builtin_at (Code.quiet_builtin _ (by decide +kernel)) entry_typeCall (wpAny_check_type_call_sub hC ?_)
 repeat (first |with_reducible refine wpAny_loadPart_at hC ?_ |with_reducible refine wpAny_madeBy_exc hC ?_ |wp_step)
 refine codeAny_call_builtin_code (Code.quiet_builtin _ Fn.quiet) (wpAny_check_new_subU Fn EP T hC ?_)
 refine aaH Fn (by rw [List.contains_cons,EP,Bool.or_true]) BN zd hC ?_ Jh
 show wpAny _ _ _ _ _ _
 have Mn:=Heap.get?_push_of_some {cls:= .ref C,data:= .fields #[.ref h.objs.size,.none,.none,.none,.bool false,.none]}
    (Heap.get?_push_of_some {cls:= .type "tuple",data:= .seq ac.toArray} hC)
 have M8:K.In ((h.push {cls:= .type "tuple",data:= .seq ac.toArray}).push {cls:= .ref C,data:= .fields #[.ref h.objs.size,.none,.none,.none,.bool false,.none]}):=X.keeps λb o e=>Heap.get?_push_of_some _ (Heap.get?_push_of_some _ e)
 have MA:((h.push {cls:= .type "tuple",data:= .seq ac.toArray}).push
   {cls:= .ref C,data:= .fields #[.ref h.objs.size,.none,.none,.none,.bool false,.none]}).get? (h.objs.size+1)=some
   {cls:= .ref C,data:= .fields #[.ref h.objs.size,.none,.none,.none,.bool false,.none]}:=by heap_get
 have Jo:(Value.ref C::bm).contains (.ref C)=true:=by simp
 unfold isInstance
 repeat (first |with_reducible refine wpAny_loadPart_at MA ?_ |(with_reducible refine wpAny_isSubtype_exc Mn ?_;rw [Jo]) |wp_step)
 show wpAny _ _ (isSubtype (.ref C) (.ref C)) _ _ _
 refine wpAny_isSubtype_exc Mn ?_
 rw [Jo]
 repeat wp_step
 refine Looks.here (s:=⟨(h.push {cls:= .type "tuple",data:= .seq ac.toArray}).push {cls:= .ref C,data:= .fields #[.ref h.objs.size,.none,.none,.none,.bool false,.none]},g,d,t,os⟩) (looks_findIn M8 hi) ?_
 refine wpAny_holding (wpAny_bind (Looks.here (s:=⟨(h.push {cls:= .type "tuple",data:= .seq ac.toArray}).push {cls:= .ref C,data:= .fields #[.ref h.objs.size,.none,.none,.none,.bool false,.none]},g,d,t,os⟩) (bind_fn M8 _ hf) ?_))
 refine wpAny_bind (wpAny_mono (hq _ (h.objs.size+1) ⟨λb o hb=>Heap.get?_push_of_some _ (Heap.get?_push_of_some _ hb),Heap.get?_none_of_le (Nat.le_succ _),h.objs.size,MA,Heap.get?_none_of_le (adp _),?_⟩) (λr s' hr=>?_) λ_ _ x=>x)
 ·exact Heap.get?_push_of_some _ (Heap.get?_push_at rfl rfl)
 ·obtain ⟨rfl,hQ⟩:=hr
  wp_walk
  exact hQ
end
end Mine
namespace Mine
open PySem PySem.W PyProof.Rows PySem.Calls
noncomputable def eF:Str:=Str.ofString "self"
theorem acq:aB 11=Str.ofString "kind":=by decide +kernel
theorem abz:aB 12=Str.ofString "at":=by decide +kernel
theorem ade:aB 13=Str.ofString "detail":=by decide +kernel
theorem ZE:(eF==aB 11)=false∧(eF==aB 12)=false∧(eF==aB 13)=false∧(aB 11==aB 12)=false∧(aB 11==aB 13)=false∧(aB 12==aB 13)=false:=by decide +kernel
theorem Xl:(eF==("__debug__":Str))=false∧(aB 11==("__debug__":Str))=false∧(aB 12==("__debug__":Str))=false∧(aB 13==("__debug__":Str))=false:=by decide +kernel
noncomputable def kg (a n:Str) (p1 p2 p3 p4:Pos):PySem.Stmt:= .Assign [.Attribute (.Name eF p1) a p2] (.Name n p3) p4
noncomputable def Nq (J:Heap):Prop:=
 ∃o fd p1 p2 p3 p4 q1 q2 q3 q4 r1 r2 r3 r4,J.get? 29=some o∧o.data= .func fd∧fd.scope.kind= .function∧fd.scope.isGenerator=false∧fd.scope.isCoroutine=false∧
  fd.body= .stmts [kg (aB 11) (aB 11) p1 p2 p3 p4,kg (aB 12) (aB 12) q1 q2 q3 q4,kg (aB 13) (aB 13) r1 r2 r3 r4]∧J.CodeRec fd.code fd.qualname∧(∀x∈fd.scope.names,x.2≠ .cell)∧
  fd.scope.names.lookup eF=some .local∧(∀f,11≤f→f<14→fd.scope.names.lookup (aB f)=some .local)∧
  (∀s x k a,J.StaysIn s.heap→∃t,BindsTo s fd ⟨[x,k,a],[]⟩ [(eF,x),(aB 11,k),(aB 12,a),(aB 13,.str ⟨#[]⟩ t)])∧
  (∀s x k a d,J.StaysIn s.heap→BindsTo s fd ⟨[x,k,a,d],[]⟩ [(eF,x),(aB 11,k),(aB 12,a),(aB 13,d)])
section
variable {U:Program} {w:World} {J:Heap} {gl bl:Addr} {K:Frag} {fl outer:List Env} {Z ai ao aP:aH} {O af ae az:ag} {s s' s1 s0 s2:Shared} {A:Around} {E0:Value→Shared→Prop} {aa:Env} {nm:List Str} {L L':Locals}
variable {C:Calls} {n fu:Nat}
theorem BS {aa:Env} {m:Str→Option Value} {x:Addr} {v:Value} {f:Nat} {p1 p2 p3 p4:Pos} {Q:PySem.Flow→Shared→Prop} (hk:aa.scope.kind= .function) (cv:s.heap.Ns aa.locals m) (l1:aa.kindOf eF=some .local) (l2:aa.kindOf (aB f)=some .local) (d1:(eF==("__debug__":Str))=false) (d2:(aB f==("__debug__":Str))=false)
    (m1:m eF=some (.ref x)) (m2:m (aB f)=some v) (h:wpAny (model U w) A (setAttr (.ref x) (aB f) v) (λ_=>Q .next) E0 s):wpAny (model U w) A (exec (kg (aB f) (aB f) p1 p2 p3 p4) aa) Q E0 s:=by
 unfold kg
 exact plainObj_wpAny_Assign_Attribute (wpAny_Name (wpAny_loadName_local hk l2 cv m2 (wpAny_Name (wpAny_loadName_local hk l1 cv m1 h) d1)) d2) rfl
theorem Oj {x:Addr} {ox:Obj} {vs:Array Value} {k a d:Value} {args:List Value} {Q:Value→Shared→Prop} {o:Obj} {fd:FuncData} {p1 p2 p3 p4 q1 q2 q3 q4 r1 r2 r3 r4:Pos} (ek:EK K) (kT:K.In J) (lim:J.NoLimit) (st:J.StaysIn s.heap) (D1:A.depth<recursionLimit)
    (hx:s.heap.get? x=some ox) (cR:ox.cls= .ref bA) (kR:ox.data= .fields vs) (dm:ox.dict=none) (QX:J.get? x=none)
    (ho:J.get? 29=some o) (hd:o.data= .func fd) (hk:fd.scope.kind= .function) (hg:fd.scope.isGenerator=false) (hc:fd.scope.isCoroutine=false)
    (hb:fd.body= .stmts [kg (aB 11) (aB 11) p1 p2 p3 p4,kg (aB 12) (aB 12) q1 q2 q3 q4,kg (aB 13) (aB 13) r1 r2 r3 r4]) (vQ:J.CodeRec fd.code fd.qualname) (BV:∀x∈fd.scope.names,x.2≠ .cell)
    (l0:fd.scope.names.lookup eF=some .local) (l1:∀f,11≤f→f<14→fd.scope.names.lookup (aB f)=some .local) (rA:BindsTo s fd ⟨args,[]⟩ [(eF,.ref x),(aB 11,k),(aB 12,a),(aB 13,d)])
    (h:∀h' tk dx es nn,(∀b ob,b≠x→s.heap.get? b=some ob→h'.get? b=some ob)→h'.get? x=some {ox with dict:=some dx}→s.heap.get? dx=none→h'.get? dx=some (dictOf es nn)→
      (∀(qu h2:Heap) (Z:aH) (e:aX),RV qu h2 Z e.k k→RV qu h2 Z e.a a→RV qu h2 Z e.d d→cD qu h2 Z [(11,e.k),(12,e.a),(13,e.d)] es)→Q .none {s with heap:=h',toks:=tk}):
  wpAny (model U w) A (call (.ref 29) args []) Q E0 s:=by
 refine wpAny_call (codeAny_call_def D1 (st _ _ ho) hd (lim.keeps st) (vQ.keeps st) hb rA BV (λy hy=>?_) (λh₀ cv nE=>?_) hc hg hk)
 ·simp only [List.mem_cons,List.not_mem_nil,or_false] at hy
  rcases hy with rfl |rfl |rfl |rfl
  ·exact l0
  ·exact l1 11 (by omega) (by omega)
  ·exact l1 12 (by omega) (by omega)
  ·exact l1 13 (by omega) (by omega)
 ·obtain ⟨e1,e2,e3,e4,e5,e6⟩:=ZE
  obtain ⟨g0,g1,g2,g3⟩:=Xl
  have D3:(callEnv fd s.heap.objs.size 29).scope.kind= .function:=hk
  have uL:x<s.heap.objs.size:=Heap.lt_size hx
  have z6:=nE _ _ hx
  have m0:(λy=>([(eF,Value.ref x),(aB 11,k),(aB 12,a),(aB 13,d)]:List (Str×Value)).reverse.lookup y) eF=some (.ref x):=by
   simp only [List.reverse_cons,List.reverse_nil,List.nil_append,List.cons_append,List.lookup_cons,e1,e2,e3,beq_self_eq_true]
  have m1:(λy=>([(eF,Value.ref x),(aB 11,k),(aB 12,a),(aB 13,d)]:List (Str×Value)).reverse.lookup y) (aB 11)=some k:=by
   simp only [List.reverse_cons,List.reverse_nil,List.nil_append,List.cons_append,List.lookup_cons,e4,e5,beq_self_eq_true]
  have m2:(λy=>([(eF,Value.ref x),(aB 11,k),(aB 12,a),(aB 13,d)]:List (Str×Value)).reverse.lookup y) (aB 12)=some a:=by
   simp only [List.reverse_cons,List.reverse_nil,List.nil_append,List.cons_append,List.lookup_cons,e6,beq_self_eq_true]
  have m3:(λy=>([(eF,Value.ref x),(aB 11,k),(aB 12,a),(aB 13,d)]:List (Str×Value)).reverse.lookup y) (aB 13)=some d:=by
   simp only [List.reverse_cons,List.reverse_nil,List.nil_append,List.cons_append,List.lookup_cons,beq_self_eq_true]
  have X0:K.In h₀:=kT.keeps λb o e=>nE b o (st b o e)
  have kb:∀b ob,J.get? b=some ob→b≠x:=λb ob e q=>by subst q;rw [QX] at e;cases e
  refine wpAny_execs_cons (BS D3 cv l0 (l1 11 (by omega) (by omega)) g0 g1 m0 m1 (Yh ek X0 z6 cR kR dm (by omega) (by omega) λh1 t1 pS F0 UJ=>?_))
  have Tr:s.heap.objs.size≠x:=Nat.ne_of_gt uL
  have Ip:h1.Ns s.heap.objs.size _:=Heap.Ns.at cv λo e=>pS _ _ Tr e
  have X1:K.In h1:=kT.keeps λb o e=>pS b o (kb b o e) (nE b o (st b o e))
  have Ii:s.heap.objs.size<h₀.objs.size:=Heap.Ns.lt cv
  refine wpAny_execs_cons (BS D3 Ip l0 (l1 12 (by omega) (by omega)) g0 g2 m0 m2 (MG ek X1 F0 cR kR rfl UJ (by omega) (by omega) ?_ (λt=>?_) λh2 t2 lq Xr=>?_))
  ·rfl
  ·show _≤1000
   have hf:((Value.str (aB 11) t1).isStr (aB 12))=false:=by simp only [Value.isStr];exact e4
   simp only [putL,hf,Bool.false_eq_true,if_false,List.length_cons,List.length_nil];omega
  have U8:s.heap.objs.size≠h₀.objs.size:=Nat.ne_of_lt Ii
  have pU:x≠h₀.objs.size:=Nat.ne_of_lt (Nat.lt_trans uL Ii)
  have mn:=(lq.2 x pU).trans F0
  have pI:h2.Ns s.heap.objs.size _:=Heap.Ns.at Ip λo e=>(lq.2 _ U8).trans e
  have aaa:J.get? h₀.objs.size=none:=by
   cases q:J.get? h₀.objs.size with
   |none=>rfl
   |some ob=>exact absurd (Heap.lt_size (nE _ _ (st _ _ q))) (Nat.lt_irrefl _)
  have X2:K.In h2:=kT.keeps λb o e=>(lq.2 b λq=>by subst q;rw [aaa] at e;cases e).trans (pS b o (kb b o e) (nE b o (st b o e)))
  refine wpAny_execs_cons (BS D3 pI l0 (l1 13 (by omega) (by omega)) g0 g3 m0 m3 (MG ek X2 mn cR kR rfl Xr (by omega) (by omega) ?_ (λt=>?_) λh3 t3 Gv RF=>?_))
  ·have hf:((Value.str (aB 11) t1).isStr (aB 12))=false:=by simp only [Value.isStr];exact e4
   simp only [putL,hf,Bool.false_eq_true,if_false];rfl
  ·show _≤1000
   have hf:((Value.str (aB 11) t1).isStr (aB 12))=false:=by simp only [Value.isStr];exact e4
   have V8:((Value.str (aB 11) t1).isStr (aB 13))=false:=by simp only [Value.isStr];exact e5
   have O5:((Value.str (aB 12) t2).isStr (aB 13))=false:=by simp only [Value.isStr];exact e6
   simp only [putL,hf,V8,O5,Bool.false_eq_true,if_false,List.length_cons,List.length_nil];omega
  refine wpAny_execs_nil (h h3 _ h₀.objs.size _ _ (λb ob vv e=>?_) ((Gv.2 x pU).trans mn) ?_ RF λqu h4 Z e rk ra rd=>?_)
  ·have Nj:b≠h₀.objs.size:=Nat.ne_of_lt (Heap.lt_size (nE _ _ e))
   exact (Gv.2 b Nj).trans ((lq.2 b Nj).trans (pS b ob vv (nE b ob e)))
  ·cases q:s.heap.get? h₀.objs.size with
   |none=>rfl
   |some ob=>exact absurd (Heap.lt_size (nE _ _ q)) (Nat.lt_irrefl _)
  ·have f0:cD qu h4 Z [] []:=rfl
   have f1:=uh (f:=11) (by omega) rk (PyData.keyHash w.params (aB 11)) t1 f0
   have f2:=uh (f:=12) (by omega) ra (PyData.keyHash w.params (aB 12)) t2 f1
   exact uh (f:=13) (by omega) rd (PyData.keyHash w.params (aB 13)) t3 f2
end
noncomputable def xI:List Value:=[.ref 32,.type "Exception",.type "BaseException",.type "object"]
structure hJ (J:Heap) (K:Frag):Prop where
 ek:EK K
 init:Nq J
 cls:∃nm q N bs hdct sn sub ab col dd k0 k1 k2 k3 k5,J.get? bA=some (excClassObj nm q bA N bs xI hdct sn sub ab col dd k0 k1 k2 k3 k5 "Exception.__new__")
section
variable {U:Program} {w:World} {A:Around} {E:Value→Shared→Prop} {aa:Env}
variable {nm q:Str} {Cc N:Addr} {bs bm:List Value} {hdct:Bool} {sn:List Str} {sub:List Value} {ab:Bool} {col:Option Bool} {dd:Option Addr} {k0 k1 k2 k3 k5:Option Value} {newId:String}
theorem XN {M:Model} {s:Shared} {x:Sem Value} {Q:PySem.Flow→Shared→Prop} (Bt:bm.contains (.type "BaseException")=true) (hh:A.handled=none)
    (h:wpAny M A x (λv bN=>∃e t dx sl,v= .ref e∧bN.heap.get? Cc=some (excClassObj nm q Cc N bs bm hdct sn sub ab col dd k0 k1 k2 k3 k5 newId)∧
   bN.heap.get? e=some {cls:= .ref Cc,dict:=dx,data:= .fields #[.ref t,.none,.none,.none,.bool false,.none],slots:=sl}∧E (.ref e) bN) E s):
  wpAny M A (raiseStmt aa (some x) none) Q E s:=by
 have Aj:(Value.ref Cc::bm).contains (.type "BaseException")=true:=by rw [List.contains_cons,Bt,Bool.or_true]
 unfold raiseStmt
 refine wpAny_bind (wpAny_mono h (λv bN fB=>?_) λ_ _ x=>x)
 obtain ⟨e,t,dx,sl,rfl,hC,he,hE⟩:=fB
 obtain ⟨hp,g,d,tk,os⟩:=bN
 repeat (first |with_reducible refine wpAny_loadPart_at he ?_ |with_reducible refine wpAny_loadPart_at hC ?_ |(with_reducible refine wpAny_isSubtype_exc hC ?_;rw [Aj]) |wp_step)
 exact wpAny_raiseNew_none hh hE
end
section
variable {U:Program} {w:World} {J:Heap} {gl bl:Addr} {K:Frag} {fl outer:List Env} {Z ai ao aP:aH} {O af ae az:ag} {s s' s1 s0 s2:Shared} {A:Around} {E0:Value→Shared→Prop} {aa:Env} {nm:List Str} {L L':Locals}
variable {C:Calls} {n fu:Nat}
@[elab_as_elim] theorem R8 {h:Heap} {vs:List V} {ws:List Value} {e:aX} {P:List Value→Prop} (hv:pL vs=some e) (r:aD J h Z vs ws) (k2:∀kv av,RV J h Z e.k kv→RV J h Z e.a av→e.d= .str []→P [kv,av])
    (k3:∀kv av dv,RV J h Z e.k kv→RV J h Z e.a av→RV J h Z e.d dv→P [kv,av,dv]):P ws:=match vs,hv,r with
 |[],hv,_ |[_],hv,_ |_::_::_::_::_,hv,_=>absurd hv.symm sn
 |[k,a],hv,r=>by
  cases hv
  exact k7 r λkv _ rk r=>k7 (P:=λws=>P (kv::ws)) r λav _ ra r=>uk (P:=λws=>P (kv::av::ws)) r (k2 kv av rk ra rfl)
 |[k,a,d],hv,r=>by
  cases hv
  exact k7 r λkv _ rk r=>k7 (P:=λws=>P (kv::ws)) r λav _ ra r=>k7 (P:=λws=>P (kv::av::ws)) r λdv _ rd r=>uk (P:=λws=>P (kv::av::dv::ws)) r (k3 kv av dv rk ra rd)
inductive qx (J:Heap) (Z:aH) (s:Shared) (e:aX) (v:Value) (s':Shared):Prop where
 |mk (x t dx:Addr) (es:List DictEntry) (nn:Nat) (hv:v= .ref x) (keep:∀b o,s.heap.get? b=some o→s'.heap.get? b=some o) (g1:s'.gens=s.gens) (g2:s'.drawn=s.drawn) (g3:s'.os=s.os) (d1:s.heap.get? x=none)
      (d2:s'.heap.get? x=some {cls:= .ref bA,dict:=some dx,data:= .fields #[.ref t,.none,.none,.none,.bool false,.none],slots:= #[]}) (d3:s.heap.get? dx=none) (d4:s'.heap.get? dx=some (dictOf es nn))
      (d5:VK J Z s.heap Z s'.heap→cD J s'.heap Z [(11,e.k),(12,e.a),(13,e.d)] es):qx J Z s e v s'
theorem aaX {ws:List Value} (h:ws.length≤3):ws.length≤sizeLine:=adj h (by decide)
theorem Yw (EO:hJ J K) (B:cx U w J gl bl K) (R:bI n 10 fl A) (S:St U w J fl Z O s) {vs:List V} {ws:List Value} {e:aX} (hv:pL vs=some e) (r:aD J s.heap Z vs ws):
  wpAny (model U w) A (call (.ref bA) ws []) (qx J Z s e) E0 s:=by
 obtain ⟨hh,g,d,t,os⟩:=s
 obtain ⟨BK,q,N,bs,hdct,sn,sub,ab,col,dd,k0,k1,k2,k3,k5,hC⟩:=EO.cls
 obtain ⟨o,fd,p1,p2,p3,p4,q1,q2,q3,q4,r1,r2,r3,r4,i1,i2,i3,i4,i5,i6,i7,i8,i9,Ql,Z3,Rh⟩:=EO.init
 have X0:K.In hh:=B.kT.keeps λb o e=>S.stays b o e
 have D1:∀l,(A.under (.builtin "type.__call__" ⟨.ref bA::l,[]⟩)).depth<recursionLimit:=λl=>by have:=R.depth;show A.depth+1<_;omega
 have start:ws.length≤3→(∀h' x,Heap.MadeExcOf hh h' x (.ref bA) ws→∃dv,BindsTo ⟨h',g,d,t,os⟩ fd ⟨.ref x::ws,[]⟩ [(eF,.ref x),(aB 11,ws.getD 0 .none),(aB 12,ws.getD 1 .none),(aB 13,dv)]∧∀h2,VK J Z hh Z h2→RV J h2 Z e.k (ws.getD 0 .none)∧RV J h2 Z e.a (ws.getD 1 .none)∧RV J h2 Z e.d dv)→
   wpAny (model U w) A (call (.ref bA) ws []) (qx J Z ⟨hh,g,d,t,os⟩ e) E0 ⟨hh,g,d,t,os⟩:=λhz hb=>by
  refine OH (C:=bA) (bm:=xI) PySem.F.excBase_Exception .base (by decide) (by decide) (by decide) X0 (S.stays _ _ hC) EO.ek.init EO.ek.isFn (λh' x m=>?_) (aaX hz)
  obtain ⟨tt,hx,abI,xu⟩:=m.there
  obtain ⟨dv,rA,Xb⟩:=hb h' x m
  refine Oj (s:=⟨h',g,d,t,os⟩) EO.ek B.kT B.lim (λb o e=>m.keeps b o (S.stays b o e)) (D1 _) hx rfl rfl rfl (jG S.stays m.new) i1 i2 i3 i4 i5 i6 i7 i8 i9 Ql rA λh2 tk dx es nn c1 c2 c3 c4 c5=>?_
  exact ⟨rfl,x,tt,dx,es,nn,rfl,λb o e=>c1 b o (λq=>by rw [q,m.new] at e;cases e) (m.keeps b o e),rfl,rfl,rfl,m.new,c2,gP (λb q=>by obtain ⟨o,ho⟩:=Option.isSome_iff_exists.mp q;rw [m.keeps _ _ ho];rfl) c3,c4,λv=>match Xb h2 v with
   |⟨a1,a2,a3⟩=>c5 J h2 Z e a1 a2 a3⟩
 refine R8 (P:=λws=>(ws.length≤3→(∀h' x,Heap.MadeExcOf hh h' x (.ref bA) ws→∃dv,BindsTo ⟨h',g,d,t,os⟩ fd ⟨.ref x::ws,[]⟩ [(eF,.ref x),(aB 11,ws.getD 0 .none),(aB 12,ws.getD 1 .none),(aB 13,dv)]∧∀h2,VK J Z hh Z h2→RV J h2 Z e.k (ws.getD 0 .none)∧RV J h2 Z e.a (ws.getD 1 .none)∧RV J h2 Z e.d dv)→
   wpAny (model U w) A (call (.ref bA) ws []) (qx J Z ⟨hh,g,d,t,os⟩ e) E0 ⟨hh,g,d,t,os⟩)→wpAny (model U w) A (call (.ref bA) ws []) (qx J Z ⟨hh,g,d,t,os⟩ e) E0 ⟨hh,g,d,t,os⟩) hv r (λkv av rk ra ed st=>?_) (λkv av dv rk ra rd st=>?_) start
 ·exact st (by show 2≤3;decide) λh' x m=>match Z3 ⟨h',g,d,t,os⟩ (.ref x) kv av (λb o e=>m.keeps b o (S.stays b o e)) with
   |⟨t0,hb⟩=>⟨_,hb,λh2 v=>⟨RV.mono v rk,RV.mono v ra,ed▸iu (l:=[]) t0 (Nat.zero_le _)⟩⟩
 ·exact st (by show 3≤3;decide) λh' x m=>⟨dv,Rh ⟨h',g,d,t,os⟩ (.ref x) kv av dv (λb o e=>m.keeps b o (S.stays b o e)),λh2 v=>⟨RV.mono v rk,RV.mono v ra,RV.mono v rd⟩⟩
inductive xN (nH:Obj) (X:Value→Shared→Prop) (v:Value) (bN:Shared):Prop where
 |mk (e t:Addr) (dx:Option Addr) (sl:Array (Option Value)) (hv:v= .ref e) (hC:bN.heap.get? bA=some nH) (he:bN.heap.get? e=some {cls:= .ref bA,dict:=dx,data:= .fields #[.ref t,.none,.none,.none,.bool false,.none],slots:=sl}) (hX:X (.ref e) bN):xN nH X v bN
theorem RU {e:aX} {nH:Obj} {v:Value} (H0:aR U w J fl aa nm aP ae L s0) (X1:aj aE Z s aP s0) (hC:J.get? bA=some nH) (m:qx J aP s0 e v s2) (t2:s0.toks≤s2.toks):xN nH (XS false U w J fl aa nm Z s (.exc e L ae)) v s2:=by
 obtain ⟨y,t,dx,sD,nn,e1,g,g1,g2,g3,d1,d2,d3,d4,d5⟩:=m
 have E1:aj aE aP s0 aP s2:=⟨List.prefix_refl _,λb o e _ _=>g b o e,λb e=>by
  obtain ⟨o,ho⟩:=Option.isSome_iff_exists.mp e
  rw [g b o ho];rfl,λn p hn e=>(by rw [List.getElem?_eq_none hn] at e;cases e),g1,g2,g3⟩
 have V:=E1.fe H0.st
 have H2:=H0.ext E1 (H0.st.sr.grow V λb o _ e=>g b o e) t2
 have XX:=X1.trans E1
 have nf:∀a,s0.heap.get? a=none→¬bL aP a:=λa e q=>by have:=H0.st.sr.live q;rw [e] at this;cases this
 exact ⟨y,t,some dx, #[],e1,H2.st.stays _ _ hC,d2,aP,y,rfl,⟨XX.pre,λb o q nf _=>⟨o.slots,XX.keep b o q nf λz=>z,λ_=>rfl⟩,XX.live,XX.new,XX.gens,XX.drawn,XX.os⟩,H2,
  gP X1.live d1,nf _ d1,_,dx,_,sD,nn,d2,rfl,rfl,rfl,rfl,.no rfl rfl,gP X1.live d3,nf _ d3,d4,d5 V⟩
theorem Sb (EO:hJ J K) (B:cx U w J gl bl K) (R:bI n 10 fl A) {es:Es} {args:List PySem.Expr} {pc:Pos} {out:aT} {nH:Obj} (Ls:fq U w J gl bl fl A C fu es) (hC:J.get? bA=some nH) (h2:cE aa.scope nm es args=true) (eo:bJ gl bl aa) (H:aR U w J fl aa nm Z O L s) (h:sz (bx C fu es L O) L=out) (hn:out≠ .stuck):
  wpAny (model U w) A (spliced (backTo pc (starEach args aa))) (λws bN=>K.In bN.heap∧wpAny (model U w) A (call (.ref bA) ([]++ws) []) (xN nH (XS false U w J fl aa nm Z s out)) (XS false U w J fl aa nm Z s out) bN) (XS false U w J fl aa nm Z s out) s:=
 match ho:bx C fu es L O,h with
 | .stuck,h=>absurd h.symm hn
 | .exc e ae,h=>mS (lM Ls h2 eo H ho nofun) (λ_ _ z _=>z.elim) λv s1 z t1=>vE H h z t1
 | .ok vs ae,h=>mS (lM Ls h2 eo H ho nofun) (λws s1 z t1=>match z with
   |⟨ao,X1,R1,r1⟩=>have H1:=H.ext X1 R1 t1
    ⟨tw B H1.st,fo (show bK (pL vs) aT.stuck (λe=> .exc e L ae)=out from h) hn λe he h=>h▸mS (Yw (E0:=λ_ _=>False) EO B R H1.st he r1) (λv s2 m t2=>RU H1 X1 hC m t2) λ_ _ z _=>z.elim⟩) λ_ _ z _=>z.elim
theorem zL (EO:hJ J K) (B:cx U w J gl bl K) (R:bI n 10 fl A) {es:Es} (Ls:fq U w J gl bl fl A C fu es):fw U w J gl bl fl A C fu (.raise es):=λ{aa nm x L O out Z s} hm eo ef H h hn=>Z1 (P:=λx=>wpAny (model U w) A (exec x aa) _ _ s) hm λq args pc p h1 h2=>by
 obtain ⟨BK,cq,N,bs,hdct,sn,sub,ab,col,dd,k0,k1,k2,k3,k5,hC⟩:=EO.cls
 rw [arm_exec_Raise]
 refine wpAny_bind (wpAny_standAt ?_)
 show wpAny _ A (raiseStmt aa (some (do let v←eval (.Call (.Name (Str.ofString "SourceError") q) args [] pc) aa;standAt p;pure v)) none) _ _ s
 have sp:=Sb (pc:=pc) EO B R Ls hC h2 eo H h hn
 refine XN (Cc:=bA) (bm:=xI) (nm:=BK) (q:=cq) (N:=N) (bs:=bs) (hdct:=hdct) (sn:=sn) (sub:=sub) (ab:=ab) (col:=col) (dd:=dd) (k0:=k0) (k1:=k1) (k2:=k2) (k3:=k3) (k5:=k5) (newId:="Exception.__new__") (by decide) R.hand (wpAny_bind (wpAny_mono (Q:=xN _ _) ?_ (λv bN hv=>wpAny_bind (wpAny_standAt (wpAny_pure (match hv with
  |⟨e,t,dx,sl,a1,a2,a3,a4⟩=>⟨e,t,dx,sl,a1,a2,a3,a4⟩)))) λ_ _ z=>z))
 refine wpAny_Call_NameR (oX eo H B.g.err h1 (callWith_of (P:=λh=>K.In h) (by rw [uI h2 aa pc];rfl) (λh X=>keeps_K EO.ek.kp h X) ?_))
 match es,args,h2,h,sp with
 | .nil,args,h2,h,sp=>exact absurd (show aT.stuck=out from h).symm hn
 | .cons e es,y::ys,h2,h,sp=>
  rw [uv (aN h2 λh _=>h)] at sp ⊢
  exact evalArgs_plain sp
end
end Mine
namespace Mine
open PySem PySem.W PyProof.Rows PySem.Calls
open Builtin Builtin.ObjectAttr
section
variable {U:Program} {w:World} {J:Heap} {gl bl:Addr} {K:Frag} {fl outer:List Env} {Z ai ao aP:aH} {O af ae az:ag} {s s' s1 s0 s2:Shared} {A:Around} {E0:Value→Shared→Prop} {aa:Env} {nm:List Str} {L L':Locals}
variable {C:Calls} {n fu:Nat}
theorem N0 {x:Addr} {ox od:Obj} {name:Str} {v:Value} {b:Bool} {Q:Value→Shared→Prop} (Sh:findIn K (.ref bA) "__getattribute__"=some (some (.builtin "BaseException.__getattribute__"))) (OM:findIn K (.ref bA) "__getattr__"=some none) (Bt:∃cd,clsIn K bA=some cd∧cd.mro=uT)
    (X:K.In s.heap) (I:InstAt s.heap x ox bA (some od)) (hf:findObj K bA (some od) name=some (.value v)) (hh:handedIn v=true) (h:Q v {s with toks:=s.toks+1}):wpAny (model U w) A (getAttr (.ref x) name b) Q E0 s:=by
 obtain ⟨hp,g,d,t,os⟩:=s
 have L0:=I.type (M:=model U w)
 have L1:=looks_findIn (M:=model U w) X Sh
 have aaq:=looks_findIn (M:=model U w) X OM
 have L2:=looks_find (M:=model U w) X I hf
 have f3:=PySem.F.attr_Exception.ga.bind (.ref x)
 have z6:(b&&onTheHeap (Value.builtin "BaseException.__getattribute__"))=false:=by cases b<;>rfl
 have mn:(Value.builtin "BaseException.__getattribute__"==Value.builtin "object.__getattribute__")=false:=by decide +kernel
 unfold getAttr getAttrBy
 refine wpAny_bind (wpAny_mkText (wpAny_holding (wpAny_bind (L0.at (wpAny_bind (L1.at ?_))))))
 simp only [mn,Bool.and_false,Bool.false_eq_true,if_false]
 unfold getAttrByItsOwn
 have hk:builtinKind "BaseException.__getattribute__"=some .slot:=by decide +kernel
 have PQ:splitId "BaseException.__getattribute__"=some ("BaseException","__getattribute__"):=by decide +kernel
 obtain ⟨cd,hc,lW⟩:=Bt
 have AI:cd.mro.contains (.type "BaseException")=true:=by rw [lW];decide
 have ne:cd.mro.isEmpty=false:=by rw [lW];rfl
 have sub:Looks (model U w) hp (isInstance (.ref x) (.type "BaseException")) true:=L0.andThen (looks_mroIn X (by unfold mroIn;rw [hc,Option.bind_some,if_neg (by rw [ne];decide),AI]))
 refine wpAny_bind (aaq.at (wpAny_bind (wpAny_attempt (wpAny_holding ?_))))
 unfold callGetattribute
 rw [if_neg (by rw [z6];decide)]
 unfold boundAndCalled
 refine wpAny_bind (wpAny_of_eq f3 ?_)
 refine wpAny_call (codeAny_call_builtin PySem.F.attr_Exception.ga.plain PySem.F.entry_bexc_ga (@check_slot (model U w) _ _ ⟨hp,g,d,t+1,os⟩ "BaseException.__getattribute__" "BaseException" "__getattribute__" (.ref x) [.str name t] [] _ hk PQ sub (PySem.F.args_bexc_ga (.ref x) (.str name t)) ?_))
 refine wpAny_bind (wpAny_pure (wpAny_bind (wpAny_pure (wpAny_bind (L0.at (wpAny_bind (L2.at (wpAny_pure ?_))))))))
 show wpAny _ _ (handedOut v) _ _ _
 rw [handedOut_of hh];exact wpAny_pure h
end
end Mine
namespace Mine
open PySem PySem.W PyProof.Rows PySem.Calls
structure EA (K:Frag):Prop where
 ga:findIn K (.ref bA) "__getattribute__"=some (some (.builtin "BaseException.__getattribute__"))
 gn:findIn K (.ref bA) "__getattr__"=some none
 hd:hasDictIn K bA=true
inductive PW (U:Program) (w:World) (J:Heap) (fl:List Env) (aa:Env) (Z:aH) (s:Shared) (g:Flow) (f:PySem.Flow) (s':Shared):Prop where
 |mk (ai:aH) (x:cV (cQ aa) (· ∈bb fl) Z s ai s') (fv:FV J s'.heap ai g f):PW U w J fl aa Z s g f s'
noncomputable def r6 (U:Program) (w:World) (J:Heap) (gl bl:Addr) (fl:List Env) (A:Around) (C:Calls) (fu:Nat) (st:Ss):Prop:=
 ∀{E0:Value→Shared→Prop} {aa:Env} {nm:List Str} {xs:List PySem.Stmt} {L L':Locals} {O af:ag} {g:Flow} {Z:aH} {s:Shared},ez aa.scope nm st xs=true→bJ gl bl aa→eN fl aa nm→aR U w J fl aa nm Z O L s→ah C fu st L O= .ok g L' af→
  wpAny (model U w) A (execs xs aa) (PW U w J fl aa Z s g) E0 s
section
variable {U:Program} {w:World} {J:Heap} {gl bl:Addr} {K:Frag} {fl outer:List Env} {Z ai ao aP:aH} {O af ae az:ag} {s s' s1 s0 s2:Shared} {A:Around} {E0:Value→Shared→Prop} {aa:Env} {nm:List Str} {L L':Locals}
variable {C:Calls} {n fu:Nat}
theorem aj.sz {X:Addr→Prop} {F:Addr→Prop} (a:aj X Z s ai s'):cV X F Z s ai s':=
 ⟨a.pre,λb o e nf nx=>⟨o.slots,a.keep b o e nf nx,λ_=>rfl⟩,a.live,a.new,a.gens,a.drawn,a.os⟩
theorem cV.then {X:Addr→Prop} {F:Addr→Prop} {cc:Shared} {gC:aH} (a:cV X F Z s ai s') (b:aj X ai s' gC cc):cV X F Z s gC cc:=by
 refine ⟨a.pre.trans b.pre,λc o e nf nx=>?_,λc e=>b.live c (a.live c e),λn p hn e=>?_,b.gens.trans a.gens,b.drawn.trans a.drawn,b.os.trans a.os⟩
 ·obtain ⟨sl,h,k⟩:=a.keep c o e nf nx
  exact ⟨sl,b.keep c _ h (λq=>nf (cV.gT a (by rw [e];rfl) q)) nx,k⟩
 ·by_cases hl:n<ai.length
  ·have:=lp b.pre (List.getElem?_eq_getElem hl)
   rw [e] at this
   exact a.new n p hn (by rw [List.getElem?_eq_getElem hl];exact this.symm)
  ·obtain ⟨h1,h2⟩:=b.new n p (Nat.le_of_not_lt hl) e
   exact ⟨gP a.live h1,gP a.live h2⟩
theorem Ga {g f:Flow} {L1:Locals} (h:aT.ok g L O= .ok f L1 ae):f=g:=by cases h;rfl
theorem PW.S6 {g:Flow} {af:ag} {f:PySem.Flow} (p:PS U w J fl aa nm Z s (.ok g L' af) f s'):PW U w J fl aa Z s g f s':=match p with
 |⟨ai,X,_,fv⟩=>⟨ai,X.sz,fv⟩
theorem PW.after {g:Flow} {f:PySem.Flow} (a:aj (cQ aa) aP s0 Z s) (p:PW U w J fl aa Z s g f s'):PW U w J fl aa aP s0 g f s':=match p with
 |⟨ai,X,fv⟩=>⟨ai,cV.chain a X λc q=> .inl q,fv⟩
theorem PW.end_ {g f:Flow} {L1:Locals} {r:PySem.Flow} (h:aT.ok g L O= .ok f L1 ae) (X:aj (cQ aa) Z s ai s') (fv:FV J s'.heap ai f r):PW U w J fl aa Z s g r s':=⟨ai,X.sz,Ga h▸fv⟩
theorem aaU {ss:Ss} (a:io U w J gl bl fl A C fu ss):r6 U w J gl bl fl A C fu ss:=λ{E0 aa nm xs L L' O af g Z s} hm eo ef H h=>
 wpAny_mono (a hm eo ef H h nofun) (λ_ _ p=>PW.S6 p) λ_ _ x=>x.elim
theorem Wk {st:S} {ss:Ss} (a:fw U w J gl bl fl A C fu st) (b:r6 U w J gl bl fl A C fu ss):r6 U w J gl bl fl A C fu (.cons st ss):=λ{E0 aa nm xs L L' O af g Z s} hm eo ef H h=>
 wpAny_mono (E:=XS false U w J fl aa nm Z s (.ok g L' af)) (Q:=PW U w J fl aa Z s g) (yS (Ps:=λxs=>wpAny (model U w) A (execs xs aa) _ _ s) hm λy ys h1 h2=>
  wpAny_execs_cons (wB (λei=>a h1 eo ef H rfl ei) (aj.refl _ _ _) h nofun λf L1 ae r ao s1 h X1 _ H1 fv=>Ek h fv (λh=>wpAny_mono (b h2 eo ef H1 h) (λ_ _ x=>PW.after X1 x) λ_ _ x=>x) (λh=>PW.end_ h X1 rfl) λv x h rv=>PW.end_ h X1 ⟨x,rfl,rv⟩))
  (λ_ _ x=>x) λ_ _ x=>x.elim
structure RK (U:Program) (w:World) (J:Heap) (fl:List Env) (aa:Env) (nm:List Str) (Z:aH) (s:Shared) (O:ag) (L:Locals) (x:Str) (y:Value) (m:Str→Option Value) (s':Shared):Prop where
 v:VK J Z s.heap Z s'.heap
 sb:Heap.SameBut aa.locals s.heap s'.heap
 ext:aj (cQ aa) Z s Z s'
 h:aR U w J fl aa nm Z O L s'
 ns:s'.heap.Ns aa.locals m
 at':m x=some y
theorem O7 {i j:Nat} {u:V} (hu:Locals.get (L.set i none) j=some u):j≠i∧L.get j=some u:=by
 unfold Locals.get at hu
 by_cases e:i=j
 ·subst e
  rw [List.getElem?_set_self'] at hu
  cases hq:L[i]? with
  |none=>rw [hq] at hu;cases hu
  |some _=>rw [hq] at hu;cases hu
 ·rw [List.getElem?_set_ne e] at hu
  exact ⟨Ne.symm e,hu⟩
theorem Qr {h h':Heap} {m:Str→Option Value} {a c:Addr} {z:Option Value} (hm:h.Ns a m) (a9:Heap.SameBut a h h') (q:∃o,h.get? c=some o∧o.data= .cell z):∃o,h'.get? c=some o∧o.data= .cell z:=match q with
 |⟨o,ho,hd⟩=>⟨o,(a9.2 c λe=>by
   obtain ⟨o',_,_,dZ,bO,_⟩:=hm
   rw [e,dZ] at ho;cases ho;rw [hd] at bO;cases bO).trans ho,hd⟩
theorem P9 (eo:bJ gl bl aa) (ef:eN fl aa nm) (H:aR U w J fl aa nm Z O L s) {i:Nat} {x:Str} {y:Value} (hi:dR aa.scope nm i x=true):
  wpAny (model U w) A (storeName aa x y) (λ_ s'=>∃m,RK U w J fl aa nm Z s O (L.set i none) x y m s') E0 s:=by
 replace hi:=m7 hi
 obtain ⟨m,hm,hl⟩:=H.loc
 refine wpAny_storeName_local (m:=m) hi.2.1 hm (λh' cv a9=>?_) (tJ eo.kind)
 obtain ⟨X,S,V⟩:=Iu H a9 cv (s.toks+1) (Nat.le_succ _)
 refine ⟨_,V,a9,X,⟨S,⟨_,cv,λj u hu=>?_⟩,H.jJ,H.ou⟩,cv,by simp⟩
 have hj:=O7 hu
 obtain ⟨nn,z,hn,rz,hz⟩:=hl j u hj.2
 have cz:nn≠x:=λe=>hj.1 ((List.getElem?_inj (List.getElem?_eq_some_iff.mp hn).1 ef.nodup).mp (hn.trans (e▸hi.1.symm)))
 exact ⟨nn,z,hn,RV.mono V rz,hz.imp (λq=>⟨q.1,by simp [cz,q.2]⟩) λq=>⟨q.1,q.2.imp λc q=>⟨q.1,Qr hm a9 q.2⟩⟩⟩
end
section
variable {U:Program} {w:World} {J:Heap} {gl bl:Addr} {K:Frag} {fl outer:List Env} {Z ai ao aP:aH} {O af ae az:ag} {s s' s1 s0 s2:Shared} {A:Around} {E0:Value→Shared→Prop} {aa:Env} {nm:List Str} {L L':Locals}
variable {C:Calls} {n fu:Nat}
inductive oF (J h:Heap) (Z:aH) (x:Addr) (e:aX):Prop where
 |mk (dx:Addr) (o:Obj) (vs:Array Value) (es:List DictEntry) (nn:Nat) (ho:h.get? x=some o) (cR:o.cls= .ref bA) (dm:o.dict=some dx) (hd:o.data= .fields vs) (d3:h.get? dx=some (dictOf es nn)) (d4:cD J h Z [(11,e.k),(12,e.a),(13,e.d)] es):oF J h Z x e
theorem oF.of {b:Bool} {h0 h:Heap} {x:Addr} {e:aX} (z:ka b J h0 h Z x e):oF J h Z x e:=match z with
 |⟨fresh,off,o,dx,vs,es,nn,ho,cR,dm,hd,bS,j3,d1,d2,d3,d4⟩=>⟨dx,o,vs,es,nn,ho,cR,dm,hd,d3,d4⟩
theorem VX {h:Heap} {m:Str→Option Value} {a b:Addr} {o:Obj} {vs:Array Value} (hm:h.Ns a m) (ho:h.get? b=some o) (hd:o.data= .fields vs):b≠a:=λq=>by
 obtain ⟨o',_,_,e1,bO,_⟩:=hm
 rw [←q,ho] at e1;cases e1;rw [hd] at bO;cases bO
theorem oF.turn {b:Bool} {h0 h h':Heap} {m:Str→Option Value} {a x:Addr} {e:aX} (z:ka b J h0 h Z x e) (la:(h0.get? a).isSome) (hm:h.Ns a m) (v:VK J Z h Z h') (sb:Heap.SameBut a h h'):oF J h' Z x e:=match z with
 |⟨fresh,off,o,dx,vs,es,nn,ho,cR,dm,hd,bS,j3,d1,d2,d3,d4⟩=>⟨dx,o,vs,es,nn,(sb.2 x (VX hm ho hd)).trans ho,cR,dm,hd,(sb.2 dx λq=>by rw [←q,d1] at la;cases la).trans d3,cD.mono v d4⟩
theorem Ij (EO:hJ J K) (EA:EA K) (X:K.In s.heap) {x:Addr} {f:Nat} {v:V} {e:aX} {b:Bool} {Q:Value→Shared→Prop} (h1:11≤f) (h2:f<14) (z:oF J s.heap Z x e)
    (hf:pD [(11,e.k),(12,e.a),(13,e.d)] f=some v) (h:∀y,RV J s.heap Z v y→Q y {s with toks:=s.toks+1}):wpAny (model U w) A (getAttr (.ref x) (aB f) b) Q E0 s:=by
 obtain ⟨dx,o,vs,es,nn,ho,cR,dm,hd,d3,d4⟩:=z
 have g:=Ad h2 d4
 rw [hf] at g
 obtain ⟨y,e,rv⟩:=g
 obtain ⟨cd,hc,lW,_⟩:=EO.ek.cd
 exact N0 EA.ga EA.gn ⟨cd,hc,lW⟩ X ⟨ho,cR,by obtain ⟨_,_,dd,_⟩:=o;cases hd;rfl,by rw [dm];exact d3⟩ (findObj_own (attr:=none) EA.hd (EO.ek.AU f h1 h2) rfl (by rw [lookIn_dict];exact e)) (JA rv) (h y rv)
theorem UD {i:Nat} {x:Str} (h:iP aa.scope nm i x=true):(x==("__debug__":Str))=false:=by
 unfold iP at h
 simp only [Bool.and_eq_true,beq_iff_eq,bne_iff_ne,ne_eq] at h
 exact beq_eq_false_iff_ne.mpr h.1.2
theorem abE {r c:Bool} (h:c=(false !=r)):(Value.bool c)= .bool r:=by subst h;cases r<;>rfl
theorem OL (eo:bJ gl bl aa) (H:aR U w J fl aa nm Z O L s) {e:aX} {kv av:Value} {wn:Str} {wI:Nat} {y z:V} {r:Bool} {aQ:List Nat} {p7 p8 p9:Pos} {k2:Nat} {Q:PySem.Flow→Shared→Prop} (hw:iP aa.scope nm wI wn=true) (oP:L.get wI=some y)
    (rk:RV J s.heap Z e.k kv) (ra:RV J s.heap Z e.a av) (hz:di O y (.str aQ)=some z) (mc:aQ.length≤aq) (hr:iX O (.tup [e.k,e.a]) z=some r) (hu:A.units+64<cLine) (hQ:∀ai s',aj aE Z s ai s'→Q (.ret (.bool r)) s'):
  wpAny (model U w) A (eval (.Subscript (.Name wn p7) (.Constant (.str ⟨aQ.toArray⟩) k2 p8) p9) aa) (λb s2=>wpAny (model U w) A (compareOp CmpOp.Eq (.ref s.heap.objs.size) b) (λv s'=>Q (.ret v) s') E0 s2) E0 {s with heap:=s.heap.push {cls:= .type "tuple",data:= .seq [kv,av].toArray},toks:=s.toks+2}:=by
 have T:=HB (vs:=[e.k,e.a]) (ws:=[kv,av]) H.st ⟨kv,_,rfl,rk,av,_,rfl,ra,rfl⟩ (s.toks+2)
 obtain ⟨ao,X1,R1,r1⟩:=T
 have H1:=H.ext X1 R1 (adm _ _)
 refine Subscript_ (wpAny_Name (wpAny_mono (wpAny_toks (Ee (E:=E0) eo H1 hw oP)) (λb s2 p=>?_) λ_ _ x=>x.1) (UD hw))
 obtain ⟨⟨eM,X2,R2,r2⟩,t2⟩:=p
 have H2:=H1.ext X2 R2 t2
 refine wpAny_Constant_str ?_
 have P2:=aI.same (w:=w) (U:=U) (X:=aE) H2.st.sr (iu (l:=aQ) s2.toks mc) (s2.toks+1)
 obtain ⟨ni,X3,R3,r3⟩:=P2
 have H3:=H2.ext X3 R3 (Nat.le_succ _)
 obtain ⟨T,id,g,hT,hl⟩:=C8 (A:=A) (E:=E0) (X:=aE) R3 (RV.mono (X3.fe H2.st) r2) r3 hz
 refine tail_any (ops:=[b]) hT hl (wpAny_mono g (λc s4 p=>?_) λ_ _ x=>x) rfl
 obtain ⟨sG,X4,R4,r4⟩:=p
 have HG:=(X2.trans X3).trans X4
 exact wpAny_mono (D2 (A:=A) (E:=E0) R4 (RV.mono (HG.fe H1.st) r1) r4 hu hr false) (λv s5 p=>match p with
  |⟨k⟩=>hQ _ _ ((X1.trans HG).trans ⟨List.prefix_refl _,λb o e _ _=>e,λb e=>e,λn p hn e=>(by rw [List.getElem?_eq_none hn] at e;cases e),rfl,rfl,rfl⟩)) λ_ _ x=>x
theorem aa3 (EO:hJ J K) (EA:EA K) (B:cx U w J gl bl K) (hu:A.units+64<cLine) (eo:bJ gl bl aa) (H:aR U w J fl aa nm Z O L s) {e:aX} {x:Addr} {v:Str} {wI:Nat} {y z:V} {r:Bool} {aQ:List Nat}
  {Q:PySem.Flow→Shared→Prop} {m:Str→Option Value} {l:List PySem.Stmt} (hb:qF aa.scope nm wI aQ v l=true) (hk:aa.kindOf v=some .local) (vh:v≠Str.ofString "__debug__") (hm:s.heap.Ns aa.locals m) (mi:m v=some (.ref x)) (oP:∀wn,iP aa.scope nm wI wn=true→wn≠v→L.get wI=some y)
  (xf:oF J s.heap Z x e) (hz:di O y (.str aQ)=some z) (mc:aQ.length≤aq) (hr:iX O (.tup [e.k,e.a]) z=some r) (hQ:∀ai s',aj aE Z s ai s'→Q (.ret (.bool r)) s'):wpAny (model U w) A (execs l aa) Q E0 s:=by
 have X:=tw B H.st
 have Ni:(v==("__debug__":Str))=false:=beq_eq_false_iff_ne.mpr vh
 refine Ie (Ps:=λl=>wpAny (model U w) A (execs l aa) Q E0 s) hb λt CT hc=>Y2 (P:=λt=>wpAny (model U w) A (execs [.Return (some t) CT] aa) Q E0 s) hc λtl tr MT ht hs=>
  Pw (P:=λtl=>wpAny (model U w) A (execs [.Return (some (.Compare tl [.Eq] [tr] MT)) CT] aa) Q E0 s) ht λp1 p2 p3 p4 k1 p5=>Vn (P:=λtr=>wpAny (model U w) A (execs [.Return (some (.Compare (.Tuple [.Attribute (.Name v p1) (Str.ofString "kind") p2,.Attribute (.Name v p3) (Str.ofString "at") p4] k1 p5) [.Eq] [tr] MT)) CT] aa) Q E0 s) hs λwn p7 k2 p8 p9 hw cz=>?_
 refine wpAny_execs_cons (wpAny_Return_some (wpAny_Compare1 (PySem.wpAny_Tuple_spliced ?_) (by rfl)))
 refine spliced_more (AD rfl (wpAny_Name (wpAny_loadName_local eo.kind hk hm mi ?_) Ni)) rfl
 refine Ij (f:=11) EO EA X (by decide) (by decide) xf rfl λkv rk=>?_
 refine spliced_more (AD rfl (wpAny_Name (wpAny_loadName_local eo.kind hk hm mi ?_) Ni)) rfl
 refine Ij (s:={s with toks:=s.toks+1}) (f:=12) EO EA X (by decide) (by decide) xf rfl λav ra=>?_
 refine spliced_none ⟨by show 2≤sizeLine;decide,?_⟩
 exact OL eo H hw (oP wn hw cz) rk ra hz mc hr hu hQ
end
section
variable {U:Program} {w:World} {J:Heap} {gl bl:Addr} {K:Frag} {fl outer:List Env} {Z ai ao aP:aH} {O af ae az:ag} {s s' s1 s0 s2:Shared} {A:Around} {E0:Value→Shared→Prop} {aa:Env} {nm:List Str} {L L':Locals}
variable {C:Calls} {n fu:Nat}
theorem G7 {h':Heap} {m:Str→Option Value} (hs:Heap.SameBut aa.locals s.heap h') (hm:h'.Ns aa.locals m) (k:Nat):aj (cQ aa) Z s Z {s with heap:=h',toks:=k}:=by
 refine ⟨List.prefix_refl _,λb o e _ nx=>(hs.2 b nx).trans e,λb hb=>?_,λn p hn e=>(by rw [List.getElem?_eq_none hn] at e;cases e),rfl,rfl,rfl⟩
 by_cases q:b=aa.locals
 ·subst q
  obtain ⟨o,_,_,e,_⟩:=hm
  show (h'.get? aa.locals).isSome=true
  rw [e];rfl
 ·show (h'.get? b).isSome=true
  rw [hs.2 b q];exact hb
theorem Qi {i j:Nat} {u:V} (h:L.get j=some u) (cz:j≠i):Locals.get (L.set i none) j=some u:=by
 unfold Locals.get at h ⊢
 rw [List.getElem?_set_ne (Ne.symm cz)];exact h
theorem ZC {i j:Nat} {v wn:Str} (hl:dR aa.scope nm i v=true) (hw:iP aa.scope nm j wn=true) (cz:wn≠v):j≠i:=λq=>by
 subst q
 unfold iP at hw
 simp only [Bool.and_eq_true,beq_iff_eq] at hw
 have:=hw.1.1.symm.trans (m7 hl).1
 cases this
 exact cz rfl
inductive vL (L:Locals) (O:ag) (e:aX) (wI:Nat) (aQ:List Nat) (g:Flow):Prop where
 |mk (y z:V) (r:Bool) (hy:L.get wI=some y) (hz:di O y (.str aQ)=some z) (hr:iX O (.tup [e.k,e.a]) z=some r) (hg:g= .ret (.bool r)):vL L O e wI aQ g
theorem Fc {α:Type} {o:Option α} {f:α→aT} {k:Flow→Locals→ag→aT} {out:aT} {P:Prop} (h:(bK o .stuck f).bind k=out) (hn:out≠ .stuck) (kk:∀x,o=some x→(f x).bind k=out→P):P:=match o,h with
 |some a,h=>kk a rfl h
 |none,h=>absurd h.symm hn
theorem Wn {e:aX} {wI:Nat} {aQ:List Nat} {g:Flow} {ac:Locals→ag→aT} (h:(handled (.exc e L O) wI aQ).bind (λf L O=>f.qg L O (ac L O))= .ok g L' af):vL L O e wI aQ g:=
 Fc (o:=(L.get wI).bind λx=>di O x (.str aQ)) (f:=λy=>bK (iX O (.tup [e.k,e.a]) y) .stuck λr=> .ok (.ret (.bool r)) L O) h nofun λz hb h=>Fc (o:=iX O (.tup [e.k,e.a]) z) (f:=λr=> .ok (.ret (.bool r)) L O) h nofun λr hr h=>lO hb λy hy hz=>⟨y,z,r,hy,hz,hr,Ga h⟩
inductive ij (U:Program) (w:World) (J:Heap) (fl:List Env) (aa:Env) (nm:List Str) (Z:aH) (s:Shared) (e:aX) (L':Locals) (af:ag) (x:Addr) (s':Shared):Prop where
 |mk (ai:aH) (hx:cV (cQ aa) (· ∈bb fl) Z s ai s') (hh:aR U w J fl aa nm ai af L' s') (he:ka true J s.heap s'.heap ai x e):ij U w J fl aa nm Z s e L' af x s'
theorem ij.of {e:aX} {x:Addr} (z:XS true U w J fl aa nm Z s (.exc e L' af) (.ref x) s'):ij U w J fl aa nm Z s e L' af x s':=match z with
 |⟨ni,y,hx,X3,H3,he⟩=>by cases hx;exact ⟨ni,X3,H3,he⟩
theorem bI.Zw {o:Option Value} (R:bI n 10 fl A):(A.mark o).units+64<cLine:=by rw [Around.mark_units];have:=R.units;omega
theorem VV (EO:hJ J K) (EA:EA K) (B:cx U w J gl bl K) (hu:A.units+64<cLine) (eo:bJ gl bl aa) (ef:eN fl aa nm) {i wI:Nat} {aQ:List Nat} {e:aX} {x:Addr} {v:Str} {body:List PySem.Stmt} {p:Pos} {g:Flow} {gz:ag} (H0:aR U w J fl aa nm Z gz L s) (mc:aQ.length≤aq)
    (hl:dR aa.scope nm i v=true) (vh:v≠Str.ofString "__debug__") (hb:qF aa.scope nm wI aQ v body=true) (hd:vL L' af e wI aQ g) (z:ij U w J fl aa nm Z s e L' af x s') {R:PySem.Flow→Shared→Prop} {A2:Around} {E1 E2 E3:Value→Shared→Prop}
    (hR:∀r s6,wpAny (model U w) A2 (do bindName aa v .none;unbindBehindTheSuite aa v p) (λ_ s7=>PW U w J fl aa Z s g (.ret r) s7) E3 s6→R (.ret r) s6):
  wpAny (model U w) A (storeName aa v (.ref x)) (λ_ s2=>wpAny (model U w) A (execs body aa) R E1 s2) E2 s':=by
 obtain ⟨sG,X4,H4,he⟩:=z
 obtain ⟨y,z,r,hy,hz,hr,rfl⟩:=hd
 refine wpAny_mono (P9 eo ef H4 hl (y:= .ref x)) (λ_ s5 q=>?_) λ_ _ x=>x
 obtain ⟨m,V5,Qg,X5,H5,ND,mi⟩:=q
 obtain ⟨mm,VT,_⟩:=H4.loc
 refine aa3 EO EA B hu eo H5 hb (m7 hl).2.1 vh ND mi (λwn hw cz=>Qi hy (ZC hl hw cz)) (oF.turn he (D4 H0) VT V5 Qg) hz mc hr λS9 s6 X6=>?_
 have Ub:s6.heap.Ns aa.locals m:=ND.at λo e=>X6.keep _ o e H5.jJ λq=>q
 refine hR _ _ (wpAny_bind (wpAny_bindName (wpAny_storeName_local (m:=m) (m7 hl).2.1 Ub (λh' cv a9=>?_) (tJ eo.kind))))
 unfold unbindBehindTheSuite
 refine wpAny_onRaise (wpAny_unbindName_local (v:= .none) (m7 hl).2.1 cv (by simp) (tJ eo.kind) λAJ u Rt O6=>?_)
 exact ⟨S9,((X4.then X5).then X6.loc).then ((G7 a9 cv (s6.toks+1)).trans (G7 (s:={s6 with heap:=h',toks:=s6.toks+1}) O6 Rt (s6.toks+1))),_,rfl,iy _⟩
theorem WT (EO:hJ J K) (EA:EA K) (B:cx U w J gl bl K) (RM:bI n 10 fl A) (eo:bJ gl bl aa) (ef:eN fl aa nm) {i wI:Nat} {aQ:List Nat} {e:aX} {v0:Value} {hd:ExceptHandler} {g:Flow} {gz:ag} (H0:aR U w J fl aa nm Z gz L s) (mc:aQ.length≤aq)
    (hh:yA aa.scope nm i wI aQ hd=true) (bO:vL L' af e wI aQ g) (z:XS true U w J fl aa nm Z s (.exc e L' af) v0 s') {R:PySem.Flow→Shared→Prop} (hR:∀r s',PW U w J fl aa Z s g (.ret r) s'→R (.ret r) s'):
  wpAny (model U w) A (handleBy v0 aa [hd]) R E0 s':=by
 refine aaM (H:=λhd=>wpAny (model U w) A (handleBy v0 aa [hd]) R E0 s') hh λq v body p hg hl vh hb=>?_
 obtain ⟨ni,x,rfl,X3,H3,he⟩:=z
 obtain ⟨BK,cq,N,bs,hdct,sn,sub,ab,col,dd,k0,acF,acu,k3,k5,hC⟩:=EO.cls
 have Xi:=H3.st.stays _ _ hC
 have Um:XS true U w J fl aa nm Z s (.exc e L' af) (.ref x) s':=⟨ni,x,rfl,X3,H3,he⟩
 obtain ⟨fresh,off,o,dx,vs,es,nn,mq,cR,dm,hd,bS,j3,d1,d2,d3,d4⟩:=he
 refine wpAny_handleBy_cons (codeAny_handlers_test (oX eo H3 B.g.err hg ?_)) (by intro q;cases q)
 obtain ⟨hp,gg,dr,tt,os⟩:=s'
 refine wpAny_excMatches_sub_self Xi mq cR (by decide) ?_
 obtain ⟨st,ab7,rfl⟩:∃st r,body=st::r:=Ie (Ps:=λbody=>∃st r,body=st::r) hb λx p _=>⟨_,_,rfl⟩
 refine codeAny_handlers_suite_as ?_
 refine wpAny_mono (xp (A:=A.mark (some (.ref x))) (fa:=none) H0.st Um) (λ_ s4 z4=>?_) λ_ _ x=>x
 exact VV EO EA B RM.Zw eo ef H0 mc hl vh hb bO (ij.of z4) λr s6 h=>wpAny_mono h (λ_ s7 pw=>hR r s7 pw) λ_ _ x=>x
theorem Sq (EO:hJ J K) (EA:EA K) (B:cx U w J gl bl K) (R:bI n 10 fl A) {b ac:Ss} {i wI:Nat} {aQ:List Nat} (mc:aQ.length≤aq)
    (sb:io U w J gl bl fl A C fu b) (sr:io U w J gl bl fl A C fu ac):r6 U w J gl bl fl A C fu (.cons (.j9 b i wI aQ) ac):=λ{E0 aa nm xs L L' O af g Z s} hm eo ef H h=>by
 refine yS (Ps:=λxs=>wpAny (model U w) A (execs xs aa) (PW U w J fl aa Z s g) E0 s) hm λy ys h1 h2=>SJ (P:=λy=>wpAny (model U w) A (execs (y::ys) aa) (PW U w J fl aa Z s g) E0 s) h1 λyb hd p hh hb=>?_
 replace h:(handled (ah C fu b L O) wI aQ).bind (λf L O=>f.qg L O (ah C fu ac L O))=aT.ok g L' af:=h
 refine wpAny_execs_cons (wpAny_Try_except ?_)
 exact match ho:ah C fu b L O,h with
 | .stuck,h=>nomatch h
 | .ok f L1 ae,h=>wpAny_mono (sb hb eo ef H ho nofun) (λr s1 z=>match z with
  |⟨ao,X1,H1,fv⟩=>Ek (show f.qg L1 ae (ah C fu ac L1 ae)=aT.ok g L' af from h) fv (λh=>wpAny_execs_nil (wpAny_mono (aaU sr h2 eo ef H1 h) (λ_ _ x=>PW.after X1 x) λ_ _ x=>x)) (λh=>PW.end_ h X1 rfl) λv x h rv=>PW.end_ h X1 ⟨x,rfl,rv⟩) λ_ _ x=>x.elim
 | .exc e L1 ae,h=>wpAny_mono (sb hb eo ef H ho nofun) (λ_ _ x=>x.elim) λv0 s1 zx=>by
   refine wpAny_mono (uJ R.frames ef E0 Z s _ v0 s1 O H.st zx) (λ_ s2 z2=>wpAny_mono (xp (A:=A) (fa:=none) H.st z2) (λ_ s3 z3=>?_) λ_ _ x=>x) λ_ _ x=>x
   exact WT EO EA B R eo ef H mc hh (Wn h) z3 λ_ _ x=>x
end
mutual
noncomputable def A3:S→Bool
 | .ite _ a b=>ji a&&ji b
 | .dF _ b=>ji b
 | .forL _ _ b=>ji b
 | .forR _ _ b=>ji b
 | .j9 _ _ _ _=>false
 | .expr _ | .aA _ _ | .lZ _ _ | .setAttr _ _ _ | .eQ _ _ _ | .unpack _ _ | .gJ _ _ _ | .g9 _ _ _ _ | .ret _ | .lI | .raise _ | .brk | .lJ _ _=>true
noncomputable def ji:Ss→Bool
 | .nil=>true
 | .cons s ss=>A3 s&&ji ss
end
noncomputable def S.JK (s:S) (d:Bool) (f:Ss→List Nat→Bool):Bool:=match s with
 | .j9 b _ _ aQ=>f b aQ
 |_=>d
@[elab_as_elim] theorem Rv {s:S} {d:Bool} {f:Ss→List Nat→Bool} {P:S→Prop} (h:s.JK d f=true) (k1:∀b i w aQ,f b aQ=true→P (.j9 b i w aQ)) (k2:d=true→P s):P s:=match s,h with
 | .j9 _ _ _ _,h=>k1 _ _ _ _ h
 | .expr _,h | .aA _ _,h | .lZ _ _,h | .setAttr _ _ _,h | .eQ _ _ _,h | .unpack _ _,h | .gJ _ _ _,h | .g9 _ _ _ _,h | .ret _,h | .lI,h | .raise _,h | .brk,h | .lJ _ _,h | .ite _ _ _,h | .dF _ _,h | .forL _ _ _,h | .forR _ _ _,h=>k2 h
section
variable {U:Program} {w:World} {J:Heap} {gl bl:Addr} {K:Frag} {fl outer:List Env} {A:Around}
variable {C:Calls} {n fu:Nat}
mutual
theorem KO (EO:hJ J K) (B:cx U w J gl bl K) (ih:∀e,a8 U w J gl bl fl A C fu e) (il:∀es,fq U w J gl bl fl A C fu es) (R:bI n 10 fl A):∀st:S,A3 st=true→fw U w J gl bl fl A C fu st
 | .expr e,_=>n6 (ih e)
 | .aA i e,_=>VN (ih e)
 | .lZ i e,_=>WO B R ih
 | .setAttr o f e,_=>Ol B (ih o) (ih e)
 | .eQ o i e,_=>Uu (ih o) (ih i) (ih e)
 | .unpack is e,_=>pW R (ih e)
 | .gJ i op e,_=>Cs (ih e)
 | .g9 o i op e,_=>B5 (ih o) (ih i) (ih e)
 | .ret e,_=>uU (ih e)
 | .lI,_=>vi
 | .ite c a b,h=>aN h λh1 h2=>mE (ih c) (pE EO B ih il R a h1) (pE EO B ih il R b h2)
 | .dF c b,h=>W3 (λ_ _ ef=>uJ R.frames ef) (λ_ _ ef=>Be ef) (ih c) (pE EO B ih il R b h)
 | .forL i e b,h=>p6 R (λ_ _ ef=>uJ R.frames ef) (λ_ _ ef=>Be ef) (ih e) (pE EO B ih il R b h)
 | .forR i e b,h=>xj B R (λ_ _ ef=>uJ R.frames ef) (λ_ _ ef=>Be ef) (ih e) (pE EO B ih il R b h)
 | .raise es,_=>zL EO B R (il es)
 | .j9 b i w aQ,h=>nomatch h
 | .brk,_=>wj
 | .lJ o i,_=>Rf (ih o) (ih i)
theorem pE (EO:hJ J K) (B:cx U w J gl bl K) (ih:∀e,a8 U w J gl bl fl A C fu e) (il:∀es,fq U w J gl bl fl A C fu es) (R:bI n 10 fl A):∀ss:Ss,ji ss=true→io U w J gl bl fl A C fu ss
 | .nil,_=>PD
 | .cons s ss,h=>aN h λh1 h2=>QD (KO EO B ih il R s h1) (pE EO B ih il R ss h2)
end
theorem zB (EO:hJ J K) (B:cx U w J gl bl K) (CO:iT U w J n C) (R:bI n 10 fl A) (ss:Ss) (h:ji ss=true):io U w J gl bl fl A C fu ss:=pE EO B (ea B CO R) (jd B CO R) R ss h
theorem Ky {gV:List Fn} (EO:hJ J K) (B:cx U w J gl bl K) (D:∀f F,gV[f]?=some F→(oT J gl bl f F∧ji F.body=true)∨¬F.np≤F.nl):∀n,iT U w J n (ay gV fu n)
 |0=>λf vs O out h hn=>absurd h.symm hn
 |n+1=>λf vs O out h hn fl A Z s ws R S r=>fo h hn λF hf h=>(D f F hf).elim
      (λd=>abl B d.1 (λfl A R=>zB EO B (Ky EO B D n) R F.body d.2) R S h hn r)
      λno=>absurd (show wq (ay gV fu n) fu F vs O=out from h) λh=>da h hn λq _=>no q.2
noncomputable def we:Ss→Bool
 | .nil=>false
 | .cons s ss=>s.JK (A3 s&&we ss) λb aQ=>ji b&&(ji ss&&decide (aQ.length≤aq))
theorem JC (EO:hJ J K) (EA:EA K) (B:cx U w J gl bl K) (CO:iT U w J n C) (R:bI n 10 fl A):∀ss:Ss,we ss=true→r6 U w J gl bl fl A C fu ss
 | .nil,h=>nomatch h
 | .cons s ss,h=>Rv (P:=λs=>r6 U w J gl bl fl A C fu (.cons s ss)) h (λb i w aQ h=>aN h λh1 h=>aN h λh2 h3=>Sq EO EA B R (adn h3) (zB EO B CO R b h1) (zB EO B CO R ss h2))
      λh=>aN h λh1 h2=>Wk (KO EO B (ea B CO R) (jd B CO R) R _ h1) (JC EO EA B CO R ss h2)
end
section
variable {U:Program} {w:World} {J:Heap} {gl bl:Addr} {K:Frag} {A:Around} {s:Shared} {C:Calls} {n fu:Nat}
theorem SE {M:Model} {E:Value→Shared→Prop} {aa:Env} {s₀:Shared} {m cm:Str→Option Value} {x:Str} {v:Value} {Q:Unit→Shared→Prop} (z:InCallC s₀ aa.locals m aa.cells cm s) (hk:aa.scope.kind= .function) (hl:aa.kindOf x=some .local)
    (h:∀s',InCallC s₀ aa.locals (λy=>if y=x then some v else m y) aa.cells cm s'→s.toks+1≤s'.toks→Q () s'):wpAny M A (storeName aa x v) Q E s:=
 wpAny_storeName_local hl z.toInCall.ns (λh' Oo Kv=>h _ ⟨⟨match z.toInCall.same with
  |⟨fB,tk,e⟩=>e▸⟨h',_,rfl⟩,Oo,λb o e=>Kv.extBut b o (Nat.ne_of_lt (adk (Heap.lt_size e) z.toInCall.fresh)) (z.toInCall.keep b o e),z.toInCall.fresh⟩,
  λk c hc=>(z.cell k c hc).sameBut Kv (Nat.ne_of_gt (z.above k c (mem_of_lookup hc))),z.apart,z.above⟩ (adp _)) (by rw [hk];rfl)
theorem Ui {f:Nat} (VJ:∀o fd,J.get? (bQ f)=some o→o.data= .func fd→∀x,fd.scope.names.lookup x≠some .cell):xn U w A J s f 1 (s.toks+1):=λo fd jY ho hd hk dw hz Q E hQ=>match jY,dw,hz,hQ with
 |[(x,v)],_,hz,hQ=>by
  have hl:fd.scope.names.lookup x=some .local:=(hz _ (.head _)).elim id λq=>absurd q.1 (VJ o fd ho hd x)
  simp only [newFunctionEnv,Option.isSome_none,Bool.false_eq_true,if_false]
  refine wpAny_bind (wpAny_alloc ?_)
  refine wpAny_bind (wpAny_layCells _ (λname kind cells=>by cases Q2:kind==NameKind.cell<;>simp [Q2]) _ _ _ _ ?_)
  have ok:=cellsFrom_ok fd.scope.names (s.heap.push {cls:= .type "frame",data:= .dict #[]}) (s.heap.objs.size+1) [] ⟨λ_ _ hm=>(nomatch hm),List.Pairwise.nil⟩ (by rw [Heap.size_push];exact adp _)
  rw [Heap.size_push] at ok
  rw [show ({s with heap:=s.heap.push {cls:= .type "frame",data:= .dict #[]}}:Shared).heap.objs.size=s.heap.objs.size+1 from Heap.size_push ..]
  refine wpAny_bind ?_
  rw [List.forIn_cons]
  refine wpAny_bind (wpAny_bind (SE (s₀:=s) (m:=λ_=>none) (cm:=λ_=>none) (aa:=callEnvC fd s.heap.objs.size (bQ f)) ⟨⟨⟨_,_,rfl⟩,(Heap.Ns.new s.heap (.type "frame")).keeps (pushCells_keeps _ _),λb o e=>pushCells_keeps _ _ b o (Heap.get?_push_of_some _ e),adp _⟩,
      λn c hc=>(ok.empty n c (mem_of_lookup hc)).1,ok.apart,λn c hm=>(ok.empty n c hm).2⟩ hk hl λs' z ht=>wpAny_pure ?_))
  refine (show wpAny _ _ (forIn ([]:List (Str×Value)) PUnit.unit (λx __s=>(do storeName (callEnvC fd s.heap.objs.size (bQ f)) x.1 x.2;pure (ForInStep.yield PUnit.unit):Sem (ForInStep PUnit)))) _ _ _ from ?_)
  rw [List.forIn_nil]
  refine wpAny_pure (wpAny_pure (hQ _ rfl s' ?_ ht))
  have eL:bindL (callEnvC fd s.heap.objs.size (bQ f)).kindOf [(x,v)] (λ_=>none)=λy=>if y=x then some v else none:=if_pos hl
  have eC:bindC (callEnvC fd s.heap.objs.size (bQ f)).kindOf [(x,v)] (λ_=>none)=λ_=>none:=if_pos hl
  rw [eL,eC]
  exact z
theorem R7 (EO:hJ J K) (EA:EA K) (B:cx U w J gl bl K) (CO:iT U w J n C) {f:Nat} {F:Fn} (D:oT J gl bl f F) (hE:we F.body=true) {vs:List V} {ws:List Value} {L':Locals} {af:ag} {g:Flow}
    (R:bI (n+1) 0 [] A) {k:Nat} (S:St U w J [] [] [] {s with toks:=k}) (r:aD J s.heap [] vs ws) (hl:vs.length=F.np) (st:xn U w A J s f F.np k) (h:ah C fu F.body (vs.map some++List.replicate (F.nl-F.np) none) []= .ok (.ret (.bool true)) L' af):
  codeAny (model U w) A (.call (.ref (bQ f)) ⟨ws,[]⟩) (λres s'=>res= .ok (.ret (.bool true))∧(∀b o,s.heap.get? b=some o→s'.heap.get? b=some o)∧s'.gens=s.gens∧s'.os=s.os) s:=
 Lo B D R S r hl st λe1 nm body s2 r0=>wpAny_mono (JC EO EA B CO r0.R _ hE r0.hm r0.eo r0.ef r0.H h) (λv s' p=>by
  obtain ⟨ai,X2,fv⟩:=p
  obtain ⟨x,hv,rv⟩:∃x,v= .ret x∧RV J s'.heap ai (.bool true) x:=fv
  refine ⟨by rw [hv,show x=Value.bool true from rv];rfl,λb o e=>?_,X2.gens.trans r0.X.gens,X2.os.trans r0.X.os⟩
  have nb:b≠e1.locals:=λq=>by rw [q,r0.dead] at e;cases e
  obtain ⟨sl,e3,e4⟩:=X2.keep b o (r0.X.keep b o e (λ⟨p,hp,_⟩=>nomatch hp) (λq=>q.elim)) (λ⟨p,hp,_⟩=>nomatch hp) (λq=>nb q)
  exact e3.trans (congrArg (λsl=>some {o with slots:=sl}) (e4 λq=>nb (by simpa [bb,r0.ef.frame] using q)))) λe s' p=>False.elim p
end
end Mine
namespace Mine.Q
noncomputable def yt:Fn:=⟨1,0,.nil⟩
noncomputable def aw:List Fn:=(gV.set 14 yt).set 38 yt
theorem so {fu n f:Nat} {vs:List V} {O:ag} {F:Fn} (h:aw[f]?=some F) (h1:vs.length=F.np) (h2:F.np≤F.nl):
  ay aw fu (n+1) f vs O=fD (ah (ay aw fu n) fu F.body (vs.map some++List.replicate (F.nl-F.np) Option.none) O):=
 (congrArg (λo=>bK o Out.stuck λF=>wq (ay aw fu n) fu F vs O) h).trans (if_pos ⟨h1,h2⟩)
noncomputable def Pg (c:Nat):Bool:=c==95||(c==36||(decide (48≤c)&&decide (c≤57)))||((decide (97≤c)&&decide (c≤122))||(decide (65≤c)&&decide (c≤90)))
noncomputable def du (p:List Nat→Bool):List Nat→Nat
 |[]=>0
 |c::r=>if p (c::r)=true then du p r+1 else 0
noncomputable def fE:List Nat→Bool
 |c::_=>Pg c
 |[]=>false
theorem Ci {α:Type} {b:Bool} {x y:α} (h:b=true):(if b=true then x else y)=x:=if_pos h
theorem B0 {α:Type} {b:Bool} {x y:α} (h:b=false):(if b=true then x else y)=y:=by rw [h];rfl
theorem mr (p:List Nat→Bool):∀s,du p s≤s.length
 |[]=>adp _
 |c::r=>match h:p (c::r) with
  |true=>adj (Nat.le_of_eq (Ci h)) (Nat.succ_le_succ (mr p r))
  |false=>adj (Nat.le_of_eq (B0 h)) (Nat.zero_le _)
theorem adb {α β:Type} (a:α) (O:ag) (f:α→ag→Out β):(Out.ok a O).bind f=f a O:=rfl
theorem de {α β:Type} {o:Out α} {a:α} {O:ag} {f:α→ag→Out β} {r:Out β} (h:o= .ok a O) (k:f a O=r):o.bind f=r:=by rw [h];exact k
theorem Lu {o:Out V} {a:V} {O:ag} {L:Locals} {f:V→ag→aT} {r:aT} (h:o= .ok a O) (k:f a O=r):o.toS L f=r:=by rw [h];exact k
theorem Sy {o:aT} {g:Flow} {L:Locals} {O:ag} {f:Flow→Locals→ag→aT} {r:aT} (h:o= .ok g L O) (k:f g L O=r):o.bind f=r:=by rw [h];exact k
theorem kP {α β:Type} {o:Option β} {d r:α} {f:β→α} {x:β} (h:o=some x) (k:f x=r):bK o d f=r:=by rw [h];exact k
theorem oy {α:Type} {o:Option α} {v:α} {O:ag} (h:o=some v):gB o O= .ok v O:=by rw [h];rfl
theorem tD {t:List Nat} {p:List Nat→Bool} {cond:Locals→ag→Out V} {body:Locals→ag→aT} {mk:Nat→Locals} {O:ag} (hp:p []=false)
    (hc:∀k,k≤t.length→cond (mk k) O= .ok (.bool (p (t.drop k))) O) (hb:∀k,k<t.length→body (mk k) O= .ok .next (mk (k+1)) O):
  ∀jq k r,t.drop k=r→r.length<jq→k≤t.length→kh cond body jq (mk k) O= .ok .next (mk (k+du p r)) O
 |0,k,_,_,h,_=>absurd h (Nat.not_lt_zero _)
 |jq+1,k,[],hd,h,hk=>Lu (hc k hk) (by rw [hd,hp];rfl)
 |jq+1,k,c::r,hd,h,hk=>Lu (hc k hk) (by
  have aK:k<t.length:=Nat.lt_of_not_le λq=>by rw [List.drop_eq_nil_of_le q] at hd;cases hd
  have hr:t.drop (k+1)=r:=by rw [←List.drop_drop,hd];rfl
  rw [hd]
  match hq:p (c::r) with
  |false=>rw [show du p (c::r)=0 from B0 hq];rfl
  |true=>exact Sy (hb k aK) (by
   rw [show du p (c::r)=du p r+1 from Ci hq, ←Nat.add_assoc,Nat.add_right_comm]
   exact tD hp hc hb jq (k+1) r hr (Nat.lt_of_succ_lt_succ h) aK))
theorem J7 {k:Nat} (h:k<16777300):(k:Int)<4294967296:=Int.lt_trans (Int.ofNat_lt.2 h) (by decide)
theorem SS {k:Int} (h:0≤k∧k<4294967296):ky (.int k) true=some (some k.toNat):=if_pos h
theorem uS {k:Nat} (h:k<16777300):ky (.int (k:Int)) true=some (some k):=SS ⟨Int.natCast_nonneg k,J7 h⟩
theorem M1 {O:ag} {s:List Nat} {lo hi:V} {hl hh:Bool} {l h:Option Nat} (h1:ky lo hl=some l) (h2:ky hi hh=some h):iV O (.str s) lo hi hl hh= .ok (.str (ku s l h)) O:=
 kP h1 (kP h2 rfl)
theorem RW {O:ag} {t:List Nat} {a b:Nat} (h:b<16777300) (ha:a<16777300):iV O (.str t) (.int (a:Int)) (.int (b:Int)) true true= .ok (.str ((t.drop a).take (b-a))) O:=
  (M1 (uS ha) (uS h)).trans (congrArg (λl=>Out.ok (V.str l) O) (show ku t (some a) (some b)=_ from List.drop_take ..))
theorem Jw {O:ag} {t:List Nat} {k c:Nat} {r:List Nat} (h:t.drop k=c::r):di O (.str t) (.int (k:Int))=some (.str [c]):=by
 have h1:t[k]?=some c:=(List.head?_drop ..).symm.trans (congrArg List.head? h)
 show (if (0:Int)≤k then (t[(k:Int).toNat]?).map λc=>V.str [c] else Option.none)=_
 rw [if_pos (Int.natCast_nonneg k),show t[(k:Int).toNat]?=some c from h1];rfl
theorem Fy (a b:Nat):decide (([a]:List Nat)<[b])=decide (a<b):=by
 rw [Bool.eq_iff_iff,decide_eq_true_eq,decide_eq_true_eq,List.cons_lt_cons_iff]
 simp
theorem Ov (a b:Nat):decide (([a]:List Nat)=[b])=(a==b):=by
 rw [Bool.eq_iff_iff,decide_eq_true_eq,beq_iff_eq]
 simp
theorem le_str {O:ag} (a b:Nat):co .le O (.str [a]) (.str [b])=some (.bool (decide (a≤b))):=by
 show some (V.bool (!decide (([b]:List Nat)<[a])))=_
 rw [Fy, ←decide_not]
 congr 2;rw [decide_eq_decide];exact Nat.not_lt
inductive Wp {α:Type}:Out α→(α→ag→Prop)→(aX→ag→Prop)→Prop where
 |ok {Q:α→ag→Prop} {X:aX→ag→Prop} {v:α} {O:ag}:Q v O→Wp (.ok v O) Q X
 |exc {Q:α→ag→Prop} {X:aX→ag→Prop} {e:aX} {O:ag}:X e O→Wp (.exc e O) Q X
inductive Wq:aT→(Flow→Locals→ag→Prop)→(aX→ag→Prop)→Prop where
 |ok {Q:Flow→Locals→ag→Prop} {X:aX→ag→Prop} {f:Flow} {L:Locals} {O:ag}:Q f L O→Wq (.ok f L O) Q X
 |exc {Q:Flow→Locals→ag→Prop} {X:aX→ag→Prop} {e:aX} {L:Locals} {O:ag}:X e O→Wq (.exc e L O) Q X
inductive Ex {α:Type}:Option α→(α→Prop)→Prop where
 |mk {P:α→Prop} {v:α}:P v→Ex (some v) P
inductive o5:V→(Bool→Prop)→Prop where
 |mk {P:Bool→Prop} {b:Bool}:P b→o5 (.bool b) P
inductive Br:Bool→Prop→Prop→Prop where
 |t {A B:Prop}:A→Br true A B
 |f {A B:Prop}:B→Br false A B
inductive bM (Q:V→ag→Prop):Flow→Locals→ag→Prop where
 |ret {v:V} {L:Locals} {O:ag}:Q v O→bM Q (.ret v) L O
 |next {L:Locals} {O:ag}:Q .none O→bM Q .next L O
inductive Nx (C:Calls) (fu:Nat) (ss:Ss) (Q:Flow→Locals→ag→Prop) (X:aX→ag→Prop):Flow→Locals→ag→Prop where
 |next {L:Locals} {O:ag}:Wq (ah C fu ss L O) Q X→Nx C fu ss Q X .next L O
 |ret {v:V} {L:Locals} {O:ag}:Q (.ret v) L O→Nx C fu ss Q X (.ret v) L O
 |brk {L:Locals} {O:ag}:Q .brk L O→Nx C fu ss Q X .brk L O
inductive Tu (x:V) (P:List V→Prop):Prop where
 |mk {vs:List V}:x= .tup vs→P vs→Tu x P
inductive Lp (C:Calls) (fu:Nat) (ss:Ss) (Q:Flow→Locals→ag→Prop) (X:aX→ag→Prop) (I:Locals→ag→Prop):Flow→Locals→ag→Prop where
 |next {L:Locals} {O:ag}:I L O→Lp C fu ss Q X I .next L O
 |brk {L:Locals} {O:ag}:Wq (ah C fu ss L O) Q X→Lp C fu ss Q X I .brk L O
 |ret {v:V} {L:Locals} {O:ag}:Q (.ret v) L O→Lp C fu ss Q X I (.ret v) L O
inductive Nm (M:Locals→ag→Prop):Flow→Locals→ag→Prop where
 |mk {L:Locals} {O:ag}:M L O→Nm M .next L O
inductive It (A:V→Prop) (B:Prop):Option V→Prop where
 |more {v:V}:A v→It A B (some v)
 |done:B→It A B Option.none
section
variable {α β:Type} {X:aX→ag→Prop} {C:Calls} {fu:Nat} {L:Locals} {O:ag}
theorem jm {Q:β→ag→Prop} {o:Out α} {k:α→ag→Out β} (h:Wp o (λv O=>Wp (k v O) Q X) X):Wp (o.bind k) Q X:=by
 cases h with
 |ok h=>exact h
 |exc h=>exact .exc h
theorem eB {Q:Flow→Locals→ag→Prop} {o:Out V} {k:V→ag→aT} (h:Wp o (λv O=>Wq (k v O) Q X) X):Wq (o.toS L k) Q X:=by
 cases h with
 |ok h=>exact h
 |exc h=>exact .exc h
theorem BG {Q:Flow→Locals→ag→Prop} {o:aT} {k:Flow→Locals→ag→aT} (h:Wq o (λf L O=>Wq (k f L O) Q X) X):Wq (o.bind k) Q X:=by
 cases h with
 |ok h=>exact h
 |exc h=>exact .exc h
theorem Th {Q Q':α→ag→Prop} {X':aX→ag→Prop} {o:Out α} (h:Wp o Q X) (hq:∀v O,Q v O→Q' v O) (hx:∀e O,X e O→X' e O):Wp o Q' X':=by
 cases h with
 |ok h=>exact .ok (hq _ _ h)
 |exc h=>exact .exc (hx _ _ h)
theorem df {Q Q':α→ag→Prop} {o:Out α} (h:Wp o Q X) (hq:∀v O,Q v O→Q' v O):Wp o Q' X:=Th h hq λ_ _ h=>h
theorem YB {Q Q':Flow→Locals→ag→Prop} {X':aX→ag→Prop} {o:aT} (h:Wq o Q X) (hq:∀f L O,Q f L O→Q' f L O) (hx:∀e O,X e O→X' e O):Wq o Q' X':=by
 cases h with
 |ok h=>exact .ok (hq _ _ _ h)
 |exc h=>exact .exc (hx _ _ h)
theorem vX {Q Q':Flow→Locals→ag→Prop} {o:aT} (h:Wq o Q X) (hq:∀f L O,Q f L O→Q' f L O):Wq o Q' X:=YB h hq λ_ _ h=>h
theorem GU {o:Option α} {Q:α→ag→Prop} (h:Ex o λv=>Q v O):Wp (gB o O) Q X:=by
 cases h with
 |mk h=>exact .ok h
theorem aS {o:Out α} {v:α} {af:ag} {Q:α→ag→Prop} (e:o= .ok v af) (h:Q v af):Wp o Q X:=e▸ .ok h
theorem NA {o:Out α} {v:α} {af:ag} (h:Wp o (λv' s'=>v'=v∧s'=af) (λ_ _=>False)):o= .ok v af:=by
 cases h with
 |ok h=>rw [h.1,h.2]
 |exc h=>exact h.elim
theorem bZ {o:Option α} {v:α} {P:α→Prop} (e:o=some v) (h:P v):Ex o P:=e▸ .mk h
theorem rT {t:Bool} {A B:Prop} (h:t=true→A) (h2:t=false→B):Br t A B:=by cases t;exact .f (h2 rfl);exact .t (h rfl)
theorem Vk {p:Prop} [d:Decidable p] {A B:Prop} (h:p→A) (h2:¬p→B):Br (decide p) A B:=rT (λe=>h (adn e)) (λe=>h2 (ado e))
theorem Om {v:V} {f:Bool→Out α} {Q:α→ag→Prop} {P:Bool→Prop} (h:o5 v P) (hb:∀b,P b→Wp (f b) Q X):Wp (v.iE .stuck f) Q X:=by
 cases h with
 |mk h=>exact hb _ h
theorem IF {v:V} {f:Bool→aT} {Q:Flow→Locals→ag→Prop} {P:Bool→Prop} (h:o5 v P) (hb:∀b,P b→Wq (f b) Q X):Wq (v.iE .stuck f) Q X:=by
 cases h with
 |mk h=>exact hb _ h
theorem BF {o:Option α} {f:α→aT} {Q:Flow→Locals→ag→Prop} (h:Ex o λx=>Wq (f x) Q X):Wq (bK o .stuck f) Q X:=by
 cases h with
 |mk h=>exact h
end
section
variable {X:aX→ag→Prop} {C:Calls} {fu:Nat} {L:Locals} {O:ag} {Q:V→ag→Prop} {Qs:List V→ag→Prop} {a b c e lo hi:E} {es:Es}
theorem AO {k:V→V→ag→Option V} (h:Wp (ev C fu a L O) (λx O=>Wp (ev C fu b L O) (λy O=>Ex (k x y O) λv=>Q v O) X) X):Wp ((ev C fu a L O).bind λx O=>(ev C fu b L O).bind λy O=>gB (k x y O) O) Q X:=
 jm (df h λ_ _ h=>jm (df h λ_ _ h=>GU h))
theorem J1 {op:BinOp} (h:Wp (ev C fu a L O) (λx O=>Wp (ev C fu b L O) (λy O=>Ex (e8 op x y) λv=>Q v O) X) X):Wp (ev C fu (.bin op a b) L O) Q X:=AO (k:=λx y _=>e8 op x y) h
theorem xG {op:mT} (h:Wp (ev C fu a L O) (λx O=>Wp (ev C fu b L O) (λy O=>Ex (co op O x y) λv=>Q v O) X) X):Wp (ev C fu (.cmp op a b) L O) Q X:=AO (k:=λx y O=>co op O x y) h
theorem lc (h:Wp (ev C fu a L O) (λx O=>Wp (ev C fu b L O) (λy O=>Ex (di O x y) λv=>Q v O) X) X):Wp (ev C fu (.idx a b) L O) Q X:=AO (k:=λx y O=>di O x y) h
theorem eu {f:Nat} (h:Wp (bx C fu es L O) (λvs O=>Wp (C f vs O) Q X) X):Wp (ev C fu (.call f es) L O) Q X:=jm h
theorem BZ {c:cj} (h:Wp (bx C fu es L O) (λvs O=>Wp (oU C c O vs) Q X) X):Wp (ev C fu (.new c es) L O) Q X:=jm h
theorem wm (h:Wp (bx C fu es L O) (λvs O=>Q (.tup vs) O) X):Wp (ev C fu (.tup es) L O) Q X:=jm (df h λ_ _ h=> .ok h)
theorem Zd (h:Wp (bx C fu es L O) (λvs O=>Q (.ref O.length) (O++[.list vs])) X):Wp (ev C fu (.list es) L O) Q X:=jm (df h λ_ _ h=> .ok h)
theorem Ud (h:Wp (ev C fu c L O) (λx O=>o5 x λt=>Br t (Wp (ev C fu a L O) Q X) (Wp (ev C fu b L O) Q X)) X):Wp (ev C fu (.ite c a b) L O) Q X:=
 jm (df h λv O h=>Om h λt h=>by
  cases h with
  |t h=>exact h
  |f h=>exact h)
theorem mh (h:Qs [] O):Wp (bx C fu .nil L O) Qs X:= .ok h
theorem ii (h:Wp (ev C fu e L O) (λv O=>Wp (bx C fu es L O) (λvs O=>Qs (v::vs) O) X) X):Wp (bx C fu (.cons e es) L O) Qs X:=jm (df h λ_ _ h=>jm (df h λ_ _ h=> .ok h))
theorem V0 {m f n:Nat} {c:cj} {xs:List (Nat×V)} (h:Wp (ev C fu a L O) (λx O=>x= .ref n∧O[n]?=some (.inst c xs)∧Wp (bx C fu es L O) (λvs O=>Wp (C f (.ref n::vs) O) Q X) X) X) (hf:gb c m=some f):Wp (ev C fu (.own a m es) L O) Q X:=
 jm (df h λx O h=>by
  obtain ⟨rfl,g,h⟩:=h
  show Wp (bK (gY O n Option.none λc=>c.kY Option.none λc _=>some c) .stuck λc=>bK (gb c m) .stuck λf=>(bx C fu es L O).bind λvs O=>C f (.ref n::vs) O) Q X
  unfold gY;rw [g]
  show Wp (bK (gb c m) .stuck λf=>(bx C fu es L O).bind λvs O=>C f (.ref n::vs) O) Q X
  rw [hf]
  exact jm h)
end
section
variable {X:aX→ag→Prop} {C:Calls} {fu:Nat} {L:Locals} {O:ag} {Q:Flow→Locals→ag→Prop} {e o i:E} {a b ss:Ss}
theorem bz (h:Q .next L O):Wq (ah C fu .nil L O) Q X:= .ok h
theorem e9 {s:S} (h:Wq (ex C fu s L O) (Nx C fu ss Q X) X):Wq (ah C fu (.cons s ss) L O) Q X:=BG (vX h λf L O h=>by
 cases h with
 |next h=>exact h
 |ret h=>exact .ok h
 |brk h=>exact .ok h)
theorem KH {s:S}:ah C fu (.cons s .nil) L O=ex C fu s L O:=by
 show (ex C fu s L O).bind _=_
 cases ex C fu s L O with
 |stuck=>rfl
 |exc e L O=>rfl
 |ok f L O=>cases f<;>rfl
theorem ab5 {s:S} (M:Locals→ag→Prop) (h1:Wq (ah C fu (.cons s .nil) L O) (Nm M) X) (h2:∀L O,M L O→Wq (ah C fu ss L O) Q X):Wq (ah C fu (.cons s ss) L O) Q X:=
 e9 (vX (KH▸h1) λf L O h=>by
  cases h with
  |mk h=>exact .next (h2 _ _ h))
theorem n6 (h:Wp (ev C fu e L O) (λ_ O=>Wq (ah C fu ss L O) Q X) X):Wq (ah C fu (.cons (.expr e) ss) L O) Q X:=e9 (eB (df h λ_ _ h=> .ok (.next h)))
theorem eT {n:Nat} (h:Wp (ev C fu e L O) (λv O=>Wq (ah C fu ss (L.put n v) O) Q X) X):Wq (ah C fu (.cons (.aA n e) ss) L O) Q X:=e9 (eB (df h λ_ _ h=> .ok (.next h)))
theorem aaO {n:Nat} (h:Wp (ev C fu e L O) (λv O=>Wq (ah C fu ss (L.put n v) O) Q X) X):Wq (ah C fu (.cons (.lZ n e) ss) L O) Q X:=e9 (eB (df h λ_ _ h=> .ok (.next h)))
theorem uU (h:Wp (ev C fu e L O) (λv O=>Q (.ret v) L O) X):Wq (ah C fu (.cons (.ret e) ss) L O) Q X:=e9 (eB (df h λ_ _ h=> .ok (.ret h)))
theorem vi (h:Q (.ret .none) L O):Wq (ah C fu (.cons .lI ss) L O) Q X:=e9 (.ok (.ret h))
theorem wj (h:Q .brk L O):Wq (ah C fu (.cons .brk ss) L O) Q X:=e9 (.ok (.brk h))
theorem mE (h:Wp (ev C fu e L O) (λv O=>o5 v λt=>Br t (Wq (ah C fu a L O) (Nx C fu ss Q X) X) (Wq (ah C fu b L O) (Nx C fu ss Q X) X)) X):Wq (ah C fu (.cons (.ite e a b) ss) L O) Q X:=
 e9 (eB (df h λv O h=>IF h λt h=>by
  cases h with
  |t h=>exact h
  |f h=>exact h))
theorem IH {f:Nat} (h:Wp (ev C fu e L O) (λv O=>Wp (ev C fu o L O) (λx O=>Ex (qQ O x f v) λO=>Wq (ah C fu ss L O) Q X) X) X):Wq (ah C fu (.cons (.setAttr o f e) ss) L O) Q X:=
 e9 (eB (df h λv O h=>eB (df h λx O h=>by
  generalize qQ O x f v=o at h ⊢
  cases h with
  |mk h=>exact .ok (.next h))))
theorem Hw (h:Wp (ev C fu e L O) (λv O=>Wp (ev C fu o L O) (λx O=>Wp (ev C fu i L O) (λy O=>Ex (jI O x y v) λO=>Wq (ah C fu ss L O) Q X) X) X) X):Wq (ah C fu (.cons (.eQ o i e) ss) L O) Q X:=
 e9 (eB (df h λv O h=>eB (df h λx O h=>eB (df h λy O h=>by
  generalize jI O x y v=o at h ⊢
  cases h with
  |mk h=>exact .ok (.next h)))))
theorem pW {is:List Nat} (h:Wp (ev C fu e L O) (λv O=>Tu v λvs=>Ex (putAll L is vs) λL'=>Wq (ah C fu ss L' O) Q X) X):Wq (ah C fu (.cons (.unpack is e) ss) L O) Q X:=
 e9 (eB (df h λv O h=>by
  obtain ⟨rfl,h⟩:=h
  exact BF (by
   generalize putAll L is _=o at h ⊢
   cases h with
   |mk h=>exact .mk (.ok (.next h)))))
theorem Cs {n:Nat} {x:V} {op:BinOp} (hx:L.get n=some x) (h:Wp (ev C fu e L O) (λy O=>Wp (jr op O x y) (λz O=>Wq (ah C fu ss (L.put n z) O) Q X) X) X):Wq (ah C fu (.cons (.gJ n op e) ss) L O) Q X:=
 e9 (BF (bZ hx (eB (df h λv O h=>eB (df h λ_ _ h=> .ok (.next h))))))
theorem B5 {op:BinOp} (h:Wp (ev C fu o L O) (λx O=>Wp (ev C fu i L O) (λy O=>Ex (di O x y) λold=>Wp (ev C fu e L O) (λv O=>Wp (jr op O old v) (λz O=>Ex (jI O x y z) λO=>Wq (ah C fu ss L O) Q X) X) X) X) X):Wq (ah C fu (.cons (.g9 o i op e) ss) L O) Q X:=
 e9 (eB (df h λx O h=>eB (df h λy O h=>eB (GU (by
  generalize di O x y=o0 at h ⊢
  cases h with
  |mk h=>
   exact .mk (eB (df h λv O h=>eB (df h λz O h=>by
    generalize jI O x y z=o at h ⊢
    cases h with
    |mk h=>exact .ok (.next h)))))))))
theorem PH (h:Wp (ev C fu o L O) (λx O=>Wp (ev C fu i L O) (λy O=>Ex (rG O x y) λO=>Wq (ah C fu ss L O) Q X) X) X):Wq (ah C fu (.cons (.lJ o i) ss) L O) Q X:=
 e9 (eB (df h λv O h=>eB (df h λx O h=>by
  generalize rG O v x=o at h ⊢
  cases h with
  |mk h=>exact .ok (.next h))))
theorem zL {es:Es} (h:Wp (bx C fu es L O) (λvs O=>Ex (pL vs) λe=>X e O) X):Wq (ah C fu (.cons (.raise es) ss) L O) Q X:=e9 (by
 show Wq (sz (bx C fu es L O) L) _ X
 generalize bx C fu es L O=o at h ⊢
 cases h with
 |exc h=>exact .exc h
 |@ok _ _ vs af h=>exact BF (by
   generalize pL vs=o at h ⊢
   cases h with
   |mk h=>exact .mk (.exc h)))
theorem Mc {c:E} (I:Nat→Locals→ag→Prop) (step:∀m L O,I m L O→Wp (ev C fu c L O) (λv af=>o5 v λt=>Br t (Wq (ah C fu b L af) (Lp C fu ss Q X λL O=>∃m',m'<m∧I m' L O) X) (Wq (ah C fu ss L af) Q X)) X):
  ∀f m L O,I m L O→m<f→Wq (kh (ev C fu c) (ah C fu b) f L O) (Nx C fu ss Q X) X
 |0,m,L,O,_,h=>absurd h (Nat.not_lt_zero _)
 |f+1,m,L,O,hI,h=>eB (df (step m L O hI) λv af h1=>IF h1 λt h1=>by
  cases h1 with
  |f h1=>exact .ok (.next h1)
  |t h1=>exact BG (vX h1 λf' L' hS h2=>by
    cases h2 with
    |brk h2=>exact .ok (.next h2)
    |ret h2=>exact .ok (.ret h2)
    |next h2=>
     obtain ⟨m',hm,Tf⟩:=h2
     exact Mc I step f m' L' hS Tf (adk hm (Nat.le_of_lt_succ h))))
theorem UO {c:E} {m:Nat} (I:Nat→Locals→ag→Prop) (hI:I m L O) (hm:m<fu) (step:∀m L O (K:Locals→ag→Prop),(∀m' L O,m'<m→I m' L O→K L O)→I m L O→Wp (ev C fu c L O) (λv af=>o5 v λt=>Br t (Wq (ah C fu b L af) (Lp C fu ss Q X K) X) (Wq (ah C fu ss L af) Q X)) X):
  Wq (ah C fu (.cons (.dF c b) ss) L O) Q X:=
 e9 (Mc I (λm L O h=>step m L O (λL O=>∃m',m'<m∧I m' L O) (λm' L O h1 h2=>⟨m',h1,h2⟩) h) fu m L O hI hm)
theorem U9 {c:E} {L':Locals} {af:ag} (e:kh (ev C fu c) (ah C fu b) fu L O= .ok .next L' af) (h:Wq (ah C fu ss L' af) Q X):Wq (ah C fu (.cons (.dF c b) ss) L O) Q X:=
 e9 (by show Wq (kh (ev C fu c) (ah C fu b) fu L O) _ _;rw [e];exact .ok (.next h))
theorem xK {item:Nat→ag→Option (Option V)} {x:Nat} (I:Nat→Locals→ag→Prop) (N:Nat) (step:∀k L O,I k L O→k≤N∧Ex (item k O) λo=>It (λv=>k<N∧Wq (ah C fu b (L.put x v) O) (Lp C fu ss Q X (I (k+1))) X) (Wq (ah C fu ss L O) Q X) o):
  ∀f k L O,I k L O→N<f+k→Wq (jl item x (ah C fu b) f k L O) (Nx C fu ss Q X) X
 |0,k,L,O,hI,h=>absurd (adk h (Nat.le_of_eq (Nat.zero_add k))) (Nat.not_lt.2 (step k L O hI).1)
 |f+1,k,L,O,hI,h=>by
  show Wq (bK (item k O) .stuck λo=>bK o (.ok .next L O) λv=>(ah C fu b (L.put x v) O).bind λf' L O=>f'.turn L O (jl item x (ah C fu b) f (k+1) L O)) _ _
  obtain ⟨hk,h1⟩:=step k L O hI
  generalize item k O=o at h1 ⊢
  cases h1 with
  |mk h1=>cases h1 with
   |done h1=>exact .ok (.next h1)
   |more h1=>exact BG (vX h1.2 λf' L' hS h2=>by
     cases h2 with
     |brk h2=>exact .ok (.next h2)
     |ret h2=>exact .ok (.ret h2)
     |next h2=>exact xK I N step f (k+1) L' hS h2 (by rw [Nat.add_comm k, ←Nat.add_assoc];exact h))
theorem p6 {x:Nat} (N:Nat) (I:Nat→Locals→ag→Prop) (hN:N<fu)
    (h:Wp (ev C fu e L O) (λv O=>∃n,v= .ref n∧I 0 L O∧∀k L O (K:Locals→ag→Prop),(∀L O,I (k+1) L O→K L O)→I k L O→k≤N∧Ex (j4 n k O) λo=>It (λv=>k<N∧Wq (ah C fu b (L.put x v) O) (Lp C fu ss Q X K) X) (Wq (ah C fu ss L O) Q X) o) X):Wq (ah C fu (.cons (.forL x e b) ss) L O) Q X:=
 e9 (eB (df h λv O h=>by
  obtain ⟨n,rfl,h1,h2⟩:=h
  exact xK I N (λk L O h=>h2 k L O _ (λ_ _ h=>h) h) fu 0 L O h1 hN))
theorem FU {k:Int} {f:Int→aT} (h:Wq (f k) Q X):Wq ((V.int k).cA .stuck f) Q X:=h
theorem zu {N:Nat} (h:(N:Int)<2147483648):smallInt (N:Int)=true:=by
 unfold smallInt
 rw [Bool.and_eq_true,decide_eq_true_eq,decide_eq_true_eq]
 exact ⟨Int.lt_of_lt_of_le (by decide) (Int.natCast_nonneg N),h⟩
theorem C9 {k N:Nat} (h:k<N):f9 (N:Int) k O=some (some (.int (k:Int))):=congrArg some (if_pos (Int.ofNat_lt.2 h))
theorem z8 {N:Nat}:f9 (N:Int) N O=some Option.none:=congrArg some (if_neg (Int.lt_irrefl _))
theorem xj {x:Nat} (N:Nat) (I:Nat→Locals→ag→Prop) (hN:N<fu) (WQ:(N:Int)<2147483648)
    (h:Wp (ev C fu e L O) (λv O=>v= .int (N:Int)∧I 0 L O) X)
    (step:∀k L O (K:Locals→ag→Prop),k<N→(∀L O,I (k+1) L O→K L O)→I k L O→Wq (ah C fu b (L.put x (.int (k:Int))) O) (Lp C fu ss Q X K) X) (fin:∀L O,I N L O→Wq (ah C fu ss L O) Q X):
  Wq (ah C fu (.cons (.forR x e b) ss) L O) Q X:=
 e9 (eB (df h λv O h=>by
  obtain ⟨rfl,h1⟩:=h
  refine FU ?_
  rw [if_pos (zu WQ)]
  refine xK (λk L O=>k≤N∧I k L O) N (λk L O hI=>⟨hI.1,?_⟩) fu 0 L O ⟨Nat.zero_le _,h1⟩ hN
  exact (Nat.lt_or_eq_of_le hI.1).elim (λhk=>bZ (C9 hk) (.more ⟨hk,step k L O _ hk (λL O h=>⟨hk,h⟩) hI.2⟩)) λhk=>by
   subst hk;exact bZ z8 (.done (fin L O hI.2))))
theorem N5 {n f:Nat} {vs:List V} {F:Fn} {Q:V→ag→Prop} (h:aw[f]?=some F) (h1:vs.length=F.np) (h2:F.np≤F.nl)
    (H:Wq (ah (ay aw fu n) fu F.body (vs.map some++List.replicate (F.nl-F.np) Option.none) O) (bM Q) X):Wp (ay aw fu (n+1) f vs O) Q X:=by
 rw [so h h1 h2]
 generalize ah (ay aw fu n) fu F.body (vs.map some++List.replicate (F.nl-F.np) Option.none) O=o at H ⊢
 cases H with
 |exc h=>exact .exc h
 |ok h=>cases h with
  |ret h=>exact .ok h
  |next h=>exact .ok h
end
section
variable {C:Calls} {fu:Nat} {L:Locals} {O ae az cM eH:ag} {a b c e lo hi:E} {es:Es} {v x y z:V} {vs:List V}
theorem abS:ev C fu .none L O= .ok .none O:=rfl
theorem acz {b:Bool}:ev C fu (.bool b) L O= .ok (.bool b) O:=rfl
theorem Fw {i:Int}:ev C fu (.int i) L O= .ok (.int i) O:=rfl
theorem acd {s:List Nat}:ev C fu (.str s) L O= .ok (.str s) O:=rfl
theorem abK {k:Nat}:ev C fu (.jZ k) L O= .ok (.int (ua k)) O:=rfl
theorem dE {i:Nat} (h:L.get i=some v):ev C fu (.loc i) L O= .ok v O:=oy h
theorem bG {op:BinOp} (h1:ev C fu a L O= .ok x ae) (h2:ev C fu b L ae= .ok y az) (h3:e8 op x y=some v):ev C fu (.bin op a b) L O= .ok v az:=de h1 (de h2 (oy h3))
theorem aO {op:mT} (h1:ev C fu a L O= .ok x ae) (h2:ev C fu b L ae= .ok y az) (h3:co op az x y=some v):ev C fu (.cmp op a b) L O= .ok v az:=de h1 (de h2 (oy h3))
theorem bj (h1:ev C fu a L O= .ok x ae) (h2:ev C fu b L ae= .ok y az) (h3:di az x y=some v):ev C fu (.idx a b) L O= .ok v az:=de h1 (de h2 (oy h3))
theorem cH {f:Nat} (h1:ev C fu a L O= .ok x ae) (h3:wc ae x f=some v):ev C fu (.attr a f) L O= .ok v ae:=de h1 (oy h3)
theorem e7 {hl hh:Bool} (h1:ev C fu a L O= .ok x ae) (h2:ev C fu lo L ae= .ok y az) (h3:ev C fu hi L az= .ok z cM) (h4:iV cM x y z hl hh= .ok v eH):ev C fu (.slice a lo hi hl hh) L O= .ok v eH:=de h1 (de h2 (de h3 h4))
theorem d8 {f:Nat} (h1:bx C fu es L O= .ok vs ae) (h2:C f vs ae= .ok v az):ev C fu (.call f es) L O= .ok v az:=de h1 h2
theorem UH {c:cj} (h1:bx C fu es L O= .ok vs ae) (h2:oU C c ae vs= .ok v az):ev C fu (.new c es) L O= .ok v az:=de h1 h2
theorem fb {b:Bi} (h1:bx C fu es L O= .ok vs ae) (h2:mR b ae vs= .ok v az):ev C fu (.bi b es) L O= .ok v az:=de h1 h2
theorem mZ (h1:bx C fu es L O= .ok vs ae):ev C fu (.tup es) L O= .ok (.tup vs) ae:=de h1 rfl
theorem Dm (h1:bx C fu es L O= .ok vs ae):ev C fu (.list es) L O= .ok (.ref ae.length) (ae++[.list vs]):=de h1 rfl
theorem DO {ks:List (List Nat)} (h1:bx C fu es L O= .ok vs ae) (h2:vs.length=ks.length∧ks.Nodup):ev C fu (.dict ks es) L O= .ok (.ref ae.length) (ae++[.dict (ks.zip vs)]):=de h1 (if_pos h2)
theorem rf {b:Bool} (h1:ev C fu a L O= .ok (.bool b) ae):ev C fu (.not a) L O= .ok (.bool (!b)) ae:=de h1 rfl
theorem acQ {i:Int} (h1:ev C fu a L O= .ok (.int i) ae):ev C fu (.neg a) L O= .ok (.int (-i)) ae:=de h1 rfl
theorem pb {t:Bool} (h1:ev C fu c L O= .ok (.bool t) ae) (h2:t=true→ev C fu a L ae= .ok v az) (h3:t=false→ev C fu b L ae= .ok v az):ev C fu (.ite c a b) L O= .ok v az:=de h1 (match t,h2,h3 with
 |true,h2,_=>h2 rfl
 |false,_,h3=>h3 rfl)
theorem Eb:bx C fu .nil L O= .ok [] O:=rfl
theorem aJ (h1:ev C fu e L O= .ok v ae) (h2:bx C fu es L ae= .ok vs az):bx C fu (.cons e es) L O= .ok (v::vs) az:=de h1 (de h2 rfl)
theorem abU {t p:Bool} (h1:ev C fu e L O= .ok (.bool p) ae):eg C fu t (.cons e .nil) L O= .ok (.bool p) ae:=de h1 rfl
theorem fy {p:Bool} (h1:ev C fu e L O= .ok (.bool p) ae):eg C fu true (.cons e .nil) L O= .ok (.bool p) ae:=de h1 rfl
theorem jV {p:Bool} (h1:ev C fu e L O= .ok (.bool p) ae):eg C fu false (.cons e .nil) L O= .ok (.bool p) ae:=de h1 rfl
theorem Ef {e2:E} {p q:Bool} (h1:ev C fu e L O= .ok (.bool p) ae) (h2:p=true→eg C fu true (.cons e2 es) L ae= .ok (.bool q) ae):eg C fu true (.cons e (.cons e2 es)) L O= .ok (.bool (p&&q)) ae:=de h1 (match p,h2 with
 |true,h2=>h2 rfl
 |false,_=>rfl)
theorem SU {e2:E} {p q:Bool} (h1:ev C fu e L O= .ok (.bool p) O) (h2:p=false→eg C fu false (.cons e2 es) L O= .ok (.bool q) O):eg C fu false (.cons e (.cons e2 es)) L O= .ok (.bool (p||q)) O:=de h1 (match p,h2 with
 |false,h2=>h2 rfl
 |true,_=>rfl)
theorem fJ {e2:E} {p q:Bool} (h1:ev C fu e L O= .ok (.bool p) ae) (h2:eg C fu true (.cons e2 es) L ae= .ok (.bool q) ae):eg C fu true (.cons e (.cons e2 es)) L O= .ok (.bool (p&&q)) ae:=Ef h1 λ_=>h2
theorem jB {e2:E} {p q:Bool} (h1:ev C fu e L O= .ok (.bool p) O) (h2:eg C fu false (.cons e2 es) L O= .ok (.bool q) O):eg C fu false (.cons e (.cons e2 es)) L O= .ok (.bool (p||q)) O:=SU h1 λ_=>h2
theorem kj (h:eg C fu true es L O= .ok v ae):ev C fu (.and es) L O= .ok v ae:=h
theorem oh (h:eg C fu false es L O= .ok v ae):ev C fu (.or es) L O= .ok v ae:=h
theorem gX {α:Type} {n:Nat} {xs:List V} {d:α} {f:List V→α} (g:O[n]?=some (.list xs)):eZ O n d f=f xs:=by unfold eZ gY;rw [g];rfl
theorem qJ {α:Type} {n:Nat} {xs:List (List Nat×V)} {d:α} {f:List (List Nat×V)→α} (g:O[n]?=some (.dict xs)):jy O n d f=f xs:=by unfold jy gY;rw [g];rfl
theorem CY {α:Type} {n:Nat} {c:cj} {xs:List (Nat×V)} {d:α} {f:cj→List (Nat×V)→α} (g:O[n]?=some (.inst c xs)):kY O n d f=f c xs:=by unfold kY gY;rw [g];rfl
theorem zO {m:Bm} (h1:ev C fu a L O= .ok x ae) (hk:qj m.kd ae x=true) (h2:bx C fu es L ae= .ok vs az) (h3:fz m az x vs= .ok v cM):ev C fu (.bt m a es) L O= .ok v cM:=de h1 ((if_pos hk).trans (de h2 h3))
theorem jf {m:Bm} {s:List Nat} (h1:ev C fu a L O= .ok (.str s) ae) (hm:m.kd= .s) (h2:bx C fu es L ae= .ok vs az) (h3:fz m az (.str s) vs= .ok v cM):ev C fu (.bt m a es) L O= .ok v cM:=zO h1 (by rw [hm];rfl) h2 h3
theorem ip {m:Bm} {n:Nat} {xs:List V} (h1:ev C fu a L O= .ok (.ref n) ae) (g:ae[n]?=some (.list xs)) (hm:m.kd= .l) (h2:bx C fu es L ae= .ok vs az) (h3:fz m az (.ref n) vs= .ok v cM):ev C fu (.bt m a es) L O= .ok v cM:=zO h1 (by rw [hm];exact gX g) h2 h3
theorem Xx {m:Bm} {n:Nat} {xs:List (List Nat×V)} (h1:ev C fu a L O= .ok (.ref n) ae) (g:ae[n]?=some (.dict xs)) (hm:m.kd= .d) (h2:bx C fu es L ae= .ok vs az) (h3:fz m az (.ref n) vs= .ok v cM):ev C fu (.bt m a es) L O= .ok v cM:=zO h1 (by rw [hm];exact qJ g) h2 h3
theorem abA {m n f:Nat} {c:cj} {xs:List (Nat×V)} (h1:ev C fu a L O= .ok (.ref n) ae) (g:ae[n]?=some (.inst c xs)) (hf:gb c m=some f) (h2:bx C fu es L ae= .ok vs az) (h3:C f (.ref n::vs) az= .ok v cM):ev C fu (.own a m es) L O= .ok v cM:=
 de h1 (kP (CY g) (kP hf (de h2 h3)))
theorem GD {c d:Nat} {s:List Nat} (h1:ev C fu a L O= .ok (.str s) ae) (hl:s.length≤8000000):ev C fu (.km a c d) L O= .ok (.str (s.map λx=>if x=c then d else x)) ae:=de h1 (if_pos hl)
end
section
variable {X:aX→ag→Prop} {C:Calls} {fu:Nat} {L:Locals} {O ae az cM:ag} {Q:Flow→Locals→ag→Prop} {e o i:E} {a b ss:Ss} {es:Es} {v x y z:V} {vs:List V}
theorem dS (h:ev C fu e L O= .ok v ae) (k:Wq (ah C fu ss L ae) Q X):Wq (ah C fu (.cons (.expr e) ss) L O) Q X:=n6 (aS h k)
theorem dj (h:ev C fu e L O= .ok v ae) (k:Q (.ret v) L ae):Wq (ah C fu (.cons (.ret e) ss) L O) Q X:=uU (aS h k)
theorem fG {t:Bool} (h:ev C fu e L O= .ok (.bool t) ae) (k1:t=true→Wq (ah C fu a L ae) (Nx C fu ss Q X) X) (k2:t=false→Wq (ah C fu b L ae) (Nx C fu ss Q X) X):Wq (ah C fu (.cons (.ite e a b) ss) L O) Q X:=
 mE (aS h (.mk (rT k1 k2)))
theorem eJ {p:Prop} [Decidable p] (h:ev C fu e L O= .ok (.bool (decide p)) ae) (k1:p→Wq (ah C fu a L ae) (Nx C fu ss Q X) X) (k2:¬p→Wq (ah C fu b L ae) (Nx C fu ss Q X) X):Wq (ah C fu (.cons (.ite e a b) ss) L O) Q X:=
 mE (aS h (.mk (Vk k1 k2)))
theorem cN (h:ev C fu e L O= .ok (.bool true) ae) (k:Wq (ah C fu a L ae) (Nx C fu ss Q X) X):Wq (ah C fu (.cons (.ite e a b) ss) L O) Q X:=mE (aS h (.mk (.t k)))
theorem fH (h:ev C fu e L O= .ok (.bool false) ae) (k:Wq (ah C fu b L ae) (Nx C fu ss Q X) X):Wq (ah C fu (.cons (.ite e a b) ss) L O) Q X:=mE (aS h (.mk (.f k)))
theorem cg (h:ev C fu e L O= .ok (.bool false) ae) (k:Wq (ah C fu ss L ae) Q X):Wq (ah C fu (.cons (.ite e a .nil) ss) L O) Q X:=fH h (bz (.next k))
theorem ja {f:Nat} {eH:ag} (h:ev C fu e L O= .ok v ae) (h2:ev C fu o L ae= .ok x az) (h3:qQ az x f v=some eH) (k:Wq (ah C fu ss L eH) Q X):Wq (ah C fu (.cons (.setAttr o f e) ss) L O) Q X:=
 IH (aS h (aS h2 (bZ h3 k)))
theorem oG {eH:ag} (h:ev C fu e L O= .ok v ae) (h2:ev C fu o L ae= .ok x az) (h3:ev C fu i L az= .ok y cM) (h4:jI cM x y v=some eH) (k:Wq (ah C fu ss L eH) Q X):Wq (ah C fu (.cons (.eQ o i e) ss) L O) Q X:=
 Hw (aS h (aS h2 (aS h3 (bZ h4 k))))
theorem wO {is:List Nat} {L':Locals} (h:ev C fu e L O= .ok (.tup vs) ae) (h2:putAll L is vs=some L') (k:Wq (ah C fu ss L' ae) Q X):Wq (ah C fu (.cons (.unpack is e) ss) L O) Q X:=
 pW (aS h ⟨rfl,bZ h2 k⟩)
theorem j1 {x:aX} (h:bx C fu es L O= .ok vs ae) (h2:pL vs=some x) (k:X x ae):Wq (ah C fu (.cons (.raise es) ss) L O) Q X:=zL (aS h (bZ h2 k))
theorem Tb {eH:ag} (h2:ev C fu o L O= .ok x az) (h3:ev C fu i L az= .ok y cM) (h4:rG cM x y=some eH) (k:Wq (ah C fu ss L eH) Q X):Wq (ah C fu (.cons (.lJ o i) ss) L O) Q X:=
 PH (aS h2 (aS h3 (bZ h4 k)))
theorem zJ {op:BinOp} {old w:V} {eH lV yZ:ag} (h:ev C fu o L O= .ok x ae) (h2:ev C fu i L ae= .ok y az) (h3:di az x y=some old) (h4:ev C fu e L az= .ok v eH) (h5:jr op eH old v= .ok w lV) (h6:jI lV x y w=some yZ) (k:Wq (ah C fu ss L yZ) Q X):Wq (ah C fu (.cons (.g9 o i op e) ss) L O) Q X:=
 B5 (aS h (aS h2 (bZ h3 (aS h4 (aS h5 (bZ h6 k))))))
theorem yG {n:Nat} {op:BinOp} {L':Locals} (hx:L.get n=some x) (h:ev C fu e L O= .ok y ae) (h2:jr op ae x y= .ok z az) (hL:L.put n z=L') (k:Wq (ah C fu ss L' az) Q X):Wq (ah C fu (.cons (.gJ n op e) ss) L O) Q X:=
 Cs hx (aS h (aS h2 (by rw [hL];exact k)))
theorem j8 {f:Nat} (h:bx C fu es L O= .ok vs ae) (k:Wp (C f vs ae) (λv O=>Wq (ah C fu ss L O) Q X) X):Wq (ah C fu (.cons (.expr (.call f es)) ss) L O) Q X:=n6 (eu (aS h k))
theorem nV {f n:Nat} (h:bx C fu es L O= .ok vs ae) (k:Wp (C f vs ae) (λv O=>Wq (ah C fu ss (L.put n v) O) Q X) X):Wq (ah C fu (.cons (.aA n (.call f es)) ss) L O) Q X:=eT (eu (aS h k))
theorem DL {f:Nat} {is:List Nat} (h:bx C fu es L O= .ok vs ae) (k:Wp (C f vs ae) (λv O=>Tu v λvs=>Ex (putAll L is vs) λL'=>Wq (ah C fu ss L' O) Q X) X):Wq (ah C fu (.cons (.unpack is (.call f es)) ss) L O) Q X:=pW (eu (aS h k))
theorem rO {m n f:Nat} {c:cj} {xs:List (Nat×V)} {Q:V→ag→Prop} {a:E} (h1:ev C fu a L O= .ok (.ref n) ae) (g:ae[n]?=some (.inst c xs)) (hf:gb c m=some f) (h2:bx C fu es L ae= .ok vs az) (k:Wp (C f (.ref n::vs) az) Q X):Wp (ev C fu (.own a m es) L O) Q X:=
 V0 (aS h1 ⟨rfl,g,aS h2 k⟩) hf
theorem uO {m n f:Nat} {c:cj} {xs:List (Nat×V)} {a:E} (h1:ev C fu a L O= .ok (.ref n) ae) (g:ae[n]?=some (.inst c xs)) (hf:gb c m=some f) (h2:bx C fu es L ae= .ok vs az) (k:Wp (C f (.ref n::vs) az) (λv O=>Wq (ah C fu ss L O) Q X) X):Wq (ah C fu (.cons (.expr (.own a m es)) ss) L O) Q X:=n6 (rO h1 g hf h2 k)
theorem LV {m n f i:Nat} {c:cj} {xs:List (Nat×V)} {a:E} (h1:ev C fu a L O= .ok (.ref n) ae) (g:ae[n]?=some (.inst c xs)) (hf:gb c m=some f) (h2:bx C fu es L ae= .ok vs az) (k:Wp (C f (.ref n::vs) az) (λv O=>Wq (ah C fu ss (L.put i v) O) Q X) X):Wq (ah C fu (.cons (.aA i (.own a m es)) ss) L O) Q X:=eT (rO h1 g hf h2 k)
theorem oQ {m n f:Nat} {is:List Nat} {c:cj} {xs:List (Nat×V)} {a:E} (h1:ev C fu a L O= .ok (.ref n) ae) (g:ae[n]?=some (.inst c xs)) (hf:gb c m=some f) (h2:bx C fu es L ae= .ok vs az) (k:Wp (C f (.ref n::vs) az) (λv O=>Tu v λvs=>Ex (putAll L is vs) λL'=>Wq (ah C fu ss L' O) Q X) X):Wq (ah C fu (.cons (.unpack is (.own a m es)) ss) L O) Q X:=pW (rO h1 g hf h2 k)
theorem Jg {m n f:Nat} {c:cj} {xs:List (Nat×V)} {a:E} (h1:ev C fu a L O= .ok (.ref n) ae) (g:ae[n]?=some (.inst c xs)) (hf:gb c m=some f) (h2:bx C fu es L ae= .ok vs az) (k:Wp (C f (.ref n::vs) az) (λv O=>Q (.ret v) L O) X):Wq (ah C fu (.cons (.ret (.own a m es)) ss) L O) Q X:=uU (rO h1 g hf h2 k)
theorem rV {c:E} {m:Nat} (I:Nat→Locals→ag→Prop) (hI:I m L O) (hm:m<fu) (step:∀m L O (K:Locals→ag→Prop),(∀m' L O,m'<m→I m' L O→K L O)→I m L O→
   ∃t,ev C fu c L O= .ok (.bool t) O∧(t=true→Wq (ah C fu b L O) (Lp C fu ss Q X K) X)∧(t=false→Wq (ah C fu ss L O) Q X)):
  Wq (ah C fu (.cons (.dF c b) ss) L O) Q X:=
 UO I hI hm λm L O K hK hi=>by
  obtain ⟨t,h1,h2,h3⟩:=step m L O K hK hi
  exact aS h1 (.mk (rT h2 h3))
theorem aV {n:Nat} (h:ev C fu e L O= .ok v ae) (k:Wq (ah C fu ss (L.put n v) ae) Q X):Wq (ah C fu (.cons (.aA n e) ss) L O) Q X:=eT (aS h k)
theorem Le {p q:Prop} [Decidable p] [Decidable q] {c d:E} (h1:ev C fu c L O= .ok (.bool (decide p)) O) (h2:ev C fu d L O= .ok (.bool (decide q)) O) (k1:p∨q→Wq (ah C fu a L O) (Nx C fu ss Q X) X) (k2:¬(p∨q)→Wq (ah C fu b L O) (Nx C fu ss Q X) X):Wq (ah C fu (.cons (.ite (.or (.cons c (.cons d .nil))) a b) ss) L O) Q X:=
 eJ ((jB h1 (jV h2)).trans (congrArg (λb=>Out.ok (V.bool b) O) (by rw [Bool.eq_iff_iff,Bool.or_eq_true,decide_eq_true_eq,decide_eq_true_eq,decide_eq_true_eq]))) k1 k2
theorem VS {p q:Prop} [Decidable p] [Decidable q] {c d:E} (h1:ev C fu c L O= .ok (.bool (decide p)) O) (h2:ev C fu d L O= .ok (.bool (decide q)) O) (k1:p∧q→Wq (ah C fu a L O) (Nx C fu ss Q X) X) (k2:¬(p∧q)→Wq (ah C fu b L O) (Nx C fu ss Q X) X):Wq (ah C fu (.cons (.ite (.and (.cons c (.cons d .nil))) a b) ss) L O) Q X:=
 eJ ((fJ h1 (fy h2)).trans (congrArg (λb=>Out.ok (V.bool b) O) (by rw [Bool.eq_iff_iff,Bool.and_eq_true,decide_eq_true_eq,decide_eq_true_eq,decide_eq_true_eq]))) k1 k2
theorem n1 (h:Wq (ah C fu ss L O) Q X):Wq (ah C fu .nil L O) (Nx C fu ss Q X) X:=bz (.next h)
theorem n2 (h:Wq (ah C fu ss L O) Q X):Wq (ah C fu .nil L O) (Nx C fu .nil (Nx C fu ss Q X) X) X:=n1 (n1 h)
theorem n3 (h:Wq (ah C fu ss L O) Q X):Wq (ah C fu .nil L O) (Nx C fu .nil (Nx C fu .nil (Nx C fu ss Q X) X) X) X:=n1 (n2 h)
theorem tU {K:Locals→ag→Prop} (h:K L O):Wq (ah C fu .nil L O) (Lp C fu ss Q X K) X:=bz (.next h)
theorem iZ {K:Locals→ag→Prop} (h:K L O):Wq (ah C fu .nil L O) (Nx C fu .nil (Lp C fu ss Q X K) X) X:=n1 (tU h)
theorem jc {K:Locals→ag→Prop} (h:K L O):Wq (ah C fu .nil L O) (Nx C fu .nil (Nx C fu .nil (Lp C fu ss Q X K) X) X) X:=n1 (iZ h)
theorem Q6 {ι:Type} {c:E} (mk:ι→Locals) (sg:ι→ag) (I:ι→Prop) (m:ι→Nat) (step:∀i (K:Locals→ag→Prop),I i→(∀i',I i'→m i'<m i→K (mk i') (sg i'))→
   ∃t,ev C fu c (mk i) (sg i)= .ok (.bool t) (sg i)∧(t=true→Wq (ah C fu b (mk i) (sg i)) (Lp C fu ss Q X K) X)∧(t=false→Wq (ah C fu ss (mk i) (sg i)) Q X)) (i:ι) (hI:I i) (hm:m i<fu):
  Wq (ah C fu (.cons (.dF c b) ss) (mk i) (sg i)) Q X:=
 rV (m:=m i) (λk L s=>∃i,L=mk i∧s=sg i∧m i=k∧I i) ⟨i,rfl,rfl,rfl,hI⟩ hm λk L s K hK h=>by
  obtain ⟨i,rfl,rfl,rfl,hi⟩:=h
  exact step i K hi λi' h1 h2=>hK (m i') _ _ h2 ⟨i',rfl,rfl,rfl,h1⟩
end
section
variable {X:aX→ag→Prop} {C:Calls} {fu:Nat} {O ae:ag} {Q:Flow→Locals→ag→Prop} {e:E} {ss:Ss} {x0 x1 x2 x3 x4 x5 x6 x7 x8 x9 ft:Option V} {L:Locals} {v:V}
theorem abR:ev C fu (.loc 0) (some v::L) O= .ok v O:=dE rfl
theorem abO:ev C fu (.loc 1) (x0::some v::L) O= .ok v O:=dE rfl
theorem abH:ev C fu (.loc 2) (x0::x1::some v::L) O= .ok v O:=dE rfl
theorem ac3:ev C fu (.loc 3) (x0::x1::x2::some v::L) O= .ok v O:=dE rfl
theorem ac2:ev C fu (.loc 4) (x0::x1::x2::x3::some v::L) O= .ok v O:=dE rfl
theorem ac9:ev C fu (.loc 5) (x0::x1::x2::x3::x4::some v::L) O= .ok v O:=dE rfl
theorem ac4:ev C fu (.loc 6) (x0::x1::x2::x3::x4::x5::some v::L) O= .ok v O:=dE rfl
theorem ab9:ev C fu (.loc 7) (x0::x1::x2::x3::x4::x5::x6::some v::L) O= .ok v O:=dE rfl
theorem acY:ev C fu (.loc 8) (x0::x1::x2::x3::x4::x5::x6::x7::some v::L) O= .ok v O:=dE rfl
theorem abN:ev C fu (.loc 9) (x0::x1::x2::x3::x4::x5::x6::x7::x8::some v::L) O= .ok v O:=dE rfl
theorem acr:ev C fu (.loc 10) (x0::x1::x2::x3::x4::x5::x6::x7::x8::x9::some v::L) O= .ok v O:=dE rfl
theorem abJ:ev C fu (.loc 11) (x0::x1::x2::x3::x4::x5::x6::x7::x8::x9::ft::some v::L) O= .ok v O:=dE rfl
theorem ab3 {Ce:Option V}:Locals.put (x0::x1::x2::x3::x4::x5::x6::x7::x8::x9::ft::Ce::L) 11 v=x0::x1::x2::x3::x4::x5::x6::x7::x8::x9::ft::some v::L:=rfl
theorem abF:Locals.put (x0::L) 0 v=some v::L:=rfl
theorem acw:Locals.put (x0::x1::L) 1 v=x0::some v::L:=rfl
theorem acN:Locals.put (x0::x1::x2::L) 2 v=x0::x1::some v::L:=rfl
theorem ac5:Locals.put (x0::x1::x2::x3::L) 3 v=x0::x1::x2::some v::L:=rfl
theorem acx:Locals.put (x0::x1::x2::x3::x4::L) 4 v=x0::x1::x2::x3::some v::L:=rfl
theorem acy:Locals.put (x0::x1::x2::x3::x4::x5::L) 5 v=x0::x1::x2::x3::x4::some v::L:=rfl
theorem acA:Locals.put (x0::x1::x2::x3::x4::x5::x6::L) 6 v=x0::x1::x2::x3::x4::x5::some v::L:=rfl
theorem ac0:Locals.put (x0::x1::x2::x3::x4::x5::x6::x7::L) 7 v=x0::x1::x2::x3::x4::x5::x6::some v::L:=rfl
theorem abM:Locals.put (x0::x1::x2::x3::x4::x5::x6::x7::x8::L) 8 v=x0::x1::x2::x3::x4::x5::x6::x7::some v::L:=rfl
theorem ach:Locals.put (x0::x1::x2::x3::x4::x5::x6::x7::x8::x9::L) 9 v=x0::x1::x2::x3::x4::x5::x6::x7::x8::some v::L:=rfl
theorem acT:Locals.put (x0::x1::x2::x3::x4::x5::x6::x7::x8::x9::ft::L) 10 v=x0::x1::x2::x3::x4::x5::x6::x7::x8::x9::some v::L:=rfl
theorem ab6 (h:ev C fu e (x0::L) O= .ok v ae) (k:Wq (ah C fu ss (some v::L) ae) Q X):Wq (ah C fu (.cons (.aA 0 e) ss) (x0::L) O) Q X:=eT (aS h k)
theorem acG (h:ev C fu e (x0::x1::L) O= .ok v ae) (k:Wq (ah C fu ss (x0::some v::L) ae) Q X):Wq (ah C fu (.cons (.aA 1 e) ss) (x0::x1::L) O) Q X:=eT (aS h k)
theorem ack (h:ev C fu e (x0::x1::x2::L) O= .ok v ae) (k:Wq (ah C fu ss (x0::x1::some v::L) ae) Q X):Wq (ah C fu (.cons (.aA 2 e) ss) (x0::x1::x2::L) O) Q X:=eT (aS h k)
theorem adi (h:ev C fu e (x0::x1::x2::x3::L) O= .ok v ae) (k:Wq (ah C fu ss (x0::x1::x2::some v::L) ae) Q X):Wq (ah C fu (.cons (.aA 3 e) ss) (x0::x1::x2::x3::L) O) Q X:=eT (aS h k)
theorem ace (h:ev C fu e (x0::x1::x2::x3::x4::L) O= .ok v ae) (k:Wq (ah C fu ss (x0::x1::x2::x3::some v::L) ae) Q X):Wq (ah C fu (.cons (.aA 4 e) ss) (x0::x1::x2::x3::x4::L) O) Q X:=eT (aS h k)
theorem abC (h:ev C fu e (x0::x1::x2::x3::x4::x5::L) O= .ok v ae) (k:Wq (ah C fu ss (x0::x1::x2::x3::x4::some v::L) ae) Q X):Wq (ah C fu (.cons (.aA 5 e) ss) (x0::x1::x2::x3::x4::x5::L) O) Q X:=eT (aS h k)
theorem acS (h:ev C fu e (x0::x1::x2::x3::x4::x5::x6::L) O= .ok v ae) (k:Wq (ah C fu ss (x0::x1::x2::x3::x4::x5::some v::L) ae) Q X):Wq (ah C fu (.cons (.aA 6 e) ss) (x0::x1::x2::x3::x4::x5::x6::L) O) Q X:=eT (aS h k)
theorem acW (h:ev C fu e (x0::x1::x2::x3::x4::x5::x6::x7::L) O= .ok v ae) (k:Wq (ah C fu ss (x0::x1::x2::x3::x4::x5::x6::some v::L) ae) Q X):Wq (ah C fu (.cons (.aA 7 e) ss) (x0::x1::x2::x3::x4::x5::x6::x7::L) O) Q X:=eT (aS h k)
theorem abD (h:ev C fu e (x0::x1::x2::x3::x4::x5::x6::x7::x8::L) O= .ok v ae) (k:Wq (ah C fu ss (x0::x1::x2::x3::x4::x5::x6::x7::some v::L) ae) Q X):Wq (ah C fu (.cons (.aA 8 e) ss) (x0::x1::x2::x3::x4::x5::x6::x7::x8::L) O) Q X:=eT (aS h k)
theorem abB (h:ev C fu e (x0::x1::x2::x3::x4::x5::x6::x7::x8::x9::L) O= .ok v ae) (k:Wq (ah C fu ss (x0::x1::x2::x3::x4::x5::x6::x7::x8::some v::L) ae) Q X):Wq (ah C fu (.cons (.aA 9 e) ss) (x0::x1::x2::x3::x4::x5::x6::x7::x8::x9::L) O) Q X:=eT (aS h k)
theorem abP (h:ev C fu e (x0::x1::x2::x3::x4::x5::x6::x7::x8::x9::ft::L) O= .ok v ae) (k:Wq (ah C fu ss (x0::x1::x2::x3::x4::x5::x6::x7::x8::x9::some v::L) ae) Q X):Wq (ah C fu (.cons (.aA 10 e) ss) (x0::x1::x2::x3::x4::x5::x6::x7::x8::x9::ft::L) O) Q X:=eT (aS h k)
end
section
variable {O af:ag}
theorem Ay {a:Nat} (h:a≤aq+8):a<16777300:=by
 have hs:aq=16777216:=by unfold aq;exact Eq.refl _
 omega
theorem o6 {a:Nat}:e8 .add (.int (a:Int)) (.int 1)=some (.int ((a+1:Nat):Int)):=rfl
theorem ab8 {a:Nat}:e8 .add (.int (a:Int)) (.int 2)=some (.int ((a+2:Nat):Int)):=rfl
theorem abV {a:Nat}:e8 .add (.int (a:Int)) (.int 3)=some (.int ((a+3:Nat):Int)):=rfl
theorem zv {a b:Nat}:e8 .add (.int (a:Int)) (.int (b:Int))=some (.int ((a+b:Nat):Int)):=rfl
theorem JH {a b:Int}:e8 .add (.int a) (.int b)=some (.int (a+b)):=rfl
theorem yC {a b:Int}:e8 .sub (.int a) (.int b)=some (.int (a-b)):=rfl
theorem oR {a b:List Nat}:co .eq O (.str a) (.str b)=some (.bool (decide (a=b))):=rfl
theorem jT {a b:Nat}:co .eq O (.str [a]) (.str [b])=some (.bool (decide (a=b))):=by
 show some (V.bool (decide ([a]=[b])))=_
 congr 2;rw [decide_eq_decide];simp
theorem xm {a b:Nat}:co .ne O (.str [a]) (.str [b])=some (.bool (!decide (a=b))):=by
 show some (V.bool (!decide ([a]=[b])))=_
 congr 2;rw [Bool.not_eq_eq_eq_not,Bool.not_not,decide_eq_decide];simp
theorem oB {a b:List Nat}:co .ne O (.str a) (.str b)=some (.bool (!decide (a=b))):=rfl
theorem aby {a b:List Nat}:co .le O (.str a) (.str b)=some (.bool (!decide (b<a))):=rfl
theorem nW {a b:Nat}:co .lt O (.int (a:Int)) (.int (b:Int))=some (.bool (decide (a<b))):=by
 show some (V.bool (decide ((a:Int)<(b:Int))))=_
 congr 2;rw [decide_eq_decide];exact Int.ofNat_lt
theorem Fj {a b:Nat}:co .gt O (.int (a:Int)) (.int (b:Int))=some (.bool (decide (b<a))):=by
 show some (V.bool (decide ((b:Int)<(a:Int))))=_
 congr 2;rw [decide_eq_decide];exact Int.ofNat_lt
theorem j7 {a b:Nat}:co .eq O (.int (a:Int)) (.int (b:Int))=some (.bool (decide (a=b))):=by
 show some (V.bool (decide ((a:Int)=(b:Int))))=_
 congr 2;rw [decide_eq_decide];exact Int.ofNat_inj
theorem n8 {a b:Int}:co .eq O (.int a) (.int b)=some (.bool (decide (a=b))):=rfl
theorem lY {a b:Int}:co .lt O (.int a) (.int b)=some (.bool (decide (a<b))):=rfl
theorem mz {a b:Int}:co .gt O (.int a) (.int b)=some (.bool (decide (b<a))):=rfl
theorem Km {a b:Int}:co .ge O (.int a) (.int b)=some (.bool (decide (b≤a))):=rfl
theorem yk {c:Nat} {l:List Nat}:co .isin O (.str [c]) (.str l)=some (.bool (decide (c∈l))):=rfl
theorem PJ {c:Nat} {l:List Nat}:co .iA O (.str [c]) (.str l)=some (.bool (!decide (c∈l))):=rfl
theorem acD:co .is O .none .none=some (.bool true):=rfl
theorem KQ:co .iD O .none .none=some (.bool false):=rfl
theorem acm {n:Nat}:co .is O (.ref n) .none=some (.bool false):=rfl
theorem Gl {n:Nat}:co .iD O (.ref n) .none=some (.bool true):=rfl
theorem abZ {vs:List V}:co .is O (.tup vs) .none=some (.bool false):=rfl
theorem acg {vs:List V}:co .iD O (.tup vs) .none=some (.bool true):=rfl
theorem abL {s:List Nat}:co .is O (.str s) .none=some (.bool false):=rfl
theorem vg {x:List Nat} {vs:List V} {l:List (List Nat)} (h1:ik vs=some l) (h2:vs.length≤100):lR O (.str x) (.tup vs)=some (decide (x∈l)):=by
 show ((ik vs).bind λl=>if vs.length≤100 then some (decide (x∈l)) else Option.none)=_
 rw [h1]
 show (if vs.length≤100 then some (decide (x∈l)) else Option.none)=_
 rw [if_pos h2]
theorem nz {x c:V} {b:Bool} (h:lR O x c=some b):co .isin O x c=some (.bool b):=by show (lR O x c).map V.bool=_;rw [h];rfl
theorem Cq {x c:V} {b:Bool} (h:lR O x c=some b):co .iA O x c=some (.bool (!b)):=by show (lR O x c).map (λx=>V.bool (!x))=_;rw [h];rfl
theorem k8 {t:List Nat} {a b:Nat} (ha:a<16777300) (hb:b<16777300):iV O (.str t) (.int (a:Int)) (.int (b:Int)) true true= .ok (.str ((t.drop a).take (b-a))) O:=RW hb ha
theorem pa {t:List Nat} {a e:Nat} (ha:a+e<16777300):iV O (.str t) (.int (a:Int)) (.int ((a+e:Nat):Int)) true true= .ok (.str ((t.drop a).take e)) O:=by
 rw [k8 (by omega) ha,Nat.add_sub_cancel_left]
theorem qo {s:List Nat}:mR .len O [.str s]= .ok (.int (s.length:Int)) O:=rfl
theorem X8 {a b:Nat}:mR .min O [.int (a:Int),.int (b:Int)]= .ok (.int ((min a b:Nat):Int)) O:=by
 show Out.ok (V.int (if (b:Int)<a then (b:Int) else a)) O=_
 by_cases q:b<a
 ·rw [if_pos (Int.ofNat_lt.2 q),Nat.min_eq_right (Nat.le_of_lt q)]
 ·rw [if_neg (λh=>q (Int.ofNat_lt.1 h)),Nat.min_eq_left (Nat.le_of_not_lt q)]
theorem Jl {a b:Nat}:mR .max O [.int (a:Int),.int (b:Int)]= .ok (.int ((max a b:Nat):Int)) O:=by
 show Out.ok (V.int (if (a:Int)<b then (b:Int) else a)) O=_
 by_cases q:a<b
 ·rw [if_pos (Int.ofNat_lt.2 q),Nat.max_eq_right (Nat.le_of_lt q)]
 ·rw [if_neg (λh=>q (Int.ofNat_lt.1 h)),Nat.max_eq_left (Nat.le_of_not_lt q)]
theorem kq {t:List Nat} {j c:Nat} {r:List Nat} (hd:t.drop j=c::r):j<t.length:=by
 by_cases q:j<t.length
 ·exact q
 ·rw [List.drop_eq_nil_of_le (Nat.le_of_not_lt q)] at hd;cases hd
theorem xQ {t:List Nat} {j:Nat} {P:Prop} (h:j<t.length) (k:∀c r,t.drop j=c::r→P):P:=k _ _ (List.drop_eq_getElem_cons h)
theorem Rl {t:List Nat} {j:Nat} (hd:t.drop j=[]):¬j<t.length:=λq=>by rw [List.drop_eq_getElem_cons q] at hd;cases hd
theorem dH {t r:List Nat} {k:Nat} (j:Nat) (h:t.drop k=r):t.drop (k+j)=r.drop j:=by rw [←h,List.drop_drop]
theorem mX {t:List Nat} {k:Nat} (h:k≤t.length):(t.drop k).length+k=t.length:=by rw [List.length_drop];exact Nat.sub_add_cancel h
theorem jR {t:List Nat} {k e:Nat} (h:k≤t.length) (ht:t.length≤aq) (he:e≤8):k+e<16777300:=Ay (Nat.add_le_add (adj h ht) he)
theorem fL {t:List Nat} {k:Nat} (h:k≤t.length) (ht:t.length≤aq):k<16777300:=jR (e:=0) h ht (by decide)
theorem dT {fu n f np nl:Nat} {b:Ss} {vs:List V} {L:Locals} {Q:V→ag→Prop} {X:aX→ag→Prop} (h:aw[f]?=some ⟨np,nl,b⟩) (h1:vs.length=np) (h2:np≤nl) (hL:vs.map some++List.replicate (nl-np) Option.none=L)
    (H:Wq (ah (ay aw fu n) fu b L O) (bM Q) X):Wp (ay aw fu (n+1) f vs O) Q X:=by
 subst hL
 exact N5 h h1 h2 H
theorem acO {n j:Nat} (h:j<n):n-(j+1)<n-j:=by omega
theorem xX {n j w:Nat} (h:j<n) (hw:0<w):n-(j+w)<n-j:=by omega
end
section
variable {C:Calls} {fu n:Nat} {t:List Nat} {k:Nat} {L:Locals} {O ae:ag} {X:aX→ag→Prop} {ss:Ss} {Q:Flow→Locals→ag→Prop}
theorem XJ {a b:Nat}:co .eq O (.str [a]) (.str [b])=some (.bool (a==b)):=congrArg (λb=>some (V.bool b)) (Ov a b)
theorem Lh {e:E} {i:Nat} {v:V} (h:ev C fu e L O= .ok v ae):ah C fu (.cons (.aA i e) ss) L O=ah C fu ss (L.put i v) ae:=by
 show ((ev C fu e L O).toS L _).bind _=_
 rw [h];rfl
theorem yH {e:E} {v:V} (h:ev C fu e L O= .ok v ae):ah C fu (.cons (.ret e) ss) L O= .ok (.ret v) L ae:=by
 show ((ev C fu e L O).toS L _).bind _=_
 rw [h];rfl
theorem Dc {e:E} {a b:Ss} (h:ev C fu e L O= .ok (.bool true) ae):ah C fu (.cons (.ite e a b) ss) L O=(ah C fu a L ae).bind λf L O=>f.qg L O (ah C fu ss L O):=by
 show ((ev C fu e L O).toS L _).bind _=_
 rw [h];rfl
theorem Eg {e:E} {a b:Ss} (h:ev C fu e L O= .ok (.bool false) ae):ah C fu (.cons (.ite e a b) ss) L O=(ah C fu b L ae).bind λf L O=>f.qg L O (ah C fu ss L O):=by
 show ((ev C fu e L O).toS L _).bind _=_
 rw [h];rfl
theorem Zh {c:E} {b:Ss} {L':Locals} (h:kh (ev C fu c) (ah C fu b) fu L O= .ok .next L' ae):ah C fu (.cons (.dF c b) ss) L O=ah C fu ss L' ae:=by
 show (kh (ev C fu c) (ah C fu b) fu L O).bind _=_
 rw [h];rfl
theorem Xj {c e1 e2:E} {p q:Bool} (hc:ev C fu c L O= .ok (.bool p) O) (h1:ev C fu e1 L O= .ok (.bool true) O) (h2:ev C fu e2 L O= .ok (.bool q) O):fD (ah C fu (.cons (.ite c (.cons (.ret e1) .nil) .nil) (.cons (.ret e2) .nil)) L O)= .ok (.bool (p||q)) O:=by
 cases p with
 |true=>rw [Dc hc,yH h1];rfl
 |false=>rw [Eg hc];exact congrArg fD (yH h2)
theorem Zm {s:List Nat} (hn:0<n) (hs:s.length≤1):ay aw fu n 0 [.str s] O= .ok (.bool (fE s)) O:=match n,s,hn,hs with
 |_+1,[],_,_=>rfl
 |n+1,[c],_,_=>by
  have e1:∀d:Nat,ev (ay aw fu n) fu (.cmp .eq (.loc 0) (.str [d])) [some (.str [c])] O= .ok (.bool (c==d)) O:=λd=>aO rfl rfl XJ
  have e4:∀d e:Nat,ev (ay aw fu n) fu (.and (.cons (.cmp .le (.str [d]) (.loc 0)) (.cons (.cmp .le (.loc 0) (.str [e])) .nil))) [some (.str [c])] O= .ok (.bool (decide (d≤c)&&decide (c≤e))) O:=λd e=>fJ (aO rfl rfl (le_str d c)) (fy (aO rfl rfl (le_str c e)))
  exact (so (F:=⟨1,1,LK⟩) rfl rfl (by decide)).trans (Xj (jB (e1 95) (jB (e1 36) (jV (e4 48 57)))) rfl (jB (e4 97 122) (jV (e4 65 90))))
 |_+1,_::_::_,_,h=>absurd h (Nat.not_le.2 (Nat.succ_lt_succ (Nat.succ_pos _)))
theorem ZU (s:List Nat):fE (s.take 1)=fE s:=by cases s<;>rfl
theorem Zr (s:List Nat):(s.take 1).length≤1:=List.length_take_le 1 s
theorem Zk (a b:Nat):decide (([a]:List Nat)=[b])=decide (a=b):=by rw [decide_eq_decide];simp
theorem iI {r:List Nat} {j c:Nat} (hd:t.drop j=c::r):di O (.str t) (.int (j:Int))=some (.str [c]):=Jw hd
theorem lm {t:List Nat} {fu:Nat} (ht:t.length≤aq) (hf:aq+100<fu):t.length<fu:=adl (adj ht (adm _ _)) hf
theorem lH:(t.drop k).length≤t.length:=by rw [List.length_drop];exact Nat.sub_le ..
theorem IQ {i:Nat} (hn:0<n) (ht:t.length≤aq) (hL:L.get 0=some (.str t)) (hi:i≠0) (YU:i<L.length) (hk:k≤t.length) (hf:aq+100<fu):
  kh (ev (ay aw fu n) fu (.call 0 (.cons (.slice (.loc 0) (.loc i) (.bin .add (.loc i) (.int 1)) true true) .nil))) (ah (ay aw fu n) fu (.cons (.aA i (.bin .add (.loc i) (.int 1))) .nil)) fu (L.put i (.int k)) O
   = .ok .next (L.put i (.int ((k+du fE (t.drop k):Nat):Int))) O:=by
 have g0:∀v,Locals.get (L.put i v) 0=some (.str t):=λv=>(congrArg Option.join (List.getElem?_set_ne hi)).trans hL
 have gi:∀v,Locals.get (L.put i v) i=some v:=λv=>congrArg Option.join (List.getElem?_set_self YU)
 have hb:∀j:Nat,ah (ay aw fu n) fu (.cons (.aA i (.bin .add (.loc i) (.int 1))) .nil) (L.put i (.int (j:Int))) O= .ok .next (L.put i (.int ((j+1:Nat):Int))) O:=λj=>by
  rw [Lh (bG (dE (gi _)) Fw o6)]
  exact congrArg (λL=>aT.ok .next L O) (List.set_set ..)
 exact tD (mk:=λj=>L.put i (.int (j:Int))) (p:=fE) rfl (λj hj=>d8 (aJ (e7 (dE (g0 _)) (dE (gi _)) (bG (dE (gi _)) Fw o6) (pa (jR hj ht (by decide)))) Eb) ((Zm hn (Zr _)).trans (by rw [ZU])))
    (λj hj=>hb j) fu k _ rfl (adl lH (lm ht hf)) hk
noncomputable def JL:List Nat→Bool
 |c::_=>decide (c=36)||(decide (48≤c)&&decide (c≤57))
 |[]=>false
noncomputable def aC (s:List Nat):Nat:=if JL s then 0 else du fE s
theorem G5 (a b:Nat):(!decide (([a]:List Nat)<[b]))=decide (b≤a):=by
 rw [Fy, ←decide_not,decide_eq_decide];exact Nat.not_lt
theorem Lf (s:List Nat):(decide (s.take 1=[36])||(!decide (s.take 1<[48])&& !decide (([57]:List Nat)<s.take 1)))=JL s:=by
 cases s with
 |nil=>rfl
 |cons c r=>
  show (decide ([c]=[36])||(!decide ([c]<[48])&& !decide (([57]:List Nat)<[c])))=_
  rw [Zk,G5,G5];rfl
theorem sU {c e:E} {p:Bool} {o:Out V} (hc:ev C fu c L O= .ok (.bool p) O) (h1:p=true→ev C fu e L O=o) (h2:p=false→fD (ah C fu ss L O)=o):fD (ah C fu (.cons (.ite c (.cons (.ret e) .nil) .nil) ss) L O)=o:=by
 cases p with
 |true=>
  rw [Dc hc, ←h1 rfl]
  show fD ((((ev C fu e L O).toS L _).bind _).bind _)=_
  cases ev C fu e L O<;>rfl
 |false=>rw [Eg hc];exact h2 rfl
theorem pZ {e:E} {i:Nat} {v:V} {o:Out V} (hc:ev C fu e L O= .ok v ae) (h:fD (ah C fu ss (L.put i v) ae)=o):fD (ah C fu (.cons (.aA i e) ss) L O)=o:=(congrArg fD (Lh hc)).trans h
theorem vF {c:E} {b:Ss} {L':Locals} {o:Out V} (hc:kh (ev C fu c) (ah C fu b) fu L O= .ok .next L' ae) (h:fD (ah C fu ss L' ae)=o):fD (ah C fu (.cons (.dF c b) ss) L O)=o:=(congrArg fD (Zh hc)).trans h
theorem PZ (hn:0<n) (ht:t.length≤aq) (hk:k≤t.length) (hf:aq+100<fu):ay aw fu (n+1) 1 [.str t,.int (k:Int)] O= .ok (.int ((k+aC (t.drop k):Nat):Int)) O:=by
 refine (so (F:=⟨2,4,Gn⟩) rfl rfl (by decide)).trans (pZ (e7 rfl rfl (bG rfl rfl o6) (pa (jR hk ht (by decide)))) (sU (jB rfl (jV (fJ rfl (fy rfl)))) ?_ ?_))
 ·rw [Lf]
  exact λh=>by rw [aC,if_pos h];rfl
 ·rw [Lf]
  exact λh=>pZ rfl (vF (IQ (L:=[some (.str t),some (.int (k:Int)),some (.str ((t.drop k).take 1)),none]) (i:=3) hn ht rfl (by decide) (Nat.lt_succ_self 3) hk hf) (by rw [aC,if_neg (by rw [h];decide)];rfl))
noncomputable def qM:List Nat→Bool
 |c::_=> !decide (c=10)
 |[]=>false
noncomputable def J6 (s:List Nat):Nat:=du qM s
noncomputable def yO (l:List Nat):List Nat→Bool
 |c::_=>decide (c∈l)
 |[]=>false
noncomputable def D0 (l:List Nat):List Nat→Bool
 |c::_=> !decide (c∈l)
 |[]=>false
noncomputable def Dv (s:List Nat):Nat:=du (yO [32,9,13]) s
noncomputable def dI (s:List Nat):Nat:=du (yO [32,9,13,10,12,11]) s
noncomputable def td (s:List Nat):Nat:=du (D0 [32,9,13,10,12,11]) s
theorem tq {es:Es} {e2:E} {ti i j:Nat} {p:List Nat→Bool} (hp:p []=false) (h0:L.get ti=some (.str t)) (hi:L.get i=some (.int (j:Int)))
    (h:∀(c:Nat) (r:List Nat),t.drop j=c::r→eg C fu true (.cons e2 es) L O= .ok (.bool (p (c::r))) O):
  ev C fu (.and (.cons (.cmp .lt (.loc i) (.bi .len (.cons (.loc ti) .nil))) (.cons e2 es))) L O= .ok (.bool (p (t.drop j))) O:=by
 have c1:ev C fu (.cmp .lt (.loc i) (.bi .len (.cons (.loc ti) .nil))) L O= .ok (.bool (decide (j<t.length))) O:=aO (dE hi) (fb (aJ (dE h0) Eb) qo) nW
 cases hd:t.drop j with
 |nil=>
  rw [decide_eq_false (Rl hd)] at c1
  exact hp.symm▸Ef (q:=true) c1 nofun
 |cons c r=>
  rw [decide_eq_true (kq hd)] at c1
  exact Ef c1 λ_=>h c r hd
noncomputable def Vw (q:E):Ss:= .cons (.aA 2 (.loc 1)) (.cons (.dF (.and (.cons (.cmp .lt (.loc 2) (.bi .len (.cons (.loc 0) .nil))) (.cons q .nil))) (.cons (.aA 2 (.bin .add (.loc 2) (.int 1))) .nil)) (.cons (.ret (.loc 2)) .nil))
theorem xe {f:Nat} {q:E} {p:List Nat→Bool} (hF:aw[f]?=some ⟨2,3,Vw q⟩) (hp:p []=false) (ht:t.length≤aq) (hk:k≤t.length) (hf:aq+100<fu)
    (hq:∀(j c:Nat) (r:List Nat),t.drop j=c::r→ev (ay aw fu n) fu q [some (.str t),some (.int (k:Int)),some (.int (j:Int))] O= .ok (.bool (p (c::r))) O):
  ay aw fu (n+1) f [.str t,.int (k:Int)] O= .ok (.int ((k+du p (t.drop k):Nat):Int)) O:=
 (so hF rfl (Nat.le_succ 2)).trans (pZ rfl (vF (tD (mk:=λj=>[some (.str t),some (.int (k:Int)),some (.int (j:Int))]) hp (λj hj=>tq hp rfl rfl λc r hd=>fy (hq j c r hd)) (λj hj=>rfl) fu k _ rfl (adl lH (lm ht hf)) hk) rfl))
theorem VB (ht:t.length≤aq) (hk:k≤t.length) (hf:aq+100<fu):ay aw fu (n+1) 2 [.str t,.int (k:Int)] O= .ok (.int ((k+J6 (t.drop k):Nat):Int)) O:=
 xe rfl rfl ht hk hf λj c r hd=>aO (bj rfl rfl (iI hd)) rfl xm
theorem Ry (ht:t.length≤aq) (hk:k≤t.length) (hf:aq+100<fu):ay aw fu (n+1) 3 [.str t,.int (k:Int)] O= .ok (.int ((k+Dv (t.drop k):Nat):Int)) O:=
 xe rfl rfl ht hk hf λj c r hd=>aO (bj rfl rfl (iI hd)) rfl yk
theorem TO (ht:t.length≤aq) (hk:k≤t.length) (hf:aq+100<fu):ay aw fu (n+1) 4 [.str t,.int (k:Int)] O= .ok (.int ((k+dI (t.drop k):Nat):Int)) O:=
 xe rfl rfl ht hk hf λj c r hd=>aO (bj rfl rfl (iI hd)) rfl yk
theorem R0 (ht:t.length≤aq) (hk:k≤t.length) (hf:aq+100<fu):ay aw fu (n+1) 7 [.str t,.int (k:Int)] O= .ok (.int ((k+td (t.drop k):Nat):Int)) O:=
 xe rfl rfl ht hk hf λj c r hd=>aO (bj rfl rfl (iI hd)) rfl PJ
noncomputable def ew:Bool→List Nat→Nat
 |_,[]=>0
 |e,c::r=>if c=10 then 0 else if e then 1+ew false r else if c=34 then 1 else 1+ew (c==92) r
noncomputable def yn:List Nat→Nat
 |[]=>0
 |_::r=>1+ew false r
theorem A6 {a b:Nat} (h:a≤b):1+a≤b+1:=Nat.add_comm 1 a▸Nat.succ_le_succ h
theorem BI:∀(e:Bool) (s:List Nat),ew e s≤s.length
 |_,[]=>Nat.zero_le _
 |e,c::r=>by
  have h1:=BI false r
  have h2:=BI (c==92) r
  show (if c=10 then 0 else if e then 1+ew false r else if c=34 then 1 else 1+ew (c==92) r)≤r.length+1
  split
  ·exact Nat.zero_le _
  ·split
   ·exact A6 h1
   ·split
    ·exact Nat.succ_le_succ (Nat.zero_le _)
    ·exact A6 h2
theorem ZZ:∀s:List Nat,yn s≤s.length
 |[]=>adp _
 |_::r=>A6 (BI false r)
theorem Fh {c:Nat} {r:List Nat} (h1:c≠10) (h2:c≠34):ew false (c::r)=1+ew (c==92) r:=(if_neg h1).trans (if_neg h2)
theorem G0 (d:Nat) (s:List Nat):(!decide ((d::s).take 1∈[[],[10]]))= !decide (d=10):=by
 congr 1;rw [decide_eq_decide];simp
noncomputable def sY (c:Nat) (r:List Nat):Bool:=decide (c=92)&& !decide (r.take 1∈[[],[10]])
theorem Ym {c:Nat} {r:List Nat} (h1:c≠10) (h2:c≠34) (h:sY c r=true):∃d u,r=d::u∧ew false (c::r)=2+ew false u:=by
 rw [sY,Bool.and_eq_true,decide_eq_true_eq] at h
 cases r with
 |nil=>cases h.2
 |cons d u=>
  have h4:=h.2
  rw [G0,Bool.not_eq_true',decide_eq_false_iff_not] at h4
  refine ⟨d,u,rfl,?_⟩
  rw [Fh h1 h2,h.1,show ew (92==92) (d::u)=1+ew false u from if_neg h4, ←Nat.add_assoc]
theorem XG {c:Nat} {r:List Nat} (h1:c≠10) (h2:c≠34) (h:sY c r=false):ew false (c::r)=1+ew false r:=by
 rw [Fh h1 h2]
 by_cases h5:c=92
 ·rw [sY,decide_eq_true h5,Bool.true_and] at h
  cases r with
  |nil=>rfl
  |cons d u=>
   rw [G0,Bool.not_eq_false',decide_eq_true_eq] at h
   exact congrArg (1+ ·) ((if_pos h).trans (if_pos h:ew false (d::u)=0).symm)
 ·rw [show (c==92)=false from beq_eq_false_iff_ne.2 h5]
theorem IA {s:List Nat} {P:Prop} (h:qM s=true) (k:∀c r,s=c::r→c≠10→P):P:=match s,h,k with
 |c::r,h,k=>k c r rfl (ado (Bool.not_eq_true' _▸h))
theorem Ur {s:List Nat} (h:qM s=false):ew false s=0:=match s,h with
 |[],_=>rfl
 |c::r,h=>if_pos (adn (Bool.not_eq_false' _▸h))
theorem U1 {r0:List Nat} {c0:Nat} (eE:t.drop k=c0::r0) (ht:t.length≤aq) (hf:aq+100<fu):ay aw fu (n+1) 5 [.str t,.int (k:Int)] O= .ok (.int ((k+yn (t.drop k):Nat):Int)) O:=by
 refine NA (dT rfl rfl (Nat.le_succ 2) rfl (aV rfl (Q6 (λj:Nat=>[some (.str t),some (.int (k:Int)),some (.int (j:Int))]) (λ_=>O) (λj=>j≤t.length∧j+ew false (t.drop j)=k+yn (t.drop k)) (λj=>t.length-j)
    (λj K hj hK=>⟨qM (t.drop j),tq rfl rfl rfl λc r hd=>fy (aO (bj rfl rfl (iI hd)) rfl xm),λhr=>IA hr λc r hd h1=>?_,λhr=>?_⟩) (k+1) ⟨kq eE,?_⟩ (adl (Nat.sub_le _ _) (lm ht hf)))))
 ·have hs:=hj.2
  rw [hd] at hs
  have aK:=kq hd
  have dp:t.drop (j+1)=r:=dH 1 hd
  refine eJ (aO (bj rfl rfl (iI hd)) rfl jT) (λh2=>dj rfl (.ret (.ret (.ret ⟨?_,rfl⟩)))) (λh2=>bz (.next (fG (t:=sY c r) (kj (fJ (aO (bj rfl rfl (iI hd)) rfl jT) (fy (aO (e7 rfl rfl rfl ?_) rfl (Cq (vg (l:=[[],[10]]) rfl (by decide))))))) (λh3=>?_) λh3=>?_)))
  ·rw [←hs,show ew false (c::r)=1 from (if_neg h1).trans (if_pos h2)];rfl
  ·rw [←dp];exact (k8 (jR hj.1 ht (by decide)) (jR hj.1 ht (by decide))).trans (by rw [show j+2-(j+1)=1 from Nat.add_sub_cancel_left (j+1) 1])
  ·obtain ⟨d,u,rfl,e⟩:=Ym h1 h2 h3
   have DM:t.drop (j+1+1)=u:=dH 1 dp
   exact aV rfl (bz (.next (aV rfl (bz (.next (hK (j+2) ⟨kq dp,by rw [DM, ←hs,e,Nat.add_assoc]⟩ (Nat.sub_lt_sub_left aK (Nat.lt_add_of_pos_right (by decide)))))))))
  ·exact bz (.next (aV rfl (bz (.next (hK (j+1) ⟨aK,by rw [dp, ←hs,XG h1 h2 h3,Nat.add_assoc]⟩ (Nat.sub_lt_sub_left aK (Nat.lt_succ_self _)))))))
 ·have hs:=hj.2
  rw [Ur hr] at hs
  exact dj rfl (.ret ⟨by rw [←hs];rfl,rfl⟩)
 ·rw [dH 1 eE,eE]
  exact Nat.add_assoc k 1 _
end
section
variable {fu n:Nat} {t:List Nat} {k:Nat} {O:ag} {X:aX→ag→Prop}
noncomputable def ko:List Nat→Nat
 |[]=>0
 |c::r=>if c=42∧r.head?=some 47 then 2 else 1+ko r
noncomputable def cp (s:List Nat):Nat:=if s.take 2=[47,47] then J6 s else if s.take 2=[47,42] then 2+ko (s.drop 2) else 0
theorem Gf:∀s,ko s≤s.length
 |[]=>adp _
 |c::r=>by
  rw [ko]
  split
  ·rename_i h
   cases r with
   |nil=>cases h.2
   |cons d r=>exact Nat.succ_le_succ (Nat.succ_le_succ (Nat.zero_le _))
  ·rw [Nat.add_comm];exact Nat.succ_le_succ (Gf r)
theorem Ed {s:List Nat} {a b:Nat} (h:s.take 2=[a,b]):2+(s.drop 2).length=s.length:=by
 cases s with
 |nil=>cases h
 |cons c r=>cases r with
  |nil=>cases h
  |cons d r=>exact Nat.add_comm _ _
theorem EJ (s:List Nat):cp s≤s.length:=by
 unfold cp
 split
 ·exact mr _ s
 ·split
  ·rename_i h
   rw [←Ed h]
   exact Nat.add_le_add_left (Gf _) _
  ·exact Nat.zero_le _
theorem Nl (c:Nat) (r:List Nat):((c::r).take 2=[42,47])↔(c=42∧r.head?=some 47):=by
 cases r with
 |nil=>simp
 |cons d r=>simp
noncomputable def ww:List Nat→Bool
 |[]=>false
 |c::r=> !decide ((c::r).take 2=[42,47])
theorem HR:∀s,min (du ww s+2) s.length=ko s
 |[]=>rfl
 |c::r=>by
  show min ((if (!decide ((c::r).take 2=[42,47]))=true then du ww r+1 else 0)+2) (r.length+1)=if c=42∧r.head?=some 47 then 2 else 1+ko r
  by_cases h:(c::r).take 2=[42,47]
  ·rw [if_neg (by rw [decide_eq_true h];decide),if_pos ((Nl c r).1 h)]
   exact Nat.min_eq_left (adj (adm 2 _) (Nat.le_of_eq (Ed h)))
  ·rw [if_pos (by rw [decide_eq_false h];rfl),if_neg λq=>h ((Nl c r).2 q), ←HR r,Nat.add_comm 1,Nat.add_right_comm]
   exact Nat.succ_min_succ _ _
theorem Hm (hn:0<n) (ht:t.length≤aq) (hk:k≤t.length) (hf:aq+100<fu):ay aw fu (n+1) 6 [.str t,.int (k:Int)] O= .ok (.int ((k+cp (t.drop k):Nat):Int)) O:=match n,hn with
 |m+1,hn=>by
  refine (so (F:=⟨2,4,GB⟩) rfl rfl (by decide)).trans (pZ (e7 rfl rfl rfl (pa (e:=2) (jR hk ht (by decide)))) (sU (p:=decide ((t.drop k).take 2=[47,47])) rfl (λh=>?_) λh=>sU (p:= !decide ((t.drop k).take 2=[47,42])) rfl (λh2=>?_) λh2=>pZ (v:= .int ((k+2:Nat):Int)) rfl ?_))
  ·rw [cp,if_pos (adn h)];exact VB ht hk hf
  ·rw [cp,if_neg (ado h),if_neg (ado (Bool.not_eq_true' _▸h2))];rfl
  ·have h3:=adn (Bool.not_eq_false' _▸h2)
   have hl:=Ed h3
   have vG:k+2≤t.length:=by
    rw [List.drop_drop] at hl
    have:=mX hk
    rw [←this,Nat.add_comm k, ←hl]
    exact Nat.add_le_add_right (adm _ _) k
   have e:min (k+2+du ww (t.drop (k+2))+2) t.length=k+cp (t.drop k):=by
    rw [cp,if_neg (ado h),if_pos h3,List.drop_drop, ←Nat.add_assoc, ←HR,Nat.add_assoc (k+2), ←Nat.add_min_add_left,Nat.add_comm (k+2) (List.length _),mX vG]
   refine vF (tD (mk:=λj=>[some (.str t),some (.int (k:Int)),some (.str ((t.drop k).take 2)),some (.int (j:Int))]) (p:=ww) rfl (λj hj=>tq rfl rfl rfl λc r hd=>fy (aO (e7 rfl rfl rfl (pa (e:=2) (jR hj ht (by decide)))) rfl (by rw [hd];exact oB))) (λj hj=>rfl) fu (k+2) _ rfl (adl lH (lm ht hf)) vG) ?_
   rw [←e]
   exact congrArg fD (yH (fb (aJ rfl (aJ rfl rfl)) X8))
noncomputable def a7 (s:List Nat):Nat:=match s with
 |[]=>0
 |c::r=>if c=34 then 1+ew false r else if c=92 then td s else if c=39 then 1+du fE r else max (du fE s) 1
theorem KY (s:List Nat):a7 s≤s.length:=by
 cases s with
 |nil=>exact adp _
 |cons c r=>
  show (if c=34 then yn (c::r) else if c=92 then td (c::r) else if c=39 then 1+du fE r else max (du fE (c::r)) 1)≤_
  split
  ·exact ZZ (c::r)
  ·split
   ·exact mr _ _
   ·split
    ·rw [Nat.add_comm];exact Nat.succ_le_succ (mr fE r)
    ·exact Nat.max_le.2 ⟨mr fE (c::r),Nat.succ_le_succ (Nat.zero_le _)⟩
theorem tj (c:Nat) (r:List Nat):0<a7 (c::r):=by
 show 0<(if c=34 then 1+ew false r else if c=92 then td (c::r) else if c=39 then 1+du fE r else max (du fE (c::r)) 1)
 split
 ·rw [Nat.add_comm];exact Nat.succ_pos _
 ·split
  ·rename_i h1 h2
   subst h2
   show 0<du (D0 [32,9,13,10,12,11]) (92::r)
   rw [du,if_pos (show D0 [32,9,13,10,12,11] (92::r)=true from rfl)];exact Nat.succ_pos _
  ·split
   ·rw [Nat.add_comm];exact Nat.succ_pos _
   ·exact adk Nat.one_pos (Nat.le_max_right _ _)
theorem th {c:Nat} {r:List Nat} {j:Nat} (hd:t.drop j=c::r):j+a7 (c::r)≤t.length:=by
 rw [←mX (Nat.le_of_lt (kq hd)),Nat.add_comm,hd]
 exact Nat.add_le_add_right (KY _) j
theorem BB {j:Nat} (hj:j≤t.length):j+cp (t.drop j)≤t.length:=by
 rw [←mX hj,Nat.add_comm]
 exact Nat.add_le_add_right (EJ _) j
theorem Jz {c j:Nat} {o:Out V} (hn:0<n) (ht:t.length≤aq) (hj:j≤t.length) (hf:aq+100<fu) (h:Out.ok (.int ((max (j+du fE (t.drop j)) (k+1):Nat):Int)) O=o):
  fD (ah (ay aw fu n) fu (.cons (.dF (.call 0 (.cons (.slice (.loc 0) (.loc 3) (.bin .add (.loc 3) (.int 1)) true true) .nil)) (.cons (.aA 3 (.bin .add (.loc 3) (.int 1))) .nil)) (.cons (.ret (.bi .max (.cons (.loc 3) (.cons (.bin .add (.loc 1) (.int 1)) .nil)))) .nil)) [some (.str t),some (.int (k:Int)),some (.str [c]),some (.int (j:Int))] O)=o:=
 vF (IQ (L:=[some (.str t),some (.int (k:Int)),some (.str [c]),none]) (i:=3) hn ht rfl (by decide) (Nat.lt_succ_self 3) hj hf) ((congrArg fD (yH (fb (aJ rfl (aJ rfl rfl)) Jl))).trans h)
theorem MO {c:Nat} {r:List Nat} (hd:t.drop k=c::r) (hn:0<n) (ht:t.length≤aq) (hf:aq+100<fu):ay aw fu (n+1) 8 [.str t,.int (k:Int)] O= .ok (.int ((k+a7 (c::r):Nat):Int)) O:=match n,hn with
 |m+1,hn=>by
  have aK:=kq hd
  refine (so (F:=⟨2,4,IG⟩) rfl rfl (by decide)).trans (pZ (bj rfl rfl (iI hd)) (sU (aO rfl rfl jT) (λh=>?_) λh=>sU (aO rfl rfl jT) (λh2=>?_) λh2=>pZ rfl ?_))
  ·rw [show a7 (c::r)=1+ew false r from if_pos (adn h)]
   exact (U1 hd ht hf).trans (by rw [hd];rfl)
  ·rw [show a7 (c::r)=td (c::r) from (if_neg (ado h)).trans (if_pos (adn h2)), ←hd]
   exact R0 ht (Nat.le_of_lt aK) hf
  ·by_cases h3:c=39
   ·rw [Dc (ae:=O) ((aO rfl rfl jT).trans (by rw [decide_eq_true h3])),show a7 (c::r)=1+du fE r from (if_neg (ado h)).trans ((if_neg (ado h2)).trans (if_pos h3))]
    exact Jz (j:=k+1) hn ht aK hf (by rw [dH 1 hd,Nat.max_eq_left (adm _ _),Nat.add_assoc];rfl)
   ·rw [Eg (ae:=O) ((aO rfl rfl jT).trans (by rw [decide_eq_false h3])),show a7 (c::r)=max (du fE (c::r)) 1 from (if_neg (ado h)).trans ((if_neg (ado h2)).trans (if_neg h3))]
    exact Jz (j:=k) hn ht (Nat.le_of_lt aK) hf (by rw [hd,Nat.add_max_add_left])
theorem WG:ay aw fu (n+1) 9 [.str t] O= .ok (.int ((t.count 10:Nat):Int)) O:=rfl
end
noncomputable def aj (O af:ag):Prop:=O.length≤af.length∧∀i,i<O.length→af[i]?=O[i]?
section
variable {O af hS:ag} {i j:Nat} {c d:Cell}
theorem dD (h:O[i]?=some c):i<O.length:=(List.getElem?_eq_some_iff.1 h).1
theorem aj.refl:aj O O:=⟨adp _,λ_ _=>rfl⟩
theorem aj.trans (h:aj O af) (h2:aj af hS):aj O hS:=⟨adj h.1 h2.1,λi hi=>(h2.2 i (adk hi h.1)).trans (h.2 i hi)⟩
theorem aj.get (h:aj O af) (g:O[i]?=some c):af[i]?=some c:=(h.2 i (dD g)).trans g
theorem mN (h:O[i]?=some c):(O++[d])[i]?=some c:=(List.getElem?_append_left (dD h)).trans h
theorem bH:(O++[d])[O.length]?=some d:=by rw [List.getElem?_append_right (adp _),Nat.sub_self];rfl
theorem cW (h:O[i]?=some c):(O.set i d)[i]?=some d:=List.getElem?_set_self (dD h)
theorem fU (h:O[j]?=some c) (ne:i≠j):(O.set i d)[j]?=some c:=(List.getElem?_set_ne ne).trans h
theorem kU:(O++[d]).length=O.length+1:=List.length_append
theorem aj.push (h:aj O af):aj O (af++[d]):=⟨kU▸Nat.le_succ_of_le h.1,λi hi=>(List.getElem?_append_left (adk hi h.1)).trans (h.2 i hi)⟩
theorem aj.set (h:aj O af) (hi:O.length≤i):aj O (af.set i d):=⟨List.length_set.symm▸h.1,λj hj=>(List.getElem?_set_ne (Nat.ne_of_gt (adk hj hi))).trans (h.2 j hj)⟩
end
section
variable {O:ag} {n:Nat}
theorem hZ {xs:List V} {v:V} (h:O[n]?=some (.list xs)) (hl:xs.length<aq):fz .append O (.ref n) [v]= .ok .none (O.set n (.list (xs++[v]))):=
  (gX (f:=λxs=>if xs.length<aq then Out.ok V.none (O.set n (.list (xs++[v]))) else .stuck) h).trans (if_pos hl)
theorem strs_map:∀l:List (List Nat),ik (l.map .str)=some l
 |[]=>rfl
 |s::r=>congrArg (Option.map (s:: ·)) (strs_map r)
theorem join_nil:∀l:List (List Nat),cu [] l=l.flatten
 |[]=>rfl
 |[x]=>(List.append_nil x).symm
 |x::y::r=>show x++[]++cu [] (y::r)=_ by rw [join_nil (y::r),List.append_nil];rfl
theorem qv {s:List Nat} {l:List (List Nat)} (h:O[n]?=some (.list (l.map .str))) (hl:(cu s l).length+s.length≤aq):fz .join O (.str s) [.ref n]= .ok (.str (cu s l)) O:=
  (gX (d:=Out.stuck) (f:=λxs=>bK (ik xs) Out.stuck λl=>if (cu s l).length+s.length≤aq then Out.ok (V.str (cu s l)) O else .stuck) h).trans (kP (strs_map l) (if_pos hl))
theorem uz {l:List (List Nat)} (h:O[n]?=some (.list (l.map .str))) (hl:l.flatten.length≤aq):fz .join O (.str []) [.ref n]= .ok (.str l.flatten) O:=
  (qv h (join_nil l▸hl)).trans (by rw [join_nil])
theorem Kf {s:List Nat} (h:vZ s=true):fz .strip O (.str s) []= .ok (.str (cZ s)) O:=if_pos h
theorem xO (l:List (List Nat)) (s:List Nat):l.map V.str++[.str s]=(l++[s]).map V.str:=by rw [List.map_append];rfl
theorem nQ (l:List (List Nat)) (s:List Nat):(l++[s]).flatten=l.flatten++s:=by rw [List.flatten_append,List.flatten_cons,List.flatten_nil,List.append_nil]
theorem Rj {l:List (List Nat)} {j:Nat} {t:List Nat} (h:l.length≤j) (hj:j≤t.length) (ht:t.length+1≤aq):(l.map V.str).length<aq:=List.length_map (as:=l) V.str▸adl (adj h hj) ht
theorem oj {α:Type} {l:List α} {s:α} {j e:Nat} (h:l.length≤j) (he:0<e):(l++[s]).length≤j+e:=List.length_append (as:=l) (bs:=[s])▸Nat.add_le_add h he
theorem ly {l:List (List Nat)} {s:List Nat} {t:List Nat} {j:Nat} (h:O[n]?=some (.list (l.map .str))) (hl:l.length≤j) (hj:j≤t.length) (ht:t.length+1≤aq):fz .append O (.ref n) [.str s]= .ok .none (O.set n (.list ((l++[s]).map .str))):=
  (hZ h (Rj hl hj ht)).trans (by rw [xO])
end
noncomputable def ba (s:List Nat):Prop:=∀c∈s,c<128
theorem Iz {s:List Nat} (h:ba s):vZ s=true:=List.all_eq_true.2 λc hc=>decide_eq_true (h c hc)
theorem ba.append {a b:List Nat} (h:ba a) (h2:ba b):ba (a++b):=λc hc=>(List.mem_append.1 hc).elim (h c) (h2 c)
theorem ba.drop {a:List Nat} (h:ba a) (k:Nat):ba (a.drop k):=λc hc=>h c (List.mem_of_mem_drop hc)
theorem ba.take {a:List Nat} (h:ba a) (k:Nat):ba (a.take k):=λc hc=>h c (List.mem_of_mem_take hc)
theorem Ap {p:Nat→Bool} {c:Nat}:∀{s:List Nat},c∈s.dropWhile p→c∈s
 |[],h=>h
 |d::r,h=>by
  rw [List.dropWhile_cons] at h
  split at h
  ·exact List.mem_cons_of_mem _ (Ap h)
  ·exact h
theorem ba.strip {s:List Nat} (h:ba s):ba (cZ s):=λc hc=>h c (Ap (List.mem_reverse.1 (Ap (List.mem_reverse.1 hc))))
noncomputable def je (x:Nat):Nat:=if x=10 then 32 else x
theorem ba.je {a:List Nat} (h:ba a):ba (a.map je):=λc hc=>by
 obtain ⟨x,hx,rfl⟩:=List.mem_map.1 hc
 unfold Mine.Q.je
 split
 ·decide
 ·exact h x hx
noncomputable def cU:Nat→Nat→List (List Nat)→List Nat→Nat→List Nat→Option (Option (List (List Nat)×Nat))
 |0,_,_,_,_,_=>none
 |_+1,_,_,_,_,[]=>some none
 |f+1,d,as,cf,k,c::r=>
  if 0<cp (c::r) then cU f d as (cf++[32]) (k+cp (c::r)) ((c::r).drop (cp (c::r)))
  else if d=0∧(c=44∨c=41) then
   if c=41 then some (some (as++[cZ cf],k+1)) else cU f 0 (as++[cZ cf]) [] (k+1) r
  else if c∈[40,91,123] then cU f (d+1) as (cf++((c::r).take (a7 (c::r))).map je) (k+a7 (c::r)) ((c::r).drop (a7 (c::r)))
  else if c∈[41,93,125] then if d=0 then some none else cU f (d-1) as (cf++((c::r).take (a7 (c::r))).map je) (k+a7 (c::r)) ((c::r).drop (a7 (c::r)))
  else cU f d as (cf++((c::r).take (a7 (c::r))).map je) (k+a7 (c::r)) ((c::r).drop (a7 (c::r)))
noncomputable def ej (f k:Nat):List Nat→Option (Option (List (List Nat)×Nat))
 |[]=>some none
 |c::r=>if c=40 then cU f 0 [] [] (k+1) r else some none
noncomputable def Bx (O af:ag) (v:V):Option (List (List Nat)×Nat)→Prop
 |none=>v= .none
 |some (as,e)=>∃A,v= .tup [.ref A,.int (e:Int)]∧O.length≤A∧af[A]?=some (.list (as.map .str))∧∀s∈as,ba s
@[elab_as_elim] theorem Cz {O af:ag} {v:V} {as:List (List Nat)} {e:Nat} {P:V→Prop} (h:Bx O af v (some (as,e))) (k:∀A,O.length≤A→af[A]?=some (.list (as.map .str))→(∀s∈as,ba s)→P (.tup [.ref A,.int (e:Int)])):P v:=match h with
 |⟨A,q,h1,h2,h3⟩=>q▸k A h1 h2 h3
theorem pj:ba []:=λ_ h=>nomatch h
theorem sP:ba [32]:=λc h=>by cases h with |head=>decide |tail _ h=>cases h
section
variable {fu n:Nat} {t:List Nat} {k:Nat} {O:ag} {X:aX→ag→Prop}
theorem dh:aq=16777216:=by unfold aq;exact Eq.refl _
theorem iw (h:t.length≤8000000):t.length+1≤aq:=adj (Nat.succ_le_succ h) (dh▸by decide)
theorem iG {C:Calls} {L:Locals} {a e:E} {p:Nat} {s s':ag} {v:V} {xs:List V} (h1:ev C fu a L s= .ok (.ref p) s) (h:s[p]?=some (.list xs)) (h2:ev C fu e L s= .ok v s) (hl:fz .append s (.ref p) [v]= .ok .none s'):
  ev C fu (.bt .append a (.cons e .nil)) L s= .ok .none s':=ip h1 h rfl (aJ h2 Eb) hl
theorem Vd {f:Nat}:∀{s:List Nat},s.take 1≠[40]→ej f k s=some none
 |[],_=>rfl
 |c::r,h=>if_neg λq=>h (by rw [q];rfl)
theorem P6 {P:Prop}:∀{s:List Nat},s.take 1=[40]→(∀r,s=40::r→P)→P
 |[],h,_=>nomatch h
 |c::r,h,k=>k r (by cases h;rfl)
section
variable {f d:Nat} {as:List (List Nat)} {cf:List Nat} {c:Nat} {r:List Nat} {res:Option (List (List Nat)×Nat)}
theorem abb {P:Prop} (h:cU f d as cf k (c::r)=some res) (kk:∀g,cU (g+1) d as cf k (c::r)=some res→P):P:=match f,h with
 |g+1,h=>kk g h
theorem NY (h:cU f d as cf k []=some res):res=none:=match f,h with
 |g+1,h=>(Option.some.inj h).symm
theorem abq (h:cU (f+1) d as cf k (c::r)=some res) (h1:0<cp (c::r)):cU f d as (cf++[32]) (k+cp (c::r)) ((c::r).drop (cp (c::r)))=some res:=(if_pos h1).symm.trans h
theorem LZ (h:cU (f+1) d as cf k (c::r)=some res) (h1:¬0<cp (c::r)):(if d=0∧(c=44∨c=41) then
   if c=41 then some (some (as++[cZ cf],k+1)) else cU f 0 (as++[cZ cf]) [] (k+1) r
  else if c∈[40,91,123] then cU f (d+1) as (cf++((c::r).take (a7 (c::r))).map je) (k+a7 (c::r)) ((c::r).drop (a7 (c::r)))
  else if c∈[41,93,125] then if d=0 then some none else cU f (d-1) as (cf++((c::r).take (a7 (c::r))).map je) (k+a7 (c::r)) ((c::r).drop (a7 (c::r)))
  else cU f d as (cf++((c::r).take (a7 (c::r))).map je) (k+a7 (c::r)) ((c::r).drop (a7 (c::r))))=some res:=(if_neg h1).symm.trans h
end
structure sS (t:List Nat) (O:ag) (res:Option (List (List Nat)×Nat)) (j d p f:Nat) (as ps:List (List Nat)) (s:ag):Prop where
 hj:j≤t.length
 he:aj O s
 hp:O.length<p
 hA:s[O.length]?=some (.list (as.map .str))
 hP:s[p]?=some (.list (ps.map .str))
 l1:as.length≤j
 l2:ps.length≤j
 l3:ps.flatten.length≤j
 ha:ba ps.flatten
 uY:∀s∈as,ba s
 hg:cU f d as ps.flatten j (t.drop j)=some res
noncomputable def zC (t:List Nat) (k A p d j:Nat) (x y:Option V):Locals:=[some (.str t),some (.int (k:Int)),some (.ref A),some (.ref p),some (.int (d:Int)),some (.int (j:Int)),x,y]
inductive zI (t:List Nat) (k:Nat) (O:ag) (res:Option (List (List Nat)×Nat)):Nat→Locals→ag→Prop where
 |mk {j d p f:Nat} {as ps:List (List Nat)} {x y:Option V} {s:ag}:sS t O res j d p f as ps s→zI t k O res (t.length-j) (zC t k O.length p d j x y) s
theorem sS.more {res:Option (List (List Nat)×Nat)} {j d0 p f0:Nat} {as ps:List (List Nat)} {s:ag} (h:sS t O res j d0 p f0 as ps s) {e d f:Nat} {w:List Nat} (he:0<e) (hl:w.length≤e) (hw:ba w) (hj:j+e≤t.length) (hg:cU f d as (ps.flatten++w) (j+e) (t.drop (j+e))=some res):
  sS t O res (j+e) d p f as (ps++[w]) (s.set p (.list ((ps++[w]).map .str))):=by
 have q:(ps++[w]).flatten=ps.flatten++w:=nQ ..
 exact ⟨hj,h.he.set (Nat.le_of_lt h.hp),h.hp,fU h.hA (Nat.ne_of_gt h.hp),cW h.hP,adj h.l1 (adm _ _),oj h.l2 he,by rw [q,List.length_append];exact Nat.add_le_add h.l3 hl,q▸h.ha.append hw,h.uY,q▸hg⟩
theorem VI {as:List (List Nat)} {w:List Nat} (h:∀s∈as,ba s) (hw:ba w):∀s∈as++[w],ba s:=λq hq=>(List.mem_append.1 hq).elim (h q) λhq=>List.mem_singleton.1 hq▸hw
theorem ZD {m fu:Nat} {Q:Flow→Locals→ag→Prop} {ss:Ss} {K:Locals→ag→Prop} {res:Option (List (List Nat)×Nat)} (hm:0<m) (cJ:t.length≤8000000) (ha:ba t) (hf:aq+100<fu) {j d p f c:Nat} {as ps:List (List Nat)} {s:ag} {r:List Nat} (hd:t.drop j=c::r) {f0:Nat} (hi:sS t O res j d p f0 as ps s) (rN:cU (f+1) d as ps.flatten j (c::r)=some res) (h1:¬0<cp (c::r)) (h2:¬(d=0∧(c=44∨c=41)))
    (hK:∀m' L s',m'<t.length-j→zI t k O res m' L s'→K L s') (hQ:∀L,res=none→Q (.ret .none) L s) {y:Option V}:
  Wq (ah (ay aw fu (m+1)) fu
      (.cons (.aA 7 (.call 8 (.cons (.loc 0) (.cons (.loc 5) .nil))))
      (.cons (.ite (.cmp .isin (.loc 6) (.str [40,91,123]))
       (.cons (.aA 4 (.bin .add (.loc 4) (.int 1))) .nil)
       (.cons (.ite (.cmp .isin (.loc 6) (.str [41,93,125]))
         (.cons (.aA 4 (.bin .sub (.loc 4) (.int 1))) .nil) .nil) .nil))
      (.cons (.ite (.cmp .lt (.loc 4) (.int 0))
       (.cons (.ret .none) .nil) .nil)
      (.cons (.expr (.bt .append (.loc 3) (.cons (.km (.slice (.loc 0) (.loc 5) (.loc 7) true true) 10 32) .nil))) .nil)))) (zC t k O.length p d j (some (.str [c])) y) s) (Nx (ay aw fu (m+1)) fu .nil (Nx (ay aw fu (m+1)) fu (.cons (.aA 5 (.loc 7)) .nil) (Lp (ay aw fu (m+1)) fu ss Q X K) X) X) X:=by
 have fO:=iw cJ
 have ht:=Nat.le_of_succ_le fO
 have aK:=kq hd
 have hw:=tj c r
 have jE:=th hd
 have hg:=LZ rN h1
 rw [if_neg h2] at hg
 have fin:∀(d':Nat),cU f d' as (ps.flatten++((c::r).take (a7 (c::r))).map je) (j+a7 (c::r)) ((c::r).drop (a7 (c::r)))=some res→Wq (ah (ay aw fu (m+1)) fu (.cons (.ite (.cmp .lt (.loc 4) (.int 0))
       (.cons (.ret .none) .nil) .nil)
      (.cons (.expr (.bt .append (.loc 3) (.cons (.km (.slice (.loc 0) (.loc 5) (.loc 7) true true) 10 32) .nil))) .nil)) (zC t k O.length p d' j (some (.str [c])) (some (.int ((j+a7 (c::r):Nat):Int)))) s) (Nx (ay aw fu (m+1)) fu .nil (Nx (ay aw fu (m+1)) fu (.cons (.aA 5 (.loc 7)) .nil) (Lp (ay aw fu (m+1)) fu ss Q X K) X) X) X:=λd' hg=>by
  rw [←dH _ hd] at hg
  refine cg (aO rfl rfl (lY.trans (by rw [decide_eq_false (Int.not_lt.2 (Int.natCast_nonneg d'))]))) (dS (iG rfl hi.hP (GD (e7 rfl rfl rfl ((k8 (fL hi.hj ht) (fL jE ht)).trans (by rw [Nat.add_sub_cancel_left,hd]))) ?_) (ly hi.hP hi.l2 hi.hj fO)) (bz (.next (bz (.next (aV rfl (bz (.next (hK _ _ _ (Nat.sub_lt_sub_left aK (Nat.lt_add_of_pos_right hw)) (.mk (hi.more hw ?_ ?_ jE hg)))))))))))
  ·exact adj (List.length_take_le' ..) (adj (hd▸lH) cJ)
  ·rw [List.length_map];exact List.length_take_le _ _
  ·exact ba.je (ba.take (hd▸ha.drop _) _)
 refine aV (d8 (aJ rfl (aJ rfl rfl)) (MO hd hm ht hf)) (eJ (aO rfl rfl yk) (λh3=>aV (v:= .int ((d+1:Nat):Int)) rfl (bz (.next ?_))) λh3=>eJ (aO rfl rfl yk) (λh4=>?_) λh4=>bz (.next (bz (.next ?_))))
 ·rw [if_pos h3] at hg
  exact fin _ hg
 ·rw [if_neg h3,if_pos h4] at hg
  by_cases h5:d=0
  ·rw [if_pos h5] at hg
   exact aV rfl (n2 (cN ((aO rfl rfl lY).trans (congrArg (λb=>Out.ok (V.bool b) s) (decide_eq_true (by rw [h5];decide)))) (dj rfl (.ret (.ret (.ret (.ret (hQ _ (Option.some.inj hg).symm))))))))
  ·rw [if_neg h5] at hg
   exact aV (v:= .int ((d-1:Nat):Int)) (bG rfl rfl (yC.trans (congrArg (λi=>some (V.int i)) (Int.ofNat_sub (Nat.pos_of_ne_zero h5)).symm))) (n2 (fin _ hg))
 ·rw [if_neg h3,if_neg h4] at hg
  exact fin _ hg
theorem I1 {Q:V→ag→Prop} {f:Nat} {res:Option (List (List Nat)×Nat)} (hn:1<n) (cJ:t.length≤8000000) (ha:ba t) (hk:k≤t.length) (hf:aq+100<fu)
    (hp:ej f k (t.drop k)=some res) (H:∀v af,aj O af→Bx O af v res→Q v af):Wp (ay aw fu (n+1) 10 [.str t,.int (k:Int)] O) Q X:=match n,hn with
 |1,hn=>absurd hn (Nat.lt_irrefl _)
 |m0+2,_=>by
  have fO:=iw cJ
  have ht:=Nat.le_of_succ_le fO
  refine dT (L:=[some (.str t),some (.int (k:Int)),none,none,none,none,none,none]) rfl rfl (by decide) rfl (fG (t:= !decide ((t.drop k).take 1=[40])) (aO (e7 rfl rfl rfl (pa (e:=1) (jR hk ht (by decide)))) rfl oB) (λh0=>dj rfl (.ret (.ret (H _ _ .refl ?_)))) λh0=>bz (.next ?_))
  ·rw [Vd (ado (Bool.not_eq_true' _▸h0))] at hp
   exact Option.some.inj hp▸rfl
  ·refine P6 (adn (Bool.not_eq_false' _▸h0)) λr0 eE=>?_
   have rN:cU f 0 [] [] (k+1) (t.drop (k+1))=some res:=by rw [eE] at hp;rw [dH 1 eE];exact hp
   refine aV rfl (aV rfl (aV rfl (aV rfl (rV (zI t k O res) (.mk (as:=[]) (ps:=[]) ⟨kq eE,aj.refl.push.push,kU (d:= .list [])▸Nat.lt_succ_self _,mN bH,bH,Nat.zero_le _,Nat.zero_le _,Nat.zero_le _,pj,(λ_ h=>nomatch h),rN⟩) (adl (Nat.sub_le _ _) (lm ht hf)) (λm L s K hK h=>match m,L,s,h,hK with
   |_,_,_,.mk (j:=j) (d:=d) (p:=p) (f:=f) (as:=as) (ps:=ps) (x:=x) (y:=y) (s:=s) hi,hK=>⟨_,aO rfl rfl nW,λaK=>?_,λjX=>?_⟩)))))
   ·have aK:=adn aK
    refine xQ aK λc r hd=>?_
    have uR:=BB (t:=t) hi.hj
    have hg:=hi.hg
    rw [hd] at uR hg
    refine abb hg λg hg=>?_
    refine aV (bj rfl rfl (iI hd)) (aV ((d8 (aJ rfl (aJ rfl rfl)) (Hm (Nat.succ_pos _) ht hi.hj hf)).trans (by rw [hd])) (eJ (aO rfl rfl Fj) (λh1=>?_) λh1=>?_))
    ·have h1:=Nat.pos_of_lt_add_right h1
     have hg:=abq hg h1
     rw [←dH _ hd] at hg
     exact dS (iG rfl hi.hP rfl (ly hi.hP hi.l2 hi.hj fO)) (bz (.next (aV rfl (bz (.next (hK _ _ _ (Nat.sub_lt_sub_left aK (Nat.lt_add_of_pos_right h1)) (.mk (hi.more (w:=[32]) h1 h1 sP uR hg))))))))
    ·have h1:¬0<cp (c::r):=λq=>h1 (Nat.lt_add_of_pos_right q)
     have I2:=hg
     have hg:=LZ I2 h1
     refine fG (t:=decide (d=0)&&(decide (c=44)||decide (c=41))) (kj (fJ (aO rfl rfl j7) (fy (oh (jB (aO rfl rfl jT) (jV (aO rfl rfl jT))))))) (λh2=>?_) λh2=>?_
     ·rw [Bool.and_eq_true,Bool.or_eq_true,decide_eq_true_eq,decide_eq_true_eq,decide_eq_true_eq] at h2
      rw [if_pos h2] at hg
      have g1:(s.set O.length (Cell.list ((as++[cZ ps.flatten]).map .str)))[O.length]?=some (.list ((as++[cZ ps.flatten]).map .str)):=cW hi.hA
      have qp:aj O (s.set O.length (Cell.list ((as++[cZ ps.flatten]).map .str))):=hi.he.set (adp _)
      have uY:=VI hi.uY hi.ha.strip
      refine dS (iG rfl hi.hA (jf (jf rfl rfl rfl (uz hi.hP (adj hi.l3 (adj hi.hj ht)))) rfl rfl (Kf (Iz hi.ha))) (ly hi.hA hi.l1 hi.hj fO)) (aV rfl (aV rfl (eJ (aO rfl rfl jT) (λh3=>?_) λh3=>?_)))
      ·rw [if_pos h3] at hg
       exact dj rfl (.ret (.ret (.ret (.ret (.ret (H _ _ qp.push (Option.some.inj hg▸⟨O.length,rfl,adp _,mN g1,uY⟩)))))))
      ·rw [if_neg h3, ←show t.drop (j+1)=r from dH 1 hd] at hg
       exact bz (.next (bz (.next (bz (.next (aV rfl (bz (.next (hK _ _ _ (Nat.sub_lt_sub_left aK (Nat.lt_succ_self _)) (.mk (f:=g) (as:=as++[cZ ps.flatten]) (ps:=[]) (j:=j+1) (d:=d) ⟨aK,qp.push,by rw [List.length_set];exact dD hi.hA,mN g1,bH,oj hi.l1 Nat.one_pos,Nat.zero_le _,Nat.zero_le _,pj,uY,h2.1.symm▸hg⟩))))))))))
     ·refine ZD (Nat.succ_pos _) cJ ha hf hd hi I2 h1 (λq=>?_) hK λL e=> .ret (H _ _ hi.he (e▸rfl))
      rw [decide_eq_true q.1,Bool.true_and,Bool.or_eq_false_iff,decide_eq_false_iff_not,decide_eq_false_iff_not] at h2
      exact q.2.elim h2.1 h2.2
   ·have hg:=hi.hg
    rw [List.drop_eq_nil_of_le (Nat.le_of_not_lt (ado jX))] at hg
    exact dj rfl (.ret (H _ _ hi.he (NY hg▸rfl)))
end
section
variable {fu n:Nat} {t:List Nat} {k:Nat} {O:ag}
theorem rW {P:Nat→Prop} (hn:1<n) (h:∀m,0<m→P (m+1)):P n:=match n,hn with
 |m+2,_=>h (m+1) (Nat.succ_pos _)
theorem xb (hn:1<n) (ht:t.length≤aq) (hk:k≤t.length) (hf:aq+100<fu):ay aw fu n 1 [.str t,.int (k:Int)] O= .ok (.int ((k+aC (t.drop k):Nat):Int)) O:=rW (P:=λn=>ay aw fu n 1 _ O=_) hn λm hm=>PZ hm ht hk hf
theorem NM (hn:1<n) (ht:t.length≤aq) (hk:k≤t.length) (hf:aq+100<fu):ay aw fu n 3 [.str t,.int (k:Int)] O= .ok (.int ((k+Dv (t.drop k):Nat):Int)) O:=rW (P:=λn=>ay aw fu n 3 _ O=_) hn λm hm=>Ry ht hk hf
theorem SQ (hn:1<n) (ht:t.length≤aq) (hk:k≤t.length) (hf:aq+100<fu):ay aw fu n 4 [.str t,.int (k:Int)] O= .ok (.int ((k+dI (t.drop k):Nat):Int)) O:=rW (P:=λn=>ay aw fu n 4 _ O=_) hn λm hm=>TO ht hk hf
theorem CH (hn:1<n) (ht:t.length≤aq) (hk:k≤t.length) (hf:aq+100<fu):ay aw fu n 6 [.str t,.int (k:Int)] O= .ok (.int ((k+cp (t.drop k):Nat):Int)) O:=rW (P:=λn=>ay aw fu n 6 _ O=_) hn λm hm=>Hm hm ht hk hf
theorem yi {c:Nat} {r:List Nat} (hd:t.drop k=c::r) (hn:1<n) (ht:t.length≤aq) (hf:aq+100<fu):ay aw fu n 8 [.str t,.int (k:Int)] O= .ok (.int ((k+a7 (c::r):Nat):Int)) O:=rW (P:=λn=>ay aw fu n 8 _ O=_) hn λm hm=>MO hd hm ht hf
theorem yX (hn:1<n):ay aw fu n 9 [.str t] O= .ok (.int ((t.count 10:Nat):Int)) O:=rW (P:=λn=>ay aw fu n 9 _ O=_) hn λm hm=>WG
theorem wM {j c w:Nat} {r:List Nat} (hd:t.drop j=c::r) (hj:j<16777300) (hw:j+w<16777300):iV O (.str t) (.int (j:Int)) (.int ((j+w:Nat):Int)) true true= .ok (.str ((c::r).take w)) O:=(k8 hj hw).trans (by rw [Nat.add_sub_cancel_left,hd])
end
noncomputable def nh (ns as:List (List Nat)) (p:List Nat):Option (List Nat):=match g6 p ns with
 |some i=>as[i]?
 |none=>some p
noncomputable def ix (ns as:List (List Nat)):Nat→List Nat→Option (List Nat)
 |0,_=>none
 |_+1,[]=>some []
 |f+1,c::r=>match nh ns as ((c::r).take (a7 (c::r))),ix ns as f ((c::r).drop (a7 (c::r))) with
  |some q,some s=>some (q++s)
  |_,_=>none
noncomputable def cY:Nat→Nat→List Nat→List Nat→Option (List Nat×Nat)
 |0,_,_,_=>none
 |_+1,k,acc,[]=>some (acc,k)
 |f+1,k,acc,c::r=>if c=10 then some (acc,k)
  else if 0<cp (c::r) then cY f (k+cp (c::r)) (acc++[32]) ((c::r).drop (cp (c::r)))
  else if c=92∧r.take 1=[10] then cY f (k+2) (acc++[32]) ((c::r).drop 2)
  else if (c::r).take 3=[92,13,10] then cY f (k+3) (acc++[32]) ((c::r).drop 3)
  else cY f (k+a7 (c::r)) (acc++(c::r).take (a7 (c::r))) ((c::r).drop (a7 (c::r)))
theorem RZ {o o':Option (List Nat)} {res:List Nat} {P:Prop} (h:(match o,o' with |some q,some s=>some (q++s) |_,_=>none)=some res) (k:∀q s,o=some q→o'=some s→q++s=res→P):P:=match o,o',h with
 |some q,some s,h=>k q s rfl rfl (Option.some.inj h)
theorem B1 {x:List Nat}:∀{l:List (List Nat)},x∉l→g6 x l=none
 |[],_=>rfl
 |y::r,h=>(if_neg λq=>h (by rw [q];exact List.mem_cons_self)).trans (congrArg (Option.map (· +1)) (B1 λq=>h (List.mem_cons_of_mem _ q)))
theorem HQ {x:List Nat} {P:Prop}:∀{l:List (List Nat)},x∈l→(∀i,g6 x l=some i→P)→P
 |[],h,_=>nomatch h
 |y::r,h,k=>if q:y=x then k 0 (if_pos q) else HQ ((List.mem_cons.1 h).resolve_left λe=>q e.symm) λi hi=>k (i+1) ((if_neg q).trans (congrArg (Option.map (· +1)) hi))
theorem LD {O:ag} {x:List Nat} {n:Nat} {l:List (List Nat)} (h:O[n]?=some (.list (l.map .str))):lR O (.str x) (.ref n)=some (decide (x∈l)):=by
 show gY O n Option.none (λc=>c.eZ _ λvs=>(ik vs).map λl=>decide (x∈l))=_
 unfold gY
 rw [h]
 exact congrArg (Option.map λl=>decide (x∈l)) (strs_map l)
theorem Ws {O:ag} {x:List Nat} {n i:Nat} {l:List (List Nat)} (h:O[n]?=some (.list (l.map .str))) (hi:g6 x l=some i):fz .index O (.ref n) [.str x]= .ok (.int (i:Int)) O:=
  (gX (d:=Out.stuck) (f:=λxs=>bK (ik xs) Out.stuck λl=>bK (g6 x l) Out.stuck λi=>Out.ok (V.int (i:Int)) O) h).trans (kP (strs_map l) (kP hi rfl))
theorem eD {O:ag} {n i:Nat} {xs:List V} {v:V} (h:O[n]?=some (.list xs)) (hv:xs[i]?=some v):di O (.ref n) (.int (i:Int))=some v:=
  (gX (d:=Option.none) (f:=λvs=>if 0≤(i:Int) then vs[(i:Int).toNat]? else if (i:Int)= -1 then vs.getLast? else Option.none) h).trans ((if_pos (Int.natCast_nonneg i)).trans hv)
section
variable {fu n:Nat} {t:List Nat} {k:Nat} {O:ag} {X:aX→ag→Prop}
theorem Tj {ns as:List (List Nat)} {c:Nat} {r res:List Nat} {P:Prop} {f:Nat} (h:ix ns as f (c::r)=some res) (k:∀g q s1,nh ns as ((c::r).take (a7 (c::r)))=some q→ix ns as g ((c::r).drop (a7 (c::r)))=some s1→q++s1=res→P):P:=match f,h with
 |f+1,h=>RZ (o:=nh ns as ((c::r).take (a7 (c::r)))) h (k f)
theorem QB {ns as:List (List Nat)} {res:List Nat}:∀{f:Nat},ix ns as f []=some res→res=[]
 |_+1,h=>(Option.some.inj h).symm
inductive EF (t:List Nat) (nn na:Nat) (ns as:List (List Nat)) (O:ag) (res:List Nat):Nat→Locals→ag→Prop where
 |mk {j f:Nat} {ps:List (List Nat)} {r:List Nat} {x y:Option V} {s:ag} (hj:j≤t.length) (he:aj O s) (hP:s[O.length]?=some (.list (ps.map .str))) (l2:ps.length≤j) (hg:ix ns as f (t.drop j)=some r) (hr:ps.flatten++r=res):
   EF t nn na ns as O res (t.length-j) [some (.str t),some (.ref nn),some (.ref na),some (.ref O.length),some (.int (j:Int)),x,y] s
theorem Su {Q:V→ag→Prop} {f nn na:Nat} {ns as:List (List Nat)} {res:List Nat} (hn:1<n) (cJ:t.length≤8000000) (hf:aq+100<fu)
    (gN:O[nn]?=some (.list (ns.map .str))) (gA:O[na]?=some (.list (as.map .str))) (hp:ix ns as f t=some res) (hl:res.length≤aq) (H:∀af,aj O af→Q (.str res) af):
  Wp (ay aw fu (n+1) 11 [.str t,.ref nn,.ref na] O) Q X:=by
 have fO:=iw cJ
 have ht:=Nat.le_of_succ_le fO
 refine dT rfl rfl (by decide) rfl (aV rfl (aV rfl (rV (EF t nn na ns as O res) (.mk (j:=0) (ps:=[]) (r:=res) (Nat.zero_le _) aj.refl.push bH (Nat.zero_le _) hp rfl) (lm ht hf) λm L s K hK h=>?_)))
 cases h with
 |@mk j f ps r0 x y s hj he hP l2 hg hr=>
  refine ⟨_,aO rfl rfl nW,λaK=>?_,λjX=>?_⟩
  ·have aK:=adn aK
   refine xQ aK λc r hd=>?_
   have hw:=tj c r
   have jE:=th hd
   rw [hd] at hg
   refine Tj hg λg q s1 hq hs QE=>?_
   rw [←dH _ hd] at hs
   have fin:∀{y},Wq (ah (ay aw fu n) fu (.cons (.expr (.bt .append (.loc 3) (.cons (.loc 6) .nil))) (.cons (.aA 4 (.loc 5)) .nil)) [some (.str t),some (.ref nn),some (.ref na),some (.ref O.length),some (.int (j:Int)),some (.int ((j+a7 (c::r):Nat):Int)),some (.str q)] s) (Lp (ay aw fu n) fu y (bM Q) X K) X:=
    dS (iG rfl hP rfl (ly hP l2 hj fO)) (aV rfl (bz (.next (hK _ _ _ (xX aK hw) (.mk jE (he.set (adp _)) (cW hP) (oj l2 hw) hs (by rw [nQ,List.append_assoc,QE];exact hr))))))
   refine aV (d8 (aJ rfl (aJ rfl rfl)) (yi hd hn ht hf)) (aV (e7 rfl rfl rfl (wM hd (fL hj ht) (fL jE ht))) (eJ (aO rfl rfl (nz (LD (he.get gN)))) (λh1=>?_) λh1=>?_))
   ·refine HQ h1 λi hi=>?_
    rw [nh,hi] at hq
    exact aV (bj rfl (ip rfl (he.get gN) rfl rfl (Ws (he.get gN) hi)) (eD (he.get gA) (by rw [List.getElem?_map,show as[i]?=some q from hq];rfl))) (bz (.next fin))
   ·rw [nh,B1 h1] at hq
    exact bz (.next (Option.some.inj hq▸fin))
  ·rw [List.drop_eq_nil_of_le (Nat.le_of_not_lt (ado jX))] at hg
   have hr:ps.flatten=res:=by rw [←hr,QB hg,List.append_nil]
   exact dj (jf rfl rfl rfl (uz hP (hr▸hl))) (hr▸ .ret (H _ he))
section
variable {f e c:Nat} {r acc ow:List Nat}
theorem Zl {P:Prop} (h:cY f k acc (c::r)=some (ow,e)) (sV:c≠10) (kk:∀g,(if 0<cp (c::r) then cY g (k+cp (c::r)) (acc++[32]) ((c::r).drop (cp (c::r)))
  else if c=92∧r.take 1=[10] then cY g (k+2) (acc++[32]) ((c::r).drop 2)
  else if (c::r).take 3=[92,13,10] then cY g (k+3) (acc++[32]) ((c::r).drop 3)
  else cY g (k+a7 (c::r)) (acc++(c::r).take (a7 (c::r))) ((c::r).drop (a7 (c::r))))=some (ow,e)→P):P:=match f,h with
 |g+1,h=>kk g ((if_neg sV).symm.trans h)
theorem aai {s:List Nat} (hr:qM s=false) (h:cY f k acc s=some (ow,e)):(acc,k)=(ow,e):=match f,s,hr,h with
 |_+1,[],_,h=>Option.some.inj h
 |_+1,c::r,hr,h=>Option.some.inj ((if_pos (adn (Bool.not_eq_false' _▸hr))).symm.trans h)
end
structure Fd (t:List Nat) (O:ag) (acc:List Nat) (e j f:Nat) (ps:List (List Nat)) (s:ag):Prop where
 hj:j≤t.length
 he:aj O s
 hP:s[O.length]?=some (.list (ps.map .str))
 l2:ps.length≤j
 l3:ps.flatten.length≤j
 ha:ba ps.flatten
 hg:cY f j ps.flatten (t.drop j)=some (acc,e)
inductive RB (t:List Nat) (k:Nat) (O:ag) (acc:List Nat) (e:Nat):Nat→Locals→ag→Prop where
 |mk {j f:Nat} {ps:List (List Nat)} {x:Option V} {s:ag}:Fd t O acc e j f ps s→RB t k O acc e (t.length-j) [some (.str t),some (.int (k:Int)),some (.ref O.length),some (.int (j:Int)),x] s
theorem Kh {j w:Nat} {l:List Nat} (hj:j≤t.length) (h:(t.drop j).take w=l):j+l.length≤t.length:=by
 rw [←h, ←mX hj,Nat.add_comm]
 exact Nat.add_le_add_right (by rw [List.length_take];exact Nat.min_le_right _ _) j
theorem xa {acc:List Nat} {e j g f w:Nat} {ps:List (List Nat)} {s:ag} {Q:Flow→Locals→ag→Prop} {ss:Ss} {K:Locals→ag→Prop} (h:Fd t O acc e j f ps s) (hK:∀m' L s',m'<t.length-j→RB t k O acc e m' L s'→K L s') {q:List Nat} (aK:j<t.length) (hw:0<w) (jE:j+w≤t.length) (hq:q.length≤w) (Z2:ba q) (hg:cY g (j+w) (ps.flatten++q) (t.drop (j+w))=some (acc,e)):
  Wq (ah (ay aw fu n) fu (.cons (.aA 3 (.loc 4)) .nil) [some (.str t),some (.int (k:Int)),some (.ref O.length),some (.int (j:Int)),some (.int ((j+w:Nat):Int))] (s.set O.length (.list ((ps++[q]).map .str)))) (Lp (ay aw fu n) fu ss Q X K) X:=
 aV rfl (bz (.next (hK _ _ _ (xX aK hw) (.mk ⟨jE,h.he.set (adp _),cW h.hP,oj h.l2 hw,by rw [nQ,List.length_append];exact Nat.add_le_add h.l3 hq,nQ .. ▸h.ha.append Z2,nQ .. ▸hg⟩))))
theorem M6 {Q:V→ag→Prop} {f e:Nat} {acc:List Nat} (hn:1<n) (cJ:t.length≤8000000) (ha:ba t) (hk:k≤t.length) (hf:aq+100<fu)
    (hp:cY f k [] (t.drop k)=some (acc,e)) (H:∀af,aj O af→Q (.tup [.str (cZ acc),.int (e:Int)]) af):Wp (ay aw fu (n+1) 12 [.str t,.int (k:Int)] O) Q X:=by
 have fO:=iw cJ
 have ht:=Nat.le_of_succ_le fO
 refine dT rfl rfl (by decide) rfl (aV rfl (aV rfl (rV (RB t k O acc e) (.mk (j:=k) (ps:=[]) ⟨hk,aj.refl.push,bH,Nat.zero_le _,Nat.zero_le _,pj,hp⟩) (adl (Nat.sub_le _ _) (lm ht hf)) λm L s K hK h=>?_)))
 cases h with
 |@mk j f ps x s hi=>
  refine ⟨qM (t.drop j),tq rfl rfl rfl λc r hd=>fy (aO (bj rfl rfl (iI hd)) rfl xm),λhr=>IA hr λc r hd sV=>?_,λhr=>?_⟩
  ·have aK:=kq hd
   have rN:=hi.hg
   rw [hd] at rN
   refine Zl rN sV λg hg=>?_
   refine aV ((d8 (aJ rfl (aJ rfl rfl)) (CH hn ht hi.hj hf)).trans (by rw [hd])) (eJ (aO rfl rfl Fj) (λh1=>?_) λh1=>?_)
   ·have h1:=Nat.pos_of_lt_add_right h1
    rw [if_pos h1, ←dH _ hd] at hg
    exact dS (iG rfl hi.hP rfl (ly hi.hP hi.l2 hi.hj fO)) (bz (.next (xa (q:=[32]) hi hK aK h1 (hd▸BB hi.hj) h1 sP hg)))
   ·rw [if_neg λq=>h1 (Nat.lt_add_of_pos_right q)] at hg
    have dp:t.drop (j+1)=r:=dH 1 hd
    refine fG (t:=decide (c=92)&&decide (r.take 1=[10])) (kj (fJ (aO (bj rfl rfl (iI hd)) rfl jT) (fy (aO (e7 rfl rfl rfl (v:= .str (r.take 1)) ?_) rfl oR)))) (λh2=>?_) λh2=>?_
    ·exact (k8 (jR hi.hj ht (by decide)) (jR hi.hj ht (by decide))).trans (by rw [show j+2-(j+1)=1 from Nat.add_sub_cancel_left (j+1) 1,dp])
    ·rw [Bool.and_eq_true,decide_eq_true_eq,decide_eq_true_eq] at h2
     rw [if_pos h2, ←dH _ hd] at hg
     exact dS (iG rfl hi.hP rfl (ly hi.hP hi.l2 hi.hj fO)) (aV rfl (bz (.next (bz (.next (xa (q:=[32]) hi hK aK (Nat.succ_pos 1) (show j+1+[10].length≤t.length from Kh (w:=1) aK (by rw [dp];exact h2.2)) (by decide) sP hg))))))
    ·rw [if_neg λq=>by rw [decide_eq_true q.1,decide_eq_true q.2] at h2;cases h2] at hg
     refine eJ (p:=(c::r).take 3=[92,13,10]) (aO (e7 rfl rfl rfl (pa (e:=3) (jR hi.hj ht (by decide)))) rfl (by rw [hd];exact oR)) (λh3=>?_) λh3=>?_
     ·rw [if_pos h3, ←dH _ hd] at hg
      exact dS (iG rfl hi.hP rfl (ly hi.hP hi.l2 hi.hj fO)) (aV rfl (bz (.next (bz (.next (bz (.next (xa (q:=[32]) hi hK aK (Nat.succ_pos 2) (show j+[92,13,10].length≤t.length from Kh (w:=3) hi.hj (by rw [hd];exact h3)) (by decide) sP hg))))))))
     ·rw [if_neg h3, ←dH _ hd] at hg
      have jE:=th hd
      exact aV (d8 (aJ rfl (aJ rfl rfl)) (yi hd hn ht hf)) (dS (iG rfl hi.hP (e7 rfl rfl rfl (wM hd (fL hi.hj ht) (fL jE ht))) (ly hi.hP hi.l2 hi.hj fO)) (bz (.next (bz (.next (bz (.next (xa hi hK aK (tj c r) jE (List.length_take_le _ _) (ba.take (hd▸ha.drop _) _) hg))))))))
  ·have e1:=congrArg (λx:List Nat×Nat=>V.tup [.str (cZ x.1),.int (x.2:Int)]) (aai hr hi.hg)
   exact dj (mZ (aJ (jf (jf rfl rfl rfl (uz hi.hP (adj hi.l3 (adj hi.hj ht)))) rfl rfl (Kf (Iz hi.ha))) (aJ rfl rfl))) (.ret (e1.symm▸H _ hi.he))
noncomputable def gI:List (List Nat):=[[100,101,102,105,110,101],[117,110,100,101,102],[105,102,100,101,102],[105,102,110,100,101,102],[101,108,115,105,102],[101,108,115,101],[101,110,100,105,102],[116,105,109,101,115,99,97,108,101],[100,101,102,97,117,108,116,95,110,101,116,116,121,112,101],[114,101,115,101,116,97,108,108],[99,101,108,108,100,101,102,105,110,101],[101,110,100,99,101,108,108,100,101,102,105,110,101],[105,110,99,108,117,100,101],[108,105,110,101],[117,110,99,111,110,110,101,99,116,101,100,95,100,114,105,118,101],[110,111,117,110,99,111,110,110,101,99,116,101,100,95,100,114,105,118,101]]
theorem TU:ay aw fu (n+1) 13 [] O= .ok (.tup (gI.map .str)) O:=rfl
end
section
variable {α:Type}
noncomputable def a6:List (List Nat×α)→List Nat→Option α
 |[],_=>none
 |(x,v)::r,k=>if x=k then some v else a6 r k
noncomputable def dX:List (List Nat×α)→List Nat→α→List (List Nat×α)
 |[],k,v=>[(k,v)]
 |(x,u)::r,k,v=>if x=k then (x,v)::r else (x,u)::dX r k v
noncomputable def fg:List (List Nat×α)→List Nat→List (List Nat×α)
 |[],_=>[]
 |(x,u)::r,k=>if x=k then r else (x,u)::fg r k
inductive bo (R:V→α→Prop):List (List Nat×V)→List (List Nat×α)→Prop where
 |nil:bo R [] []
 |cons {k:List Nat} {v:V} {a:α} {es:List (List Nat×V)} {l:List (List Nat×α)}:R v a→bo R es l→bo R ((k,v)::es) ((k,a)::l)
variable {R R':V→α→Prop} {es:List (List Nat×V)} {l:List (List Nat×α)} {k:List Nat} {a:α} {v:V}
theorem bo.get (h:bo R es l):match a6 l k with |some a=>∃v,dictGet es k=some v∧R v a |none=>dictGet es k=none:=by
 induction h with
 |nil=>exact rfl
 |@cons x v a es l r _ ih=>
  by_cases q:x=k
  ·rw [show a6 ((x,a)::l) k=some a from if_pos q];exact ⟨v,if_pos q,r⟩
  ·rw [show a6 ((x,a)::l) k=a6 l k from if_neg q,show dictGet ((x,v)::es) k=dictGet es k from if_neg q];exact ih
theorem bo.some (h:bo R es l) (g:a6 l k=some a):∃v,dictGet es k=some v∧R v a:=by
 have:=h.get (k:=k)
 rw [g] at this;exact this
theorem bo.none (h:bo R es l) (g:a6 l k=Option.none):dictGet es k=Option.none:=by
 have:=h.get (k:=k)
 rw [g] at this;exact this
theorem bo.isSome (h:bo R es l):(dictGet es k).isSome=(a6 l k).isSome:=by
 cases g:a6 l k with
 |none=>rw [h.none g];rfl
 |some a=>exact (h.some g).elim λv e=>by rw [e.1];rfl
theorem bo.put (h:bo R es l) (r:R v a):bo R (dictPut es k v) (dX l k a):=by
 induction h with
 |nil=>exact .cons r .nil
 |@cons x u b es l r2 h ih=>
  by_cases q:x=k
  ·rw [show dX ((x,b)::l) k a=(x,a)::l from if_pos q,show dictPut ((x,u)::es) k v=(x,v)::es from if_pos q];exact .cons r h
  ·rw [show dX ((x,b)::l) k a=(x,b)::dX l k a from if_neg q,show dictPut ((x,u)::es) k v=(x,u)::dictPut es k v from if_neg q];exact .cons r2 ih
theorem bo.del (h:bo R es l):bo R (dictDel es k) (fg l k):=by
 induction h with
 |nil=>exact .nil
 |@cons x u b es l r2 h ih=>
  by_cases q:x=k
  ·rw [show fg ((x,b)::l) k=l from if_pos q,show dictDel ((x,u)::es) k=es from if_pos q];exact h
  ·rw [show fg ((x,b)::l) k=(x,b)::fg l k from if_neg q,show dictDel ((x,u)::es) k=(x,u)::dictDel es k from if_neg q];exact .cons r2 ih
theorem bo.mono (h:bo R es l) (f:∀v a,R v a→R' v a):bo R' es l:=by
 induction h with
 |nil=>exact .nil
 |cons r2 h ih=>exact .cons (f _ _ r2) ih
theorem bo.length (h:bo R es l):es.length=l.length:=by
 induction h with
 |nil=>rfl
 |cons r2 h ih=>exact congrArg (· +1) ih
end
section
variable {O:ag} {n:Nat}
theorem vH {es:List (List Nat×V)} {x:List Nat} (h:O[n]?=some (.dict es)):lR O (.str x) (.ref n)=some (dictGet es x).isSome:=by
 show gY O n Option.none _=_
 unfold gY
 rw [h];rfl
theorem eS {es:List (List Nat×V)} {x:List Nat} {v:V} (h:O[n]?=some (.dict es)) (g:dictGet es x=some v):di O (.ref n) (.str x)=some v:=(qJ (d:=Option.none) (f:=λes=>dictGet es x) h).trans g
theorem cK {c:cj} {fs:List (Nat×V)} {f:Nat} {v:V} (h:O[n]?=some (.inst c fs)) (g:pD fs f=some v):wc O (.ref n) f=some v:=(CY (d:=Option.none) (f:=λ_ fs=>pD fs f) h).trans g
theorem iM {c:cj} {fs:List (Nat×V)} {f:Nat} {v:V} (h:O[n]?=some (.inst c fs)):qQ O (.ref n) f v=some (O.set n (.inst c (fc fs f v))):=CY (d:=Option.none) (f:=λc fs=>some (O.set n (.inst c (fc fs f v)))) h
theorem mC {xs:List V} (h:O[n]?=some (.list xs)):mR .len O [.ref n]= .ok (.int (xs.length:Int)) O:=oy (gX (d:=Option.none) (f:=λxs=>some (V.int xs.length)) h)
end
structure MV where
 names:Option (List (List Nat))
 body:List Nat
abbrev bw:=List (List Nat×MV)
noncomputable def g8:List Nat:=[98,97,100,95,100,105,114,101,99,116,105,118,101]
noncomputable def mG:List Nat:=[117,110,100,101,102,105,110,101,100,95,109,97,99,114,111]
noncomputable def kQ:List Nat:=[109,97,99,114,111,95,100,101,112,116,104]
noncomputable def gv:List Nat:=[109,97,99,114,111,95,97,114,103,117,109,101,110,116,115]
noncomputable def lN:List Nat:=[117,110,98,97,108,97,110,99,101,100,95,99,111,110,100,105,116,105,111,110]
noncomputable def g5 (b:List Nat):Prop:=b.length≤8000000∧ba b
inductive UR where
 |ok (s:List Nat) (c u:Nat)
 |err (k:List Nat)
inductive PR where
 |ok (s:List Nat) (u:Nat)
 |err (k:List Nat)
noncomputable def PR.toU (c:Nat):PR→UR
 | .ok s u=> .ok s c u
 | .err k=> .err k
noncomputable def PR.pre (s:List Nat):PR→PR
 | .ok r u=> .ok (s++r) u
 | .err k=> .err k
noncomputable def dO (r:List Nat):Prop:=r.take (aC r)∈gI∨r.take (aC r)=[]
noncomputable def mI:PR→Prop
 | .ok s _=>s.length≤aq
 | .err _=>True
section
variable (M:bw) (d u:Nat) (r:List Nat)
inductive lK (k:List Nat):Prop where
 |bad (h:dO r) (e:k=g8):lK k
 |undef (h:¬dO r) (g:a6 M (r.take (aC r))=none) (e:k=mG):lK k
 |oe (m:MV) (h:¬dO r) (g:a6 M (r.take (aC r))=some m) (hd:20≤d∨1000≤u) (e:k=kQ):lK k
 |Hu (f:Nat) (b:List Nat) (ns:List (List Nat)) (h:¬dO r) (g:a6 M (r.take (aC r))=some ⟨some ns,b⟩) (hd:¬(20≤d∨1000≤u)) (ha:ej f (aC r+dI (r.drop (aC r))) (r.drop (aC r+dI (r.drop (aC r))))=some none) (e:k=gv):lK k
 |count (f e:Nat) (b:List Nat) (ns as:List (List Nat)) (h:¬dO r) (g:a6 M (r.take (aC r))=some ⟨some ns,b⟩) (hd:¬(20≤d∨1000≤u)) (ha:ej f (aC r+dI (r.drop (aC r))) (r.drop (aC r+dI (r.drop (aC r))))=some (some (as,e)))
      (hn:ns≠[]) (hl:as.length≠ns.length) (e:k=gv):lK k
inductive nU (b':List Nat) (e:Nat):Prop where
 |plain (h:¬dO r) (g:a6 M (r.take (aC r))=some ⟨none,b'⟩) (hd:¬(20≤d∨1000≤u)) (ee:e=aC r):nU b' e
 |args (f m:Nat) (b:List Nat) (ns as:List (List Nat)) (h:¬dO r) (g:a6 M (r.take (aC r))=some ⟨some ns,b⟩) (hd:¬(20≤d∨1000≤u)) (ha:ej f (aC r+dI (r.drop (aC r))) (r.drop (aC r+dI (r.drop (aC r))))=some (some (as,e)))
      (hn:ns≠[]) (hl:as.length=ns.length) (hb:g5 b) (hs:ix ns as m b=some b'):nU b' e
end
mutual
inductive Us (M:bw):Nat→Nat→List Nat→UR→Prop where
 |err {d u:Nat} {r k:List Nat}:lK M d u r k→Us M d u r (.err k)
 |body {d u c:Nat} {r b:List Nat} {res:PR}:nU M d u r b c→g5 b→mI res→Pc M (d+1) (u+1) b res→Us M d u r (res.toU c)
inductive Pc (M:bw):Nat→Nat→List Nat→PR→Prop where
 |nil {d u:Nat}:Pc M d u [] (.ok [] u)
 |tok {d u c:Nat} {r:List Nat} {res:PR}:c≠96→Pc M d u ((c::r).drop (a7 (c::r))) res→Pc M d u (c::r) (res.pre ((c::r).take (a7 (c::r))))
 |use {d u c u':Nat} {r s:List Nat} {res:PR}:Us M d u r (.ok s c u')→Pc M d u' (r.drop c) res→Pc M d u (96::r) (res.pre s)
 |err {d u:Nat} {r k:List Nat}:Us M d u r (.err k)→Pc M d u (96::r) (.err k)
end
inductive rY (M:bw) (d u:Nat) (t:List Nat) (v:PR):Prop where
 |nil (e:t=[]) (ev:v= .ok [] u):rY M d u t v
 |tok (c:Nat) (r:List Nat) (res:PR) (e:t=c::r) (hc:c≠96) (h:Pc M d u ((c::r).drop (a7 (c::r))) res) (ev:v=res.pre ((c::r).take (a7 (c::r)))):rY M d u t v
 |use (r s:List Nat) (c u':Nat) (res:PR) (e:t=96::r) (h:Us M d u r (.ok s c u')) (h2:Pc M d u' (r.drop c) res) (ev:v=res.pre s):rY M d u t v
 |err (r k:List Nat) (e:t=96::r) (h:Us M d u r (.err k)) (ev:v= .err k):rY M d u t v
theorem Pc.view {M:bw} {d u:Nat} {t:List Nat} {v:PR} (h:Pc M d u t v):rY M d u t v:=Pc.casesOn (motive_2:=λd u t v _=>rY M d u t v) h (.nil rfl rfl) (λa b=> .tok _ _ _ rfl a b rfl) (λa b=> .use _ _ _ _ _ rfl a b rfl) λa=> .err _ _ rfl a rfl
inductive yB (M:bw) (d u:Nat) (r:List Nat) (res:UR):Prop where
 |err (k:List Nat) (h:lK M d u r k) (e:res= .err k):yB M d u r res
 |body (c:Nat) (b:List Nat) (cG:PR) (h:nU M d u r b c) (h1:g5 b) (h2:mI cG) (h3:Pc M (d+1) (u+1) b cG) (e:res=cG.toU c):yB M d u r res
theorem Us.view {M:bw} {d u:Nat} {r:List Nat} {res:UR} (h:Us M d u r res):yB M d u r res:=Us.casesOn (motive_1:=λd u r res _=>yB M d u r res) h (λh=> .err _ h rfl) λa b c d=> .body _ _ _ a b c d rfl
noncomputable def sN (a:Nat) (x:Option (Option (List (List Nat)×Nat))):Option (Option (List (List Nat)×Nat)):=x.map (Option.map λx=>(x.1,a+x.2))
theorem j0 {α β:Type} {c:Prop} [Decidable c] {f:α→β} {x y:α} {x' y':β} (h1:x'=f x) (h2:y'=f y):(if c then x' else y')=f (if c then x else y):=by rw [h1,h2,apply_ite f]
theorem HL (a:Nat):∀(f d:Nat) (as:List (List Nat)) (cf:List Nat) (k:Nat) (r:List Nat),cU f d as cf (a+k) r=sN a (cU f d as cf k r)
 |0,_,_,_,_,_=>rfl
 |_+1,_,_,_,_,[]=>rfl
 |f+1,d,as,cf,k,c::r=>by
  have ih:∀d as cf e r,cU f d as cf (a+k+e) r=sN a (cU f d as cf (k+e) r):=λd as cf e r=>Nat.add_assoc a k e▸HL a f d as cf (k+e) r
  exact j0 (f:=sN a) (ih _ _ _ _ _) (j0 (j0 (congrArg (λn=>some (some (as++[cZ cf],n))) (Nat.add_assoc a k 1)) (ih _ _ _ _ _)) (j0 (ih _ _ _ _ _) (j0 (j0 rfl (ih _ _ _ _ _)) (ih _ _ _ _ _))))
theorem Ig (a f k:Nat):∀r:List Nat,ej f (a+k) r=sN a (ej f k r)
 |[]=>rfl
 |c::r=>j0 (f:=sN a) (Nat.add_assoc a k 1▸HL a f 0 [] [] (k+1) r) rfl
theorem La (a:Nat):∀(f k:Nat) (acc r:List Nat),cY f (a+k) acc r=(cY f k acc r).map λx=>(x.1,a+x.2)
 |0,_,_,_=>rfl
 |_+1,_,_,[]=>rfl
 |f+1,k,acc,c::r=>by
  have ih:∀e acc r,cY f (a+k+e) acc r=(cY f (k+e) acc r).map λx=>(x.1,a+x.2):=λe acc r=>Nat.add_assoc a k e▸La a f (k+e) acc r
  exact j0 (f:=Option.map λx:List Nat×Nat=>(x.1,a+x.2)) rfl (j0 (ih _ _ _) (j0 (ih _ _ _) (j0 (ih _ _ _) (ih _ _ _))))
section
variable {M:bw} {d u:Nat} {r k:List Nat} {res:UR} {P:Prop}
theorem Us.inv (h:Us M d u r res) (k1:∀k,lK M d u r k→res= .err k→P) (k2:∀c b cG,nU M d u r b c→g5 b→mI cG→Pc M (d+1) (u+1) b cG→res=cG.toU c→P):P:=match h.view with
 | .err k h e=>k1 k h e
 | .body _ _ _ a b c d e=>k2 _ _ _ a b c d e
theorem m8 {α:Type} {o:Option α} {m:α} (h:o=some m) (g:o=none):P:=by rw [h] at g;cases g
theorem DP {o:Option MV} {n n':Option (List (List Nat))} {b b':List Nat} (h:o=some ⟨n,b⟩) (g:o=some ⟨n',b'⟩) (k:n=n'→b=b'→P):P:=by rw [h] at g;cases g;exact k rfl rfl
theorem vp {o:Option MV} {n:List (List Nat)} {b b':List Nat} (h:o=some ⟨none,b⟩) (g:o=some ⟨some n,b'⟩):P:=by rw [h] at g;cases g
theorem lK.inv (h:lK M d u r k) (k1:dO r→k=g8→P) (k2:¬dO r→a6 M (r.take (aC r))=none→k=mG→P) (k3:∀m,¬dO r→a6 M (r.take (aC r))=some m→20≤d∨1000≤u→k=kQ→P)
    (k4:∀f b ns,¬dO r→a6 M (r.take (aC r))=some ⟨some ns,b⟩→¬(20≤d∨1000≤u)→ej f (aC r+dI (r.drop (aC r))) (r.drop (aC r+dI (r.drop (aC r))))=some none→k=gv→P)
    (k5:∀f e b ns as,¬dO r→a6 M (r.take (aC r))=some ⟨some ns,b⟩→¬(20≤d∨1000≤u)→ej f (aC r+dI (r.drop (aC r))) (r.drop (aC r+dI (r.drop (aC r))))=some (some (as,e))→ns≠[]→as.length≠ns.length→k=gv→P):P:=match h with
 | .bad h e=>k1 h e
 | .undef h g e=>k2 h g e
 | .oe _ h g q e=>k3 _ h g q e
 | .Hu _ _ _ h g q x e=>k4 _ _ _ h g q x e
 | .count _ _ _ _ _ h g q x y z e=>k5 _ _ _ _ _ h g q x y z e
theorem nU.inv {b:List Nat} {c:Nat} (h:nU M d u r b c) (k1:¬dO r→a6 M (r.take (aC r))=some ⟨none,b⟩→¬(20≤d∨1000≤u)→c=aC r→P)
    (k2:∀f m b0 ns as,¬dO r→a6 M (r.take (aC r))=some ⟨some ns,b0⟩→¬(20≤d∨1000≤u)→ej f (aC r+dI (r.drop (aC r))) (r.drop (aC r+dI (r.drop (aC r))))=some (some (as,c))→ns≠[]→as.length=ns.length→g5 b0→ix ns as m b0=some b→P):P:=match h with
 | .plain h g q e=>k1 h g q e
 | .args _ _ _ _ _ h g q x y z w v=>k2 _ _ _ _ _ h g q x y z w v
theorem OD (h:Us M d u r res) (b:dO r):res= .err g8:=h.inv (λk q e=>q.inv (λ_ e2=>e2▸e) (λq _ _=>absurd b q) (λ_ q _ _ _=>absurd b q) (λ_ _ _ q _ _ _ _=>absurd b q) λ_ _ _ _ _ q _ _ _ _ _ _=>absurd b q) λ_ _ _ q _ _ _ _=>q.inv (λq _ _ _=>absurd b q) λ_ _ _ _ _ q _ _ _ _ _ _ _=>absurd b q
theorem WK (h:Us M d u r res) (b:¬dO r) (g:a6 M (r.take (aC r))=none):res= .err mG:=h.inv (λk q e=>q.inv (λq _=>absurd q b) (λ_ _ e2=>e2▸e) (λ_ _ q _ _=>m8 q g) (λ_ _ _ _ q _ _ _=>m8 q g) λ_ _ _ _ _ _ q _ _ _ _ _=>m8 q g) λ_ _ _ q _ _ _ _=>q.inv (λ_ q _ _=>m8 q g) λ_ _ _ _ _ _ q _ _ _ _ _ _=>m8 q g
theorem OB (h:Us M d u r res) (b:¬dO r) {m:MV} (g:a6 M (r.take (aC r))=some m) (hd:20≤d∨1000≤u):res= .err kQ:=h.inv (λk q e=>q.inv (λq _=>absurd q b) (λ_ q _=>m8 g q) (λ_ _ _ _ e2=>e2▸e) (λ_ _ _ _ _ q _ _=>absurd hd q) λ_ _ _ _ _ _ _ q _ _ _ _=>absurd hd q) λ_ _ _ q _ _ _ _=>q.inv (λ_ _ q _=>absurd hd q) λ_ _ _ _ _ _ _ q _ _ _ _ _=>absurd hd q
theorem WN (h:Us M d u r res) (b:¬dO r) {m:List Nat} (g:a6 M (r.take (aC r))=some ⟨none,m⟩) (hd:¬(20≤d∨1000≤u)) (k:∀cG,g5 m→mI cG→Pc M (d+1) (u+1) m cG→res=cG.toU (aC r)→P):P:=h.inv (λ_ q e=>q.inv (λq _=>absurd q b) (λ_ q _=>m8 g q) (λ_ _ _ q _=>absurd q hd) (λ_ _ _ _ q _ _ _=>vp g q) λ_ _ _ _ _ _ q _ _ _ _ _=>vp g q)
  λ_ _ cG q x y z e=>q.inv (λ_ q _ ec=>DP g q λ_ eb=>k cG (eb▸x) y (eb▸z) (ec▸e)) λ_ _ _ _ _ _ q _ _ _ _ _ _=>vp g q
theorem YZ (h:Us M d u r res) (b:¬dO r) {ns:List (List Nat)} {m:List Nat} (g:a6 M (r.take (aC r))=some ⟨some ns,m⟩) (hd:¬(20≤d∨1000≤u))
    (k1:∀f,ej f (aC r+dI (r.drop (aC r))) (r.drop (aC r+dI (r.drop (aC r))))=some none→res= .err gv→P)
    (k2:∀f as e,ej f (aC r+dI (r.drop (aC r))) (r.drop (aC r+dI (r.drop (aC r))))=some (some (as,e))→ns≠[]→as.length≠ns.length→res= .err gv→P)
    (k3:∀f as e w b' cG,ej f (aC r+dI (r.drop (aC r))) (r.drop (aC r+dI (r.drop (aC r))))=some (some (as,e))→ns≠[]→as.length=ns.length→g5 m→ix ns as w m=some b'→g5 b'→mI cG→Pc M (d+1) (u+1) b' cG→res=cG.toU e→P):P:=
 h.inv (λ_ q e=>q.inv (λq _=>absurd q b) (λ_ q _=>m8 g q) (λ_ _ _ q _=>absurd q hd) (λ_ _ _ _ _ _ x e2=>k1 _ x (e2▸e)) λ_ _ _ _ _ _ q _ x y z e2=>DP g q λen _=>k2 _ _ _ x (Option.some.inj en▸y) (Option.some.inj en▸z) (e2▸e))
 λ_ _ cG q x y z e=>q.inv (λ_ q _ _=>vp q g) λ_ _ _ _ _ _ q _ a1 a2 a3 a4 a5=>DP g q λen eb=>k3 _ _ _ _ _ _ a1 (Option.some.inj en▸a2) (Option.some.inj en▸a3) (eb▸a4) (eb▸Option.some.inj en▸a5) x y z e
theorem Pc.inv {t:List Nat} {v:PR} (h:Pc M d u t v) (k0:t=[]→v= .ok [] u→P) (k1:∀c r res,t=c::r→c≠96→Pc M d u ((c::r).drop (a7 (c::r))) res→v=res.pre ((c::r).take (a7 (c::r)))→P)
    (k2:∀r s c u' res,t=96::r→Us M d u r (.ok s c u')→Pc M d u' (r.drop c) res→v=res.pre s→P) (k3:∀r k,t=96::r→Us M d u r (.err k)→v= .err k→P):P:=match h.view with
 | .nil e ev=>k0 e ev
 | .tok _ _ _ e a b ev=>k1 _ _ _ e a b ev
 | .use _ _ _ _ _ e a b ev=>k2 _ _ _ _ _ e a b ev
 | .err _ _ e a ev=>k3 _ _ e a ev
theorem pP {α:Type} {a b:α} {r s:List α} (h:a::r=b::s) (k:a=b→r=s→P):P:=k (List.cons.inj h).1 (List.cons.inj h).2
theorem kX {α:Type} {b:α} {s:List α} (h:[]=b::s):P:=nomatch h
theorem XB {v:PR} (h:Pc M d u [] v):v= .ok [] u:=h.inv (λ_ e=>e) (λ_ _ _ e _ _ _=>kX e) (λ_ _ _ _ _ e _ _ _=>kX e) λ_ _ e _ _=>kX e
theorem WW {c:Nat} {v:PR} (h:Pc M d u (c::r) v) (hc:c≠96) (k:∀res,Pc M d u ((c::r).drop (a7 (c::r))) res→v=res.pre ((c::r).take (a7 (c::r)))→P):P:=
 h.inv (λe _=>kX e.symm) (λ_ _ _ e _ q ev=>k _ (e.symm▸q) (e.symm▸ev)) (λ_ _ _ _ _ e _ _ _=>pP e λq _=>absurd q hc) λ_ _ e _ _=>pP e λq _=>absurd q hc
theorem Yt {v:PR} (h:Pc M d u (96::r) v) (k1:∀s c u' res,Us M d u r (.ok s c u')→Pc M d u' (r.drop c) res→v=res.pre s→P) (k2:∀k,Us M d u r (.err k)→v= .err k→P):P:=
 h.inv (λe _=>kX e.symm) (λ_ _ _ e hc _ _=>pP e λq _=>absurd q.symm hc) (λ_ _ _ _ _ e a b ev=>pP e λ_ q=>k1 _ _ _ _ (q▸a) (q▸b) ev) λ_ _ e a ev=>pP e λ_ q=>k2 _ (q▸a) ev
end
noncomputable def aU (tb:Nat) (O af:ag):Prop:=O.length≤af.length∧∀i,i<O.length→i≠tb→af[i]?=O[i]?
section
variable {O af hS:ag} {tb i:Nat} {c d:Cell}
theorem aj.toT (h:aj O af):aU tb O af:=⟨h.1,λi hi _=>h.2 i hi⟩
theorem aU.refl:aU tb O O:=⟨adp _,λ_ _ _=>rfl⟩
theorem aU.trans (h:aU tb O af) (h2:aU tb af hS):aU tb O hS:=⟨adj h.1 h2.1,λi hi ne=>(h2.2 i (adk hi h.1) ne).trans (h.2 i hi ne)⟩
theorem aU.get (h:aU tb O af) (g:O[i]?=some c) (ne:i≠tb):af[i]?=some c:=(h.2 i (dD g) ne).trans g
theorem aU.set (h:aU tb O af):aU tb O (af.set tb d):=⟨List.length_set.symm▸h.1,λj hj ne=>(List.getElem?_set_ne (Ne.symm ne)).trans (h.2 j hj ne)⟩
theorem aU.rH (h:aU tb O af) (hi:O.length≤i):aU tb O (af.set i d):=⟨List.length_set.symm▸h.1,λj hj ne=>(List.getElem?_set_ne (Nat.ne_of_gt (adk hj hi))).trans (h.2 j hj ne)⟩
theorem Ft (h1:O[tb]?=some c) (h2:O[i]?=some d) (h:c≠d):i≠tb:=λq=>h (Option.some.inj (h1.symm.trans (q▸h2)))
end
noncomputable def LR (lo:Nat) (O:ag) (nv:V):Option (List (List Nat))→Prop
 |none=>nv= .none
 |some ns=>∃j,nv= .ref j∧lo<j∧O[j]?=some (.list (ns.map .str))
inductive mw (lo:Nat) (O:ag) (v:V) (m:MV):Prop where
 |mk (i:Nat) (nv:V) (hv:v= .ref i) (h1:O[i]?=some (.inst .macro [(0,nv),(1,.str m.body)])) (h2:LR lo O nv m.names):mw lo O v m
noncomputable def jk (md u:Nat):Cell:= .inst .table [(2,.ref md),(3,.tup (gI.map .str)),(4,.int (u:Int))]
inductive TabAt (lo:Nat) (O:ag) (tb md u:Nat) (M:bw):Prop where
 |mk (es:List (List Nat×V)) (t:O[tb]?=some (jk md u)) (m:O[md]?=some (.dict es)) (rI:bo (mw lo O) es M):TabAt lo O tb md u M
section
variable {lo:Nat} {O af:ag} {tb md u u':Nat} {M:bw}
theorem mw.keep {v:V} {m:MV} (h:mw lo O v m) (k:∀(i:Nat) (c:Cell),O[i]?=some c→(∃fs,c= .inst .macro fs)∨(lo<i∧∃ss:List (List Nat),c= .list (ss.map .str))→af[i]?=some c):mw lo af v m:=match h with
 |⟨i,nv,hv,h1,h2⟩=>⟨i,nv,hv,k i _ h1 (.inl ⟨_,rfl⟩),match m.names,h2 with
  |none,h2=>h2
  |some ns,⟨j,e,lj,g⟩=>⟨j,e,lj,k j _ g (.inr ⟨lj,_,rfl⟩)⟩⟩
theorem TabAt.t (h:TabAt lo O tb md u M):O[tb]?=some (jk md u):=match h with
 |⟨_,t,_,_⟩=>t
theorem TabAt.ext (h:TabAt lo O tb md u M) (e:aj O af):TabAt lo af tb md u M:=match h with
 |⟨es,t,h1,h2⟩=>⟨es,e.get t,e.get h1,h2.mono λv a r=>r.keep λi c g _=>e.get g⟩
theorem TabAt.NC (h:TabAt lo O tb md u M) (e:aU tb O af) (t:af[tb]?=some (jk md u')):TabAt lo af tb md u' M:=match h with
 |⟨es,t0,h1,h2⟩=>⟨es,t,e.get h1 (Ft t0 h1 nofun),h2.mono λv a r=>r.keep λi c g k=>e.get g (Ft t0 g λq=>k.elim (λ⟨fs,k⟩=>by rw [←q] at k;cases k) λ⟨_,ss,k⟩=>by rw [←q] at k;cases k)⟩
theorem TabAt.tick (h:TabAt lo O tb md u M):TabAt lo (O.set tb (jk md u')) tb md u' M:=h.NC aU.refl.set (cW h.t)
end
noncomputable def pz (lo tb md:Nat) (M:bw) (O:ag) (N6:Nat) (cP:V) (Q:V→ag→Prop) (X:aX→ag→Prop):UR→Prop
 | .ok s c u=>∀af,aU tb O af→TabAt lo af tb md u M→Q (.tup [.str s,.int ((N6+c:Nat):Int)]) af
 | .err k=>∀af e,aU tb O af→e.k= .str k→e.a=cP→X e af
noncomputable def BU (lo tb md:Nat) (M:bw) (O:ag) (cP:V) (Q:V→ag→Prop) (X:aX→ag→Prop):PR→Prop
 | .ok s u=>∀af,aU tb O af→TabAt lo af tb md u M→Q (.str s) af
 | .err k=>∀af e,aU tb O af→e.k= .str k→e.a=cP→X e af
noncomputable def m9 (C:Calls) (d:Nat):Prop:=∀{M:bw} {t r:List Nat} {cF u lo tb md:Nat} {cP:V} {O:ag} {res:UR} {Q:V→ag→Prop} {X:aX→ag→Prop},g5 t→TabAt lo O tb md u M→cF<t.length→t.drop (cF+1)=r→Us M d u r res→
 pz lo tb md M O (cF+1) cP Q X res→Wp (C 17 [.ref tb,.str t,.int (cF:Int),.int ((cF+1+aC r:Nat):Int),cP,.int (d:Int)] O) Q X
noncomputable def rR (C:Calls) (d:Nat):Prop:=∀{M:bw} {t:List Nat} {u lo tb md:Nat} {cP:V} {O:ag} {res:PR} {Q:V→ag→Prop} {X:aX→ag→Prop},g5 t→TabAt lo O tb md u M→mI res→Pc M d u t res→
 BU lo tb md M O cP Q X res→Wp (C 18 [.ref tb,.str t,cP,.int (d:Int)] O) Q X
section
variable {fu n:Nat}
inductive PI (M:bw) (t:List Nat) (lo tb md d:Nat) (cP:V) (O:ag) (res:PR):Nat→Locals→ag→Prop where
 |mk {j u:Nat} {ps:List (List Nat)} {zD:PR} {x y:Option V} {s:ag} (he:aU tb O s) (hT:s[tb]?=some (jk md u)) (hP:s[O.length]?=some (.list (ps.map .str))) (l2:ps.length≤j) (hg:Pc M d u (t.drop j) zD) (hr:zD.pre ps.flatten=res):
   PI M t lo tb md d cP O res (t.length-j) [some (.ref tb),some (.str t),some cP,some (.int (d:Int)),some (.ref O.length),some (.int (j:Int)),x,y] s
theorem Pl (v:PR):v.pre []=v:=by cases v<;>rfl
theorem MD {v:PR} {s:List Nat} {ps:List (List Nat)}:v.pre (ps++[s]).flatten=(v.pre s).pre ps.flatten:=by
 rw [nQ]
 cases v with
 |ok r u=>exact congrArg (PR.ok · u) (List.append_assoc ..)
 |err k=>rfl
theorem Py {d:Nat} (hn:1<n) (hf:aq+100<fu) (hU:m9 (ay aw fu n) d):rR (ay aw fu (n+1)) d:=λ{M t u lo tb md cP O res Q X} jF hT tY uV hE=>by
 have fO:=iw jF.1
 have ht:=Nat.le_of_succ_le fO
 have cz:O.length≠tb:=Nat.ne_of_gt (dD hT.t)
 refine dT rfl rfl (by decide) rfl (aV rfl (aV rfl (rV (PI M t lo tb md d cP O res) (.mk (j:=0) (ps:=[]) aj.refl.push.toT (mN hT.t) bH (Nat.zero_le _) uV (Pl _)) (lm ht hf) λm L s K hK h=>?_)))
 cases h with
 |@mk j u1 ps zD x y s he qX hP l2 hg hr=>
  have zE:=hT.NC he qX
  refine ⟨_,aO rfl rfl nW,λaK=>?_,λjX=>?_⟩
  ·have aK:=adn aK
   refine xQ aK λc r hd=>?_
   have dp:t.drop (j+1)=r:=dH 1 hd
   rw [hd] at hg
   refine eJ (aO (bj rfl rfl (iI hd)) rfl jT) (λh1=>?_) (λh1=>?_)
   ·refine oQ rfl qX rfl (aJ rfl (aJ rfl (aJ ((d8 (aJ rfl (aJ rfl rfl)) (xb hn ht aK hf)).trans (by rw [dp])) (aJ rfl (aJ rfl rfl))))) (Yt (h1▸hg) (λs1 c1 u2 cG hu ml hv=>hU jF zE aK dp hu λaf e2 T2=>⟨rfl,bZ rfl ?_⟩) λk hu hv=>hU jF zE aK dp hu λaf e e2 k1 k2=>?_)
    ·have gL:=e2.get hP cz
     exact dS (iG rfl gL rfl (ly gL l2 (Nat.le_of_lt aK) fO)) (iZ (hK _ _ _ (Nat.sub_lt_sub_left aK (adk (Nat.lt_succ_self j) (adm _ _))) (.mk (j:=j+1+c1) ((he.trans e2).rH (adp _)) (fU T2.t cz) (cW gL)
            (Nat.add_assoc j 1 c1▸oj l2 (adk Nat.one_pos (adm _ _))) (by rw [←dH c1 dp] at ml;exact ml) (MD.trans ((congrArg (PR.pre ps.flatten) hv.symm).trans hr)))))
    ·rw [hv] at hr
     exact (show BU lo tb md M O cP Q X (.err k) from (show PR.err k=res from hr)▸hE) _ _ (he.trans e2) k1 k2
   ·have jE:=th hd
    have hw:=tj c r
    refine WW hg h1 λcG ml hv=>?_
    rw [←dH _ hd] at ml
    exact aV (d8 (aJ rfl (aJ rfl rfl)) (yi hd hn ht hf)) (dS (iG rfl hP (e7 rfl rfl rfl (wM hd (fL (Nat.le_of_lt aK) ht) (fL jE ht))) (ly hP l2 (Nat.le_of_lt aK) fO)) (aV rfl (iZ (hK _ _ _ (xX aK hw)
     (.mk (j:=j+a7 (c::r)) (he.rH (adp _)) (fU qX cz) (cW hP) (oj l2 hw) ml (MD.trans ((congrArg (PR.pre ps.flatten) hv.symm).trans hr)))))))
  ·rw [List.drop_eq_nil_of_le (Nat.le_of_not_lt (ado jX))] at hg
   have e:PR.ok ps.flatten u1=res:=(congrArg (PR.ok · u1) (List.append_nil _).symm).trans ((congrArg (PR.pre ps.flatten) (XB hg).symm).trans hr)
   exact dj (jf rfl rfl rfl (uz hP (show mI (.ok ps.flatten u1) from e▸tY))) (.ret ((show BU lo tb md M O cP Q X (.ok ps.flatten u1) from e▸hE) _ he zE))
noncomputable def dK (s:List Nat):PySem.PyData:= .str ⟨s.toArray⟩
theorem SG {O:ag} {s:List Nat}:∀d,V.py O d (.str s)=some (dK s)
 |0=>rfl
 |_+1=>rfl
theorem FE {O:ag} (d:Nat):∀l:List (List Nat),V.pd O d (l.map .str)=some (l.map dK)
 |[]=>rfl
 |s::r=>by
  show (V.py O d (.str s)).bind (λx=>(jj (V.py O d) (r.map .str)).bind λxs=>some (x::xs))=_
  rw [SG,show jj (V.py O d) (r.map .str)=_ from FE d r];rfl
theorem My {O:ag} {n d:Nat} {l:List (List Nat)} (h:O[n]?=some (.list (l.map .str))):V.py O (d+1) (.ref n)=some (.list (l.map dK)):=
  (gX (d:=Option.none) (f:=λvs=>(jj (V.py O d) vs).bind λxs=>some (PySem.PyData.list xs)) h).trans (congrArg (λo=>o.bind λxs=>some (PySem.PyData.list xs)) (FE d l))
theorem HD {s:List Nat} (h:ba s):PySem.PyData.strOk ⟨s.toArray⟩=true:=by
 unfold PySem.PyData.strOk
 rw [Array.all_eq_true_iff_forall_mem]
 intro c hc
 have:c<128:=h c (by simpa using hc)
 rw [decide_eq_true_eq];omega
theorem IM:∀{l:List (List Nat)},(∀s∈l,ba s)→PySem.PyData.canLayAll0 (l.map dK)=true
 |[],_=>rfl
 |s::r,h=>by
  rw [List.map_cons,PySem.PyData.canLayAll0,IM λx hx=>h x (List.mem_cons_of_mem _ hx),Bool.and_true]
  show PySem.PyData.strOk _=true
  exact HD (h s List.mem_cons_self)
theorem Hh:∀l:List (List Nat),PySem.PyData.depthAll (l.map dK)=0
 |[]=>rfl
 |s::r=>by
  rw [List.map_cons,PySem.PyData.depthAll,Hh r];rfl
theorem LO {l:List (List Nat)} (h:∀s∈l,ba s):PySem.SeqAt.shaped (.list (l.map dK))=true:=by
 unfold PySem.SeqAt.shaped
 rw [show PySem.PyData.canLay0 (.list (l.map dK))=true from IM h]
 show decide (PySem.PyData.depthAll (l.map dK)+1≤64)=true
 rw [Hh];rfl
theorem Hv {O:ag} {a b:Nat} {l l':List (List Nat)} (h:O[a]?=some (.list (l.map .str))) (h':O[b]?=some (.list (l'.map .str))) (q:∀s∈l,ba s) (q':∀s∈l',ba s):
  co .eq O (.ref a) (.ref b)=some (.bool (PySem.PyData.eqv (.list (l.map dK)) (.list (l'.map dK)))):=by
 show (jU O (.ref a) (.ref b)).map V.bool=_
 unfold jU
 rw [My h,My h']
 show (if (PySem.SeqAt.shaped (.list (l.map dK))&&PySem.SeqAt.shaped (.list (l'.map dK)))=true then some (PySem.PyData.eqv (.list (l.map dK)) (.list (l'.map dK))) else none).map V.bool=_
 rw [LO q,LO q'];rfl
theorem V3 {O:ag} {a b:Nat}:co .ne O (.int (a:Int)) (.int (b:Int))=some (.bool (!decide (a=b))):=by
 show some (V.bool (!decide ((a:Int)=(b:Int))))=_
 congr 3;rw [decide_eq_decide];exact Int.ofNat_inj
theorem WL {O:ag} {d:Nat}:co .ge O (.int (d:Int)) (.int (ua 0))=some (.bool (decide (20≤d))):=by
 show some (V.bool (decide ((20:Int)≤d)))=_
 congr 2;rw [decide_eq_decide];exact Int.ofNat_le
theorem PE {O:ag} {u:Nat}:co .gt O (.int ((u+1:Nat):Int)) (.int (ua 1))=some (.bool (decide (1000≤u))):=by
 show some (V.bool (decide ((1000:Int)<((u+1:Nat):Int))))=_
 congr 2;rw [decide_eq_decide];omega
noncomputable def bf:Nat→Ss→Ss
 |0,s=>s
 |n+1,s=>match s with
  | .nil=> .nil
  | .cons _ r=>bf n r
noncomputable def fC (s:Ss):Ss:=match s with
 | .cons (.ite _ a _) _=>a
 | .cons (.dF _ a) _=>a
 | .cons (.forL _ _ a) _=>a
 | .cons (.forR _ _ a) _=>a
 |_=> .nil
noncomputable def uW (s:Ss):Ss:=match s with
 | .cons (.ite _ _ b) _=>b
 |_=> .nil
noncomputable def qm (tb:Nat) (t:List Nat) (cF e:Nat) (cP:V) (d:Nat) (x6 x7 x8 x9 ft:Option V):Locals:=[some (.ref tb),some (.str t),some (.int (cF:Int)),some (.int (e:Int)),some cP,some (.int (d:Int)),x6,x7,x8,x9,ft]
noncomputable def MW:Ss:=fC (bf 7 qy)
section
variable {C:Calls} {fu n d u lo tb md cF e i:Nat} {M:bw} {t nm b:List Nat} {cP:V} {O az:ag} {Q:V→ag→Prop} {X:aX→ag→Prop} {x6 x7 x9 ft:Option V}
theorem MB (hP:rR C (d+1)) {cG:PR} (T:TabAt lo az tb md (u+1) M) (hb:g5 b) (tY:mI cG) (uV:Pc M (d+1) (u+1) b cG) (e2:aU tb O az) (hE:pz lo tb md M O (cF+1) cP Q X (cG.toU e)):
  Wq (ah C fu (bf 8 qy) (qm tb t cF (cF+1+e) cP d x6 x7 (some (.str b)) x9 ft) az) (bM Q) X:=
 uU (wm (ii (rO rfl T.t rfl (aJ rfl (aJ rfl (aJ (bG rfl rfl o6) rfl))) (hP hb T tY uV (match cG,hE with
  | .ok s u2,hE=>λcM e3 T3=>ii (aS rfl (mh (.ret (hE _ (e2.trans e3) T3))))
  | .err k,hE=>λcM x e3 k1 k2=>hE _ _ (e2.trans e3) k1 k2)))))
theorem YA {C:Calls} {L:Locals} {e e2:E} {p:Bool} {O ae:ag} (h1:ev C fu e L O= .ok (.bool p) ae) (h2:ev C fu e2 L ae= .ok (.bool false) ae):ev C fu (.and (.cons e (.cons e2 .nil))) L O= .ok (.bool false) ae:=(fJ h1 (fy h2)).trans (by rw [Bool.and_false])
theorem OZ {ns:List (List Nat)} (h:ns≠[]):decide (((ns.map V.str).length:Int)=0)=false:=decide_eq_false λq=>h (List.eq_nil_of_length_eq_zero (by rw [←List.length_map (f:=V.str)];exact Int.ofNat_inj.1 q))
theorem Jn (hn:1<n) (hf:aq+100<fu) (hP:rR (ay aw fu (n+1)) (d+1)) {ns as:List (List Nat)} {nl A:Nat} (gi:az[i]?=some (.inst .macro [(0,.ref nl),(1,.str b)])) (gN:az[nl]?=some (.list (ns.map .str))) (gA:az[A]?=some (.list (as.map .str))) (hA:∀s∈as,ba s)
    (T:TabAt lo az tb md (u+1) M) (e2:aU tb O az) (qn:ns≠[]) (k1:as.length≠ns.length→pz lo tb md M O (cF+1) cP Q X (.err gv))
    (k2:as.length=ns.length→∃w b' cG,g5 b∧ix ns as w b=some b'∧g5 b'∧mI cG∧Pc M (d+1) (u+1) b' cG∧pz lo tb md M O (cF+1) cP Q X (cG.toU e)):
  Wq (ah (ay aw fu (n+1)) fu (bf 3 MW) (qm tb t cF (cF+1+e) cP d (some (.str nm)) (some (.ref i)) (some (.str b)) x9 (some (.ref A))) az) (Nx (ay aw fu (n+1)) fu (bf 8 qy) (bM Q) X) X:=by
 have hx:=(aj.refl (O:=az)).push (d:= .list ([[]].map .str))
 have ln:=(fb (C:=ay aw fu (n+1)) (fu:=fu) (b:= .len) (es:= .cons (.attr (.loc 7) 0) .nil) (L:=qm tb t cF (cF+1+e) cP d (some (.str nm)) (some (.ref i)) (some (.str b)) x9 (some (.ref A))) (aJ (cH (f:=0) (O:=az++[.list ([[]].map .str)]) rfl (cK (hx.get gi) rfl)) rfl) (mC (hx.get gN)))
 refine cg (YA (aO rfl (Dm (aJ rfl rfl)) (Hv (hx.get gA) bH hA λs hs=>List.mem_singleton.1 hs▸pj)) ((aO ln rfl n8).trans (congrArg (λb=>Out.ok (V.bool b) _) (OZ qn)))) (eJ (p:=as.length≠ns.length) ((aO (fb (aJ rfl rfl) (mC (hx.get gA))) ln V3).trans (by rw [List.length_map,List.length_map,decide_not])) (λql=>j1 rfl rfl (k1 ql _ _ (e2.trans hx.toT) rfl rfl)) λql=>n1 ?_)
 obtain ⟨w,b',cG,q2,q3,q4,q5,q6,hE⟩:=k2 (Decidable.of_not_not ql)
 exact eT (eu (aS (aJ rfl (aJ (cH (f:=0) rfl (cK (hx.get gi) rfl)) rfl)) (Su hn q2.1 hf (hx.get gN) (hx.get gA) q3 (Nat.le_of_succ_le (iw q4.1)) λeH e4=>n1 (MB hP (T.ext (hx.trans e4)) q4 q5 q6 (e2.trans (hx.trans e4).toT) hE))))
theorem ZQ (hn:1<n) (hf:aq+100<fu) (hP:rR (ay aw fu (n+1)) (d+1)) {r:List Nat} {ns:List (List Nat)} {nl:Nat} {res:UR} (hu:Us M d u r res) (hb:¬dO r) (hg:a6 M (r.take (aC r))=some ⟨some ns,b⟩) (hd:¬(20≤d∨1000≤u)) (jF:g5 t) (hr:t.drop (cF+1)=r) (hH:cF+1+aC r≤t.length)
    (gi:az[i]?=some (.inst .macro [(0,.ref nl),(1,.str b)])) (gN:az[nl]?=some (.list (ns.map .str))) (T:TabAt lo az tb md (u+1) M) (e2:aU tb O az) (hE:pz lo tb md M O (cF+1) cP Q X res):
  Wq (ah (ay aw fu (n+1)) fu MW (qm tb t cF (cF+1+aC r) cP d (some (.str nm)) (some (.ref i)) (some (.str b)) x9 ft) az) (Nx (ay aw fu (n+1)) fu (bf 8 qy) (bM Q) X) X:=by
 have ht:=Nat.le_of_succ_le (iw jF.1)
 have hl:cF+1+(aC r+dI (r.drop (aC r)))≤t.length:=by
  rw [←Nat.add_assoc, ←dH _ hr]
  have:=Nat.add_le_add_right (mr (yO [32,9,13,10,12,11]) (t.drop (cF+1+aC r))) (cF+1+aC r)
  rw [mX hH,Nat.add_comm] at this
  exact this
 have ra:∀{f:Nat} {cG:Option (List (List Nat)×Nat)} {Q:V→ag→Prop},ej f (aC r+dI (r.drop (aC r))) (r.drop (aC r+dI (r.drop (aC r))))=some cG→(∀v af,aj az af→Bx az af v (cG.map λx=>(x.1,cF+1+x.2))→Q v af)→Wp (ay aw fu (n+1) 10 [.str t,.int ((cF+1+(aC r+dI (r.drop (aC r))):Nat):Int)] az) Q X:=λ{f cG Q} h k=>
  I1 (f:=f) hn jF.1 jF.2 hl hf (by rw [dH _ hr,Ig,h];rfl) k
 refine eT (eu (aS (aJ rfl (aJ (d8 (aJ rfl (aJ rfl rfl)) ((SQ (Nat.lt_succ_of_lt hn) ht hH hf).trans (by rw [dH _ hr,Nat.add_assoc (cF+1)]))) rfl)) (YZ hu hb hg hd (λf ha er=>ra ha λv af e3 hv=>?_) (λf as e ha qn ql er=>ra ha λv af e3 hv=>?_) λf as e w b' cG ha qn ql OE hs Yc tY uV er=>ra ha λv af e3 hv=>?_)))
 ·rw [show v=V.none from hv]
  exact cN rfl (j1 rfl rfl ((er▸hE) _ _ (e2.trans e3.toT) rfl rfl))
 ·refine Cz hv λA _ gA hA=>?_
  exact fH rfl (n1 (wO rfl rfl (Jn hn hf hP (e3.get gi) (e3.get gN) gA hA (T.ext e3) (e2.trans e3.toT) qn (λ_=>er▸hE) λq=>absurd q ql)))
 ·refine Cz hv λA _ gA hA=>?_
  exact fH rfl (n1 (wO rfl rfl (Jn hn hf hP (e3.get gi) (e3.get gN) gA hA (T.ext e3) (e2.trans e3.toT) qn (λq=>absurd ql q) λ_=>⟨w,b',cG,OE,hs,Yc,tY,uV,er▸hE⟩)))
end
theorem AQ (r:List Nat):aC r≤r.length:=by
 unfold aC
 split
 ·exact Nat.zero_le _
 ·exact mr fE r
theorem Sk {d u lo tb md cF:Nat} {M:bw} {t:List Nat} {cP:V} {O az:ag} {Q:V→ag→Prop} {X:aX→ag→Prop} (hn:1<n) (hf:aq+100<fu) (hP:rR (ay aw fu (n+1)) (d+1)) {r:List Nat} {mv:MV} {res:UR} (hu:Us M d u r res) (hb:¬dO r) (hg:a6 M (r.take (aC r))=some mv) (hd:¬(20≤d∨1000≤u)) (jF:g5 t) (hr:t.drop (cF+1)=r) (hH:cF+1+aC r≤t.length)
    (T:TabAt lo az tb md (u+1) M) (e2:aU tb O az) (hE:pz lo tb md M O (cF+1) cP Q X res):
  Wq (ah (ay aw fu (n+1)) fu (bf 5 qy) (qm tb t cF (cF+1+aC r) cP d (some (.str (r.take (aC r)))) none none none none) az) (bM Q) X:=by
 obtain ⟨es,lL,ff,rI⟩:=T
 have T:=TabAt.mk es lL ff rI
 obtain ⟨v,hv,hm⟩:=rI.some hg
 obtain ⟨i,nv,Ba,gi,cv⟩:=hm
 refine aV (v:= .ref i) (bj (cH rfl (cK lL rfl)) rfl (eS ff (Ba▸hv))) (aV (cH rfl (cK gi rfl)) ?_)
 match mv,cv,hg with
 |⟨none,b⟩,cv,hg=>exact WN hu hb hg hd λcG q1 q2 q3 er=>cg (aO (cH rfl (cK ((show nv=V.none from cv)▸gi) rfl)) rfl KQ) (MB hP T q1 q2 q3 e2 (er▸hE))
 |⟨some ns,b⟩,⟨nl,si,_,gN⟩,hg=>exact cN (aO (cH rfl (cK (si▸gi) rfl)) rfl Gl) (ZQ hn hf hP hu hb hg hd jF hr hH (si▸gi) gN T e2 hE)
theorem Mf {d:Nat} (hn:1<n) (hf:aq+100<fu) (hP:d<20→rR (ay aw fu (n+1)) (d+1)):m9 (ay aw fu (n+2)) d:=λ{M t r cF u lo tb md cP O res Q X} jF hT wX hr hu hE=>by
 have ht:=Nat.le_of_succ_le (iw jF.1)
 have hH:cF+1+aC r≤t.length:=by
  rw [←mX (Nat.succ_le_of_lt wX),hr,Nat.add_comm]
  exact Nat.add_le_add_right (AQ r) _
 obtain ⟨es,lL,ff,rI⟩:=hT
 have hT:=TabAt.mk es lL ff rI
 refine dT (L:=qm tb t cF (cF+1+aC r) cP d none none none none none) rfl rfl (by decide) rfl (aV (v:= .str (r.take (aC r))) (e7 rfl rfl rfl ((k8 (fL wX ht) (fL hH ht)).trans (by rw [Nat.add_sub_cancel_left,hr])))
    (Le (aO rfl (cH rfl (cK lL rfl)) (nz (vg (strs_map _) (by decide)))) (aO rfl rfl oR) (λh1=>j1 rfl rfl ((OD hu h1▸hE) _ _ .refl rfl rfl)) λh1=>n1 ?_))
 have c2:ev (ay aw fu (n+1)) fu (.cmp .iA (.loc 6) (.attr (.loc 0) 2)) (qm tb t cF (cF+1+aC r) cP d (some (.str (r.take (aC r)))) none none none none) O= .ok (.bool (!(a6 M (r.take (aC r))).isSome)) O:=aO rfl (cH rfl (cK lL rfl)) (Cq ((vH ff).trans (by rw [rI.isSome])))
 cases hg:a6 M (r.take (aC r)) with
 |none=>
  rw [hg] at c2
  exact cN c2 (j1 rfl rfl ((WK hu h1 hg▸hE) _ _ .refl rfl rfl))
 |some mv=>
  rw [hg] at c2
  have qX:TabAt lo (O.set tb (jk md (u+1))) tb md (u+1) M:=hT.tick
  have qp:aU tb O (O.set tb (jk md (u+1))):=aU.refl.set
  refine cg c2 (ja (bG (cH rfl (cK lL rfl)) rfl o6) rfl (iM lL) (Le (aO rfl rfl WL) (aO (cH rfl (cK qX.t rfl)) rfl PE) (λh2=>j1 rfl rfl ((OB hu h1 hg h2▸hE) _ _ qp rfl rfl)) λh2=>n1 ?_))
  exact Sk hn hf (hP (Nat.lt_of_not_le λq=>h2 (.inl q))) hu h1 hg h2 jF hr hH qX qp hE
end
structure PS where
 aL:bw
 bV:List (Nat×List Nat)
 out:List Nat
 bu:List (Nat×Bool×Bool×Bool)
 aM:Bool
 uses:Nat
structure Ix where
  (b p tb md nt pc cd:Nat)
noncomputable def gQ (x:Nat×List Nat):V:= .tup [.int (x.1:Int),.str x.2]
noncomputable def gc (c:Nat×Bool×Bool×Bool):Cell:= .list [.int (c.1:Int),.bool c.2.1,.bool c.2.2.1,.bool c.2.2.2]
noncomputable def dW (O:ag) (cs:List Nat) (l:List (Nat×Bool×Bool×Bool)):Prop:=cs.map (λi=>O[i]?)=l.map λc=>some (gc c)
structure gS (cd:Nat) (O:ag) (cs:List Nat) (l:List (Nat×Bool×Bool×Bool)):Prop where
 g:O[cd]?=some (.list (cs.reverse.map .ref))
 r:dW O cs l
 nd:cs.Nodup
 lo:∀i∈cs,cd<i
noncomputable def oA (I:Ix) (ln:Nat) (act:Bool):Cell:= .inst .eA [(5,.ref I.tb),(6,.ref I.nt),(7,.ref I.pc),(8,.int (ln:Int)),(9,.ref I.cd),(10,.bool act)]
section
variable {c:cj} {fs gs:List (Nat×V)} {l:List V} {es:List (List Nat×V)}
theorem mW:Cell.inst c fs≠ .list l:=nofun
theorem oW:Cell.list l≠ .inst c fs:=nofun
theorem yN:Cell.list l≠ .dict es:=nofun
theorem HV:Cell.dict es≠ .list l:=nofun
theorem BC:Cell.inst c fs≠ .dict es:=nofun
theorem Zg:Cell.dict es≠ .inst c fs:=nofun
theorem Gg:Cell.inst .eA fs≠ .inst .table gs:=nofun
theorem ab1:Cell.inst .table fs≠ .inst .eA gs:=nofun
theorem aci:Cell.inst .table fs≠ .inst .macro gs:=nofun
theorem Bb (f:Nat×Bool×Bool×Bool):Cell.inst c fs≠gc f:=mW
theorem Qf (f:Nat×Bool×Bool×Bool):Cell.dict es≠gc f:=HV
end
structure J2 (I:Ix):Prop where
 o1:I.nt<I.pc
 o2:I.pc<I.cd
 o:I.b≤I.p∧I.b≤I.tb∧I.b≤I.md∧I.b≤I.nt
structure tP (k:Nat) (s:PS):Prop where
 k1:s.bV.length≤k
 k2:s.aL.length≤k+5
 k3:s.bu.length≤k
inductive aY (I:Ix) (k ln:Nat) (O:ag) (s:PS):Prop where
 |mk (ps:List (List Nat)) (cs:List Nat) (o:J2 I) (p:O[I.p]?=some (oA I ln s.aM)) (T:TabAt I.cd O I.tb I.md s.uses s.aL) (n:O[I.nt]?=some (.list (s.bV.map gQ)))
      (c1:O[I.pc]?=some (.list (ps.map .str))) (c2:ps.flatten=s.out) (c3:ps.length≤k) (d:gS I.cd O cs s.bu) (kk:tP k s):aY I k ln O s
noncomputable def ck (b:Nat) (O af:ag):Prop:=O.length≤af.length∧∀i,i<b→i<O.length→af[i]?=O[i]?
section
variable {O af hS:ag} {b x i:Nat} {c d:Cell}
theorem ck.refl:ck b O O:=⟨adp _,λ_ _ _=>rfl⟩
theorem ck.trans (h:ck b O af) (h2:ck b af hS):ck b O hS:=⟨adj h.1 h2.1,λi hb hi=>(h2.2 i hb (adk hi h.1)).trans (h.2 i hb hi)⟩
theorem aj.low (h:aj O af):ck b O af:=⟨h.1,λi _ hi=>h.2 i hi⟩
theorem aU.low (h:aU x O af) (hb:b≤x):ck b O af:=⟨h.1,λi h1 hi=>h.2 i hi (Nat.ne_of_lt (adk h1 hb))⟩
theorem ck.get (h:ck b O af) (g:O[i]?=some c) (hb:i<b):af[i]?=some c:=(h.2 i hb (dD g)).trans g
end
section
variable {O af:ag} {lo tb md u x cd:Nat} {M:bw}
noncomputable def Hr (lo x:Nat):Cell→Prop
 | .inst .eA _=>True
 | .inst .macro _ | .inst .table _=>False
 | .dict _=>False
 | .list l=>lo<x→∀ss:List (List Nat),l≠ss.map .str
theorem TabAt.keep {c:Cell} (h:TabAt lo O tb md u M) (e:aU x O af) (g:O[x]?=some c) (f:Hr lo x c):TabAt lo af tb md u M:=match h with
 |⟨es,h0,h1,h2⟩=>
  have n1:∀{i:Nat} {d:Cell},O[i]?=some d→¬Hr lo x d→af[i]?=some d:=λgi nf=>e.get gi λq=>nf (Option.some.inj (g.symm.trans (q▸gi))▸f)
  ⟨es,n1 h0 id,n1 h1 id,h2.mono λv a r=>r.keep λi c g2 k=>k.elim (λ⟨fs,q⟩=>n1 g2 (by rw [q];exact id)) λ⟨hl,ss,q⟩=>e.get g2 λqi=>by
   rw [qi,g] at g2;cases g2
   rw [q] at f
   exact f (qi▸hl) ss rfl⟩
theorem dW.isList {cs:List Nat} {l:List (Nat×Bool×Bool×Bool)} (h:dW O cs l) {i:Nat} (hi:i∈cs):∃c,O[i]?=some (gc c):=match List.mem_map.1 (h▸List.mem_map_of_mem (f:=λi=>O[i]?) hi) with
 |⟨c,_,e⟩=>⟨c,e.symm⟩
theorem dW.keep {cs:List Nat} {l:List (Nat×Bool×Bool×Bool)} (h:dW O cs l) (f:∀i∈cs,∀c,O[i]?=some c→af[i]?=some c):dW af cs l:=(List.map_congr_left λi hi=>(h.isList hi).elim λc e=>(f i hi _ e).trans e.symm).trans h
theorem dW.length {cs:List Nat} {l:List (Nat×Bool×Bool×Bool)} (h:dW O cs l):cs.length=l.length:=(List.length_map _).symm.trans ((congrArg List.length h).trans (List.length_map _))
theorem dW.cons {i:Nat} {c:Nat×Bool×Bool×Bool} {cs:List Nat} {l:List (Nat×Bool×Bool×Bool)} (g:O[i]?=some (gc c)) (h:dW O cs l):dW O (i::cs) (c::l):=by
 show O[i]?::cs.map (λi=>O[i]?)=some (gc c)::l.map λc=>some (gc c)
 rw [g,show cs.map (λi=>O[i]?)=_ from h]
theorem dW.top {i:Nat} {c:Nat×Bool×Bool×Bool} {cs:List Nat} {cl:List (Nat×Bool×Bool×Bool)} (h:dW O (i::cs) (c::cl)):O[i]?=some (gc c)∧dW O cs cl:=⟨(List.cons.inj h).1,(List.cons.inj h).2⟩
theorem dW.some {P:Prop} {c:Nat×Bool×Bool×Bool} {cl:List (Nat×Bool×Bool×Bool)}:∀{cs:List Nat},dW O cs (c::cl)→(∀i cs',cs=i::cs'→P)→P
 |[],h,_=>nomatch h
 |i::cs,_,k=>k i cs rfl
theorem gS.keep {cs:List Nat} {l:List (Nat×Bool×Bool×Bool)} (h:gS cd O cs l) (e:aU x O af) (hx:x≠cd) (h2:x∉cs):gS cd af cs l:=
 ⟨e.get h.g (Ne.symm hx),h.r.keep λi hi c g=>e.get g λq=>h2 (q▸hi),h.nd,h.lo⟩
theorem gS.out {cs:List Nat} {l:List (Nat×Bool×Bool×Bool)} (h:gS cd O cs l) {c:Cell} (g:O[x]?=some c) (q:∀f,c≠gc f):x∉cs:=λm=>(h.r.isList m).elim λf g'=>q f (Option.some.inj (g.symm.trans g'))
end
section
variable {I:Ix} {k ln ln':Nat} {O af:ag} {s:PS}
theorem aY.p (h:aY I k ln O s):O[I.p]?=some (oA I ln s.aM):=match h with
 |⟨_,_,_,p,_,_,_,_,_,_,_⟩=>p
theorem aY.T (h:aY I k ln O s):TabAt I.cd O I.tb I.md s.uses s.aL:=match h with
 |⟨_,_,_,_,T,_,_,_,_,_,_⟩=>T
theorem aY.n (h:aY I k ln O s):O[I.nt]?=some (.list (s.bV.map gQ)):=match h with
 |⟨_,_,_,_,_,n,_,_,_,_,_⟩=>n
theorem aY.o (h:aY I k ln O s):J2 I:=match h with
 |⟨_,_,o,_,_,_,_,_,_,_,_⟩=>o
theorem aY.kk (h:aY I k ln O s):tP k s:=match h with
 |⟨_,_,_,_,_,_,_,_,_,_,kk⟩=>kk
theorem d9 {i j:Nat} {c d:Cell} (g:O[i]?=some c) (g2:O[j]?=some d) (q:c≠d):i≠j:=λe=>q (Option.some.inj (g.symm.trans (e▸g2)))
theorem aY.iA {i:Nat} {cs:List Nat} (h:gS I.cd O cs s.bu) (hi:i≤I.cd):i∉cs:=λq=>absurd (h.lo i q) (Nat.not_lt.2 hi)
theorem aY.ext (h:aY I k ln O s) (e:aj O af):aY I k ln af s:=match h with
 |⟨ps,cs,o,p,T,n,c1,c2,c3,d,kk⟩=>⟨ps,cs,o,e.get p,T.ext e,e.get n,e.get c1,c2,c3,⟨e.get d.g,d.r.keep λ_ _ _ g=>e.get g,d.nd,d.lo⟩,kk⟩
theorem tP.mono {k':Nat} (h:tP k s) (hk:k≤k'):tP k' s:=⟨adj h.k1 hk,adj h.k2 (Nat.add_le_add_right hk _),adj h.k3 hk⟩
theorem aY.mono {k':Nat} (h:aY I k ln O s) (hk:k≤k'):aY I k' ln O s:=match h with
 |⟨ps,cs,o,p,T,n,c1,c2,c3,d,kk⟩=>⟨ps,cs,o,p,T,n,c1,c2,adj c3 hk,d,kk.mono hk⟩
theorem aY.vr (h:aY I k ln O s) (act:Bool):aY I k ln' (O.set I.p (oA I ln' act)) {s with aM:=act}∧ck I.b O (O.set I.p (oA I ln' act)):=match h with
 |⟨ps,cs,o,p,T,n,c1,c2,c3,d,kk⟩=>
  have e:aU I.p O (O.set I.p (oA I ln' act)):=aU.refl.set
  ⟨⟨ps,cs,o,cW p,T.keep e p trivial,e.get n (d9 n p oW),e.get c1 (d9 c1 p oW),c2,c3,d.keep e (d9 p d.g mW) (d.out p Bb),⟨kk.k1,kk.k2,kk.k3⟩⟩,e.low o.o.1⟩
theorem aY.Pp (h:aY I k ln O s) {ps:List (List Nat)} {y:List Nat} (g:O[I.pc]?=some (.list (ps.map .str))) (c2:ps.flatten=s.out) (c3:ps.length≤k):
  aY I (k+1) ln (O.set I.pc (.list ((ps++[y]).map .str))) {s with out:=s.out++y}∧ck I.b O (O.set I.pc (.list ((ps++[y]).map .str))):=match h with
 |⟨_,cs,o,p,T,n,_,_,_,d,kk⟩=>
  have e:aU I.pc O (O.set I.pc (.list ((ps++[y]).map .str))):=aU.refl.set
  have k':=kk.mono (Nat.le_succ k)
  ⟨⟨ps++[y],cs,o,e.get p (d9 p g mW),T.keep e g λq=>absurd q (Nat.not_lt.2 (Nat.le_of_lt o.o2)),e.get n (Nat.ne_of_lt o.o1),cW g,c2▸nQ ..,oj c3 Nat.one_pos,d.keep e (Nat.ne_of_lt o.o2) (aY.iA d (Nat.le_of_lt o.o2)),⟨k'.k1,k'.k2,k'.k3⟩⟩,e.low (adj o.o.2.2.2 (Nat.le_of_lt o.o1))⟩
theorem aY.HU (h:aY I k ln O s) (y:Nat×List Nat):aY I (k+1) ln (O.set I.nt (.list ((s.bV++[y]).map gQ))) {s with bV:=s.bV++[y]}∧ck I.b O (O.set I.nt (.list ((s.bV++[y]).map gQ))):=match h with
 |⟨ps,cs,o,p,T,n,c1,c2,c3,d,kk⟩=>
  have e:aU I.nt O (O.set I.nt (.list ((s.bV++[y]).map gQ))):=aU.refl.set
  have k':=kk.mono (Nat.le_succ k)
  have hl:=Nat.lt_trans o.o1 o.o2
  ⟨⟨ps,cs,o,e.get p (d9 p n mW),T.keep e n λq=>absurd q (Nat.not_lt.2 (Nat.le_of_lt hl)),cW n,e.get c1 (Nat.ne_of_gt o.o1),c2,Nat.le_succ_of_le c3,d.keep e (Nat.ne_of_lt hl) (aY.iA d (Nat.le_of_lt hl)),⟨oj kk.k1 Nat.one_pos,k'.k2,k'.k3⟩⟩,e.low o.o.2.2.2⟩
theorem aY.uses {u:Nat} (h:aY I k ln O s) (e:aU I.tb O af) (t:TabAt I.cd af I.tb I.md u s.aL):aY I k ln af {s with uses:=u}∧ck I.b O af:=match h with
 |⟨ps,cs,o,p,T,n,c1,c2,c3,d,kk⟩=>⟨⟨ps,cs,o,e.get p (d9 p T.t Gg),t,e.get n (d9 n T.t oW),e.get c1 (d9 c1 T.t oW),c2,c3,d.keep e (d9 T.t d.g mW) (d.out T.t Bb),⟨kk.k1,kk.k2,kk.k3⟩⟩,e.low o.o.2.1⟩
theorem aY.Mo (h:aY I k ln O s) {es sD:List (List Nat×V)} {M:bw} (g:O[I.md]?=some (.dict es)) (r:bo (mw I.cd O) sD M) (hM:M.length≤k+5):
  aY I k ln (O.set I.md (.dict sD)) {s with aL:=M}∧ck I.b O (O.set I.md (.dict sD)):=match h with
 |⟨ps,cs,o,p,T,n,c1,c2,c3,d,kk⟩=>
  have e:aU I.md O (O.set I.md (.dict sD)):=aU.refl.set
  ⟨⟨ps,cs,o,e.get p (d9 p g BC),⟨_,e.get T.t (d9 T.t g BC),cW g,r.mono λv a r=>r.keep λi c g2 kk=>e.get g2 (kk.elim (λ⟨fs,q⟩=>d9 g2 g (q▸BC)) λ⟨_,ss,q⟩=>d9 g2 g (q▸yN))⟩,e.get n (d9 n g yN),e.get c1 (d9 c1 g yN),c2,c3,
   d.keep e (d9 g d.g HV) (d.out g Qf),⟨kk.k1,hM,kk.k3⟩⟩,e.low o.o.2.2.1⟩
theorem xT (cs:List Nat) (i:Nat):(i::cs).reverse.map V.ref=cs.reverse.map V.ref++[.ref i]:=by rw [List.reverse_cons,List.map_append];rfl
theorem aY.Gx (h:aY I k ln O s) {l:List V} {k':Nat} {cs cs':List Nat} {bu:List (Nat×Bool×Bool×Bool)} (hd:gS I.cd O cs s.bu) (hl:l=cs'.reverse.map .ref) (r:dW O cs' bu) (nd:cs'.Nodup) (lo:∀i∈cs',I.cd<i) (hk:k≤k') (h3:bu.length≤k'):
  aY I k' ln (O.set I.cd (.list l)) {s with bu:=bu}∧ck I.b O (O.set I.cd (.list l)):=match h with
 |⟨ps,_,o,p,T,n,c1,c2,c3,_,kk⟩=>
  have e:aU I.cd O (O.set I.cd (.list l)):=aU.refl.set
  have k':=kk.mono hk
  ⟨⟨ps,cs',o,e.get p (d9 p hd.g mW),T.keep e hd.g λq=>absurd q (Nat.lt_irrefl _),e.get n (Nat.ne_of_lt (Nat.lt_trans o.o1 o.o2)),e.get c1 (Nat.ne_of_lt o.o2),c2,adj c3 hk,⟨hl▸cW hd.g,r.keep λi hi c g=>e.get g (Nat.ne_of_gt (lo i hi)),nd,lo⟩,⟨k'.k1,k'.k2,h3⟩⟩,
   e.low (adj o.o.2.2.2 (Nat.le_of_lt (Nat.lt_trans o.o1 o.o2)))⟩
inductive Top (I:Ix) (k ln:Nat) (O af:ag) (s:PS) (cs:List Nat) (c:Nat×Bool×Bool×Bool) (cl:List (Nat×Bool×Bool×Bool)):Prop where
 |mk (h:aY I k ln af {s with bu:=c::cl}) (l:ck I.b O af) (d:gS I.cd af cs (c::cl)):Top I k ln O af s cs c cl
theorem aY.Gz (h:aY I k ln O s) {i:Nat} {c:Nat×Bool×Bool×Bool} (c':Nat×Bool×Bool×Bool) {cs:List Nat} {cl:List (Nat×Bool×Bool×Bool)} (he:s.bu=c::cl) (hd:gS I.cd O (i::cs) s.bu):Top I k ln O (O.set i (gc c')) s (i::cs) c' cl:=match h with
 |⟨ps,_,o,p,T,n,c1,c2,c3,_,kk⟩=>
  have e:aU i O (O.set i (gc c')):=aU.refl.set
  have hi:=hd.lo i List.mem_cons_self
  have hr:=(he▸hd.r:dW O (i::cs) (c::cl)).top
  have g:=hr.1
  have K8:gS I.cd (O.set i (gc c')) (i::cs) (c'::cl):=⟨e.get hd.g (Nat.ne_of_lt hi),.cons (cW g) (hr.2.keep λj hj _ g2=>e.get g2 λq=>(List.nodup_cons.1 hd.nd).1 (q▸hj)),hd.nd,hd.lo⟩
  ⟨⟨ps,i::cs,o,e.get p (d9 p g mW),T.keep e g (λ_ ss q=>by cases ss<;>cases q),e.get n (Nat.ne_of_lt (Nat.lt_trans (Nat.lt_trans o.o1 o.o2) hi)),e.get c1 (Nat.ne_of_lt (Nat.lt_trans o.o2 hi)),c2,c3,K8,⟨kk.k1,kk.k2,(congrArg List.length he▸kk.k3:(c::cl).length≤k)⟩⟩,
   e.low (adj o.o.2.2.2 (Nat.le_of_lt (Nat.lt_trans (Nat.lt_trans o.o1 o.o2) hi))),K8⟩
end
section
variable {O:ag} {n:Nat}
theorem Nw:∀m,iJ [10] m=List.replicate m 10
 |0=>rfl
 |m+1=>congrArg (10:: ·) (Nw m)
theorem u0 {m:Nat} (h:m≤aq):e8 .mul (.str [10]) (.int (m:Int))=some (.str (List.replicate m 10)):=
  (if_pos (c:=0≤(m:Int)∧[10].length*(m:Int).toNat≤aq∧(m:Int)<4294967296) ⟨Int.natCast_nonneg m,adj (Nat.le_of_eq (Nat.one_mul m)) h,J7 (Ay (Nat.le_add_right_of_le h))⟩).trans (congrArg (λl=>some (V.str l)) (Nw m))
theorem ng {a b:List Nat} (h:(a++b).length≤aq):e8 .add (.str a) (.str b)=some (.str (a++b)):=if_pos h
theorem YJ {a b:Bool}:co .eq O (.bool a) (.bool b)=some (.bool (a==b)):=rfl
theorem GY {xs:List V} {v:V} (h:O[n]?=some (.list xs)) (hv:xs.getLast?=some v):di O (.ref n) (.int (-1))=some v:=(gX (d:=Option.none) (f:=λvs=>if 0≤(-1:Int) then vs[(-1:Int).toNat]? else if (-1:Int)= -1 then vs.getLast? else Option.none) h).trans hv
theorem YD {xs:List V} {v:V} (h:O[n]?=some (.list xs)) (hv:xs.getLast?=some v):fz .pop O (.ref n) []= .ok v (O.set n (.list xs.dropLast)):=
  (gX (d:=Out.stuck) (f:=λxs=>t8 O n xs) h).trans (by unfold t8;rw [hv])
theorem ug {xs:List V} {v:V} {i:Nat} (h:O[n]?=some (.list xs)) (hi:i<xs.length):jI O (.ref n) (.int (i:Int)) v=some (O.set n (.list (xs.set i v))):=
  (gX (d:=Option.none) (f:=λvs=>if 0≤(i:Int)∧(i:Int).toNat<vs.length then some (O.set n (.list (vs.set (i:Int).toNat v))) else Option.none) h).trans (if_pos ⟨Int.natCast_nonneg i,hi⟩)
theorem tK {es:List (List Nat×V)} {x:List Nat} {v:V} (h:O[n]?=some (.dict es)) (hl:es.length<1000000):jI O (.ref n) (.str x) v=some (O.set n (.dict (dictPut es x v))):=
  (qJ (d:=Option.none) (f:=λes=>if es.length<1000000 then some (O.set n (.dict (dictPut es x v))) else Option.none) h).trans (if_pos hl)
end
noncomputable def PS.emit (s:PS) (x:List Nat):PS:={s with out:=s.out++if s.aM then x else List.replicate (x.count 10) 10}
theorem aY.pc {I:Ix} {k ln:Nat} {O:ag} {s:PS} {P:Prop} (h:aY I k ln O s) (kk:∀ps:List (List Nat),O[I.pc]?=some (.list (ps.map .str))→ps.flatten=s.out→ps.length≤k→P):P:=match h with
 |⟨ps,_,_,_,_,_,c1,c2,c3,_,_⟩=>kk ps c1 c2 c3
theorem aY.d {I:Ix} {k ln:Nat} {O:ag} {s:PS} {P:Prop} (h:aY I k ln O s) (kk:∀cs,gS I.cd O cs s.bu→P):P:=match h with
 |⟨_,cs,_,_,_,_,_,_,_,d,_⟩=>kk cs d
section
variable {fu n:Nat} {t:List Nat} {O:ag} {X:aX→ag→Prop} {I:Ix} {k a:Nat} {s:PS} {Q:V→ag→Prop}
theorem HF {C:Calls} {x y:List Nat} (ey:(if s.aM=true then x else List.replicate (x.count 10) 10)=y) (h:aY I k s.out.length O s) (hk:k<aq) (H:∀af,aY I (k+1) (s.emit x).out.length af (s.emit x)→ck I.b O af→Q .none af):
  Wq (ah C fu (bf 1 Kk) [some (.ref I.p),some (.str y)] O) (bM Q) X:=h.pc λps c1 c2 c3=>by
 rw [show s.emit x={s with out:=s.out++y} from congrArg (λy=>{s with out:=s.out++y}) ey] at H
 have p1:=h.Pp (y:=y) c1 c2 c3
 have p2:=p1.1.vr (ln':=s.out.length+y.length) s.aM
 exact dS (iG (cH rfl (cK h.p rfl)) c1 rfl ((hZ c1 (by rw [List.length_map];exact adl c3 hk)).trans (by rw [xO]))) (ja (bG (cH rfl (cK p1.1.p rfl)) (fb rfl qo) zv) rfl (iM p1.1.p) (bz (.next (H _ (List.length_append (as:=s.out)▸p2.1) (p1.2.trans p2.2)))))
theorem Dt {x:List Nat} (hn:1<n) (h:aY I k s.out.length O s) (hk:k<aq) (hx:x.length≤aq) (H:∀af,aY I (k+1) (s.emit x).out.length af (s.emit x)→ck I.b O af→Q .none af):
  Wp (ay aw fu (n+1) 22 [.ref I.p,.str x] O) Q X:=by
 refine dT (L:=[some (.ref I.p),some (.str x)]) rfl rfl (by decide) rfl (fG (rf (cH rfl (cK h.p rfl))) (λq=>?_) λq=>n1 ?_)
 ·exact aV (bG rfl (d8 (aJ rfl rfl) (yX hn)) (u0 (adj List.count_le_length hx))) (n1 (HF (B0 (Bool.not_eq_true' s.aM▸q)) h hk H))
 ·exact HF (Ci (Bool.not_eq_false' s.aM▸q)) h hk H
noncomputable def cC (r:List Nat):Nat:=Dv r
noncomputable def bB (r:List Nat):Nat:=aC (r.drop (cC r))
noncomputable def eP (r:List Nat):List Nat:=(r.drop (cC r)).take (bB r)
theorem within {e w:Nat} {r:List Nat} (he:e≤t.length) (hr:t.drop e=r) (h:w≤r.length):e+w≤t.length:=by
 rw [←mX he,hr,Nat.add_comm]
 exact Nat.add_le_add_right h e
theorem FZ {r:List Nat} {e:Nat} (he:e≤t.length) (hr:t.drop e=r):e+cC r≤t.length∧e+cC r+bB r≤t.length:=
 have h1:=within he hr (mr _ r)
 ⟨h1,within h1 (dH _ hr) (AQ _)⟩
theorem tc {e:Nat} {r:List Nat} {x:V} (hn:1<n) (hf:aq+100<fu) (ht:t.length≤aq) (he:e≤t.length) (hr:t.drop e=r)
    (H1:0<bB r→Q (.tup [.str (eP r),.int ((e+(cC r+bB r):Nat):Int)]) O) (H2:bB r=0→∀y:aX,y.k= .str g8→y.a= .int (a:Int)→X y O):
  Wp (ay aw fu (n+1) 24 [x,.str t,.int (a:Int),.int (e:Int)] O) Q X:=by
 have i1:=FZ he hr
 refine dT rfl rfl (by decide) rfl (aV (v:= .int ((e+cC r:Nat):Int)) (d8 (aJ rfl (aJ rfl rfl)) ((NM hn ht he hf).trans (by rw [hr];rfl))) (aV (v:= .int ((e+cC r+bB r:Nat):Int)) (d8 (aJ rfl (aJ rfl rfl)) ((xb hn ht i1.1 hf).trans (by rw [dH _ hr];rfl)))
    (eJ (aO rfl rfl j7) (λq=>j1 rfl rfl (H2 (Nat.add_left_cancel (k:=0) q) _ rfl rfl)) λq=>n1 (dj (mZ (aJ (e7 rfl rfl rfl (k8 (fL i1.1 ht) (fL i1.2 ht))) (aJ rfl rfl))) (.ret ?_)))))
 rw [Nat.add_sub_cancel_left,dH _ hr,Nat.add_assoc]
 exact H1 (Nat.pos_of_ne_zero λz=>q (by rw [z];rfl))
inductive DR where
 |ok (s:PS) (c:Nat)
 |err (k:List Nat)
noncomputable def gk:List Nat:=[105,102,100,101,102]
noncomputable def fV:List Nat:=[105,102,110,100,101,102]
noncomputable def oK:List Nat:=[101,108,115,105,102]
noncomputable def ig:List Nat:=[101,108,115,101]
noncomputable def jW:List Nat:=[101,110,100,105,102]
inductive Cn (s:PS) (a:Nat) (r nm:List Nat) (res:DR):Prop where
 |Cu (w h:Bool) (hn:nm=(if w then gk else fV)) (ho:0<bB r) (hh:h=((a6 s.aL (eP r)).isSome==w)) (e:res= .ok {s with bu:=(a,s.aM,h,false)::s.bu,aM:=s.aM&&h} (cC r+bB r)):Cn s a r nm res
 |none (hn:nm=oK∨nm=ig∨nm=jW) (hc:s.bu=[]) (e:res= .err lN):Cn s a r nm res
 |Bc (b:Nat) (x y z:Bool) (cl:List (Nat×Bool×Bool×Bool)) (hn:nm=jW) (hc:s.bu=(b,x,y,z)::cl) (e:res= .ok {s with bu:=cl,aM:=x} 0):Cn s a r nm res
 |seen (b:Nat) (x y:Bool) (cl:List (Nat×Bool×Bool×Bool)) (hn:nm=ig) (hc:s.bu=(b,x,y,true)::cl) (e:res= .err lN):Cn s a r nm res
 |eG (b:Nat) (x y:Bool) (cl:List (Nat×Bool×Bool×Bool)) (hn:nm=ig) (hc:s.bu=(b,x,y,false)::cl) (e:res= .ok {s with bu:=(b,x,true,true)::cl,aM:=x&& !y} 0):Cn s a r nm res
 |LJ (b:Nat) (x y h:Bool) (cl:List (Nat×Bool×Bool×Bool)) (hn:nm=oK) (hc:s.bu=(b,x,y,false)::cl) (ho:0<bB r) (hh:h=(a6 s.aL (eP r)).isSome) (e:res= .ok {s with bu:=(b,x,y||h,false)::cl,aM:=x&&(h&& !y)} (cC r+bB r)):Cn s a r nm res
noncomputable def ir (I:Ix) (k:Nat) (O:ag) (e a:Nat) (Q:V→ag→Prop) (X:aX→ag→Prop):DR→Prop
 | .ok s c=>∀af,aY I k s.out.length af s→ck I.b O af→Q (.int ((e+c:Nat):Int)) af
 | .err kk=>∀af y,ck I.b O af→y.k= .str kk→y.a= .int (a:Int)→X y af
theorem ir.of {I:Ix} {k:Nat} {O:ag} {e a:Nat} {Q:V→ag→Prop} {X:aX→ag→Prop} {r r':DR} (h:ir I k O e a Q X r) (q:r=r'):ir I k O e a Q X r':=q▸h
theorem zf {C:Calls} {L:Locals} {e:E} {w:List Nat} (h:aY I k s.out.length O s) (h0:L.get 0=some (.ref I.p)) (hw:ev C fu e L O= .ok (.str w) O):ev C fu (.cmp .isin e (.attr (.attr (.loc 0) 5) 2)) L O= .ok (.bool (a6 s.aL w).isSome) O:=match h.T with
 |⟨es,t,g,r⟩=>aO hw (cH (cH (dE h0) (cK h.p rfl)) (cK t rfl)) (nz ((vH g).trans (congrArg some r.isSome)))
noncomputable def jx (I:Ix) (nm t:List Nat) (a e:Nat) (x5 x6 x7:Option V):Locals:=[some (.ref I.p),some (.str nm),some (.str t),some (.int (a:Int)),some (.int (e:Int)),x5,x6,x7]
abbrev bC:Ss:=MQ
theorem EH {C:Calls} {nm:List Nat} {e i:Nat} {c:Nat×Bool×Bool×Bool} {hh:Bool} {cs:List Nat} {cl:List (Nat×Bool×Bool×Bool)} {x5:Option V} (p1:aY I k s.out.length O s) (hc:s.bu=c::cl) (hd:gS I.cd O (i::cs) s.bu)
    (H:∀af,aY I k s.out.length af {s with bu:=(c.1,c.2.1,c.2.2.1||hh,c.2.2.2)::cl,aM:=c.2.1&&(hh&& !c.2.2.1)}→ck I.b O af→Q (.int (e:Int)) af):Wq (ah C fu (bf 6 bC) (jx I nm t a e x5 (some (.bool hh)) (some (.ref i))) O) (bM Q) X:=by
 have g:=(hc▸hd.r:dW O (i::cs) (c::cl)).top.1
 have p2:=p1.vr (ln':=s.out.length) (c.2.1&&(hh&& !c.2.2.1))
 have ne:I.p≠i:=d9 p1.p g mW
 have g2:(O.set I.p (oA I s.out.length (c.2.1&&(hh&& !c.2.2.1))))[i]?=some (gc c):=fU g ne
 have DM:gS I.cd (O.set I.p (oA I s.out.length (c.2.1&&(hh&& !c.2.2.1)))) (i::cs) s.bu:=hd.keep aU.refl.set (d9 p1.p hd.g mW) (hd.out p1.p Bb)
 have p3:=p2.1.Gz (c.1,c.2.1,c.2.2.1||hh,c.2.2.2) hc DM
 exact ja (kj (fJ (bj rfl rfl (eD (i:=1) g rfl)) (fJ rfl (fy (rf (bj rfl rfl (eD (i:=2) g rfl))))))) rfl (iM p1.p)
    (oG (oh (jB (bj rfl rfl (eD (i:=2) g2 rfl)) (jV rfl))) rfl rfl (ug (i:=2) g2 (Nat.lt_succ_of_lt (Nat.lt_succ_self 2))) (dj rfl (.ret (match p3 with
  |⟨p3,l3,_⟩=>H _ p3 (p2.2.trans l3)))))
theorem wK {C:Calls} {nm:List Nat} {e:Nat} {c:Nat×Bool×Bool×Bool} {cl:List (Nat×Bool×Bool×Bool)} (h:aY I k s.out.length O s) (hc:s.bu=c::cl) (c0:ev C fu (.or (.cons (.cmp .eq (.loc 1) (.str gk)) (.cons (.cmp .eq (.loc 1) (.str fV)) .nil))) (jx I nm t a e none none none) O= .ok (.bool false) O)
    (H:∀i cs,gS I.cd O (i::cs) s.bu→O[i]?=some (gc c)→O[I.cd]?=some (.list (cs.reverse.map V.ref++[.ref i]))→Wq (ah C fu (bf 3 bC) (jx I nm t a e none none (some (.ref i))) O) (bM Q) X):Wq (ah C fu bC (jx I nm t a e none none none) O) (bM Q) X:=
 h.d λcs hd=>dW.some (hc▸hd.r:dW O cs (c::cl)) λi cs' ec=>by
  rw [ec] at hd
  have g:=(hc▸hd.r:dW O (i::cs') (c::cl)).top.1
  have hg:=hd.g
  have el:decide ((((i::cs').reverse.map V.ref).length:Int)=0)=false:=decide_eq_false λq=>by rw [xT,List.length_append] at q;exact absurd (Int.ofNat_inj.1 q) (Nat.succ_ne_zero _)
  have e0:=(aO (C:=C) (fu:=fu) (L:=jx I nm t a e none none none) (b:= .int 0) (op:= .eq) (fb (es:= .cons (.attr (.loc 0) 9) .nil) (b:= .len) (aJ (cH rfl (cK h.p (f:=9) rfl)) rfl) (mC hg)) rfl n8).trans (congrArg (λb=>Out.ok (V.bool b) O) el)
  rw [xT] at hg
  exact cg c0 (cg e0 (aV (bj (cH rfl (cK h.p rfl)) rfl (GY hg (List.getLast?_concat ..))) (H i cs' hd g hg)))
theorem NH {e:Nat} {r nm:List Nat} {w hh:Bool} (hn:1<n) (hf:aq+100<fu) (ht:t.length≤aq) (he:e≤t.length) (hr:t.drop e=r) (hk:k<aq) (h:aY I k s.out.length O s) (eY:nm=(if w then gk else fV)) (ho:0<bB r) (tR:hh=((a6 s.aL (eP r)).isSome==w))
    (H:∀af,aY I (k+1) s.out.length af {s with bu:=(a,s.aM,hh,false)::s.bu,aM:=s.aM&&hh}→ck I.b O af→Q (.int ((e+(cC r+bB r):Nat):Int)) af):
  Wq (ah (ay aw fu (n+1)) fu bC (jx I nm t a e none none none) O) (bM Q) X:=h.d λcs hd=>by
 have c0:ev (ay aw fu (n+1)) fu (.or (.cons (.cmp .eq (.loc 1) (.str gk)) (.cons (.cmp .eq (.loc 1) (.str fV)) .nil))) (jx I nm t a e none none none) O= .ok (.bool true) O:=by rw [eY];cases w<;>rfl
 have c2:∀x,ev (ay aw fu (n+1)) fu (.cmp .eq (.loc 1) (.str gk)) (jx I nm t a (e+(cC r+bB r)) x none none) O= .ok (.bool w) O:=λx=>by rw [eY];cases w<;>rfl
 have hx:=(aj.refl (O:=O)).push (d:=gc (a,s.aM,hh,false))
 have hp:=h.ext hx
 have hg:(O++[gc (a,s.aM,hh,false)])[I.cd]?=some (.list (cs.reverse.map .ref)):=hx.get hd.g
 have bO:gS I.cd (O++[gc (a,s.aM,hh,false)]) cs s.bu:=⟨hg,hd.r.keep λ_ _ _ g=>hx.get g,hd.nd,hd.lo⟩
 have p1:=hp.Gx (k':=k+1) (cs':=O.length::cs) (bu:=(a,s.aM,hh,false)::s.bu) (l:=cs.reverse.map .ref++[.ref O.length]) bO (xT _ _).symm (.cons bH bO.r)
    (List.nodup_cons.2 ⟨λq=>(hd.r.isList q).elim λc g=>absurd (dD g) (Nat.lt_irrefl _),hd.nd⟩) (λi hi=>(List.mem_cons.1 hi).elim (λq=>q▸dD hd.g) (hd.lo i)) (Nat.le_succ _) (Nat.succ_le_succ h.kk.k3)
 have p2:=p1.1.vr (ln':=s.out.length) (s.aM&&hh)
 refine cN c0 (oQ rfl h.p rfl rfl (tc hn hf ht he hr (λ_=>⟨rfl,bZ rfl ?_⟩) λq=>absurd ho (q▸Nat.lt_irrefl 0)))
 refine aV (v:= .bool hh) ((aO (zf h rfl rfl) (c2 _) YJ).trans (by rw [tR])) (dS (ip (cH rfl (cK h.p rfl)) hd.g rfl (aJ (Dm (aJ rfl (aJ (cH rfl (cK h.p rfl)) rfl))) rfl) (hZ hg ?_)) (ja (kj (fJ (cH rfl (cK p1.1.p rfl)) (fy rfl))) rfl (iM p1.1.p) (dj rfl (.ret (.ret (H _ p2.1 ((hx.low.trans p1.2).trans p2.2)))))))
 rw [List.length_map,List.length_reverse,hd.r.length]
 exact adl h.kk.k3 hk
theorem RJ {C:Calls} {nm:List Nat} {e:Nat} (h:aY I k s.out.length O s) (eY:nm=oK∨nm=ig∨nm=jW) (hc:s.bu=[]) (H:∀af y,ck I.b O af→y.k= .str lN→y.a= .int (a:Int)→X y af):Wq (ah C fu bC (jx I nm t a e none none none) O) (bM Q) X:=h.d λcs hd=>by
 have c0:ev C fu (.or (.cons (.cmp .eq (.loc 1) (.str gk)) (.cons (.cmp .eq (.loc 1) (.str fV)) .nil))) (jx I nm t a e none none none) O= .ok (.bool false) O:=by rcases eY with rfl |rfl |rfl<;>rfl
 have hl:cs=[]:=List.eq_nil_of_length_eq_zero (hd.r.length.trans (congrArg List.length hc))
 have g:O[I.cd]?=some (.list []):=hd.g.trans (by rw [hl];rfl)
 exact cg c0 (cN (aO (fb (aJ (cH rfl (cK h.p rfl)) rfl) (mC g)) rfl n8) (j1 rfl rfl (H _ _ .refl rfl rfl)))
theorem UG {C:Calls} {e:Nat} {c:Nat×Bool×Bool×Bool} {cl:List (Nat×Bool×Bool×Bool)} (h:aY I k s.out.length O s) (hc:s.bu=c::cl) (H:∀af,aY I (k+1) s.out.length af {s with bu:=cl,aM:=c.2.1}→ck I.b O af→Q (.int ((e+0:Nat):Int)) af):Wq (ah C fu bC (jx I jW t a e none none none) O) (bM Q) X:=
 wK h hc rfl λi cs hd g hg=>by
  have p1:=h.Gx (k':=k+1) (cs':=cs) (bu:=cl) (l:=cs.reverse.map .ref) hd rfl (hc▸hd.r:dW O (i::cs) (c::cl)).top.2 (List.nodup_cons.1 hd.nd).2 (λj hj=>hd.lo j (List.mem_cons_of_mem _ hj)) (Nat.le_succ _) (Nat.le_succ_of_le (Nat.le_of_succ_le (congrArg List.length hc▸h.kk.k3:(c::cl).length≤k)))
  have g1:(O.set I.cd (.list (cs.reverse.map .ref)))[i]?=some (gc c):=fU g (Nat.ne_of_lt (hd.lo i List.mem_cons_self))
  have p2:=p1.1.vr (ln':=s.out.length) c.2.1
  exact cN rfl (dS (ip (cH rfl (cK h.p rfl)) hg rfl rfl ((YD hg (List.getLast?_concat ..)).trans (by rw [List.dropLast_concat]))) (ja (bj rfl rfl (eD (i:=1) g1 rfl)) rfl (iM p1.1.p) (dj rfl (.ret (.ret (H _ p2.1 (p1.2.trans p2.2)))))))
theorem NR {C:Calls} {e:Nat} {b:Nat} {x y:Bool} {cl:List (Nat×Bool×Bool×Bool)} (h:aY I k s.out.length O s) (hc:s.bu=(b,x,y,false)::cl) (H:∀af,aY I (k+1) s.out.length af {s with bu:=(b,x,true,true)::cl,aM:=x&& !y}→ck I.b O af→Q (.int ((e+0:Nat):Int)) af):Wq (ah C fu bC (jx I ig t a e none none none) O) (bM Q) X:=
 wK h hc rfl λi cs hd g hg=>match h.Gz (b,x,y,true) hc hd with
  |⟨p1,l1,dp⟩=>cg rfl (cg (bj rfl rfl (eD (i:=3) g rfl)) (cN rfl (oG rfl rfl rfl (ug (i:=3) g (Nat.lt_succ_self 3)) (aV rfl (n1 (EH (hh:=true) (s:={s with bu:=(b,x,y,true)::cl}) p1 rfl dp λaf p3 l3=>by
   rw [Bool.or_true] at p3
   exact H _ (p3.mono (Nat.le_succ k)) (l1.trans l3)))))))
theorem UA {e:Nat} {r nm:List Nat} {res:DR} (hn:1<n) (hf:aq+100<fu) (ht:t.length≤aq) (he:e≤t.length) (hr:t.drop e=r) (hk:k<aq) (h:aY I k s.out.length O s) (hc:Cn s a r nm res) (hE:ir I (k+1) O e a Q X res):
  Wp (ay aw fu (n+2) 26 [.ref I.p,.str nm,.str t,.int (a:Int),.int (e:Int)] O) Q X:=dT (L:=jx I nm t a e none none none) rfl rfl (by decide) rfl (match hc with
 | .Cu w hh eY ho tR e=>NH hn hf ht he hr hk h eY ho tR (hE.of e)
 | .none eY hc e=>RJ h eY hc (hE.of e)
 | .Bc b x y z cl eY hc e=>eY▸UG h hc (hE.of e)
 | .seen b x y cl eY hc e=>eY▸wK h hc rfl λi cs hd g hg=>cg rfl (cN (bj rfl rfl (eD (i:=3) g rfl)) (j1 rfl rfl (hE.of e _ _ .refl rfl rfl)))
 | .eG b x y cl eY hc e=>eY▸NR h hc (hE.of e)
 | .LJ b x y hh cl eY hc ho tR ee=>eY▸wK h hc rfl λi cs hd g hg=>cg rfl (cg (bj rfl rfl (eD (i:=3) g rfl)) (fH rfl (oQ rfl h.p rfl rfl (tc hn hf ht he hr (λ_=>⟨rfl,bZ rfl (aV (v:= .bool hh) ((zf h rfl rfl).trans (by rw [tR])) (n1 (EH h hc hd λaf p3 l3=>hE.of ee _ (p3.mono (Nat.le_succ k)) l3)))⟩) λq=>absurd ho (q▸Nat.lt_irrefl 0))))))
end
section
variable {fu n:Nat} {O:ag}
theorem Ll {c d:Cell}:(O++[c]).set O.length d=O++[d]:=by rw [List.set_append_right _ _ (adp _),Nat.sub_self];rfl
theorem Ju {nv:V} {b:List Nat}:oU (ay aw fu (n+1)) .macro O [nv,.str b]= .ok (.ref O.length) (O++[.inst .macro [(0,nv),(1,.str b)]]):=by
 have e:ay aw fu (n+1) 15 [.ref O.length,nv,.str b] (O++[.inst .macro []])= .ok .none (O++[.inst .macro [(0,nv),(1,.str b)]]):=
  NA (dT rfl rfl (by decide) rfl (ja (eH:=O++[.inst .macro [(0,nv)]]) rfl rfl ((iM bH).trans (by rw [Ll];rfl)) (ja rfl rfl ((iM bH).trans (by rw [Ll];rfl)) (bz (.next ⟨rfl,rfl⟩)))))
 show pG (ay aw fu (n+1) 15 [.ref O.length,nv,.str b] (O++[.inst .macro []])) Out.stuck _=_
 rw [e];rfl
theorem gu {α:Type} {c:Prop} [Decidable c] {x y:α} {P:α→Prop} (h1:c→P x) (h2:¬c→P y):P (if c then x else y):=if h:c then by rw [if_pos h];exact h1 h else by rw [if_neg h];exact h2 h
theorem g7 {α:Type} {c:Prop} [d:Decidable c] {x y:Option α} {z:α} {R:Prop} (h1:c→x=some z→R) (h2:¬c→y=some z→R) (h:(if c then x else y)=some z):R:=match d,h with
 | .isTrue q,h=>h1 q h
 | .isFalse q,h=>h2 q h
theorem wk {α:Type} {c:Prop} [d:Decidable c] {x y:Option α} {z:α} {R:Prop} (h:(if c then x else y)=some z) (h1:c→x=some z→R) (h2:¬c→y=some z→R):R:=g7 h1 h2 h
theorem yJ {α:Type} (k:List Nat) (v:α):∀l:List (List Nat×α),(dX l k v).length≤l.length+1
 |[]=>adp _
 |(x,u)::r=>gu (P:=λl:List (List Nat×α)=>l.length≤r.length+1+1) (λ_=>Nat.le_succ _) λ_=>Nat.succ_le_succ (yJ k v r)
theorem Dj {α:Type} (k:List Nat):∀l:List (List Nat×α),(fg l k).length≤l.length
 |[]=>adp _
 |(x,u)::r=>gu (P:=λl:List (List Nat×α)=>l.length≤r.length+1) (λ_=>Nat.le_succ _) λ_=>Nat.succ_le_succ (Dj k r)
theorem aa9:∀{as:List (List Nat)},as≠[[]]→PySem.PyData.eqv (.list (as.map dK)) (.list ([[]].map dK))=false
 |[],_=>rfl
 |s::u::r,_=>(Bool.and_false (PySem.PyData.eqv (dK s) (dK [])))
 |[[]],h=>absurd rfl h
 |[c::s],_=>rfl
end
noncomputable def gE:List Nat:=[100,101,102,105,110,101]
structure wa (as:List (List Nat)) (i:Nat) (s:List Nat):Prop where
 g:as[i]?=some s
 l:s.length≤aq
 n0:s≠[]
 n1:aC s=s.length
noncomputable def qt (as:List (List Nat)) (i:Nat):Prop:=∃s,wa as i s∧s∉as.take i
noncomputable def NN (as:List (List Nat)) (i:Nat):Prop:=∃s,wa as i s∧s∈as.take i
noncomputable def dU (m:Nat):List Nat:=List.replicate m 10
inductive Df (s:PS) (r:List Nat) (d:DR):Prop where
 |op (o:bB r=0) (q:d= .err g8):Df s r d
 |res (o:0<bB r) (h:eP r∈gI) (q:d= .err g8):Df s r d
 |plain (f e:Nat) (acc:List Nat) (o:0<bB r) (h:eP r∉gI) (h4:(r.drop (cC r+bB r)).take 1≠[40]) (hb:cY f (cC r+bB r) [] (r.drop (cC r+bB r))=some (acc,e))
      (q:d= .ok ({s with aL:=dX s.aL (eP r) ⟨none,cZ acc⟩}.emit (dU ((r.take e).count 10))) e):Df s r d
 |args (f g e e2:Nat) (acc:List Nat) (as:List (List Nat)) (o:0<bB r) (h:eP r∉gI) (h4:(r.drop (cC r+bB r)).take 1=[40]) (ha:ej f (cC r+bB r) (r.drop (cC r+bB r))=some (some (as,e))) (hn:as≠[[]])
      (hp:∀i,i<as.length→qt as i) (he:e≤r.length) (hb:cY g e [] (r.drop e)=some (acc,e2)) (q:d= .ok ({s with aL:=dX s.aL (eP r) ⟨some as,cZ acc⟩}.emit (dU ((r.take e2).count 10))) e2):Df s r d
 |dup (f e i:Nat) (as:List (List Nat)) (o:0<bB r) (h:eP r∉gI) (h4:(r.drop (cC r+bB r)).take 1=[40]) (ha:ej f (cC r+bB r) (r.drop (cC r+bB r))=some (some (as,e))) (hn:as≠[[]])
      (hi:i<as.length) (hp:NN as i) (hj:∀j,j<i→qt as j) (q:d= .err gv):Df s r d
section
variable {fu n:Nat} {t:List Nat} {O:ag} {X:aX→ag→Prop} {I:Ix} {k a:Nat} {s:PS} {Q:V→ag→Prop}
theorem Ny {w:Nat} {s l:List Nat} (h:s.take w=l):l.length≤s.length:=h▸List.length_take_le' ..
theorem Mh:∀(f k:Nat) (acc r ow:List Nat) (e:Nat),cY f k acc r=some (ow,e)→k≤e∧e≤k+r.length
 |0,_,_,_,_,_,h=>nomatch h
 |_+1,k,acc,[],_,_,h=>(Prod.mk.inj (Option.some.inj h)).2▸⟨adp _,adp _⟩
 |f+1,k,acc,c::r,ow,e,h=>by
  have hl:∀{w:Nat} {a2},w≤(c::r).length→cY f (k+w) a2 ((c::r).drop w)=some (ow,e)→k≤e∧e≤k+(c::r).length:=λ{w a2} hw h=>by
   have:=Mh f _ _ _ _ _ h
   rw [List.length_drop,Nat.add_assoc,Nat.add_sub_of_le hw] at this
   exact ⟨adj (adm k w) this.1,this.2⟩
  refine g7 (λ_ h=>?_) (λ_ h=>?_) h
  ·have e1:=(Prod.mk.inj (Option.some.inj h)).2
   rw [←e1];exact ⟨adp _,adm _ _⟩
  ·exact wk h (λ_=>hl (EJ _)) λ_ h=>wk h (λq=>hl (w:=2) (Nat.succ_le_succ (Ny q.2))) λ_ h=>wk h (λq=>hl (w:=3) (Ny q)) λ_=>hl (KY _)
theorem k_lt (hk:k≤400000):k+2<aq:=by rw [dh];exact adl (Nat.add_le_add_right hk 2) (by decide)
theorem NB {b e2:Nat} {r:List Nat} (ie:a≤b) (hr:t.drop b=r) (hz:((t.drop a).take (b-a)).count 10=0):((t.drop a).take (b+e2-a)).count 10=(r.take e2).count 10:=by
 rw [Nat.sub_add_comm ie,List.take_add,List.count_append,hz,List.drop_drop,Nat.add_sub_of_le ie,hr,Nat.zero_add]
theorem k9 {m:Nat} (h:m≤200000):m≤8000000:=adj h (by decide)
theorem wl {s:List Nat}:(s.count 10)≤s.length:=List.count_le_length
noncomputable def qI (I:Ix) (t:List Nat) (a b:Nat) (w:List Nat) (x5 x6 x7 x8 x9 ft Ce:Option V):Locals:=[some (.ref I.p),some (.str t),some (.int (a:Int)),some (.int (b:Int)),some (.str w),x5,x6,x7,x8,x9,ft,Ce]
abbrev bD:Ss:=IB
theorem FC {b b1 e e2 g:Nat} {r acc:List Nat} {ns:Option (List (List Nat))} {nv:V} {w:List Nat} {y7 y8 y9 sC Wb:Option V} (hn:1<n) (hf:aq+100<fu) (cJ:t.length≤200000) (ha:ba t) (ie:a≤b) (iY:b≤t.length) (hr:t.drop b=r) (hz:((t.drop a).take (b-a)).count 10=0) (he:e≤r.length)
    (hk:k≤400000) (h:aY I k s.out.length O s) (hb:cY g e [] (r.drop e)=some (acc,e2)) (si:LR I.cd O nv ns)
    (H:∀af,aY I (k+2) ({s with aL:=dX s.aL w ⟨ns,cZ acc⟩}.emit (dU ((r.take e2).count 10))).out.length af ({s with aL:=dX s.aL w ⟨ns,cZ acc⟩}.emit (dU ((r.take e2).count 10)))→ck I.b O af→Q (.int ((b+e2:Nat):Int)) af):
  Wq (ah (ay aw fu (n+1)) fu (bf 5 bD) (qI I t a b1 w (some nv) (some (.int ((b+e:Nat):Int))) y7 y8 y9 sC Wb) O) (bM Q) X:=by
 have ht:=Nat.le_of_succ_le (iw (t:=t) (k9 cJ))
 have uG:=Mh _ _ _ _ _ _ hb
 rw [List.length_drop,Nat.add_sub_of_le he] at uG
 have zz:b+e2≤t.length:=within iY hr uG.2
 refine DL rfl (M6 (f:=g) (acc:=acc) (e:=b+e2) hn (k9 cJ) ha (within iY hr he) hf (by rw [dH e hr,La,hb];rfl) λae x1=>⟨rfl,bZ rfl ?_⟩)
 have h1:=h.ext x1
 obtain ⟨es,tt,ff,pq⟩:=h1.T
 have x2:=(aj.refl (O:=ae)).push (d:= .inst .macro [(0,nv),(1,.str (cZ acc))])
 have h2:=h1.ext x2
 have V6:es.length≤k+5:=pq.length▸h1.kk.k2
 have aaZ:bo (mw I.cd (ae++[Cell.inst .macro [(0,nv),(1,.str (cZ acc))]])) (dictPut es w (.ref ae.length)) (dX s.aL w ⟨ns,cZ acc⟩):=(pq.mono λv a r=>r.keep λi c g _=>x2.get g).put ⟨_,nv,rfl,bH,match ns,si with
  |none,si=>si
  |some l,⟨j,e1,e2,e3⟩=>⟨j,e1,e2,x2.get (x1.get e3)⟩⟩
 have p3:=(h2.mono (Nat.le_succ k)).Mo (M:=dX s.aL w ⟨ns,cZ acc⟩) (x2.get ff) aaZ (adj (yJ _ _ _) (Nat.add_right_comm k 5 1▸Nat.succ_le_succ h1.kk.k2))
 have cl:((t.drop a).take (b+e2-a)).count 10≤aq:=adj wl (adj (List.length_take_le' _ _) (adj lH ht))
 refine oG (UH rfl Ju) (cH (cH rfl (cK h2.p rfl)) (cK (x2.get tt) rfl)) rfl (tK (x2.get ff) (adl V6 (adl (Nat.add_le_add_right hk 5) (by decide)))) (uO rfl p3.1.p rfl (aJ (v:= .str (dU ((r.take e2).count 10))) ?_ rfl) (Dt (s:={s with aL:=dX s.aL w ⟨ns,cZ acc⟩}) hn p3.1 (Nat.lt_of_succ_lt (k_lt hk)) ?_ λeH p4 l4=>dj rfl (.ret (H _ p4 (((x1.low.trans x2.low).trans p3.2).trans l4)))))
 ·rw [←NB ie hr hz]
  exact bG rfl (d8 (aJ (e7 rfl rfl rfl (k8 (fL (adj ie iY) ht) (fL zz ht))) rfl) (yX (Nat.lt_succ_of_lt hn))) (u0 cl)
 ·rw [dU,List.length_replicate, ←NB ie hr hz];exact cl
theorem Ro {A i:Nat} {lo hi:V} {hl hh:Bool} {xs:List V} (h1:ky lo hl=some Option.none) (h2:ky hi hh=some (some i)) (h:O[A]?=some (.list xs)):iV O (.ref A) lo hi hl hh= .ok (.ref O.length) (O++[.list (xs.take i)]):=kP h1 (kP h2 (gX h))
theorem PB {A i:Nat} {as:List (List Nat)} (hi:i<16777300) (h:O[A]?=some (.list (as.map .str))):iV O (.ref A) .none (.int (i:Int)) false true= .ok (.ref O.length) (O++[.list ((as.take i).map .str)]):=(Ro rfl (uS hi) h).trans (by rw [List.map_take])
theorem PU {C:Calls} {L:Locals} {e e2:E} {es:Es} {v:V} {O ae az:ag} (h1:ev C fu e L O= .ok (.bool false) ae) (h2:eg C fu false (.cons e2 es) L ae= .ok v az):eg C fu false (.cons e (.cons e2 es)) L O= .ok v az:=de h1 h2
theorem XT {u:List Nat} (hn:1<n) (hu:u.length≤aq) (hf:aq+100<fu):ay aw fu n 1 [.str u,.int 0] O= .ok (.int ((aC u:Nat):Int)) O:=(xb (t:=u) (k:=0) (O:=O) hn hu (Nat.zero_le _) hf).trans (by rw [Nat.zero_add];rfl)
theorem qh {α:Type} {x:α} {R:Prop} (h:none=some x):R:=nomatch h
theorem DF:∀(f d:Nat) (as:List (List Nat)) (cf:List Nat) (k:Nat) (r:List Nat) (eV:List (List Nat)) (e:Nat),cU f d as cf k r=some (some (eV,e))→eV.length≤as.length+r.length
 |0,_,_,_,_,_,_,_,h=>nomatch h
 |_+1,_,_,_,_,[],_,_,h=>qh (Option.some.inj h)
 |f+1,d,as,cf,k,c::r,eV,e,h=>by
  have hl:∀{w d c2 k2},cU f d as c2 k2 ((c::r).drop w)=some (some (eV,e))→eV.length≤as.length+(c::r).length:=λh=>adj (DF f _ _ _ _ _ _ _ h) (Nat.add_le_add_left lH _)
  have h1:(as++[cZ cf]).length≤as.length+1:=Nat.le_of_eq List.length_append
  exact g7 (λ_=>hl)
      (λ_=>g7 (λ_=>g7 (λ_ h=>adj (Nat.le_of_eq (congrArg List.length (Prod.mk.inj (Option.some.inj (Option.some.inj h))).1.symm)) (adj h1 (Nat.add_le_add_left (Nat.succ_le_succ (Nat.zero_le _)) _))) λ_ h=>adj (DF f _ _ _ _ _ _ _ h) (adj (Nat.add_le_add_right h1 _) (Nat.le_of_eq (Nat.add_right_comm as.length 1 r.length))))
        λ_=>g7 (λ_=>hl) λ_=>g7 (λ_=>g7 (λ_ h=>qh (Option.some.inj h)) λ_=>hl) λ_=>hl) h
theorem NE {f k e:Nat} {as:List (List Nat)}:∀{r:List Nat},ej f k r=some (some (as,e))→as.length≤r.length
 |[],h=>qh (Option.some.inj h)
 |c::r,h=>g7 (λ_ h=>Nat.le_succ_of_le (adj (DF _ _ _ _ _ _ _ _ h) (Nat.le_of_eq (Nat.zero_add _)))) (λ_ h=>qh (Option.some.inj h)) h
inductive Ik (I:Ix) (t:List Nat) (a b:Nat) (nm:List Nat) (A e:Nat) (as:List (List Nat)) (O:ag):Nat→Locals→ag→Prop where
 |mk {k:Nat} {x8 x9:Option V} {s:ag} (es:aj O s) (hp:∀j,j<k→qt as j):Ik I t a b nm A e as O k (qI I t a b nm (some (.ref A)) (some (.int (e:Int))) (some (.tup [.ref A,.int (e:Int)])) x8 x9 none none) s
theorem GF {b e f:Nat} {as:List (List Nat)} {nm:List Nat} {R:Flow→Locals→ag→Prop} {x5 x6 x7 x8 x9:Option V} (hn:1<n) (hf:aq+100<fu) (cJ:t.length≤200000) (ha:ba t) (iY:b≤t.length)
    (hp:ej f b (t.drop b)=some (some (as,e))) (cz:as≠[[]])
    (Pd:∀i,i<as.length→(∀j,j<i→qt as j)→∃u,wa as i u∧(u∈as.take i→∀af y,aj O af→y.k= .str gv→y.a= .int (a:Int)→X y af))
    (H:∀(A:Nat) (af:ag) (x7 x8 x9:Option V),aj O af→O.length≤A→af[A]?=some (.list (as.map .str))→(∀i,i<as.length→qt as i)→R .next (qI I t a b nm (some (.ref A)) (some (.int (e:Int))) x7 x8 x9 none none) af):
  Wq (ah (ay aw fu (n+1)) fu (fC (bf 4 bD)) (qI I t a b nm x5 x6 x7 x8 x9 none none) O) R X:=by
 have D5:as.length≤200000:=adj (NE hp) (adj lH cJ)
 refine nV rfl (I1 hn (k9 cJ) ha iY hf hp λv ae e1 hv=>Cz hv λA pX tT Az=>?_)
 have e2:=(aj.refl (O:=ae)).push (d:= .list ([[]].map .str))
 refine fH rfl (n1 (wO rfl rfl (cg (aO rfl (Dm (aJ rfl rfl)) ((Hv (e2.get tT) bH Az λs hs=>List.mem_singleton.1 hs▸pj).trans (by rw [aa9 cz]))) ?_)))
 have ve:=e2.get tT
 have Mj:=e1.trans e2
 refine xj as.length (Ik I t a b nm A e as (ae++[.list ([[]].map .str)])) (adl D5 (adl (dh▸by decide) hf)) (Int.ofNat_lt.2 (adl D5 (by decide))) (aS (fb (aJ rfl rfl) (mC ve)) ⟨by rw [List.length_map],.mk .refl λj hj=>absurd hj (Nat.not_lt_zero _)⟩) (λi L s K hi hK h=>?_) λL s h=>?_
 ·cases h with
  |mk es iz=>
   have ud:=es.get ve
   obtain ⟨u,pn,hx⟩:=Pd i hi iz
   have gi:∀{s':ag},s'[A]?=some (.list (as.map .str))→di s' (.ref A) (.int (i:Int))=some (.str u):=λg=>eD g (by rw [List.getElem?_map,pn.g];rfl)
   have Hf:=es.push (d:= .list ((as.take i).map .str))
   refine aV (v:= .bool true) (kj (fJ (p:=true) (q:=true) (aO (bj rfl rfl (gi ud)) rfl (oB.trans (by rw [decide_eq_false pn.n0];rfl))) (fy (aO (d8 (aJ (bj rfl rfl (gi ud)) rfl) (XT (Nat.lt_succ_of_lt hn) pn.l hf)) (fb (aJ (bj rfl rfl (gi ud)) rfl) qo) (j7.trans (by rw [pn.n1,decide_eq_true rfl])))))) ?_
   refine eJ (oh (PU rfl (jV (aO (bj rfl rfl (gi ud)) (e7 rfl rfl rfl (PB (Ay (adj (Nat.le_of_lt hi) (adj D5 (dh▸by decide)))) ud)) (nz (LD bH)))))) (λq=>j1 rfl rfl (hx q _ _ (Mj.trans Hf) rfl rfl)) λq=>iZ (hK _ _ (.mk Hf λj hj=>(Nat.lt_succ_iff_lt_or_eq.1 hj).elim (iz j) λe=>e▸⟨u,pn,q⟩))
 ·cases h with
  |mk es iz=>exact bz (H A s _ _ _ (Mj.trans es) pX (es.get ve) iz)
theorem TV {r:List Nat} {d:DR} (h:Df s r d) (o:bB r=0):d= .err g8:=match h with
 | .op _ q=>q
 | .res _ _ q=>q
 | .plain _ _ _ o' _ _ _ _ | .args _ _ _ _ _ _ o' _ _ _ _ _ _ _ _ | .dup _ _ _ _ o' _ _ _ _ _ _ _ _=>absurd (o▸o') (Nat.lt_irrefl 0)
theorem abk {r:List Nat} {d:DR} (h:Df s r d) (o:0<bB r) (q:eP r∈gI):d= .err g8:=match h with
 | .op _ q=>q
 | .res _ _ q=>q
 | .plain _ _ _ _ o' _ _ _ | .args _ _ _ _ _ _ _ o' _ _ _ _ _ _ _ | .dup _ _ _ _ _ o' _ _ _ _ _ _ _=>absurd q o'
theorem ZS {b:Nat} {r:List Nat} {res:DR} (hn:1<n) (hf:aq+100<fu) (cJ:t.length≤200000) (ha:ba t) (ie:a≤b) (iY:b≤t.length) (hr:t.drop b=r) (hz:((t.drop a).take (b-a)).count 10=0)
    (hk:k≤400000) (h:aY I k s.out.length O s) (hc:Df s r res) (ho:0<bB r) (hq:eP r∉gI) (hE:ir I (k+2) O b a Q X res) (i3:b+(cC r+bB r)≤t.length):
  Wq (ah (ay aw fu (n+1)) fu (bf 4 bD) (qI I t a (b+(cC r+bB r)) (eP r) (some .none) (some (.int ((b+(cC r+bB r):Nat):Int))) none none none none none) O) (bM Q) X:=by
 have ht:=Nat.le_of_succ_le (iw (t:=t) (k9 cJ))
 have kx:t.drop (b+(cC r+bB r))=r.drop (cC r+bB r):=dH _ hr
 have c2:ev (ay aw fu (n+1)) fu (.cmp .eq (.slice (.loc 1) (.loc 3) (.bin .add (.loc 3) (.int 1)) true true) (.str [40])) (qI I t a (b+(cC r+bB r)) (eP r) (some .none) (some (.int ((b+(cC r+bB r):Nat):Int))) none none none none none) O= .ok (.bool (decide ((r.drop (cC r+bB r)).take 1=[40]))) O:=by
  rw [←kx]
  exact aO (e7 rfl rfl rfl (pa (e:=1) (jR i3 ht (by decide)))) rfl oR
 have hl:cC r+bB r≤r.length:=by
  rw [←mX iY,hr,Nat.add_comm] at i3
  exact Nat.le_of_add_le_add_right i3
 have gB:∀{f as e},ej f (cC r+bB r) (r.drop (cC r+bB r))=some (some (as,e))→ej f (b+(cC r+bB r)) (t.drop (b+(cC r+bB r)))=some (some (as,b+e)):=λhp=>by rw [kx,Ig,hp];rfl
 match hc with
 | .op o _=>exact absurd (o▸ho) (Nat.lt_irrefl 0)
 | .res _ o _=>exact absurd o hq
 | .plain _ _ _ _ _ o hb q=>exact cg (c2.trans (by rw [decide_eq_false o])) (FC (ns:=none) hn hf cJ ha ie iY hr hz hl hk h hb rfl (hE.of q))
 | .args _ _ _ _ _ as _ _ o hp cz UY pB hb q=>exact cN (c2.trans (by rw [decide_eq_true o])) (GF hn hf cJ ha i3 (gB hp) cz (λi hi _=>(UY i hi).elim λu h=>⟨u,h.1,λq=>absurd q h.2⟩) λA af x7 x8 x9 x1 pX tT _=> .next (FC (ns:=some as) hn hf cJ ha ie iY hr hz pB hk (h.ext x1) hb ⟨A,rfl,h.d λcs hd=>adk (dD hd.g) pX,tT⟩ λaz p' l'=>hE.of q az p' (x1.low.trans l')))
 | .dup _ _ i as _ _ o hp cz hi rn ib q=>
  have FK:¬qt as i:=λ⟨u,h1,h5⟩=>rn.elim λu' g=>h5 (Option.some.inj (g.1.g.symm.trans h1.g)▸g.2)
  exact cN (c2.trans (by rw [decide_eq_true o])) (GF hn hf cJ ha i3 (gB hp) cz (λj hj iz=>(Nat.lt_trichotomy j i).elim (λq1=>(ib j q1).elim λu h=>⟨u,h.1,λq=>absurd q h.2⟩) λq1=>q1.elim (λq2=>rn.elim λu g=>⟨u,q2▸g.1,λ_ af y x1 y1 y2=>hE.of q _ _ x1.low y1 y2⟩) λq3=>absurd (iz i q3) FK) λA af x7 x8 x9 x1 pX tT ju=>absurd (ju i hi) FK)
theorem RO {b:Nat} {r:List Nat} {res:DR} (hn:1<n) (hf:aq+100<fu) (cJ:t.length≤200000) (ha:ba t) (ie:a≤b) (iY:b≤t.length) (hr:t.drop b=r) (hz:((t.drop a).take (b-a)).count 10=0)
    (hk:k≤400000) (h:aY I k s.out.length O s) (hc:Df s r res) (hE:ir I (k+2) O b a Q X res):Wp (ay aw fu (n+2) 25 [.ref I.p,.str t,.int (a:Int),.int (b:Int)] O) Q X:=by
 have ht:=Nat.le_of_succ_le (iw (t:=t) (k9 cJ))
 refine dT rfl rfl (by decide) rfl (oQ rfl h.p rfl rfl (tc hn hf ht iY hr (λho=>⟨rfl,bZ rfl ?_⟩) λho y y1 y2=>hE.of (TV hc ho) _ _ .refl y1 y2))
 exact eJ (aO rfl (cH (cH rfl (cK h.p rfl)) (cK h.T.t rfl)) (nz (vg (strs_map _) (by decide)))) (λq=>j1 rfl rfl (hE.of (abk hc ho q) _ _ .refl rfl rfl)) λq=>n1 (aV rfl (aV rfl (ZS hn hf cJ ha ie iY hr hz hk h hc ho q hE (Nat.add_assoc b _ _▸(FZ iY hr).2))))
end
noncomputable def ada (s:String):List Nat:=s.toList.map Char.toNat
noncomputable def rh:List Nat:=[117,110,100,101,102]
noncomputable def tN:List Nat:=[100,101,102,97,117,108,116,95,110,101,116,116,121,112,101]
noncomputable def sk:List Nat:=[116,105,109,101,115,99,97,108,101]
noncomputable def tH:List Nat:=[114,101,115,101,116,97,108,108]
noncomputable def tV:List Nat:=[99,101,108,108,100,101,102,105,110,101]
noncomputable def X7:List Nat:=[101,110,100,99,101,108,108,100,101,102,105,110,101]
noncomputable def yo:List Nat:=[119,105,114,101]
noncomputable def dM:List (List Nat):=[gk,fV,oK,ig,jW]
noncomputable def jh:List (List Nat):=[gE,rh,tN,sk,tH,tV,X7]
noncomputable def DA:List Nat→Bool
 |c::r=> !decide (c=10)&&decide (cp (c::r)=0)
 |[]=>false
noncomputable def DR.sh (j:Nat):DR→DR
 | .ok s c=> .ok s (j+c)
 | .err k=> .err k
inductive Dr (s:PS) (a:Nat) (r:List Nat) (d:DR):Prop where
 |cond (nm:List Nat) (res:DR) (h:r.take (aC r)=nm) (hm:nm∈dM) (hc:Cn s a (r.drop (aC r)) nm res) (q:d=res.sh (aC r)):Dr s a r d
 |off (hm:r.take (aC r)∉dM) (ha:s.aM=false) (q:d= .ok s (aC r)):Dr s a r d
 |sJ (res:DR) (ha:s.aM=true) (h:r.take (aC r)=gE) (hc:Df s (r.drop (aC r)) res) (q:d=res.sh (aC r)):Dr s a r d
 |undef (r2:List Nat) (ha:s.aM=true) (h:r.take (aC r)=rh) (hr:r.drop (aC r)=r2) (ho:0<bB r2) (q:d= .ok {s with aL:=fg s.aL (eP r2)} (aC r+(cC r2+bB r2))):Dr s a r d
 |G2 (r2:List Nat) (ha:s.aM=true) (h:r.take (aC r)=tN) (hr:r.drop (aC r)=r2) (ho:0<bB r2) (q:d= .ok {s with bV:=s.bV++[(s.out.length,eP r2)]} (aC r+(cC r2+bB r2))):Dr s a r d
 |time (r2:List Nat) (ha:s.aM=true) (h:r.take (aC r)=sk) (hr:r.drop (aC r)=r2) (q:d= .ok s (aC r+du DA r2)):Dr s a r d
 |reset (ha:s.aM=true) (h:r.take (aC r)=tH) (q:d= .ok {s with bV:=s.bV++[(s.out.length,yo)]} (aC r)):Dr s a r d
 |cell (ha:s.aM=true) (h:r.take (aC r)=tV) (q:d= .ok s (aC r)):Dr s a r d
 |use (x:List Nat) (c u:Nat) (ha:s.aM=true) (ue:r.take (aC r)∉dM) (oH:r.take (aC r)∉jh) (hu:Us s.aL 0 s.uses r (.ok x c u)) (hc:c≤r.length) (hl:(x++dU ((r.take c).count 10)).length≤aq) (q:d= .ok ({s with uses:=u}.emit (x++dU ((r.take c).count 10))) c):Dr s a r d
 |qU (k:List Nat) (ha:s.aM=true) (ue:r.take (aC r)∉dM) (oH:r.take (aC r)∉jh) (hu:Us s.aL 0 s.uses r (.err k)) (q:d= .err k):Dr s a r d
section
variable {fu n:Nat} {t:List Nat} {O:ag} {X:aX→ag→Prop} {I:Ix} {k a:Nat} {s:PS} {Q:V→ag→Prop}
theorem ir.sh {k j e:Nat}:∀{res:DR},ir I k O e a Q X (res.sh j)→ir I k O (e+j) a Q X res
 | .ok s c,h=>λaf p l=>Nat.add_assoc e j c▸h af p l
 | .err kk,h=>h
theorem ir.less {e:Nat}:∀{res:DR},ir I (k+2) O e a Q X res→ir I (k+1) O e a Q X res
 | .ok s c,h=>λaf p l=>h af (p.mono (Nat.le_succ _)) l
 | .err kk,h=>h
theorem za {α:Type} {k:List Nat}:∀{l:List (List Nat×α)},a6 l k=none→fg l k=l
 |[],_=>rfl
 |(x,u)::r,h=>if q:x=k then qh (h.symm.trans (if_pos q)) else (if_neg q).trans (congrArg ((x,u):: ·) (za ((if_neg q).symm.trans h)))
theorem Rp {es:List (List Nat×V)} {x:List Nat} {n:Nat} (h:O[n]?=some (.dict es)) (q:(dictGet es x).isSome=true):rG O (.ref n) (.str x)=some (O.set n (.dict (dictDel es x))):=
  (qJ (d:=Option.none) (f:=λes=>if (dictGet es x).isSome=true then some (O.set n (.dict (dictDel es x))) else Option.none) h).trans (if_pos q)
theorem JV {C:Calls} {L:Locals} {e:E} {w:List Nat} (h:aY I k s.out.length O s) (hk:k<aq) (h0:L.get 0=some (.ref I.p)) (hw:ev C fu e L O= .ok (.str w) O):
  ev C fu (.bt .append (.attr (.loc 0) 6) (.cons (.tup (.cons (.attr (.loc 0) 8) (.cons e .nil))) .nil)) L O= .ok .none (O.set I.nt (.list ((s.bV++[(s.out.length,w)]).map gQ))):=
 ip (cH (dE h0) (cK (f:=6) h.p rfl)) h.n rfl (aJ (mZ (aJ (cH (dE h0) (cK (f:=8) h.p rfl)) (aJ hw rfl))) rfl) ((hZ h.n (by rw [List.length_map];exact adl h.kk.k1 hk)).trans (by rw [List.map_append];rfl))
noncomputable def gO (I:Ix) (t:List Nat) (a e:Nat) (nm:List Nat) (x5 x6 x7 x8:Option V):Locals:=[some (.ref I.p),some (.str t),some (.int (a:Int)),some (.int (e:Int)),some (.str nm),x5,x6,x7,x8]
abbrev bR:Ss:=H6
theorem Ut {C:Calls} {nm l:List Nat} {e:Nat} {x5 x6 x7 x8:Option V} (h:nm∉jh) (hl:l∈jh):ev C fu (.cmp .eq (.loc 4) (.str l)) (gO I t a e nm x5 x6 x7 x8) O= .ok (.bool false) O:=
  (aO rfl rfl oR).trans (congrArg (λb=>Out.ok (V.bool b) O) (decide_eq_false λq=>h (q▸hl)))
section
variable {r:List Nat} {C:Calls} {e:Nat} {nm:List Nat}
theorem mV (hm:nm∉dM) (k1:Wq (ah C fu (bf 3 bR) (gO I t a e nm none none none none) O) (bM Q) X):Wq (ah C fu (bf 2 bR) (gO I t a e nm none none none none) O) (bM Q) X:=
 cg ((aO rfl rfl (nz (vg (l:=dM) rfl (by decide)))).trans (congrArg (λb=>Out.ok (V.bool b) O) (decide_eq_false hm))) k1
theorem nX (h:aY I k s.out.length O s) (ha:s.aM=true) (k1:Wq (ah C fu (bf 4 bR) (gO I t a e nm none none none none) O) (bM Q) X):Wq (ah C fu (bf 3 bR) (gO I t a e nm none none none none) O) (bM Q) X:=
 cg ((rf (cH rfl (cK h.p rfl))).trans (by rw [ha];rfl)) k1
theorem Si {res:DR} (hn:1<n) (hf:aq+100<fu) (ht:t.length≤aq) (he:e≤t.length) (hr:t.drop e=r) (hk:k<aq) (h:aY I k s.out.length O s) (hm:nm∈dM) (hc:Cn s a r nm res) (hE:ir I (k+1) O e a Q X res):
  Wq (ah (ay aw fu (n+2)) fu (bf 2 bR) (gO I t a e nm none none none none) O) (bM Q) X:=
 cN ((aO rfl rfl (nz (vg (l:=dM) rfl (by decide)))).trans (congrArg (λb=>Out.ok (V.bool b) O) (decide_eq_true hm))) (Jg rfl h.p rfl rfl (df (UA hn hf ht he hr hk h hc hE) λ_ _ q=> .ret (.ret q)))
theorem Zu (Rb:a+1≤e) (h:aY I k s.out.length O s) (ha:s.aM=false) (H:∀af,aY I k s.out.length af s→ck I.b O af→Q (.int (e:Int)) af):Wq (ah C fu (bf 3 bR) (gO I t a e nm none none none none) O) (bM Q) X:=
 cN ((rf (cH rfl (cK h.p rfl))).trans (by rw [ha];rfl)) (dj ((fb (aJ rfl (aJ rfl rfl)) Jl).trans (by rw [Nat.max_eq_left Rb])) (.ret (.ret (H _ h .refl))))
theorem QS (hn:1<n) (hf:aq+100<fu) (ht:t.length≤aq) (he:e≤t.length) (hr:t.drop e=r) (h:aY I k s.out.length O s) (ho:0<bB r) (H:∀af,aY I k s.out.length af {s with aL:=fg s.aL (eP r)}→ck I.b O af→Q (.int ((e+(cC r+bB r):Nat):Int)) af):
  Wq (ah (ay aw fu (n+1)) fu (bf 4 bR) (gO I t a e rh none none none none) O) (bM Q) X:=match h.T with
 |⟨es,tt,ff,pq⟩=>by
  have p1:=h.Mo (M:=fg s.aL (eP r)) ff pq.del (adj (Dj _ _) h.kk.k2)
  refine cg rfl (cN rfl (oQ rfl h.p rfl rfl (tc hn hf ht he hr (λ_=>⟨rfl,bZ rfl (fG (zf h rfl rfl) (λq=>?_) λq=>?_)⟩) λq=>absurd ho (q▸Nat.lt_irrefl 0))))
  ·exact Tb (cH (cH rfl (cK h.p rfl)) (cK tt rfl)) rfl (Rp ff (pq.isSome.trans q)) (n1 (dj rfl (.ret (.ret (H _ p1.1 p1.2)))))
  ·rw [za (Option.not_isSome_iff_eq_none.1 (by rw [q];decide))] at H
   exact n1 (dj rfl (.ret (.ret (H _ h .refl))))
theorem Wf (hn:1<n) (hf:aq+100<fu) (ht:t.length≤aq) (he:e≤t.length) (hr:t.drop e=r) (hk:k<aq) (h:aY I k s.out.length O s) (ho:0<bB r) (H:∀af,aY I (k+1) s.out.length af {s with bV:=s.bV++[(s.out.length,eP r)]}→ck I.b O af→Q (.int ((e+(cC r+bB r):Nat):Int)) af):
  Wq (ah (ay aw fu (n+1)) fu (bf 4 bR) (gO I t a e tN none none none none) O) (bM Q) X:=
 have p1:=h.HU (s.out.length,eP r)
 cg rfl (cg rfl (cN rfl (oQ rfl h.p rfl rfl (tc hn hf ht he hr (λ_=>⟨rfl,bZ rfl (dS (JV h hk rfl rfl) (dj rfl (.ret (.ret (H _ p1.1 p1.2)))))⟩) λq=>absurd ho (q▸Nat.lt_irrefl 0)))))
theorem SI (hn:1<n) (hf:aq+100<fu) (ht:t.length≤aq) (he:e≤t.length) (hr:t.drop e=r) (h:aY I k s.out.length O s) (H:∀af,aY I k s.out.length af s→ck I.b O af→Q (.int ((e+du DA r:Nat):Int)) af):
  Wq (ah (ay aw fu (n+1)) fu (bf 4 bR) (gO I t a e sk none none none none) O) (bM Q) X:=by
 refine cg rfl (cg rfl (cg rfl (cN rfl (U9 (tD (p:=DA) (mk:=λj=>gO I t a j sk none none none none) rfl (λj hj=>tq rfl rfl rfl λc r hd=>fJ (aO (bj rfl rfl (iI hd)) rfl xm) (fy ((aO (d8 (aJ rfl (aJ rfl rfl)) (CH (Nat.lt_succ_of_lt hn) ht hj hf)) rfl j7).trans ?_))) (λj hj=>rfl) fu e r hr (adl (hr▸lH) (lm ht hf)) he) (dj rfl (.ret (.ret (H _ h .refl))))))))
 rw [hd]
 exact congrArg (λb=>Out.ok (V.bool b) O) (by rw [decide_eq_decide];exact ⟨λq=>Nat.add_left_cancel (k:=0) q,λq=>by rw [q];rfl⟩)
theorem Qo (hk:k<aq) (h:aY I k s.out.length O s) (H:∀af,aY I (k+1) s.out.length af {s with bV:=s.bV++[(s.out.length,yo)]}→ck I.b O af→Q (.int (e:Int)) af):Wq (ah C fu (bf 4 bR) (gO I t a e tH none none none none) O) (bM Q) X:=
 have p1:=h.HU (s.out.length,yo)
 cg rfl (cg rfl (cg rfl (cg rfl (cN rfl (dS (JV h hk rfl rfl) (dj rfl (.ret (.ret (H _ p1.1 p1.2)))))))))
theorem aaN (h:aY I k s.out.length O s) (H:∀af,aY I k s.out.length af s→ck I.b O af→Q (.int (e:Int)) af):Wq (ah C fu (bf 4 bR) (gO I t a e tV none none none none) O) (bM Q) X:=
 cg rfl (cg rfl (cg rfl (cg rfl (cg rfl (cN rfl (dj rfl (.ret (.ret (H _ h .refl)))))))))
theorem Li {ur:UR} (cJ:t.length≤8000000) (ha:ba t) (aK:a<t.length) (dp:t.drop (a+1)=r) (hU:m9 C 0) (h:aY I k s.out.length O s) (hm:nm∉jh) (hu:Us s.aL 0 s.uses r ur)
    (hE:pz I.cd I.tb I.md s.aL O (a+1) (.int (a:Int)) (λv O=>Tu v λvs=>Ex (putAll (gO I t a (a+1+aC r) nm none none none none) [7,8] vs) λL'=>Wq (ah C fu (bf 11 bR) L' O) (bM Q) X) X ur):
  Wq (ah C fu (bf 4 bR) (gO I t a (a+1+aC r) nm none none none none) O) (bM Q) X:=
 have nn:=λl hl=>Ut (C:=C) (fu:=fu) (O:=O) (l:=l) (I:=I) (t:=t) (a:=a) (e:=a+1+aC r) (x5:=none) (x6:=none) (x7:=none) (x8:=none) hm hl
 cg (nn _ (by decide)) (cg (nn _ (by decide)) (cg (nn _ (by decide)) (cg (nn _ (by decide)) (cg (nn _ (by decide)) (cg (oh (jB (nn _ (by decide)) (jV (nn _ (by decide))))) (oQ (cH rfl (cK h.p rfl)) h.T.t rfl rfl (hU ⟨cJ,ha⟩ h.T aK dp hu hE)))))))
end
theorem G9 {c:Nat} {r:List Nat} (hd:t.drop a=96::r):((t.drop a).take (a+1+c-a)).count 10=(r.take c).count 10:=by
 rw [hd,Nat.add_assoc,Nat.add_sub_cancel_left,Nat.add_comm 1,List.take_succ_cons];rfl
theorem HI {r:List Nat} {res:DR} (hn:1<n) (hf:aq+100<fu) (cJ:t.length≤200000) (ha:ba t) (hd:t.drop a=96::r) (hk:k≤400000) (hU:m9 (ay aw fu (n+2)) 0)
    (h:aY I k s.out.length O s) (hc:Dr s a r res) (hE:ir I (k+2) O (a+1) a Q X res):Wp (ay aw fu (n+3) 23 [.ref I.p,.str t,.int (a:Int)] O) Q X:=by
 have ht:=Nat.le_of_succ_le (iw (t:=t) (k9 cJ))
 have aK:=kq hd
 have dp:t.drop (a+1)=r:=dH 1 hd
 have hH:a+1+aC r≤t.length:=within aK dp (AQ r)
 have kx:t.drop (a+1+aC r)=r.drop (aC r):=dH _ dp
 have yq:k<aq:=Nat.lt_of_succ_lt (Nat.lt_of_succ_lt (k_lt hk))
 have jw:1<n+2:=adk hn (adm _ _)
 have h2:=h.mono (adm k 2)
 refine dT rfl rfl (by decide) rfl (aV (v:= .int ((a+1+aC r:Nat):Int)) (d8 (aJ rfl (aJ rfl rfl)) ((xb jw ht aK hf).trans (by rw [dp]))) (aV (v:= .str (r.take (aC r))) (e7 rfl rfl rfl ((k8 (fL aK ht) (fL hH ht)).trans (by rw [Nat.add_sub_cancel_left,dp]))) ?_))
 have nc:∀{l nm:List Nat},r.take (aC r)=nm→nm∉dM→r.take (aC r)∉dM:=λe q=>e▸q
 have go:∀{nm:List Nat},r.take (aC r)=nm→Wq (ah (ay aw fu (n+2)) fu (bf 2 bR) (gO I t a (a+1+aC r) nm none none none none) O) (bM Q) X→Wq (ah (ay aw fu (n+2)) fu (bf 2 bR) (gO I t a (a+1+aC r) (r.take (aC r)) none none none none) O) (bM Q) X:=λe h=>e.symm▸h
 match hc with
 | .cond nm cG e hm hc q=>exact go e (Si hn hf ht hH kx yq h hm hc (hE.of q).sh.less)
 | .off hm gD q=>exact mV hm (Zu (adm _ _) h gD λaf p l=>hE.of q _ (p.mono (adm _ _)) l)
 | .sJ cG gD e hc q=>exact go e (mV (by decide) (nX h gD (cN rfl (Jg rfl h.p rfl rfl (df (RO hn hf cJ ha (adj (Nat.le_succ a) (adm _ _)) hH kx (by rw [G9 hd,e];rfl) hk h hc (hE.of q).sh) λ_ _ q=> .ret (.ret q))))))
 | .undef r2 gD e hr ho q=>exact go e (mV (by decide) (nX h gD (QS (Nat.lt_succ_of_lt hn) hf ht hH (kx.trans hr) h ho λaf p l=>Nat.add_assoc (a+1) _ _▸hE.of q _ (p.mono (adm _ _)) l)))
 | .G2 r2 gD e hr ho q=>exact go e (mV (by decide) (nX h gD (Wf (Nat.lt_succ_of_lt hn) hf ht hH (kx.trans hr) yq h ho λaf p l=>Nat.add_assoc (a+1) _ _▸hE.of q _ (p.mono (Nat.le_succ _)) l)))
 | .time r2 gD e hr q=>exact go e (mV (by decide) (nX h gD (SI (Nat.lt_succ_of_lt hn) hf ht hH (kx.trans hr) h λaf p l=>Nat.add_assoc (a+1) _ _▸hE.of q _ (p.mono (adm _ _)) l)))
 | .reset gD e q=>exact go e (mV (by decide) (nX h gD (Qo yq h λaf p l=>hE.of q _ (p.mono (Nat.le_succ _)) l)))
 | .cell gD e q=>exact go e (mV (by decide) (nX h gD (aaN h λaf p l=>hE.of q _ (p.mono (adm _ _)) l)))
 | .qU k2 gD ue oH hu q=>exact mV ue (nX h gD (Li (k9 cJ) ha aK dp hU h oH hu λaf y e2 y1 y2=>hE.of q _ _ (e2.low h.o.o.2.1) y1 y2))
 | .use x c u gD ue oH hu gK dw q=>
  have zz:a+1+c≤t.length:=within aK dp gK
  exact mV ue (nX h gD (Li (k9 cJ) ha aK dp hU h oH hu λaf e2 T2=>⟨rfl,bZ rfl (by
   have p1:=h.uses e2 T2
   exact uO rfl p1.1.p rfl (aJ (bG rfl (bG rfl (d8 (aJ (e7 rfl rfl rfl (k8 (fL (Nat.le_of_lt aK) ht) (fL zz ht))) rfl) (yX jw)) (u0 (adj wl (adj (List.length_take_le' _ _) (adj lH ht))))) (by rw [G9 hd];exact ng dw)) rfl)
        (Dt (s:={s with uses:=u}) (Nat.lt_succ_of_lt hn) p1.1 yq dw λeH p4 l4=>dj rfl (.ret (hE.of q _ (p4.mono (Nat.le_succ _)) (p1.2.trans l4)))))⟩))
inductive XR where
 |done (s:PS)
 |err (k:List Nat) (at':Nat)
inductive Xp:PS→Nat→List Nat→XR→Prop where
 |nil {s:PS} {a:Nat}:s.bu=[]→s.out.length≤aq→Xp s a [] (.done s)
 |open {s:PS} {a b:Nat} {x y z:Bool} {cl:List (Nat×Bool×Bool×Bool)}:s.bu=(b,x,y,z)::cl→Xp s a [] (.err lN b)
 |tok {s:PS} {a c w:Nat} {r:List Nat} {res:XR}:c≠96→w=(if 0<cp (c::r) then cp (c::r) else a7 (c::r))→Xp (s.emit ((c::r).take w)) (a+w) ((c::r).drop w) res→Xp s a (c::r) res
 |dir {s s':PS} {a c:Nat} {r:List Nat} {res:XR}:Dr s a r (.ok s' c)→Xp s' (a+1+c) (r.drop c) res→Xp s a (96::r) res
 |ia {s:PS} {a:Nat} {r k:List Nat}:Dr s a r (.err k)→Xp s a (96::r) (.err k a)
noncomputable def qA (I:Ix) (O:ag) (Q:V→ag→Prop) (X:aX→ag→Prop):XR→Prop
 | .done s=>∀af,ck I.b O af→af[I.p]?=some (oA I s.out.length s.aM)→af[I.nt]?=some (.list (s.bV.map gQ))→Q (.str s.out) af
 | .err kk b=>∀af y,ck I.b O af→y.k= .str kk→y.a= .int (b:Int)→X y af
inductive qa (s:PS) (a:Nat) (t:List Nat) (res:XR):Prop where
 |nil (e:t=[]) (hc:s.bu=[]) (hl:s.out.length≤aq) (q:res= .done s):qa s a t res
 |open (c:Nat×Bool×Bool×Bool) (cl:List (Nat×Bool×Bool×Bool)) (e:t=[]) (hc:s.bu=c::cl) (q:res= .err lN c.1):qa s a t res
 |tok (c w:Nat) (r:List Nat) (e:t=c::r) (hc:c≠96) (hw:w=(if 0<cp (c::r) then cp (c::r) else a7 (c::r))) (h:Xp (s.emit ((c::r).take w)) (a+w) ((c::r).drop w) res):qa s a t res
 |dir (s':PS) (c:Nat) (r:List Nat) (e:t=96::r) (hd:Dr s a r (.ok s' c)) (h:Xp s' (a+1+c) (r.drop c) res):qa s a t res
 |ia (r k:List Nat) (e:t=96::r) (hd:Dr s a r (.err k)) (q:res= .err k a):qa s a t res
theorem Xp.view {s:PS} {a:Nat} {t:List Nat} {res:XR} (h:Xp s a t res):qa s a t res:=Xp.casesOn (motive:=λs a t res _=>qa s a t res) h (λhc hl=> .nil rfl hc hl rfl) (λhc=> .open _ _ rfl hc rfl) (λhc hw h=> .tok _ _ _ rfl hc hw h) (λhd h=> .dir _ _ _ rfl hd h) λhd=> .ia _ _ rfl hd rfl
end
section
variable {fu n:Nat} {t:List Nat} {O:ag} {X:aX→ag→Prop} {k a:Nat} {s:PS} {Q:V→ag→Prop}
inductive Made (b p tb md:Nat) (O:ag) (M:bw):Prop where
 |mk (nt pc:V) (ln cd act:V) (u lo:Nat) (hp:O[p]?=some (.inst .eA [(5,.ref tb),(6,nt),(7,pc),(8,ln),(9,cd),(10,act)])) (hT:TabAt lo O tb md u M) (nn:∀x∈M,x.2.names=none) (hl:M.length≤5) (ho:b≤p∧b≤tb∧b≤md∧b≤O.length):Made b p tb md O M
theorem Pq {lo lo':Nat} {es:List (List Nat×V)} {M:bw} (h:bo (mw lo O) es M) (nn:∀x∈M,x.2.names=none):bo (mw lo' O) es M:=by
 induction h with
 |nil=>exact .nil
 |@cons k v m es l r _ ih=>
  refine .cons ?_ (ih λx hx=>nn x (List.mem_cons_of_mem _ hx))
  obtain ⟨i,nv,e,g,q⟩:=r
  have e2:m.names=none:=nn (k,m) List.mem_cons_self
  rw [e2] at q
  exact ⟨i,nv,e,g,by rw [e2];exact q⟩
theorem TabAt.bare {lo lo' tb md u:Nat} {M:bw} (h:TabAt lo O tb md u M) (nn:∀x∈M,x.2.names=none):TabAt lo' O tb md u M:=match h with
 |⟨es,h0,h1,h2⟩=>⟨es,h0,h1,Pq h2 nn⟩
section
variable {C:Calls} {L:Locals} {p f:Nat} {fs:List (Nat×V)} {ss:Ss} {R:Flow→Locals→ag→Prop}
theorem xU (g:O[p]?=some (.inst .eA fs)) (h0:L.get 0=some (.ref p)) (k:∀af,aU p O af→af[p]?=some (.inst .eA (fc fs f (.ref O.length)))→af[O.length]?=some (.list [])→af.length=O.length+1→Wq (ah C fu ss L af) R X):
  Wq (ah C fu (.cons (.setAttr (.loc 0) f (.list .nil)) ss) L O) R X:=
 ja rfl (dE h0) (iM (mN g)) (k _ (aj.refl.push).toT.set (cW (mN g)) (fU bH (Nat.ne_of_lt (dD g))) (by rw [List.length_set,kU]))
theorem Kn {e:E} {v:V} (g:O[p]?=some (.inst .eA fs)) (h0:L.get 0=some (.ref p)) (he:ev C fu e L O= .ok v O) (k:∀af,aU p O af→af[p]?=some (.inst .eA (fc fs f v))→af.length=O.length→Wq (ah C fu ss L af) R X):
  Wq (ah C fu (.cons (.setAttr (.loc 0) f e) ss) L O) R X:=ja he (dE h0) (iM g) (k _ aU.refl.set (cW g) List.length_set)
end
theorem EZ {b p tb md u lo:Nat} {M:bw} {fs:List (Nat×V)} (hp:O[p]?=some (.inst .eA fs)) (Uk:∀v6 v7 v8 v9 Jt,fc (fc (fc (fc (fc fs 6 v6) 7 v7) 8 v8) 9 v9) 10 Jt=[(5,.ref tb),(6,v6),(7,v7),(8,v8),(9,v9),(10,Jt)])
    (hT:TabAt lo O tb md u M) (nn:∀x∈M,x.2.names=none) (hl:M.length≤5) (ho:b≤p∧b≤tb∧b≤md∧b≤O.length) (H:∀af,aY ⟨b,p,tb,md,O.length,O.length+1,O.length+2⟩ 0 0 af ⟨M,[],[],[],true,0⟩→ck b O af→Q .none af):
  Wp (ay aw fu (n+1) 20 [.ref p] O) Q X:=by
 have qe:=dD hp
 refine dT rfl rfl (by decide) rfl (xU hp rfl λae e1 p1 n1 l1=>xU p1 rfl λaz e2 p2 n2 l2=>Kn p2 rfl rfl λcM e3 p3 l3=>xU p3 rfl λeH e4 p4 n4 l4=>Kn p4 rfl rfl λlV e5 p5 l5=>?_)
 rw [Uk] at p5
 rw [l1] at n2 l2 p5
 rw [l3,l2] at n4 p5
 have ne:∀{i},O.length≤i→i≠p:=λh=>Nat.ne_of_gt (adk qe h)
 have m1:lV[O.length]?=some (.list []):=(e2.trans (e3.trans (e4.trans e5))).get n1 (ne (adp _))
 have m2:lV[O.length+1]?=some (.list []):=(e3.trans (e4.trans e5)).get n2 (ne (Nat.le_succ _))
 have m4:lV[O.length+2]?=some (.list []):=e5.get n4 (ne (adm _ _))
 have ee:=e1.trans (e2.trans (e3.trans (e4.trans e5)))
 have T5:=(hT.keep ee hp trivial).bare (lo':=O.length+2) nn
 have e6:aU tb lV (lV.set tb (jk md 0)):=aU.refl.set
 exact ja rfl (cH rfl (cK p5 rfl)) (iM T5.t) (bz (.next (H _ ⟨[],[],⟨Nat.lt_succ_self _,Nat.lt_succ_self _,ho⟩,e6.get p5 (d9 p5 T5.t Gg),T5.tick,e6.get m1 (d9 m1 T5.t oW),e6.get m2 (d9 m2 T5.t oW),rfl,adp _,⟨e6.get m4 (d9 m4 T5.t oW),rfl,List.nodup_nil,λi hi=>nomatch hi⟩,⟨adp _,hl,adp _⟩⟩ ((ee.low ho.1).trans (e6.low ho.2.1)))))
theorem qA.of {I:Ix} {r r':XR} (h:qA I O Q X r) (q:r=r'):qA I O Q X r':=q▸h
inductive XI (I:Ix) (t:List Nat) (O:ag) (res:XR):Nat→Locals→ag→Prop where
 |mk {j k:Nat} {s:PS} {x:Option V} {af:ag} (hk:k≤2*j) (hP:aY I k s.out.length af s) (hL:ck I.b O af) (hx:Xp s j (t.drop j) res):XI I t O res (t.length-j) [some (.ref I.p),some (.str t),some (.int (j:Int)),x] af
abbrev bX:Ss:=Nb
theorem HX {j w k m:Nat} (hk:k≤2*j) (hm:m≤2*w):k+m≤2*(j+w):=Nat.mul_add 2 j w▸Nat.add_le_add hk hm
theorem YX {C:Calls} {I:Ix} {j:Nat} {x:Option V} {af:ag} {res:XR} (hP:aY I k s.out.length af s) (hL:ck I.b O af) (hx:Xp s j [] res) (hE:qA I O Q X res):Wq (ah C fu (bf 3 bX) [some (.ref I.p),some (.str t),some (.int (j:Int)),x] af) (bM Q) X:=hP.d λcs j6=>by
 have e0:=aO (C:=C) (fu:=fu) (op:= .gt) (b:= .int 0) (L:=[some (.ref I.p),some (.str t),some (.int (j:Int)),x]) (fb (b:= .len) (es:= .cons (.attr (.loc 0) 9) .nil) (aJ (cH rfl (cK (f:=9) hP.p rfl)) rfl) (mC j6.g)) rfl mz
 rw [List.length_map,List.length_reverse,j6.r.length] at e0
 exact match hx.view with
 | .nil _ pM Sr q=>cg (e0.trans (by rw [pM];rfl)) (hP.pc λps c1 c2 c3=>dj (jf rfl rfl (aJ (cH rfl (cK hP.p rfl)) rfl) (uz c1 (c2▸Sr))) (.ret (c2▸hE.of q _ hL hP.p hP.n)))
 | .open c cl _ pM q=>cN (e0.trans (by rw [pM];exact congrArg (λb=>Out.ok (V.bool b) af) (decide_eq_true (Int.ofNat_lt.2 (Nat.succ_pos _))))) (dW.some (pM▸j6.r:dW af cs (c::cl)) λi cs' ec=>by
   have g:=(pM▸(ec▸j6.r:dW af (i::cs') s.bu):dW af (i::cs') (c::cl)).top.1
   have hg:=j6.g
   rw [ec,xT] at hg
   exact j1 (aJ rfl (aJ (bj (bj (cH rfl (cK hP.p rfl)) rfl (GY hg (List.getLast?_concat ..))) rfl (eD (i:=0) g rfl)) rfl)) rfl (hE.of q _ _ hL rfl rfl))
 | .tok _ _ _ e _ _ _=>kX e
 | .dir _ _ _ e _ _=>kX e
 | .ia _ _ e _ _=>kX e
theorem XA {I:Ix} {j:Nat} {x:Option V} {af:ag} {res:XR} {c:Nat} {r:List Nat} {K:Locals→ag→Prop} {ss:Ss} (hn:1<n) (hf:aq+100<fu) (cJ:t.length≤200000) (ha:ba t) (hU:m9 (ay aw fu (n+2)) 0) (hd:t.drop j=c::r) (hk:k≤2*j) (hP:aY I k s.out.length af s) (hL:ck I.b O af) (hx:Xp s j (c::r) res) (hE:qA I O Q X res)
    (hK:∀m' L s',m'<t.length-j→XI I t O res m' L s'→K L s'):Wq (ah (ay aw fu (n+3)) fu (fC (bf 2 bX)) [some (.ref I.p),some (.str t),some (.int (j:Int)),x] af) (Lp (ay aw fu (n+3)) fu ss (bM Q) X K) X:=by
 have ht:=Nat.le_of_succ_le (iw (t:=t) (k9 cJ))
 have aK:=kq hd
 have hj:=Nat.le_of_lt aK
 have BJ:k≤400000:=adj hk (Nat.mul_le_mul_left 2 (adj hj cJ))
 have dp:t.drop (j+1)=r:=dH 1 hd
 have Hg:1<n+3:=adk hn (adm _ _)
 refine aV (v:= .int ((j+cp (c::r):Nat):Int)) ((d8 (aJ rfl (aJ rfl rfl)) (CH Hg ht hj hf)).trans (by rw [hd])) ?_
 have cmp:∀y,ev (ay aw fu (n+3)) fu (.cmp .eq (.idx (.loc 1) (.loc 2)) (.str [96])) [some (.ref I.p),some (.str t),some (.int (j:Int)),y] af= .ok (.bool (decide (c=96))) af:=λy=>aO (bj rfl rfl (iI hd)) rfl jT
 exact match hx.view with
 | .nil e _ _ _=>kX e.symm
 | .open _ _ e _ _=>kX e.symm
 | .dir s' c2 r2 e Dn mn=>pP e λec er=>cN ((cmp _).trans (by rw [decide_eq_true ec])) (LV rfl hP.p rfl rfl (HI hn hf cJ ha (hd.trans e) BJ hU hP Dn λcM p3 l3=>n1 (aV rfl (tU (hK _ _ _ (Nat.sub_lt_sub_left aK (adk (Nat.lt_succ_self j) (adm _ _)))
   (.mk (j:=j+1+c2) (Nat.add_assoc j 1 c2▸HX hk (Nat.mul_le_mul_left 2 (adm 1 c2))) p3 (hL.trans l3) (by rw [dH c2 dp,er];exact mn)))))))
 | .ia r2 k2 e Dn q=>pP e λec er=>cN ((cmp _).trans (by rw [decide_eq_true ec])) (LV rfl hP.p rfl rfl (HI hn hf cJ ha (hd.trans e) BJ hU hP Dn λcM y l3 y1 y2=>hE.of q _ _ (hL.trans l3) y1 y2))
 | .tok c2 w r2 e hc qC mn=>by
  have uR:=BB (t:=t) hj
  rw [hd] at uR
  rw [←e] at qC mn
  have ec:c≠96:=λq=>hc ((List.cons.inj e).1▸q)
  have Aw:0<w∧j+w≤t.length:=qC▸gu (P:=λw=>0<w∧j+w≤t.length) (λq=>⟨q,uR⟩) λ_=>⟨tj c r,th hd⟩
  have fin:Wq (ah (ay aw fu (n+3)) fu (.cons (.expr (.own (.loc 0) 3 (.cons (.slice (.loc 1) (.loc 2) (.loc 3) true true) .nil))) .nil) [some (.ref I.p),some (.str t),some (.int (j:Int)),some (.int ((j+w:Nat):Int))] af) (Nx (ay aw fu (n+3)) fu (.cons (.aA 2 (.loc 3)) .nil) (Lp (ay aw fu (n+3)) fu ss (bM Q) X K) X) X:=
   uO rfl hP.p rfl (aJ (e7 rfl rfl rfl (wM hd (fL hj ht) (fL Aw.2 ht))) rfl) (Dt (adk hn (adm _ _)) hP (Nat.lt_of_succ_lt (Nat.lt_of_succ_lt (k_lt BJ))) (adj (List.length_take_le' _ _) (adj (hd▸lH) ht)) λcM p3 l3=>n1 (aV rfl (tU (hK _ _ _ (xX aK Aw.1)
    (.mk (j:=j+w) (HX hk (adj (Nat.le_succ 1) (Nat.mul_le_mul_left 2 Aw.1))) p3 (hL.trans l3) (by rw [dH w hd];exact mn))))))
  refine fH ((cmp _).trans (by rw [decide_eq_false ec])) (eJ (aO rfl rfl j7) (λh2=>?_) λh2=>n1 ?_)
  ·rw [if_neg (by rw [Nat.add_left_cancel (k:=0) h2];decide)] at qC
   exact aV (d8 (aJ rfl (aJ rfl rfl)) (yi hd Hg ht hf)) (n1 (qC▸fin))
  ·rw [if_pos (Nat.pos_of_ne_zero λz=>h2 (by rw [z];rfl))] at qC
   exact qC▸fin
theorem FD {b p tb md:Nat} {M:bw} {res:XR} (hn:1<n) (hf:aq+100<fu) (cJ:t.length≤200000) (ha:ba t) (h:Made b p tb md O M) (hU:m9 (ay aw fu (n+2)) 0) (hx:Xp ⟨M,[],[],[],true,0⟩ 0 t res)
    (hE:qA ⟨b,p,tb,md,O.length,O.length+1,O.length+2⟩ O Q X res):Wp (ay aw fu (n+4) 21 [.ref p,.str t] O) Q X:=match h with
 |⟨_,_,_,_,_,_,_,hp,lL,nn,hl,ho⟩=>dT (L:=[some (.ref p),some (.str t),none,none]) rfl rfl (by decide) rfl (uO rfl hp rfl rfl (EZ hp (λ_ _ _ _ _=>rfl) lL nn hl ho λae P0 L0=>aV rfl (rV (XI ⟨b,p,tb,md,O.length,O.length+1,O.length+2⟩ t O res) (.mk (j:=0) (k:=0) (s:=⟨M,[],[],[],true,0⟩) (adp _) P0 L0 hx) (lm (Nat.le_of_succ_le (iw (t:=t) (k9 cJ))) hf) λm L s K hK h=>by
   cases h with
   |@mk j k s x af hk hP hL hx=>
    refine ⟨_,aO rfl rfl nW,λaK=>?_,λjX=>?_⟩
    ·refine xQ (adn aK) λc r hd=>?_
     rw [hd] at hx
     exact XA hn hf cJ ha hU hd hk hP hL hx hE hK
    ·rw [List.drop_eq_nil_of_le (Nat.le_of_not_lt (ado jX))] at hx
     exact YX hP hL hx hE)))
theorem Gu {C:Calls} {c:cj} {vs:List V} (h:Wp (C (nL c) (.ref O.length::vs) (O++[.inst c []])) (λv af=>v= .none∧Q (.ref O.length) af) λ_ _=>False):Wp (oU C c O vs) Q X:=by
 show Wp (pG (C (nL c) (.ref O.length::vs) (O++[.inst c []])) Out.stuck _) Q X
 generalize C (nL c) (.ref O.length::vs) (O++[.inst c []])=o at h ⊢
 cases h with
 |exc h=>exact h.elim
 |ok h=>obtain ⟨rfl,h⟩:=h;exact .ok h
theorem abi {od:Nat} {aQ:List Nat} {v:V} (h:O[od]?=some (.dict [(aQ,v)])) (hk:aQ.length≤aq):mR .sorted O [.ref od]= .ok (.ref O.length) (O++[Cell.list [.str aQ]]):=
  (qJ (d:=Out.stuck) (f:=λes=>GN O es) h).trans (if_pos ⟨rfl,hk⟩)
noncomputable def kB:List Nat:=[66]
noncomputable def iU:List Nat:=[32,55,32,96,67]
noncomputable def AS:List Nat:=[55,32,96,67]
noncomputable def jM (O:ag) (v:V) (M:bw):Prop:=(v= .none∧M=[])∨∃od,v= .ref od∧O[od]?=some (.dict [(kB,.str iU)])∧M=[(kB,⟨none,AS⟩)]
theorem jM.ext {v:V} {M:bw} {af:ag} (h:jM O v M) (e:aj O af):jM af v M:=h.imp_right λ⟨od,h1,h2,h3⟩=>⟨od,h1,e.get h2,h3⟩
theorem jM.nn {v:V} {M:bw} (h:jM O v M):(∀x∈M,x.2.names=none)∧M.length≤5:=h.elim (λh=>h.2▸⟨λx hx=>(nomatch hx),Nat.zero_le _⟩) λ⟨od,_,_,h⟩=>h▸⟨λx hx=>List.mem_singleton.1 hx▸rfl,Nat.succ_le_succ (Nat.zero_le _)⟩
theorem jO {i m:Nat} {xs:List V} (h:O[m]?=some (.list xs)):j4 m i O=some xs[i]?:=gX (d:=Option.none) (f:=λvs=>some vs[i]?) h
inductive TI (tb md:Nat) (O az:ag) (od:Nat):Nat→Locals→ag→Prop where
 |zero:TI tb md O az od 0 [some (.ref tb),some (.ref od),none] (az++[.list [.str kB]])
 |one {L:Locals} {s:ag} (T:TabAt 0 s tb md 0 [(kB,⟨none,AS⟩)]) (e:aU tb O s) (l:md<s.length) (g:s[az.length]?=some (.list [.str kB])):TI tb md O az od 1 L s
theorem Ob {tb md od:Nat} {az:ag} (hn:1<n) (hf:aq+100<fu) (xo:tb<md) (es:az[md]?=some (.dict [])) (t2:az[tb]?=some (jk md 0)) (e2:aU tb O az) (Lr:az[od]?=some (.dict [(kB,.str iU)])) (abp:O.length≤md)
    (H:∀af,TabAt 0 af tb md 0 [(kB,⟨none,AS⟩)]→aU tb O af→md<af.length→Q .none af):
  Wq (ah (ay aw fu (n+1)) fu (bf 3 C1) [some (.ref tb),some (.ref od),none] az) (bM Q) X:=by
 have l2:=dD es
 have x3:=(aj.refl (O:=az)).push (d:= .list [.str kB])
 refine cN (aO rfl rfl Gl) (p6 1 (TI tb md O az od) (adl (dh▸by decide) hf) (aS (fb (aJ rfl rfl) (abi Lr (by decide))) ⟨_,rfl,.zero,λk L s K hK h=>?_⟩))
 cases h with
 |zero=>
  refine ⟨Nat.zero_le _,bZ (jO bH) (.more ⟨Nat.zero_lt_one,?_⟩)⟩
  refine Hw (BZ (ii (aS rfl (ii (lc (eu (aS (aJ (GD (s:=iU) (bj rfl rfl (eS (x3.get Lr) rfl)) (by decide)) (aJ rfl rfl)) (M6 (t:=iU) (k:=0) (f:=20) (acc:=iU) (e:=5) hn (by decide) (by unfold ba iU;decide) (by decide) hf rfl λcM x4=>?_))))))))
  refine aS rfl (bZ rfl (mh (aS Ju ?_)))
  have x5:=(aj.refl (O:=cM)).push (d:= .inst .macro [(0,.none),(1,.str (cZ iU))])
  have xx:=x3.trans (x4.trans x5)
  have ff:=xx.get es
  have ht:=xx.get t2
  exact aS (cH rfl (cK ht rfl)) (aS rfl (bZ (tK ff (by decide)) (tU (hK _ _ (.one ⟨_,fU ht (Nat.ne_of_gt xo),cW ff,.cons ⟨_,.none,rfl,fU bH (Nat.ne_of_lt (adk l2 (x3.trans x4).1)),rfl⟩ .nil⟩ ((e2.trans xx.toT).rH abp) (by rw [List.length_set];exact adk l2 xx.1) (fU ((x4.trans x5).get bH) (Nat.ne_of_lt l2)))))))
 |one T e l g=>exact ⟨adp _,bZ (jO g) (.done (n1 (bz (.next (H _ T e l)))))⟩
theorem Qx {tb:Nat} {d:V} {M:bw} (hn:1<n) (hf:aq+100<fu) (g:O[tb]?=some (.inst .table [])) (ho:jM O d M) (H:∀af,TabAt 0 af tb O.length 0 M→aU tb O af→O.length<af.length→Q .none af):
  Wp (ay aw fu (n+2) 16 [.ref tb,d] O) Q X:=by
 have xo:=dD g
 have gd:(O++[Cell.dict []])[O.length]?=some (.dict []):=bH
 have e1:aU tb O (O++[Cell.dict []]):=(aj.refl.push).toT
 have ln:(O++[Cell.dict []]).length=O.length+1:=kU
 have g1:=mN (d:= .dict []) g
 refine dT (L:=[some (.ref tb),some d,none]) rfl rfl (by decide) rfl (ja (DO rfl ⟨rfl,List.nodup_nil⟩) rfl (iM g1) (ja (d8 rfl TU) rfl (iM (cW g1)) (ja rfl rfl (iM (cW (cW g1))) ?_)))
 show Wq (ah _ fu (bf 3 C1) _ (((O++[Cell.dict []]).set tb _).set tb _ |>.set tb (jk O.length 0))) _ _
 rw [List.set_set,List.set_set]
 have t2:=cW (d:=jk O.length 0) g1
 have e2:aU tb O ((O++[Cell.dict []]).set tb (jk O.length 0)):=e1.set
 have m2:=fU (d:=jk O.length 0) gd (Nat.ne_of_lt xo)
 exact ho.elim (λh=>by
  rw [h.1]
  exact cg (aO rfl rfl KQ) (bz (.next (H _ (h.2▸⟨_,t2,m2,.nil⟩) e2 (dD m2))))) λ⟨od,hd,Il,hM⟩=>by
  rw [hd]
  exact Ob hn hf xo m2 t2 e2 (e2.get Il (d9 Il g Zg)) (adp _) λaf T e l=>H af (hM▸T) e l
theorem V9 {d:V} {M:bw} (hn:1<n) (hf:aq+100<fu) (ho:jM O d M) (H:∀af,Made O.length O.length (O.length+1) (O.length+2) af M→ck O.length O af→Q (.ref O.length) af):Wp (oU (ay aw fu (n+3)) .eA O [d]) Q X:=by
 have x0:=(aj.refl (O:=O)).push (d:= .inst .eA [])
 have x1:=(aj.refl (O:=O++[Cell.inst .eA []])).push (d:= .inst .table [])
 have l0:(O++[Cell.inst .eA []]).length=O.length+1:=kU
 have l1:((O++[Cell.inst .eA []])++[Cell.inst .table []]).length=O.length+2:=kU.trans (by rw [l0])
 refine Gu (dT (L:=[some (.ref O.length),some d]) rfl rfl (by decide) rfl (IH (BZ (aS rfl (Gu (Qx hn hf bH (ho.ext (x0.trans x1)) λae T1 e1 l2=>⟨rfl,aS rfl ?_⟩))))))
 rw [l0] at e1 T1 ⊢
 rw [l1] at T1 l2
 have g1:ae[O.length]?=some (.inst .eA []):=e1.get (x1.get bH) (Nat.ne_of_lt (Nat.lt_succ_self _))
 have e2:aU O.length ae (ae.set O.length (.inst .eA [(5,.ref (O.length+1))])):=aU.refl.set
 refine bZ (iM g1) (xU (cW g1) rfl λeH e4 g4 n4 l4=>?_)
 have ee:=e2.trans e4
 have T4:=T1.keep ee g1 trivial
 have pO:ck O.length O eH:=(x0.trans x1).low.trans ((e1.low (Nat.le_succ _)).trans (ee.low (adp _)))
 exact uO rfl g4 rfl rfl (EZ (b:=O.length) g4 (λ_ _ _ _ _=>rfl) T4 ho.nn.1 ho.nn.2 ⟨adp _,Nat.le_succ _,adm _ _,pO.1⟩ λlV P L=>bz (.next ⟨rfl,H _ ⟨_,_,_,_,_,_,_,P.p,P.T,ho.nn.1,ho.nn.2,⟨adp _,Nat.le_succ _,adm _ _,adj pO.1 L.1⟩⟩ (pO.trans L)⟩))
end
inductive dA (O:ag):Prop where
 |mk (dN:List V) (i:Nat) (m:Int) (h0:O[0]?=some (.list dN)) (h1:∀v∈dN,∃x:Int,v= .int x) (h2:O[2]?=some (.list [.ref 0,.int (i:Int),.int m])) (hm:0≤m∧m<1009):dA O
section
variable {O af:ag}
theorem dA.ext (h:dA O) (e:aj O af):dA af:=match h with
 |⟨f,i,m,h1,h2,h3,h4⟩=>⟨f,i,m,e.get h1,h2,e.get h3,h4⟩
theorem dA.keep {x:Nat} (h:dA O) (e:aU x O af) (h0:x≠0) (hx:x≠2):dA af:=match h with
 |⟨f,i,m,h1,h2,h3,h4⟩=>⟨f,i,m,e.get h1 (Ne.symm h0),h2,e.get h3 (Ne.symm hx),h4⟩
end
section
variable {fu n:Nat} {O:ag} {X:aX→ag→Prop} {Q:V→ag→Prop}
theorem yh {a:Int} {b:Nat} (hb:0<b) (pR:b<2000):e8 .mod (.int a) (.int (b:Int))=some (.int (a.fmod b)):=if_pos (c:=0<(b:Int)∧(b:Int)<1073741824) ⟨Int.ofNat_lt.2 hb,Int.lt_trans (Int.ofNat_lt.2 pR) (by decide)⟩
theorem Fg {x:Int} (h: -100000<x∧x<100000):smallInt x=true:=by
 unfold smallInt
 rw [Bool.and_eq_true,decide_eq_true_eq,decide_eq_true_eq]
 exact ⟨Int.lt_trans (by decide) h.1,Int.lt_trans h.2 (by decide)⟩
theorem A7 {a b:Int} (ha: -100000<a∧a<100000) (hb: -100000<b∧b<100000):e8 .mul (.int a) (.int b)=some (.int (a*b)):=if_pos (c:=(smallInt a&&smallInt b)=true) (by rw [Fg ha,Fg hb];rfl)
theorem AR {a:Int} {b:Nat} (hb:0<b):0≤a.fmod b∧a.fmod b<b:=⟨Int.fmod_nonneg_of_pos _ (Int.ofNat_lt.2 hb),Int.fmod_lt_of_pos _ (Int.ofNat_lt.2 hb)⟩
theorem RS {b:Nat} (hb:0<b) (pR:b<1000) (h:dA O) (H:∀(r:Nat) (af:ag),r<b→dA af→aU 2 O af→Q (.int (r:Int)) af):Wp (ay aw fu (n+1) 28 [.ref 2,.int (b:Int)] O) Q X:=match h with
 |⟨dN,i,m,h0,h1,h2,yl⟩=>by
  have i0:∀{s:ag} {j m:Int},s[2]?=some (.list [.ref 0,.int j,.int m])→di s (.ref 2) (.int 0)=some (.ref 0):=λg=>eD (i:=0) g rfl
  have i1:∀{s:ag} {j m:Int},s[2]?=some (.list [.ref 0,.int j,.int m])→di s (.ref 2) (.int 1)=some (.int j):=λg=>eD (i:=1) g rfl
  have i2:∀{s:ag} {j m:Int},s[2]?=some (.list [.ref 0,.int j,.int m])→di s (.ref 2) (.int 2)=some (.int m):=λg=>eD (i:=2) g rfl
  have fin:∀(x:Int) (s:ag),dA s→aU 2 O s→Wq (ah (ay aw fu n) fu (bf 1 Iw) [some (.ref 2),some (.int (b:Int)),some (.int x)] s) (bM Q) X:=λx s hP hE=>
   have hm:=AR (a:=x) hb
   dj (v:= .int ((x.fmod b).toNat:Int)) (bG rfl rfl ((yh hb (Nat.lt_trans pR (by decide))).trans (by rw [Int.toNat_of_nonneg hm.1]))) (.ret (H _ _ ((Int.toNat_lt hm.1).2 hm.2) hP hE))
  refine dT (L:=[some (.ref 2),some (.int (b:Int)),none]) rfl rfl (by decide) rfl (eJ (aO (bj rfl rfl (i1 h2)) (fb (aJ (bj rfl rfl (i0 h2)) rfl) (mC h0)) nW) (λq=>?_) λq=>fG (aO (fb (aJ (bj rfl rfl (i0 h2)) rfl) (mC h0)) rfl lY) (λ_=>?_) λ_=>?_)
  ·exact (h1 _ (List.getElem_mem q)).elim λx hx=>aV (bj (bj rfl rfl (i0 h2)) (bj rfl rfl (i1 h2)) (eD h0 (v:= .int x) (by rw [List.getElem?_eq_getElem q,hx]))) (zJ rfl rfl (i1 h2) rfl (show jr .add _ (.int (i:Int)) (.int 1)= .ok (.int ((i+1:Nat):Int)) O from rfl) (ug (i:=1) h2 (Nat.lt_succ_of_lt (Nat.lt_succ_self 1)))
        (n1 (fin x _ ⟨dN,i+1,m,fU h0 (by decide),h1,cW h2,yl⟩ aU.refl.set)))
  ·exact aV rfl (n2 (fin 0 _ h .refl))
  ·have hm:=AR (a:=m*37+11) (b:=1009) (by decide)
   have g2:(O.set 2 (.list [.ref 0,.int (i:Int),.int ((m*37+11).fmod (1009:Nat))]))[2]?=some (.list [.ref 0,.int (i:Int),.int ((m*37+11).fmod (1009:Nat))]):=cW h2
   exact oG (bG (bG (bG (bj rfl rfl (i2 h2)) rfl (A7 ⟨Int.lt_of_lt_of_le (by decide) yl.1,Int.lt_trans yl.2 (by decide)⟩ (by decide))) rfl JH) rfl (yh (b:=1009) (by decide) (by decide))) rfl rfl (ug (i:=2) h2 (Nat.lt_succ_self 2)) (aV (bj rfl rfl (i2 g2)) (n2 (fin _ _ ⟨dN,i,_,fU h0 (by decide),h1,g2,hm⟩ aU.refl.set)))
end
noncomputable def qN:List Nat:=[116,101,120,116]
noncomputable def yL:List Nat:=[112,97,114,97,109]
noncomputable def lS:List Nat:=[117,115,101]
noncomputable def nA:List Nat:=[65]
noncomputable def nB:List Nat:=[66]
noncomputable def nC:List Nat:=[67]
noncomputable def nF:List Nat:=[70]
noncomputable def nG:List Nat:=[71]
noncomputable def nZ:List Nat:=[90]
inductive A0 where
 |txt (s:List Nat)
 |cS (i:Nat)
 |use (nm:List Nat)
inductive Pz where
 |a (x:A0)
 |call (nm:List Nat) (x:A0)
inductive RA (O:ag) (F:Nat→Prop):V→A0→Prop where
 |txt (s:List Nat):RA O F (.tup [.str qN,.str s]) (.txt s)
 |cS (i:Nat):RA O F (.tup [.str yL,.int (i:Int)]) (.cS i)
 |use (nm:List Nat) (r:Nat):F r→O[r]?=some (.list [])→RA O F (.tup [.str lS,.str nm,.ref r]) (.use nm)
inductive RP (O:ag) (F:Nat→Prop):V→Pz→Prop where
 |a (v:V) (x:A0):RA O F v x→RP O F v (.a x)
 |call (nm:List Nat) (x:A0) (r q:Nat) (w:V):F r→O[r]?=some (.list [.ref q])→F q→O[q]?=some (.list [w])→RA O F w x→RP O F (.tup [.str lS,.str nm,.ref r]) (.call nm x)
inductive RL {α:Type} (R:V→α→Prop):List V→List α→Prop where
 |nil:RL R [] []
 |cons {v:V} {a:α} {vs:List V} {l:List α}:R v a→RL R vs l→RL R (v::vs) (a::l)
section
variable {α:Type} {R R':V→α→Prop} {vs:List V} {l:List α} {O af:ag} {F F':Nat→Prop} {v:V}
theorem RL.mono (h:RL R vs l) (f:∀v a,R v a→R' v a):RL R' vs l:=by
 induction h with
 |nil=>exact .nil
 |cons r _ ih=>exact .cons (f _ _ r) ih
theorem RL.push {a:α} (h:RL R vs l) (r:R v a):RL R (vs++[v]) (l++[a]):=by
 induction h with
 |nil=>exact .cons r .nil
 |cons r2 _ ih=>exact .cons r2 ih
theorem RL.length (h:RL R vs l):vs.length=l.length:=by
 induction h with
 |nil=>rfl
 |cons _ _ ih=>exact congrArg (· +1) ih
theorem RL.get {i:Nat} (h:RL R vs l) (hi:i<l.length):∃v a,vs[i]?=some v∧l[i]?=some a∧R v a:=by
 induction h generalizing i with
 |nil=>exact absurd hi (Nat.not_lt_zero _)
 |cons r _ ih=>
  cases i with
  |zero=>exact ⟨_,_,rfl,rfl,r⟩
  |succ i=>exact ih (Nat.lt_of_succ_lt_succ hi)
@[elab_as_elim] theorem RA.el {P:V→A0→Prop} {x:A0} (h:RA O F v x) (h1:∀t,P (.tup [.str qN,.str t]) (.txt t)) (h2:∀i:Nat,P (.tup [.str yL,.int (i:Int)]) (.cS i)) (h3:∀nm r,F r→O[r]?=some (.list [])→P (.tup [.str lS,.str nm,.ref r]) (.use nm)):P v x:=RA.casesOn (motive:=λv x _=>P v x) h h1 h2 h3
@[elab_as_elim] theorem RP.el {P:V→Pz→Prop} {p:Pz} (h:RP O F v p) (h1:∀v x,RA O F v x→P v (.a x)) (h2:∀nm x r q w,F r→O[r]?=some (.list [.ref q])→F q→O[q]?=some (.list [w])→RA O F w x→P (.tup [.str lS,.str nm,.ref r]) (.call nm x)):P v p:=RP.casesOn (motive:=λv p _=>P v p) h h1 h2
theorem RA.keep {x:A0} (h:RA O F v x) (k:∀i c,F i→O[i]?=some c→af[i]?=some c) (f:∀i,F i→F' i):RA af F' v x:=h.el .txt .cS λnm r a b=> .use nm r (f _ a) (k _ _ a b)
theorem RP.keep {p:Pz} (h:RP O F v p) (k:∀i c,F i→O[i]?=some c→af[i]?=some c) (f:∀i,F i→F' i):RP af F' v p:=h.el (λv x h=> .a v x (h.keep k f)) λnm x r q w a b c d e=> .call nm x r q w (f _ a) (k _ _ a b) (f _ c) (k _ _ c d) (e.keep k f)
end
noncomputable def xH:List (List Nat):=[[120,49],[43,32,50],[56,39,104,53],[34,96,65,32,112,34],[91,114,93]]
inductive iF (c:Nat):Pz→Prop where
 |txt {s:List Nat}:s∈xH→iF c (.a (.txt s))
 |cS {i:Nat}:i<c→iF c (.a (.cS i))
 |use {nm:List Nat}:nm∈[nA,nB,nC]→iF c (.a (.use nm))
 |M9:0<c→iF c (.call nF (.cS 0))
 |Io:c=0→iF c (.call nF (.txt [107]))
section
variable {fu n:Nat} {O:ag} {X:aX→ag→Prop} {Q:V→ag→Prop}
theorem eO {b:Nat} (hn:0<n) (hb:0<b) (pR:b<1000) (h:dA O) (H:∀(r:Nat) (af:ag),r<b→dA af→aU 2 O af→Q (.int (r:Int)) af):Wp (ay aw fu n 28 [.ref 2,.int (b:Int)] O) Q X:=match n,hn with
 |m+1,_=>RS hb pR h H
theorem tQ {α:Type} {f:α→V} {xs:List α} {r:Nat} (hr:r<xs.length):∃t,t∈xs∧(xs.map f)[r]?=some (f t):=
 ⟨xs[r],List.getElem_mem hr,by rw [List.getElem?_map,List.getElem?_eq_getElem hr];rfl⟩
theorem Vr {xs:List Nat} {r:Nat} (hr:r<xs.length):di O (.str xs) (.int (r:Int))=some (.str [xs[r]]):=Jw (List.drop_eq_getElem_cons hr)
theorem C5 {C:Calls} {L:Locals} {e:E} {b ss:Ss} {R:Flow→Locals→ag→Prop} {x:Nat} (h:Wp (ev C fu e L O) (λv O=>∃N:Nat,v= .int (N:Int)∧N≤100000∧Wq (jl (f9 (N:Int)) x (ah C fu b) fu 0 L O) (Nx C fu ss R X) X) X):Wq (ah C fu (.cons (.forR x e b) ss) L O) R X:=
 e9 (eB (df h λv O h=>by
  obtain ⟨N,rfl,hN,h⟩:=h
  refine FU ?_
  rw [if_pos (zu (Int.lt_of_le_of_lt (Int.ofNat_le.2 hN) (by decide)))]
  exact h))
theorem DY {C:Calls} {L:Locals} {b ss:Ss} {R:Flow→Locals→ag→Prop} {x N:Nat} (I:Nat→Locals→ag→Prop) (hf:aq+100<fu) (hN:N≤100000) (h0:I 0 L O) (step:∀k L O (K:Locals→ag→Prop),k<N→(∀L O,I (k+1) L O→K L O)→I k L O→Wq (ah C fu b (L.put x (.int (k:Int))) O) (Lp C fu ss R X K) X) (fin:∀L O,I N L O→Wq (ah C fu ss L O) R X):
  Wq (jl (f9 (N:Int)) x (ah C fu b) fu 0 L O) (Nx C fu ss R X) X:=
 xK (λk L O=>k≤N∧I k L O) N (λk L O hI=>⟨hI.1,(Nat.lt_or_eq_of_le hI.1).elim (λhk=>bZ (C9 hk) (.more ⟨hk,step k L O _ hk (λL O h=>⟨hk,h⟩) hI.2⟩)) λhk=>by
  subst hk;exact bZ z8 (.done (fin L O hI.2))⟩) fu 0 L O ⟨Nat.zero_le _,h0⟩ (adl hN (Nat.lt_trans (dh▸by decide) hf))
theorem zw {C:Calls} {L:Locals} {m:Bm} {a:E} {es:Es} {n:Nat} {xs:List V} (h1:ev C fu a L O= .ok (.ref n) O) (g:O[n]?=some (.list xs)) (hm:m.kd= .l) (h:Wp (bx C fu es L O) (λvs O=>Wp (fz m O (.ref n) vs) Q X) X):Wp (ev C fu (.bt m a es) L O) Q X:=
 jm (aS h1 (by rw [hm,if_pos (show qj .l O (.ref n)=true from gX g)];exact jm h))
inductive MI (O:ag) (w:V) (c:Nat):Nat→Locals→ag→Prop where
 |mk {k:Nat} {vs:List V} {ps:List Pz} {x4 x5 x6:Option V} {s:ag} (hq:s[O.length]?=some (.list vs)) (hR:RL (RP s (λi=>O.length<i)) vs ps) (ju:∀p∈ps,iF c p) (hl:ps.length≤k) (hP:dA s) (hE:aU 2 O s):
   MI O w c k [some (.ref 2),some w,some (.int (c:Int)),some (.ref O.length),x4,x5,x6] s
theorem MI.add {w:V} {c k:Nat} {vs:List V} {ps:List Pz} {x4 x5 x6:Option V} {s s':ag} {v:V} {p:Pz} (h2:2<O.length) (hR:RL (RP s (λi=>O.length<i)) vs ps) (ju:∀p∈ps,iF c p) (hl:ps.length≤k) (hE:aU 2 O s) (e:aU 2 s s') (hq:s'[O.length]?=some (.list vs)) (hp:RP s' (λi=>O.length<i) v p) (ib:iF c p) (hP:dA s'):
  MI O w c (k+1) [some (.ref 2),some w,some (.int (c:Int)),some (.ref O.length),x4,x5,x6] (s'.set O.length (.list (vs++[v]))):=by
 have kp:∀i c',O.length<i→s'[i]?=some c'→(s'.set O.length (.list (vs++[v])))[i]?=some c':=λi c' hi g=>fU g (Nat.ne_of_lt hi)
 exact .mk (cW hq) ((hR.mono λv a r=>(r.keep (λi c' hi g=>e.get g (Nat.ne_of_gt (Nat.lt_trans h2 hi))) λ_ h=>h).keep kp λ_ h=>h).push (hp.keep kp λ_ h=>h)) (λp' AM=>(List.mem_append.1 AM).elim (ju _) λAM=>List.mem_singleton.1 AM▸ib) (by rw [List.length_append];exact Nat.succ_le_succ hl) (hP.keep aU.refl.set (Nat.ne_of_gt (Nat.lt_trans (by decide) h2)) (Nat.ne_of_gt h2)) ((hE.trans e).rH (adp _))
theorem aap {c:Nat} {C:Calls} {L:Locals} (h:L.get 2=some (.int (c:Int))):∃(x:A0) (v:V),iF c (.call nF x)∧(∀(s:ag) (F:Nat→Prop),RA s F v x)∧ev C fu (.ite (.cmp .gt (.loc 2) (.int 0)) (.tup (.cons (.str yL) (.cons (.int 0) .nil))) (.tup (.cons (.str qN) (.cons (.str [107]) .nil)))) L O= .ok v O:=
  (Nat.eq_zero_or_pos c).elim (λe=>⟨.txt [107],_,.Io e,λ_ _=> .txt _,pb (t:=decide ((0:Int)<(c:Int))) (aO (dE h) rfl mz) (λq=>absurd (adn q) (by rw [e];decide)) λ_=>rfl⟩)
    λe=>⟨.cS 0,_,.M9 e,λ_ _=> .cS _,pb (t:=decide ((0:Int)<(c:Int))) (aO (dE h) rfl mz) (λ_=>rfl) λq=>absurd (Int.ofNat_lt.2 e) (ado q)⟩
theorem WH:∀{r:Nat} (hr:r<[65,66,67].length),[[65,66,67][r]]∈[nA,nB,nC]
 |0,_=> .head _
 |1,_=> .tail _ (.head _)
 |2,_=> .tail _ (.tail _ (.head _))
theorem Oq {c:Nat} {w:V} (hn:1<n) (hf:aq+100<fu) (hc:c<3) (h:dA O) (h2:2<O.length)
    (H:∀(r:Nat) (af:ag) (vs:List V) (ps:List Pz),O.length≤r→af[r]?=some (.list vs)→RL (RP af (λi=>O.length≤i)) vs ps→(∀p∈ps,iF c p)→ps.length≤3→dA af→aU 2 O af→Q (.ref r) af):
  Wp (ay aw fu (n+1) 29 [.ref 2,w,.int (c:Int)] O) Q X:=by
 have h0:=Nat.lt_of_succ_lt hn
 have x1:=(aj.refl (O:=O)).push (d:= .list [])
 have q2:O.length≠2:=Nat.ne_of_gt h2
 refine dT (L:=[some (.ref 2),some w,some (.int (c:Int)),none,none,none,none]) rfl rfl (by decide) rfl (aV rfl (C5 (eu (aS rfl (eO (b:=4) h0 (by decide) (by decide) (h.ext x1) λN s1 hN Z4 e1=>⟨N,rfl,adj (Nat.le_of_lt hN) (by decide),DY (MI O w c) hf (adj (Nat.le_of_lt hN) (by decide)) (.mk (e1.get bH q2) .nil (λ_ h=>nomatch h) (adp _) Z4 (x1.toT.trans e1)) (λk L s K hk hK h=>?_) λL s h=>?_⟩)))))
 ·cases h with
  |@mk vs ps x4 x5 x6 _ hq hR ju hl hP hE=>
   have dw:vs.length<aq:=adl (hR.length▸hl) (Nat.lt_trans hk (Nat.lt_trans hN (dh▸by decide)))
   refine nV rfl (eO (b:=7) h0 (by decide) (by decide) hP λkd s2 _ gL e2=>?_)
   have jP:=e2.get hq q2
   have Yj:2<s2.length:=Nat.lt_trans h2 (dD jP)
   refine fG (aO rfl rfl lY) (λ_=>?_) λ_=>VS (aO rfl rfl lY) (aO rfl rfl mz) (λpM=>?_) λ_=>fG (aO rfl rfl lY) (λ_=>?_) λ_=>?_
   ·have x3:=(aj.refl (O:=s2)).push (d:= .list (xH.map .str))
    refine n6 (zw rfl jP rfl (ii (wm (ii (aS rfl (ii (lc (aS rfl (eu (aS rfl (eO (b:=5) h0 (by decide) (by decide) (gL.ext x3) λr s3 hr kH e3=>(tQ (f:= .str) (xs:=xH) hr).elim λt ht=>?_)))))))))))
    have mO:=e3.get (x3.get jP) q2
    exact bZ (eD (e3.get bH (Nat.ne_of_gt Yj)) ht.2) (mh (mh (aS (hZ mO dw) (iZ (hK _ _ (MI.add h2 hR ju hl hE (e2.trans (x3.toT.trans e3)) mO (.a _ _ (.txt t)) (.txt ht.1) kH))))))
   ·refine n6 (zw rfl jP rfl (ii (wm (ii (aS rfl (ii (eu (aS rfl (eO (b:=c) h0 (Int.ofNat_lt.1 pM.2) (Nat.lt_trans hc (by decide)) gL λr s3 hr kH e3=>?_)))))))))
    have mO:=e3.get jP q2
    exact mh (mh (aS (hZ mO dw) (jc (hK _ _ (MI.add h2 hR ju hl hE (e2.trans e3) mO (.a _ _ (.cS r)) (.cS hr) kH)))))
   ·refine n6 (zw rfl jP rfl (ii (wm (ii (aS rfl (ii (lc (aS rfl (eu (aS rfl (eO (b:=3) h0 (by decide) (by decide) gL λr s3 hr kH e3=>?_)))))))))))
    have mO:=e3.get jP q2
    have x4:=(aj.refl (O:=s3)).push (d:= .list [])
    exact bZ (Vr (xs:=[65,66,67]) hr) (ii (aS rfl (mh (mh (aS (hZ (x4.get mO) dw) (n1 (jc (hK _ _ (MI.add h2 hR ju hl hE (e2.trans (e3.trans x4.toT)) (x4.get mO) (.a _ _ (.use [[65,66,67][r]] s3.length (dD mO) bH)) (.use (WH hr)) (kH.ext x4))))))))))
   ·obtain ⟨x,v,hx,hv,T7⟩:=aap (fu:=fu) (O:=s2) (C:=ay aw fu n) (c:=c) (L:=[some (.ref 2),some w,some (.int (c:Int)),some (.ref O.length),some (.int (k:Int)),some (.int (kd:Int)),x6]) rfl
    have x7:=(aj.refl (O:=s2)).push (d:= .list [v])
    have x8:=(aj.refl (O:=s2++[.list [v]])).push (d:= .list [.ref s2.length])
    have x9:=x7.trans x8
    exact aV T7 (dS (ip rfl jP rfl rfl (hZ (x9.get jP) dw)) (n1 (jc (hK _ _ (MI.add h2 hR ju hl hE (e2.trans x9.toT) (x9.get jP) (.call nF x _ s2.length v (adk (dD jP) x7.1) bH (dD jP) (x8.get bH) (hv _ _)) hx (gL.ext x9))))))
 ·cases h with
  |@mk vs ps x4 x5 x6 _ hq hR ju hl hP hE=>exact dj rfl (.ret (H _ _ vs ps (adp _) hq (hR.mono λv a r=>r.keep (λ_ _ _ g=>g) λ_ h=>Nat.le_of_lt h) ju (adj hl (Nat.le_of_lt_succ hN)) hP hE))
end
noncomputable def wA:A0→List Nat
 | .txt s=>s
 | .cS i=>[if i=0 then 112 else 113]
 | .use nm=>96::nm
noncomputable def wP:Pz→List Nat
 | .a x=>wA x
 | .call nm x=>96::nm++([40]++wA x++[41])
noncomputable def bq (ps:List Pz):List Nat:=cu [32] (ps.map wP)
noncomputable def ro:A0→Prop
 | .cS i=>i<2
 | .txt s=>ba s
 | .use nm=>ba nm
noncomputable def yf:Pz→Prop
 | .a x=>ro x
 | .call nm x=>ro x∧ba nm
section
variable {α:Type} {R:V→α→Prop} {vs:List V} {l:List α} {O:ag} {F:Nat→Prop} {v:V} {k:Nat}
@[elab_as_elim] theorem RL.item {P:Option V→Prop} (h:RL R vs l) (hk:k≤l.length) (h1:∀v a,l[k]?=some a→R v a→k<l.length→P (some v)) (h2:k=l.length→P none):P vs[k]?:=
  (Nat.lt_or_eq_of_le hk).elim (λq=>(h.get q).elim λv e=>e.elim λa e=>e.1▸h1 v a e.2.1 e.2.2 q) λq=>(List.getElem?_eq_none (Nat.le_of_eq (h.length.trans q.symm))).symm▸h2 q
end
section
variable {fu n:Nat} {O:ag} {X:aX→ag→Prop} {Q:V→ag→Prop}
theorem A5 {α:Type} {o:Out α} {P:α→ag→Prop} (h:Wp o P λ_ _=>False):∃v s,o= .ok v s∧P v s:=by
 cases h with
 |ok h=>exact ⟨_,_,rfl,h⟩
 |exc h=>exact h.elim
theorem v3 {item:Nat→ag→Option (Option V)} {f:V→ag→Out V} {m i:Nat} {acc:List V} {s s':ag} {x y:V} (h:item i s=some (some x)) (e:f x s= .ok y s') (hl:acc.length<aq):fN item f (m+1) i acc s=fN item f m (i+1) (acc++[y]) s':=by
 show ((item i s).bind λo=>bK o (some (acc,s)) λx=>pG (f x s) none λv af=>if acc.length<aq then fN item f m (i+1) (acc++[v]) af else none)=_
 rw [h]
 show pG (f x s) none _=_
 rw [e];exact if_pos hl
theorem xh {item:Nat→ag→Option (Option V)} {f:V→ag→Out V} {m i:Nat} {acc:List V} {s:ag} (h:item i s=some none):fN item f (m+1) i acc s=some (acc,s):=by
 show ((item i s).bind _)=_
 rw [h];rfl
theorem DS (hf:aq+100<fu):∃m,fu=m+3:=⟨fu-3,(Nat.sub_add_cancel (Nat.le_of_lt (adl (adj (by decide) (Nat.le_add_left 100 aq)) hf))).symm⟩
section
variable {C:Calls} {L:Locals} {bc it:E} {caps:List Nat} {r:Nat} {s s1 s2 s3:ag} {x y x2 y2:V}
theorem Ao {ys:List V} (h1:ev C fu it L s= .ok (.ref r) s1) (h2:fN (j4 r) (λv s=>ev C fu bc (some v::caps.map L.get) s) fu 0 [] s1=some (ys,s2)):ev C fu (.comp bc caps it) L s= .ok (.ref s2.length) (s2++[.list ys]):=de h1 (congrArg m5 h2)
theorem J4 (hf:aq+100<fu) (h1:ev C fu it L s= .ok (.ref r) s1) (g:s1[r]?=some (.list [])):ev C fu (.comp bc caps it) L s= .ok (.ref s1.length) (s1++[.list []]):=Ao h1 ((DS hf).elim λm e=>by
 conv=>lhs;arg 3;rw [e]
 exact xh (jO g))
theorem Ck (hf:aq+100<fu) (h1:ev C fu it L s= .ok (.ref r) s1) (g:s1[r]?=some (.list [x])) (e:ev C fu bc (some x::caps.map L.get) s1= .ok y s2) (e2:aj s1 s2):ev C fu (.comp bc caps it) L s= .ok (.ref s2.length) (s2++[.list [y]]):=Ao h1 ((DS hf).elim λm e0=>by
 conv=>lhs;arg 3;rw [e0]
 exact (v3 (jO g) e (by decide)).trans (xh (jO (e2.get g))))
theorem NJ (hf:aq+100<fu) (h1:ev C fu it L s= .ok (.ref r) s1) (g:s1[r]?=some (.list [x,x2])) (e:ev C fu bc (some x::caps.map L.get) s1= .ok y s2) (e2:aj s1 s2) (e':ev C fu bc (some x2::caps.map L.get) s2= .ok y2 s3) (e3:aj s2 s3):ev C fu (.comp bc caps it) L s= .ok (.ref s3.length) (s3++[.list [y,y2]]):=Ao h1 ((DS hf).elim λm e0=>by
 conv=>lhs;arg 3;rw [e0]
 exact (v3 (jO g) e (by decide)).trans ((v3 (acc:=[y]) (jO (e2.get g)) e' (show 1<aq by decide)).trans (xh (jO (e3.get (e2.get g))))))
end
section
variable {s:ag} {a b d:Nat} {xs:List V} {ys:List PySem.PyData} {x:V} {y e:PySem.PyData}
theorem oD (h:s[a]?=some (.list xs)) (e:V.pd s d xs=some ys):V.py s (d+1) (.ref a)=some (.list ys):=(gX (d:=Option.none) (f:=λvs=>(jj (V.py s d) vs).bind λxs=>some (PySem.PyData.list xs)) h).trans (by rw [show jj (V.py s d) xs=some ys from e];rfl)
theorem iB (h:V.py s d x=some y) (h2:V.pd s d xs=some ys):V.pd s d (x::xs)=some (y::ys):=by
 show ((V.py s d x).bind λx=>(jj (V.py s d) xs).bind λxs=>some (x::xs))=_
 rw [h,show jj (V.py s d) xs=some ys from h2];rfl
theorem tG (h:V.pd s d xs=some ys):V.py s (d+1) (.tup xs)=some (.tuple ys):=by
 show ((jj (V.py s d) xs).bind λxs=>some (PySem.PyData.tuple xs))=_
 rw [show jj (V.py s d) xs=some ys from h];rfl
structure mB (d:PySem.PyData) (k:Nat):Prop where
 l:PySem.PyData.canLay0 d=true
 d:PySem.PyData.depth d≤k
inductive ph (k:Nat):List PySem.PyData→Prop where
 |nil:ph k []
 |cons {d:PySem.PyData} {ds:List PySem.PyData}:mB d k→ph k ds→ph k (d::ds)
theorem pA {x:List Nat} {k:Nat} (h:ba x):mB (dK x) k:=⟨HD h,Nat.zero_le _⟩
theorem vz {k:Nat} {ds:List PySem.PyData} (h:ph k ds):PySem.PyData.canLayAll0 ds=true∧PySem.PyData.depthAll ds≤k:=by
 induction h with
 |nil=>exact ⟨rfl,Nat.zero_le _⟩
 |cons a _ ih=>exact ⟨(congrArg (and · _) a.l).trans ih.1,Nat.max_le.2 ⟨a.d,ih.2⟩⟩
theorem oo {k:Nat} {ds:List PySem.PyData} (h:ph k ds):mB (.list ds) (k+1):=⟨(vz h).1,Nat.succ_le_succ (vz h).2⟩
theorem uC {k:Nat} {ds:List PySem.PyData} (h:ph k ds):mB (.tuple ds) (k+1):=⟨(vz h).1,Nat.succ_le_succ (vz h).2⟩
theorem Mz {k:Nat} (h:mB y k) (hk:k≤64):PySem.SeqAt.shaped y=true:=by
 unfold PySem.SeqAt.shaped
 rw [h.l,decide_eq_true (adj h.d hk)];rfl
theorem cy {x:List Nat} (h:x.all (λc=>decide (c<128))=true):ba x:=λc hc=>adn (List.all_eq_true.1 h c hc)
theorem vO {u v:V} {k j:Nat} (h1:V.py s 4 u=some y) (h2:V.py s 4 v=some e) (l1:mB y k) (l2:mB e j) (hk:k≤64) (hj:j≤64):jU s u v=some (PySem.PyData.eqv y e):=by
 unfold jU
 rw [h1,h2]
 exact if_pos (by rw [Mz l1 hk,Mz l2 hj];rfl)
theorem Zt {F:Nat→Prop} {w:V} {x:A0} (h:RA s F w x):ro x→∃d,V.py s 2 w=some d∧mB d 2:=h.el (λt ho=>⟨_,tG (iB rfl (iB rfl rfl)),uC (.cons (pA (cy rfl)) (.cons (pA ho) .nil))⟩)
  (λi _=>⟨_,tG (iB rfl (iB rfl rfl)),uC (.cons (pA (cy rfl)) (.cons ⟨rfl,Nat.zero_le _⟩ .nil))⟩)
  λnm r _ g ho=>⟨_,tG (iB rfl (iB rfl (iB (oD g rfl) rfl))),uC (.cons (pA (cy rfl)) (.cons (pA ho) (.cons (oo .nil) .nil)))⟩
theorem LX {t:Bool} {u v:Nat} (h:jU s (.ref u) (.ref v)=some t):co .ne s (.ref u) (.ref v)=some (.bool (!t)):=congrArg (Option.map λx=>V.bool (!x)) h
theorem Vo (h1:s[a]?=some (.list [])) (h2:s[b]?=some (.list [])):co .ne s (.ref a) (.ref b)=some (.bool false):=LX (t:=true) (vO (oD h1 rfl) (oD h2 rfl) (oo (k:=0) .nil) (oo (k:=0) .nil) (by decide) (by decide))
theorem Xv {F:Nat→Prop} {q:Nat} {w:V} {x:A0} (h1:s[a]?=some (.list [.ref q])) (hq:s[q]?=some (.list [w])) (hw:RA s F w x) (ho:ro x) (h2:s[b]?=some (.list [])):co .ne s (.ref a) (.ref b)=some (.bool true):=(Zt hw ho).elim λd h=>LX (t:=false) (vO (oD h1 (iB (oD hq (iB h.1 rfl)) rfl)) (oD h2 rfl) (oo (oo (k:=2) (.cons h.2 .nil)|>λl=> .cons l .nil)) (oo (k:=0) .nil) (by decide) (by decide))
end
theorem yW {m:Nat} (h:m≤100):m+8≤aq:=adj (Nat.add_le_add_right h 8) (dh▸by decide)
theorem JB {l:List (List Nat)} (h:l.length≤100):(l.map V.str).length<aq:=(List.length_map V.str).symm▸adl h (dh▸by decide)
theorem abf {i:Nat} (h:i<2):di O (.str [112,113]) (.int (i:Int))=some (.str [if i=0 then 112 else 113]):=(Nat.lt_succ_iff_lt_or_eq.1 h).elim (λh=>by rw [Nat.lt_one_iff.1 h];rfl) λh=>by rw [h];rfl
theorem Ku {nm:List Nat} {x:A0} (h:(wP (.call nm x)).length≤100):(96::nm).length≤100∧([40]++wA x++[41]).length≤100:=by
 rw [show wP (.call nm x)=96::nm++([40]++wA x++[41]) from rfl,List.length_append] at h
 exact ⟨adj (adm _ _) h,adj (Nat.le_add_left _ _) h⟩
theorem LG {x:A0} (h:([40]++wA x++[41]).length≤100):([40]++wA x).length≤100∧(wA x).length≤100:=by
 rw [List.length_append] at h
 have h1:=adj (adm _ _) h
 exact ⟨h1,adj (Nat.le_add_left _ _) (List.length_append (as:=[40]) (bs:=wA x)▸h1)⟩
theorem qd {a b:List Nat} (h:(a++b).length≤100):e8 .add (.str a) (.str b)=some (.str (a++b)):=ng (adj h (adj (adm _ _) (yW (adp _))))
abbrev bW:Ss:=KC
noncomputable def Dx (C:Calls) (F:Nat→Prop) (x:A0):Prop:=∀q w s,s[q]?=some (.list [w])→RA s F w x→∃s',C 30 [.ref q] s= .ok (.str (wA x)) s'∧aj s s'
noncomputable def vK (p:Pz) (P:A0→Prop):Prop:=match p with
 | .a _=>True
 | .call _ x=>P x
theorem QY {C:Calls} {ss:Ss} {R:Flow→Locals→ag→Prop} {K:Locals→ag→Prop} {F:Nat→Prop} {r q:Nat} {l:List (List Nat)} {v:V} {p:Pz} {x3:Option V} (hf:aq+100<fu) (hl:l.length≤100) (hq:O[q]?=some (.list (l.map .str))) (hr:RP O F v p):yf p→(wP p).length≤100→vK p (Dx C F)→
    (∀s' x3,aj O s'→s'[q]?=some (.list (l.map .str))→K [some (.ref r),some (.ref q),some v,x3] (s'.set q (.list ((l++[wP p]).map .str))))→Wq (ah C fu (fC (bf 1 bW)) [some (.ref r),some (.ref q),some v,x3] O) (Lp C fu ss R X K) X:=by
 have app:∀{s:ag} {w:List Nat},s[q]?=some (.list (l.map .str))→fz .append s (.ref q) [.str w]= .ok .none (s.set q (.list ((l++[w]).map .str))):=λg=>xO l _▸hZ g (JB hl)
 refine hr.el (λv x hr=>hr.el (λt _ _ _ hK=>cN rfl (dS (ip rfl hq rfl rfl (app hq)) (iZ (hK _ _ .refl hq)))) (λi ib _ _ hK=>fH rfl (cN rfl (dS (ip rfl hq rfl (aJ (bj rfl rfl (abf ib)) rfl) (app hq)) (jc (hK _ _ .refl hq))))) (λnm a hF ha ib kM _ hK=>?_)) λnm x a q' w hF ha ZA vP hx ib kM Cj hK=>?_
 ·obtain ⟨s1,hc,z1⟩:=Cj q' w O vP hx
  have y1:=z1.push (d:= .list ([wA x].map .str))
  have y2:=y1.push (d:= .list [])
  have i1:=Ku kM
  have i2:=LG i1.2
  exact fH rfl (fH rfl (aV (jf rfl rfl (aJ (Ck hf rfl ha (d8 rfl hc) z1) rfl) (qv (l:=[wA x]) bH (adj (Nat.add_le_add_right i2.2 2) (adj (by decide) (yW (adp _)))))) (dS (ip rfl (y1.get hq) rfl (aJ (bG (bG rfl rfl (qd (a:=[96]) (b:=nm) i1.1)) (pb (aO rfl rfl (Xv (y2.get ha) (y2.get vP) (hx.keep (λ_ _ _ g=>y2.get g) λ_ h=>h) ib.1 bH)) (λ_=>bG (bG rfl rfl (qd i2.1)) rfl (qd i1.2)) (λq=>nomatch q)) (qd kM)) rfl) (app (y2.get hq))) (jc (hK _ _ y2 (y2.get hq))))))
 ·have y1:=(aj.refl (O:=O)).push (d:= .list [])
  have y2:=y1.push (d:= .list [])
  exact fH rfl (fH rfl (aV (jf rfl rfl (aJ (J4 hf rfl ha) rfl) (qv (l:=[]) bH (by decide))) (dS (ip rfl (y1.get hq) rfl (aJ (bG (bG rfl rfl (qd (a:=[96]) (b:=nm) kM)) (pb (v:= .str []) (aO rfl rfl (Vo (y2.get ha) bH)) (λq=>nomatch q) λ_=>rfl) ((qd (by rw [List.append_nil];exact kM)).trans (by rw [List.append_nil];rfl))) rfl) (app (y2.get hq))) (jc (hK _ _ y2 (y2.get hq))))))
inductive WI (O:ag) (r:Nat) (ps:List Pz) (k:Nat):Locals→ag→Prop where
 |mk {x2 x3:Option V} {s:ag} (hk:k≤ps.length) (he:aj O s) (hq:s[O.length]?=some (.list (((ps.take k).map wP).map .str))):WI O r ps k [some (.ref r),some (.ref O.length),x2,x3] s
theorem FN {β:Type} {f:Pz→β} {ps:List Pz} {k:Nat} {p:Pz} (h:ps[k]?=some p):(ps.take k).map f++[f p]=(ps.take (k+1)).map f:=by rw [List.take_add_one,h,List.map_append];rfl
theorem KW {F:Nat→Prop} {r:Nat} {vs:List V} {ps:List Pz} (hf:aq+100<fu) (g:O[r]?=some (.list vs)) (hR:RL (RP O F) vs ps) (hl:ps.length≤100) (hP:∀p∈ps,yf p∧(wP p).length≤100∧vK p (Dx (ay aw fu n) F)) (hw:(bq ps).length≤100000):
  ∃af,ay aw fu (n+1) 30 [.ref r] O= .ok (.str (bq ps)) af∧aj O af:=
 (A5 (o:=ay aw fu (n+1) 30 [.ref r] O) (P:=λv s=>v= .str (bq ps)∧aj O s) (dT (L:=[some (.ref r),none,none,none]) rfl rfl (by decide) rfl (aV rfl (p6 ps.length (WI O r ps) (adl hl (adl (Nat.le_add_left 100 aq) hf)) (aS rfl ⟨_,rfl,.mk (Nat.zero_le _) (aj.refl.push) bH,λk L s K hK h=>by
  cases h with
  |mk hk he hq=>exact ⟨hk,bZ (jO (he.get g)) (hR.item hk (λv p hp hr aK=> .more ⟨aK,by
    have o:=hP p (List.mem_of_getElem? hp)
    exact QY hf (adj (Nat.le_of_eq (List.length_map _)) (adj (List.length_take_le' _ _) hl)) hq (hr.keep (λ_ _ _ g=>he.get g) λ_ h=>h) o.1 o.2.1 o.2.2 λs' x3 e h=>hK _ _ (.mk aK ((he.trans e).set (adp _)) (FN hp▸cW h))⟩)
    λe=> .done (dj (jf rfl rfl rfl (qv hq (by rw [e,List.take_length];exact adj (Nat.add_le_add_right hw 1) (dh▸by decide)))) (.ret ⟨by rw [e,List.take_length];rfl,he⟩)))⟩⟩))))).elim λv h=>h.elim λs h=>⟨s,h.2.1▸h.1,h.2.2⟩
theorem F9 (hn:0<n) (hf:aq+100<fu) {F:Nat→Prop} {x:A0} (ho:ro x) (hl:(wA x).length≤100):Dx (ay aw fu n) F x:=match n,hn with
 |n+1,_=>λq w s g hw=>KW (ps:=[.a x]) hf g (.cons (.a _ _ hw) .nil) (by show 1≤100;decide) (λp hp=>List.mem_singleton.1 hp▸⟨ho,hl,trivial⟩) (adj hl (by decide))
theorem Xd {F:Nat→Prop} {r:Nat} {vs:List V} {ps:List Pz} (hn:0<n) (hf:aq+100<fu) (g:O[r]?=some (.list vs)) (hR:RL (RP O F) vs ps) (hl:ps.length≤100) (hP:∀p∈ps,yf p∧(wP p).length≤100) (hw:(bq ps).length≤100000):
  ∃af,ay aw fu (n+1) 30 [.ref r] O= .ok (.str (bq ps)) af∧aj O af:=
 KW hf g hR hl (λp hp=>⟨(hP p hp).1,(hP p hp).2,match p,hP p hp with
  | .a _,_=>trivial
  | .call _ _,h=>F9 hn hf h.1.1 (LG (Ku h.2).2).2⟩) hw
end
noncomputable def fA (as:List A0):A0→A0
 | .cS i=>as.getD i (.txt [])
 |x=>x
noncomputable def fP (as:List A0):Pz→Pz
 | .a x=> .a (fA as x)
 | .call nm x=> .call nm (fA as x)
noncomputable def xC (k:Nat):A0→Prop
 | .cS i=>i<k
 |_=>True
noncomputable def w0 (k:Nat):Pz→Prop
 | .a x=>xC k x
 | .call _ x=>xC k x
inductive dP (O:ag) (F:Nat→Prop) (v:V) (x:A0):Prop where
 |mk (q:Nat) (w:V) (e:v= .ref q) (f:F q) (g:O[q]?=some (.list [w])) (r:RA O F w x):dP O F v x
section
variable {O af:ag} {F F':Nat→Prop} {v w:V} {x:A0} {p:Pz} {q:Nat}
theorem dP.keep (h:dP O F v x) (k:∀i c,F i→O[i]?=some c→af[i]?=some c) (f:∀i,F i→F' i):dP af F' v x:=match h with
 |⟨q,w,e,h1,h2,h3⟩=>⟨q,w,e,f _ h1,k _ _ h1 h2,h3.keep k f⟩
theorem RA.old (h:RA O F v x):RA O (λi=>F i∧i<O.length) v x:=h.el .txt .cS λnm r a b=> .use nm r ⟨a,dD b⟩ b
theorem RP.old (h:RP O F v p):RP O (λi=>F i∧i<O.length) v p:=h.el (λv x h=> .a v x h.old) λnm x r q w a b c d e=> .call nm x r q w ⟨a,dD b⟩ b ⟨c,dD d⟩ d e.old
theorem RP.inv (h:RP O F v (.a x)):RA O F v x:=by
 cases h with
 |a _ _ h=>exact h
theorem dP.old (h:dP O F v x):dP O (λi=>F i∧i<O.length) v x:=match h with
 |⟨q,w,e,h1,h2,h3⟩=>⟨q,w,e,⟨h1,dD h2⟩,h2,h3.old⟩
end
section
variable {fu n:Nat} {O:ag} {X:aX→ag→Prop} {Q:V→ag→Prop}
theorem KD {a b:Nat} {xs ys:List V} (h:O[a]?=some (.list xs)) (h2:O[b]?=some (.list ys)) (ne:a≠b) (hl:xs.length+ys.length≤aq):jr .add O (.ref a) (.ref b)= .ok (.ref a) (O.set a (.list (xs++ys))):=
  (gX (d:=Out.stuck) (f:=λxs=>eZ O b .stuck λys=>if a≠b∧xs.length+ys.length≤aq then Out.ok (V.ref a) (O.set a (.list (xs++ys))) else .stuck) h).trans ((gX (d:=Out.stuck) (f:=λys=>if a≠b∧xs.length+ys.length≤aq then Out.ok (V.ref a) (O.set a (.list (xs++ys))) else .stuck) h2).trans (if_pos ⟨ne,hl⟩))
abbrev bF:Ss:=Ic
noncomputable def Fo (F:Nat→Prop) (m i:Nat):Prop:=(F i∧i<m)∨m<i
inductive vj (C:Calls) (O:ag) (F:Nat→Prop) (r a:Nat) (ps:List Pz):Prop where
 |mk (af:ag) (vs:List V) (c:C 31 [.ref r,.ref a] O= .ok (.ref O.length) af) (e:aj O af) (g:af[O.length]?=some (.list vs)) (R:RL (RP af (Fo F O.length)) vs ps):vj C O F r a ps
noncomputable def DT (C:Calls) (a:Nat) (bY:List V) (as:List A0) (x:A0):Prop:=∀(F:Nat→Prop) q w s,s[q]?=some (.list [w])→RA s F w x→s[a]?=some (.list bY)→RL (dP s F) bY as→vj C s F q a [.a (fA as x)]
theorem RL.one {α:Type} {R:V→α→Prop} {vs:List V} {y:α} {P:Prop} (h:RL R vs [y]) (k:∀v,vs=[v]→R v y→P):P:=by
 cases h with
 |cons r h=>cases h with
  |nil=>exact k _ rfl r
theorem abx {F:Nat→Prop} {m i:Nat} (h:Fo F m i):F i∨m≤i:=h.imp And.left Nat.le_of_lt
theorem abm {as:List A0} {i:Nat} {x:A0} (h:as[i]?=some x):fA as (.cS i)=x:=by
 show as.getD i (.txt [])=x
 rw [List.getD_eq_getElem?_getD,h];rfl
theorem TC {C:Calls} {ss:Ss} {R:Flow→Locals→ag→Prop} {K:Locals→ag→Prop} {F:Nat→Prop} {r a m:Nat} {xs bY:List V} {as:List A0} {v:V} {p:Pz} (hf:aq+100<fu) (hl:xs.length≤100) (hq:O[m]?=some (.list xs)) (ga:O[a]?=some (.list bY)) (hA:RL (dP O (λi=>F i∧i<m)) bY as) (hr:RP O (λi=>F i∧i<m) v p):w0 as.length p→vK p (DT C a bY as)→
    (∀s' y,aj O s'→s'[m]?=some (.list xs)→RP s' (Fo F m) y (fP as p)→K [some (.ref r),some (.ref a),some (.ref m),some v] (s'.set m (.list (xs++[y]))))→Wq (ah C fu (fC (bf 1 bF)) [some (.ref r),some (.ref a),some (.ref m),some v] O) (Lp C fu ss R X K) X:=by
 have lx:xs.length<aq:=adl hl (dh▸by decide)
 have hm:=dD hq
 refine hr.el (λv x hr=>hr.el (λt _ _ hK=>fH rfl (fH rfl (dS (ip rfl hq rfl rfl (hZ hq lx)) (jc (hK _ _ .refl hq (.a _ _ (.txt t))))))) (λi hi _ hK=>(hA.get hi).elim λav h=>h.elim λax h=>?_) (λnm b hF hb _ _ hK=>?_)) λnm x b q w hF hb ZA vP hx _ Cj hK=>?_
 ·cases Cj _ q w O vP hx ga hA with
  |mk s1 gp hc z1 RQ hw=>
   refine hw.one λw' e hw=>?_
   have y1:=aj.refl (O:=s1) |>.push (d:= .list [.ref O.length])
   have z2:=z1.trans y1
   exact fH rfl (cN rfl (dS (ip rfl hq rfl (aJ (mZ (aJ rfl (aJ rfl (aJ (Ck hf rfl hb (d8 rfl hc) z1) rfl)))) rfl) (hZ (z2.get hq) lx)) (jc (hK _ _ z2 (z2.get hq) (.call nm (fA as x) _ O.length w' (.inr (adk hm z1.1)) bH (.inr hm) (y1.get (e▸RQ)) (hw.inv.keep (λi c _ g=>y1.get g) λi hi=>hi.elim (λh=> .inl h.1) λh=> .inr (Nat.lt_trans hm h)))))))
 ·cases h.2.2 with
  |mk q w e hF hg hr=>exact cN rfl (yG rfl (bj rfl rfl (eD ga (e▸h.1))) (KD hq hg (Nat.ne_of_gt hF.2) lx) rfl (iZ (hK _ _ .refl hq (.a _ _ (abm h.2.1▸hr.keep (λ_ _ _ g=>g) λ_=> .inl)))))
 ·have y1:=(aj.refl (O:=O)).push (d:= .list [])
  exact fH rfl (cN rfl (dS (ip rfl hq rfl (aJ (mZ (aJ rfl (aJ rfl (aJ (J4 hf rfl hb) rfl)))) rfl) (hZ (y1.get hq) lx)) (jc (hK _ _ y1 (y1.get hq) (.a _ _ (.use nm _ (.inr hm) bH))))))
inductive FI (O:ag) (F:Nat→Prop) (r a:Nat) (as:List A0) (ps:List Pz) (k:Nat):Locals→ag→Prop where
 |mk {xs:List V} {x3:Option V} {s:ag} (hk:k≤ps.length) (he:aj O s) (hq:s[O.length]?=some (.list xs)) (hR:RL (RP s (Fo F O.length)) xs ((ps.take k).map (fP as))):FI O F r a as ps k [some (.ref r),some (.ref a),some (.ref O.length),x3] s
theorem FI.next {F:Nat→Prop} {r a k:Nat} {as:List A0} {ps:List Pz} {xs:List V} {x3:Option V} {s s':ag} {y:V} {p:Pz} (aK:k<ps.length) (hp:ps[k]?=some p) (he:aj O s) (e:aj s s') (hq:s'[O.length]?=some (.list xs)) (hR:RL (RP s (Fo F O.length)) xs ((ps.take k).map (fP as))) (hy:RP s' (Fo F O.length) y (fP as p)):
  FI O F r a as ps (k+1) [some (.ref r),some (.ref a),some (.ref O.length),x3] (s'.set O.length (.list (xs++[y]))):=
 have kp:∀i c,Fo F O.length i→s'[i]?=some c→(s'.set O.length (.list (xs++[y])))[i]?=some c:=λi c hi g=>fU g (hi.elim (λh=>Nat.ne_of_gt h.2) Nat.ne_of_lt)
 .mk aK ((he.trans e).set (adp _)) (cW hq) (FN hp▸(hR.mono λv p h=>(h.keep (λi c _ g=>e.get g) λ_ h=>h).keep kp λ_ h=>h).push (hy.keep kp λ_ h=>h))
theorem FI.fin {F:Nat→Prop} {r a:Nat} {as:List A0} {ps:List Pz} {L:Locals} {s:ag} {C:Calls} (h:FI O F r a as ps ps.length L s) (c:C 31 [.ref r,.ref a] O= .ok (.ref O.length) s):vj C O F r a (ps.map (fP as)):=by
 cases h with
 |mk _ he hq hR=>exact ⟨s,_,c,he,hq,List.take_length (l:=ps)▸hR⟩
theorem Jv {F:Nat→Prop} {r a:Nat} {vs bY:List V} {ps:List Pz} {as:List A0} (hf:aq+100<fu) (g:O[r]?=some (.list vs)) (hR:RL (RP O F) vs ps) (ga:O[a]?=some (.list bY)) (hA:RL (dP O F) bY as) (hl:ps.length≤100) (hP:∀p∈ps,w0 as.length p∧vK p (DT (ay aw fu n) a bY as)):vj (ay aw fu (n+1)) O F r a (ps.map (fP as)):=
  (A5 (o:=ay aw fu (n+1) 31 [.ref r,.ref a] O) (P:=λv s=>v= .ref O.length∧FI O F r a as ps ps.length [some (.ref r),some (.ref a),some (.ref O.length),none] s) (dT (L:=[some (.ref r),some (.ref a),none,none]) rfl rfl (by decide) rfl (aV rfl (p6 ps.length (FI O F r a as ps) (adl hl (adl (Nat.le_add_left 100 aq) hf)) (aS rfl ⟨_,rfl,.mk (xs:=[]) (Nat.zero_le _) (aj.refl.push) bH .nil,λk L s K hK h=>by
  cases h with
  |mk hk he hq DG=>exact ⟨hk,bZ (jO (he.get g)) (hR.item hk (λv p hp hr aK=> .more ⟨aK,by
    have o:=hP p (List.mem_of_getElem? hp)
    exact TC hf (adj (Nat.le_of_eq (DG.length.trans (List.length_map _))) (adj (List.length_take_le' _ _) hl)) hq (he.get ga) (hA.mono λv x h=>h.old.keep (λi c _ g=>he.get g) λ_ h=>h) (hr.old.keep (λi c _ g=>he.get g) λ_ h=>h) o.1 o.2 λs' y e h hy=>hK _ _ (.next aK hp he e h DG hy)⟩)
    λe=> .done (dj rfl (.ret ⟨rfl,e▸ .mk hk he hq DG⟩)))⟩⟩))))).elim λv h=>h.elim λs h=>h.2.2.fin (h.2.1▸h.1)
theorem Uh (hn:0<n) (hf:aq+100<fu) {a:Nat} {bY:List V} {as:List A0} {x:A0} (hx:xC as.length x):DT (ay aw fu n) a bY as x:=match n,hn with
 |n+1,_=>λF q w s g hw ga hA=>Jv (ps:=[.a x]) hf g (.cons (.a _ _ hw) .nil) ga hA (by show 1≤100;decide) λp hp=>List.mem_singleton.1 hp▸⟨hx,trivial⟩
theorem WM {F:Nat→Prop} {r a:Nat} {vs bY:List V} {ps:List Pz} {as:List A0} (hn:0<n) (hf:aq+100<fu) (g:O[r]?=some (.list vs)) (hR:RL (RP O F) vs ps) (ga:O[a]?=some (.list bY)) (hA:RL (dP O F) bY as) (hl:ps.length≤100) (hP:∀p∈ps,w0 as.length p):vj (ay aw fu (n+1)) O F r a (ps.map (fP as)):=
 Jv hf g hR ga hA hl λp hp=>⟨hP p hp,match p,hP p hp with
  | .a _,_=>trivial
  | .call _ _,h=>Uh hn hf h⟩
end
abbrev iR:=List (List Nat×List Pz)
structure LW where
 text:List Nat
 dQ:List Nat
 aL:iR
 aM:Bool
 fault:Option (List Nat×Nat)
 bV:List (Nat×List Nat)
 room:Int
 uses:Nat
noncomputable def wu:Option (List Nat×Nat)→V
 |none=> .none
 |some (k,p)=> .tup [.str k,.int (p:Int)]
noncomputable def Jm:List Nat:=[116,101,120,116]
noncomputable def L9:List Nat:=[100,117,101]
noncomputable def C2:List Nat:=[109,97,99,114,111,115]
noncomputable def Dh:List Nat:=[97,99,116,105,118,101]
noncomputable def uN:List Nat:=[102,97,117,108,116]
noncomputable def I4:List Nat:=[110,101,116,116,121,112,101,115]
noncomputable def DX:List Nat:=[114,111,111,109]
noncomputable def AV:List Nat:=[117,115,101,115]
noncomputable def wD (W:LW):List (List Nat×V):=[(Jm,.str W.text),(L9,.str W.dQ),(C2,.ref 3),(Dh,.bool W.aM),(uN,wu W.fault),(I4,.ref 4),(DX,.int W.room),(AV,.int (W.uses:Int))]
noncomputable def wC (W:LW):Cell:= .dict (wD W)
noncomputable def gm (i:Nat):Prop:=6≤i
noncomputable def kI (O:ag) (v:V) (ps:List Pz):Prop:=∃r vs,v= .ref r∧6≤r∧O[r]?=some (.list vs)∧RL (RP O gm) vs ps
structure aZ (O:ag) (W:LW):Prop where
 w:O[5]?=some (wC W)
 m:∃es,O[3]?=some (.dict es)∧bo (kI O) es W.aL
 n:O[4]?=some (.list (W.bV.map gQ))
 p:dA O
 l:6≤O.length
noncomputable def Up (O af:ag):Prop:=O.length≤af.length∧∀i,i<O.length→6≤i→af[i]?=O[i]?
section
variable {O af hS:ag} {W W':LW} {i x:Nat} {c d:Cell}
theorem Up.refl:Up O O:=⟨adp _,λ_ _ _=>rfl⟩
theorem Up.trans (h:Up O af) (h2:Up af hS):Up O hS:=⟨adj h.1 h2.1,λi hi h6=>(h2.2 i (adk hi h.1) h6).trans (h.2 i hi h6)⟩
theorem aj.up (h:aj O af):Up O af:=⟨h.1,λi hi _=>h.2 i hi⟩
theorem aU.up (h:aU x O af) (hx:x<6):Up O af:=⟨h.1,λi hi h6=>h.2 i hi (Nat.ne_of_gt (adk hx h6))⟩
theorem Up.get (h:Up O af) (g:O[i]?=some c) (h6:6≤i):af[i]?=some c:=(h.2 i (dD g) h6).trans g
theorem kI.up {v:V} {ps:List Pz} (h:kI O v ps) (u:Up O af):kI af v ps:=match h with
 |⟨r,vs,e,h1,h2,h3⟩=>⟨r,vs,e,h1,u.get h2 h1,h3.mono λv p h=>h.keep (λi c hi g=>u.get g hi) λ_ h=>h⟩
theorem aZ.move (h:aZ O W) (u:Up O af) (hw:af[5]?=some (wC W')) (h3:af[3]?=O[3]?) (h4:af[4]?=O[4]?) (p:dA af) (hm:W'.aL=W.aL) (hn:W'.bV=W.bV):aZ af W':=
 ⟨hw,h.m.elim λes e=>⟨es,h3.trans e.1,hm▸e.2.mono λv a r=>r.up u⟩,h4.trans (hn▸h.n),p,adj h.l u.1⟩
theorem sM {i:Nat} (h:aZ O W) (hi:i<6):i<O.length:=adk hi h.l
theorem aZ.ext (h:aZ O W) (e:aj O af):aZ af W:=h.move e.up (e.get h.w) (e.2 3 (sM h (by decide))) (e.2 4 (sM h (by decide))) (h.p.ext e) rfl rfl
theorem aZ.fY (h:aZ O W) (p:dA af) (e:aU 2 O af):aZ af W:=h.move (e.up (by decide)) (e.get h.w (by decide)) (e.2 3 (sM h (by decide)) (by decide)) (e.2 4 (sM h (by decide)) (by decide)) p rfl rfl
theorem aZ.yu (h:aZ O W) (e:aU 5 O af) (g:af[5]?=some (wC W')) (hm:W'.aL=W.aL) (hn:W'.bV=W.bV):aZ af W':=h.move (e.up (by decide)) g (e.2 3 (sM h (by decide)) (by decide)) (e.2 4 (sM h (by decide)) (by decide)) (h.p.keep e (by decide) (by decide)) hm hn
section
variable {C:Calls} {fu j:Nat} {L:Locals} {k:List Nat} {v old z:V} {op:BinOp} {e:E} {ss:Ss} {Q:Flow→Locals→ag→Prop} {X:aX→ag→Prop} {s:ag}
theorem w_get (h:O[5]?=some (wC W)) (hj:L.get j=some (.ref 5)) (g:dictGet (wD W) k=some v):ev C fu (.idx (.loc j) (.str k)) L O= .ok v O:=bj (dE hj) rfl (eS h g)
theorem CD (h:aZ O W) (hp:dictPut (wD W) k z=wD W') (hm:W'.aL=W.aL) (hn:W'.bV=W.bV):jI O (.ref 5) (.str k) z=some (O.set 5 (wC W'))∧aU 5 O (O.set 5 (wC W'))∧aZ (O.set 5 (wC W')) W':=
 ⟨(tK h.w (by show 8<1000000;decide)).trans (congrArg (λl=>some (O.set 5 (.dict l))) hp),aU.refl.set,h.yu aU.refl.set (cW h.w) hm hn⟩
theorem uK (h:aZ O W) (hj:L.get j=some (.ref 5)) (g:dictGet (wD W) k=some old) (he:ev C fu e L O= .ok v O) (ha:jr op O old v= .ok z O) (hp:dictPut (wD W) k z=wD W') (hm:W'.aL=W.aL) (hn:W'.bV=W.bV) (K:∀af,aU 5 O af→aZ af W'→Wq (ah C fu ss L af) Q X):
  Wq (ah C fu (.cons (.g9 (.loc j) (.str k) op e) ss) L O) Q X:=have q:=CD h hp hm hn
 zJ (dE hj) rfl (eS h.w g) he ha q.1 (K _ q.2.1 q.2.2)
theorem uD (h:aZ O W) (hj:L.get j=some (.ref 5)) (he:ev C fu e L s= .ok z O) (hp:dictPut (wD W) k z=wD W') (hm:W'.aL=W.aL) (hn:W'.bV=W.bV) (K:∀af,aU 5 O af→aZ af W'→Wq (ah C fu ss L af) Q X):
  Wq (ah C fu (.cons (.eQ (.loc j) (.str k) e) ss) L s) Q X:=have q:=CD h hp hm hn
 oG he (dE hj) rfl q.1 (K _ q.2.1 q.2.2)
end
end
noncomputable def LW.act (W:LW) (d:List Nat):List Nat:=if W.aM=true then d else List.replicate (d.count 10) 10
noncomputable def LW.emit (W:LW) (t d:List Nat):LW:={W with text:=W.text++t,dQ:=W.dQ++W.act d}
section
variable {fu n:Nat} {O:ag} {X:aX→ag→Prop} {Q:V→ag→Prop} {W:LW}
theorem tn {a b:List Nat} (h:(a++b).length≤aq):jr .add O (.str a) (.str b)= .ok (.str (a++b)) O:=oy (ng h)
theorem vt (d:List Nat):(W.act d).length≤d.length:=gu (P:=λl:List Nat=>l.length≤d.length) (λ_=>adp _) λ_=>adj (Nat.le_of_eq List.length_replicate) wl
theorem AP {t d:List Nat} (h:aZ O W) (ht:(W.text++t).length≤aq) (hd:W.dQ.length+d.length≤aq) (H:∀af,aZ af (W.emit t d)→Up O af→Q .none af):
  Wp (ay aw fu (n+1) 33 [.ref 5,.str t,.str d] O) Q X:=
 dT (L:=[some (.ref 5),some (.str t),some (.str d)]) rfl rfl (by decide) rfl (uK (W':={W with text:=W.text++t}) h rfl rfl rfl (tn ht) rfl rfl rfl λae e1 h1=>
  uK (W':=W.emit t d) (v:= .str (W.act d)) h1 rfl rfl (pb (t:=W.aM) (bj rfl rfl (eS h1.w rfl)) (λq=>congrArg (λl=>Out.ok (V.str l) ae) (if_pos q).symm) λq=>(bG rfl rfl (u0 (adj wl (adj (Nat.le_add_left _ _) hd)))).trans (congrArg (λl=>Out.ok (V.str l) ae) (if_neg (λc=>nomatch c.symm.trans q)).symm))
      (tn (adj (Nat.le_of_eq List.length_append) (adj (Nat.add_le_add_left (vt d) _) hd))) rfl rfl rfl λaz e2 h2=>bz (.next (H _ h2 ((e1.trans e2).up (by decide)))))
end
inductive EO (α:Type) where
 |ok (s:α) (u:Nat)
 |err (k:List Nat) (u:Nat)
abbrev ER:=EO (List Nat)
abbrev RR:=EO (List (List Nat))
noncomputable def EO.oZ (f:List Nat→Nat→RR):ER→RR
 | .ok s u=>f s u
 | .err k u=> .err k u
noncomputable def EO.pre (l:List (List Nat)):RR→RR
 | .ok rows u=> .ok (l++rows) u
 | .err k u=> .err k u
noncomputable def EO.lG:RR→ER
 | .ok rows u=> .ok (cu [32] rows) u
 | .err k u=> .err k u
abbrev Go:=Nat→List Nat→List A0→ER
noncomputable def qf (go:Go) (u:Nat):Pz→ER
 | .a (.txt s)=> .ok s u
 | .a (.cS _)=> .ok [] u
 | .a (.use nm)=>go u nm []
 | .call nm x=>go u nm [x]
noncomputable def fh (go:Go):Nat→List Pz→RR
 |u,[]=> .ok [] u
 |u,p::r=>(qf go u p).oZ λs u1=>(fh go u1 r).pre [s]
noncomputable def d7 (M:iR):Nat→Go
 |0,u,nm,_=>bK (a6 M nm) (.err mG u) λ_=> .err kQ (u+1)
 |f+1,u,nm,as=>bK (a6 M nm) (.err mG u) λps=>if 1000≤u then .err kQ (u+1) else (fh (d7 M f) (u+1) (ps.map (fP as))).lG
noncomputable def cnt (nm:List Nat):Nat:=if nm=nF then 1 else if nm=nG then 2 else 0
noncomputable def my:List (List Nat):=xH++[[107],[55],[117],[34,41,44,32,34],[40,49,44,32,50,41]]
noncomputable def jb:List (List Nat):=[nA,nB,nC]
noncomputable def hO:List (List Nat):=[nA,nB,nC,nF,nG]
noncomputable def iO:A0→Prop
 | .txt s=>s∈my
 | .cS _=>False
 | .use nm=>nm∈jb
noncomputable def j2:Pz→Prop
 | .a x=>iO x
 | .call nm x=>nm=nF∧iO x
noncomputable def iQ (c:Nat):A0→Prop
 | .cS i=>i<c
 |x=>iO x
noncomputable def l8 (c:Nat):Pz→Prop
 | .a x=>iQ c x
 | .call nm x=>nm=nF∧iQ c x
structure zy (nm:List Nat) (ps:List Pz):Prop where
 n:nm∈hO
 l:ps.length≤3
 p:∀p∈ps,l8 (cnt nm) p
noncomputable def gF (M:iR):Prop:=∀x∈M,zy x.1 x.2
structure js (nm:List Nat) (as:List A0):Prop where
 m:nm∈hO
 g:∀x∈as,iO x
 l:as.length=cnt nm
theorem CS {P:List Nat→Prop} (h1:P nA) (h2:P nB) (h3:P nC):∀nm∈jb,P nm:=List.forall_mem_cons.2 ⟨h1,List.forall_mem_cons.2 ⟨h2,List.forall_mem_cons.2 ⟨h3,λ_ h=>nomatch h⟩⟩⟩
theorem tB:∀nm∈jb,js nm []:=CS ⟨.head _,(λ_ h=>nomatch h),rfl⟩ ⟨.tail _ (.head _),(λ_ h=>nomatch h),rfl⟩ ⟨.tail _ (.tail _ (.head _)),(λ_ h=>nomatch h),rfl⟩
theorem tE {x:A0} (h:iO x):js nF [x]:=⟨.tail _ (.tail _ (.tail _ (.head _))),λy hy=>List.mem_singleton.1 hy▸h,rfl⟩
theorem j2.el {P:Pz→Prop}:∀{p:Pz},j2 p→(∀s,s∈my→P (.a (.txt s)))→(∀nm,nm∈jb→P (.a (.use nm)))→(∀x,iO x→P (.call nF x))→P p
 | .a (.txt s),h,h1,_,_=>h1 s h
 | .a (.use nm),h,_,h1,_=>h1 nm h
 | .call nm x,h,_,_,h1=>h.1▸h1 x h.2
theorem rQ {α:Type} {k:List Nat} {v:α}:∀{l:List (List Nat×α)},a6 l k=some v→(k,v)∈l
 |(x,u)::r,h=>wk h (λq h=>q▸Option.some.inj h▸List.mem_cons_self) λ_ h=>List.mem_cons_of_mem _ (rQ h)
section
variable {as:List A0} (ha:∀x∈as,iO x)
include ha
theorem zV:∀{x:A0},iQ as.length x→iO (fA as x)∧xC as.length x
 | .cS i,h=>⟨by
   show iO (as.getD i (.txt []))
   rw [List.getD_eq_getElem?_getD,List.getElem?_eq_getElem h]
   exact ha _ (List.getElem_mem _),h⟩
 | .txt _,h | .use _,h=>⟨h,trivial⟩
theorem Gd:∀{p:Pz},l8 as.length p→j2 (fP as p)∧w0 as.length p
 | .a _,h=>zV ha h
 | .call _ _,h=>⟨⟨h.1,(zV ha h.2).1⟩,(zV ha h.2).2⟩
theorem xl {ps:List Pz} (h:∀p∈ps,l8 as.length p):∀p∈ps.map (fP as),j2 p:=λ_ hp=>match List.mem_map.1 hp with
 |⟨q,hq,e⟩=>e▸(Gd ha (h q hq)).1
end
theorem bp {a b:Bool} (h:(a&&b)=true):a=true:=by cases a;cases h;rfl
theorem aW {a b:Bool} (h:(a&&b)=true):b=true:=by cases a;cases h;exact h
theorem qZ {s:List Nat} (h:s∈my):s.length≤6∧ba s:=
 have q:=List.all_eq_true.1 (show my.all (λs=>decide (s.length≤6)&&s.all λc=>decide (c<128))=true by decide) s h
 ⟨adn (bp q),cy (aW q)⟩
section
variable {M:iR} {f u:Nat} {nm:List Nat} {as:List A0} {go:Go} {p:Pz} {r:List Pz}
@[elab_as_elim] theorem rP {P:ER→Prop} (h1:a6 M nm=none→P (.err mG u)) (h2:∀ps,a6 M nm=some ps→f=0∨1000≤u→P (.err kQ (u+1))) (h3:∀ps g,a6 M nm=some ps→f=g+1→¬1000≤u→P (fh (d7 M g) (u+1) (ps.map (fP as))).lG):P (d7 M f u nm as):=match f,h2,h3 with
 |0,h2,_=>by
  show P (bK (a6 M nm) _ _)
  cases h:a6 M nm with
  |none=>exact h1 h
  |some ps=>exact h2 ps h (.inl rfl)
 |f+1,h2,h3=>by
  show P (bK (a6 M nm) _ λps=>if 1000≤u then .err kQ (u+1) else (fh (d7 M f) (u+1) (ps.map (fP as))).lG)
  cases h:a6 M nm with
  |none=>exact h1 h
  |some ps=>exact gu (λq=>h2 ps h (.inr q)) λq=>h3 ps f h rfl q
@[elab_as_elim] theorem Ht {P:RR→Prop} {o:ER} {k:List Nat→Nat→RR} (h1:∀e u1,o= .err e u1→P (.err e u1)) (h2:∀s u1,o= .ok s u1→P (k s u1)):P (o.oZ k):=match o,h1,h2 with
 | .err e u1,h1,_=>h1 e u1 rfl
 | .ok s u1,_,h2=>h2 s u1 rfl
noncomputable def mU (u:Nat):ER→Prop
 | .ok s u1=>s.length+40*u+10≤40*u1∧u1≤1000
 | .err _ _=>True
noncomputable def r9 (u n:Nat):RR→Prop
 | .ok rows u1=>rows.flatten.length+rows.length+40*u≤40*u1+8*n∧u≤u1∧u1≤1000
 | .err _ _=>True
theorem xk:∀rows:List (List Nat),(cu [32] rows).length≤rows.flatten.length+rows.length
 |[]=>Nat.zero_le _
 |[x]=>Nat.le_succ_of_le (Nat.le_of_eq (congrArg List.length (List.append_nil x).symm))
 |x::y::r=>by
  rw [show cu [32] (x::y::r)=x++[32]++cu [32] (y::r) from rfl,show (x::y::r).flatten=x++(y::r).flatten from rfl,List.append_assoc,List.length_append,List.length_append,List.length_append,Nat.add_assoc]
  exact Nat.add_le_add_left (adj (Nat.add_le_add_left (xk (y::r)) 1) (Nat.le_of_eq (Nat.add_comm 1 _))) _
theorem Nk {n u1:Nat} {s:List Nat} (h1:s.length+40*u≤40*u1+7) (h2:u≤u1):∀{R:RR},r9 u1 n R→r9 u (n+1) (R.pre [s])
 | .ok rows u2,h=>⟨by
   have a:=h.1
   show (s++rows.flatten).length+(rows.length+1)+40*u≤40*u2+8*(n+1)
   rw [List.length_append];omega,adj h2 h.2.1,h.2.2⟩
 | .err _ _,_=>trivial
theorem Af {s:List Nat} {u1:Nat} (h:mU u (.ok s u1)):s.length+40*u≤40*u1+7∧u≤u1:=⟨adj (adj (adm _ _) h.1) (adm _ _),Nat.le_of_mul_le_mul_left (adj (adj (Nat.le_add_left _ _) (adm _ _)) h.1) (by decide)⟩
noncomputable def Bf (go:Go):Prop:=∀u nm as,js nm as→mU u (go u nm as)
theorem JO (jA:Bf go):∀(ps:List Pz) (u:Nat),u≤1000→(∀p∈ps,j2 p)→r9 u ps.length (fh go u ps)
 |[],u,hu,_=>⟨Nat.le_of_eq (Nat.zero_add _),adp _,hu⟩
 |p::r,u,hu,hp=>
  have ih:=λu hu=>JO jA r u hu λq hq=>hp q (.tail _ hq)
  have use:∀nm as,js nm as→r9 u (r.length+1) ((go u nm as).oZ λs u1=>(fh go u1 r).pre [s]):=λnm as h=>Ht (λ_ _ _=>trivial) λs u1 e=>have l:mU u (.ok s u1):=e▸jA u nm as h;Nk (Af l).1 (Af l).2 (ih u1 l.2)
  (hp p (.head _)).el (P:=λp=>r9 u (r.length+1) (fh go u (p::r))) (λs hs=>Nk (Nat.add_comm s.length _▸Nat.add_le_add_left (Nat.le_succ_of_le (qZ hs).1) _) (adp _) (ih u hu)) (λnm h=>use nm [] (tB nm h)) λx h=>use nF [x] (tE h)
theorem VL {n:Nat} (hn:n≤3):∀{R:RR},r9 (u+1) n R→mU u R.lG
 | .ok rows u2,h=>⟨by
   have a:=h.1
   have j:=xk rows
   show (cu [32] rows).length+40*u+10≤40*u2
   omega,h.2.2⟩
 | .err _ _,_=>trivial
theorem sF (hM:gF M):∀f,Bf (d7 M f):=λf=>by
 induction f with
 |zero=>exact λu nm as h=>rP (λ_=>trivial) (λ_ _ _=>trivial) λ_ _ _ e=>nomatch e
 |succ f ih=>exact λu nm as h=>rP (λ_=>trivial) (λ_ _ _=>trivial) λps g hg e hu=>have m:=hM _ (rQ hg)
   Nat.succ.inj e▸VL (adj (Nat.le_of_eq (List.length_map _)) m.l) (JO ih _ _ (Nat.lt_of_not_le hu) (xl h.g (h.l.symm▸m.p)))
end
noncomputable def lF (O:ag) (W:LW) (Q:V→ag→Prop):ER→Prop
 | .ok s u=>∀af,aU 5 O af→af[5]?=some (wC {W with uses:=u})→Q (.tup [.str s,.str []]) af
 | .err k u=>k≠[]→∀af,aU 5 O af→af[5]?=some (wC {W with uses:=u})→Q (.tup [.none,.str k]) af
noncomputable def lQ (C:Calls) (f:Nat):Prop:=∀(O:ag) (W:LW) (nm:List Nat) (a d:Nat) (bY:List V) (as:List A0) (Q:V→ag→Prop) (X:aX→ag→Prop),aZ O W→gF W.aL→O[a]?=some (.list bY)→6≤a→RL (dP O gm) bY as→js nm as→f+d=20→
 lF O W Q (d7 W.aL f W.uses nm as)→Wp (C 32 [.ref 5,.str nm,.ref a,.int (d:Int)] O) Q X
noncomputable def xW (nm:List Nat) (a d m:Nat) (x5 x6 x7:Option V):Locals:=[some (.ref 5),some (.str nm),some (.ref a),some (.int (d:Int)),some (.ref m),x5,x6,x7]
noncomputable def Fe (m i:Nat):Prop:=6≤i∧i≠m
abbrev bE:Ss:=MY
structure ij (go:Go) (O:ag) (W:LW) (Q:V→ag→Prop) (m:Nat) (gp:List V) (dz:List Pz) (k u:Nat) (rows:List (List Nat)) (s:ag):Prop where
 e:aU 5 O s
 w:s[5]?=some (wC {W with uses:=u})
 q:s[m]?=some (.list (rows.map .str))
 v:s[m+1]?=some (.list gp)
 R:RL (RP s (Fe m)) gp dz
 l:rows.length=k
 kl:k≤dz.length
 f:rows.flatten.length≤40000*k
 ul:u≤1000
 hE:lF O W Q ((fh go u (dz.drop k)).pre rows).lG
inductive EI (go:Go) (O:ag) (W:LW) (Q:V→ag→Prop) (nm:List Nat) (a d m:Nat) (gp:List V) (dz:List Pz) (k:Nat):Locals→ag→Prop where
 |mk {u:Nat} {rows:List (List Nat)} {x5 x6 x7:Option V} {s:ag} (h:ij go O W Q m gp dz k u rows s):EI go O W Q nm a d m gp dz k (xW nm a d m x5 x6 x7) s
theorem VR {a b:List (List Nat)}:∀{R:RR},(R.pre b).pre a=R.pre (a++b)
 | .ok _ _=>congrArg (EO.ok · _) (List.append_assoc ..).symm
 | .err _ _=>rfl
section
variable {fu n:Nat} {X:aX→ag→Prop} {Q:V→ag→Prop} {go:Go} {O s s':ag} {W:LW} {m k u u1 a d:Nat} {nm:List Nat} {gp:List V} {dz:List Pz} {rows:List (List Nat)} {K:Locals→ag→Prop} {ss:Ss} {R:Flow→Locals→ag→Prop}
theorem ij.next {t:List Nat} (h:ij go O W Q m gp dz k u rows s) (hm:6≤m) (aK:k<dz.length) (oS:O.length≤m) (e:aU 5 s s') (w:s'[5]?=some (wC {W with uses:=u1})) (ht:t.length≤40000) (hu:u1≤1000) (hE:lF O W Q (((fh go u1 (dz.drop (k+1))).pre [t]).pre rows).lG):ij go O W Q m gp dz (k+1) u1 (rows++[t]) (s'.set m (.list ((rows++[t]).map .str))):=
 have n5:m≠5:=Nat.ne_of_gt (adk (by decide) hm)
 ⟨(h.e.trans e).rH oS,fU w n5,cW (e.get h.q n5),fU (e.get h.v (Nat.ne_of_gt (adk (by decide) (Nat.le_succ_of_le hm)))) (Nat.ne_of_lt (Nat.lt_succ_self m)),h.R.mono λv p r=>r.keep (λi c hi g=>fU (e.get g (Nat.ne_of_gt (adk (by decide) hi.1))) (Ne.symm hi.2)) λ_ h=>h,
    (List.length_append.trans (congrArg (· +1) h.l)),aK,nQ rows t▸List.length_append (as:=rows.flatten)▸Nat.mul_succ .. ▸Nat.add_le_add h.f ht,hu,VR (a:=rows) (b:=[t])▸hE⟩
theorem Hs (h:ij go O W Q m gp dz k u rows s) (hl:dz.length≤3):(rows.map V.str).length<aq:=JB (adj (Nat.le_of_eq h.l) (adj h.kl (adj hl (by decide))))
theorem HP {t:List Nat} (g:s[m]?=some (.list (rows.map .str))) (hl:(rows.map V.str).length<aq):fz .append s (.ref m) [.str t]= .ok .none (s.set m (.list ((rows++[t]).map .str))):=xO rows t▸hZ g hl
theorem zo {b:Bool} (h:(!b)=false):b=true:=by cases b;cases h;rfl
theorem GW {f b:Nat} {As:List V} {bs:List A0} {mm:List Nat} {x6 x7:Option V} (hC:lQ (ay aw fu n) f) (hW:aZ O W) (hM:gF W.aL) (hm:6≤m) (oS:O.length≤m) (hl:dz.length≤3) (aK:k<dz.length) (gM:f+(d+1)=20) (h:ij (d7 W.aL f) O W Q m gp dz k u rows s)
    (hb:s[b]?=some (.list As)) (YV:6≤b) (hB:RL (dP s gm) As bs) (g:js mm bs) (hE:lF O W Q ((((d7 W.aL f u mm bs).oZ λt u1=>(fh (d7 W.aL f) u1 (dz.drop (k+1))).pre [t]).pre rows).lG)) (hK:∀L s,EI (d7 W.aL f) O W Q nm a d m gp dz (k+1) L s→K L s):
  Wq (ah (ay aw fu n) fu (fC (bf 4 bE)) (xW nm a d m (some (.tup [.str lS,.str mm,.ref b])) x6 x7) s) (Lp (ay aw fu n) fu ss (bM Q) X K) X:=by
 refine fH rfl (DL rfl (hC s {W with uses:=u} mm b (d+1) As bs _ X (hW.yu h.e h.w rfl rfl) hM hb YV hB g gM ?_))
 have le:=sF hM f u mm bs g
 show lF s _ _ (d7 W.aL f u mm bs)
 generalize d7 W.aL f u mm bs=o at hE le ⊢
 cases o with
 |ok t u1=>exact λs' e w=>⟨rfl,.mk (cg rfl (dS (iG rfl (e.get h.q (Nat.ne_of_gt (adk (by decide) hm))) rfl (HP (e.get h.q (Nat.ne_of_gt (adk (by decide) hm))) (Hs h hl))) (iZ (hK _ _ (.mk (h.next hm aK oS e w (adj (adj (adj (adm _ _) (adm _ _)) le.1) (Nat.mul_le_mul_left 40 le.2)) le.2 hE))))))⟩
 |err k2 u1=>exact λhk s' e w=>⟨rfl,.mk (fG (aO rfl rfl oB) (λ_=>dj rfl (.ret (.ret (.ret (.ret (hE hk _ (h.e.trans e) w)))))) λq=>absurd (adn (zo q)) hk)⟩
theorem Rd {f:Nat} {v:V} {p:Pz} {x6 x7:Option V} (hC:lQ (ay aw fu n) f) (hW:aZ O W) (hM:gF W.aL) (hm:6≤m) (oS:O.length≤m) (hl:dz.length≤3) (aK:k<dz.length) (gM:f+(d+1)=20) (h:ij (d7 W.aL f) O W Q m gp dz k u rows s)
    (hK:∀L s,EI (d7 W.aL f) O W Q nm a d m gp dz (k+1) L s→K L s) (hr:RP s (Fe m) v p):j2 p→lF O W Q (((fh (d7 W.aL f) u (p::dz.drop (k+1))).pre rows).lG)→
  Wq (ah (ay aw fu n) fu (fC (bf 4 bE)) (xW nm a d m (some v) x6 x7) s) (Lp (ay aw fu n) fu ss (bM Q) X K) X:=
 hr.el (λv x hr=>hr.el (λt ht hE=>cN rfl (dS (iG rfl h.q rfl (HP h.q (Hs h hl))) (iZ (hK _ _ (.mk (h.next hm aK oS .refl h.w (adj (qZ ht).1 (by decide)) h.ul hE))))))
    (λ_ h=>h.elim) λmm b hb g hp hE=>GW hC hW hM hm oS hl aK gM h g hb.1 .nil (tB mm hp) hE hK) λmm x b q w hb g hq gq hw hp hE=>
   GW hC hW hM hm oS hl aK gM h g hb.1 (.cons ⟨q,w,rfl,hq.1,gq,hw.keep (λ_ _ _ g=>g) λ_ h=>h.1⟩ .nil) (hp.1▸tE hp.2) hE hK
theorem SM {α:Type} {l:List α} {k:Nat} {p:α} (h:l[k]?=some p):l.drop k=p::l.drop (k+1):=match List.getElem?_eq_some_iff.1 h with
 |⟨q,e⟩=>(List.drop_eq_getElem_cons q).trans (congrArg (· ::_) e)
theorem Uo:∀{R:RR},R.pre []=R
 | .ok _ _=>rfl
 | .err _ _=>rfl
theorem Zn (h:ij go O W Q m gp dz k u rows s) (e:k=dz.length):lF O W Q (.ok (cu [32] rows) u):=by
 have:=h.hE
 rw [e,List.drop_length] at this
 exact List.append_nil rows▸this
theorem QC (h:ij go O W Q m gp dz k u rows s) (hl:dz.length≤3):(cu [32] rows).length+[32].length≤aq:=
 have hk:=adj h.kl hl
 adj (Nat.add_le_add_right (adj (xk rows) (Nat.add_le_add (adj h.f (Nat.mul_le_mul_left 40000 hk)) (h.l▸hk))) 1) (dh▸by decide)
theorem Zq {g r:Nat} {vs bY:List V} {as:List A0} {ps:List Pz} {es:List (List Nat×V)} (hn:0<n) (hf:aq+100<fu) (hC:lQ (ay aw fu (n+1)) g) (h:aZ O W) (hM:gF W.aL) (ga:O[a]?=some (.list bY)) (h6:6≤a) (hA:RL (dP O gm) bY as) (hG:js nm as) (gM:g+1+d=20) (ff:O[3]?=some (.dict es)) (mi:dictGet es nm=some (.ref r)) (D8:6≤r) (o8:O[r]?=some (.list vs)) (hR:RL (RP O gm) vs ps) (m:zy nm ps) (hu:¬1000≤W.uses)
    (e2:aU 5 O s) (w2:s[5]?=some (wC {W with uses:=W.uses+1})) (q2:s[O.length]?=some (.list [])) (l2:s.length=O.length+1) (hE:lF O W Q (fh (d7 W.aL g) (W.uses+1) (ps.map (fP as))).lG):Wq (ah (ay aw fu (n+1)) fu (bf 4 bE) (xW nm a d O.length none none none) s) (bM Q) X:=by
 have F1:∀i c,(gm i∧i<O.length)→O[i]?=some c→s[i]?=some c:=λi c hi g=>e2.get g (Nat.ne_of_gt (adk (by decide:5<6) hi.1))
 cases WM (fu:=fu) (n:=n) (O:=s) (F:=λi=>gm i∧i<O.length) hn hf (F1 _ _ ⟨D8,dD o8⟩ o8) (hR.mono λv p h=>h.old.keep F1 λ_ h=>h) (F1 _ _ ⟨h6,dD ga⟩ ga) (hA.mono λv x h=>h.old.keep F1 λ_ h=>h) (adj m.l (by decide)) λp hp=>(Gd hG.g (hG.l.symm▸m.p p hp)).2 with
 |mk cM gp JF x3 KR zM=>
  rw [l2] at JF KR zM
  have hl:(ps.map (fP as)).length≤3:=(List.length_map (fP as)).symm▸m.l
  have Jy:=xl hG.g (hG.l.symm▸m.p)
  generalize ps.map (fP as)=dz at zM hl Jy hE
  exact p6 dz.length (EI (d7 W.aL g) O W Q nm a d O.length gp dz) (adl hl (adl (adj (by decide) (Nat.le_add_left 100 aq)) hf)) (aS (d8 (aJ (bj (bj rfl rfl (eS w2 rfl)) rfl (eS (e2.get ff (by decide)) mi)) (aJ rfl rfl)) JF) ⟨_,rfl,.mk (u:=W.uses+1) (rows:=[]) ⟨e2.trans x3.toT,x3.get w2,x3.get q2,KR,zM.mono λv p r=>r.keep (λ_ _ _ g=>g) λi hi=>hi.elim (λh=>⟨h.1.1,Nat.ne_of_lt h.1.2⟩) λq=>⟨adj h.l (Nat.le_of_lt (Nat.lt_of_succ_lt q)),Nat.ne_of_gt (Nat.lt_of_succ_lt q)⟩,rfl,Nat.zero_le _,adp _,Nat.lt_of_not_le hu,(Uo (R:=fh (d7 W.aL g) (W.uses+1) dz)).symm▸hE⟩,λk L s K hK hI=>by
   cases hI with
   |@mk u rows _ _ _ _ hx=>exact ⟨hx.kl,bZ (jO hx.v) (hx.R.item hx.kl (λv p hp hr aK=> .more ⟨aK,Rd hC h hM h.l (adp _) hl aK ((Nat.add_right_comm g 1 d).symm.trans gM) hx hK hr (Jy p (List.mem_of_getElem? hp)) (SM hp▸hx.hE)⟩) λe=> .done (dj (mZ (aJ (jf rfl rfl rfl (qv hx.q (QC hx hl))) rfl)) (.ret (Zn hx e _ hx.e hx.w))))⟩⟩)
theorem kI.el {O:ag} {v:V} {ps:List Pz} {P:Prop} (h:kI O v ps) (k:∀r vs,v= .ref r→6≤r→O[r]?=some (.list vs)→RL (RP O gm) vs ps→P):P:=h.elim λr h=>h.elim λvs h=>k r vs h.1 h.2.1 h.2.2.1 h.2.2.2
theorem Hz {d u:Nat}:(decide ((20:Int)≤(d:Int))||decide ((1000:Int)<((u+1:Nat):Int)))=decide (20≤d∨1000≤u):=by
 rw [Bool.eq_iff_iff,Bool.or_eq_true,decide_eq_true_eq,decide_eq_true_eq,decide_eq_true_eq]
 exact or_congr Int.ofNat_le (Int.ofNat_lt.trans Nat.lt_succ_iff)
theorem MC {x4 x5 x6 x7:Option V} {R:Flow→Locals→ag→Prop} {C:Calls} (h:aZ O W) (K:∀s,aU 5 O s→s[5]?=some (wC {W with uses:=W.uses+1})→s.length=O.length→Wq (ah C fu (fC (bf 2 bE)) [some (.ref 5),some (.str nm),some (.ref a),some (.int (d:Int)),x4,x5,x6,x7] s) (Nx C fu (bf 3 bE) R X) X∧(20≤d∨1000≤W.uses)∨Wq (ah C fu (bf 3 bE) [some (.ref 5),some (.str nm),some (.ref a),some (.int (d:Int)),x4,x5,x6,x7] s) R X∧¬(20≤d∨1000≤W.uses)):
  Wq (ah C fu (bf 1 bE) [some (.ref 5),some (.str nm),some (.ref a),some (.int (d:Int)),x4,x5,x6,x7] O) R X:=
 have q:=CD (k:=AV) (z:= .int ((W.uses+1:Nat):Int)) (W':={W with uses:=W.uses+1}) h rfl rfl rfl
 zJ rfl rfl (eS h.w rfl) rfl rfl q.1 ((K _ q.2.1 q.2.2.w List.length_set).elim (λk=>cN ((oh (jB (aO rfl rfl Km) (jV (aO (bj rfl rfl (eS q.2.2.w rfl)) rfl mz)))).trans (congrArg (λb=>Out.ok (V.bool b) _) (Hz.trans (decide_eq_true k.2)))) k.1)
    λk=>cg ((oh (jB (aO rfl rfl Km) (jV (aO (bj rfl rfl (eS q.2.2.w rfl)) rfl mz)))).trans (congrArg (λb=>Out.ok (V.bool b) _) (Hz.trans (decide_eq_false k.2)))) k.1)
theorem JS {g:Nat} (h:g+1+d=20) (q:20≤d):False:=Nat.not_succ_le_self d (adj (adj (Nat.le_of_eq (Nat.add_comm d 1)) (Nat.add_le_add_right (Nat.le_add_left 1 g) d)) (h▸q))
theorem Fm {f:Nat} (hn:0<n) (hf:aq+100<fu) (hC:∀g,f=g+1→lQ (ay aw fu (n+1)) g):lQ (ay aw fu (n+2)) f:=λO W nm a d bY as Q X h hM ga h6 hA hG gM hE=>h.m.elim λes hm=>by
 have cn:ev (ay aw fu (n+1)) fu (.cmp .iA (.loc 1) (.idx (.loc 0) (.str C2))) [some (.ref 5),some (.str nm),some (.ref a),some (.int (d:Int)),none,none,none,none] O= .ok (.bool (!(a6 W.aL nm).isSome)) O:=
  aO rfl (bj rfl rfl (eS h.w rfl)) (Cq (by rw [vH hm.1,hm.2.isSome]))
 refine dT (L:=[some (.ref 5),some (.str nm),some (.ref a),some (.int (d:Int)),none,none,none,none]) rfl rfl (by decide) rfl ?_
 revert hE
 refine rP (P:=λr=>lF O W Q r→_) (λg hE=>cN (cn.trans (by rw [g];rfl)) (dj rfl (.ret (.ret (hE (by decide) _ .refl h.w))))) (λps g hq hE=>cg (cn.trans (by rw [g];rfl)) (MC h λs e w _=> .inl ⟨dj rfl (.ret (.ret (hE (by decide) _ e w))),hq.imp_left λe=>?_⟩)) λps g hg ef hu hE=>?_
 ·rw [e,Nat.zero_add] at gM;exact Nat.le_of_eq gM.symm
 ·have hC:=hC g ef
  rw [ef] at gM
  exact (hm.2.some hg).elim λmv mi=>mi.2.el λr vs Uc D8 o8 hR=>cg (cn.trans (by rw [hg];rfl)) (MC h λs e w l=> .inr ⟨aV rfl (l.symm▸Zq hn hf hC h hM ga h6 hA hG gM hm.1 (Uc▸mi.1) D8 o8 hR (hM _ (rQ hg)) hu (e.trans (aj.refl.push).toT) (mN w) (l▸bH) (kU.trans (congrArg (· +1) l)) hE),λq=>q.elim (JS gM) hu⟩)
end
noncomputable def uH:List (List Nat):=[[117],[34,41,44,32,34],[40,49,44,32,50,41]]
noncomputable def gR:A0→Prop
 | .txt s=>s∈uH
 | .cS _=>False
 | .use nm=>nm=nA
structure XU (x:A0):Prop where
 g:iO x
 o:ro x
 l:(wA x).length≤6
theorem CQ:∀s∈uH,s∈my:=List.forall_mem_cons.2 ⟨by decide,List.forall_mem_cons.2 ⟨by decide,List.forall_mem_cons.2 ⟨by decide,λ_ h=>nomatch h⟩⟩⟩
theorem gR.nK:∀{x:A0},gR x→XU x
 | .use _,h=>h▸⟨.head _,cy rfl,by decide⟩
 | .txt s,h=>⟨CQ s h,(qZ (CQ s h)).2,(qZ (CQ s h)).1⟩
noncomputable def qD:List Nat:=[32,47,42,32,44,32,42,47,44]
noncomputable def u7 (wide:Bool):List Nat:=if wide=true then [32,10,40,32] else [40]
noncomputable def sR (as:List A0) (wide:Bool):List Nat:=u7 wide++cu qD (as.map wA)++[32,41]
noncomputable def kK (nm:List Nat):List A0→Bool→List Nat
 |[],_=>96::nm
 |x::r,wide=>96::nm++sR (x::r) wide
noncomputable def wN:Bool→Nat
 |true=>1
 |false=>0
inductive gw:List Nat→List A0→Bool→Prop where
 |none {nm:List Nat}:nm∈jb→gw nm [] false
 |one {x:A0} {wide:Bool}:gR x→gw nF [x] wide
 |two {x y:A0} {wide:Bool}:gR x→gR y→gw nG [x,y] wide
noncomputable def jS (W:LW) (nm:List Nat) (as:List A0):ER:=if W.aM=true then d7 W.aL 20 W.uses nm as else .ok [] W.uses
noncomputable def vY (W:LW) (row:List Nat) (w:Nat):ER→LW
 | .ok s u=>({W with uses:=u}:LW).emit row (s++dU w)
 | .err k u=>({W with uses:=u,fault:=some (k,W.text.length)}:LW).emit row ([]++dU w)
noncomputable def u9 (W:LW) (nm:List Nat) (as:List A0) (wide:Bool):LW:=vY W (kK nm as wide) (wN wide) (jS W nm as)
theorem gw.good {nm:List Nat} {as:List A0} {wide:Bool} (h:gw nm as wide):js nm as:=by
 cases h with
 |none h=>exact tB _ h
 |one h=>exact tE h.nK.g
 |two h h2=>exact ⟨.tail _ (.tail _ (.tail _ (.tail _ (.head _)))),List.forall_mem_cons.2 ⟨h.nK.g,λz hz=>List.mem_singleton.1 hz▸h2.nK.g⟩,rfl⟩
theorem J5:∀nm∈jb,nm.length=1:=CS rfl rfl rfl
theorem JP {nm a b:List Nat} {k j:Nat} (hn:nm.length=1) (ha:a.length≤k) (hb:b.length≤j) (h:k+j≤50):(96::nm++(a++b++[32,41])).length≤60:=by
 rw [List.length_append,List.length_append,List.length_append,List.length_cons,hn]
 exact adj (Nat.add_le_add_left (Nat.add_le_add_right (adj (Nat.add_le_add ha hb) h) 2) 2) (by decide)
theorem ME:∀{w:Bool},(u7 w).length≤4
 |true=>by decide
 |false=>by decide
theorem Bw {nm:List Nat} {as:List A0} {wide:Bool} (h:gw nm as wide):(kK nm as wide).length≤60:=by
 cases h with
 |none h=>exact adj (Nat.le_of_eq (congrArg (· +1) (J5 _ h))) (by decide)
 |one h=>exact JP (k:=4) rfl ME h.nK.l (by decide)
 |@two x y w h h2=>exact JP (k:=4) (j:=21) rfl ME (by
   rw [show cu qD ([x,y].map wA)=wA x++qD++wA y from rfl,List.length_append,List.length_append]
   exact Nat.add_le_add (Nat.add_le_add_right h.nK.l 9) h2.nK.l) (by decide)
theorem RL.inv {α:Type} {R:V→α→Prop} {vs:List V} {a:α} {l:List α} {P:Prop} (h:RL R vs (a::l)) (k:∀v kF,vs=v::kF→R v a→RL R kF l→P):P:=by
 cases h with
 |cons r h=>exact k _ _ rfl r h
@[elab_as_elim] theorem IZ {α:Type} {P:List α→Prop} {l:List α} (e:l.length=1) (h:∀x,P [x]):P l:=match l,e with
 |[x],_=>h x
@[elab_as_elim] theorem LY {α:Type} {P:List α→Prop} {l:List α} (e:l.length=2) (h:∀x y,P [x,y]):P l:=match l,e with
 |[x,y],_=>h x y
theorem cO {P:Nat→Prop} {n:Nat} (h:P n) (r:∀k,k<n→P k):∀k,k<n+1→P k:=λk q=>(Nat.lt_succ_iff_lt_or_eq.1 q).elim (r k) λe=>e▸h
theorem iC {P:Nat→Prop} (k:Nat) (h:k<0):P k:=absurd h (Nat.not_lt_zero k)
section
variable {fu n:Nat} {O s:ag} {X:aX→ag→Prop} {Q:V→ag→Prop} {W:LW}
theorem G4 {N:Nat} {f:V→ag→Out V} (I:Nat→List V→ag→Prop) (hl:∀i ys s,I i ys s→ys.length≤1000) (step:∀i ys s,i<N→I i ys s→Wp (f (.int (i:Int)) s) (λy s'=>I (i+1) (ys++[y]) s') λ_ _=>False):
  ∀(m i:Nat) (ys:List V) (s:ag),N<m+i→i≤N→I i ys s→∃yE s',fN (f9 (N:Int)) f m i ys s=some (yE,s')∧I N yE s'
 |0,i,_,_,h,hi,_=>absurd (adk h (adj (Nat.le_of_eq (Nat.zero_add i)) hi)) (Nat.lt_irrefl _)
 |m+1,i,ys,s,h,hi,hI=>(Nat.lt_or_eq_of_le hi).elim (λq=>(A5 (step i ys s q hI)).elim λy e=>e.elim λs' e=>(G4 I hl step m (i+1) _ s' (Nat.add_right_comm m 1 i▸h) q e.2).elim λyE r=>r.elim λs2 r=>
   ⟨yE,s2,(v3 (C9 q) e.1 (adl (hl _ _ _ hI) (dh▸by decide))).trans r.1,r.2⟩) λq=>⟨ys,s,xh (show f9 (N:Int) i s=some none from q▸z8),(q▸hI:I N ys s)⟩
theorem W9 {α:Type} {k:Int} {d:α} {f:Int→α}:(V.int k).cA d f=f k:=rfl
theorem Z5 {C:Calls} {L:Locals} {bc e:E} {caps:List Nat} {N:Nat} {s s':ag} {ys:List V} (h1:ev C fu e L O= .ok (.int (N:Int)) s) (hN:N≤1000) (h2:fN (f9 (N:Int)) (λv s=>ev C fu bc (some v::caps.map L.get) s) fu 0 [] s=some (ys,s')):
  ev C fu (.iS bc caps e) L O= .ok (.ref s'.length) (s'++[Cell.list ys]):=
 have hs:smallInt (N:Int)=true:=zu (Int.lt_of_le_of_lt (Int.ofNat_le.2 hN) (by decide))
 de h1 (W9.trans (by rw [if_pos hs,h2];rfl))
theorem VY {F:Nat→Prop} {a:Nat} {bY:List V} {as:List A0} {L:Locals} {e:E} {caps:List Nat} (hf:aq+100<fu) (ga:s[a]?=some (.list bY)) (hA:RL (dP s F) bY as) (hg:∀x∈as,gR x) (hl:as.length=1∨as.length=2) (he:ev (ay aw fu (n+1)) fu e L s= .ok (.ref a) s):
  ∃s',ev (ay aw fu (n+1)) fu (.comp (.call 30 (.cons (.loc 0) .nil)) caps e) L s= .ok (.ref s'.length) (s'++[Cell.list ((as.map wA).map .str)])∧aj s s':=by
 have one:∀{x v s1},gR x→aj s s1→dP s F v x→∃s',ev (ay aw fu (n+1)) fu (.call 30 (.cons (.loc 0) .nil)) (some v::caps.map L.get) s1= .ok (.str (wA x)) s'∧aj s1 s':=λ{x v s1} hx e1 h=>by
  cases h with
  |mk q w e f g r=>
   exact (F9 (Nat.succ_pos n) hf hx.nK.o (adj hx.nK.l (by decide)) q w s1 (e1.get g) (r.keep (λi c _ g=>e1.get g) λ_ h=>h)).elim λs2 h=>⟨s2,d8 (by rw [e];rfl) h.1,h.2⟩
 revert hA hg
 exact hl.elim (λe=>IZ (P:=λas=>RL (dP s F) bY as→(∀x∈as,gR x)→∃s',ev (ay aw fu (n+1)) fu (.comp (.call 30 (.cons (.loc 0) .nil)) caps _) L s= .ok (.ref s'.length) (s'++[Cell.list ((as.map wA).map .str)])∧aj s s') e λx hA hg=>hA.one λv e hv=>(one (hg x (.head _)) .refl hv).elim λs' h=>⟨s',Ck hf he (e▸ga) h.1 h.2,h.2⟩)
    λe=>LY (P:=λas=>RL (dP s F) bY as→(∀x∈as,gR x)→∃s',ev (ay aw fu (n+1)) fu (.comp (.call 30 (.cons (.loc 0) .nil)) caps _) L s= .ok (.ref s'.length) (s'++[Cell.list ((as.map wA).map .str)])∧aj s s') e λx y hA hg=>hA.inv λv vs e hv h=>h.one λv2 e2 Ba=>have ga:s[a]?=some (.list [v,v2]):=e2▸e▸ga
      (one (hg x (.head _)) .refl hv).elim λs1 h1=>(one (hg y (.tail _ (.head _))) h1.2 Ba).elim λs2 h2=>⟨s2,NJ hf he ga h1.1 h1.2 h2.1 h2.2,h1.2.trans h2.2⟩
abbrev bU:Ss:=Iv
noncomputable def jg (kd t:Nat) (nm:List Nat) (a w:Nat) (row:List Nat) (x8 x9 ft:Option V):Locals:=[some (.ref 2),some (.ref 5),some (.int (kd:Int)),some (.int (t:Int)),some (.str nm),some (.ref a),some (.int (w:Int)),some (.str row),x8,x9,ft]
section
variable {kd a w:Nat} {nm row:List Nat} {x8 ft:Option V}
theorem EQ {d:List Nat} {t9:V} {t:Nat} (h:aZ s W) (ht:W.text.length≤100000) (hd:W.dQ.length≤200000) (hr:row.length≤60) (hw:w≤1) (Mq:d.length≤40000) (he:ev (ay aw fu (n+1)) fu (.ite (.cmp .is (.loc 9) .none) (.str []) (.loc 9)) (jg kd t nm a w row x8 (some t9) ft) s= .ok (.str d) s)
    (H:∀af,aZ af (W.emit row (d++dU w))→Up s af→Q .none af):Wq (ah (ay aw fu (n+1)) fu (bf 10 bU) (jg kd t nm a w row x8 (some t9) ft) s) (bM Q) X:=
 have dl:(d++dU w).length≤40001:=by rw [List.length_append,dU,List.length_replicate];exact Nat.add_le_add Mq hw
 j8 (aJ rfl (aJ rfl (aJ (bG he (bG rfl rfl (u0 (adj hw (dh▸by decide)))) (ng (adj dl (dh▸by decide)))) rfl))) (AP h (List.length_append▸adj (Nat.add_le_add ht hr) (dh▸by decide)) (adj (Nat.add_le_add hd dl) (dh▸by decide)) λaf h2 u=>bz (.next (H _ h2 u)))
variable (h:aZ s W) (ht:W.text.length≤100000) (hd:W.dQ.length≤200000) (hr:row.length≤60) (hw:w≤1)
include h ht hd hr hw
theorem Ml {r:ER} (dw:mU W.uses r∨r= .ok [] W.uses) (K:(∀af,aZ af (vY W row w r)→Up s af→Q .none af)):lF s W (λv s'=>∀y9 sC,v= .tup [y9,sC]→Wq (ah (ay aw fu (n+1)) fu (bf 9 bU) (jg kd W.text.length nm a w row x8 (some y9) (some sC)) s') (bM Q) X) r:=match r,dw,K with
 | .ok t u,hl,K=>λs' e g y9 sC ev=>by
  cases ev
  have h2:aZ s' {W with uses:=u}:=h.yu e g rfl rfl
  exact cg rfl (EQ h2 ht hd hr hw (hl.elim (λl=>adj (adj (adj (adm _ _) (adm _ _)) l.1) (Nat.mul_le_mul_left 40 l.2)) λe=>by cases e;exact Nat.zero_le _) rfl λaf h3 u3=>K af h3 ((e.up (by decide)).trans u3))
 | .err k u,_,K=>λhk s' e g y9 sC ev=>by
  cases ev
  have h2:aZ s' {W with uses:=u}:=h.yu e g rfl rfl
  exact fG (aO rfl rfl oB) (λ_=>uD (W':={W with uses:=u,fault:=some (k,W.text.length)}) h2 rfl rfl rfl rfl rfl λae e1 h3=>n1 (EQ (d:=[]) h3 ht hd hr hw (Nat.zero_le _) rfl λaf h4 u4=>K af h4 (((e.trans e1).up (by decide)).trans u4))) λq=>absurd (adn (zo q)) hk
theorem Vx {as:List A0} {bY:List V} (hG:js nm as) (hM:gF W.aL) (hE:lQ (ay aw fu (n+1)) 20) (ga:s[a]?=some (.list bY)) (h6:6≤a) (hA:RL (dP s gm) bY as) (H:∀af,aZ af (vY W row w (jS W nm as))→Up s af→Q .none af):
  Wq (ah (ay aw fu (n+1)) fu (bf 7 bU) (jg kd W.text.length nm a w row x8 none none) s) (bM Q) X:=
 wO rfl rfl (fG (w_get h.w rfl rfl) (λact=>DL rfl (hE s W nm a 0 bY as _ X h hM ga h6 hA hG rfl (by
   have e:jS W nm as=d7 W.aL 20 W.uses nm as:=if_pos act
   have T:=Ml (fu:=fu) (n:=n) (X:=X) (kd:=kd) (nm:=nm) (a:=a) (x8:=x8) h ht hd hr hw (.inl (sF hM 20 W.uses nm as hG)) (e▸H)
   revert T
   generalize d7 W.aL 20 W.uses nm as=r
   cases r with
   |ok t u=>exact λT s' e g=>⟨rfl,.mk (n1 (T s' e g _ _ rfl))⟩
   |err k u=>exact λT hk s' e g=>⟨rfl,.mk (n1 (T hk s' e g _ _ rfl))⟩))) λact=>n1 (Ml (r:= .ok [] W.uses) h ht hd hr hw (.inr rfl) (by
   have e:jS W nm as= .ok [] W.uses:=if_neg (λq=>nomatch q.symm.trans act)
   exact e▸H) s .refl h.w _ _ rfl))
end
end
structure rm (kd:Nat) (nm:List Nat):Prop where
 m:nm∈hO
 l:nm.length=1
 k:(kd<3∧nm∈jb∧cnt nm=0)∨kd=cnt nm+2∧(cnt nm=1∧nm=nF∨cnt nm=2∧nm=nG)
noncomputable def Kd (kd:Nat):Prop:=∃nm,(∀s,di s (.str [65,66,67,70,71]) (.int (kd:Int))=some (.str nm))∧rm kd nm
theorem MU:∀kd,kd<5→Kd kd:=cO ⟨nG,λ_=>rfl,.tail _ (.tail _ (.tail _ (.tail _ (.head _)))),rfl,.inr ⟨rfl,.inr ⟨rfl,rfl⟩⟩⟩ (cO ⟨nF,λ_=>rfl,.tail _ (.tail _ (.tail _ (.head _))),rfl,.inr ⟨rfl,.inl ⟨rfl,rfl⟩⟩⟩
  (cO ⟨nC,λ_=>rfl,.tail _ (.tail _ (.head _)),rfl,.inl ⟨by decide,.tail _ (.tail _ (.head _)),rfl⟩⟩ (cO ⟨nB,λ_=>rfl,.tail _ (.head _),rfl,.inl ⟨by decide,.tail _ (.head _),rfl⟩⟩ (cO ⟨nA,λ_=>rfl,.head _,rfl,.inl ⟨by decide,.head _,rfl⟩⟩ iC))))
theorem UK {nm:List Nat} {as:List A0} {wide:Bool} (h:cnt nm=1∧nm=nF∨cnt nm=2∧nm=nG) (hl:as.length=cnt nm):(∀x∈as,gR x)→gw nm as wide∧kK nm as wide=96::nm++sR as wide:=h.elim (λh=>IZ (hl.trans h.1) λx hg=>⟨h.2.symm▸ .one (hg x (.head _)),rfl⟩)
  λh=>LY (hl.trans h.1) λx y hg=>⟨h.2.symm▸ .two (hg x (.head _)) (hg y (.tail _ (.head _))),rfl⟩
section
variable {fu n:Nat} {O s:ag} {X:aX→ag→Prop} {Q:V→ag→Prop} {W:LW} {R:Flow→Locals→ag→Prop} {ss:Ss}
noncomputable def zc (t:List Nat):V:= .tup [.str qN,.str t]
abbrev FG:E:= .list (.cons (.idx (.list (.cons (.tup (.cons (.str [116,101,120,116]) (.cons (.str [117]) .nil))) (.cons (.tup (.cons (.str [116,101,120,116]) (.cons (.str [34,41,44,32,34]) .nil))) (.cons (.tup (.cons (.str [116,101,120,116]) (.cons (.str [40,49,44,32,50,41]) .nil))) .nil)))) (.call 28 (.cons (.loc 1) (.cons (.int 3) .nil)))) .nil)
theorem ZV {L:Locals} (hn:0<n) (hP:dA s) (h6:6≤s.length) (l1:L.get 1=some (.ref 2)) (H:∀s' v x,gR x→dP s' gm v x→dA s'→aU 2 s s'→Q v s'):Wp (ev (ay aw fu n) fu FG L s) Q X:=by
 have x1:=(aj.refl (O:=s)).push (d:= .list (uH.map zc))
 have h2:2<s.length:=adk (by decide) h6
 refine Zd (ii (lc (aS rfl (eu (aS (aJ (dE l1) rfl) (eO (b:=3) hn (by decide) (by decide) (hP.ext x1) λr s1 hr et e1=>(tQ (f:=zc) (xs:=uH) hr).elim λt ht=>bZ (eD (e1.get bH (Nat.ne_of_gt h2)) ht.2) (mh ?_)))))))
 have x2:=(aj.refl (O:=s1)).push (d:= .list [zc t])
 exact H _ _ (.txt t) ht.1 ⟨s1.length,_,rfl,adj h6 (adj x1.1 e1.1),bH,.txt t⟩ (et.ext x2) ((x1.toT.trans e1).trans x2.toT)
structure Ke (O:ag) (N:Nat) (ys:List V) (as:List A0) (s:ag):Prop where
 P:dA s
 e:aU 2 O s
 R:RL (dP s gm) ys as
 l:as.length=N
 u:∀x∈as,gR x
theorem RL.some {α:Type} {R:V→α→Prop} {vs:List V} {l:List α} (h:RL R vs l) (hl:l≠[]):∃v kF a l',vs=v::kF∧l=a::l'∧RL R kF l':=by
 cases h with
 |nil=>exact absurd rfl hl
 |cons _ h=>exact ⟨_,_,_,_,rfl,rfl,h⟩
theorem nS {i:Nat} (h:gm i):i≠2:=Nat.ne_of_gt (adk (by decide) h)
theorem PT {N:Nat} {L:Locals} (hN:N≤2) (hf:aq+100<fu) (hn:0<n) (hP:dA s) (h6:6≤s.length) (l1:L.get 0=some (.ref 2)):∃ys s',fN (f9 (N:Int)) (λv s=>ev (ay aw fu n) fu FG (some v::[0].map L.get) s) fu 0 [] s=some (ys,s')∧∃as,Ke s N ys as s':=
 G4 (λi ys s'=>i≤N∧∃as,Ke s i ys as s') (λi ys s' h=>h.2.elim λas a=>adj (Nat.le_of_eq (a.R.length.trans a.l)) (adj h.1 (adj hN (by decide)))) (λi ys s1 hi h=>h.2.elim λas a=>ZV hn a.P (adj h6 a.e.1) l1 λs' v x hx hv s8 e=>⟨hi,as++[x],s8,a.e.trans e,(a.R.mono λv y hy=>hy.keep (λi c hi g=>e.get g (nS hi)) λ_ h=>h).push hv,List.length_append.trans (congrArg (· +1) a.l),λy hy=>(List.mem_append.1 hy).elim (a.u y) λhy=>List.mem_singleton.1 hy▸hx⟩) fu 0 [] s (adl hN (adl (adj (by decide) (Nat.le_add_left 100 aq)) hf)) (Nat.zero_le _) ⟨Nat.zero_le _,[],hP,.refl,.nil,rfl,λ_ h=>nomatch h⟩ |>.imp λys h=>h.imp λs' h=>⟨h.1,h.2.2⟩
theorem aaR {nm:List Nat} {as:List A0} {wide:Bool} (h:(96::nm++sR as wide).length≤60):(sR as wide).length≤60∧(u7 wide++cu qD (as.map wA)).length≤60∧(cu qD (as.map wA)).length≤60:=by
 rw [List.length_append] at h
 have h1:=adj (Nat.le_add_left _ _) h
 have h2:=h1
 rw [sR,List.length_append] at h2
 have h3:=adj (adm _ _) h2
 exact ⟨h1,h3,adj (Nat.le_add_left _ _) (List.length_append (as:=u7 wide)▸h3)⟩
theorem DQ {a b:List Nat} (h:(a++b).length≤60):(a++b).length≤aq:=adj h (dh▸by decide)
abbrev J9:Ss:=fC (bf 6 bU)
theorem F8 {kd t a:Nat} {nm:List Nat} {as:List A0} {bY:List V} (hf:aq+100<fu) (hP:dA s) (ga:s[a]?=some (.list bY)) (h6:6≤a) (hA:RL (dP s gm) bY as) (hc:cnt nm=1∧nm=nF∨cnt nm=2∧nm=nG) (hl:as.length=cnt nm) (hg:∀x∈as,gR x)
    (K:∀s' wide x8,gw nm as wide→dA s'→aU 2 s s'→s'[a]?=some (.list bY)→RL (dP s' gm) bY as→R .next (jg kd t nm a (wN wide) (kK nm as wide) x8 none none) s'):Wq (ah (ay aw fu (n+1)) fu (bf 2 J9) (jg kd t nm a 0 (96::nm) none none none) s) R X:=by
 refine eT (xG (eu (aS rfl (eO (b:=3) (Nat.succ_pos n) (by decide) (by decide) hP λr s1 _ et e1=>aS rfl (bZ n8 ?_)))))
 show Wq (ah _ fu _ (jg kd t nm a 0 (96::nm) (some (.bool (decide ((r:Int)=2)))) none none) s1) R X
 generalize decide ((r:Int)=2)=wide
 have hu:=UK (wide:=wide) hc hl hg
 have Nv:=hu.2▸Bw hu.1
 have b:=aaR Nv
 have MM:=e1.get ga (nS h6)
 have pX:RL (dP s1 gm) bY as:=hA.mono λv x hx=>hx.keep (λi c hi g=>e1.get g (nS hi)) λ_ h=>h
 refine aV (v:= .int (wN wide:Int)) (match wide with
  |true=>rfl
  |false=>rfl) ?_
 exact (VY (n:=n) (L:=jg kd t nm a (wN wide) (96::nm) (some (.bool wide)) none none) (caps:=[]) (e:= .loc 5) hf MM pX hg (hc.imp (λh=>hl.trans h.1) λh=>hl.trans h.1) rfl).elim λs2 h2=>have x2:=h2.2.push (d:= .list ((as.map wA).map .str))
  yG rfl (bG (bG (y:= .str (cu qD (as.map wA))) (x:= .str (u7 wide)) (match wide with
  |true=>rfl
  |false=>rfl) (jf rfl rfl (aJ h2.1 rfl) (qv bH (adj (Nat.add_le_add_right b.2.2 9) (dh▸by decide)))) (ng (DQ b.2.1))) rfl (ng (DQ b.1))) (tn (DQ Nv)) rfl (bz (hu.2▸K _ wide _ hu.1 (et.ext x2) (e1.trans x2.toT) (x2.get MM) (pX.mono λv x hx=>hx.keep (λi c _ g=>x2.get g) λ_ h=>h)))
theorem NS {kd t a0:Nat} {nm:List Nat} (hf:aq+100<fu) (hP:dA s) (h6:6≤s.length) (hk:kd=cnt nm+2) (hc:cnt nm=1∧nm=nF∨cnt nm=2∧nm=nG)
    (K:∀s' a as bY wide x8,gw nm as wide→dA s'→aU 2 s s'→s'[a]?=some (.list bY)→6≤a→RL (dP s' gm) bY as→R .next (jg kd t nm a (wN wide) (kK nm as wide) x8 none none) s'):Wq (ah (ay aw fu (n+1)) fu J9 (jg kd t nm a0 0 (96::nm) none none none) s) R X:=by
 have xB:cnt nm≤2:=hc.elim (λh=>adj (Nat.le_of_eq h.1) (by decide)) λh=>Nat.le_of_eq h.1
 refine (PT (n:=n+1) (L:=jg kd t nm a0 0 (96::nm) none none none) xB hf (Nat.succ_pos n) hP h6 rfl).elim λys h=>h.elim λs1 h=>h.2.elim λas a=>aaO (aS (Z5 (N:=cnt nm) (bG rfl rfl (yC.trans (by rw [hk,Int.natCast_add];exact congrArg (λi=>some (V.int i)) (Int.add_sub_cancel ..)))) (adj xB (by decide)) h.1) ?_)
 have x2:=(aj.refl (O:=s1)).push (d:= .list ys)
 have l6:=adj h6 a.e.1
 have ga:(s1++[Cell.list ys])[s1.length]?=some (.list ys):=bH
 have kM:(s1++[Cell.list ys]).length=s1.length+1:=kU
 have gL:=a.P.ext x2
 have e2:=a.e.trans x2.toT
 have hA:RL (dP (s1++[Cell.list ys]) (Fe s1.length)) ys as:=a.R.mono λv x hx=>hx.old.keep (λi c _ g=>x2.get g) λi hi=>⟨hi.1,Nat.ne_of_lt hi.2⟩
 show Wq (ah _ fu _ (jg kd t nm s1.length 0 (96::nm) none none none) _) R X
 generalize s1++[Cell.list ys]=s2 at ga kM gL e2 hA ⊢
 refine mE (xG (eu (aS rfl (eO (b:=3) (Nat.succ_pos n) (by decide) (by decide) gL λr s3 _ kH e3=>aS rfl (bZ n8 (.mk (rT (λ_=>?_) λ_=>n1 (F8 hf kH (e3.get ga (nS l6)) l6 (hA.mono λv x hx=>hx.keep (λi c hi g=>e3.get g (nS hi.1)) λ_ h=>h.1) hc a.l a.u λs' wide x8 hi s8 e' g' BM=>K s' _ as ys wide x8 hi s8 ((e2.trans e3).trans e') g' l6 BM))))))))
 have y1:=(aj.refl (O:=s3)).push (d:= .list [])
 have y2:=y1.push (d:= .list [.tup [.str lS,.str nA,.ref s3.length]])
 have BD:=e3.get ga (nS l6)
 have l3:=dD BD
 have Az:RL (dP s3 (Fe s1.length)) ys as:=hA.mono λv x hx=>hx.keep (λi c hi g=>e3.get g (nS hi.1)) λ_ h=>h
 refine (RL.some Az (List.ne_nil_of_length_pos (a.l▸hc.elim (λh=>h.1▸by decide) λh=>h.1▸by decide))).elim λv e=>e.elim λvs e=>e.elim λx e=>e.elim λr e=>?_
 have ev:=e.1
 have hr:=e.2.2
 have al:=e.2.1▸a.l
 have au:∀y∈x::r,gR y:=e.2.1▸a.u
 subst ev
 have z:∀i c,Fe s1.length i→(s3++[Cell.list []]++[Cell.list [.tup [.str lS,.str nA,.ref s3.length]]])[i]?=some c→((s3++[Cell.list []]++[Cell.list [.tup [.str lS,.str nA,.ref s3.length]]]).set s1.length (.list (.ref (s3++[Cell.list []]).length::vs)))[i]?=some c:=λi c hi g=>fU g (Ne.symm hi.2)
 have f0:Fe s1.length s3.length:=⟨adj l6 (Nat.le_of_lt l3),Nat.ne_of_gt l3⟩
 have f1:Fe s1.length (s3++[Cell.list []]).length:=kU.symm▸⟨Nat.le_succ_of_le f0.1,Nat.ne_of_gt (Nat.lt_succ_of_lt l3)⟩
 exact oG rfl rfl rfl (ug (i:=0) (y2.get BD) (Nat.succ_pos _)) (n1 (F8 (as:= .use nA::r) hf ((kH.ext y2).keep aU.refl.set (Nat.ne_of_gt (adk (by decide) l6)) (nS l6)) (cW (y2.get BD)) l6 (.cons ⟨_,_,rfl,f1.1,z _ _ f1 bH,.use nA s3.length f0.1 (z _ _ f0 (mN bH))⟩ (hr.mono λv x hx=>hx.keep (λi c hi g=>z i c hi (y2.get g)) λ_ h=>h.1)) hc al (List.forall_mem_cons.2 ⟨rfl,λy hy=>au y (.tail _ hy)⟩)
    λs' wide x8 hi s8 e' g' BM=>K s' _ _ _ wide x8 hi s8 ((((e2.trans e3).trans y2.toT).rH a.e.1).trans e') g' l6 BM))
theorem V7 (hf:aq+100<fu) (h:aZ O W) (hM:gF W.aL) (hE:lQ (ay aw fu (n+1)) 20) (ht:W.text.length≤100000) (hd:W.dQ.length≤200000)
    (H:∀nm as wide af,gw nm as wide→aZ af (u9 W nm as wide)→Up O af→Q .none af):Wp (ay aw fu (n+2) 34 [.ref 2,.ref 5] O) Q X:=by
 refine dT (L:=[some (.ref 2),some (.ref 5),none,none,none,none,none,none,none,none,none]) rfl rfl (by decide) rfl (nV rfl (eO (b:=5) (Nat.succ_pos n) (by decide) (by decide) h.p λkd s1 sZ et e1=>(MU kd sZ).elim λnm hn=>?_))
 have h1:=h.fY et e1
 have x2:=(aj.refl (O:=s1)).push (d:= .list [])
 have fin:∀s' a as bY wide x8,gw nm as wide→dA s'→aU 2 (s1++[Cell.list []]) s'→s'[a]?=some (.list bY)→6≤a→RL (dP s' gm) bY as→Wq (ah (ay aw fu (n+1)) fu (bf 7 bU) (jg kd W.text.length nm a (wN wide) (kK nm as wide) x8 none none) s') (bM Q) X:=λs' a as bY wide x8 hi hP e ga h6 hA=>
  have e:=(e1.trans x2.toT).trans e
  Vx (h.fY hP e) ht hd (Bw hi) (match wide with
  |true=>by decide
  |false=>by decide) hi.good hM hE ga h6 hA λaf h' u=>H nm as wide af hi h' ((e.up (by decide)).trans u)
 refine aV (fb (aJ (w_get h1.w rfl rfl) rfl) qo) (aV (bj rfl rfl (hn.1 _)) (aV rfl (aV rfl (aV (bG rfl rfl (ng (a:=[96]) (b:=nm) (adj (Nat.le_of_eq (congrArg (· +1) hn.2.l)) (dh▸by decide)))) (hn.2.k.elim (λq=>fH ((aO rfl rfl mz).trans (congrArg (λb=>Out.ok (V.bool b) _) (decide_eq_false (Int.not_lt.2 (Int.ofNat_le.2 (Nat.le_of_lt_succ q.1)))))) (n1 (fin _ _ [] [] false none (.none q.2.1) (et.ext x2) .refl bH h1.l .nil))) λq=>
  cN ((aO rfl rfl mz).trans (congrArg (λb=>Out.ok (V.bool b) _) (decide_eq_true (Int.ofNat_lt.2 (q.1▸Nat.lt_add_of_pos_left (q.2.elim (λh=>h.1▸by decide) λh=>h.1▸by decide)))))) (NS hf (et.ext x2) (adj h1.l x2.1) q.1 q.2 λs' a as bY wide x8 hi hP e ga h6 hA=> .next (fin s' a as bY wide x8 hi hP e ga h6 hA)))))))
end
noncomputable def vn:List (List Nat):=[[],[40,112,41],[40,32,112,32,44,32,113,32,41]]
noncomputable def nJ (c:Nat):List Nat:=vn.getD c []
noncomputable def gf (nm:List Nat):List Nat:=[96,100,101,102,105,110,101,32]++nm++nJ (cnt nm)++[32]
noncomputable def fF (way:Nat):List Nat:=if way=1 then [92,10] else if way=2 then [47,42,32,112,32,42,47] else []
noncomputable def sq (way:Nat):List Nat:=if way=1 then [32,47,47,32,96,65,10] else if way=2 then [32,92,10,32,10] else [10]
noncomputable def iK (way:Nat):List Nat:=if way=1 then [10,10] else if way=2 then [10,10] else [10]
noncomputable def fQ (nm:List Nat) (ps:List Pz) (way:Nat):List Nat:=gf nm++fF way++bq ps++sq way
noncomputable def LW.rS (W:LW) (nm:List Nat) (ps:List Pz):LW:={W with aL:=dX W.aL nm ps}
noncomputable def rL (W:LW) (nm:List Nat) (ps:List Pz) (way:Nat):LW:=if W.aM=true then (W.emit (fQ nm ps way) (iK way)).rS nm ps else W.emit (fQ nm ps way) (iK way)
structure Yv (c:Nat) (p:Pz):Prop where
 o:yf p
 l:(wP p).length≤6
 i:l8 c p
theorem Sw:∀nm∈jb,ba nm:=CS (cy rfl) (cy rfl) (cy rfl)
theorem iF.facts {c:Nat} {p:Pz} (hc:c≤2) (h:iF c p):Yv c p:=by
 cases h with
 |txt hs=>exact have g:=List.mem_append_left _ hs;⟨(qZ g).2,(qZ g).1,g⟩
 |cS hi=>exact ⟨adk hi hc,by show 1≤6;decide,hi⟩
 |use hn=>exact ⟨Sw _ hn,adj (Nat.le_of_eq (congrArg (· +1) (J5 _ hn))) (by decide),hn⟩
 |M9 h0=>exact ⟨⟨Nat.zero_lt_succ 1,cy rfl⟩,by decide,rfl,h0⟩
 |Io h0=>exact ⟨⟨cy rfl,cy rfl⟩,by decide,rfl,show [107]∈my by decide⟩
theorem Np {b:Nat}:∀{ps:List Pz},(∀p∈ps,(wP p).length≤b)→(ps.map wP).flatten.length≤b*ps.length
 |[],_=>Nat.zero_le _
 |p::r,h=>by
  rw [show ((p::r).map wP).flatten=wP p++(r.map wP).flatten from rfl,List.length_append,List.length_cons,Nat.mul_succ,Nat.add_comm]
  exact Nat.add_le_add (Np λq hq=>h q (.tail _ hq)) (h p (.head _))
theorem zh {b:Nat} {ps:List Pz} (h:∀p∈ps,(wP p).length≤b) (hl:ps.length≤3):(bq ps).length≤b*3+3:=adj (xk (ps.map wP)) (Nat.add_le_add (adj (Np h) (Nat.mul_le_mul_left b hl)) (adj (Nat.le_of_eq (List.length_map _)) hl))
section
variable {fu n:Nat} {O:ag} {X:aX→ag→Prop} {Q:V→ag→Prop} {W:LW} {kd:Nat} {nm:List Nat}
theorem aZ.rS {ps:List Pz} {es:List (List Nat×V)} {v:V} (h:aZ O W) (ff:O[3]?=some (.dict es)) (pq:bo (kI O) es W.aL) (hv:kI O v ps):aZ (O.set 3 (.dict (dictPut es nm v))) (W.rS nm ps)∧Up O (O.set 3 (.dict (dictPut es nm v))):=
 have e:aU 3 O (O.set 3 (.dict (dictPut es nm v))):=aU.refl.set
 have u:=e.up (by decide)
 ⟨⟨e.get h.w (by decide),⟨_,cW ff,(pq.put hv).mono λv a r=>r.up u⟩,e.get h.n (by decide),h.p.keep e (by decide) (by decide),adj h.l e.1⟩,u⟩
theorem Ul {s:ag} (h:rm kd nm):mR .max s [.int 0,.int ((kd:Int)-2)]= .ok (.int (cnt nm:Int)) s:=congrArg (λi=>Out.ok (V.int i) s) (by
 have:=h.k
 show (if (0:Int)<(kd:Int)-2 then (kd:Int)-2 else 0)=_
 split<;>omega)
theorem aaB:∀c,c<3→(vn.map V.str)[c]?=some (.str (nJ c)):=cO rfl (cO rfl (cO rfl iC))
theorem Pj:∀c,c<3→(nJ c).length≤9:=cO (by decide) (cO (by decide) (cO (by decide) iC))
theorem rm.c3 (h:rm kd nm):cnt nm<3:=h.k.elim (λh=>h.2.2▸by decide) λh=>h.2.elim (λh=>h.1▸by decide) λh=>h.1▸by decide
theorem JN (h:rm kd nm):(gf nm).length≤20:=by
 rw [gf,List.length_append,List.length_append,List.length_append,h.l]
 exact Nat.add_le_add_right (Nat.add_le_add_left (Pj _ h.c3) 9) 1|>λq=>adj q (by decide)
theorem JD:∀way,way<3→(fF way).length≤7∧(sq way).length≤7∧(iK way).length≤2:=cO (by decide) (cO (by decide) (cO (by decide) iC))
structure G1 (nm:List Nat) (ps:List Pz) (way:Nat):Prop where
 a:(gf nm++fF way).length≤100
 b:(gf nm++fF way++bq ps).length≤100
 c:(fQ nm ps way).length≤100
theorem Z0 {ps:List Pz} {way:Nat} (h:rm kd nm) (hw:(bq ps).length≤24) (hy:way<3):G1 nm ps way:=by
 have h1:=JN h
 have y:=JD way hy
 have a:(gf nm++fF way).length≤27:=List.length_append (as:=gf nm)▸Nat.add_le_add h1 y.1
 have b:(gf nm++fF way++bq ps).length≤51:=List.length_append (as:=gf nm++fF way)▸Nat.add_le_add a hw
 exact ⟨adj a (by decide),adj b (by decide),adj (List.length_append (as:=gf nm++fF way++bq ps)▸Nat.add_le_add b y.2.1) (by decide)⟩
noncomputable def Ax (kd:Nat) (nm:List Nat) (r:Nat) (ps:List Pz) (way:Nat):Locals:=[some (.ref 2),some (.ref 5),some (.int (kd:Int)),some (.int (cnt nm:Int)),some (.str nm),some (.ref r),some (.str (gf nm)),some (.str (bq ps)),some (.int (way:Int))]
abbrev C4:Ss:=LM
theorem kN {a b:List Nat} (h:(a++b).length≤100):e8 .add (.str a) (.str b)=some (.str (a++b)):=qd h
theorem Yb {r:Nat} {ps:List Pz} {way:Nat} {R:Flow→Locals→ag→Prop} (hy:way<3) (h:aZ O W) (hl:G1 nm ps way) (ht:W.text.length≤100000) (hd:W.dQ.length≤200000)
    (K:∀s,aZ s (W.emit (fQ nm ps way) (iK way))→Up O s→Wq (ah (ay aw fu (n+1)) fu (bf 8 C4) (Ax kd nm r ps way) s) R X):Wq (ah (ay aw fu (n+1)) fu (bf 7 C4) (Ax kd nm r ps way) O) R X:=by
 have em:∀{L:Locals} {P:V→ag→Prop},(∀s,aZ s (W.emit (fQ nm ps way) (iK way))→Up O s→P .none s)→Wp (ay aw fu (n+1) 33 [.ref 5,.str (fQ nm ps way),.str (iK way)] O) P X:=λk=>AP h (List.length_append▸adj (Nat.add_le_add ht hl.c) (dh▸by decide)) (adj (Nat.add_le_add hd (JD way hy).2.2) (dh▸by decide)) k
 refine eJ (aO rfl rfl (j7 (b:=1))) (λe=>?_) λe=>eJ (aO rfl rfl (j7 (b:=2))) (λe=>?_) λe2=>?_
 ·subst e
  exact j8 (aJ rfl (aJ (bG (bG (bG rfl rfl (kN hl.a)) rfl (kN hl.b)) rfl (kN hl.c)) rfl)) (em (L:=[]) λs w u=>n1 (K s w u))
 ·subst e
  exact j8 (aJ rfl (aJ (bG (bG (bG rfl rfl (kN hl.a)) rfl (kN hl.b)) rfl (kN hl.c)) rfl)) (em (L:=[]) λs w u=>n2 (K s w u))
 ·have a:fF way=[]:=(if_neg e).trans (if_neg e2)
  have b:sq way=[10]:=(if_neg e).trans (if_neg e2)
  have c:iK way=[10]:=(if_neg e).trans (if_neg e2)
  have hb:=hl.b
  have hc:=hl.c
  have hd:fQ nm ps way=gf nm++bq ps++[10]:=by rw [fQ,a,b,List.append_nil]
  rw [a,List.append_nil] at hb
  rw [hd] at hc
  exact j8 (aJ rfl (aJ (bG (bG rfl rfl (kN hb)) rfl (kN hc)) rfl)) (hd▸c▸em (L:=[]) λs w u=>n2 (K s w u))
theorem E4 {ps:List Pz} {way:Nat} (h:W.aM=true):rL W nm ps way=(W.emit (fQ nm ps way) (iK way)).rS nm ps:=if_pos h
theorem Ly {ps:List Pz} {way:Nat} (h:W.aM=false):rL W nm ps way=W.emit (fQ nm ps way) (iK way):=if_neg λc=>nomatch c.symm.trans h
theorem Px {r:Nat} {ps:List Pz} {way:Nat} (h:aZ O (W.emit (fQ nm ps way) (iK way))) (sO:W.aL.length≤10000) (hM:kI O (.ref r) ps) (H:∀af,aZ af (rL W nm ps way)→Up O af→Q .none af):Wq (ah (ay aw fu (n+1)) fu (bf 8 C4) (Ax kd nm r ps way) O) (bM Q) X:=
 fG (w_get h.w rfl rfl) (λq=>h.m.elim λes m=>have w2:=h.rS (nm:=nm) m.1 m.2 hM
  oG rfl (bj rfl rfl (eS h.w rfl)) rfl (tK m.1 (adl (adj (Nat.le_of_eq m.2.length) sO) (by decide))) (n1 (bz (.next (H _ ((E4 (W:=W) q).symm▸w2.1) w2.2))))) λq=>n1 (bz (.next (H _ ((Ly (W:=W) q).symm▸h) .refl)))
theorem Uy (hf:aq+100<fu) (h:aZ O W) (ht:W.text.length≤100000) (hd:W.dQ.length≤200000) (sO:W.aL.length≤10000)
    (H:∀nm ps way af,nm∈hO→(∀p∈ps,iF (cnt nm) p)→ps.length≤3→way<3→aZ af (rL W nm ps way)→Up O af→Q .none af):Wp (ay aw fu (n+4) 35 [.ref 2,.ref 5] O) Q X:=by
 refine dT (L:=[some (.ref 2),some (.ref 5),none,none,none,none,none,none,none]) rfl rfl (by decide) rfl (nV rfl (eO (b:=5) (Nat.succ_pos _) (by decide) (by decide) h.p λkd s1 sZ et e1=>(MU kd sZ).elim λnm hn=>?_))
 have h1:=h.fY et e1
 refine aV (fb (aJ rfl (aJ (bG rfl rfl yC) rfl)) (Ul hn.2)) (aV (bj rfl rfl (hn.1 _)) (nV rfl (Oq (Nat.le_add_left 2 n) hf hn.2.c3 h1.p (adk (by decide) h1.l) λr s2 vs ps hr o8 hR ib qe gL e2=>?_)))
 have h2:=h1.fY gL e2
 have zb:=λp hp=>(ib p hp).facts (Nat.le_of_lt_succ hn.2.c3)
 have oP:(bq ps).length≤24:=adj (zh (b:=6) (λp hp=>(zb p hp).l) qe) (by decide)
 have eE:(gf nm).length≤100:=adj (JN hn.2) (by decide)
 have b1:([96,100,101,102,105,110,101,32]++nm++nJ (cnt nm)).length≤100:=adj (adm _ _) (List.length_append (bs:=[32])▸eE)
 have b2:([96,100,101,102,105,110,101,32]++nm).length≤100:=adj (adm _ _) (List.length_append (bs:=nJ (cnt nm))▸b1)
 have x3:=(aj.refl (O:=s2)).push (d:= .list (vn.map .str))
 have h3:=h2.ext x3
 have HS:=hR.mono (R':=RP (s2++[.list (vn.map .str)]) gm) λv p hp=>hp.keep (λi c _ g=>x3.get g) λi hi=>adj h1.l hi
 refine aV (v:= .str (gf nm)) (bG (bG (bG rfl rfl (kN b2)) (bj rfl rfl (eD bH (aaB _ hn.2.c3))) (kN b1)) rfl (kN eE)) ((Xd (fu:=fu) (n:=n+2) (Nat.succ_pos _) hf (x3.get o8) HS (adj qe (by decide)) (λp hp=>⟨(zb p hp).o,adj (zb p hp).l (by decide)⟩) (adj oP (by decide))).elim λs4 h4=>aV (d8 rfl h4.1) (nV rfl (eO (b:=3) (Nat.succ_pos _) (by decide) (by decide) (h3.ext h4.2).p λway s5 Ai vV e5=>?_)))
 have h5:=(h3.ext h4.2).fY vV e5
 have L8:=h4.2.up.trans (e5.up (by decide))
 exact Yb (n:=n+2) Ai h5 (Z0 hn.2 oP Ai) ht hd λs6 h6 u6=>Px h6 sO (kI.up ⟨r,vs,rfl,adj h1.l hr,x3.get o8,HS⟩ (L8.trans u6)) λaf h' u'=>H nm ps way af hn.2.m ib qe Ai h' (((((e1.up (by decide)).trans (e2.up (by decide))).trans x3.up).trans (L8.trans u6)).trans u')
end
noncomputable def mJ (s:List Nat):Nat:=if 0<cp s then cp s else a7 s
noncomputable def fM:List Nat→Nat
 |[]=>0
 |c::r=>if c=96 then 1+aC r else mJ (c::r)
noncomputable def Loc (f:List Nat→Nat):Prop:=∀(t:List Nat) (d:Nat) (r:List Nat),t≠[]→f (t++[d])≤t.length→f (t++d::r)=f (t++[d])
section
variable {d:Nat} {r:List Nat}
theorem oY {a n:Nat} (h:1+a≤n+1):a≤n:=Nat.le_of_add_le_add_left (a:=1) (adj h (Nat.le_of_eq (Nat.add_comm n 1)))
theorem Jx {a:Nat} {P:Prop} (h:1+a≤0):P:=absurd (adk (adk Nat.zero_lt_one (adm 1 a)) h) (Nat.lt_irrefl 0)
theorem lX {c:Prop} [Decidable c] {x y y' n:Nat} (h:(if c then x else y)≤n) (k:¬c→y≤n→y'=y):(if c then x else y')=(if c then x else y):=if q:c then (if_pos q).trans (if_pos q).symm else (if_neg q).trans ((k q (adj (Nat.le_of_eq (if_neg q).symm) h)).trans (if_neg q).symm)
theorem mY {c:Prop} [Decidable c] {x x' y y' n:Nat} (h:(if c then x else y)≤n) (k1:x≤n→x'=x) (k:y≤n→y'=y):(if c then x' else y')=(if c then x else y):=if q:c then (if_pos q).trans ((k1 (adj (Nat.le_of_eq (if_pos q).symm) h)).trans (if_pos q).symm) else (if_neg q).trans ((k (adj (Nat.le_of_eq (if_neg q).symm) h)).trans (if_neg q).symm)
theorem zS:∀(t:List Nat) (e:Bool),ew e (t++[d])≤t.length→ew e (t++d::r)=ew e (t++[d])
 |[],e,h=>lX h λ_ h=>match e,h with
  |true,h=>Jx h
  |false,h=>lX h λ_ h=>lX h λ_ h=>Jx h
 |c::t,e,h=>lX h λ_ h=>match e,h with
  |true,h=>congrArg (1+ ·) (zS t false (oY h))
  |false,h=>lX h λ_ h=>lX h λ_ h=>congrArg (1+ ·) (zS t _ (oY h))
theorem nj {p:List Nat→Bool} (hp:∀c x y,p (c::x)=p (c::y)):∀(t:List Nat),du p (t++[d])≤t.length→du p (t++d::r)=du p (t++[d])
 |[],h=>by
  show (if p (d::r)=true then _ else 0)=if p [d]=true then _ else 0
  rw [hp d r []]
  exact mY h (λh=>absurd h (Nat.not_succ_le_zero _)) λ_=>rfl
 |c::t,h=>by
  show (if p (c::(t++d::r))=true then _ else 0)=if p (c::(t++[d]))=true then _ else 0
  rw [hp c (t++d::r) (t++[d])]
  exact mY h (λh=>congrArg (· +1) (nj hp t (Nat.le_of_succ_le_succ h))) λ_=>rfl
theorem Nh:∀(t:List Nat),ko (t++[d])≤t.length→ko (t++d::r)=ko (t++[d])
 |[],h=>absurd (show ko [d]≤0 from h) (by
  show ¬(if d=42∧([]:List Nat).head?=some 47 then 2 else 1+0)≤0
  rw [if_neg (λq=>nomatch q.2)];decide)
 |c::t,h=>by
  have e:(t++d::r).head?=(t++[d]).head?:=by cases t<;>rfl
  show (if c=42∧(t++d::r).head?=some 47 then 2 else _)=if c=42∧(t++[d]).head?=some 47 then 2 else _
  rw [e]
  exact lX h λ_ h=>congrArg (1+ ·) (Nh t (oY h))
theorem xR (c:Nat) (x y:List Nat):fE (c::x)=fE (c::y):=rfl
theorem De:∀t,t≠[]→aC (t++[d])≤t.length→aC (t++d::r)=aC (t++[d])
 |c::t,_,h=>lX h λ_ h=>nj xR (c::t) h
end
theorem tZ:Loc a7:=λt d r ht h=>match t,ht,h with
 |c::t,_,h=>mY h (λh=>congrArg (1+ ·) (zS t false (oY h))) λh=>mY h (nj (λ_ _ _=>rfl) (c::t)) λh=>mY h (λh=>congrArg (1+ ·) (nj xR t (oY h))) λh=>congrArg (max · 1) (nj xR (c::t) (adj (Nat.le_max_left ..) h))
theorem GG:Loc cp:=λt d r ht h=>by
 have e:(t++d::r).take 2=(t++[d]).take 2:=match t,ht with
  |[c],_=>rfl
  |c::c2::t,_=>rfl
 unfold cp at h ⊢
 rw [e]
 exact mY h (nj (λ_ _ _=>rfl) t) λh=>mY h (λh=>match t,ht,h with
  |[c],_,h=>absurd h (by show ¬2+ko []≤1;decide)
  |c::c2::t,_,h=>congrArg (2+ ·) (Nh t (Nat.le_of_add_le_add_left (a:=2) (adj h (Nat.le_of_eq (Nat.add_comm t.length 2)))))) λ_=>rfl
theorem An:Loc mJ:=λt d r ht h=>by
 have hr:cp (t++[d])≤t.length:=adj (gu (P:=λx=>cp (t++[d])≤x) (λ_=>adp _) λq=>adj (Nat.le_of_not_lt q) (Nat.zero_le _)) h
 unfold mJ at h ⊢
 rw [GG t d r ht hr]
 exact lX h λ_ h=>tZ t d r ht h
theorem xF:Loc fM:=λt d r ht h=>match t,ht,h with
 |[c],_,h=>mY h (λh=>have z:aC [d]=0:=Nat.le_zero.1 (oY (n:=0) h)
   congrArg (1+ ·) (show aC (d::r)=aC [d] from lX (n:=0) (Nat.le_of_eq z) λ_ h=>nj xR [] h)) (An [c] d r (λq=>nomatch q))
 |c::c2::t,_,h=>mY h (λh=>congrArg (1+ ·) (De (c2::t) (λq=>nomatch q) (oY h))) (An (c::c2::t) d r (λq=>nomatch q))
section
variable {f:List Nat→Nat} {ac:List Nat} {ts us:List (List Nat)}
inductive eK (f:List Nat→Nat) (ac:List Nat):List (List Nat)→Prop where
 |nil:eK f ac []
 |cons {c:Nat} {t:List Nat} {ts:List (List Nat)}:f (c::t++(ts.flatten++ac))=(c::t).length→eK f ac ts→eK f ac ((c::t)::ts)
theorem eK.append (h:eK f (us.flatten++ac) ts) (h2:eK f ac us):eK f ac (ts++us):=by
 induction h with
 |nil=>exact h2
 |@cons c t ts e _ ih=>exact .cons (ts:=ts++us) (by rw [List.flatten_append,List.append_assoc];exact e) ih
noncomputable def pu (f:List Nat→Nat) (d:List Nat):List (List Nat)→Bool
 |[]=>true
 |t::ts=>(!t.isEmpty&&f (t++(ts.flatten++d).take 1)==t.length)&&pu f d ts
theorem QK {a b:List Nat}:(a++b.take 1).take 1=(a++b).take 1:=by
 cases a with
 |nil=>cases b<;>rfl
 |cons c a=>rfl
theorem Ra (hf:Loc f) {t:List Nat} (ht:t≠[]):∀{u:List Nat},f (t++u.take 1)=t.length→f (t++u)=t.length
 |[],h=>h
 |d::r,h=>(hf t d r ht (Nat.le_of_eq h)).trans h
theorem tv (hf:Loc f):∀{ts:List (List Nat)},pu f (ac.take 1) ts=true→eK f ac ts
 |[],_=> .nil
 |[]::ts,h=>nomatch bp (bp h)
 |(c::t)::ts,h=> .cons (Ra hf (t:=c::t) (λq=>nomatch q) (QK▸eq_of_beq (aW (bp h)))) (tv hf (aW h))
end
noncomputable def v5:List (List Nat):=[[],[32],[10],[41]]
noncomputable def Sep (ac:List Nat):Prop:=ac.take 1∈v5
noncomputable def fj (f:List Nat→Nat):Nat→List Nat→List (List Nat)
 |0,_=>[]
 |_+1,[]=>[]
 |n+1,c::r=>(c::r).take (f (c::r))::fj f n ((c::r).drop (f (c::r)))
noncomputable def rj (f:List Nat→Nat) (w:List Nat):Bool:=v5.all (λd=>pu f d (fj f 30 w))&&(fj f 30 w).flatten==w
theorem Ej {a b:List Nat} (h:(a==b)=true):a=b:=eq_of_beq h
theorem tW {f:List Nat→Nat} {w ac:List Nat} (hf:Loc f) (hs:Sep ac) (h:rj f w=true):eK f ac (fj f 30 w):=tv hf (List.all_eq_true.1 (bp h) _ hs)
theorem pJ {f:List Nat→Nat} {w:List Nat} (h:rj f w=true):(fj f 30 w).flatten=w:=Ej (aW h)
noncomputable def sj:List A0:=my.map .txt++([.cS 0,.cS 1]++jb.map .use)
noncomputable def jD (x:A0):Prop:=x∈sj
theorem jD.all {x:A0} {p:A0→Bool} (h:jD x) (hp:sj.all p=true):p x=true:=List.all_eq_true.1 hp x h
theorem iQ.full {c:Nat} (hc:c≤2):∀{x:A0},iQ c x→jD x
 | .txt s,h=>List.mem_append_left _ (List.mem_map_of_mem h)
 | .use nm,h=>List.mem_append_right _ (List.mem_append_right _ (List.mem_map_of_mem h))
 | .cS i,h=>List.mem_append_right _ (List.mem_append_left _ (cO (P:=λi=>A0.cS i∈[A0.cS 0,.cS 1]) (.tail _ (.head _)) (cO (.head _) iC) i (adk h hc)))
theorem iO.full:∀{x:A0},iO x→jD x
 | .txt s,h=>iQ.full (c:=0) (Nat.zero_le 2) (x:= .txt s) h
 | .use s,h=>iQ.full (c:=0) (Nat.zero_le 2) (x:= .use s) h
noncomputable def jL:Pz→Prop
 | .a x=>jD x
 | .call nm x=>nm=nF∧jD x
theorem j2.full:∀{p:Pz},j2 p→jL p
 | .a _,h=>iO.full h
 | .call _ _,h=>⟨h.1,h.2.full⟩
theorem l8.full {c:Nat} (hc:c≤2):∀{p:Pz},l8 c p→jL p
 | .a _,h=>iQ.full hc h
 | .call _ _,h=>⟨h.1,h.2.full hc⟩
noncomputable def pN (t:List Nat):Bool:=t.head? !=some 10&&(t.head? !=some 92&&t.head? !=some 47)
noncomputable def ma (t:List Nat):Bool:=t.head? !=some 96||(decide (t.drop 1∉dM)&&t.count 10==0)
noncomputable def ends (w:List Nat):Bool:=(match w with |[]=>false |c::_=> !dC c)&&(match w.reverse with |[]=>false |c::_=> !dC c)
noncomputable def OF (x:A0):Bool:=(rj a7 (wA x)&&(fj a7 30 (wA x)).all pN)&&((rj fM (wA x)&&(fj fM 30 (wA x)).all ma)&&((wA x).all (λc=>decide (c<128))&&(decide ((wA x).length≤6)&&(ends (wA x)&&(wA x).count 10==0))))
theorem NF:sj.all OF=true:=by decide +kernel
noncomputable def kW (x:A0):List (List Nat):=fj a7 30 (wA x)
noncomputable def Cy (x:A0):List (List Nat):=fj fM 30 (wA x)
structure TB (x:A0):Prop where
 w:rj a7 (wA x)=true
 h:(kW x).all pN=true
 o:rj fM (wA x)=true
 k:(Cy x).all ma=true
 a:ba (wA x)
 l:(wA x).length≤6
 e:ends (wA x)=true
 c:(wA x).count 10=0
theorem jD.f {x:A0} (h:jD x):TB x:=have q:=h.all NF
 ⟨bp (bp q),aW (bp q),bp (bp (aW q)),aW (bp (aW q)),cy (bp (aW (aW q))),adn (bp (aW (aW (aW q)))),bp (aW (aW (aW (aW q)))),eq_of_beq (aW (aW (aW (aW (aW q)))))⟩
theorem qK {α:Type} {c:Prop} [Decidable c] {x y x' y' z:α} (k1:c→x=z→x'=z) (k2:¬c→y=z→y'=z) (h:(if c then x else y)=z):(if c then x' else y')=z:=if q:c then (if_pos q).trans (k1 q ((if_pos q).symm.trans h)) else (if_neg q).trans (k2 q ((if_neg q).symm.trans h))
theorem AK:∀(f d:Nat) (as:List (List Nat)) (cf:List Nat) (k:Nat) (r:List Nat) (eV:List (List Nat)) (e:Nat),cU f d as cf k r=some (some (eV,e))→k<e
 |0,_,_,_,_,_,_,_,h=>nomatch h
 |_+1,_,_,_,_,[],_,_,h=>qh (Option.some.inj h)
 |f+1,d,as,cf,k,c::r,eV,e,h=>
  have hl:∀{w d Yr c2 r2},cU f d Yr c2 (k+w) r2=some (some (eV,e))→k<e:=λh=>adl (adm _ _) (AK f _ _ _ _ _ _ _ h)
  g7 (λ_=>hl) (λ_=>g7 (λ_=>g7 (λ_ h=>(Prod.mk.inj (Option.some.inj (Option.some.inj h))).2▸Nat.lt_succ_self k) λ_=>hl) λ_=>g7 (λ_=>hl) λ_=>g7 (λ_=>g7 (λ_ h=>qh (Option.some.inj h)) λ_=>hl) λ_=>hl) h
theorem HN {f:List Nat→Nat} (hf:Loc f) {t:List Nat} (ht:t≠[]):∀{u:List Nat},f (t++u.take 1)≤t.length→f (t++u)=f (t++u.take 1)
 |[],h=>rfl
 |d::r,h=>hf t d r ht h
theorem Gq {u:List Nat}:∀(f d:Nat) (as:List (List Nat)) (cf:List Nat) (k:Nat) (s:List Nat) (eV:List (List Nat)) (e:Nat),cU f d as cf k (s++u.take 1)=some (some (eV,e))→e≤k+s.length→cU f d as cf k (s++u)=some (some (eV,e))
 |0,_,_,_,_,_,_,_,h,_=>nomatch h
 |f+1,d,as,cf,k,[],eV,e,h,he=>absurd (adk (AK _ _ _ _ _ _ _ _ h) he) (Nat.lt_irrefl k)
 |f+1,d,as,cf,k,c::s,eV,e,h,he=>by
  have go:∀{n:Nat} {d:Nat} {as:List (List Nat)} {cf:List Nat},cU f d as cf (k+n) ((c::s++u.take 1).drop n)=some (some (eV,e))→n≤(c::s).length∧cU f d as cf (k+n) ((c::s++u).drop n)=some (some (eV,e)):=λ{n d as cf} h=>by
   have hn:n≤(c::s).length:=Nat.le_of_lt (Nat.lt_of_add_lt_add_left (adk (AK _ _ _ _ _ _ _ _ h) he))
   rw [List.drop_append_of_le_length hn] at h ⊢
   exact ⟨hn,Gq f _ _ _ _ _ _ _ h (adj he (Nat.le_of_eq (by rw [List.length_drop,Nat.add_assoc,Nat.add_sub_of_le hn])))⟩
  have wh:∀{d:Nat},cU f d as (cf++((c::s++u.take 1).take (a7 (c::s++u.take 1))).map je) (k+a7 (c::s++u.take 1)) ((c::s++u.take 1).drop (a7 (c::s++u.take 1)))=some (some (eV,e))→
    cU f d as (cf++((c::s++u).take (a7 (c::s++u))).map je) (k+a7 (c::s++u)) ((c::s++u).drop (a7 (c::s++u)))=some (some (eV,e)):=λ{d} h=>by
   have g:=go h
   rw [HN (t:=c::s) tZ (List.cons_ne_nil _ _) g.1,List.take_append_of_le_length g.1]
   rw [List.take_append_of_le_length g.1] at g
   exact g.2
  have KG:cp (c::s++u.take 1)≤(c::s).length→cp (c::s++u)=cp (c::s++u.take 1):=HN (t:=c::s) GG (List.cons_ne_nil _ _)
  by_cases q:0<cp (c::s++u.take 1)
  ·have g:=go ((if_pos q).symm.trans h)
   have r:=KG g.1
   exact (if_pos (r▸q)).trans (r.symm▸g.2)
  ·have r:=KG (adj (Nat.le_of_not_lt q) (Nat.zero_le _))
   exact (if_neg (r▸q)).trans (qK (λ_=>qK (λ_ h=>h) λ_ h=>(go (n:=1) h).2) (λ_=>qK (λ_=>wh) λ_=>qK (λ_=>qK (λ_ h=>h) λ_=>wh) λ_=>wh) ((if_neg q).symm.trans h))
noncomputable def nr (r:List Nat):Nat:=1+dI (r.drop 1)
structure kJ (r nm:List Nat) (as:List A0) (e:Nat):Prop where
 n1:aC r=1
 n2:r.take 1=nm
 pl:cnt nm=0→e=1
 ar:cnt nm≠0→ej 60 (nr r) (r.drop (nr r))=some (some (as.map wA,e))
noncomputable def sd (d nm:List Nat) (as:List A0) (t:List Nat):Bool:=(!t.isEmpty&&aC (t++d)==1)&&(t.take 1==nm&&(if cnt nm=0 then t.length==1 else dI (t.drop 1++d)==dI (t.drop 1)&&(decide (nr t<t.length)&&ej 60 (nr t) (t.drop (nr t)++d)==some (some (as.map wA,t.length)))))
theorem abu {f k e:Nat} {u:List Nat} {eV:List (List Nat)}:∀{s:List Nat},s≠[]→ej f k (s++u.take 1)=some (some (eV,e))→e≤k+s.length→ej f k (s++u)=some (some (eV,e))
 |c::s,_,h,he=>qK (λ_ h=>Gq f 0 [] [] (k+1) s eV e h (Nat.add_right_comm k s.length 1▸he)) (λ_ h=>h) h
theorem WV {u t:List Nat} (h:dI (t++u.take 1)≤t.length):dI (t++u)=dI (t++u.take 1):=match u,h with
 |[],_=>rfl
 |d::r,h=>nj (λ_ _ _=>rfl) t h
theorem Bp {nm t ac:List Nat} {as:List A0} (h:sd (ac.take 1) nm as t=true):kJ (t++ac) nm as t.length:=by
 have h1:aC (t++ac.take 1)=1:=eq_of_beq (aW (bp h))
 have h2:t.take 1=nm:=eq_of_beq (bp (aW h))
 have h3:=aW (aW h)
 cases t with
 |nil=>exact nomatch bp (bp h)
 |cons c t=>
  refine ⟨?_,h2,λq=>?_,λq=>?_⟩
  ·cases ac with
   |nil=>exact h1
   |cons d r=>exact (De (c::t) (λq=>nomatch q) (adj (Nat.le_of_eq h1) (Nat.succ_le_succ (Nat.zero_le _)))).trans h1
  ·rw [if_pos q] at h3;exact eq_of_beq h3
  ·rw [if_neg q] at h3
   have a:=eq_of_beq (bp h3)
   have b:nr (c::t)<(c::t).length:=adn (bp (aW h3))
   have l:nr (c::t++ac)=nr (c::t):=congrArg (1+ ·) ((WV (t:=t) (adj (Nat.le_of_eq a) (mr _ _))).trans a)
   rw [l,List.drop_append_of_le_length (Nat.le_of_lt b)]
   exact abu (List.ne_nil_of_length_pos (by rw [List.length_drop];exact Nat.sub_pos_of_lt b)) (eq_of_beq (aW (aW h3))) (Nat.le_of_eq (by rw [List.length_drop,Nat.add_sub_of_le (Nat.le_of_lt b)]))
noncomputable def yw:List A0:=uH.map .txt++[.use nA]
theorem gR.in4:∀{x:A0},gR x→x∈yw
 | .txt s,h=>List.mem_append_left _ (List.mem_map_of_mem h)
 | .use _,h=>List.mem_append_right _ (List.mem_singleton.2 (congrArg A0.use h))
noncomputable def KN:List (List Nat×List A0×Bool):=jb.map (λnm=>(nm,[],false))++(yw.flatMap (λx=>[(nF,[x],true),(nF,[x],false)])++yw.flatMap λx=>yw.flatMap λy=>[(nG,[x,y],true),(nG,[x,y],false)])
theorem IP {α:Type} {g:Bool→α}:∀{w:Bool},g w∈[g true,g false]
 |true=> .head _
 |false=> .tail _ (.head _)
theorem gw.aar {nm:List Nat} {as:List A0} {w:Bool} (h:gw nm as w):(nm,as,w)∈KN:=by
 cases h with
 |none h=>exact List.mem_append_left _ (List.mem_map.2 ⟨_,h,rfl⟩)
 |@one x w h=>exact List.mem_append_right _ (List.mem_append_left _ (List.mem_flatMap.2 ⟨x,h.in4,IP (g:=λw=>(nF,[x],w))⟩))
 |@two x y w h h2=>exact List.mem_append_right _ (List.mem_append_right _ (List.mem_flatMap.2 ⟨x,h.in4,List.mem_flatMap.2 ⟨y,h2.in4,IP (g:=λw=>(nG,[x,y],w))⟩⟩))
noncomputable def gG (u:List Nat×List A0×Bool):List Nat:=(kK u.1 u.2.1 u.2.2).drop 1
noncomputable def WS (u:List Nat×List A0×Bool):Bool:=(kK u.1 u.2.1 u.2.2==96::gG u&&sd [32] u.1 u.2.1 (gG u))&&((pu fM [32] (fj fM 60 (96::gG u))&&((fj fM 60 (96::gG u)).flatten==96::gG u&&(fj fM 60 (96::gG u)).all ma))&&((gG u).all (λc=>decide (c<128))&&((gG u).count 10==wN u.2.2)))
theorem aau:KN.all WS=true:=by decide +kernel
structure FX (nm:List Nat) (as:List A0) (w:Bool) (t:List Nat):Prop where
 r:kK nm as w=96::t
 u:sd [32] nm as t=true
 o:pu fM [32] (fj fM 60 (96::t))=true
 f:(fj fM 60 (96::t)).flatten=96::t
 k:(fj fM 60 (96::t)).all ma=true
 a:ba t
 c:t.count 10=wN w
theorem gw.f {nm:List Nat} {as:List A0} {w:Bool} (h:gw nm as w):FX nm as w (gG (nm,as,w)):=have q:=List.all_eq_true.1 aau _ h.aar
 ⟨eq_of_beq (bp (bp q)),aW (bp q),bp (bp (aW q)),eq_of_beq (bp (aW (bp (aW q)))),aW (aW (bp (aW q))),cy (bp (aW (aW q))),eq_of_beq (aW (aW (aW q)))⟩
theorem Q4:sj.all (λx=>v5.all λd=>sd d nF [x] (nF++([40]++wA x++[41])))=true:=by decide +kernel
theorem TG:jb.all (λnm=>v5.all λd=>sd d nm [] nm)=true:=by decide +kernel
theorem QN {x:A0} {ac:List Nat} (h:jD x) (hs:Sep ac):kJ (nF++([40]++wA x++[41])++ac) nF [x] (nF++([40]++wA x++[41])).length:=Bp (List.all_eq_true.1 (h.all Q4) _ hs)
theorem Zb {nm ac:List Nat} (h:nm∈jb) (hs:Sep ac):kJ (nm++ac) nm [] nm.length:=Bp (List.all_eq_true.1 (List.all_eq_true.1 TG nm h) _ hs)
section
variable {f:List Nat→Nat} {ac:List Nat} {p:Pz} {ps:List Pz} {g:Pz→List (List Nat)} {Q:List Nat→Prop}
theorem yp {r:List Nat}:Sep (32::r):= .tail _ (.head _)
theorem abo {r:List Nat}:Sep (10::r):= .tail _ (.tail _ (.head _))
theorem Kl {r:List Nat}:Sep (41::r):= .tail _ (.tail _ (.tail _ (.head _)))
theorem EX:Sep []:= .head _
noncomputable def q8:Pz→List (List Nat)
 | .a x=>kW x
 | .call _ x=>[[96],[70],[40]]++(kW x++[[41]])
noncomputable def xy:Pz→List (List Nat)
 | .a x=>Cy x
 | .call _ x=>[[96,70],[40]]++(Cy x++[[41]])
theorem Xg {c:Nat} (h:∀r,f (c::r)=1):eK f ac [[c]]:= .cons (h _) .nil
theorem Lg {h0:List (List Nat)} {t:List (List Nat)} (h1:∀r,eK f r h0) (h2:eK f (41::ac) t) (h3:∀r,f (41::r)=1):eK f ac (h0++(t++[[41]])):=(h1 _).append (eK.append (us:=[[41]]) h2 (Xg h3))
theorem Lv {h0 t:List (List Nat)} {w:List Nat} (h:h0.flatten=[96,70,40]) (e:t.flatten=w):(h0++(t++[[41]])).flatten=96::nF++([40]++w++[41]):=by rw [List.flatten_append,List.flatten_append,h,e];rfl
structure Qp (p:Pz):Prop where
 t:∀ac,Sep ac→eK a7 ac (q8 p)
 tf:(q8 p).flatten=wP p
 h:∀t∈q8 p,pN t=true
 u:∀ac,Sep ac→eK fM ac (xy p)
 uf:(xy p).flatten=wP p
 k:∀t∈xy p,ma t=true
 a:ba (wP p)
 l:(wP p).length≤10
 e:ends (wP p)=true
 c:(wP p).count 10=0
theorem mem_mid {h0 t:List (List Nat)} (h1:∀x∈h0,Q x) (h2:∀x∈t,Q x) (h3:Q [41]):∀x∈h0++(t++[[41]]),Q x:=λx hx=>(List.mem_append.1 hx).elim (h1 x) λhx=>(List.mem_append.1 hx).elim (h2 x) λhx=>List.mem_singleton.1 hx▸h3
theorem Vj:sj.all (λx=>(wP (.call nF x)).all (λc=>decide (c<128))&&(decide ((wP (.call nF x)).length≤10)&&(ends (wP (.call nF x))&&(wP (.call nF x)).count 10==0)))=true:=by decide +kernel
theorem jL.pf:∀{p:Pz},jL p→Qp p
 | .a x,h=>have a:=jD.f h
  ⟨λ_ hs=>tW tZ hs a.w,pJ a.w,List.all_eq_true.1 a.h,λ_ hs=>tW xF hs a.o,pJ a.o,List.all_eq_true.1 a.k,a.a,adj a.l (by decide),a.e,a.c⟩
 | .call _ x,⟨e,h⟩=>e▸have a:=jD.f h
  have q:=h.all Vj
  ⟨λ_ _=>Lg (λ_=> .cons rfl (.cons rfl (.cons rfl .nil))) (tW tZ Kl a.w) λ_=>rfl,Lv rfl (pJ a.w),mem_mid (by decide) (List.all_eq_true.1 a.h) (by decide),λ_ _=>Lg (λ_=> .cons rfl (.cons rfl .nil)) (tW xF Kl a.o) λ_=>rfl,Lv rfl (pJ a.o),mem_mid (by decide) (List.all_eq_true.1 a.k) (by decide),
   cy (bp q),adn (bp (aW q)),bp (aW (aW q)),eq_of_beq (aW (aW (aW q)))⟩
noncomputable def jn (g:Pz→List (List Nat)):List Pz→List (List Nat)
 |[]=>[]
 |[p]=>g p
 |p::q::r=>g p++([32]::jn g (q::r))
theorem AA {q:Pz} {r:List Pz}:bq (p::q::r)=wP p++([32]++bq (q::r)):=List.append_assoc ..
theorem Ar {P:List Nat→Prop} (h0:P []) (h2:∀a b,P a→P b→P (a++([32]++b))):∀{ps:List Pz},(∀p∈ps,P (wP p))→P (bq ps)
 |[],_=>h0
 |[p],h=>h p (.head _)
 |p::q::r,h=>AA▸h2 _ _ (h p (.head _)) (Ar h0 h2 λx hx=>h x (.tail _ hx))
theorem xD {h:Pz→List Nat}:∀{ps:List Pz},(∀p∈ps,(g p).flatten=h p)→(jn g ps).flatten=cu [32] (ps.map h)
 |[],_=>rfl
 |[p],h=>h p (.head _)
 |p::q::r,k=>by
  rw [jn,List.flatten_append,List.flatten_cons,k p (.head _),xD (h:=h) λx hx=>k x (.tail _ hx)]
  exact (List.append_assoc ..).symm
theorem LS {F:List Nat→List Nat} (oi:F [32]=[32]):∀{ps:List Pz},(jn g ps).map F=jn (λp=>(g p).map F) ps
 |[]=>rfl
 |[p]=>rfl
 |p::q::r=>by
  rw [jn,jn,List.map_append,List.map_cons,oi,LS oi]
theorem wF (oi:∀r,f (32::r)=1) (hs:Sep ac):∀{ps:List Pz},(∀p∈ps,∀ac,Sep ac→eK f ac (g p))→eK f ac (jn g ps)
 |[],_=> .nil
 |[p],h=>h p (.head _) _ hs
 |p::q::r,h=>(h p (.head _) _ yp).append (.cons (oi _) (wF oi hs λx hx=>h x (.tail _ hx)))
theorem B4 (oi:Q [32]):∀{ps:List Pz},(∀p∈ps,∀t∈g p,Q t)→∀t∈jn g ps,Q t
 |[],_,_,h=>nomatch h
 |[p],h,t,ht=>h p (.head _) t ht
 |p::q::r,h,t,ht=>(List.mem_append.1 ht).elim (h p (.head _) t) λht=>(List.mem_cons.1 ht).elim (λe=>e▸oi) (B4 oi (λx hx=>h x (.tail _ hx)) t)
end
noncomputable def o3:List (List Nat):=[[112],[113]]
noncomputable def kL (c:Nat):List (List Nat):=o3.take c
noncomputable def iv (nm:List Nat):Option (List (List Nat)):=if cnt nm=0 then none else some (kL (cnt nm))
noncomputable def dc (M:iR):bw:=M.map λx=>(x.1,⟨iv x.1,bq x.2⟩)
theorem rt {nm:List Nat}:∀{M:iR},a6 (dc M) nm=(a6 M nm).map λps=>⟨iv nm,bq ps⟩
 |[]=>rfl
 |(x,ps)::r=>if q:x=nm then by
   show (if x=nm then some (⟨iv x,bq ps⟩:MV) else a6 (dc r) nm)=Option.map _ (if x=nm then some ps else a6 r nm)
   rw [if_pos q,if_pos q,q];rfl
  else by
   show (if x=nm then some (⟨iv x,bq ps⟩:MV) else a6 (dc r) nm)=Option.map _ (if x=nm then some ps else a6 r nm)
   rw [if_neg q,if_neg q];exact rt
noncomputable def oO (ns as:List (List Nat)) (t:List Nat):List Nat:=bK (g6 t ns) t λi=>as.getD i []
section
variable {ns as:List (List Nat)} {t ac s:List Nat}
theorem zP:∀{l:List (List Nat)} {i:Nat},g6 t l=some i→i<l.length
 |y::r,i,h=>g7 (λ_ h=>adl (Nat.le_of_eq (Option.some.inj h).symm) (Nat.succ_pos _)) (λ_ h=>match Option.map_eq_some_iff.1 h with
  |⟨j,h1,h2⟩=>h2▸Nat.succ_lt_succ (zP h1)) h
theorem P7 (hl:as.length=ns.length):nh ns as t=some (oO ns as t):=by
 unfold nh oO
 cases h:g6 t ns with
 |none=>rfl
 |some i=>exact (List.getElem?_eq_getElem (hl▸zP h)).trans (congrArg some (by
   show _=as.getD i []
   rw [List.getD_eq_getElem?_getD,List.getElem?_eq_getElem (hl▸zP h)];rfl))
theorem LN {c:Nat} {t ac:List Nat} {ts:List (List Nat)} {f:List Nat→Nat} (e:f (c::t++(ts.flatten++ac))=(c::t).length):(c::t++(ts.flatten++ac)).take (f (c::t++(ts.flatten++ac)))=c::t∧(c::t++(ts.flatten++ac)).drop (f (c::t++(ts.flatten++ac)))=ts.flatten++ac:=by
 rw [e];exact ⟨List.take_left,List.drop_left⟩
theorem NT {f:Nat} (hl:as.length=ns.length) (h:ix ns as f ac=some s) {ts:List (List Nat)} (ht:eK a7 ac ts):ix ns as (f+ts.length) (ts.flatten++ac)=some ((ts.map (oO ns as)).flatten++s):=by
 induction ht with
 |nil=>exact h
 |@cons c t ts e _ ih=>
  have q:=LN e
  show (match nh ns as ((c::t++ts.flatten++ac).take (a7 (c::t++ts.flatten++ac))),ix ns as (f+ts.length) ((c::t++ts.flatten++ac).drop (a7 (c::t++ts.flatten++ac))) with |some q,some s=>some (q++s) |_,_=>none)=_
  rw [List.append_assoc,q.1,q.2,P7 hl,ih]
  exact congrArg some (List.append_assoc ..).symm
end
section
variable {c:Nat} {as:List A0}
theorem zp (h:c≤2):(kL c).length=c:=List.length_take.trans (Nat.min_eq_left h)
theorem zt:sj.all (λx=>(match x with | .cS i=>kW x==[o3.getD i []] |_=>(kW x).all λt=>decide (t∉o3)))=true:=by decide +kernel
theorem qq {ws:List (List Nat)} {t:List Nat} (h:t∉o3):oO (kL c) ws t=t:=by
 unfold oO
 rw [show g6 t (kL c)=none from B1 λq=>h (List.mem_of_mem_take q)];rfl
theorem qP {α:Type} {F:α→α}:∀{l:List α},(∀x∈l,F x=x)→l.map F=l
 |[],_=>rfl
 |x::r,h=>by rw [List.map_cons,h x (.head _),qP λy hy=>h y (.tail _ hy)]
theorem Tt:∀i,i<2→∀c,i<c→g6 (o3.getD i []) (kL c)=some i:=cO (λc h=>match c,h with
 |c+2,_=>rfl
 |1,h=>absurd h (by decide)) (cO (λc h=>match c,h with
 |c+2,_=>rfl
 |1,_=>rfl) iC)
theorem XH (l:List A0) (i:Nat):(l.map wA).getD i []=wA (l.getD i (.txt [])):=by
 rw [List.getD_eq_getElem?_getD,List.getD_eq_getElem?_getD,List.getElem?_map]
 cases l[i]?<;>rfl
theorem ED (hc:c≤2):∀{x:A0},iQ c x→((kW x).map (oO (kL c) (as.map wA))).flatten=wA (fA as x)
 | .cS i,h=>by
  rw [show kW (.cS i)=[o3.getD i []] from eq_of_beq ((iQ.full hc (x:= .cS i) h).all zt)]
  show bK (g6 (o3.getD i []) (kL c)) _ _++[]=_
  rw [Tt i (adk h hc) c h,List.append_nil]
  exact XH as i
 | .txt s,h=>by
  rw [qP λt ht=>qq (adn (List.all_eq_true.1 ((iQ.full hc (x:= .txt s) h).all zt) t ht))]
  exact pJ (iQ.full hc (x:= .txt s) h).f.w
 | .use s,h=>by
  rw [qP λt ht=>qq (adn (List.all_eq_true.1 ((iQ.full hc (x:= .use s) h).all zt) t ht))]
  exact pJ (iQ.full hc (x:= .use s) h).f.w
theorem Ru (hc:c≤2):∀{p:Pz},l8 c p→((q8 p).map (oO (kL c) (as.map wA))).flatten=wP (fP as p)
 | .a x,h=>ED hc h
 | .call nm x,⟨e,h⟩=>by
  show (([[96],[70],[40]]++(kW x++[[41]])).map (oO (kL c) (as.map wA))).flatten=_
  rw [List.map_append,List.map_append,List.flatten_append,List.flatten_append,ED hc h,e,qP (l:=[[96],[70],[40]]) (List.forall_mem_cons.2 ⟨qq (by decide),List.forall_mem_cons.2 ⟨qq (by decide),List.forall_mem_cons.2 ⟨qq (by decide),λ_ h=>nomatch h⟩⟩⟩),qP (l:=[[41]]) (List.forall_mem_cons.2 ⟨qq (by decide),λ_ h=>nomatch h⟩)]
  rfl
theorem TL {ps:List Pz} (hc:c≤2) (hl:as.length=c) (h:∀p∈ps,l8 c p):∃g,ix (kL c) (as.map wA) g (bq ps)=some (bq (ps.map (fP as))):=by
 have hf:=λp hp=>((h p hp).full hc).pf
 have hn:(as.map wA).length=(kL c).length:=by rw [List.length_map,hl,zp hc]
 have q:=NT (ac:=[]) (s:=[]) (f:=1) hn rfl (wF (λ_=>rfl) EX λp hp=>(hf p hp).t)
 rw [List.append_nil,List.append_nil,xD λp hp=>(hf p hp).tf,LS (qq (by decide)),xD (h:=λp=>wP (fP as p)) λp hp=>Ru hc (h p hp)] at q
 exact ⟨_,q.trans (congrArg (λl=>some (cu [32] l)) (List.map_map (f:=fP as) (g:=wP)).symm)⟩
end
noncomputable def A9 (M:bw) (d u:Nat) (r:List Nat) (e:Nat):ER→Prop
 | .ok s u1=>Us M d u r (.ok s e u1)
 | .err k _=>Us M d u r (.err k)
noncomputable def vM (M:bw) (d u n:Nat) (t:List Nat):RR→Prop
 | .ok rows u1=>rows.length=n∧Pc M d u t (.ok (cu [32] rows) u1)
 | .err k _=>Pc M d u t (.err k)
noncomputable def Dg (M:bw) (d u:Nat) (t ac:List Nat):ER→Prop
 | .ok s u1=>∀res,Pc M d u1 ac res→Pc M d u (t++ac) (res.pre s)
 | .err k _=>Pc M d u (t++ac) (.err k)
noncomputable def Dw (M:bw) (d:Nat) (go:Go):Prop:=∀u nm as r e,js nm as→kJ r nm as e→A9 M d u r e (go u nm as)
section
variable {M:bw} {d u:Nat} {ac:List Nat} {res:PR}
theorem O0 {a b:List Nat}:∀{r:PR},(r.pre b).pre a=r.pre (a++b)
 | .ok _ _=>congrArg (PR.ok · _) (List.append_assoc ..).symm
 | .err _=>rfl
theorem Ou:∀{r:PR},r.pre []=r
 | .ok _ _=>rfl
 | .err _=>rfl
theorem Y6 (h:Pc M d u ac res) {ts:List (List Nat)} (ht:eK a7 ac ts):(∀t∈ts,t.head?≠some 96)→Pc M d u (ts.flatten++ac) (res.pre ts.flatten):=by
 induction ht with
 |nil=>exact λ_=>Ou.symm▸h
 |@cons c t ts e _ ih=>
   intro hf
   have q:=LN e
   have r:=Pc.tok (M:=M) (d:=d) (u:=u) (c:=c) (r:=t++(ts.flatten++ac)) (res:=res.pre ts.flatten) (λq=>hf _ (.head _) (congrArg some q)) (show Pc M d u ((c::t++(ts.flatten++ac)).drop (a7 (c::t++(ts.flatten++ac)))) _ from q.2.symm▸ih λx hx=>hf x (.tail _ hx))
   rw [show (c::(t++(ts.flatten++ac))).take (a7 (c::(t++(ts.flatten++ac))))=c::t from q.1,O0] at r
   exact (List.append_assoc (c::t) ts.flatten ac).symm▸r
theorem VZ:my.all (λs=>(kW (.txt s)).all λt=>decide (t.head?≠some 96))=true:=by decide +kernel
theorem IT {go:Go} {nm t:List Nat} {as:List A0} (h:A9 M d u (t++ac) t.length (go u nm as)):Dg M d u (96::t) ac (go u nm as):=by
 revert h
 generalize go u nm as=o
 cases o with
 |ok s u1=>exact λh res hr=> .use h (List.drop_left.symm▸hr)
 |err k u1=>exact λh=> .err h
theorem IC {go:Go} (jA:Dw M d go) (hs:Sep ac) {p:Pz} (h:j2 p):Dg M d u (wP p) ac (qf go u p):=h.el (P:=λp=>Dg M d u (wP p) ac (qf go u p))
  (λs H9 res hr=>have f:=jD.f (iO.full (x:= .txt s) H9)
    (show (kW (.txt s)).flatten=s from pJ f.w)▸Y6 hr (tW tZ hs f.w) λt ht=>adn (List.all_eq_true.1 (List.all_eq_true.1 VZ s H9) t ht))
 (λnm hn=>IT (jA u nm [] _ _ (tB nm hn) (Zb hn hs))) λx hx=>IT (jA u nF [x] _ _ (tE hx) (QN hx.full hs))
theorem abv {s:List Nat}:∀{rows:List (List Nat)},0<rows.length→cu [32] ([s]++rows)=s++([32]++cu [32] rows)
 |_::_,_=>List.append_assoc ..
theorem Kj {go:Go} (jA:Dw M d go):∀(ps:List Pz) (u:Nat),(∀p∈ps,j2 p)→vM M d u ps.length (bq ps) (fh go u ps)
 |[],u,_=>⟨rfl,.nil⟩
 |[p],u,h=>by
  have q:=IC (u:=u) jA EX (h p (.head _))
  show vM M d u 1 (wP p) ((qf go u p).oZ λs u1=> .ok [s] u1)
  generalize qf go u p=o at q ⊢
  cases o with
  |ok s u1=>exact ⟨rfl,List.append_nil (wP p)▸List.append_nil s▸q (.ok [] u1) .nil⟩
  |err k u1=>exact List.append_nil (wP p)▸q
 |p::q::r,u,h=>by
  have a:=IC (u:=u) (ac:=[32]++bq (q::r)) jA yp (h p (.head _))
  have ih:=λu=>Kj jA (q::r) u λx hx=>h x (.tail _ hx)
  rw [AA]
  show vM M d u _ _ ((qf go u p).oZ λs u1=>(fh go u1 (q::r)).pre [s])
  generalize qf go u p=o at a ⊢
  cases o with
  |err k u1=>exact a
  |ok s u1=>
   have b:=ih u1
   show vM M d u _ _ ((fh go u1 (q::r)).pre [s])
   generalize fh go u1 (q::r)=o at b ⊢
   have sp:∀{res:PR},Pc M d u1 (bq (q::r)) res→Pc M d u1 ([32]++bq (q::r)) (res.pre [32]):=λh=> .tok (by decide) h
   cases o with
   |err k u2=>exact a _ (sp b)
   |ok rows u2=>
    refine ⟨congrArg (· +1) b.1,?_⟩
    rw [abv (adk (Nat.succ_pos _) (Nat.le_of_eq b.1.symm))]
    exact a _ (sp b.2)
end
theorem B8 {ps:List Pz} (hl:ps.length≤3) (h:∀p∈ps,jL p):g5 (bq ps):=
 ⟨adj (zh (b:=10) (λp hp=>(h p hp).pf.l) hl) (by decide),Ar pj (λa b ha hb=>ha.append (sP.append hb)) λp hp=>(h p hp).pf.a⟩
theorem V4:∀{p:Pz},l8 0 p→fP [] p=p
 | .a (.txt _),_ | .a (.use _),_ | .call _ (.txt _),_ | .call _ (.use _),_=>rfl
 | .a (.cS _),h=>absurd h (Nat.not_lt_zero _)
 | .call _ (.cS _),h=>absurd h.2 (Nat.not_lt_zero _)
theorem Sf:hO.all (λx=>decide (x∉gI)&&(!x.isEmpty&&(decide (cnt x≤2)&&(decide (x∉dM)&&decide (x∉jh)))))=true:=by decide +kernel
structure sW (nm:List Nat):Prop where
 r:nm∉gI
 e:nm≠[]
 c:cnt nm≤2
 n1:nm∉dM
 n2:nm∉jh
theorem wt {nm:List Nat} (h:nm∈hO):sW nm:=have q:=List.all_eq_true.1 Sf nm h
 ⟨adn (bp q),(λe=>nomatch (e▸bp (aW q):(!([]:List Nat).isEmpty)=true)),adn (bp (aW (aW q))),adn (bp (aW (aW (aW q)))),adn (aW (aW (aW (aW q))))⟩
section
variable {M:iR} {d u:Nat} {nm r:List Nat} {as:List A0} {e f:Nat} {ps:List Pz}
theorem xY (h:sW nm) (t:kJ r nm as e):¬dO r:=by
 unfold dO
 rw [t.n1,t.n2]
 exact λq=>q.elim h.r h.e
theorem LC (t:kJ r nm as e) (h:a6 M nm=some ps):a6 (dc M) (r.take (aC r))=some ⟨iv nm,bq ps⟩:=by rw [t.n1,t.n2,rt,h];rfl
theorem Yp (h:sW nm) (t:kJ r nm as e) (hg:a6 M nm=some ps) (m:zy nm ps) (hG:js nm as) (hd:¬(20≤d∨1000≤u)):nU (dc M) d u r (bq (ps.map (fP as))) e:=by
 have g:=LC t hg
 by_cases hc:cnt nm=0
 ·have ha:as=[]:=List.eq_nil_of_length_eq_zero (hG.l.trans hc)
  rw [ha,qP λp hp=>V4 (hc▸m.p p hp)]
  rw [iv,if_pos hc] at g
  exact .plain (xY h t) g hd ((t.pl hc).trans t.n1.symm)
 ·rw [iv,if_neg hc] at g
  exact (TL h.c hG.l m.p).elim λw hw=> .args 60 w _ _ _ (xY h t) g hd (by rw [t.n1];exact t.ar hc) (λq=>hc (by
   have:=congrArg List.length q
   rw [zp h.c] at this
   exact this)) (by rw [List.length_map,hG.l,zp h.c]) (B8 m.l λp hp=>(m.p p hp).full h.c) hw
theorem MJ (hM:gF M):∀(f d:Nat),f+d=20→Dw (dc M) d (d7 M f)
 |f,d,gM=>λu nm as r e hG ht=>by
  have hn:=wt hG.m
  have pB:=sF hM f u nm as hG
  revert pB
  refine rP (P:=λo=>mU u o→A9 (dc M) d u r e o) (λg _=> .err (.undef (xY hn ht) (by rw [ht.n1,ht.n2,rt,g];rfl) rfl)) (λps g q _=> .err (.oe _ (xY hn ht) (LC ht g) (q.imp_left λe=>by rw [e,Nat.zero_add] at gM;exact Nat.le_of_eq gM.symm) rfl)) λps g hg ef hu pB=>?_
  have m:=hM _ (rQ hg)
  have gd:=xl hG.g (hG.l.symm▸m.p)
  have hr:=Kj (MJ hM g (d+1) (by rw [←gM,ef,Nat.add_right_comm,Nat.add_assoc])) (ps.map (fP as)) (u+1) gd
  have ub:=Yp hn ht hg m hG (λq=>q.elim (JS (ef▸gM)) hu)
  have tx:=B8 (ps:=ps.map (fP as)) (adj (Nat.le_of_eq (List.length_map _)) m.l) λp hp=>(gd p hp).full
  generalize fh (d7 M g) (u+1) (ps.map (fP as))=o at hr pB ⊢
  cases o with
  |err k u1=>exact .body (res:= .err k) ub tx trivial hr
  |ok rows u1=>exact .body (res:= .ok (cu [32] rows) u1) ub tx (adj (adj (adj (adm _ _) (adm _ _)) pB.1) (adj (Nat.mul_le_mul_left 40 pB.2) (dh▸by decide))) hr.2
termination_by f=>f
decreasing_by rw [ef];exact Nat.lt_succ_self _
end
abbrev fZ:=List (Nat×Bool×Bool×Bool)
noncomputable def St (s:PS) (a:Nat) (w:List Nat) (s':PS) (ac:List Nat):Prop:=∀res,Xp s' (a+w.length) ac res→Xp s a (w++ac) res
section
variable {s s' cc:PS} {a:Nat} {w v ac x y:List Nat} {ts:List (List Nat)}
theorem St.app (h:St s a w s' (v++ac)) (h2:St s' (a+w.length) v cc ac):St s a (w++v) cc ac:=λres hx=>List.append_assoc w v ac▸h _ (h2 _ (by rw [Nat.add_assoc, ←List.length_append];exact hx))
theorem St.to (h:St s a w s' ac) (e:s'=cc):St s a w cc ac:=e▸h
theorem lU:s.emit []=s:=by
 show ({s with out:=s.out++if s.aM=true then [] else []}:PS)=s
 rw [ite_self,List.append_nil]
theorem jN:(s.emit x).emit y=s.emit (x++y):=by
 show ({s with out:=(s.out++if s.aM=true then x else _)++if s.aM=true then y else _}:PS)={s with out:=s.out++if s.aM=true then x++y else _}
 rw [List.append_assoc]
 by_cases q:s.aM=true
 ·rw [if_pos q,if_pos q,if_pos q]
 ·rw [if_neg q,if_neg q,if_neg q,List.count_append,List.replicate_append_replicate]
theorem w9 (ha:s.aM=false) (h:x.count 10=y.count 10):s.emit x=s.emit y:=by
 unfold PS.emit
 rw [ha,h];rfl
theorem QZ (ha:s.aM=false) (h:x.count 10=0):s.emit x=s:=(w9 (y:=[]) ha h).trans lU
theorem St.nil:St s a [] s ac:=λ_ h=>h
theorem r7 {c:Nat} {t:List Nat} (hc:c≠96) (e:mJ (c::t++ac)=(c::t).length):St s a (c::t) (s.emit (c::t)) ac:=λres hx=>by
 refine .tok (c:=c) (r:=t++ac) (w:=(c::t).length) hc e.symm ?_
 rw [show (c::(t++ac)).take (c::t).length=c::t from List.take_left (l₁:=c::t),show (c::(t++ac)).drop (c::t).length=ac from List.drop_left (l₁:=c::t)]
 exact hx
theorem St.dir {r:List Nat} {n:Nat} (hd:Dr s a r (.ok s' n)) (hr:r=w++ac) (hn:n=w.length):St s a (96::w) s' ac:=λres hx=>by
 subst hr hn
 refine .dir hd ?_
 rw [show (w.append ac).drop w.length=ac from List.drop_left,Nat.add_assoc,Nat.add_comm 1]
 exact hx
theorem St.toks (ht:eK mJ ac ts):∀{s:PS} {a:Nat},(∀t∈ts,t.head?≠some 96)→St s a ts.flatten (s.emit ts.flatten) ac:=by
 induction ht with
 |nil=>exact λ_=>St.nil.to lU.symm
 |@cons c t ts e _ ih=>exact λh=>((r7 (λq=>h _ (.head _) (congrArg some q)) e).app (ih λx hx=>h x (.tail _ hx))).to jN
theorem aac {c:Nat} {t:List Nat} (h:ma (c::t)=true) (q:c=96):t∉dM∧t.count 10=0:=by
 subst q
 have h:(decide (t∉dM)&&(96::t).count 10==0)=true:=h
 exact ⟨adn (bp h),(eq_of_beq (aW h):(96::t).count 10=0)⟩
theorem St.off (ht:eK fM ac ts):∀{s:PS} {a:Nat},s.aM=false→(∀t∈ts,ma t=true)→St s a ts.flatten (s.emit ts.flatten) ac:=by
 induction ht with
 |nil=>exact λ_ _=>St.nil.to lU.symm
 |@cons c t ts e _ ih=>
  intro s a ha h
  refine ((?_:St s a (c::t) (s.emit (c::t)) (ts.flatten++ac)).app (ih ha λx hx=>h x (.tail _ hx))).to jN
  by_cases q:c=96
  ·have o:=aac (h _ (.head _)) q
   have n:aC (t++(ts.flatten++ac))=t.length:=Nat.add_left_cancel (n:=1) ((if_pos q).symm.trans (e.trans (Nat.add_comm t.length 1)))
   rw [q]
   exact (St.dir (r:=t++(ts.flatten++ac)) (.off (by rw [n,List.take_left];exact o.1) ha rfl) rfl n).to (QZ ha (show (96::t).count 10=0 from o.2)).symm
  ·exact r7 q ((if_neg q).symm.trans e)
noncomputable def qL (d w:List Nat):Bool:=pu mJ d (fj mJ 60 w)&&((fj mJ 60 w).flatten==w&&(fj mJ 60 w).all λt=>decide (t.head?≠some 96))
theorem tI (h:qL (ac.take 1) w=true):St s a w (s.emit w) ac:=by
 have q:=St.toks (s:=s) (a:=a) (tv An (bp h)) λt ht=>adn (List.all_eq_true.1 (aW (aW h)) t ht)
 rw [Ej (bp (aW h))] at q
 exact q
theorem jK:St s a [10] (s.emit [10]) ac:=r7 (t:=[]) (by decide) rfl
theorem Cd (h:qL [10] w=true):St s a (w++[10]) (s.emit (w++[10])) ac:=((tI (show qL (([10]++ac).take 1) w=true from h)).app jK).to jN
noncomputable def mu (d w:List Nat):Bool:=pu fM d (fj fM 60 w)&&((fj fM 60 w).flatten==w&&(fj fM 60 w).all ma)
theorem GV (ha:s.aM=false) (h:mu (ac.take 1) w=true):St s a w (s.emit w) ac:=by
 have q:=St.off (tv xF (bp h)) (s:=s) (a:=a) ha (List.all_eq_true.1 (aW (aW h)))
 rw [Ej (bp (aW h))] at q
 exact q
theorem abh (ha:s.aM=false) (h:mu [10] w=true):St s a (w++[10]) (s.emit (w++[10])) ac:=((GV ha (show mu (([10]++ac).take 1) w=true from h)).app jK).to jN
end
theorem RN:(dM++jh).all (λw=> !w.isEmpty&&(aC (w++[32])==w.length&&aC (w++[10])==w.length))=true:=by decide +kernel
theorem Qy {kw u:List Nat} (h:kw∈dM++jh) (hu:u.take 1=[32]∨u.take 1=[10]):aC (kw++u)=kw.length:=by
 have q:=List.all_eq_true.1 RN kw h
 have e:aC (kw++u.take 1)=kw.length:=hu.elim (λe=>e▸eq_of_beq (bp (aW q))) λe=>e▸eq_of_beq (aW (aW q))
 match u,kw,q,e with
 |[],_,_,e=>exact e
 |d::r,c::t,_,e=>exact (De (c::t) (λq=>nomatch q) (Nat.le_of_eq e)).trans e
structure Zx (kw u:List Nat):Prop where
 n:aC (kw++u)=kw.length
 t:(kw++u).take (aC (kw++u))=kw
 d:(kw++u).drop (aC (kw++u))=u
theorem xd {kw u:List Nat} (h:kw∈dM++jh) (hu:u.take 1=[32]∨u.take 1=[10]):Zx kw u:=have n:=Qy h hu
 ⟨n,by rw [n];exact List.take_left,by rw [n];exact List.drop_left⟩
noncomputable def gZ:List (List Nat):=[nA,nB,nC,nF,nZ]
structure ZL (nm:List Nat):Prop where
 l:nm.length=1
 b:∀r,cC (32::(nm++10::r))=1
 n:∀r,bB (32::(nm++10::r))=1
 w:∀r,eP (32::(nm++10::r))=nm
theorem yr:∀nm∈gZ,ZL nm:=List.forall_mem_cons.2 ⟨⟨rfl,λ_=>rfl,λ_=>rfl,λ_=>rfl⟩,List.forall_mem_cons.2 ⟨⟨rfl,λ_=>rfl,λ_=>rfl,λ_=>rfl⟩,List.forall_mem_cons.2 ⟨⟨rfl,λ_=>rfl,λ_=>rfl,λ_=>rfl⟩,List.forall_mem_cons.2 ⟨⟨rfl,λ_=>rfl,λ_=>rfl,λ_=>rfl⟩,List.forall_mem_cons.2 ⟨⟨rfl,λ_=>rfl,λ_=>rfl,λ_=>rfl⟩,λ_ h=>nomatch h⟩⟩⟩⟩⟩
noncomputable def cX (W:LW) (cs:fZ):PS:=⟨dc W.aL,W.bV,W.dQ,cs,W.aM,W.uses⟩
noncomputable def s0 (M:bw):PS:=⟨M,[],[],[],true,0⟩
structure bT (M0:bw) (W:LW) (cs:fZ):Prop where
 f:W.fault=none
 u:W.uses≤1000
 h:∀ac,St (s0 M0) 0 W.text (cX W cs) ac
inductive kn (M0:bw) (W:LW):Prop where
 |mk (k:List Nat) (p:Nat) (f:W.fault=some (k,p)) (a:ba k) (h:Xp (s0 M0) 0 W.text (.err k p)):kn M0 W
section
variable {M0:bw} {W W':LW} {cs cs':fZ} {w nm:List Nat} {o y:Bool} {a:Nat}
theorem bT.go (h:bT M0 W cs) (f:W'.fault=none) (u:W'.uses≤1000) (t:W'.text=W.text++w) (k:∀ac,St (cX W cs) W.text.length w (cX W' cs') ac):bT M0 W' cs':=⟨f,u,λac=>t▸(h.h _).app ((Nat.zero_add W.text.length).symm▸k ac)⟩
theorem bT.err (h:bT M0 W cs) {k:List Nat} {p:Nat} (f:W'.fault=some (k,p)) (ha:ba k) (t:W'.text=W.text++w) (hx:Xp (cX W cs) W.text.length w (.err k p)):kn M0 W':=⟨_,_,f,ha,t▸h.h w _ ((Nat.zero_add W.text.length).symm▸hx)⟩
noncomputable def pF:List (List Nat):=[[97,32,60,61,32,98,59],[34,96,105,102,100,101,102,32,65,32,92,34,32,47,47,34],[92,96,66,32,120],[47,42,32,96,101,110,100,105,102,10,32,96,90,32,42,47],[47,47,32,96,101,108,115,101]]
noncomputable def zi (W:LW) (row:List Nat):LW:=W.emit (row++[10]) (row++[10])
theorem Wc:pF.all (qL [10])=true:=by decide +kernel
theorem YH {row:List Nat} (hr:row∈pF) (h:bT M0 W cs):bT M0 (zi W row) cs:=h.go h.f h.u rfl λ_=>Cd (List.all_eq_true.1 Wc row hr)
noncomputable def te (word nm:List Nat):List Nat:=[96]++word++[32]++nm
noncomputable def nT (W:LW) (word nm:List Nat) (act:Bool):LW:=({(W.emit [32,32] [32,32]).emit (te word nm) [] with aM:=act}:LW).emit [10] [10]
theorem EL {word ac:List Nat}:word++(32::(nm++10::ac))=word++(32::nm)++(10::ac):=(List.append_assoc word (32::nm) (10::ac)).symm
theorem Al {word:List Nat} (h:nm.length=1):word.length+(1+1)=(word++(32::nm)).length:=by rw [List.length_append,List.length_cons,h]
theorem GR {s s1:PS} {word ac:List Nat} (hn:nm∈gZ) (hw:word∈dM) (hC:∀r,eP r=nm→0<bB r→Cn s a r word (.ok s1 (cC r+bB r))):St s a (96::(word++(32::nm))) s1 (10::ac):=
 have o:=yr nm hn
 have k:=xd (u:=32::(nm++10::ac)) (List.mem_append_left jh hw) (.inl rfl)
 St.dir (.cond word (.ok s1 (1+1)) k.t hw (by
  have c:=hC (32::(nm++10::ac)) (o.w ac) (o.n ac▸Nat.zero_lt_one)
  rw [o.n,o.b] at c
  rw [k.d];exact c) (by rw [k.n];rfl)) EL (Al o.l)
theorem MZ {word:List Nat} {act:Bool} (h:bT M0 W cs) (hn:nm∈gZ) (hw:word∈dM) (hC:∀r,eP r=nm→0<bB r→Cn ((cX W cs).emit [32,32]) (W.text.length+2) r word (.ok {(cX W cs).emit [32,32] with bu:=cs',aM:=act} (cC r+bB r))):bT M0 (nT W word nm act) cs':=
 h.go (w:=[32,32]++((96::(word++(32::nm)))++[10])) h.f h.u (by
  show ((W.text++[32,32])++([96]++word++[32]++nm))++[10]=_
  simp only [List.append_assoc,List.cons_append,List.nil_append]) λac=>((tI (show qL ((((96::(word++(32::nm)))++[10])++ac).take 1) [32,32]=true from rfl)).app ((GR hn hw hC).app jK)).to (by
  show ({(cX W cs).emit [32,32] with bu:=cs',aM:=act}:PS).emit [10]=({((cX W cs).emit [32,32]).emit [] with bu:=cs',aM:=act}:PS).emit [10]
  rw [lU])
theorem Mm {w:Bool} (h:bT M0 W cs) (hn:nm∈gZ):bT M0 (nT W (if w then gk else fV) nm (W.aM&&((a6 W.aL nm).isSome==w))) ((W.text.length+2,W.aM,(a6 W.aL nm).isSome==w,false)::cs):=
 MZ h hn (match w with
  |true=> .head _
  |false=> .tail _ (.head _)) λr e ho=> .Cu w _ rfl ho (by
   rw [e]
   show _=((a6 (dc W.aL) nm).isSome==w)
   rw [rt,Option.isSome_map]) rfl
theorem SK (h:bT M0 W ((a,o,y,false)::cs)) (hn:nm∈gZ):bT M0 (nT W oK nm (o&&((a6 W.aL nm).isSome&& !y))) ((a,o,y||(a6 W.aL nm).isSome,false)::cs):=
 MZ h hn (.tail _ (.tail _ (.head _))) λr e ho=> .LJ a o y _ cs rfl rfl ho (by
   rw [e]
   show _=(a6 (dc W.aL) nm).isSome
   rw [rt,Option.isSome_map]) rfl
noncomputable def xV:List Nat:=[32,47,47,96,101,110,100,105,102]
noncomputable def AB (W:LW) (act:Bool):LW:=({W.emit (96::ig) [] with aM:=act}:LW).emit (xV++[10]) (xV++[10])
noncomputable def EC (W:LW) (act:Bool):LW:=({W.emit (96::jW) [] with aM:=act}:LW).emit [10] [10]
theorem zj {s s1:PS} {word ac:List Nat} (hw:word∈dM) (hr:ac.take 1=[32]∨ac.take 1=[10]) (hC:Cn s a ac word (.ok s1 0)):St s a (96::word) s1 ac:=
 have k:=xd (u:=ac) (List.mem_append_left jh hw) hr
 St.dir (.cond word (.ok s1 0) k.t hw (k.d.symm▸hC) (by rw [k.n];rfl)) rfl (Nat.add_zero _)
theorem P8 (h:bT M0 W ((a,o,y,false)::cs)):bT M0 (AB W (o&& !y)) ((a,o,true,true)::cs):=
 h.go (w:=(96::ig)++(xV++[10])) h.f h.u (List.append_assoc ..) λac=>((zj (s1:={cX W ((a,o,y,false)::cs) with bu:=(a,o,true,true)::cs,aM:=o&& !y}) (.tail _ (.tail _ (.tail _ (.head _)))) (.inl rfl) (.eG a o y cs rfl rfl rfl)).app (Cd rfl)).to (by
  show _=({(cX W ((a,o,y,false)::cs)).emit [] with bu:=(a,o,true,true)::cs,aM:=o&& !y}:PS).emit (xV++[10])
  rw [lU])
theorem aag {z:Bool} (h:bT M0 W ((a,o,y,z)::cs)):bT M0 (EC W o) cs:=
 h.go (w:=(96::jW)++[10]) h.f h.u (List.append_assoc ..) λac=>((zj (s1:={cX W ((a,o,y,z)::cs) with bu:=cs,aM:=o}) (.tail _ (.tail _ (.tail _ (.tail _ (.head _))))) (.inr rfl) (.Bc a o y z cs rfl rfl rfl)).app jK).to (by
  show _=({(cX W ((a,o,y,z)::cs)).emit [] with bu:=cs,aM:=o}:PS).emit [10]
  rw [lU])
end
theorem E9 {nm:List Nat}:∀{M:iR},dc (fg M nm)=fg (dc M) nm
 |[]=>rfl
 |(x,ps)::r=>(apply_ite dc _ _ _).trans (by
  show (if x=nm then dc r else (x,_)::dc (fg r nm))=if x=nm then dc r else (x,_)::fg (dc r) nm
  rw [E9])
theorem FJ {nm:List Nat} {ps:List Pz}:∀{M:iR},dc (dX M nm ps)=dX (dc M) nm ⟨iv nm,bq ps⟩
 |[]=>rfl
 |(x,v)::r=>(apply_ite dc _ _ _).trans (by
  show (if x=nm then (x,(⟨iv x,bq ps⟩:MV))::dc r else (x,_)::dc (dX r nm ps))=if x=nm then (x,⟨iv nm,bq ps⟩)::dc r else (x,_)::dX (dc r) nm ⟨iv nm,bq ps⟩
  rw [FJ]
  by_cases q:x=nm
  ·rw [if_pos q,if_pos q,q]
  ·rw [if_neg q,if_neg q])
section
variable {M0:bw} {W W':LW} {cs cs':fZ} {w nm:List Nat} {a:Nat}
theorem bT.off (h:bT M0 W cs) (ha:W.aM=false) (hw:(mu [10] w&&w.count 10==0)=true) (f:W'.fault=none) (u:W'.uses≤1000) (t:W'.text=W.text++(w++[10])) (e:cX W' cs=(cX W cs).emit [10]):bT M0 W' cs:=
 h.go f u t λ_=>(abh ha (bp hw)).to ((w9 ha (by rw [List.count_append,show w.count 10=0 from eq_of_beq (aW hw)];rfl)).trans e.symm)
noncomputable def n9 (nm:List Nat):List Nat:=96::(rh++(32::nm))
noncomputable def uA (W:LW) (nm:List Nat):LW:=(W.emit (n9 nm) []).emit [10] [10]
noncomputable def o4 (W:LW) (nm:List Nat):LW:=if W.aM=true then {uA W nm with aL:=fg W.aL nm} else uA W nm
theorem Sp:gZ.all (λnm=>mu [10] (n9 nm)&&(n9 nm).count 10==0)=true:=by decide +kernel
theorem Q0 {s:PS} {ac:List Nat} (hn:nm∈gZ) (ha:s.aM=true):St s a (n9 nm) {s with aL:=fg s.aL nm} (10::ac):=
 have o:=yr nm hn
 have k:=xd (kw:=rh) (u:=32::(nm++10::ac)) (List.mem_append_right dM (.tail _ (.head _))) (.inl rfl)
 St.dir (n:=rh.length+(1+1)) (.undef (32::(nm++10::ac)) ha k.t k.d (o.n ac▸Nat.zero_lt_one) (by rw [k.n,o.b,o.n,o.w])) EL (Al o.l)
theorem abw (h:bT M0 W cs) (hn:nm∈gZ):bT M0 (o4 W nm) cs:=by
 unfold o4
 by_cases ha:W.aM=true
 ·rw [if_pos ha]
  exact h.go (w:=n9 nm++[10]) h.f h.u (List.append_assoc ..) λac=>((Q0 hn ha).app jK).to (by
   show ({cX W cs with aL:=fg (dc W.aL) nm}:PS).emit [10]=({((cX W cs).emit []) with aL:=dc (fg W.aL nm)}:PS).emit [10]
   rw [lU,E9])
 ·rw [if_neg ha]
  exact h.off (Bool.eq_false_iff.2 ha) (List.all_eq_true.1 Sp nm hn) h.f h.u (List.append_assoc ..) (congrArg (PS.emit · [10]) (lU (s:=cX W cs)))
noncomputable def nu:List (List Nat×Nat×List Nat):=[([96,116,105,109,101,115,99,97,108,101,32,49,110,115,32,47,32,49,112,115],10,[]),([96,100,101,102,97,117,108,116,95,110,101,116,116,121,112,101,32,110,111,110,101],16,[110,111,110,101]),([96,114,101,115,101,116,97,108,108],9,[119,105,114,101]),([96,99,101,108,108,100,101,102,105,110,101],11,[])]
noncomputable def ll (W:LW) (word:List Nat):LW:=if W.aM=true∧word≠[] then {W with bV:=W.bV++[(W.dQ.length,word)]} else W
noncomputable def rZ (W:LW) (x:List Nat×Nat×List Nat):LW:=((ll W x.2.2).emit (x.1.take x.2.1) []).emit (x.1.drop x.2.1++[10]) [10]
theorem VO:nu.all (λx=>mu [10] x.1&&x.1.count 10==0)=true:=by decide +kernel
theorem yc (h:¬W.aM=true∨w=[]):ll W w=W:=if_neg λq=>h.elim (λh=>h q.1) q.2
theorem B2 (h:W.aM=true) (hw:w≠[]):ll W w={W with bV:=W.bV++[(W.dQ.length,w)]}:=if_pos ⟨h,hw⟩
noncomputable def Qt (x:List Nat×Nat×List Nat):Prop:=∀(W:LW) (cs:fZ) (a:Nat) (ac:List Nat),W.aM=true→St (cX W cs) a x.1 (cX (ll W x.2.2) cs) (10::ac)
theorem US:∀x∈nu,Qt x:=List.forall_mem_cons.2 ⟨λW cs a ac ha=>(St.dir (w:=sk++[32,49,110,115,32,47,32,49,112,115]) (ac:=10::ac) (n:=9+10) (r:=sk++([32,49,110,115,32,47,32,49,112,115]++10::ac)) (.time _ ha rfl rfl rfl) rfl rfl).to (congrArg (cX · cs) (yc (.inr rfl)).symm),List.forall_mem_cons.2 ⟨λW cs a ac ha=>(St.dir (w:=tN++[32,110,111,110,101]) (ac:=10::ac) (n:=15+5) (r:=tN++([32,110,111,110,101]++10::ac)) (.G2 ([32,110,111,110,101]++10::ac) ha rfl rfl (Nat.lt_of_lt_of_eq (by decide:0<4) (show 4=bB ([32,110,111,110,101]++10::ac) from rfl)) rfl) rfl rfl).to (congrArg (cX · cs) (B2 (w:=[110,111,110,101]) ha (by decide)).symm),
 List.forall_mem_cons.2 ⟨λW cs a ac ha=>(St.dir (w:=tH) (ac:=10::ac) (r:=tH++10::ac) (.reset ha rfl rfl) rfl rfl).to (congrArg (cX · cs) (B2 (w:=yo) ha (by decide)).symm),List.forall_mem_cons.2 ⟨λW cs a ac ha=>(St.dir (w:=tV) (ac:=10::ac) (r:=tV++10::ac) (.cell ha rfl rfl) rfl rfl).to (congrArg (cX · cs) (yc (.inr rfl)).symm),λ_ h=>nomatch h⟩⟩⟩⟩
structure H8 (W W':LW):Prop where
 t:W'.text=W.text
 d:W'.dQ=W.dQ
 f:W'.fault=W.fault
 u:W'.uses=W.uses
 a:W'.aM=W.aM
theorem IX:H8 W (ll W w):=gu (P:=H8 W) (λ_=>⟨rfl,rfl,rfl,rfl,rfl⟩) λ_=>⟨rfl,rfl,rfl,rfl,rfl⟩
theorem QU {x:List Nat×Nat×List Nat} (h:bT M0 W cs) (hx:x∈nu):bT M0 (rZ W x) cs:=by
 have s:=IX (W:=W) (w:=x.2.2)
 have t:(rZ W x).text=W.text++(x.1++[10]):=by
  show ((ll W x.2.2).text++x.1.take x.2.1)++(x.1.drop x.2.1++[10])=_
  rw [s.t,List.append_assoc, ←List.append_assoc (x.1.take x.2.1),List.take_append_drop]
 have e:cX (rZ W x) cs=(cX (ll W x.2.2) cs).emit [10]:=congrArg (·.emit [10]) (lU (s:=cX (ll W x.2.2) cs))
 have u:(rZ W x).uses≤1000:=s.u.symm▸h.u
 by_cases ha:W.aM=true
 ·exact h.go (s.f.trans h.f) u t λac=>((US x hx W cs W.text.length ac ha).app jK).to e.symm
 ·exact h.off (Bool.eq_false_iff.2 ha) (List.all_eq_true.1 VO x hx) (s.f.trans h.f) u t (by rw [e,yc (.inl ha)])
noncomputable def wT:List Nat:=[119,32]
noncomputable def cT:List Nat:=[32,59,10]
noncomputable def rE (W:LW) (nm:List Nat) (as:List A0) (wide:Bool):LW:=(u9 (W.emit wT wT) nm as wide).emit cT cT
theorem O2 (h:bT M0 W cs):bT M0 (W.emit wT wT) cs:=h.go h.f h.u rfl λac=>((tI (w:=[119]) (ac:=[32]++ac) rfl).app (r7 (t:=[]) (by decide) rfl)).to jN
theorem FP {s:PS} {ac:List Nat}:St s a cT (s.emit cT) ac:=((tI (w:=[32,59]) (ac:=[10]++ac) rfl).app jK).to jN
noncomputable def iW {α:Type} (u:Nat):EO α→Prop
 | .ok _ _=>True
 | .err k u1=>ba k∧u≤u1∧u1≤1001
noncomputable def Kx (go:Go):Prop:=∀u nm as,u≤1000→js nm as→iW u (go u nm as)
theorem Gr {u u1:Nat} {l:List (List Nat)} (h:u≤u1):∀{R:RR},iW u1 R→iW u (R.pre l)
 | .ok _ _,_=>trivial
 | .err _ _,q=>⟨q.1,adj h q.2.1,q.2.2⟩
theorem aaI {u u1:Nat} (h:u≤u1):∀{R:RR},iW u1 R→iW u R.lG
 | .ok _ _,_=>trivial
 | .err _ _,q=>⟨q.1,adj h q.2.1,q.2.2⟩
theorem LI {go:Go} (hl:Bf go) (jA:Kx go):∀(ps:List Pz) (u:Nat),u≤1000→(∀p∈ps,j2 p)→iW u (fh go u ps)
 |[],_,_,_=>trivial
 |p::r,u,hu,hp=>
  have ih:=λu hu=>LI hl jA r u hu λq hq=>hp q (.tail _ hq)
  have use:∀nm as,js nm as→iW u ((go u nm as).oZ λs u1=>(fh go u1 r).pre [s]):=λnm as g=>Ht (λk u1 e=>(show iW u (EO.err (α:=List Nat) k u1) from e▸jA u nm as hu g)) λs u1 e=>have l:mU u (.ok s u1):=e▸hl u nm as g;Gr (Af l).2 (ih u1 l.2)
  (hp p (.head _)).el (P:=λp=>iW u (fh go u (p::r))) (λs _=>Gr (adp u) (ih u hu)) (λnm h=>use nm [] (tB nm h)) λx h=>use nF [x] (tE h)
theorem LH {M:iR} (hM:gF M):∀f,Kx (d7 M f):=λf=>by
 have undef:∀u,u≤1000→iW u (EO.err (α:=List Nat) mG u):=λu hu=>⟨cy rfl,adp _,Nat.le_succ_of_le hu⟩
 have oe:∀u,u≤1000→iW u (EO.err (α:=List Nat) kQ (u+1)):=λu hu=>⟨cy rfl,Nat.le_succ _,Nat.succ_le_succ hu⟩
 induction f with
 |zero=>exact λu nm as hu h=>rP (λ_=>undef u hu) (λ_ _ _=>oe u hu) λ_ _ _ e=>nomatch e
 |succ f ih=>exact λu nm as hu h=>rP (λ_=>undef u hu) (λ_ _ _=>oe u hu) λps g hg e hu=>Nat.succ.inj e▸aaI (Nat.le_succ u) (LI (sF hM f) ih _ _ (Nat.lt_of_not_le hu) (xl h.g (h.l.symm▸(hM _ (rQ hg)).p)))
theorem kJ.kw {r:List Nat} {as:List A0} {e:Nat} (ut:kJ r nm as e) (n:sW nm):r.take (aC r)∉dM∧r.take (aC r)∉jh:=by
 rw [ut.n1,ut.n2];exact ⟨n.n1,n.n2⟩
theorem QM {as:List A0} {wide:Bool} {t x:List Nat} {u:Nat} {ac:List Nat} (f:FX nm as wide t) (n:sW nm) (ut:kJ (t++ac) nm as t.length) (ha:W.aM=true) (hu:Us (dc W.aL) 0 W.uses (t++ac) (.ok x t.length u)) (hl:x.length≤40000):St (cX W cs) a (96::t) (cX (({W with uses:=u}:LW).emit (96::t) (x++dU (wN wide))) cs) ac:=by
 have e:dU (((t++ac).take t.length).count 10)=dU (wN wide):=by rw [List.take_left,f.c]
 have d:=Dr.use (s:=cX W cs) (a:=a) (r:=t++ac) x t.length u ha (ut.kw n).1 (ut.kw n).2 hu (List.length_append▸adm _ _) (by
  rw [e,List.length_append,dU,List.length_replicate]
  exact adj (Nat.add_le_add hl (show wN wide≤1 by cases wide<;>decide)) (dh▸by decide)) rfl
 rw [e] at d
 exact St.dir d rfl rfl
theorem Zc {as:List A0} {wide:Bool} (h:bT M0 W cs) (hu:gw nm as wide) (hM:gF W.aL):bT M0 (rE W nm as wide) cs∨kn M0 (rE W nm as wide):=by
 have hY:=O2 h
 have xJ:gF (W.emit wT wT).aL:=hM
 unfold rE
 generalize W.emit wT wT=Y at hY xJ
 have f:=hu.f
 have hG:=hu.good
 have n:=wt hG.m
 have ut:∀ac,kJ (gG (nm,as,wide)++(cT++ac)) nm as (gG (nm,as,wide)).length:=λac=>Bp (show sd ((cT++ac).take 1) nm as (gG (nm,as,wide))=true from f.u)
 unfold u9
 rw [f.r]
 by_cases ha:Y.aM=true
 ·rw [show jS Y nm as=d7 Y.aL 20 Y.uses nm as from if_pos ha]
  have yQ:=λac=>MJ xJ 20 0 rfl Y.uses nm as _ _ hG (ut ac)
  have le:=sF xJ 20 Y.uses nm as hG
  have er:=LH xJ 20 Y.uses nm as hY.u hG
  generalize d7 Y.aL 20 Y.uses nm as=r at yQ le er ⊢
  cases r with
  |ok x u=>exact .inl (hY.go (w:=(96::gG (nm,as,wide))++cT) hY.f le.2 (List.append_assoc ..) λac=>(QM f n (ut ac) ha (yQ ac) (adj (adj (adj (adm _ _) (adm _ _)) le.1) (Nat.mul_le_mul_left 40 le.2))).app FP)
  |err k u=>exact .inr (hY.err (w:=(96::gG (nm,as,wide))++cT) rfl er.1 (List.append_assoc ..) (.ia (.qU k ha ((ut []).kw n).1 ((ut []).kw n).2 (yQ []) rfl)))
 ·rw [show jS Y nm as= .ok [] Y.uses from if_neg ha]
  exact .inl (hY.go (w:=(96::gG (nm,as,wide))++cT) hY.f hY.u (List.append_assoc ..) λac=>((St.to (f.f▸St.off (ac:=cT++ac) (tv xF f.o) (s:=cX Y cs) (Bool.eq_false_iff.2 ha) (List.all_eq_true.1 f.k)) (w9 (Bool.eq_false_iff.2 ha) (by
   rw [show (96::gG (nm,as,wide)).count 10=(gG (nm,as,wide)).count 10 from rfl,f.c]
   exact List.count_replicate_self.symm))).app FP))
end
theorem Rx {c:Nat} {r:List Nat} (h:c≠47):cp (c::r)=0:=
 have e:∀d,(c::r).take 2≠[47,d]:=λd q=>h (List.cons.inj q).1
 (if_neg (e 47)).trans (if_neg (e 42))
theorem Zf {c:Nat} {t:List Nat} (h:pN (c::t)=true):c≠10∧c≠92∧c≠47:=
 have f:∀{n:Nat},((c::t).head? !=some n)=true→c≠n:=λh q=>nomatch (q▸h:(((c::t).head? !=some c)=true)).symm.trans (bne_self_eq_false (some c))
 ⟨f (bp h),f (bp (aW h)),f (aW (aW h))⟩
theorem ZX {f k c:Nat} {acc t r:List Nat} (h:pN (c::t)=true) (e:a7 (c::t++r)=(c::t).length):cY (f+1) k acc (c::t++r)=cY f (k+(c::t).length) (acc++(c::t)) r:=by
 have q:=Zf h
 have r0:cp (c::t++r)=0:=Rx q.2.2
 refine (if_neg q.1).trans ((if_neg (λx:0<cp (c::t++r)=>Nat.lt_irrefl 0 (Nat.lt_of_lt_of_eq x r0))).trans ((if_neg (λx:c=92∧(t++r).take 1=[10]=>q.2.1 x.1)).trans ((if_neg λx=>q.2.1 (List.cons.inj x).1).trans ?_)))
 show cY f (k+a7 (c::t++r)) (acc++(c::t++r).take (a7 (c::t++r))) ((c::t++r).drop (a7 (c::t++r)))=_
 rw [e,List.take_left,List.drop_left]
theorem Yy {f k:Nat} {acc r:List Nat}:cY (f+1) k acc (32::r)=cY f (k+1) (acc++[32]) r:=rfl
theorem Xk {ac:List Nat} {ts:List (List Nat)} (h:eK a7 ac ts):(∀t∈ts,pN t=true)→∀f k acc,cY (f+ts.length) k acc (ts.flatten++ac)=cY f (k+ts.flatten.length) (acc++ts.flatten) ac:=by
 induction h with
 |nil=>exact λ_ f k acc=>by rw [List.flatten_nil,List.append_nil];rfl
 |@cons c t ts e _ ih=>
  intro hh f k acc
  rw [List.flatten_cons,List.append_assoc,List.length_cons, ←Nat.add_assoc,ZX (hh _ (.head _)) e,ih (λx hx=>hh x (.tail _ hx)),List.append_assoc,List.length_append,Nat.add_assoc]
noncomputable def eE (w:List Nat):Bool:=match w with
 |[]=>false
 |c::_=> !dC c
theorem xv {w:List Nat}:∀n:Nat,(List.replicate n 32++w).dropWhile dC=w.dropWhile dC
 |0=>rfl
 |n+1=>xv n
theorem Kg {x:List Nat}:∀{w:List Nat},eE w=true→(w++x).dropWhile dC=w++x
 |c::w,h=>by
  rw [List.cons_append,List.dropWhile_cons,if_neg (λq=>by rw [show eE (c::w)= !dC c from rfl,q] at h;exact nomatch h)]
theorem ZW {w:List Nat} (a b:Nat) (h:w=[]∨ends w=true):cZ (List.replicate a 32++(w++List.replicate b 32))=w:=by
 unfold cZ
 rw [xv]
 exact h.elim (λe=>by rw [e,List.nil_append, ←List.append_nil (List.replicate b 32),xv];rfl) λe=>by
  rw [Kg (bp e),List.reverse_append,List.reverse_replicate,xv, ←List.append_nil w.reverse,Kg (aW e),List.append_nil,List.reverse_reverse]
theorem Kr {x:List Nat}:∀{w:List Nat},eE w=true→eE (w++x)=true
 |_::_,h=>h
theorem Rq {a b:List Nat} (h:ends a=true) (h2:ends b=true):ends (a++([32]++b))=true:=(Bool.and_eq_true ..).mpr ⟨Kr (bp h),by
 show eE (a++([32]++b)).reverse=true
 rw [List.reverse_append,List.reverse_append,List.append_assoc];exact Kr (aW h2)⟩
theorem Ho:∀(p:Pz) (r:List Pz),(∀x∈p::r,jL x)→ends (bq (p::r))=true
 |p,[],h=>(h p (.head _)).pf.e
 |p,q::r,h=>AA▸Rq (h p (.head _)).pf.e (Ho q r λx hx=>h x (.tail _ hx))
theorem Rg:∀{ps:List Pz},(∀p∈ps,jL p)→bq ps=[]∨ends (bq ps)=true
 |[],_=> .inl rfl
 |p::r,h=> .inr (Ho p r h)
noncomputable def jv (way:Nat):List Nat:=if way=1 then [32,47,47,32,96,65] else if way=2 then [32,92,10,32] else []
structure VE (way:Nat):Prop where
 b:sq way=jv way++[10]
 n:dU ((fF way).count 10+(jv way).count 10)++[10]=iK way
 p:∀ac,Sep (jv way++10::ac)
 a:∀(s:PS) (a:Nat) (ac:List Nat),St s a (fF way) (s.emit (fF way)) ac
 c:qL [10] (jv way)=true
 x:∃j u,∀f k acc r,cY (f+j) k acc (fF way++r)=cY f (k+(fF way).length) (acc++List.replicate u 32) r
 y:∃j u,∀f k acc r,cY (f+j) k acc (jv way++10::r)=some (acc++List.replicate u 32,k+(jv way).length)
theorem Ji:∀way,way<3→VE way:=cO ⟨rfl,rfl,λ_=>yp,λs a ac=>r7 (c:=47) (t:=[42,32,112,32,42,47]) (by decide) rfl,by decide +kernel,⟨1,1,λ_ _ _ _=>rfl⟩,⟨4,3,λf k acc r=>by
  show some (acc++[32]++[32]++[32],k+4)=_
  rw [List.append_assoc,List.append_assoc];rfl⟩⟩ (cO ⟨rfl,rfl,λ_=>yp,λs a ac=>((tI (w:=[92]) (ac:=[10]++ac) rfl).app jK).to jN,by decide +kernel,⟨1,1,λ_ _ _ _=>rfl⟩,⟨3,2,λf k acc r=>by
  show some (acc++[32]++[32],k+6)=_
  rw [List.append_assoc];rfl⟩⟩ (cO ⟨rfl,rfl,λ_=>abo,λs a ac=>St.nil.to lU.symm,by decide +kernel,⟨0,0,λ_ _ acc _=>by rw [List.replicate_zero,List.append_nil];rfl⟩,⟨1,0,λf k acc r=>by
  show some (acc,k)=_
  rw [List.replicate_zero,List.append_nil];rfl⟩⟩ iC))
noncomputable def fK (way:Nat) (w:List Nat):List Nat:=fF way++(w++jv way)
noncomputable def gh (nm X:List Nat):List Nat:=32::(nm++(nJ (cnt nm)++(32::X)))
noncomputable def ye (nm:List Nat):Nat:=2+(nJ (cnt nm)).length
theorem aay {nm X Y:List Nat}:gh nm (X++Y)=gh nm X++Y:=by unfold gh;simp only [List.append_assoc,List.cons_append]
theorem Jc {g:Pz→List (List Nat)} {ps:List Pz} (h:∀p∈ps,(g p).flatten=wP p):(jn g ps).flatten=bq ps:=xD h
theorem Q7 {way:Nat} {ps:List Pz} (hw:way<3) (h:∀p∈ps,jL p):∃g acc,(∀k ac,cY g k [] (32::(fK way (bq ps)++10::ac))=some (acc,k+1+(fK way (bq ps)).length))∧cZ acc=bq ps:=by
 have W:=Ji way hw
 obtain ⟨j,u,hx⟩:=W.x
 obtain ⟨i,v,hy⟩:=W.y
 have ht:=λac=>Xk (wF (f:=a7) (g:=q8) (λ_=>rfl) (W.p ac) λp hp=>(h p hp).pf.t) (B4 (Q:=λt=>pN t=true) rfl λp hp=>(h p hp).pf.h)
 rw [Jc λp hp=>(h p hp).pf.tf] at ht
 refine ⟨0+i+(jn q8 ps).length+j+1,List.replicate (1+u) 32++(bq ps++List.replicate v 32),λk ac=>?_,ZW _ _ (Rg h)⟩
 rw [Yy,fK,List.append_assoc,List.append_assoc,hx,ht,hy,List.length_append,List.length_append]
 refine congrArg some (Prod.mk.injEq .. ▸⟨?_,?_⟩)
 ·rw [←List.replicate_append_replicate,List.append_assoc,List.append_assoc,List.append_assoc];rfl
 ·simp only [Nat.add_assoc]
noncomputable def TS (nm:List Nat):Prop:=∀(s:PS) (X:List Nat) (g:Nat) (acc:List Nat) (e:Nat),cY g (ye nm) [] (32::X)=some (acc,e)→ye nm≤e→Df s (gh nm X) (.ok ({s with aL:=dX s.aL nm ⟨iv nm,cZ acc⟩}.emit (dU (((gh nm X).take e).count 10))) e)
theorem rp {l:List (List Nat)} {i:Nat} {t:List Nat} (g:l[i]?=some t) (h:(decide (t.length≤10)&&(!t.isEmpty&&aC t==t.length))=true):wa l i t:=⟨g,adj (adn (bp h)) (adj (by decide) (yW (adp 100))),(λe=>nomatch (e▸bp (aW h):(!([]:List Nat).isEmpty)=true)),eq_of_beq (aW (aW h))⟩
theorem P5:∀nm∈hO,TS nm:=List.forall_mem_cons.2 ⟨λs X g acc e hb _=> .plain g e acc Nat.one_pos (show nA∉gI by decide) (show [32]≠[40] by decide) hb rfl,List.forall_mem_cons.2 ⟨λs X g acc e hb _=> .plain g e acc Nat.one_pos (show nB∉gI by decide) (show [32]≠[40] by decide) hb rfl,List.forall_mem_cons.2 ⟨λs X g acc e hb _=> .plain g e acc Nat.one_pos (show nC∉gI by decide) (show [32]≠[40] by decide) hb rfl,
 List.forall_mem_cons.2 ⟨λs X g acc e hb he=> .args 2 g 5 e acc [[112]] Nat.one_pos (show nF∉gI by decide) rfl rfl (by decide) (cO ⟨_,rp rfl rfl,by decide⟩ iC) (Nat.le_add_left 5 _) hb rfl,List.forall_mem_cons.2 ⟨λs X g acc e hb he=> .args 8 g 11 e acc [[112],[113]] Nat.one_pos (show nG∉gI by decide) rfl rfl (by decide) (cO ⟨_,rp rfl rfl,by decide⟩ (cO ⟨_,rp rfl rfl,by decide⟩ iC)) (Nat.le_add_left 11 _) hb rfl,λ_ h=>nomatch h⟩⟩⟩⟩⟩
noncomputable def oq (nm:List Nat):List Nat:=96::(gE++(32::(nm++nJ (cnt nm))))
theorem Jd:hO.all (λnm=>mu [32] (oq nm)&&(oq nm).count 10==0)=true:=by decide +kernel
theorem Qu {nm:List Nat} {ps:List Pz} {way:Nat} (h:sq way=jv way++[10]):fQ nm ps way=96::(gE++gh nm (fK way (bq ps)))++[10]∧fQ nm ps way=oq nm++([32]++(fF way++(bq ps++(jv way++[10])))):=by
 unfold fQ gf gh fK oq
 rw [h]
 exact ⟨by simp only [List.append_assoc,List.cons_append,List.nil_append];rfl,by simp only [List.append_assoc,List.cons_append,List.nil_append];rfl⟩
section
variable {M0:bw} {W W':LW} {cs cs':fZ} {nm:List Nat} {ps:List Pz} {way a:Nat}
theorem KP (hw:way<3) (hn:nm∈hO) (hp:∀p∈ps,jL p):(gh nm (fK way (bq ps))).count 10=(fF way).count 10+(jv way).count 10:=by
 have c:(oq nm).count 10=0:=eq_of_beq (aW (List.all_eq_true.1 Jd nm hn))
 have c2:(96::(gE++gh nm (fK way (bq ps)))).count 10=(oq nm++(32::fK way (bq ps))).count 10:=by
  unfold gh oq;simp only [List.append_assoc,List.cons_append]
 have w:(bq ps).count 10=0:=Ar (P:=λl=>l.count 10=0) rfl (λa b ha hb=>by rw [List.count_append,List.count_append,ha,hb];rfl) λp h=>(hp p h).pf.c
 show (96::(gE++gh nm (fK way (bq ps)))).count 10=_
 rw [c2,List.count_append,c,show (32::fK way (bq ps)).count 10=(fK way (bq ps)).count 10 from rfl,fK,List.count_append,List.count_append,w,Nat.zero_add,Nat.zero_add]
theorem WU {s:PS} {ac:List Nat} (hw:way<3) (hn:nm∈hO) (hp:∀p∈ps,jL p) (ha:s.aM=true):St s a (96::(gE++gh nm (fK way (bq ps)))) ({s with aL:=dX s.aL nm ⟨iv nm,bq ps⟩}.emit (dU ((fF way).count 10+(jv way).count 10))) (10::ac):=by
 obtain ⟨g,acc,hg,he⟩:=Q7 hw hp
 have d:=P5 nm hn s (fK way (bq ps)++10::ac) g acc _ (hg _ ac) (adj (adm _ 1) (adm _ _))
 have e:ye nm+1+(fK way (bq ps)).length=(gh nm (fK way (bq ps))).length:=by
  have:=List.all_eq_true.1 (show hO.all (λnm=>nm.length==1)=true by decide) nm hn
  unfold gh ye
  rw [List.length_cons,List.length_append,List.length_append,List.length_cons,show nm.length=1 from eq_of_beq this];omega
 rw [e,aay,List.take_left,KP hw hn hp,he] at d
 have k:=xd (kw:=gE) (u:=gh nm (fK way (bq ps))++10::ac) (List.mem_append_right dM (.head _)) (.inl rfl)
 exact St.dir (n:=gE.length+(gh nm (fK way (bq ps))).length) (.sJ _ ha k.t (k.d.symm▸d) (by rw [k.n];rfl)) (List.append_assoc ..).symm List.length_append.symm
theorem PV {s:PS} {w ac:List Nat} (ha:s.aM=false) (h:mu [32] w=true):St s a w (s.emit w) (32::ac):=GV ha (show mu ((32::ac).take 1) w=true from h)
theorem aaC (h:bT M0 W cs) (hn:nm∈hO) (hp:∀p∈ps,jL p) (hw:way<3):bT M0 (rL W nm ps way) cs:=by
 have F:=Ji way hw
 have T:=Qu (nm:=nm) (ps:=ps) F.b
 by_cases ha:W.aM=true
 ·rw [E4 ha]
  exact h.go (w:=96::(gE++gh nm (fK way (bq ps)))++[10]) h.f h.u (congrArg (W.text++ ·) T.1) λac=>((WU hw hn hp ha).app jK).to (by
   rw [jN,F.n]
   show ({cX W cs with aL:=dX (dc W.aL) nm ⟨iv nm,bq ps⟩}:PS).emit (iK way)=_
   rw [←FJ];rfl)
 ·have ha:=Bool.eq_false_iff.2 ha
  have c:=(List.count_append (a:=10) (l₁:=96::(gE++gh nm (fK way (bq ps)))) (l₂:=[10])).trans (congrArg (· +1) (KP hw hn hp))
  rw [Ly ha]
  have q:=λac (s:PS) (a:Nat) (hs:s.aM=false)=>St.off (s:=s) (a:=a) (wF (f:=fM) (g:=xy) (λ_=>rfl) (F.p ac) λp h=>(hp p h).pf.u) hs (B4 (Q:=λt=>ma t=true) rfl λp h=>(hp p h).pf.k)
  rw [Jc λp h=>(hp p h).pf.uf] at q
  exact h.go (w:=oq nm++([32]++(fF way++(bq ps++(jv way++[10]))))) h.f h.u (congrArg (W.text++ ·) T.2) λac=>((PV ha (bp (List.all_eq_true.1 Jd nm hn))).app ((r7 (t:=[]) (by decide) rfl).app ((F.a _ _ _).app (((List.append_assoc (jv way) [10] ac).symm▸q ac _ _ ha).app (Cd F.c))))).to (by
   rw [jN,jN,jN,jN]
   refine w9 ha ?_
   rw [←T.2.symm.trans T.1] at c
   rw [c, ←F.n,List.count_append,dU,List.count_replicate_self];rfl)
end
abbrev FR:=List Nat×List Nat×Nat
noncomputable def M3:List FR:=[([96,101,110,100,105,102],lN,0),([96,105,102,100,101,102,32,65,10,96,105,102,100,101,102,32,66,10,96,101,110,100,105,102],lN,0),
  ([96,101,108,115,101],lN,0),([96,105,110,99,108,117,100,101,32,34,120,34],g8,0),([96,32,65],g8,0),
  ([96,100,101,102,105,110,101,10,65,32,49],g8,0),([96,81,57],mG,0),([96,100,101,102,105,110,101,32,101,108,115,101,32,120],g8,0),
  ([96,105,102,100,101,102,32,65,10,96,101,108,115,101,10,96,101,108,115,101,10],lN,15),([96,100,101,102,105,110,101,32,72,40,120,44,120,41,32,120],gv,0),
  ([96,100,101,102,105,110,101,32,72,40,120,41,32,120,10,96,72],gv,15),([96,100,101,102,105,110,101,32,72,40,120,41,32,120,10,96,72,40,49,44,50,41],gv,15)]
noncomputable def kr:List FR:=([],[],0)::M3
abbrev HT (W:LW) (x:FR):Prop:=x.2.2=15∧x.2.1=gv∧1000≤W.uses
noncomputable def f5 (W:LW) (x:FR):List Nat:=if HT W x then kQ else x.2.1
noncomputable def mx (W:LW) (x:FR):LW:={W with text:=W.text++x.1,fault:=if f5 W x=[] then W.fault else some (f5 W x,W.text.length+x.2.2)}
theorem WC {M:iR} (h:gF M) {k:List Nat} (hk:k∉hO):a6 (dc M) k=none:=by
 rw [rt]
 cases e:a6 M k with
 |none=>rfl
 |some m=>exact absurd (h _ (rQ e)).n hk
theorem wH {α:Type} {k:List Nat} {v:α}:∀{l:List (List Nat×α)},a6 (dX l k v) k=some v
 |[]=>if_pos rfl
 |(x,u)::r=>gu (P:=λl:List (List Nat×α)=>a6 l k=some v) (λq=>if_pos q) λq=>(if_neg q).trans wH
section
variable {s:PS} {a:Nat} {nm ac:List Nat} {res:XR}
theorem C0 (hn:nm∈gZ) (h:Xp (({s with bu:=(a,s.aM,(a6 s.aL nm).isSome==true,false)::s.bu,aM:=s.aM&&((a6 s.aL nm).isSome==true)}:PS).emit [10]) (a+(1+(5+(1+1)))+1) ac res):Xp s a (96::(gk++(32::nm))++([10]++ac)) res:=
 GR (s1:={s with bu:=(a,s.aM,(a6 s.aL nm).isSome==true,false)::s.bu,aM:=s.aM&&((a6 s.aL nm).isSome==true)}) hn (.head _) (λr e ho=> .Cu true _ rfl ho (by rw [e]) rfl) _ (jK _ (by
  have l:=Al (nm:=nm) (word:=gk) (yr nm hn).l
  rw [show (96::(gk++(32::nm))).length=(gk++(32::nm)).length+1 from rfl, ←l]
  exact h))
noncomputable def mH:MV:=⟨some [[120]],[120]⟩
theorem aa5 {ac:List Nat}:Df s ([32,72,40,120,41,32,120]++10::ac) (.ok ({s with aL:=dX s.aL [72] mH}.emit (dU 0)) 7):= .args 2 3 5 7 [32,120] [[120]] Nat.one_pos (show [72]∉gI by decide) rfl rfl (by decide) (cO ⟨_,rp rfl rfl,by decide⟩ iC) (Nat.le_add_left 5 _) rfl rfl
theorem K0 {r k:List Nat} (ha:s.aM=true) (hr:r.take (aC r)=[72]) (hU:Us (dX s.aL [72] mH) 0 s.uses r (.err k)):Xp s a (96::(gE++([32,72,40,120,41,32,120]++10::(96::r)))) (.err k (a+15)):=
 .dir (c:=13) (r:=gE++([32,72,40,120,41,32,120]++10::(96::r))) (.sJ _ ha rfl (show Df s ([32,72,40,120,41,32,120]++10::(96::r)) _ from aa5) rfl) (jK _ (.ia (.qU k (s:=(({s with aL:=dX s.aL [72] mH}:PS).emit (dU 0)).emit [10]) ha (hr▸by decide) (hr▸by decide) hU rfl)))
end
structure CA (W:LW) (x:FR) (a:Nat):Prop where
 c:ba (f5 W x)
 n:f5 W x≠[]
 h:Xp (cX W []) a x.1 (.err (f5 W x) (a+x.2.2))
noncomputable def TN (x:FR):Prop:=∀(W:LW) (a:Nat),W.aM=true→gF W.aL→CA W x a
theorem fx {W:LW} {a d:Nat} {t kk:List Nat} (h0:f5 W (t,kk,d)=kk) (ha:ba kk) (hk:kk≠[]) (hx:Xp (cX W []) a t (.err kk (a+d))):CA W (t,kk,d) a:=⟨h0.symm▸ha,h0.symm▸hk,by
 show Xp _ _ t (.err (f5 W (t,kk,d)) (a+d))
 rw [h0];exact hx⟩
theorem Y8 {s:PS} {a b:Nat} {x y:Bool} {cl:fZ} (hc:s.bu=(b,x,y,false)::cl):Xp s a (96::ig++([10]++(96::ig++[10]))) (.err lN (a+6)):=
 zj (s1:={s with bu:=(b,x,true,true)::cl,aM:=x&& !y}) (.tail _ (.tail _ (.tail _ (.head _)))) (.inr rfl) (.eG b x y cl rfl hc rfl) _ (jK _ (.ia (r:=ig++[10]) (.cond ig _ rfl (.tail _ (.tail _ (.tail _ (.head _)))) (.seen b x true cl rfl rfl rfl) rfl)))
theorem Ih {W:LW} {a:Nat} {r:List Nat} {t:List Nat} (ha:W.aM=true) (ht:t=96::(gE++([32,72,40,120,41,32,120]++10::(96::r)))) (hr:r.take (aC r)=[72]) (h:¬1000≤W.uses→Us (dX (dc W.aL) [72] mH) 0 W.uses r (.err gv)):CA W (t,gv,15) a:=by
 have bn:¬dO r:=by unfold dO;rw [hr];decide
 by_cases q:1000≤W.uses
 ·have e:f5 W (t,gv,15)=kQ:=if_pos ⟨rfl,rfl,q⟩
  refine ⟨e.symm▸cy rfl,e.symm▸by decide,?_⟩
  show Xp _ _ t (.err (f5 W (t,gv,15)) (a+15))
  rw [e,ht]
  exact K0 ha hr (.err (.oe mH bn (hr.symm▸wH) (.inr q) rfl))
 ·exact fx (if_neg λx=>q x.2.2) (cy rfl) (by decide) (ht▸K0 ha hr (h q))
theorem UM:∀x∈M3,TN x:=List.forall_mem_cons.2 ⟨λW a ha hM=>fx rfl (cy rfl) (by decide) (.ia (r:=jW) (.cond jW _ rfl (.tail _ (.tail _ (.tail _ (.tail _ (.head _))))) (.none (.inr (.inr rfl)) rfl rfl) rfl)),List.forall_mem_cons.2 ⟨λW a ha hM=>fx rfl (cy rfl) (by decide) (C0 (nm:=nA) (.head _) (C0 (nm:=nB) (.tail _ (.head _)) (.dir (r:=jW) (.cond jW (.ok _ 0) rfl (.tail _ (.tail _ (.tail _ (.tail _ (.head _))))) (.Bc _ _ _ _ _ rfl rfl rfl) rfl) (.open rfl)))),
 List.forall_mem_cons.2 ⟨λW a ha hM=>fx rfl (cy rfl) (by decide) (.ia (r:=ig) (.cond ig _ rfl (.tail _ (.tail _ (.tail _ (.head _)))) (.none (.inr (.inl rfl)) rfl rfl) rfl)),List.forall_mem_cons.2 ⟨λW a ha hM=>fx rfl (cy rfl) (by decide) (.ia (r:=[105,110,99,108,117,100,101,32,34,120,34]) (.qU g8 ha (by decide) (by decide) (.err (.bad (.inl (by decide)) rfl)) rfl)),List.forall_mem_cons.2 ⟨λW a ha hM=>fx rfl (cy rfl) (by decide) (.ia (r:=[32,65]) (.qU g8 ha (by decide) (by decide) (.err (.bad (.inr rfl) rfl)) rfl)),
 List.forall_mem_cons.2 ⟨λW a ha hM=>fx rfl (cy rfl) (by decide) (.ia (r:=gE++[10,65,32,49]) (.sJ (.err g8) ha rfl (.op rfl rfl) rfl)),List.forall_mem_cons.2 ⟨λW a ha hM=>fx rfl (cy rfl) (by decide) (.ia (r:=[81,57]) (.qU mG ha (by decide) (by decide) (.err (.undef (by unfold dO;decide) (WC hM (by decide)) rfl)) rfl)),List.forall_mem_cons.2 ⟨λW a ha hM=>fx rfl (cy rfl) (by decide) (.ia (r:=gE++[32,101,108,115,101,32,120]) (.sJ (.err g8) ha rfl (.res (by decide) (by decide) rfl) rfl)),
 List.forall_mem_cons.2 ⟨λW a ha hM=>fx rfl (cy rfl) (by decide) (C0 (nm:=nA) (.head _) (Y8 rfl)),List.forall_mem_cons.2 ⟨λW a ha hM=>fx rfl (cy rfl) (by decide) (.ia (r:=gE++[32,72,40,120,44,120,41,32,120]) (.sJ (.err gv) ha rfl (.dup 4 7 1 [[120],[120]] (by decide) (by decide) rfl rfl (by decide) (by decide) ⟨_,rp rfl rfl,by decide⟩ (cO ⟨_,rp rfl rfl,by decide⟩ iC) rfl) rfl)),
 List.forall_mem_cons.2 ⟨λW a ha hM=>Ih (r:=[72]) ha rfl rfl λq=> .err (.Hu 1 [120] [[120]] (by unfold dO;decide) wH (λx=>x.elim (by decide) q) rfl rfl),List.forall_mem_cons.2 ⟨λW a ha hM=>Ih (r:=[72,40,49,44,50,41]) ha rfl rfl λq=> .err (.count 4 6 [120] [[120]] [[49],[50]] (by unfold dO;decide) wH (λx=>x.elim (by decide) q) rfl (by decide) (by decide) rfl),λ_ h=>nomatch h⟩⟩⟩⟩⟩⟩⟩⟩⟩⟩⟩⟩
section
variable {M0:bw} {W:LW} {k j:Nat} {cs:fZ}
theorem Xn {x:FR} (h:bT M0 W []) (hx:x∈kr) (ha:W.aM=true) (hM:gF W.aL):bT M0 (mx W x) []∨kn M0 (mx W x):=(List.mem_cons.1 hx).elim (λe=> .inl (e▸h.go (W':=mx W ([],[],0)) (w:=[]) h.f h.u rfl λ_=>St.nil)) λhx=>
 have q:=UM x hx W W.text.length ha hM
 .inr (h.err (if_neg q.n) q.c rfl q.h)
end
structure br (k:Nat) (W:LW):Prop where
 t:W.text.length+300*W.room.toNat+k≤7500
 d:W.dQ.length+300*W.room.toNat+k≤7500+40*W.uses
 m:W.aL.length≤W.text.length+5
 n:W.bV.length≤W.text.length
 u:W.uses≤1001
 g:gF W.aL
 a:ba W.text
 nw:∀x∈W.bV,ba x.2
section
variable {k j:Nat} {W:LW} {t d nm:List Nat}
theorem DC {a x R k j B:Nat} (h:a+R+(k+j)≤B) (ht:x≤j):a+x+R+k≤B:=by
 rw [Nat.add_right_comm a x R,Nat.add_assoc (a+R) x k,Nat.add_comm x k]
 exact adj (Nat.add_le_add_left (Nat.add_le_add_left ht k) _) h
theorem br.emit (F:br (k+j) W) (ht:t.length≤j) (hd:d.length≤j) (ha:ba t):br k (W.emit t d):=
 ⟨by
  show (W.text++t).length+_+k≤_
  rw [List.length_append];exact DC F.t ht,by
  show (W.dQ++W.act d).length+_+k≤_
  rw [List.length_append];exact DC F.d (adj (vt d) hd),adj F.m (Nat.add_le_add_right (List.length_append (as:=W.text)▸adm _ _) 5),adj F.n (List.length_append (as:=W.text)▸adm _ _),F.u,F.g,F.a.append ha,F.nw⟩
theorem br.act {b:Bool} (F:br k W):br k {W with aM:=b}:=⟨F.t,F.d,F.m,F.n,F.u,F.g,F.a,F.nw⟩
theorem br.less (F:br (k+j) W):br k W:=⟨adj (Nat.add_le_add_left (adm k j) _) F.t,adj (Nat.add_le_add_left (adm k j) _) F.d,F.m,F.n,F.u,F.g,F.a,F.nw⟩
noncomputable def kD (n:Nat) (w:List Nat):Bool:=decide (w.length≤n)&&w.all λc=>decide (c<128)
theorem kE {n:Nat} {w:List Nat} (h:kD n w=true):w.length≤n∧ba w:=⟨adn (bp h),cy (aW h)⟩
theorem XZ {row:List Nat} (hr:row∈pF) (F:br (k+300) W):br k (zi W row):=
 have q:=kE (List.all_eq_true.1 (show pF.all (λr=>kD 300 (r++[10]))=true by decide +kernel) row hr)
 F.emit q.1 q.1 q.2
theorem GP {α:Type} {k:List Nat} {y:List Nat×α}:∀{l:List (List Nat×α)},y∈fg l k→y∈l
 |(x,u)::r,h=>gu (P:=λl=>y∈l→y∈(x,u)::r) (λ_ h=> .tail _ h) (λ_ h=>(List.mem_cons.1 h).elim (λe=>e.symm▸ .head _) λh=> .tail _ (GP h)) h
theorem FF {α:Type} {k:List Nat} {v:α} {y:List Nat×α}:∀{l:List (List Nat×α)},y∈dX l k v→y=(k,v)∨y∈l
 |[],h=> .inl (List.mem_singleton.1 h)
 |(x,u)::r,h=>gu (P:=λl=>y∈l→y=(k,v)∨y∈(x,u)::r) (λ(q:x=k) h=>(List.mem_cons.1 h).elim (λe=> .inl (q▸e)) λh=> .inr (.tail _ h)) (λ_ h=>(List.mem_cons.1 h).elim (λe=> .inr (e.symm▸ .head _)) λh=>(FF h).imp_right (.tail _)) h
theorem Yn (hn:nm∈gZ) (F:br (k+150+150) W):br k (o4 W nm):=
 have q:=kE (List.all_eq_true.1 (show gZ.all (λnm=>kD 150 (n9 nm))=true by decide +kernel) nm hn)
 have F2:br k (uA W nm):=(F.emit q.1 (Nat.zero_le _) q.2).emit (by decide) (by decide) (cy rfl)
 gu (P:=br k) (λ_=>⟨F2.t,F2.d,adj (Dj nm W.aL) F2.m,F2.n,F2.u,λx hx=>F.g x (GP hx),F2.a,F2.nw⟩) λ_=>F2
theorem Yi {x:List Nat×Nat×List Nat} (hx:x∈nu) (F:br (k+150+150) W):br k (rZ W x):=by
 have q:=List.all_eq_true.1 (show nu.all (λx=>(kD 150 (x.1.take x.2.1)&&decide (0<(x.1.take x.2.1).length))&&(kD 150 (x.1.drop x.2.1++[10])&&x.2.2.all λc=>decide (c<128)))=true by decide +kernel) x hx
 have q1:=kE (bp (bp q))
 have q2:=kE (bp (aW q))
 refine br.emit (j:=150) ?_ q2.1 (by decide) q2.2
 refine gu (P:=λY=>br (k+150) (LW.emit Y (x.1.take x.2.1) [])) (λ_=>?_) λ_=>F.emit q1.1 (Nat.zero_le _) q1.2
 have F1:=F.emit (t:=x.1.take x.2.1) (d:=[]) q1.1 (Nat.zero_le _) q1.2
 refine ⟨F1.t,F1.d,F1.m,?_,F1.u,F1.g,F1.a,λy hy=>(List.mem_append.1 hy).elim (F.nw y) λhy=>List.mem_singleton.1 hy▸cy (aW (aW q))⟩
 show (W.bV++[_]).length≤(W.text++x.1.take x.2.1).length
 rw [List.length_append,List.length_append]
 exact Nat.add_le_add F.n (adn (aW (bp q)))
theorem SH {w:List Nat} {act:Bool} (hw:w∈dM) (hn:nm∈gZ) (F:br (k+5+10+5) W):br k (nT W w nm act):=
 have q:=kE (List.all_eq_true.1 (List.all_eq_true.1 (show dM.all (λw=>gZ.all λnm=>kD 10 (te w nm))=true by decide +kernel) w hw) nm hn)
 (((F.emit (by decide) (by decide) (cy rfl)).emit q.1 (Nat.zero_le _) q.2).act).emit (by decide) (by decide) (cy rfl)
theorem Pu {act:Bool} (F:br (k+10+10) W):br k (AB W act):=((F.emit (by decide) (by decide) (cy rfl)).act).emit (by decide) (by decide) (cy rfl)
theorem aaz {act:Bool} (F:br (k+10+10) W):br k (EC W act):=((F.emit (by decide) (by decide) (cy rfl)).act).emit (by decide) (by decide) (cy rfl)
theorem VH {ps:List Pz} {way:Nat} (hn:nm∈hO) (hp:∀p∈ps,iF (cnt nm) p) (hl:ps.length≤3) (hw:way<3) (F:br (k+300) W):br k (rL W nm ps way):=by
 have n:=wt hn
 have fa:=λp h=>(hp p h).facts n.c
 have pf:∀p∈ps,jL p:=λp h=>(fa p h).i.full n.c
 have h:=kE (List.all_eq_true.1 (show hO.all (λnm=>kD 20 (gf nm))=true by decide +kernel) nm hn)
 have y:∀way,way<3→(kD 7 (fF way)&&(kD 7 (sq way)&&decide ((iK way).length≤2)))=true:=cO (by decide) (cO (by decide) (cO (by decide) iC))
 have y:=y way hw
 have a:=kE (bp y)
 have b:=kE (bp (aW y))
 have w:=zh (b:=6) (λp h=>(fa p h).l) hl
 have F1:br k (W.emit (fQ nm ps way) (iK way)):=F.emit (by
  rw [fQ,List.length_append,List.length_append,List.length_append]
  exact adj (Nat.add_le_add (Nat.add_le_add (Nat.add_le_add h.1 a.1) w) b.1) (by decide)) (adj (adn (aW (aW y))) (by decide)) (((h.2.append a.2).append (B8 hl pf).2).append b.2)
 refine gu (P:=br k) (λ_=>⟨F1.t,F1.d,adj (yJ nm ps W.aL) ?_,F1.n,F1.u,λx hx=>(FF hx).elim (λe=>e▸⟨hn,hl,λp h=>(fa p h).i⟩) (F.g x),F1.a,F1.nw⟩) λ_=>F1
 show W.aL.length+1≤(W.text++fQ nm ps way).length+5
 rw [List.length_append,Nat.add_right_comm]
 exact Nat.add_le_add F.m (show 1≤(fQ nm ps way).length by
  rw [fQ,List.length_append,List.length_append,List.length_append]
  exact adj (adj (show 1≤(gf nm).length by rw [gf,List.append_assoc,List.append_assoc,List.length_append];exact adj (by decide) (adm 8 _)) (adm _ _)) (adj (adm _ _) (adm _ _)))
theorem Sv {a R k s u v B D:Nat} (h:a+R+(k+100)≤B+u) (hs:s+u≤v) (hd:D≤s+1):a+D+R+k≤B+v:=DC (j:=s+1) (by
 have q:=Nat.add_le_add (adj (Nat.add_le_add_left (Nat.add_le_add_left (show 1≤100 by decide) k) _) h) (adp s)
 rw [Nat.add_assoc B,Nat.add_comm u s,Nat.add_assoc (a+R),Nat.add_assoc k,Nat.add_comm 1 s] at q
 exact adj q (Nat.add_le_add_left hs B)) hd
theorem GQ {as:List A0} {wide:Bool} (hu:gw nm as wide) (h1:W.uses≤1000) (F1:br (k+100+100) W):br (k+100) (u9 W nm as wide):=by
 have f:=hu.f
 have rl:=Bw hu
 have ra:ba (kK nm as wide):=f.r▸(cy (x:=[96]) rfl).append f.a
 have w1:wN wide≤1:=by cases wide<;>decide
 unfold u9
 have le:mU W.uses (jS W nm as)∨jS W nm as= .ok [] W.uses:=gu (P:=λr=>mU W.uses r∨r= .ok [] W.uses) (λ_=> .inl (sF F1.g 20 W.uses nm as hu.good)) λ_=> .inr rfl
 have er:iW W.uses (jS W nm as):=gu (P:=iW W.uses) (λ_=>LH F1.g 20 W.uses nm as h1 hu.good) λ_=>trivial
 generalize jS W nm as=r at le er ⊢
 cases r with
 |err e u=>
  have F2:br (k+100+100) {W with uses:=u,fault:=some (e,W.text.length)}:=⟨F1.t,adj F1.d (Nat.add_le_add_left (Nat.mul_le_mul_left 40 er.2.1) _),F1.m,F1.n,er.2.2,F1.g,F1.a,F1.nw⟩
  exact F2.emit (adj rl (by decide)) (by rw [List.nil_append,dU,List.length_replicate];exact adj w1 (by decide)) ra
 |ok s u=>
  have F2:=F1.emit (t:=kK nm as wide) (d:=[]) (adj rl (by decide)) (Nat.zero_le _) ra
  have b:s.length+40*W.uses≤40*u∧u≤1001:=le.elim (λl=>⟨adj (adm _ _) l.1,Nat.le_succ_of_le l.2⟩) λe=>by cases e;exact ⟨Nat.le_of_eq (Nat.zero_add _),Nat.le_succ_of_le h1⟩
  refine ⟨F2.t,?_,F2.m,F2.n,b.2,F1.g,F2.a,F1.nw⟩
  show (W.dQ++W.act (s++dU (wN wide))).length+_+(k+100)≤7500+40*u
  have d:(W.act (s++dU (wN wide))).length≤s.length+wN wide:=adj (vt _) (Nat.le_of_eq (by rw [List.length_append,dU,List.length_replicate]))
  rw [List.length_append]
  exact Sv F1.d b.1 (adj d (Nat.add_le_add_left w1 _))
theorem VU {as:List A0} {wide:Bool} (hu:gw nm as wide) (h1:W.uses≤1000) (F:br (k+100+100+100) W):br k (rE W nm as wide):=
  (GQ (W:=W.emit wT wT) hu h1 (F.emit (by decide) (by decide) (cy rfl))).emit (by decide) (by decide) (cy rfl)
end
noncomputable def oV (n:Nat) (W:LW):Prop:=W.text.length≤n∧W.dQ.length≤n
section
variable {k m:Nat} {W:LW} {cs:fZ} {M0:bw}
theorem br.slim (F:br k W):oV 50000 W:=⟨adj (adj (adj (adm _ _) (adm _ _)) F.t) (by decide),adj (adj (adj (adm _ _) (adm _ _)) F.d) (adj (Nat.add_le_add_left (Nat.mul_le_mul_left 40 F.u) 7500) (by decide))⟩
theorem oV.emit {t d:List Nat} (h:oV m W) (ht:t.length≤1000) (hd:d.length≤1000):oV (m+1000) (W.emit t d):=⟨List.length_append (as:=W.text)▸Nat.add_le_add h.1 ht,List.length_append (as:=W.dQ)▸Nat.add_le_add h.2 (adj (vt d) hd)⟩
noncomputable def Told (M0:bw) (W:LW) (cs:fZ) (act:Bool):Prop:=(bT M0 W cs∧W.aM=act)∨kn M0 W
noncomputable def Im (M0:bw) (O:ag) (W:LW) (k:Nat) (cs:fZ) (Q:V→ag→Prop):Prop:=∀af W',aZ af W'→br k W'→Told M0 W' cs W.aM→Up O af→Q .none af
noncomputable def uM (M0:bw) (C:Calls) (d:Nat):Prop:=∀(O:ag) (W:LW) (k:Nat) (cs:fZ) (Q:V→ag→Prop) (X:aX→ag→Prop),aZ O W→br k W→bT M0 W cs→Im M0 O W k cs Q→Wp (C 37 [.ref 2,.ref 5,.int (d:Int)] O) Q X
noncomputable def D9 (M0:bw) (C:Calls) (d:Nat):Prop:=∀(O:ag) (W:LW) (k:Nat) (cs:fZ) (Q:V→ag→Prop) (X:aX→ag→Prop),aZ O W→br (k+300) W→bT M0 W cs→Im M0 O W k cs Q→Wp (C 36 [.ref 2,.ref 5,.int (d:Int)] O) Q X
end
section
variable {fu n:Nat} {O s:ag} {X:aX→ag→Prop} {Q:V→ag→Prop} {W:LW} {cs:fZ} {M0:bw} {k m:Nat} {R:Flow→Locals→ag→Prop} {ss:Ss} {C:Calls} {L:Locals}
theorem iq {e1 e2:E} {t d:List Nat} (h:aZ O W) (hs:oV m W) (hm:m≤100000) (ht:t.length≤1000) (hd:d.length≤1000) (l1:L.get 1=some (.ref 5)) (qp:ev (ay aw fu (n+1)) fu e1 L O= .ok (.str t) O) (P1:ev (ay aw fu (n+1)) fu e2 L O= .ok (.str d) O)
    (K:∀af,aZ af (W.emit t d)→oV (m+1000) (W.emit t d)→Up O af→Wq (ah (ay aw fu (n+1)) fu ss L af) R X):Wq (ah (ay aw fu (n+1)) fu (.cons (.expr (.call 33 (.cons (.loc 1) (.cons e1 (.cons e2 .nil))))) ss) L O) R X:=
 j8 (aJ (dE l1) (aJ qp (aJ P1 rfl))) (AP h (List.length_append▸adj (Nat.add_le_add (adj hs.1 hm) ht) (dh▸by decide)) (adj (Nat.add_le_add (adj hs.2 hm) hd) (dh▸by decide)) λaf h' u=>K af h' (hs.emit ht hd) u)
theorem vS:∀{f:Option (List Nat×Nat)},co .is O (wu f) .none=some (.bool f.isNone)
 |none=>rfl
 |some _=>rfl
theorem X9:∀{f:Option (List Nat×Nat)},co .iD O (wu f) .none=some (.bool f.isSome)
 |none=>rfl
 |some _=>rfl
theorem Nn (h:aZ O W) (l1:L.get 1=some (.ref 5)):ev C fu (.cmp .is (.idx (.loc 1) (.str uN)) .none) L O= .ok (.bool W.fault.isNone) O:=aO (w_get h.w l1 rfl) rfl vS
theorem AG (h:aZ O W) (l1:L.get 1=some (.ref 5)):ev C fu (.cmp .iD (.idx (.loc 1) (.str uN)) .none) L O= .ok (.bool W.fault.isSome) O:=aO (w_get h.w l1 rfl) rfl X9
theorem kn.some {M0:bw} (h:kn M0 W):W.fault.isNone=false∧W.fault.isSome=true:=match h with
 |⟨_,_,f,_,_⟩=>f▸⟨rfl,rfl⟩
theorem Ka:∀r:Nat,r<5→∃nm,nm∈gZ∧∀s,di s (.str [65,66,67,70,90]) (.int (r:Int))=some (.str nm):=cO ⟨nZ,.tail _ (.tail _ (.tail _ (.tail _ (.head _)))),λ_=>rfl⟩ (cO ⟨nF,.tail _ (.tail _ (.tail _ (.head _))),λ_=>rfl⟩ (cO ⟨nC,.tail _ (.tail _ (.head _)),λ_=>rfl⟩ (cO ⟨nB,.tail _ (.head _),λ_=>rfl⟩ (cO ⟨nA,.head _,λ_=>rfl⟩ iC))))
noncomputable def pH (d:Nat) (o y:Bool) (x5 x6 x7 x8:Option V):Locals:=[some (.ref 2),some (.ref 5),some (.int (d:Int)),some (.bool o),some (.bool y),x5,x6,x7,x8]
abbrev Cw:Ss:=GC
structure Cv (M0:bw) (o:Bool) (cs:fZ) (y:Bool) (W:LW) (word:List Nat):Prop where
 m:word∈dM
 h:∀nm∈gZ,∃a,bT M0 (nT W word nm (o&&(((a6 W.aL nm).isSome== !decide (word=fV))&& !y))) ((a,o,y||((a6 W.aL nm).isSome== !decide (word=fV)),false)::cs)
theorem aax (h:bT M0 W cs):∀w:Bool,Cv M0 W.aM cs false W (if w then gk else fV)
 |true=>⟨.head _,λnm hn=>⟨W.text.length+2,by
  show bT M0 (nT W gk nm (W.aM&&(((a6 W.aL nm).isSome==true)&&true))) ((W.text.length+2,W.aM,(a6 W.aL nm).isSome==true,false)::cs)
  rw [Bool.and_true];exact Mm (w:=true) h hn⟩⟩
 |false=>⟨.tail _ (.head _),λnm hn=>⟨W.text.length+2,by
  show bT M0 (nT W fV nm (W.aM&&(((a6 W.aL nm).isSome==false)&&true))) ((W.text.length+2,W.aM,(a6 W.aL nm).isSome==false,false)::cs)
  rw [Bool.and_true];exact Mm (w:=false) h hn⟩⟩
theorem Sd {a:Nat} {o y:Bool} (h:bT M0 W ((a,o,y,false)::cs)):Cv M0 o cs y W oK:=⟨.tail _ (.tail _ (.head _)),λnm hn=>⟨a,by
 rw [show ((a6 W.aL nm).isSome== !decide (oK=fV))=(a6 W.aL nm).isSome from beq_true _]
 exact SK h hn⟩⟩
theorem NV:∀w∈dM,w.length≤6:=λw h=>adn (List.all_eq_true.1 (show dM.all (λw=>decide (w.length≤6))=true by decide) w h)
theorem p0 {a b:List Nat} (h:(a++b).length≤1000):e8 .add (.str a) (.str b)=some (.str (a++b)):=ng (adj h (dh▸by decide))
theorem zk {a b:List Nat} {m:Nat} (h:(a++b).length≤m):a.length≤m:=adj (adm _ _) (List.length_append (as:=a)▸h)
theorem WB {a b:Bool}:co .eq O (.bool a) (.bool b)=some (.bool (a==b)):=rfl
theorem jo (e:aU 2 O s):Up O s:=e.up (by decide)
theorem rX (e:aU 5 O s):Up O s:=e.up (by decide)
theorem Gh {d j:Nat} {o y:Bool} {x7 x8:Option V} {word:List Nat} {K:Locals→ag→Prop} (hR:uM M0 (ay aw fu (n+1)) (d+1)) (h:aZ O W) (F:br (k+5+10+5) W) (H:Cv M0 o cs y W word)
    (hd:∀s W',aZ s W'→br k W'→kn M0 W'→Up O s→Q .none s)
    (hK:∀s W' a y x5 x6 x7 x8,aZ s W'→br k W'→bT M0 W' ((a,o,y,false)::cs)→Up O s→K (pH d o y x5 x6 x7 x8) s):
  Wq (ah (ay aw fu (n+1)) fu (bf 1 (fC (bf 2 Cw))) (pH d o y (some (.int (j:Int))) (some (.str word)) x7 x8) O) (Lp (ay aw fu (n+1)) fu ss (bM Q) X K) X:=by
 refine eT (lc (aS rfl (eu (aS rfl (eO (b:=5) (Nat.succ_pos n) (by decide) (by decide) h.p λr s1 hr et e1=>(Ka r hr).elim λnm hn=>bZ (hn.2 _) ?_)))))
 have h1:=h.fY et e1
 have hl:(te word nm).length≤1000:=by
  rw [te,List.length_append,List.length_append,List.length_append,(yr nm hn.1).l]
  exact adj (Nat.add_le_add_right (Nat.add_le_add_right (Nat.add_le_add_left (NV word H.m) 1) 1) 1) (by decide)
 refine iq h1 F.slim (by decide) (by decide) (by decide) rfl rfl rfl λs2 h2 S2 u2=>iq h2 S2 (by decide) hl (by decide) rfl (bG (bG (bG rfl rfl (p0 (zk (zk hl)))) rfl (p0 (zk hl))) rfl (p0 hl)) rfl λs3 h3 S3 u3=>h3.m.elim λes ff=>?_
 refine aV (aO (aO rfl (w_get h3.w rfl rfl) (nz (by rw [vH ff.1,ff.2.isSome]))) (aO rfl rfl oB) WB) ?_
 obtain ⟨a,hL⟩:=H.h nm hn.1
 have F4:=SH (act:=o&&(((a6 W.aL nm).isSome== !decide (word=fV))&& !y)) H.m hn.1 F
 revert hL F4
 show _→_→Wq (ah _ fu _ (pH d o y (some (.int (j:Int))) (some (.str word)) (some (.str nm)) (some (.bool ((a6 W.aL nm).isSome== !decide (word=fV))))) s3) _ X
 generalize ((a6 W.aL nm).isSome== !decide (word=fV))=hv
 exact λhL F4=>uD (W':={(W.emit [32,32] [32,32]).emit (te word nm) [] with aM:=o&&(hv&& !y)}) h3 rfl (kj (fJ rfl (fJ rfl (fy (rf rfl))))) rfl rfl rfl λs4 e4 h4=>aV (v:= .bool (y||hv)) (oh (jB rfl (jV rfl))) (iq h4 S3 (by decide) (by decide) (by decide) rfl rfl rfl λs5 h5 _ u5=>
  have u:=((jo e1).trans (u2.trans u3)).trans ((rX e4).trans u5)
  j8 (aJ rfl (aJ rfl (aJ (bG rfl rfl o6) rfl))) (hR s5 (nT W word nm (o&&(hv&& !y))) k _ _ X h5 F4 hL λs6 W6 h6 F6 T6 u6=>T6.elim (λl=>fH ((AG h6 rfl).trans (by rw [l.1.f];rfl)) (iZ (hK _ _ _ _ _ _ _ _ h6 F6 l.1 (u.trans u6)))) λD=>cN ((AG h6 rfl).trans (by rw [D.some.2])) (vi (.ret (.ret (.ret (hd s6 W6 h6 F6 D (u.trans u6))))))))
theorem br.le {j:Nat} (F:br k W) (h:j≤k):br j W:=br.less (j:=k-j) ((Nat.add_sub_of_le h).symm▸F)
theorem LQ {d:Nat} {o y0:Bool} {x5 x6 x7 x8:Option V} (h:aZ O W) (F:br (k+10+10) W) (T:(∃a y z,bT M0 W ((a,o,y,z)::cs))∨kn M0 W) (hE:∀s' W',aZ s' W'→br k W'→Told M0 W' cs o→Up O s'→Q .none s'):Wq (ah (ay aw fu (n+1)) fu (bf 4 Cw) (pH d o y0 x5 x6 x7 x8) O) (bM Q) X:=
 T.elim (λT=>T.elim λa T=>T.elim λy T=>T.elim λz T=>cN ((Nn h rfl).trans (by rw [T.f];rfl)) (iq h F.slim (by decide) (by decide) (by decide) rfl rfl rfl λs1 h1 S1 u1=>uD (W':={W.emit (96::jW) [] with aM:=o}) h1 rfl rfl rfl rfl rfl λs2 e2 h2=>iq h2 S1 (by decide) (by decide) (by decide) rfl rfl rfl λs3 h3 _ u3=>n1 (bz (.next (hE _ _ h3 (aaz F) (.inl ⟨aag T,rfl⟩) (u1.trans ((rX e2).trans u3)))))))
    λD=>fH ((Nn h rfl).trans (by rw [D.some.1])) (n1 (bz (.next (hE _ _ h F.less.less (.inr D) .refl))))
theorem Zs {d a:Nat} {o y:Bool} {x5 x6 x7 x8:Option V} (hR:uM M0 (ay aw fu (n+1)) (d+1)) (h:aZ O W) (F:br (k+10+10+10+10) W) (hL:bT M0 W ((a,o,y,false)::cs)) (hE:∀s' W',aZ s' W'→br k W'→Told M0 W' cs o→Up O s'→Q .none s'):Wq (ah (ay aw fu (n+1)) fu (bf 3 Cw) (pH d o y x5 x6 x7 x8) O) (bM Q) X:=
 mE (xG (eu (aS rfl (eO (b:=2) (Nat.succ_pos n) (by decide) (by decide) h.p λr s1 _ et e1=>aS rfl (bZ n8 (.mk (rT (λ_=>
  iq (h.fY et e1) F.slim (by decide) (by decide) (by decide) rfl rfl rfl λs2 h2 S2 u2=>uD (W':={W.emit (96::ig) [] with aM:=o&& !y}) h2 rfl (kj (fJ rfl (fy (rf rfl)))) rfl rfl rfl λs3 e3 h3=>iq h3 S2 (by decide) (by decide) (by decide) rfl rfl rfl λs4 h4 _ u4=>
   j8 (aJ rfl (aJ rfl (aJ (bG rfl rfl o6) rfl))) (hR s4 (AB W (o&& !y)) (k+10+10) _ _ X h4 (Pu F) (P8 hL) λs5 W5 h5 F5 T5 u5=>n1 (LQ h5 F5 (T5.imp_left λl=>⟨_,_,_,l.1⟩) λs' W' h' F' T' u'=>hE s' W' h' F' T' (((jo e1).trans (u2.trans (rX e3))).trans ((u4.trans u5).trans u'))))) λ_=>
  n1 (LQ (h.fY et e1) F.less.less (.inl ⟨_,_,_,hL⟩) λs' W' h' F' T' u'=>hE s' W' h' F' T' ((jo e1).trans u')))))))))
inductive CI (M0:bw) (O:ag) (W:LW) (cs:fZ) (k d N j:Nat):Locals→ag→Prop where
 |zero {x5 x6 x7 x8:Option V} {s:ag} (hj:j=0) (h:aZ s W) (u:Up O s):CI M0 O W cs k d N j (pH d W.aM false x5 x6 x7 x8) s
 |more {x5 x6 x7 x8:Option V} {s:ag} {W1:LW} {a i:Nat} {y:Bool} (hj:0<j) (hi:i+j=N) (h:aZ s W1) (F:br (k+40+20*i) W1) (hL:bT M0 W1 ((a,W.aM,y,false)::cs)) (u:Up O s):CI M0 O W cs k d N j (pH d W.aM y x5 x6 x7 x8) s
theorem aab {d:Nat} (hf:aq+100<fu) (hR:uM M0 (ay aw fu (n+1)) (d+1)):D9 M0 (ay aw fu (n+2)) d:=λO W k cs Q X h F hL hE=>by
 refine dT (L:=[some (.ref 2),some (.ref 5),some (.int (d:Int)),none,none,none,none,none,none]) rfl rfl (by decide) rfl (aV (w_get h.w rfl rfl) (aV rfl (C5 (J1 (aS rfl (eu (aS rfl (eO (b:=3) (Nat.succ_pos n) (by decide) (by decide) h.p λr s1 hr et e1=>bZ (zv (a:=1)) ⟨1+r,rfl,adj (Nat.add_le_add_left (Nat.le_of_lt hr) 1) (by decide),DY (CI M0 O W cs k d (1+r)) hf (adj (Nat.add_le_add_left (Nat.le_of_lt hr) 1) (by decide)) (.zero rfl (h.fY et e1) (jo e1)) (λj L s K hj hK hI=>?_) λL s hI=>?_⟩))))))))
 ·cases hI with
  |zero e h1 u=>
   subst e
   have x2:=(aj.refl (O:=s)).push (d:= .list ([gk,fV].map .str))
   refine eT (Ud (aS rfl (.mk (.t (lc (aS rfl (eu (aS rfl (eO (b:=2) (Nat.succ_pos n) (by decide) (by decide) (h1.p.ext x2) λw s2 hw gL e2=>?_)))))))))
   have g2:=e2.get (bH (O:=s) (d:= .list ([gk,fV].map .str))) (Nat.ne_of_gt (adk (by decide:2<6) h1.l))
   have wd:∃b:Bool,di s2 (.ref s.length) (.int (w:Int))=some (.str (if b then gk else fV)):=cO (P:=λw=>∃b:Bool,di s2 (.ref s.length) (.int (w:Int))=some (.str (if b then gk else fV))) ⟨false,eD (i:=1) g2 rfl⟩ (cO ⟨true,eD (i:=0) g2 rfl⟩ iC) w hw
   exact wd.elim λb hb=>bZ hb (Gh (k:=k+40+20*r) hR ((h1.ext x2).fY gL e2) (F.le (by omega)) (aax hL b) (λs' W' h' F' D u'=>hE s' W' h' (F'.le (by omega)) (.inr D) (u.trans ((x2.up.trans (jo e2)).trans u'))) λs' W' a y x5 x6 x7 x8 h' F' l u'=>hK _ _ (.more (i:=r) (Nat.succ_pos _) (Nat.add_comm r 1) h' F' l (u.trans ((x2.up.trans (jo e2)).trans u'))))
  |@more _ _ _ _ _ W1 a i y hp hi h1 F1 l u=>
   obtain ⟨i,rfl⟩:=Nat.exists_eq_succ_of_ne_zero (n:=i) (λe=>Nat.ne_of_lt hj (by rw [←hi,e,Nat.zero_add]))
   exact aV (v:= .str oK) (pb (t:=false) ((aO rfl rfl (j7 (b:=0))).trans (by rw [decide_eq_false (Nat.ne_of_gt hp)])) (λq=>nomatch q) λ_=>rfl) (Gh (k:=k+40+20*i) hR h1 F1 (Sd l) (λs' W' h' F' D u'=>hE s' W' h' (F'.le (by omega)) (.inr D) (u.trans u')) λs' W' a y x5 x6 x7 x8 h' F' l u'=>hK _ _ (.more (i:=i) (Nat.succ_pos _) (by omega) h' F' l (u.trans u')))
 ·cases hI with
  |zero e=>exact absurd e (by omega)
  |@more _ _ _ _ _ W1 a i y _ hi h1 F1 l u=>exact Zs hR h1 (F1.le (by omega)) l λs' W' h' F' T' u'=>hE s' W' h' F' T' (u.trans u')
end
section
variable {fu n:Nat} {O s:ag} {X:aX→ag→Prop} {Q:V→ag→Prop} {W:LW} {cs:fZ} {M0:bw} {k d:Nat} {R:Flow→Locals→ag→Prop} {nm:List Nat}
theorem aZ.NI (h:aZ O W) (y:Nat×List Nat):aZ (O.set 4 (.list ((W.bV++[y]).map gQ))) {W with bV:=W.bV++[y]}∧Up O (O.set 4 (.list ((W.bV++[y]).map gQ))):=
 have e:aU 4 O (O.set 4 (.list ((W.bV++[y]).map gQ))):=aU.refl.set
 have u:=e.up (by decide)
 ⟨⟨e.get h.w (by decide),h.m.elim λes q=>⟨es,e.get q.1 (by decide),q.2.mono λv a r=>r.up u⟩,cW h.n,h.p.keep e (by decide) (by decide),adj h.l e.1⟩,u⟩
theorem aZ.RE (h:aZ O W):∃es v af,O[3]?=some (.dict es)∧fz .l9 O (.ref 3) [.str nm,.none]= .ok v af∧aZ af {W with aL:=fg W.aL nm}∧Up O af:=h.m.elim λes q=>by
 have e0:fz .l9 O (.ref 3) [.str nm,.none]=qE O 3 es nm .none:=qJ (d:=Out.stuck) (f:=λes=>qE O 3 es nm .none) q.1
 unfold qE at e0
 cases hg:a6 W.aL nm with
 |none=>
  rw [q.2.none hg] at e0
  exact ⟨es,_,O,q.1,e0,(za hg).symm▸h,.refl⟩
 |some ps=>
   refine (q.2.some hg).elim λv hv=>?_
   rw [hv.1] at e0
   have e:aU 3 O (O.set 3 (.dict (dictDel es nm))):=aU.refl.set
   have u:=e.up (by decide)
   exact ⟨es,_,_,q.1,e0,⟨e.get h.w (by decide),⟨_,cW q.1,q.2.del.mono λv a r=>r.up u⟩,e.get h.n (by decide),h.p.keep e (by decide) (by decide),adj h.l e.1⟩,u⟩
theorem O1 {s:List Nat} {c:Nat} (h:s.length<aq):fz .split O (.str s) [.str [c]]= .ok (.ref O.length) (O++[Cell.list ((dg c s).map .str)]):=if_pos h
theorem Qv {t:List Nat} {a:Nat} (ha:a<16777300):iV O (.str t) (.int (a:Int)) .none true false= .ok (.str (t.drop a)) O:=(M1 (uS ha) (show ky .none false=some Option.none from rfl)).trans rfl
theorem Y7 {a:Bool} {p:Prop} [Decidable p] (h:(a&& !decide p)=false):¬a=true∨p:=if q:p then .inr q else .inl λe=>by rw [e,decide_eq_false q] at h;exact nomatch h
noncomputable def jH (d:Nat) (x3 x4 x5 x6 x7 x8:Option V):Locals:=[some (.ref 2),some (.ref 5),some (.int (d:Int)),x3,x4,x5,x6,x7,x8]
abbrev Wm:Ss:=fC IW
abbrev I8:Ss:=bf 3 Wm
abbrev Mv:Ss:=uW I8
abbrev IL:Ss:=uW Mv
abbrev IJ:Ss:=uW IL
abbrev zg:Ss:=uW IJ
abbrev NX:Ss:=uW zg
noncomputable def Lq (M0:bw) (cs:fZ) (act:Bool) (k d:Nat) (O:ag) (K:Locals→ag→Prop):Prop:=∀s' W' x3 x4 x5 x6 x7 x8,aZ s' W'→br k W'→Told M0 W' cs act→Up O s'→K (jH d x3 x4 x5 x6 x7 x8) s'
section
variable {x3 x4 x5 x6 x7 x8:Option V} (h:aZ O W) (F:br (k+300) W) (l:bT M0 W cs) (hK:Lq M0 cs W.aM k d O (R .next))
include h F l hK
theorem UU:Wq (ah (ay aw fu (n+1)) fu (fC I8) (jH d x3 x4 x5 x6 x7 x8) O) R X:=by
 have x2:=(aj.refl (O:=O)).push (d:= .list (pF.map .str))
 refine eT (lc (aS rfl (eu (aS rfl (eO (b:=5) (Nat.succ_pos n) (by decide) (by decide) (h.p.ext x2) λr s1 hr et e1=>(tQ (f:= .str) (xs:=pF) hr).elim λrow hw=>bZ (eD (e1.get bH (Nat.ne_of_gt (adk (by decide:2<6) h.l))) hw.2) ?_)))))
 have rl:(row++[10]).length≤1000:=adn (List.all_eq_true.1 (show pF.all (λr=>decide ((r++[10]).length≤1000))=true by decide) row hw.1)
 exact iq ((h.ext x2).fY et e1) F.slim (by decide) rl rl rfl (bG rfl rfl (p0 rl)) (bG rfl rfl (p0 rl)) λs2 h2 _ u2=>bz (hK s2 (zi W row) _ _ _ _ _ _ h2 (XZ hw.1 F) (.inl ⟨YH hw.1 l,rfl⟩) (x2.up.trans ((jo e1).trans u2)))
theorem OR (hf:aq+100<fu):Wq (ah (ay aw fu (n+4)) fu (fC Mv) (jH d x3 x4 x5 x6 x7 x8) O) R X:=
 j8 rfl (Uy hf h (adj F.slim.1 (by decide)) (adj F.slim.2 (by decide)) (adj F.m (adj (Nat.add_le_add_right (adj (adj (adm _ _) (adm _ _)) F.t) 5) (by decide))) λnm ps way s1 hn hp hl hw h1 u1=>have nF:=wt hn
  bz (hK s1 _ _ _ _ _ _ _ h1 (VH hn hp hl hw F) (.inl ⟨aaC l hn (λp q=>((hp p q).facts nF.c).i.full nF.c) hw,gu (P:=λV:LW=>V.aM=W.aM) (λ_=>rfl) λ_=>rfl⟩) u1))
theorem XF (hf:aq+100<fu) (hE:lQ (ay aw fu (n+1)) 20):Wq (ah (ay aw fu (n+2)) fu (fC IL) (jH d x3 x4 x5 x6 x7 x8) O) R X:=
 iq h F.slim (by decide) (by decide) (by decide) rfl rfl rfl λs1 h1 S1 u1=>j8 rfl (V7 hf h1 F.g hE (adj S1.1 (by decide)) (adj S1.2 (by decide)) λnm as wide s2 hu h2 u2=>
  have F2:=GQ (W:=W.emit wT wT) hu l.u (br.emit (k:=k+100+100) (j:=100) F (by decide) (by decide) (cy rfl))
  iq h2 F2.slim (by decide) (by decide) (by decide) rfl rfl rfl λs3 h3 _ u3=>bz (hK s3 (rE W nm as wide) _ _ _ _ _ _ h3 (VU hu l.u F) ((Zc l hu F.g).imp_left λl=>⟨l,YI⟩) (u1.trans (u2.trans u3))))
where
 YI {nm:List Nat} {as:List A0} {wide:Bool}:(rE W nm as wide).aM=W.aM:=by
  show (vY _ _ _ (jS (W.emit wT wT) nm as)).aM=W.aM
  cases jS (W.emit wT wT) nm as<;>rfl
theorem Zz:Wq (ah (ay aw fu (n+1)) fu (fC IJ) (jH d x3 x4 x5 x6 x7 x8) O) R X:=by
 refine eT (lc (aS rfl (eu (aS rfl (eO (b:=5) (Nat.succ_pos n) (by decide) (by decide) h.p λr s1 hr et e1=>(Ka r hr).elim λnm hn=>bZ (hn.2 _) ?_)))))
 have ul:(n9 nm).length≤1000:=adj (kE (List.all_eq_true.1 (show gZ.all (λnm=>kD 150 (n9 nm))=true by decide +kernel) nm hn.1)).1 (by decide)
 refine iq (h.fY et e1) F.slim (by decide) ul (by decide) rfl (bG rfl rfl (p0 (a:=[96,117,110,100,101,102,32]) ul)) rfl λs2 h2 S2 u2=>iq h2 S2 (by decide) (by decide) (by decide) rfl rfl rfl λs3 h3 _ u3=>?_
 have u:=(jo e1).trans (u2.trans u3)
 have f:=Yn hn.1 F
 have lu:=abw l hn.1
 exact fG (w_get h3.w rfl rfl) (λq=>(aZ.RE (nm:=nm) h3).elim λes q2=>q2.elim λv q2=>q2.elim λs4 q2=>
   have e:o4 W nm={uA W nm with aL:=fg W.aL nm}:=if_pos q
   dS (Xx (bj rfl rfl (eS h3.w rfl)) q2.1 rfl rfl q2.2.1) (n1 (bz (hK s4 (o4 W nm) _ _ _ _ _ _ (e▸q2.2.2.1) f (.inl ⟨lu,e▸rfl⟩) (u.trans q2.2.2.2)))))
  λq=>have e:o4 W nm=uA W nm:=if_neg λc=>nomatch c.symm.trans q
   n1 (bz (hK s3 (o4 W nm) _ _ _ _ _ _ (e▸h3) f (.inl ⟨lu,e▸rfl⟩) u))
theorem Sz:Wq (ah (ay aw fu (n+1)) fu (fC zg) (jH d x3 x4 x5 x6 x7 x8) O) R X:=by
 have x2:=(aj.refl (O:=O)).push (d:= .list (nu.map λx=>V.tup [.str x.1,.str x.2.2]))
 refine pW (lc (aS rfl (eu (aS rfl (eO (b:=4) (Nat.succ_pos n) (by decide) (by decide) (h.p.ext x2) λr s1 hr et e1=>(tQ (f:=λx:List Nat×Nat×List Nat=>V.tup [.str x.1,.str x.2.2]) (xs:=nu) hr).elim λx hx=>bZ (eD (e1.get bH (Nat.ne_of_gt (adk (by decide:2<6) h.l))) hx.2) ⟨rfl,bZ rfl ?_⟩)))))
 have h1:=(h.ext x2).fY et e1
 have u1:=x2.up.trans (jo e1)
 have q:=List.all_eq_true.1 (show nu.all (λx=>((dg 32 x.1).head?==some (x.1.take x.2.1)&&(x.1.take x.2.1).length==x.2.1)&&(decide (x.1.length≤40)&&decide ((x.1.drop x.2.1++[10]).length≤100)))=true by decide +kernel) x hx.1
 have sp:((dg 32 x.1).map V.str)[0]?=some (.str (x.1.take x.2.1)):=by rw [List.getElem?_map, ←List.head?_eq_getElem?,show (dg 32 x.1).head?=_ from eq_of_beq (bp (bp q))];rfl
 have ln:(x.1.take x.2.1).length=x.2.1:=eq_of_beq (aW (bp q))
 have EU:x.1.length≤40:=adn (bp (aW q))
 have t1:(x.1.take x.2.1).length≤1000:=adj (List.length_take_le' _ _) (adj EU (by decide))
 have t2:(x.1.drop x.2.1++[10]).length≤1000:=adj (adn (aW (aW q))) (by decide)
 have same:=IX (W:=W) (w:=x.2.2)
 have S:oV 50000 (ll W x.2.2):=⟨same.t.symm▸F.slim.1,same.d.symm▸F.slim.2⟩
 have ac:∀s2,aZ s2 (ll W x.2.2)→Up s1 s2→Wq (ah (ay aw fu (n+1)) fu (bf 2 (fC zg)) (jH d x3 x4 (some (.str x.1)) x6 (some (.str x.2.2)) x8) s2) R X:=λs2 h2 u2=>by
  have y:=(aj.refl (O:=s2)).push (d:= .list ((dg 32 x.1).map .str))
  have fst:∀{s:ag},s[s2.length]?=some (.list ((dg 32 x.1).map .str))→di s (.ref s2.length) (.int 0)=some (.str (x.1.take x.2.1)):=λg=>eD (i:=0) g sp
  refine aV (jf rfl rfl rfl (O1 (adl EU (dh▸by decide)))) (iq (h2.ext y) S (by decide) t1 (by decide) rfl (bj rfl rfl (fst bH)) rfl λs3 h3 S3 u3=>iq h3 S3 (by decide) t2 (by decide) rfl (bG (e7 rfl (fb (aJ (bj rfl rfl (fst (u3.get bH h2.l))) rfl) qo) rfl (by
   rw [ln];exact Qv (adl (adj (Nat.le_of_eq ln.symm) t1) (by decide)))) rfl (p0 t2)) rfl λs4 h4 _ u4=>bz (hK s4 (rZ W x) _ _ _ _ _ _ h4 (Yi hx.1 F) (.inl ⟨QU l hx.1,same.a⟩) (u1.trans (u2.trans (y.up.trans (u3.trans u4))))))
 have c:ev (ay aw fu (n+1)) fu (.and (.cons (.idx (.loc 1) (.str Dh)) (.cons (.cmp .ne (.loc 7) (.str [])) .nil))) (jH d x3 x4 (some (.str x.1)) x6 (some (.str x.2.2)) x8) s1= .ok (.bool (W.aM&& !decide (x.2.2=[]))) s1:=kj (fJ (w_get h1.w rfl rfl) (fy (aO rfl rfl oB)))
 refine fG c (λg=>?_) λg=>n1 (ac s1 (by rw [yc (Y7 g)];exact h1) .refl)
 ·have e:=B2 (W:=W) (w:=x.2.2) (bp g) λe=>by rw [e] at g;exact nomatch (aW g)
  have a:=h1.NI (W.dQ.length,x.2.2)
  exact dS (ip (w_get h1.w rfl rfl) h1.n rfl (aJ (mZ (aJ (fb (aJ (w_get h1.w rfl rfl) rfl) qo) rfl)) rfl) ((hZ h1.n (by rw [List.length_map];exact adl (adj F.n F.slim.1) (dh▸by decide))).trans (by rw [show W.bV.map gQ++[V.tup [.int (W.dQ.length:Int),.str x.2.2]]=(W.bV++[(W.dQ.length,x.2.2)]).map gQ from by rw [List.map_append];rfl]))) (n1 (ac _ (e.symm▸a.1) a.2))
theorem row_cond (hC:D9 M0 (ay aw fu (n+1)) d):Wq (ah (ay aw fu (n+1)) fu NX (jH d x3 x4 x5 x6 x7 x8) O) R X:=j8 rfl (hC O W k cs _ X h F l λs1 W1 h1 F1 T1 u1=>bz (hK s1 W1 _ _ _ _ _ _ h1 F1 T1 u1))
end
noncomputable def bk (d:Nat):Nat:=if d<3 then 10 else 8
inductive RI (M0:bw) (O:ag) (W:LW) (cs:fZ) (k d j:Nat):Locals→ag→Prop where
 |mk {x3 x4 x5 x6 x7 x8:Option V} {s:ag} {W1:LW} (h:aZ s W1) (F:br k W1) (T:Told M0 W1 cs W.aM) (u:Up O s):RI M0 O W cs k d j (jH d x3 x4 x5 x6 x7 x8) s
theorem UI {C:Calls} {x3 x4 x5 x6 x7 x8:Option V}:ev C fu (.ite (.cmp .lt (.loc 2) (.int 3)) (.int 10) (.int 8)) (jH d x3 x4 x5 x6 x7 x8) O= .ok (.int (bk d:Int)) O:=pb (t:=decide (d<3)) (aO rfl rfl (nW (b:=3))) (λq=>congrArg (λb:Nat=>Out.ok (V.int (b:Int)) O) (if_pos (adn q)).symm) λq=>congrArg (λb:Nat=>Out.ok (V.int (b:Int)) O) (if_neg (ado q)).symm
theorem br.room (F:br k W) (h:¬W.room-1<0):br (k+300) {W with room:=W.room-1}:=⟨by
  show W.text.length+300*(W.room-1).toNat+(k+300)≤_
  have:=F.t;omega,by
  show W.dQ.length+300*(W.room-1).toNat+(k+300)≤7500+40*W.uses
  have:=F.d;omega,F.m,F.n,F.u,F.g,F.a,F.nw⟩
theorem br.J3 (F:br k W):br k {W with room:=W.room-1}:=⟨adj (Nat.add_le_add_right (Nat.add_le_add_left (Nat.mul_le_mul_left 300 MH) _) k) F.t,adj (Nat.add_le_add_right (Nat.add_le_add_left (Nat.mul_le_mul_left 300 MH) _) k) F.d,F.m,F.n,F.u,F.g,F.a,F.nw⟩
where MH:(W.room-1).toNat≤W.room.toNat:=Int.toNat_le_toNat (Int.sub_le_self _ (by decide))
theorem IE {d:Nat} (hf:aq+100<fu) (hd:d≤3) (hC:d<3→D9 M0 (ay aw fu (n+4)) d) (hE:lQ (ay aw fu (n+3)) 20):uM M0 (ay aw fu (n+5)) d:=λO W k cs Q X h F l AX=>by
 refine dT (L:=[some (.ref 2),some (.ref 5),some (.int (d:Int)),none,none,none,none,none,none]) rfl rfl (by decide) rfl (C5 (eu (aS (aJ rfl (aJ (bG (v:= .int ((6-d:Nat):Int)) rfl rfl (yC.trans (congrArg (λi=>some (V.int i)) (Int.ofNat_sub (adj hd (by decide))).symm))) rfl)) (eO (b:=6-d) (Nat.succ_pos _) (Nat.sub_pos_of_lt (adl hd (by decide))) (adl (Nat.sub_le 6 d) (by decide)) h.p λN s1 hN et e1=>⟨N,rfl,adj (Nat.le_of_lt hN) (adj (Nat.sub_le 6 d) (by decide)),DY (RI M0 O W cs k d) hf (adj (Nat.le_of_lt hN) (adj (Nat.sub_le 6 d) (by decide))) (.mk (h.fY et e1) F (.inl ⟨l,rfl⟩) (jo e1)) (λj L s K hj hK hI=>?_) λL s hI=>?_⟩))))
 ·cases hI with
  |@mk x3 x4 x5 x6 x7 x8 _ W1 h1 F1 T1 u1=>
   refine nV (aJ rfl (aJ UI rfl)) (eO (b:=bk d) (Nat.succ_pos _) (gu (P:=λb=>0<b) (λ_=>by decide) λ_=>by decide) (gu (P:=λb=>b<1000) (λ_=>by decide) λ_=>by decide) h1.p λkd s2 sZ gL e2=>?_)
   refine uK (W':={W1 with room:=W1.room-1}) (h1.fY gL e2) rfl rfl rfl rfl rfl rfl rfl λs3 e3 h3=>?_
   have u3:=u1.trans ((jo e2).trans (rX e3))
   have c:ev (ay aw fu (n+4)) fu (.or (.cons (.cmp .iD (.idx (.loc 1) (.str uN)) .none) (.cons (.cmp .lt (.idx (.loc 1) (.str DX)) (.int 0)) .nil))) (jH d (some (.int (j:Int))) (some (.int (kd:Int))) x5 x6 x7 x8) s3= .ok (.bool (W1.fault.isSome||decide (W1.room-1<0))) s3:=oh (jB (AG (W:={W1 with room:=W1.room-1}) h3 rfl) (jV (aO (w_get h3.w rfl rfl) rfl lY)))
   have out:Told M0 {W1 with room:=W1.room-1} cs W.aM:=T1.imp (λl=>⟨⟨l.1.f,l.1.u,l.1.h⟩,l.2⟩) λD=>match D with
    |⟨k,p,f,a,h⟩=>⟨k,p,f,a,h⟩
   refine T1.elim (λl1=>?_) λD=>cN (c.trans (by rw [D.some.2];rfl)) (vi (.ret (.ret (.ret (AX s3 _ h3 F1.J3 out u3)))))
   by_cases hr:W1.room-1<0
   ·exact cN (c.trans (by rw [decide_eq_true hr,Bool.or_true])) (vi (.ret (.ret (.ret (AX s3 _ h3 F1.J3 out u3)))))
   have F3:=F1.room hr
   have l3:bT M0 {W1 with room:=W1.room-1} cs:=⟨l1.1.f,l1.1.u,l1.1.h⟩
   have K3:∀{R:Flow→Locals→ag→Prop},(∀{L s},K L s→R .next L s)→Lq M0 cs ({W1 with room:=W1.room-1}:LW).aM k d s3 (R .next):=λf s' W' y3 y4 y5 y6 y7 y8 h' F' T' u'=>f (hK _ _ (.mk h' F' (l1.2▸T') (u3.trans u')))
   refine cg (c.trans (by rw [l1.1.f,decide_eq_false hr];rfl)) (fG (aO rfl rfl lY) (λ_=>UU h3 F3 l3 (K3 λk=> .next (tU k))) λ_=>fG (aO rfl rfl lY) (λ_=>OR h3 F3 l3 (K3 λk=> .next (iZ k)) hf) λ_=>eJ (aO rfl rfl (nW (b:=6))) (λ_=>XF h3 F3 l3 (K3 λk=> .next (jc k)) hf hE) λq5=>eJ (aO rfl rfl (j7 (b:=6))) (λ_=>Zz h3 F3 l3 (K3 λk=> .next (n1 (jc k)))) λq6=>eJ (aO rfl rfl (j7 (b:=7))) (λ_=>Sz h3 F3 l3 (K3 λk=> .next (n2 (jc k)))) λq7=>row_cond h3 F3 l3 (K3 λk=> .next (n2 (jc k))) (hC ?_))
   exact Classical.byContradiction λzF=>by
    rw [bk,if_neg zF] at sZ;omega
 ·cases hI with
  |mk h1 F1 T1 u1=>exact bz (.next (AX s _ h1 F1 T1 u1))
end
section
variable {fu n:Nat} {O:ag} {X:aX→ag→Prop} {Q:V→ag→Prop}
noncomputable def QV (v:V):Prop:=∃x:Int,v= .int x
noncomputable def oE (vs:List V):Prop:=∀v∈vs,QV v
theorem oE.push {vs:List V} {x:Int} (h:oE vs):oE (vs++[.int x]):=λv hv=>(List.mem_append.1 hv).elim (h v) λhv=>⟨x,List.mem_singleton.1 hv⟩
theorem Pe {a:Int} {b:Nat} (hb:0<b) (pR:b<2000):jr .fdiv O (.int a) (.int (b:Int))= .ok (.int (a.fdiv b)) O:=oy (if_pos (c:=0<(b:Int)∧(b:Int)<1073741824) ⟨Int.ofNat_lt.2 hb,Int.lt_trans (Int.ofNat_lt.2 pR) (by decide)⟩)
theorem OO {vs:List V}:iV O (.frozen vs) .none (.int 40) false true= .ok (.ref O.length) (O++[Cell.list (vs.take 40)]):=kP (show ky .none false=some Option.none from rfl) (kP (uS (k:=40) (by decide)) rfl)
abbrev bP:Ss:=Lj
noncomputable def vN (vs:List V) (m:Int) (x3 x4 x5 x6:Option V):Locals:=[some (.frozen vs),some (.ref 0),some (.int m),x3,x4,x5,x6]
structure lT (ws:List V) (b:Nat) (s:ag) (dN:List V):Prop where
 g0:s[0]?=some (.list dN)
 i:oE dN
 l:dN.length≤b
 g1:s[1]?=some (.list ws)
 n:s.length=2
inductive EB (vs ws:List V) (b:Nat) (m:Int) (x3 x4:Option V):Locals→ag→Prop where
 |mk {dN:List V} {r:Int} {x6:Option V} {s:ag} (h:lT ws b s dN):EB vs ws b m x3 x4 (vN vs m x3 x4 (some (.int r)) x6) s
theorem lT.push {ws:List V} {b:Nat} {s:ag} {dN:List V} {x:Int} (h:lT ws b s dN):lT ws (b+1) (s.set 0 (.list (dN++[.int x]))) (dN++[.int x]):=
 ⟨cW h.g0,h.i.push,adj (Nat.le_of_eq List.length_append) (Nat.succ_le_succ h.l),fU h.g1 (by decide),List.length_set.trans h.n⟩
theorem lT.le {ws:List V} {b b':Nat} {s:ag} {dN:List V} (h:lT ws b s dN) (hb:b≤b'):lT ws b' s dN:=⟨h.g0,h.i,adj h.l hb,h.g1,h.n⟩
theorem XW {vs ws dN:List V} {k:Nat} {m c:Int} {x3 x4 x6:Option V} {ss:Ss} {R:Flow→Locals→ag→Prop} {C:Calls} (hf:aq+100<fu) (hk:k≤40) (h:lT ws (60*k) O dN) (K:∀L s,EB vs ws (60*(k+1)) m x3 x4 L s→Wq (ah C fu ss L s) R X):
  Wq (ah C fu (.cons (.forR 6 (.int 60) (fC (bf 3 (fC (bf 2 bP))))) ss) (vN vs m x3 x4 (some (.int c)) x6) O) R X:=
 xj 60 (λj=>EB vs ws (60*k+j) m x3 x4) (adl (adj (by decide) (Nat.le_add_left 100 aq)) hf) (by decide) (aS rfl ⟨rfl,.mk h⟩) (λj L s K2 hj YR hI=>by
  cases hI with
  |@mk dN r x6 _ h=>exact dS (iG rfl h.g0 (bG rfl rfl (yh (b:=840) (by decide) (by decide))) (hZ h.g0 (adl h.l (adk (Nat.add_lt_add_of_le_of_lt (Nat.mul_le_mul_left 60 hk) hj) (dh▸by decide))))) (yG rfl rfl (Pe (b:=840) (by decide) (by decide)) rfl (fG (aO rfl rfl n8) (λ_=>wj (.brk (.brk (K _ _ (.mk (h.push.le (Nat.add_le_add_left hj (60*k)))))))) λ_=>iZ (YR _ _ (.mk h.push))))) λL s hI=>K L s hI
inductive Ge (vs ws:List V) (k:Nat):Locals→ag→Prop where
 |mk {dN:List V} {m:Int} {x3 x4 x5 x6:Option V} {s:ag} (hk:k≤ws.length) (h:lT ws (60*k) s dN) (hm:0≤m∧m<1009):Ge vs ws k (vN vs m x3 x4 x5 x6) s
theorem EE {vs ws dN:List V} {b:Nat} {m:Int} {x3 x4 x5 x6:Option V} {C:Calls} (h:lT ws b O dN) (hm:0≤m∧m<1009) (H:∀af,dA af→af.length=3→Q (.ref 2) af):Wq (ah C fu (bf 3 bP) (vN vs m x3 x4 x5 x6) O) (bM Q) X:=
 have x:=(aj.refl (O:=O)).push (d:= .list [V.ref 0,.int 0,.int m])
 dj rfl (.ret (by
  show Q (.ref O.length) _
  rw [h.n]
  exact H _ ⟨dN,0,m,x.get h.g0,h.i,(h.n▸bH (O:=O) (d:= .list [V.ref 0,.int 0,.int m])),hm⟩ (kU.trans (congrArg (· +1) h.n))))
theorem RD {vs:List V} (hf:aq+100<fu) (hv:oE vs) (H:∀af,dA af→af.length=3→Q (.ref 2) af):Wp (ay aw fu (n+1) 27 [.frozen vs] []) Q X:=by
 have Gj:oE (vs.take 40):=λv h=>hv v (List.mem_of_mem_take h)
 have DV:(vs.take 40).length≤40:=List.length_take_le _ _
 have hs:iV [Cell.list []] (.frozen vs) .none (.int 40) false true= .ok (.ref 1) [.list [],.list (vs.take 40)]:=OO
 generalize vs.take 40=ws at Gj DV hs
 refine dT (L:=[some (.frozen vs),none,none,none,none,none,none]) rfl rfl (by decide) rfl (aV rfl (aV rfl (p6 ws.length (Ge vs ws) (adl DV (adl (adj (by decide) (Nat.le_add_left 100 aq)) hf)) (aS (e7 rfl rfl rfl hs) ⟨_,rfl,.mk (dN:=[]) (m:=5) (Nat.zero_le _) ⟨rfl,λ_ h=>(nomatch h),adp _,rfl,rfl⟩ (by decide),λk L s K hK hI=>?_⟩))))
 cases hI with
 |@mk dN m x3 x4 x5 x6 _ hk h hm=>
  refine ⟨hk,bZ (jO h.g1) ((Nat.lt_or_eq_of_le hk).elim (λq=>?_) λq=>?_)⟩
  ·rw [List.getElem?_eq_getElem q]
   refine (Gj _ (List.getElem_mem q)).elim λc hc=>?_
   rw [hc]
   have fm:=AR (a:=m*31+c) (b:=1009) (by decide)
   exact .more ⟨q,aV rfl (aV (bG (bG (bG rfl rfl (A7 ⟨Int.lt_of_lt_of_le (by decide) hm.1,Int.lt_trans hm.2 (by decide)⟩ (by decide))) rfl JH) rfl (yh (b:=1009) (by decide) (by decide))) (aV rfl (XW hf (adj hk DV) h λL s hI=>by
    cases hI with
    |@mk dN r x6 _ h=>exact fG (aO (fb (aJ rfl rfl) (mC h.g0)) rfl mz) (λ_=>wj (.brk (.brk (EE h fm H)))) λ_=>iZ (hK _ _ (.mk q h fm)))))⟩
  ·rw [List.getElem?_eq_none (Nat.le_of_eq q.symm)]
   exact .done (EE h hm H)
end
section
variable {fu n:Nat} {O:ag} {X:aX→ag→Prop} {M0:bw}
theorem Iq (hn:1<n) (hf:aq+100<fu):∀(k d:Nat),d+k=20→m9 (ay aw fu (n+2*k+2)) d
 |0,d,hd=>Mf hn hf λh=>absurd ((show d=20 from hd)▸h) (Nat.lt_irrefl 20)
 |k+1,d,hd=>Mf (n:=n+2*k+2) (adk hn (adj (adm _ _) (adm _ _))) hf λ_=>Py (adk hn (adj (adm _ _) (adm _ _))) hf (Iq hn hf k (d+1) (by rw [←hd,Nat.add_right_comm,Nat.add_assoc]))
theorem zl (hn:0<n) (hf:aq+100<fu):∀f,lQ (ay aw fu (n+f+2)) f
 |0=>Fm hn hf λ_ h=>nomatch h
 |f+1=>Fm (n:=n+f+1) (Nat.succ_pos _) hf λg h=>Nat.succ.inj h▸zl hn hf f
theorem Mb (hf:aq+100<fu):∀(k d:Nat),d+k=3→uM M0 (ay aw fu (n+2*k+25)) d
 |0,d,hd=>IE (n:=n+20) hf (Nat.le_of_eq hd) (λh=>absurd ((show d=3 from hd)▸h) (Nat.lt_irrefl 3)) (zl (n:=n+1) (Nat.succ_pos n) hf 20)
 |k+1,d,hd=>IE (n:=n+2*k+22) hf (hd▸adm d _) (λ_=>aab (n:=n+2*k+24) hf (Mb hf k (d+1) (by rw [←hd,Nat.add_right_comm,Nat.add_assoc]))) (zl (n:=n+2*k+3) (Nat.succ_pos _) hf 20)
inductive Nd (w:Nat) (aQ:List Nat) (L:Locals) (R:Flow→Locals→ag→Prop) (x:aX) (s:ag):Prop where
 |mk (wv y:V) (h1:L.get w=some wv) (h2:di s wv (.str aQ)=some y) (h3:iX s (.tup [x.k,x.a]) y=some true) (h4:R (.ret (.bool true)) L s):Nd w aQ L R x s
theorem Zy {C:Calls} {i0 i w:Nat} {e:E} {aQ:List Nat} {ss:Ss} {L:Locals} {R:Flow→Locals→ag→Prop} (h:Wp (ev C fu e L O) (λv s=>Wq (ah C fu ss (L.put i0 v) s) R X) (Nd w aQ L R)):
  Wq (ah C fu (.cons (.j9 (.cons (.aA i0 e) .nil) i w aQ) ss) L O) R X:=e9 (by
 show Wq (handled (ah C fu (.cons (.aA i0 e) .nil) L O) w aQ) _ X
 rw [KH]
 show Wq (handled ((ev C fu e L O).toS L λv O=> .ok .next (L.put i0 v) O) w aQ) _ X
 generalize ev C fu e L O=o at h ⊢
 cases h with
 |ok h=>exact .ok (.next h)
 |@exc _ _ x s h=>cases h with
  |mk wv y h1 h2 h3 h4=>
   show Wq (bK ((L.get w).bind λx=>di s x (.str aQ)) .stuck λy=>bK (iX s (.tup [x.k,x.a]) y) .stuck λr=> .ok (.ret (.bool r)) L s) _ X
   rw [h1]
   show Wq (bK (di s wv (.str aQ)) .stuck _) _ X
   rw [h2]
   show Wq (bK (iX s (.tup [x.k,x.a]) y) .stuck _) _ X
   rw [h3]
   exact .ok (.ret h4))
theorem Fs {x:List Nat}:PySem.PyData.eqv (dK x) (dK x)=true:=by simp [PySem.PyData.eqv,dK]
theorem HA {x:Int}:PySem.PyData.eqv (.int x) (.int x)=true:=by simp [PySem.PyData.eqv]
theorem uu {x y:PySem.PyData} {xs ys:List PySem.PyData} (h:PySem.PyData.eqv x y=true) (h2:PySem.PyData.eqvAll xs ys=true):PySem.PyData.eqvAll (x::xs) (y::ys)=true:=by rw [PySem.PyData.eqvAll,h,h2];rfl
theorem U0 {k:List Nat} {p:Nat} {s:ag} (hk:ba k):iX s (.tup [.str k,.int (p:Int)]) (wu (some (k,p)))=some true:=
 have e:V.py s 4 (.tup [.str k,.int (p:Int)])=some (.tuple [dK k,.int (p:Int)]):=tG (iB rfl (iB rfl rfl))
 have l:mB (.tuple [dK k,.int (p:Int)]) 1:=uC (.cons (pA hk) (.cons ⟨rfl,Nat.zero_le _⟩ .nil))
 (show jU s (.tup [.str k,.int (p:Int)]) (.tup [.str k,.int (p:Int)])=_ from vO e e l l (by decide) (by decide)).trans (congrArg some (show PySem.PyData.eqvAll [dK k,.int (p:Int)] [dK k,.int (p:Int)]=true from uu Fs (uu HA rfl)))
noncomputable def r8 (x:Nat×List Nat):PySem.PyData:= .tuple [.int (x.1:Int),dK x.2]
theorem A8 {s:ag}:∀l:List (Nat×List Nat),V.pd s 3 (l.map gQ)=some (l.map r8)
 |[]=>rfl
 |x::r=>iB (tG (iB rfl (iB rfl rfl))) (A8 r)
theorem Kb:∀l:List (Nat×List Nat),PySem.PyData.eqvAll (l.map r8) (l.map r8)=true
 |[]=>rfl
 |x::r=>uu (show PySem.PyData.eqvAll [.int (x.1:Int),dK x.2] [.int (x.1:Int),dK x.2]=true from uu HA (uu Fs rfl)) (Kb r)
theorem zW:∀l:List (Nat×List Nat),(∀x∈l,ba x.2)→ph 1 (l.map r8)
 |[],_=> .nil
 |x::r,h=> .cons (uC (.cons ⟨rfl,Nat.zero_le _⟩ (.cons (pA (h x (.head _))) .nil))) (zW r λy hy=>h y (.tail _ hy))
theorem aad {s:ag} {a b:Nat} {l:List (Nat×List Nat)} (h1:s[a]?=some (.list (l.map gQ))) (h2:s[b]?=some (.list (l.map gQ))) (hl:∀x∈l,ba x.2):co .eq s (.ref a) (.ref b)=some (.bool true):=
 congrArg (Option.map V.bool) ((show jU s (.ref a) (.ref b)=_ from vO (oD h1 (A8 l)) (oD h2 (A8 l)) (oo (zW l hl)) (oo (zW l hl)) (by decide) (by decide)).trans (congrArg some (show PySem.PyData.eqvAll (l.map r8) (l.map r8)=true from Kb l)))
noncomputable def RT:Flow→Locals→ag→Prop:=λf _ _=>f= .ret (.bool true)
theorem YS {d:V} {W:LW} {x0 x1 x4 x5 x6 x7 x8 x9 ft:Option V} (hf:aq+100<fu) (h:aZ O W) (T:bT M0 W []∨kn M0 W) (ha:ba W.text) (hl:W.text.length≤200000) (hd:W.dQ.length≤aq) (Xw:∀x∈W.bV,ba x.2) (ho:jM O d M0):
  Wq (ah (ay aw fu (n+46)) fu (bf 6 jz) [x0,x1,some (.ref 5),some d,x4,x5,x6,x7,x8,x9,ft] O) RT (λ_ _=>False):=by
 refine eT (BZ (aS rfl (V9 (n:=n+43) (by omega) hf ho λae hM pO=>?_)))
 have low:∀{s:ag} {i:Nat} {c:Cell},ck O.length O s→O[i]?=some c→s[i]?=some c:=λhl g=>hl.get g (dD g)
 have hU:m9 (ay aw fu (n+44)) 0:=Iq (n:=n+2) (Nat.le_add_left 2 n) hf 20 0 rfl
 have w1:=low pO h.w
 cases hM with
 |mk nt pc ln cd act u lo hp hT nn VW mq=>
  have hM:Made O.length O.length (O.length+1) (O.length+2) ae M0:=⟨nt,pc,ln,cd,act,u,lo,hp,hT,nn,VW,mq⟩
  refine Zy (rO rfl hp rfl (aJ (bj rfl rfl (eS w1 rfl)) rfl) ?_)
  refine T.elim (λl=>?_) λD=>?_
  ·have hx:=l.h [] _ (Xp.nil (s:=cX W []) rfl hd)
   rw [List.append_nil] at hx
   refine FD (n:=n+42) (by omega) hf hl ha hM hU hx λs2 kM ml jw=>dj (v:= .bool true) (ae:=s2) ?_ rfl
   have FW:ck O.length O s2:=pO.trans kM
   have w2:=low FW h.w
   exact (kj (fJ (aO (bj rfl rfl (eS w2 rfl)) rfl vS) (fJ (aO rfl (bj rfl rfl (eS w2 rfl)) oR) (fy (aO (cH rfl (cK ml rfl)) (bj rfl rfl (eS w2 rfl)) (aad jw (low FW h.n) Xw)))))).trans (congrArg (λb=>Out.ok (V.bool b) s2) (by
    rw [l.f]
    show (true&&(decide (W.dQ=W.dQ)&&true))=true
    rw [decide_eq_true rfl];rfl))
  ·cases D with
   |mk k p f ak hx=>exact FD (n:=n+42) (by omega) hf hl ha hM hU hx λs2 y kM y1 y2=>⟨_,_,rfl,eS (low (pO.trans kM) h.w) rfl,by rw [y1,y2,f];exact U0 ak,rfl⟩
end
section
variable {fu n:Nat} {O:ag} {X:aX→ag→Prop} {M0:bw} {W:LW} {R:Flow→Locals→ag→Prop}
abbrev Aq:Ss:=fC (bf 5 jz)
noncomputable def pK (x:FR):V:= .tup [.str x.1,.str x.2.1,.int (x.2.2:Int)]
noncomputable def j5 (x0 x3 x4 x5 x6 x7:Option V):Locals:=[x0,some (.ref 2),some (.ref 5),x3,x4,x5,x6,x7,none,none,none]
theorem wy {C:Calls} {J:ag} {e:E} {ss:Ss} {a:Nat} {xs ys:List V} {x0 x3:Option V} (hx:aj J O) (hb:J.length≤a) (g:O[a]?=some (.list xs)) (he:∀{s:ag},ev C fu e (j5 x0 x3 (some (.ref a)) none none none) s= .ok (.ref s.length) (s++[Cell.list ys])) (hl:xs.length+ys.length≤1000)
    (k:∀af,aj J af→af[a]?=some (.list (xs++ys))→Wq (ah C fu ss (j5 x0 x3 (some (.ref a)) none none none) af) R X):Wq (ah C fu (.cons (.gJ 4 .add e) ss) (j5 x0 x3 (some (.ref a)) none none none) O) R X:=
 have y:=(aj.refl (O:=O)).push (d:= .list ys)
 have ga:=y.get g
 yG rfl he (KD ga bH (Nat.ne_of_lt (dD g)) (adj hl (dh▸by decide))) rfl (k _ ((hx.trans y).set hb) (cW ga))
theorem QO {a b:Nat}:co .ge O (.int (a:Int)) (.int (b:Int))=some (.bool (decide (b≤a))):=congrArg (λb=>some (V.bool b)) (decide_eq_decide.2 Int.ofNat_le)
theorem Me:∀x∈kr,kD 40 x.1=true:=List.all_eq_true.1 (by decide +kernel)
theorem QJ {x:FR} (h:f5 W x=[]):mx W x={W with text:=W.text++x.1}:=by unfold mx;rw [if_pos h]
theorem PA {x:FR} (h:f5 W x≠[]):mx W x={W with text:=W.text++x.1,fault:=some (f5 W x,W.text.length+x.2.2)}:=by unfold mx;rw [if_neg h]
theorem WR {C:Calls} {x:FR} {x0 x3 x4:Option V} (h:aZ O W) (ht:W.text.length≤100000) (hx:x∈kr) (H:∀s,aZ s (mx W x)→Up O s→R .next (j5 x0 x3 x4 (some (.str x.1)) (some (.str (f5 W x))) (some (.int (x.2.2:Int)))) s):
  Wq (ah C fu (bf 7 Aq) (j5 x0 x3 x4 (some (.str x.1)) (some (.str (f5 W x))) (some (.int (x.2.2:Int)))) O) R X:=
 have tl:(W.text++x.1).length≤aq:=List.length_append (as:=W.text)▸adj (Nat.add_le_add ht (kE (Me x hx)).1) (dh▸by decide)
 fG (aO rfl rfl oB) (λq=>uD (W':={W with fault:=some (f5 W x,W.text.length+x.2.2)}) h rfl (mZ (aJ rfl (aJ (bG (fb (aJ (bj rfl rfl (eS h.w rfl)) rfl) qo) rfl zv) rfl))) rfl rfl rfl λs1 e1 h1=>
   n1 (uK (W':={W with text:=W.text++x.1,fault:=some (f5 W x,W.text.length+x.2.2)}) h1 rfl rfl rfl (tn tl) rfl rfl rfl λs2 e2 h2=>bz (H s2 (PA (λe=>by rw [decide_eq_true e] at q;exact nomatch q)▸h2) (rX (e1.trans e2)))))
  λq=>n1 (uK (W':={W with text:=W.text++x.1}) h rfl rfl rfl (tn tl) rfl rfl rfl λs2 e2 h2=>bz (H s2 (QJ (adn (zo q))▸h2) (rX e2)))
theorem YM {x0 x3:Option V} (h:aZ O W) (ht:W.text.length≤100000) (H:∀(x:FR) s x4 x5 x6 x7,x∈kr→aZ s (mx W x)→Up O s→R .next (j5 x0 x3 x4 x5 x6 x7) s):Wq (ah (ay aw fu (n+1)) fu Aq (j5 x0 x3 none none none none) O) R X:=by
 have ne:O.length≠2:=Nat.ne_of_gt (adk (by decide) h.l)
 refine aV rfl (wy (ys:=((kr.drop 3).take 3).map pK) ((aj.refl (O:=O)).push (d:= .list ((kr.take 3).map pK))) (adp _) bH rfl (by decide) λs1 y1 g1=>wy (ys:=((kr.drop 6).take 3).map pK) y1 (adp _) g1 rfl (by decide) λs2 y2 g2=>wy (ys:=((kr.drop 9).take 2).map pK) y2 (adp _) g2 rfl (by decide) λs3 y3 g3=>wy (ys:=((kr.drop 11).take 2).map pK) y3 (adp _) g3 rfl (by decide) λs4 y4 g4=>?_)
 have g4:s4[O.length]?=some (.list (kr.map pK)):=g4
 have h4:=h.ext y4
 refine pW (lc (aS rfl (J1 (eu (aS rfl (eO (b:=2) (Nat.succ_pos n) (by decide) (by decide) h4.p λr1 s5 Mw vV e5=>eu (aS rfl (eO (b:=13) (Nat.succ_pos n) (by decide) (by decide) vV λr2 s6 kx P4 e6=>bZ (A7 ⟨Int.lt_of_lt_of_le (by decide) (Int.natCast_nonneg r1),Int.lt_trans (Int.ofNat_lt.2 Mw) (by decide)⟩ ⟨Int.lt_of_lt_of_le (by decide) (Int.natCast_nonneg r2),Int.lt_trans (Int.ofNat_lt.2 kx) (by decide)⟩) ?_))))))))
 refine (tQ (f:=pK) (xs:=kr) (r:=r1*r2) (adl (Nat.mul_le_mul_right r2 (Nat.le_of_lt_succ Mw)) ((Nat.one_mul r2).symm▸kx))).elim λx hx=>?_
 rw [←Int.natCast_mul]
 have h6:=(h4.fY vV e5).fY P4 e6
 have u6:=y4.up.trans ((jo e5).trans (jo e6))
 have fin:∀{x4},Wq (ah (ay aw fu (n+1)) fu (bf 7 Aq) (j5 x0 x3 x4 (some (.str x.1)) (some (.str (f5 W x))) (some (.int (x.2.2:Int)))) s6) R X:=WR h6 ht hx.1 λs h' u=>H x s _ _ _ _ hx.1 h' (u6.trans u)
 refine bZ (eD (e6.get (e5.get g4 ne) ne) hx.2) ⟨rfl,bZ rfl (eJ (p:=HT W x) ((kj (fJ (aO rfl rfl (j7 (b:=15))) (fJ (aO rfl rfl oR) (fy (aO (bj rfl rfl (eS h6.w rfl)) rfl (QO (b:=1000))))))).trans (congrArg (λb=>Out.ok (V.bool b) s6) (by rw [Bool.decide_and,Bool.decide_and];rfl))) (λq=>aV rfl (n1 ?_)) λq=>n1 ?_)⟩
 ·have f:=fin (x4:=some (.ref O.length))
  rw [show f5 W x=kQ from if_pos q] at f
  exact f
 ·have f:=fin (x4:=some (.ref O.length))
  rw [show f5 W x=x.2.1 from if_neg q] at f
  exact f
theorem jM.up {af:ag} {v:V} {M:bw} (h:jM O v M) (u:Up O af) (ho:∀od,v= .ref od→6≤od):jM af v M:=h.imp_right λ⟨od,h1,h2,h3⟩=>⟨od,h1,u.get h2 (ho od h1),h3⟩
theorem JY {vs:List V} {M:iR} {dv:V} (hf:aq+100<fu) (h:aZ O ⟨[],[],M,true,none,[],24,0⟩) (ho:jM O dv (dc M)) (hM:gF M) (hl:M.length≤5) (eX:∀od,dv= .ref od→6≤od):Wq (ah (ay aw fu (n+46)) fu (bf 4 jz) (j5 (some (.frozen vs)) (some dv) none none none none) O) RT (λ_ _=>False):=by
 refine j8 rfl (Mb (n:=n+15) (M0:=dc M) hf 3 0 rfl O _ 300 [] _ _ h ⟨by show 0+300*24+300≤7500;decide,by show 0+300*24+300≤7500+40*0;decide,adj hl (Nat.le_add_left 5 _),adp _,Nat.zero_le _,hM,pj,λy hy=>nomatch hy⟩ ⟨rfl,Nat.zero_le _,λac=>St.nil⟩ λs4 W4 h4 F4 T4 u4=>?_)
 have b4:=F4.slim
 have tail:∀{W:LW} {s:ag} {x4 x5 x6 x7:Option V},aZ s W→bT (dc M) W []∨kn (dc M) W→ba W.text→W.text.length≤200000→W.dQ=W4.dQ→W.bV=W4.bV→Up s4 s→Wq (ah (ay aw fu (n+46)) fu (bf 6 jz) (j5 (some (.frozen vs)) (some dv) x4 x5 x6 x7) s) RT (λ_ _=>False):=λh T ha hl hd hn u=>
  YS hf h T ha hl (hd▸adj b4.2 (dh▸by decide)) (hn▸F4.nw) (ho.up (u4.trans u) eX)
 refine T4.elim (λl=>cN ((aO (bj rfl rfl (eS h4.w rfl)) rfl vS).trans (by rw [l.1.f];rfl)) (YM h4 (adj b4.1 (by decide)) λx s x4 x5 x6 x7 hx h5 u5=> .next ?_)) λD=>fH ((aO (bj rfl rfl (eS h4.w rfl)) rfl vS).trans (by rw [D.some.1])) (n1 (tail h4 (.inr D) F4.a (adj b4.1 (by decide)) rfl rfl .refl))
 have q:=kE (Me x hx)
 exact tail h5 (Xn l.1 hx l.2 F4.g) (F4.a.append q.2) (List.length_append (as:=W4.text)▸adj (Nat.add_le_add b4.1 q.1) (by decide)) rfl rfl u5
noncomputable def Nr:iR:=[(nB,[.a (.txt [55]),.a (.use nC)])]
theorem PN:gF Nr:=List.forall_mem_cons.2 ⟨⟨.tail _ (.head _),by decide,List.forall_mem_cons.2 ⟨show [55]∈my by decide,List.forall_mem_cons.2 ⟨show nC∈jb by decide,λ_ h=>nomatch h⟩⟩⟩,λ_ h=>nomatch h⟩
theorem Qm {P:ag→Prop} (h:∀a b c,P [a,b,c]):∀{s:ag},s.length=3→P s
 |[a,b,c],_=>h a b c
theorem UE {vs:List V} (hf:aq+100<fu) (hv:oE vs):Wq (ah (ay aw fu (n+46)) fu jz (j5 (some (.frozen vs)) none none none none none |>.set 1 none |>.set 2 none) []) RT (λ_ _=>False):=
 nV rfl (RD hf hv λae hP hl=>Qm (P:=λae=>dA ae→Wq (ah (ay aw fu (n+46)) fu (bf 1 jz) _ ae) RT _) (λa b c hP=>by
  have w:aZ [a,b,c,.dict [],.list [],wC ⟨[],[],[],true,none,[],24,0⟩] ⟨[],[],[],true,none,[],24,0⟩:=⟨rfl,⟨[],rfl,.nil⟩,rfl,hP.ext (((aj.refl.push (d:= .dict [])).push (d:= .list [])).push (d:=wC ⟨[],[],[],true,none,[],24,0⟩)),adp 6⟩
  refine aV (v:= .ref 5) (ae:=[a,b,c,.dict [],.list [],wC ⟨[],[],[],true,none,[],24,0⟩]) ?_ ?_
  ·exact DO (ks:=[Jm,L9,C2,Dh,uN,I4,DX,AV]) (vs:=[.str [],.str [],.ref 3,.bool true,.none,.ref 4,.int 24,.int 0]) (ae:=[a,b,c,.dict [],.list []]) rfl ⟨rfl,by decide⟩
  generalize [a,b,c,Cell.dict [],.list [],wC ⟨[],[],[],true,none,[],24,0⟩]=az at w ⊢
  refine aV rfl (mE (xG (eu (aS rfl (eO (b:=3) (Nat.succ_pos _) (by decide) (by decide) w.p λr s3 _ kH e3=>aS rfl (bZ n8 (.mk (rT (λ_=>?_) λ_=>n1 (JY hf (w.fY kH e3) (.inl ⟨rfl,rfl⟩) (λ_ h=>nomatch h) (Nat.zero_le _) λ_ h=>nomatch h)))))))))
  have w3:=w.fY kH e3
  have x1:=(aj.refl (O:=s3)).push (d:= .dict [(kB,.str iU)])
  refine aV (ae:=s3++[.dict [(kB,.str iU)]]) (v:= .ref s3.length) (DO (ks:=[kB]) (vs:=[.str iU]) (ae:=s3) rfl ⟨rfl,by decide⟩) ?_
  have g1:(s3++[Cell.dict [(kB,.str iU)]])[s3.length]?=some (.dict [(kB,.str iU)]):=bH
  have w4:=w3.ext x1
  generalize s3++[Cell.dict [(kB,.str iU)]]=s4 at g1 w4 ⊢
  have x2:=(aj.refl (O:=s4)).push (d:= .list [])
  have x3:=(aj.refl (O:=s4++[.list []])).push (d:= .list [V.tup [.str qN,.str [55]],.tup [.str lS,.str nC,.ref s4.length]])
  have w5:=w4.ext (x2.trans x3)
  exact w5.m.elim λes m=>by
   have hM:kI (s4++[.list []]++[.list [V.tup [.str qN,.str [55]],.tup [.str lS,.str nC,.ref s4.length]]]) (.ref (s4++[Cell.list []]).length) [.a (.txt [55]),.a (.use nC)]:=
    ⟨_,_,rfl,adj w4.l x2.1,bH,.cons (.a _ _ (.txt _)) (.cons (.a _ _ (.use nC s4.length w4.l (x3.get bH))) .nil)⟩
   have w6:=w5.rS (nm:=nB) m.1 m.2 hM
   exact oG rfl (bj rfl rfl (eS w5.w rfl)) rfl (tK m.1 (by rw [m.2.length];decide)) (n1 (JY (M:=Nr) hf w6.1 (.inr ⟨s3.length,rfl,w6.2.get ((x2.trans x3).get g1) w3.l,rfl⟩) PN (by decide) λod e=>by cases e;exact w3.l))) hl hP)
end
end Mine.Q
namespace Mine
open PySem PySem.W PyProof.Rows PySem.Calls
noncomputable def fragOf (n:Nat) (h:Heap):Frag:=(List.range n).filterMap λa=>(h.get? a).map λo=>(a,o)
theorem E7 {a:Addr} {o:Obj}:∀{l:List (Addr×Obj)},l.lookup a=some o→(a,o)∈l
 |[],h=>nomatch h
 |(b,x)::l,h=>by
  rw [List.lookup_cons] at h
  cases q:a==b with
  |true=>rw [q] at h;cases h;rw [beq_iff_eq.1 q];exact .head _
  |false=>rw [q] at h;exact .tail _ (E7 h)
theorem Pf (n:Nat) (h:Heap):(fragOf n h).In h:=λa o e=>by
 obtain ⟨b,_,q⟩:=List.mem_filterMap.1 (show (a,o)∈fragOf n h from E7 e)
 obtain ⟨o',g,q⟩:=Option.map_eq_some_iff.1 q
 cases q
 exact g
noncomputable def CN (v:Option (Option Value)):Option Int:=v.bind λv=>v.bind λv=>match v with
 | .int i _=>some i
 |_=>none
theorem M7 {v:Option (Option Value)} {i:Int} (h:CN v=some i):∃t,v=some (some (.int i t)):=by
 obtain ⟨x,e1,h⟩:=Option.bind_eq_some_iff.1 h
 obtain ⟨y,e2,h⟩:=Option.bind_eq_some_iff.1 h
 subst e2
 subst e1
 cases y<;>cases h
 exact ⟨_,rfl⟩
noncomputable def fdOf (K:Frag) (a:Addr):Option FuncData:=(K.lookup a).bind λo=>match o.data with
 | .func fd=>some fd
 |_=>none
theorem RY {K:Frag} {a:Addr} {fd:FuncData} (h:fdOf K a=some fd):∃o,K.lookup a=some o∧o.data= .func fd:=by
 obtain ⟨o,e,h⟩:=Option.bind_eq_some_iff.1 h
 refine ⟨o,e,?_⟩
 cases q:o.data<;>rw [q] at h<;>cases h
 rfl
noncomputable def lh (K:Frag) (a:Addr) (ws:List Value):Sem (List (Str×Value)):=match fdOf K a with
 |some fd=>bindArgs fd ⟨ws,[]⟩
 |none=>pure []
noncomputable def lb (f:Nat):Nat:=(gV[f]?.map (·.np)).getD 0
noncomputable def mL (f:Nat):List Str:=(ID.getD f []).map Str.ofString
noncomputable def wL (fd:FuncData):List Stmt:=match fd.body with
 | .stmts b=>b
 |_=>[]
noncomputable def Bq (fd:FuncData):Bool:=match fd.body with
 | .stmts _=>true
 |_=>false
theorem Sl {fd:FuncData} (h:Bq fd=true):fd.body= .stmts (wL fd):=by
 unfold Bq at h
 unfold wL
 cases q:fd.body<;>rw [q] at h<;>first |rfl |cases h
noncomputable def J0 (K:Frag) (gl bl:Addr) (f:Nat) (F:Fn) (fd:FuncData):Bool:=
  (decide (fd.scope.kind= .function)&&(!fd.scope.isGenerator&&(!fd.scope.isCoroutine&&(decide (fd.globals=gl)&&(decide (fd.builtins=bl)&&fd.closure.isEmpty)))))&&
    ((Bq fd&&ez fd.scope (mL f) F.body (wL fd))&&(codeIn K fd.code fd.qualname&&(decide ((mL f).length=F.nl)&&(decide (mL f).Nodup&&(decide (F.np≤F.nl)&&
    ((mL f).take F.np).all λx=>decide (fd.scope.names.lookup x=some .local)||decide (fd.scope.names.lookup x=some .cell))))))
noncomputable def LB (K:Frag) (gl bl:Addr) (f:Nat):Bool:=iH (fdOf K (bQ f)) λfd=>iH gV[f]? λF=>J0 K gl bl f F fd
noncomputable def zr:List Nat:=(List.range 39).filter λf=>f !=14
noncomputable def Ec (n:Nat):List Nat:=zr.filter λf=>lb f==n
noncomputable def DJ:List Nat:=(List.range 39).filter λf=>kZ.getD f ""!=""
noncomputable def Em:List cj:=[.macro,.table,.eA]
noncomputable def allB:List Bi:=[.len,.min,.max,.int,.abs,.sorted]
noncomputable def tA (K:Frag):=(DJ.map λf=>nsIn K mainGlobals (Str.ofString (kZ.getD f "")),allB.map λb=>nsIn K mainGlobals (Str.ofString (pv b)),nsIn K mainGlobals (Str.ofString "range"),nsIn K mainGlobals (Str.ofString "SourceError"),
 CN (nsIn K mainGlobals (Str.ofString "MOST_DEPTH")),CN (nsIn K mainGlobals (Str.ofString "MOST_USES")))
noncomputable def wZ:List (Option (Option Value))×List (Option (Option Value))×Option (Option Value)×Option (Option Value)×Option Int×Option Int:=
  (DJ.map λf=>some (some (.ref (bQ f))),allB.map λ_=>some none,some none,some (some (.ref bA)),some 20,some 1000)
noncomputable def LL (K:Frag) (c:cj):=(nsIn K mainGlobals (Str.ofString (uP c)),findIn K (.ref (cB c)) "__getattribute__",findIn K (.ref (cB c)) "__getattr__",findIn K (.ref (cB c)) "__setattr__",hasDictIn K (cB c),plainOver K (cB c),
  (List.range 14).map λf=>findIn K (.ref (cB c)) (aB f),(List.range 9).map λm=>(gb c m).map λ_=>findIn K (.ref (cB c)) (nM m),keepIn K (.ref (cB c)),makesIn K (cB c),findIn K (.ref (cB c)) "__init__")
noncomputable def tS (K:Frag):=Em.map (LL K)
noncomputable def Je (c:cj):(Option (Option Value)×Option (Option Value)×Option (Option Value)×Option (Option Value)×Bool×Bool×List (Option (Option Value))×List (Option (Option (Option Value)))×Bool×Bool×Option (Option Value)):=
  (some (some (.ref (cB c))),some (some (.builtin "object.__getattribute__")),some none,some (some (.builtin "object.__setattr__")),true,true,
  (List.range 14).map λ_=>some none,(List.range 9).map λm=>(gb c m).map λf=>some (some (.ref (bQ f))),true,true,some (some (.ref (bQ (nL c)))))
noncomputable def xi:=Em.map Je
noncomputable def tg (K:Frag):=((List.range 39).map λf=>typeIn K (.ref (bQ f)),(List.range 39).map λf=>keepIn K (.ref (bQ f)),(clsIn K bA).map λcd=>(cd.mro,cd.hasDict),findIn K (.ref bA) "__setattr__",
 [11,12,13].map λf=>findIn K (.ref bA) (aB f),findIn K (.ref bA) "__init__",typeIn K (.ref 29),keepIn K (.ref bA),findIn K (.ref bA) "__getattribute__",findIn K (.ref bA) "__getattr__",hasDictIn K bA,K.lookup bA)
noncomputable def Ko:Obj:=excClassObj (Str.ofString "SourceError") (Str.ofString "SourceError") bA 44 [.ref 32] xI true [] [] false none none (some (.ref 36)) none (some (.str (Str.ofString "SourceError") 225)) (some (.str (Str.ofString "SourceError") 233)) (some (.bool true)) "Exception.__new__"
noncomputable def xq:List (Option Value)×List Bool×Option (List Value×Bool)×Option (Option Value)×List (Option (Option Value))×Option (Option Value)×Option Value×Bool×Option (Option Value)×Option (Option Value)×Bool×Option Obj:=
  ((List.range 39).map λ_=>some (.type "function"),(List.range 39).map λ_=>true,some (uT,true),some (some (.builtin "object.__setattr__")),[11,12,13].map λ_=>some none,some (some (.ref 29)),some (.type "function"),true,
 some (some (.builtin "BaseException.__getattribute__")),some none,true,some Ko)
noncomputable def E6 (K:Frag):Bool:=iH (fdOf K 29) λfd=>decide (fd.scope.kind= .function)&&(!fd.scope.isGenerator&&(!fd.scope.isCoroutine&&(codeIn K fd.code fd.qualname&&((fd.scope.names.all λx=>decide (x.2≠ .cell))&&(decide (fd.scope.names.lookup eF=some .local)&&
  [11,12,13].all λf=>decide (fd.scope.names.lookup (aB f)=some .local))))))
noncomputable def tC (K:Frag):=(zr.all λf=>LB K mainGlobals builtinsNs f,E6 K,(fdOf K 29).map (·.body),(K.lookup sysModules).isSome,(fdOf K (bQ 38)).map λfd=>fd.scope.names.all λx=>decide (x.2≠ .cell))
noncomputable def xg:Bool×Bool×Option FuncBody×Bool×Option Bool:=(true,true,some (.stmts [kg (aB 11) (aB 11) ⟨5,8,5,12⟩ ⟨5,8,5,17⟩ ⟨5,20,5,24⟩ ⟨5,8,5,24⟩,kg (aB 12) (aB 12) ⟨6,8,6,12⟩ ⟨6,8,6,15⟩ ⟨6,18,6,20⟩ ⟨6,8,6,20⟩,kg (aB 13) (aB 13) ⟨7,8,7,12⟩ ⟨7,8,7,19⟩ ⟨7,22,7,28⟩ ⟨7,8,7,28⟩]),true,some true)
abbrev Bd:=Setting→List Value→List (Option (List (Str×Value)))
noncomputable def lB (K:Frag) (n:Nat):Bd:=λS ws=>(Ec n).map λf=>peek K S (lh K (bQ f) ws)
noncomputable def rB (n:Nat):Bd:=λ_ ws=>(Ec n).map λf=>some (((mL f).take (lb f)).zip ws)
abbrev B6:=Setting→Value→Value→Value→Value→Value→Value→List (List (Option (List (Str×Value))))
noncomputable def qW (K:Frag):B6:=λS a b c d e f=>[lB K 0 S [],lB K 1 S [a],lB K 2 S [a,b],lB K 3 S [a,b,c],lB K 4 S [a,b,c,d],lB K 5 S [a,b,c,d,e],lB K 6 S [a,b,c,d,e,f],
 [peek K S (lh K 29 [a,b,c]),peek K S (lh K 29 [a,b,c,d])]]
noncomputable def uw (t:Tok):B6:=λS a b c d e f=>[rB 0 S [],rB 1 S [a],rB 2 S [a,b],rB 3 S [a,b,c],rB 4 S [a,b,c,d],rB 5 S [a,b,c,d,e],rB 6 S [a,b,c,d,e,f],
 [some [(eF,a),(aB 11,b),(aB 12,c),(aB 13,.str ⟨#[]⟩ t)],some [(eF,a),(aB 11,b),(aB 12,c),(aB 13,d)]]]
theorem mF {α β:Type} {f g:α→β} {l:List α} (h:l.map f=l.map g) {a:α} (m:a∈l):f a=g a:=List.map_inj_left.1 h a m
theorem aa1:∀c:cj,c∈Em
 | .macro=> .head _
 | .table=> .tail _ (.head _)
 | .eA=> .tail _ (.tail _ (.head _))
theorem Po (b:Bi):b∈allB:=by cases b<;>simp [allB]
structure Fa (K:Frag):Prop where
 e1:tA K=wZ
 e2:tS K=xi
 e3:tg K=xq
 e4:tC K=xg
 e5:qW K=uw 203
section
variable {K:Frag} (z:Fa K)
include z
theorem Gk {f:Nat} {s:String} (h:kZ[f]?=some s) (hs:s≠""):nsIn K mainGlobals (Str.ofString s)=some (some (.ref (bQ f))):=by
 have e:kZ.getD f ""=s:=by rw [List.getD_eq_getElem?_getD,h];rfl
 have hf:f<39:=(List.getElem?_eq_some_iff.1 h).1
 have:=mF (f:=λf=>nsIn K mainGlobals (Str.ofString (kZ.getD f ""))) (g:=λf=>some (some (.ref (bQ f)))) (l:=DJ) (congrArg Prod.fst z.e1) (a:=f) (List.mem_filter.2 ⟨List.mem_range.2 hf,by rw [e];simpa using hs⟩)
 rw [e] at this
 exact this
theorem Xe (b:Bi):nsIn K mainGlobals (Str.ofString (pv b))=some none:=mF (f:=λb=>nsIn K mainGlobals (Str.ofString (pv b))) (g:=λ_=>some none) (congrArg (λx=>x.2.1) z.e1) (Po b)
theorem Wd:nsIn K mainGlobals (Str.ofString "range")=some none:=congrArg (λx=>x.2.2.1) z.e1
theorem OX:nsIn K mainGlobals (Str.ofString "SourceError")=some (some (.ref bA)):=congrArg (λx=>x.2.2.2.1) z.e1
theorem YC:∃t,nsIn K mainGlobals (Str.ofString "MOST_DEPTH")=some (some (.int 20 t)):=M7 (congrArg (λx=>x.2.2.2.2.1) z.e1)
theorem OT:∃t,nsIn K mainGlobals (Str.ofString "MOST_USES")=some (some (.int 1000 t)):=M7 (congrArg (λx=>x.2.2.2.2.2) z.e1)
theorem kC (c:cj):LL K c=Je c:=mF z.e2 (aa1 c)
theorem Zj (f:Nat) (h:f<39):typeIn K (.ref (bQ f))=some (.type "function"):=mF (f:=λf=>typeIn K (.ref (bQ f))) (g:=λ_=>some (.type "function")) (congrArg Prod.fst z.e3) (List.mem_range.2 h)
theorem NL (f:Nat) (h:f<39):keepIn K (.ref (bQ f))=true:=mF (f:=λf=>keepIn K (.ref (bQ f))) (g:=λ_=>true) (congrArg (λx=>x.2.1) z.e3) (List.mem_range.2 h)
theorem aav:KF K where
 ga:=λc=>congrArg (λx=>x.2.1) (kC z c)
 Nf:=λc=>congrArg (λx=>x.2.2.1) (kC z c)
 sa:=λc=>congrArg (λx=>x.2.2.2.1) (kC z c)
 hd:=λc=>congrArg (λx=>x.2.2.2.2.1) (kC z c)
 po:=λc=>congrArg (λx=>x.2.2.2.2.2.1) (kC z c)
 fld:=λc f hf=>mF (f:=λf=>findIn K (.ref (cB c)) (aB f)) (g:=λ_=>some none) (congrArg (λx=>x.2.2.2.2.2.2.1) (kC z c)) (List.mem_range.2 hf)
 GO:=λc m f h=>by
  have:=mF (f:=λm=>(gb c m).map λ_=>findIn K (.ref (cB c)) (nM m)) (g:=λm=>(gb c m).map λf=>some (some (.ref (bQ f)))) (congrArg (λx=>x.2.2.2.2.2.2.2.1) (kC z c)) (List.mem_range.2 (zU h).2)
  rw [h] at this
  exact Option.some.inj this
 Na:=by decide +kernel
 isFn:=Zj z
 kp:=NL z
 kc:=λc=>congrArg (λx=>x.2.2.2.2.2.2.2.2.1) (kC z c)
 Kw:=λc=>congrArg (λx=>x.2.2.2.2.2.2.2.2.2.1) (kC z c)
 init:=λc=>congrArg (λx=>x.2.2.2.2.2.2.2.2.2.2) (kC z c)
theorem SV:EK K where
 cd:=by
  obtain ⟨cd,e,q⟩:=Option.map_eq_some_iff.1 (congrArg (λx=>x.2.2.1) z.e3)
  exact ⟨cd,e,congrArg Prod.fst q,congrArg Prod.snd q⟩
 sa:=congrArg (λx=>x.2.2.2.1) z.e3
 AU:=λf h1 h2=>mF (f:=λf=>findIn K (.ref bA) (aB f)) (g:=λ_=>some none) (l:=[11,12,13]) (congrArg (λx=>x.2.2.2.2.1) z.e3) (by
  rcases (show f=11∨f=12∨f=13 by omega) with rfl |rfl |rfl<;>simp)
 init:=congrArg (λx=>x.2.2.2.2.2.1) z.e3
 isFn:=congrArg (λx=>x.2.2.2.2.2.2.1) z.e3
 kp:=congrArg (λx=>x.2.2.2.2.2.2.2.1) z.e3
theorem Ug:EA K:=⟨congrArg (λx=>x.2.2.2.2.2.2.2.2.1) z.e3,congrArg (λx=>x.2.2.2.2.2.2.2.2.2.1) z.e3,congrArg (λx=>x.2.2.2.2.2.2.2.2.2.2.1) z.e3⟩
theorem XY:K.lookup bA=some Ko:=congrArg (λx=>x.2.2.2.2.2.2.2.2.2.2.2) z.e3
theorem Yg (S:Setting) {f:Nat} (og:f≠14) (hf:f<39):∀ws:List Value,ws.length=lb f→peek K S (lh K (bQ f) ws)=some (((mL f).take (lb f)).zip ws):=by
 have hm:f∈zr:=List.mem_filter.2 ⟨List.mem_range.2 hf,by simpa using og⟩
 have pT:∀{n:Nat} {ws:List Value},lB K n S ws=rB n S ws→n=lb f→peek K S (lh K (bQ f) ws)=some (((mL f).take (lb f)).zip ws):=λ{n ws} h e=>mF (f:=λf=>peek K S (lh K (bQ f) ws)) (g:=λf=>some (((mL f).take (lb f)).zip ws)) (l:=Ec n) h (List.mem_filter.2 ⟨hm,by simp [e]⟩)
 have aQ:∀a b c d e f,_:=λa b c d e f=>congrFun (congrFun (congrFun (congrFun (congrFun (congrFun (congrFun z.e5 S) a) b) c) d) e) f
 have lz:∀(i:Nat) (a b c d e f:Value),(qW K S a b c d e f)[i]?=(uw 203 S a b c d e f)[i]?:=λi a b c d e f=>congrArg (λl:List _=>l[i]?) (aQ a b c d e f)
 intro ws hl
 match ws,hl with
 |[],hl=>exact pT (Option.some.inj (lz 0 .none .none .none .none .none .none)) hl
 |[a],hl=>exact pT (Option.some.inj (lz 1 a .none .none .none .none .none)) hl
 |[a,b],hl=>exact pT (Option.some.inj (lz 2 a b .none .none .none .none)) hl
 |[a,b,c],hl=>exact pT (Option.some.inj (lz 3 a b c .none .none .none)) hl
 |[a,b,c,d],hl=>exact pT (Option.some.inj (lz 4 a b c d .none .none)) hl
 |[a,b,c,d,e],hl=>exact pT (Option.some.inj (lz 5 a b c d e .none)) hl
 |[a,b,c,d,e,f],hl=>exact pT (Option.some.inj (lz 6 a b c d e f)) hl
 |_::_::_::_::_::_::_::ws,hl=>
  have:∀f∈List.range 39,lb f<7:=by decide +kernel
  have:=this f (List.mem_range.2 hf)
  rw [←hl] at this
  exact absurd this (by simp)
end
section
variable {P:Params} {K:Frag} {h:Heap} {gl bl:Addr}
theorem Cf {fd:FuncData} {a:Addr} (X:K.In h) (e:fdOf K a=some fd):∃o,h.get? a=some o∧o.data= .func fd:=
 let ⟨o,q,d⟩:=RY e
 ⟨o,X _ _ q,d⟩
theorem yj {α:Type} {o:Option α} {f:α→Bool} (h:iH o f=true):∃x,o=some x∧f x=true:=by
 cases o with
 |none=>cases h
 |some x=>exact ⟨x,rfl,h⟩
theorem Lc (X:K.In h) (z:Fa K) {f:Nat} {F:Fn} (og:f≠14) (hf:f<39) (hF:gV[f]?=some F):oT h mainGlobals builtinsNs f F:=by
 have hc:LB K mainGlobals builtinsNs f=true:=List.all_eq_true.1 (congrArg Prod.fst z.e4) f (List.mem_filter.2 ⟨List.mem_range.2 hf,by simpa using og⟩)
 obtain ⟨fd,e,hc⟩:=yj hc
 obtain ⟨F',e',hc⟩:=yj hc
 cases hF.symm.trans e'
 unfold J0 at hc
 simp only [Bool.and_eq_true,decide_eq_true_eq,Bool.not_eq_true'] at hc
 obtain ⟨⟨c1,c2,c3,c4,c5,c6⟩,⟨c7,OW⟩,c8,c9,Qa,OI,PF⟩:=hc
 obtain ⟨o,ho,hd⟩:=Cf X e
 have pk:lb f=F.np:=by unfold lb;rw [hF];rfl
 refine ⟨o,fd,wL fd,mL f,ho,hd,c1,c2,c3,c4,c5,List.isEmpty_iff.1 c6,Sl c7,codeRec_of X c8,OW,c9,Qa,OI,λx hx=>?_,λs ws st hl=>?_⟩
 ·have:=List.all_eq_true.1 PF x hx
  simpa only [Bool.or_eq_true,decide_eq_true_eq] using this
 ·have aQ:lh K (bQ f) ws=bindArgs fd ⟨ws,[]⟩:=by unfold lh;rw [e]
  intro M A E Q hq
  exact (Looks.of_peek (M:=M) (X.keeps st) (aQ▸pk▸Yg z _ og hf ws (hl.trans pk.symm))).here hq
theorem Of (X:K.In h) (z:Fa K):Nq h:=by
 obtain ⟨fd,e,hc⟩:=yj (show E6 K=true from congrArg (λx=>x.2.1) z.e4)
 obtain ⟨Z8,e',hb⟩:=Option.map_eq_some_iff.1 (congrArg (λx=>x.2.2.1) z.e4)
 cases e.symm.trans e'
 simp only [Bool.and_eq_true,decide_eq_true_eq,Bool.not_eq_true'] at hc
 obtain ⟨c1,c2,c3,c4,c5,c6,c7⟩:=hc
 obtain ⟨o,ho,hd⟩:=Cf X e
 have aQ:∀ws,lh K 29 ws=bindArgs fd ⟨ws,[]⟩:=λws=>by unfold lh;rw [e]
 have lz:∀(S:Setting) (a b c d:Value),_:=λS a b c d=>Option.some.inj (congrArg (λl:List (List (Option (List (Str×Value))))=>l[7]?) (congrFun (congrFun (congrFun (congrFun (congrFun (congrFun (congrFun z.e5 S) a) b) c) d) .none) .none))
 refine ⟨o,fd,_,_,_,_,_,_,_,_,_,_,_,_,ho,hd,c1,c2,c3,hb,codeRec_of X c4,λx hx=>by simpa using List.all_eq_true.1 c5 x hx,c6,λf h1 h2=>?_,λs x k a st=>⟨203,λM A E Q hq=>?_⟩,λs x k a d st M A E Q hq=>?_⟩
 ·exact adn (List.all_eq_true.1 c7 f (by rcases (show f=11∨f=12∨f=13 by omega) with rfl |rfl |rfl<;>simp))
 ·exact (Looks.of_peek (M:=M) (X.keeps st) (aQ _▸(List.cons.inj (lz ⟨M.prog,M.w.params⟩ x k a .none)).1)).here hq
 ·exact (Looks.of_peek (M:=M) (X.keeps st) (aQ _▸(List.cons.inj (List.cons.inj (lz ⟨M.prog,M.w.params⟩ x k a d)).2).1)).here hq
theorem OV (X:K.In h) (z:Fa K):hJ h K:=⟨SV z,Of X z,_,_,_,_,_,_,_,_,_,_,_,_,_,_,_,X _ _ (XY z)⟩
theorem tM {U:Program} {w:World} {mg:Str→Option Value} {x:Str} {v:Value} (X:K.In h) (G:h.Ns mainGlobals mg) (e:nsIn K mainGlobals x=some (some v)):GL U w h mainGlobals builtinsNs x v:=by
 intro aa s A Q E hg hb st hq
 exact loadGlobal_global (hg▸G.keeps st) (mg_of X G e) hq
theorem Hj {U:Program} {w:World} {mg mb:Str→Option Value} {x:Str} {v:Value} (X:K.In h) (G:h.Ns mainGlobals mg) (B:h.Ns builtinsNs mb) (hB:∀x:Str,x≠"__name__"→mb x=bootBuiltins x) (e:nsIn K mainGlobals x=some none) (hx:x≠"__name__") (hv:bootBuiltins x=some v):GL U w h mainGlobals builtinsNs x v:=by
 intro aa s A Q E hg hb st hq
 exact loadGlobal_builtin (hg▸G.keeps st) (mg_none_of X G e) (hb▸B.keeps st) ((hB x hx).trans hv) hq
theorem HY {l:List String} {i:Nat} {x:Str} (h:gH l i x=true):∃s,l[i]?=some s∧x=Str.ofString s∧s≠"":=by
 obtain ⟨s,e,h⟩:=yj h
 simp only [Bool.and_eq_true,beq_iff_eq,bne_iff_ne] at h
 exact ⟨s,e,h.1,h.2⟩
theorem OC {U:Program} {w:World} {mg mb:Str→Option Value} (X:K.In h) (z:Fa K) (G:h.Ns mainGlobals mg) (B:h.Ns builtinsNs mb) (hB:∀x:Str,x≠"__name__"→mb x=bootBuiltins x):ES U w h mainGlobals builtinsNs where
 fn:=λf x hx=>let ⟨s,e,q,hs⟩:=HY hx
  q▸tM X G (Gk z e hs)
 cls:=λc=>tM X G (congrArg (λx=>x.1) (kC z c))
 bi:=λb=>Hj X G B hB (Xe z b) (by cases b<;>decide) (by cases b<;>kernel_rfl)
 Kp:=Hj X G B hB (Wd z) (by decide) (by kernel_rfl)
 jZ:=λk x hx=>by
  obtain ⟨s,e,rfl,hs⟩:=HY hx
  rcases (show k=0∨k=1 by have:k<2:=(List.getElem?_eq_some_iff.1 e).1;omega) with rfl |rfl
  ·cases e
   obtain ⟨t,ht⟩:=YC z
   exact ⟨t,tM X G ht⟩
  ·cases e
   obtain ⟨t,ht⟩:=OT z
   exact ⟨t,tM X G ht⟩
 err:=tM X G (OX z)
end
theorem W0 {J h:Heap} {Z:aH} {vs:List Value} {ns:List Int} (x:IntsAre vs ns):aD J h Z (ns.map V.int) vs:=by
 induction x with
 |nil=>exact rfl
 |cons n t _ ih=>exact ⟨_,_,rfl,⟨t,rfl⟩,ih⟩
theorem Wu {h:Heap} {l:Addr} {vs:List Value} {ns:List Int} (hL:h.IsList l vs.toArray) (hI:IntsAre vs ns) (hz:ns.length≤63):aD h h [] [.frozen (ns.map V.int)] [.ref l]:=
 ⟨_,_,rfl,⟨l,hL.choose,vs.toArray,rfl,hL.choose_spec.1,hL,adj (by rw [List.size_toArray,IntsAre.length hI];exact hz) (by decide),W0 hI⟩,rfl⟩
theorem Ld {α β:Type} [BEq α] [LawfulBEq α] {a:α} {o:β}:∀{l:List (α×β)},l.lookup a=some o→(a,o)∈l
 |[],h=>nomatch h
 |(b,x)::l,h=>by
  rw [List.lookup_cons] at h
  cases q:a==b with
  |true=>rw [q] at h;cases h;rw [beq_iff_eq.1 q];exact .head _
  |false=>rw [q] at h;exact .tail _ (Ld h)
theorem ZP:(List.range 39).all (λf=>f==38||(iH gV[f]? λF=>ji F.body))=true:=by decide +kernel
theorem PC:gV.length=39:=by decide +kernel
theorem Kc:¬Q.yt.np≤Q.yt.nl:=by decide
theorem XE {h:Heap} {K:Frag} (X:K.In h) (z:Fa K) (f:Nat) (F:Fn) (hF:Q.aw[f]?=some F):(oT h mainGlobals builtinsNs f F∧ji F.body=true)∨¬F.np≤F.nl:=by
 have hl:f<39:=by
  have:=(List.getElem?_eq_some_iff.1 hF).1
  simpa [Q.aw,PC] using this
 by_cases DN:f=38
 ·subst DN
  cases hF
  exact .inr Kc
 ·by_cases og:f=14
  ·subst og
   cases hF
   exact .inr Kc
  ·have hF:gV[f]?=some F:=by
    unfold Q.aw at hF
    rwa [List.getElem?_set_ne (Ne.symm DN),List.getElem?_set_ne (Ne.symm og)] at hF
   refine .inl ⟨Lc X z og hl hF,?_⟩
   have:=List.all_eq_true.1 ZP f (List.mem_range.2 hl)
   rw [hF,beq_eq_false_iff_ne.2 DN] at this
   exact this
theorem aam:bI 47 0 [] callerA:=⟨rfl,rfl,by decide,by decide⟩
theorem acP:bI 46 10 [] callerA:=⟨rfl,rfl,by decide,by decide⟩
theorem OJ {h:Heap} {K:Frag} (X:K.In h) (z:Fa K):∀o fd,h.get? (bQ 38)=some o→o.data= .func fd→∀x,fd.scope.names.lookup x≠some .cell:=λo fd ho hd x hx=>by
 obtain ⟨Z8,e,q⟩:=Option.map_eq_some_iff.1 (congrArg (λx=>x.2.2.2.2) z.e4)
 obtain ⟨o',dZ,bO⟩:=Cf X e
 rw [ho] at dZ
 cases dZ
 rw [hd] at bO
 cases bO
 have:=adn (List.all_eq_true.1 q _ (Ld hx))
 exact this rfl
theorem Vg {vs:List V} (hv:Q.oE vs):∃L O,ah (ay Q.aw (aq+101) 46) (aq+101) jz ([V.frozen vs].map some++List.replicate 10 none) []= .ok (.ret (.bool true)) L O:=by
 have h:=Q.UE (n:=0) (fu:=aq+101) (vs:=vs) (Nat.lt_succ_self _) hv
 have h:Q.Wq (ah (ay Q.aw (aq+101) 46) (aq+101) jz ([V.frozen vs].map some++List.replicate 10 none) []) Q.RT (λ_ _=>False):=h
 generalize ah (ay Q.aw (aq+101) 46) (aq+101) jz ([V.frozen vs].map some++List.replicate 10 none) []=o at h ⊢
 cases h with
 |@ok _ _ f L O q=>exact ⟨L,O,by rw [show f= .ret (.bool true) from q]⟩
 |exc q=>exact q.elim
theorem Oy:gV[38]?=some ⟨1,11,jz⟩:=by rfl
theorem Tp:we jz=true:=by decide +kernel
theorem Qd {U:Program} {w:World} {s:Shared} {K:Frag} {mg mb:Str→Option Value} {l:Addr} {vs:List Value} {ns:List Int} (X:K.In s.heap) (z:Fa K) (G:s.heap.Ns mainGlobals mg) (B:s.heap.Ns builtinsNs mb) (hB:∀x:Str,x≠"__name__"→mb x=bootBuiltins x) (hN:s.heap.NoLimit)
    (hL:s.heap.IsList l vs.toArray) (hI:IntsAre vs ns) (hz:ns.length≤63):
  codeAny (model U w) callerA (.call (.ref (bQ 38)) ⟨[.ref l],[]⟩) (λres s'=>res= .ok (.ret (.bool true))∧(∀b o,s.heap.get? b=some o→s'.heap.get? b=some o)∧s'.gens=s.gens∧s'.os=s.os) s:=by
 have L6:cx U w s.heap mainGlobals builtinsNs K:=⟨X,aav z,by
  obtain ⟨o,q⟩:=Option.isSome_iff_exists.1 (show (K.lookup sysModules).isSome=true from congrArg (λx=>x.2.2.2.1) z.e4)
  rw [X _ _ q];rfl,hN,OC X z G B hB⟩
 have E:=OV X z
 obtain ⟨L,O,h⟩:=Vg (vs:=ns.map V.int) (λv hv=>by
  obtain ⟨i,_,rfl⟩:=List.mem_map.1 hv
  exact ⟨i,rfl⟩)
 exact R7 (g:= .next) E (Ug z) L6 (Ky E L6 (XE X z) 46) (Lc X z (by decide) (by decide) Oy) Tp aam (k:=s.toks+1) ⟨⟨rfl,λ_ _ _ h=>(nomatch h),λ_ _ _ _ h=>(nomatch h),λ_ h=>(nomatch h)⟩,λ_ _ e=>e,trivial,λ_ h=>(nomatch h),Nat.succ_pos _⟩ (Wu hL hI hz) rfl (Ui (OJ X z)) h
end Mine
namespace Mine
open PySem PySem.W PyProof.Rows
theorem Qk:PySem.Challenge.rw_ok0094_01.wellSaid=true:=(congrFun PySem.W.Fast.te9446332074065402090 _).trans (by kernel_rfl)
abbrev dy:=PySem.Challenge.pw_ok0094_01
noncomputable def rK (st:SharedT→Thread→Option (SharedT×Thread)) (ok:Thread→Bool):Nat→SharedT→Thread→Option SharedT
 |0,_,_=>none
 |n+1,s,t=>match through t with
  |true=>some s
  |false=>match ok t with
   |false=>none
   |true=>match st s t with
    |some (s',t')=>rK st ok n s' t'
    |none=>none
theorem GJ {tb:String→Option Builtin} {p:Program} {w:World} {n₀:Nat} {ann:Option Value}:∀{n:Nat} {s s':SharedT} {t:Thread},rK (PySem.W.stepT (PySem.denote tb) p w) (stepOk n₀ ann) n s t=some s'→topRun tb p w n₀ ann n s.abs t=some s'.abs
 |0,_,_,_,h=>by cases h
 |n+1,s,s',t,h=>by
  unfold rK at h
  unfold topRun
  cases he:through t with
  |true=>rw [he] at h;cases h;rfl
  |false=>
   rw [he] at h
   cases hk:stepOk n₀ ann t with
   |false=>rw [hk] at h;cases h
   |true=>
    rw [hk] at h
    cases hs:PySem.W.stepT (PySem.denote tb) p w s t with
    |none=>rw [hs] at h;cases h
    |some r=>obtain ⟨lP,acI⟩:=r;rw [hs] at h;rw [stepT_spec hs];exact GJ h
theorem Wv {p:Program} {w:World} {n₀:Nat} {ann:Option Value}:rK (PySem.W.stepT (PySem.denote treeTable) p w) (stepOk n₀ ann)=rK (PySem.W.Fast.tw10156331382660048174 (PySem.W.Fast.tw11892475500146522536 PySem.W.Fast.tw14364793385576792824) p w) (PySem.W.Fast.tw6613529449190102663 n₀ ann):=by
 rw [PySem.W.Fast.te10156331382660048174,PySem.W.Fast.te11892475500146522536,PySem.W.Fast.te14364793385576792824,PySem.W.Fast.te6613529449190102663]
theorem opened:∀w:World,(fencedOpening treeTable dy w 5000).map (λs=>(s.heap,s.gens,s.drawn,s.toks))=some (boot_heap w.params,Array.mk [],boot_drawn,boot_toks):=boot_open (by kernel_rfl) (by kernel_rfl) (λs=>by kernel_rfl)
noncomputable def Am (o:List Obj):Nat→Nat→Nat→BT
 |0,_,_=> .nil
 |n+1,a,b=>match o[b]? with
  |some x=> .node x (Am o n (2*a) (a+b)) (Am o n (2*a) (2*a+b))
  |none=> .nil
noncomputable def T0 (P:Params):BT:=Am (boot_heap P).objs.toList 10 1 0
theorem Vf (P:Params):((boot_heap P).isNs mainGlobals&&(Array.mk []:Array GenState).size==0,(boot_heap P).objs.size,(boot_heap P).nsMap mainGlobals "__annotations__")=(true,11,some (.ref 6)):=by kernel_rfl
theorem SA (P:Params):absHeap (T0 P) 11 {}=boot_heap P:=by kernel_rfl
section
variable (w:World) (os:OsState)
abbrev qT:=rK (PySem.W.Fast.tw10156331382660048174 (PySem.W.Fast.tw11892475500146522536 PySem.W.Fast.tw14364793385576792824) dy w) (PySem.W.Fast.tw6613529449190102663 11 (some (.ref 6)))
noncomputable abbrev K4:SharedT:=⟨T0 w.params,11,{},Array.mk [],boot_drawn,boot_toks,os⟩
noncomputable abbrev lE:=qT w 5000 (K4 w os) (topStub dy)
abbrev qV:Program:=view dy [1,2,4,5,6,7,8,9,10,11,12,13,14,15,16,17,18,19,20,21,22,24,25,26,27,28,29,30,31,32,33,34,35]
abbrev lo:List Str:=[Str.ofString "GateloomError"]
abbrev MF:=PySem.Challenge.rw_ok0094_01.row.toRowW
abbrev xt (s:Shared):Bool:=recOk MF.records s
abbrev Ks (s:SharedT):Frag:=fragOf 351 s.abs.heap
theorem Fb:(lE w os).map (λs=>(staticsOk (importedModules dy.main.body) (boot_heap w.params) s.abs.heap,namesBound dy s.abs.heap,gensDone s.abs&&laidKept (boot_heap w.params) s.abs.heap,PySem.W.Fast.tw4187177175401517315 qV lo (PySem.W.Fast.tw5923862056798008813 dy.main.body) xt true s.abs))=some (true,true,true,openGood qV lo):=by kernel_rfl
theorem Wi:(lE w os).map (λs=>(tA (Ks s),tS (Ks s),tg (Ks s)))=some (wZ,xi,xq):=by kernel_rfl
theorem aaV:(lE w os).map (λs=>(tC (Ks s),qW (Ks s)))=some (xg,uw 203):=by kernel_rfl
end
end Mine
namespace Mine
open PySem PySem.W PyProof.Rows PySem.Calls
noncomputable def Yf (s:Shared):=(tA (fragOf 351 s.heap),tS (fragOf 351 s.heap),tg (fragOf 351 s.heap),tC (fragOf 351 s.heap),qW (fragOf 351 s.heap))
noncomputable def Ya (_:World):=(wZ,xi,xq,xg,uw 203)
noncomputable def YP (_:World) (h:Heap):Prop:=∃K:Frag,K.In h∧Fa K
theorem Xc (w:World) (s:Shared) (e:Yf s=Ya w):YP w s.heap:=⟨_,Pf 351 s.heap,congrArg (λx=>x.1) e,congrArg (λx=>x.2.1) e,congrArg (λx=>x.2.2.1) e,congrArg (λx=>x.2.2.2.1) e,congrArg (λx=>x.2.2.2.2) e⟩
theorem TZ (w:World) (h h':Heap) (y:YP w h) (k:∀b o,h.get? b=some o→h'.get? b=some o):YP w h':=y.imp λ_ q=>⟨q.1.keeps k,q.2⟩
theorem Eo {α β:Type} {o:Option α} {x:α} {g:α→β} {c:β} (r:o=some x) (h:o.map g=some c):g x=c:=Option.some.inj ((congrArg (Option.map g) r).symm.trans h)
theorem D6 {w:World} {os:OsState} {s:SharedT} (r:lE w os=some s):(tA (Ks s),tS (Ks s),tg (Ks s))=(wZ,xi,xq):=Eo (g:=λs=>(tA (Ks s),tS (Ks s),tg (Ks s))) r (Wi w os)
theorem Mx {w:World} {os:OsState} {s:SharedT} (r:lE w os=some s):(tC (Ks s),qW (Ks s))=(xg,uw 203):=Eo (g:=λs=>(tC (Ks s),qW (Ks s))) r (aaV w os)
theorem JM {w:World} {os:OsState} {s:SharedT} (r:lE w os=some s):(staticsOk (importedModules dy.main.body) (boot_heap w.params) s.abs.heap,namesBound dy s.abs.heap,gensDone s.abs&&laidKept (boot_heap w.params) s.abs.heap,PySem.W.Fast.tw4187177175401517315 qV lo (PySem.W.Fast.tw5923862056798008813 dy.main.body) xt true s.abs)=(true,true,true,openGood qV lo):=
 Eo (g:=λs=>(staticsOk (importedModules dy.main.body) (boot_heap w.params) s.abs.heap,namesBound dy s.abs.heap,gensDone s.abs&&laidKept (boot_heap w.params) s.abs.heap,PySem.W.Fast.tw4187177175401517315 qV lo (PySem.W.Fast.tw5923862056798008813 dy.main.body) xt true s.abs)) r (Fb w os)
theorem facts {w:World} {os:OsState} {s:SharedT} (r:lE w os=some s):Yf s.abs=Ya w:=
 looks_pair (Prod.mk.inj (D6 r)).1 (looks_pair (Prod.mk.inj (Prod.mk.inj (D6 r)).2).1 (looks_pair (Prod.mk.inj (Prod.mk.inj (D6 r)).2).2 (looks_pair (Prod.mk.inj (Mx r)).1 (Prod.mk.inj (Mx r)).2)))
theorem lA (w:World) (os:OsState) {s:SharedT} (r:lE w os=some s):topRun treeTable dy w 11 (some (.ref 6)) 5000 ⟨boot_heap w.params,Array.mk [],boot_drawn,boot_toks,os⟩ (topStub dy)=some s.abs:=by
  have:=GJ (tb:=treeTable) (p:=dy) (w:=w) (n₀:=11) (ann:=some (.ref 6)) (n:=5000) (s:=K4 w os) (s':=s) (t:=topStub dy) (by rw [Wv];exact r)
  rw [←SA w.params]
  exact this
theorem YE (w:World) (os:OsState) {s:SharedT} (r:lE w os=some s):(staticsOk (importedModules dy.main.body) (boot_heap w.params) s.abs.heap&&namesBound dy s.abs.heap&&gensDone s.abs&&laidKept (boot_heap w.params) s.abs.heap)=true:=by
 have ⟨ra,q⟩:=Prod.mk.inj (JM r)
 have ⟨rb,q⟩:=Prod.mk.inj q
 have ⟨rc,_⟩:=Prod.mk.inj q
 rw [Bool.and_assoc,rc,show (staticsOk (importedModules dy.main.body) (boot_heap w.params) s.abs.heap)=true from ra,show namesBound dy s.abs.heap=true from rb];rfl
theorem lC (w:World) (os:OsState) {s:SharedT} (r:lE w os=some s):openSeen qV lo (importedModules dy.main.body) xt true s.abs=openGood qV lo:=by
  rw [PySem.W.Fast.te4187177175401517315,PySem.W.Fast.te5923862056798008813]
  exact (Prod.mk.inj (Prod.mk.inj (Prod.mk.inj (JM r)).2).2).2
theorem lD (w:World) (os:OsState) {s:Shared} (t:topRun treeTable dy w 11 (some (.ref 6)) 5000 ⟨boot_heap w.params,Array.mk [],boot_drawn,boot_toks,os⟩ (topStub dy)=some s)
  (b:(staticsOk (importedModules dy.main.body) (boot_heap w.params) s.heap&&namesBound dy s.heap&&gensDone s&&laidKept (boot_heap w.params) s.heap)=true):topFrom treeTable dy w 5000 ⟨boot_heap w.params,Array.mk [],boot_drawn,boot_toks,os⟩=some s:=by
  obtain ⟨z1,z2,z3⟩:_∧_∧_:=by simpa only [Prod.mk.injEq] using Vf w.params
  unfold topFrom
  dsimp only
  rw [z1,z2,z3,t]
  show (match staticsOk (importedModules dy.main.body) (boot_heap w.params) s.heap&&namesBound dy s.heap&&gensDone s&&laidKept (boot_heap w.params) s.heap with |true=>_ |false=>_)=_
  rw [b]
theorem left:LeftO dy qV lo xt Yf Ya 5000:=λw=>by
 obtain ⟨⟨h,gs,d,k,os⟩,e,e'⟩:=Option.map_eq_some_iff.mp (opened w)
 obtain ⟨rfl,rfl,rfl,rfl⟩:h=boot_heap w.params∧gs=Array.mk []∧d=boot_drawn∧k=boot_toks:=by simpa only [Prod.mk.injEq] using e'
 obtain ⟨s,r,_⟩:=Option.map_eq_some_iff.mp (Fb w os)
 have o:openEnds treeTable dy w 5000=some s.abs:=by
  unfold openEnds
  rw [e,Option.bind_some]
  exact lD w os (lA w os r) (YE w os r)
 rw [o]
 exact congrArg some (looks_pair (lC w os r) (facts r))
theorem QQ:(defOf qV (Str.ofString "law")).isSome=true:=by kernel_rfl
noncomputable def dk:DefRec×List (Str×PySem.Expr):=(defOf qV (Str.ofString "law")).get QQ
theorem hd (walk:WalkO qV lo (λ_ _=>True) YP MF dk.1 dk.2 λf vs=>PySem.call f vs):PySem.Challenge.rw_ok0094_01.Holds:=by
 refine holds_law Qk λk1=>?_
 refine holds_open (q:=qV) (loose:=lo) (Xt:=xt) (XP:=λ_ _=>True) (Yf:=Yf) (Ya:=Ya) (YP:=YP) (N:=5000) left Xc TZ (λ_ _=>trivial) (λ_ _ _ _ _=>trivial) (d:=dk.1) (kwd:=dk.2) ?h1 ?h2 ?h3 (λs e=>recFacts_of e) ?h4 k1 ?h5 ⟨rfl,rfl,rfl,rfl,rfl,?h6⟩ ?h7 walk
 case h1=>kernel_rfl
 case h2=>kernel_rfl
 case h3=>kernel_rfl
 case h4=>kernel_rfl
 case h5=>kernel_rfl
 case h6=>decide +kernel
 case h7=>w_witness2
theorem VM:dk.1.name=Str.ofString "law":=by kernel_rfl
theorem abn {K:Frag} {h:Heap} {mg:Str→Option Value} {fa:Addr} (X:K.In h) (z:Fa K) (G:h.Ns mainGlobals mg) (hl:mg (Str.ofString "law")=some (.ref fa)):fa=bQ 38:=by
 have:=mg_of X G (Gk z (f:=38) (s:="law") rfl (by decide))
 rw [hl] at this
 injection this with this
 injection this
theorem good {c:ClaimW} {cl:Str→Option Addr} {Y9:ExcName→Option Value} {args:List WData} {s s':Shared} {res:Result} (hr:res= .ok (.ret (.bool true))) (h1:∀cls,c.raises args cls=false) (h2:c.post args (.bool true) args=true) (hk:∀b o,s.heap.get? b=some o→s'.heap.get? b=some o) (ho:s'.os=s.os) (hg:s'.gens= #[]):GoodWG c cl Y9 args s res s':=
 GoodW.toG ⟨.inl ⟨_,.bool true,[],hr,h1,ReadsW.bool true,h2,λ_=>⟨List.nodup_nil,λ_ hm=>(nomatch hm)⟩⟩,hk,ho,hg⟩
theorem BR:PySem.Challenge.rw_ok0094_01.Holds:=by
 refine hd ?_
 intro w s₀ bN mg mb G Y fa o pm cd abT dV kV ho abe j6 hD Hd hg args ab2 as iz Wj WY oP vJ
 obtain ⟨K,X,z⟩:=Y
 have T:=G.T
 have Zv:mg (Str.ofString "law")=some (.ref fa):=VM▸Hd
 clear ho abe j6 hD Hd
 wrow_args iz Wj WY oP vJ
 rename_i ns _ _ _ _ _ _ _ l acj _ hL _ _ _ hI _ hn _
 obtain rfl:=abn X z T.g Zv
 refine enter_call (codeAny_mono (Qd X z T.g T.b T.builtins T.nolimit hL hI (by omega)) λres s' q=>?_)
 exact good q.1 (λ_=>rfl) (by wrow_post) q.2.1 q.2.2.2 (q.2.2.1.trans hg)
end Mine
theorem PySem.Challenge.cw_ok0094_01_holds : PySem.Challenge.rw_ok0094_01.Holds :=
 Mine.BR
