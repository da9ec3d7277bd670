import PyProof.Rows.All
import Wide.All
import OpenK.AllK
import Wide.FinOn
import Lean
import PySem.Challenge.RW_ok0094_01
set_option Elab.async false
set_option autoImplicit false
set_option linter.all false
set_option maxRecDepth 100000
set_option maxHeartbeats 8000000
set_option genSizeOf false
set_option genSizeOfSpec false
set_option bootstrap.genMatcherCode false
set_option compiler.extract_closed false
noncomputable section
namespace Mine
open PySem
theorem adk {a b c:Nat} (h:a<=b) (k:b<=c):a<=c:=Nat.le_trans h k
theorem adl {a b c:Nat} (h:a<b) (k:b<=c):a<c:=Nat.lt_of_lt_of_le h k
theorem adm {a b c:Nat} (h:a<=b) (k:b<c):a<c:=Nat.lt_of_le_of_lt h k
theorem adn (a b:Nat):a<=a+b:=Nat.le_add_right a b
theorem ado {p:Prop} [Decidable p] (h:decide p=true):p:=of_decide_eq_true h
theorem adp {p:Prop} [Decidable p] (h:decide p=false):¬p:=of_decide_eq_false h
theorem adq (a:Nat):a<=a:=Nat.le_refl a
theorem ads (a:Nat):0<=a:=Nat.zero_le a
theorem adt {a b:Nat} (h:a=b):a<=b:=Nat.le_of_eq h
theorem adu (a:Nat):a<a.succ:=Nat.lt_succ_self a
inductive cj where |macro |table |et
 deriving DecidableEq
inductive V where
 |none |bool (b:Bool) |int (i:Int) |str (s:List Nat) |tup (vs:List V) |ref (n:Nat)
 |frozen (vs:List V)
inductive Cell where
 |list (vs:List V)
 |dict (es:List (List Nat×V))
 |inst (c:cj) (fs:List (Nat×V))
abbrev ag:=List Cell
abbrev Locals:=List (Option V)
inductive BinOp where |add |sub |mul |fdiv |mod
inductive mD where |eq |ne |lt |le |gt |ge |is |iM |isin |ix
inductive Bi where |len |min |max |int |abs |sorted
inductive Bm where |append |pop |mW |index |join |strip |count |split
mutual
inductive E where
 |none |bool (b:Bool) |int (i:Int) |str (s:List Nat)
 |loc (i:Nat)
 |jS (k:Nat)
 |bin (op:BinOp) (a b:E)
 |cmp (op:mD) (a b:E)
 |and (es:Es) |or (es:Es)
 |not (a:E) |neg (a:E)
 |ite (c a b:E)
 |tup (es:Es) |list (es:Es) |dict (ks:List (List Nat)) (es:Es)
 |idx (a i:E)
 |slice (a lo hi:E) (GG Mw:Bool)
 |attr (a:E) (f:Nat)
 |call (f:Nat) (es:Es)
 |own (a:E) (m:Nat) (es:Es)
 |bt (b:Bm) (a:E) (es:Es)
 |j4 (a:E) (c d:Nat)
 |new (c:cj) (es:Es)
 |bi (b:Bi) (es:Es)
 |comp (bc:E) (caps:List Nat) (iter:E)
 |jw (bc:E) (caps:List Nat) (n:E)
inductive Es where
 |nil |cons (e:E) (es:Es)
end
mutual
inductive S where
 |expr (e:E)
 |aA (i:Nat) (e:E)
 |mC (i:Nat) (e:E)
 |setAttr (o:E) (f:Nat) (e:E)
 |eH (o i e:E)
 |unpack (is:List Nat) (e:E)
 |gF (i:Nat) (op:BinOp) (e:E)
 |gY (o i:E) (op:BinOp) (e:E)
 |ret (e:E)
 |lQ
 |ite (c:E) (a b:Ss)
 |dD (c:E) (b:Ss)
 |forL (i:Nat) (e:E) (b:Ss)
 |forR (i:Nat) (e:E) (b:Ss)
 |raise (es:Es)
 |j8 (b:Ss) (i w:Nat) (aQ:List Nat)
 |brk
 |lb (o i:E)
inductive Ss where
 |nil |cons (s:S) (ss:Ss)
end
inductive Flow where |next |brk |ret (v:V)
structure aX where
 k:V
 a:V
 d:V
inductive Out (α:Type) where
 |stuck
 |ok (a:α) (O:ag)
 |exc (e:aX) (O:ag)
namespace Out
noncomputable def bind {α β:Type}:Out α→(α→ag→Out β)→Out β
 | .stuck,_=> .stuck
 | .ok a O,f=>f a O
 | .exc e O,_=> .exc e O
end Out
inductive aU where
 |stuck
 |ok (f:Flow) (L:Locals) (O:ag)
 |exc (e:aX) (L:Locals) (O:ag)
noncomputable def aU.bind:aU→(Flow→Locals→ag→aU)→aU
 | .stuck,_=> .stuck
 | .ok f L O,k=>k f L O
 | .exc e L O,_=> .exc e L O
noncomputable def qf {α β:Type} (o:Out α) (d:β) (f:α→ag→β):β:=match o with | .ok a O=>f a O |_=>d
noncomputable def gj {α:Type} (o:Option α) (O:ag):Out α:=match o with
 |some a=> .ok a O
 |Option.none=> .stuck
noncomputable def Locals.get (L:Locals) (i:Nat):Option V:=(L[i]?).join
noncomputable def Locals.put (L:Locals) (i:Nat) (v:V):Locals:=L.set i (some v)
noncomputable def aq:Nat:=16777216
section
variable {α:Type}
noncomputable def V.cE (v:V) (d:α) (f:Int→α):α:=match v with | .int i=>f i |_=>d
noncomputable def V.onStr (v:V) (d:α) (f:List Nat→α):α:=match v with | .str s=>f s |_=>d
noncomputable def V.iB (v:V) (d:α) (f:Bool→α):α:=match v with | .bool b=>f b |_=>d
noncomputable def V.dX (v:V) (d:α) (f:Nat→α):α:=match v with | .ref n=>f n |_=>d
noncomputable def V.qN (v:V) (d:α) (f:List V→α):α:=match v with | .tup vs=>f vs |_=>d
noncomputable def V.yA (v:V) (d:α) (x:α):α:=match v with | .none=>x |_=>d
noncomputable def gX (O:ag) (n:Nat) (d:α) (f:Cell→α):α:=match O[n]? with |some c=>f c |Option.none=>d
noncomputable def Cell.eX (c:Cell) (d:α) (f:List V→α):α:=match c with | .list vs=>f vs |_=>d
noncomputable def Cell.jo (c:Cell) (d:α) (f:List (List Nat×V)→α):α:=match c with | .dict es=>f es |_=>d
noncomputable def Cell.lg (c:Cell) (d:α) (f:cj→List (Nat×V)→α):α:=match c with | .inst c fs=>f c fs |_=>d
noncomputable def eX (O:ag) (n:Nat) (d:α) (f:List V→α):α:=gX O n d λc=>c.eX d f
noncomputable def jo (O:ag) (n:Nat) (d:α) (f:List (List Nat×V)→α):α:=gX O n d λc=>c.jo d f
noncomputable def lg (O:ag) (n:Nat) (d:α) (f:cj→List (Nat×V)→α):α:=gX O n d λc=>c.lg d f
noncomputable def sH (vs:List V) (d x:α):α:=match vs with |[]=>x |_=>d
noncomputable def kS (vs:List V) (d:α) (f:V→α):α:=match vs with |[]=>d |v::r=>sH r d (f v)
noncomputable def rA (vs:List V) (d:α) (f:V→V→α):α:=match vs with |[]=>d |v::r=>kS r d (f v)
noncomputable def aaT (vs:List V) (d:α) (f:V→V→V→α):α:=match vs with |[]=>d |v::r=>rA r d (f v)
noncomputable def bK {β:Type} (o:Option β) (d:α) (f:β→α):α:=match o with |some x=>f x |Option.none=>d
end
noncomputable def zX (s:List Nat):Option V:=if s.length≤aq then some (.str s) else Option.none
noncomputable def jv {α β:Type} (f:α→Option β):List α→Option (List β)
 |[]=>some []
 |v::vs=>(f v).bind λx=>(jv f vs).bind λxs=>some (x::xs)
noncomputable def V.Ak:V→Option PyData
 | .none=>some .none
 | .bool b=>some (.bool b)
 | .int i=>some (.int i)
 | .str s=>some (.str ⟨s.toArray⟩)
 |_=>Option.none
noncomputable def V.py (O:ag):Nat→V→Option PyData
 |0,v=>v.Ak
 |d+1,v=>v.qN (v.dX v.Ak λn=>eX O n Option.none λvs=>(jv (V.py O d) vs).bind λxs=>some (.list xs)) λvs=>(jv (V.py O d) vs).bind λxs=>some (.tuple xs)
abbrev V.pS (O:ag) (d:Nat):List V→Option (List PyData):=jv (V.py O d)
noncomputable def jV (O:ag) (a b:V):Option Bool:=(V.py O 4 a).bind λd=>(V.py O 4 b).bind λe=>if (SeqAt.shaped d&&SeqAt.shaped e)=true then some (PyData.eqv d e) else Option.none
noncomputable def ju (O:ag) (a b:V):Option Bool:=
 a.cE (a.onStr (a.iB (jV O a b) λx=>b.iB (jV O (.bool x) b) λy=>some (x==y)) λx=>b.onStr (jV O (.str x) b) λy=>some (decide (x=y))) λx=>b.cE (jV O (.int x) b) λy=>some (decide (x=y))
noncomputable def CN:V→Option Bool
 | .none=>some true
 | .frozen _=>Option.none
 |_=>some false
noncomputable def dictGet (es:List (List Nat×V)) (k:List Nat):Option V:=match es with
 |[]=>Option.none
 |(x,v)::r=>if x=k then some v else dictGet r k
noncomputable def dictPut (es:List (List Nat×V)) (k:List Nat) (v:V):List (List Nat×V):=match es with
 |[]=>[(k,v)]
 |(x,u)::r=>if x=k then (x,v)::r else (x,u)::dictPut r k v
noncomputable def dictDel (es:List (List Nat×V)) (k:List Nat):List (List Nat×V):=match es with
 |[]=>[]
 |(x,u)::r=>if x=k then r else (x,u)::dictDel r k
noncomputable def hS:List V→Option (List (List Nat))
 |[]=>some []
 |v::r=>v.onStr Option.none λs=>(hS r).map (s:: ·)
noncomputable def one {α:Type} (l:List Nat) (d:α) (f:Nat→α):α:=match l with |[]=>d |k::r=>if r.isEmpty then f k else d
noncomputable def lX (O:ag) (x c:V):Option Bool:=x.onStr Option.none λs=>
 c.onStr (c.qN (c.dX Option.none λn=>gX O n Option.none λc=>c.eX (c.jo Option.none λes=>some (dictGet es s).isSome) λvs=>(hS vs).map λl=>decide (s∈l))
      λvs=>(hS vs).bind λl=>if vs.length≤100 then some (decide (s∈l)) else Option.none)
  λt=>one s Option.none λk=>some (decide (k∈t))
noncomputable def smallInt (i:Int):Bool:=decide (-2147483648<i)&&decide (i<2147483648)
noncomputable def ct (op:mD) (O:ag) (a b:V):Option V:=match op with
 | .eq=>(ju O a b).map .bool
 | .ne=>(ju O a b).map λx=> .bool (!x)
 | .is=>b.yA Option.none ((CN a).map .bool)
 | .iM=>b.yA Option.none ((CN a).map λx=> .bool (!x))
 | .isin=>(lX O a b).map .bool
 | .ix=>(lX O a b).map λx=> .bool (!x)
 | .lt=>a.cE Option.none λx=>b.cE Option.none λy=>some (.bool (decide (x<y)))
 | .le=>a.cE (a.onStr Option.none λx=>b.onStr Option.none λy=>some (.bool (!decide (y<x)))) λx=>b.cE Option.none λy=>some (.bool (decide (x≤y)))
 | .gt=>a.cE Option.none λx=>b.cE Option.none λy=>some (.bool (decide (y<x)))
 | .ge=>a.cE Option.none λx=>b.cE Option.none λy=>some (.bool (decide (y≤x)))
noncomputable def iD (s:List Nat):Nat→List Nat
 |0=>[]
 |n+1=>s++iD s n
noncomputable def eW (op:BinOp) (a b:V):Option V:=match op with
 | .add=>a.cE (a.onStr Option.none λx=>b.onStr Option.none λy=>zX (x++y)) λx=>b.cE Option.none λy=>some (.int (x+y))
 | .sub=>a.cE Option.none λx=>b.cE Option.none λy=>some (.int (x-y))
 | .mul=>a.cE (a.onStr Option.none λx=>b.cE Option.none λy=>if 0≤y∧x.length*y.toNat≤aq∧y<4294967296 then some (.str (iD x y.toNat)) else Option.none)
      λx=>b.cE Option.none λy=>if (smallInt x&&smallInt y)=true then some (.int (x*y)) else Option.none
 | .fdiv=>a.cE Option.none λx=>b.cE Option.none λy=>if 0<y∧y<1073741824 then some (.int (x.fdiv y)) else Option.none
 | .mod=>a.cE Option.none λx=>b.cE Option.none λy=>if 0<y∧y<1073741824 then some (.int (x.fmod y)) else Option.none
noncomputable def dh (O:ag) (a i:V):Option V:=i.cE
  (i.onStr Option.none λk=>a.dX Option.none λn=>jo O n Option.none λes=>dictGet es k)
  λk=>a.onStr (a.qN (a.dX Option.none λn=>eX O n Option.none λvs=>if 0≤k then vs[k.toNat]? else if k= -1 then vs.getLast? else Option.none)
      λvs=>if 0≤k∧k<1000000 then vs[k.toNat]? else Option.none)
  λs=>if 0≤k then (s[k.toNat]?).map λc=> .str [c] else Option.none
noncomputable def kL (v:V) (b:Bool):Option (Option Nat):=match b with
 |false=>some Option.none
 |true=>v.cE Option.none λk=>if 0≤k∧k<4294967296 then some (some k.toNat) else Option.none
noncomputable def kD {α:Type} (l:List α) (lo hi:Option Nat):List α:=
 let l:=match hi with |some h=>l.take h |Option.none=>l
 match lo with |some k=>l.drop k |Option.none=>l
noncomputable def Dv (O:ag) (vs:List V) (l h:Option Nat):Out V:=match l with
 |some _=> .stuck
 |Option.none=>bK h .stuck λk=> .ok (.ref O.length) (O++[.list (vs.take k)])
noncomputable def jx (O:ag) (a lo hi:V) (GG Mw:Bool):Out V:=bK (kL lo GG) .stuck λl=>bK (kL hi Mw) .stuck λh=>match a with
 | .str s=> .ok (.str (kD s l h)) O
 | .frozen vs=>Dv O vs l h
 | .ref n=>eX O n .stuck λvs=>Dv O vs l h
 |_=> .stuck
noncomputable def pG (fs:List (Nat×V)) (f:Nat):Option V:=match fs with
 |[]=>Option.none
 |(x,v)::r=>if x=f then some v else pG r f
noncomputable def fe (fs:List (Nat×V)) (f:Nat) (v:V):List (Nat×V):=match fs with
 |[]=>[(f,v)]
 |(x,u)::r=>if x=f then (x,v)::r else (x,u)::fe r f v
noncomputable def uB:List String:=["names","body","macros","reserved","uses","table","nettypes","pieces","length","conditions","active","kind","at","detail"]
noncomputable def wW (O:ag) (a:V) (f:Nat):Option V:=a.dX Option.none λn=>lg O n Option.none λ_ fs=>pG fs f
noncomputable def Nl (O:ag) (v:V):Option V:=v.onStr (v.dX Option.none λn=>eX O n Option.none λvs=>some (.int vs.length)) λs=>some (.int s.length)
noncomputable def Hb (O:ag) (es:List (List Nat×V)):Out V:=match es with
 |[]=> .stuck
 |(k,_)::r=>if r.isEmpty∧k.length≤aq then .ok (.ref O.length) (O++[.list [.str k]]) else .stuck
noncomputable def mI (b:Bi) (O:ag) (vs:List V):Out V:=match b with
 | .len=>kS vs .stuck λv=>gj (Nl O v) O
 | .min=>rA vs .stuck λa b=>a.cE .stuck λx=>b.cE .stuck λy=> .ok (.int (if y<x then y else x)) O
 | .max=>rA vs .stuck λa b=>a.cE .stuck λx=>b.cE .stuck λy=> .ok (.int (if x<y then y else x)) O
 | .int=>kS vs .stuck λv=>v.cE .stuck λx=> .ok (.int x) O
 | .abs=>kS vs .stuck λv=>v.cE .stuck λx=> .ok (.int x.natAbs) O
 | .sorted=>kS vs .stuck λv=>v.dX .stuck λn=>jo O n .stuck λes=>Hb O es
noncomputable def cv (sep:List Nat):List (List Nat)→List Nat
 |[]=>[]
 |[x]=>x
 |x::y::r=>x++sep++cv sep (y::r)
noncomputable def dH (c:Nat):Bool:=c==32||(decide (9≤c)&&decide (c≤13))||(decide (28≤c)&&decide (c≤31))
noncomputable def cZ (s:List Nat):List Nat:=((s.dropWhile dH).reverse.dropWhile dH).reverse
noncomputable def di (c:Nat):List Nat→List (List Nat)
 |[]=>[[]]
 |x::r=>if x=c then []::di c r else match di c r with
  |p::ps=>(x::p)::ps
  |[]=>[[x]]
noncomputable def gR (x:List Nat):List (List Nat)→Option Nat
 |[]=>Option.none
 |y::r=>if y=x then some 0 else (gR x r).map (· +1)
noncomputable def DO:List String:=["use","piece","begin","emit","directive","operand","define","condition","expand"]
noncomputable def vP (s:List Nat):Bool:=s.all λc=>decide (c<128)
noncomputable def tJ (O:ag) (n:Nat) (xs:List V):Out V:=match xs.getLast? with
 |some v=> .ok v (O.set n (.list xs.dropLast))
 |Option.none=> .stuck
noncomputable def sJ (O:ag) (n:Nat) (es:List (List Nat×V)) (k:List Nat) (d:V):Out V:=match dictGet es k with
 |some v=> .ok v (O.set n (.dict (dictDel es k)))
 |Option.none=> .ok d O
noncomputable def fM (m:Bm) (O:ag) (a:V) (vs:List V):Out V:=match m with
 | .append=>a.dX .stuck λn=>kS vs .stuck λv=>eX O n .stuck λxs=>if xs.length<aq then .ok .none (O.set n (.list (xs++[v]))) else .stuck
 | .pop=>a.dX .stuck λn=>sH vs .stuck (eX O n .stuck λxs=>tJ O n xs)
 | .mW=>a.dX .stuck λn=>rA vs .stuck λk d=>k.onStr .stuck λk=>jo O n .stuck λes=>sJ O n es k d
 | .index=>a.dX .stuck λn=>kS vs .stuck λx=>x.onStr .stuck λx=>eX O n .stuck λxs=>bK (hS xs) .stuck λl=>bK (gR x l) .stuck λi=> .ok (.int i) O
 | .join=>a.onStr .stuck λs=>kS vs .stuck λx=>x.dX .stuck λn=>eX O n .stuck λxs=>bK (hS xs) .stuck λl=>if (cv s l).length+s.length≤aq then .ok (.str (cv s l)) O else .stuck
 | .strip=>a.onStr .stuck λs=>sH vs .stuck (if vP s=true then .ok (.str (cZ s)) O else .stuck)
 | .count=>a.onStr .stuck λs=>kS vs .stuck λx=>x.onStr .stuck λx=>one x .stuck λc=> .ok (.int (s.count c)) O
 | .split=>a.onStr .stuck λs=>kS vs .stuck λx=>x.onStr .stuck λx=>one x .stuck λc=>if s.length<aq then .ok (.ref O.length) (O++[.list ((di c s).map .str)]) else .stuck
noncomputable def jU (O:ag) (o i v:V):Option ag:=o.dX Option.none λn=>i.cE
  (i.onStr Option.none λk=>jo O n Option.none λes=>if es.length<1000000 then some (O.set n (.dict (dictPut es k v))) else Option.none)
  λk=>eX O n Option.none λvs=>if 0≤k∧k.toNat<vs.length then some (O.set n (.list (vs.set k.toNat v))) else Option.none
noncomputable def qU (O:ag) (o:V) (f:Nat) (v:V):Option ag:=o.dX Option.none λn=>lg O n Option.none λc fs=>some (O.set n (.inst c (fe fs f v)))
noncomputable def jf (op:BinOp) (O:ag) (a b:V):Out V:=match op with
 | .add=>a.dX (gj (eW .add a b) O) λn=>b.dX .stuck λm=>eX O n .stuck λxs=>eX O m .stuck λys=>if n≠m∧xs.length+ys.length≤aq then .ok (.ref n) (O.set n (.list (xs++ys))) else .stuck
 | .mul=> .stuck
 |op=>gj (eW op a b) O
noncomputable def rE (O:ag) (o i:V):Option ag:=o.dX Option.none λn=>i.onStr Option.none λk=>jo O n Option.none λes=>if (dictGet es k).isSome=true then some (O.set n (.dict (dictDel es k))) else Option.none
abbrev Calls:=Nat→List V→ag→Out V
noncomputable def uv:cj→List (Option Nat)
 | .macro=>[]
 | .table=>[some 17,some 18]
 | .et=>[Option.none,Option.none,some 20,some 22,some 23,some 24,some 25,some 26,some 21]
noncomputable def gk (c:cj) (m:Nat):Option Nat:=((uv c)[m]?).join
noncomputable def oK:cj→Nat
 | .macro=>15
 | .table=>16
 | .et=>19
inductive Kd where |s |l |d
noncomputable def Bm.kd:Bm→Kd
 | .append | .pop | .index=> .l
 | .mW=> .d
 |_=> .s
noncomputable def pV (k:Kd) (O:ag) (v:V):Bool:=match k with
 | .s=>v.onStr false λ_=>true
 | .l=>v.dX false λn=>eX O n false λ_=>true
 | .d=>v.dX false λn=>jo O n false λ_=>true
noncomputable def ME (O:ag) (v:V):Option cj:=v.dX Option.none λn=>lg O n Option.none λc _=>some c
noncomputable def pW (C:Calls) (c:cj) (O:ag) (vs:List V):Out V:=qf (C (oK c) (.ref O.length::vs) (O++[.inst c []])) .stuck λv af=>v.yA .stuck (.ok (.ref O.length) af)
noncomputable def uW:Nat→Int
 |0=>20
 |_=>1000
noncomputable def kx (n:Nat) (i:Nat) (O:ag):Option (Option V):=eX O n Option.none λvs=>some vs[i]?
noncomputable def gv (k:Int) (i:Nat) (_:ag):Option (Option V):=some (if (i:Int)<k then some (.int i) else Option.none)
noncomputable def fy (item:Nat→ag→Option (Option V)) (f:V→ag→Out V):Nat→Nat→List V→ag→Option (List V×ag)
 |0,_,_,_=>Option.none
 |iU+1,i,acc,O=>(item i O).bind λo=>bK o (some (acc,O)) λx=>qf (f x O) Option.none λv af=>if acc.length<aq then fy item f iU (i+1) (acc++[v]) af else Option.none
noncomputable def nQ (o:Option (List V×ag)):Out V:=bK o .stuck λp=> .ok (.ref p.2.length) (p.2++[.list p.1])
mutual
noncomputable def ev (C:Calls) (fu:Nat):E→Locals→ag→Out V
 | .none,_,O=> .ok .none O
 | .bool b,_,O=> .ok (.bool b) O
 | .int i,_,O=> .ok (.int i) O
 | .str s,_,O=> .ok (.str s) O
 | .loc i,L,O=>gj (L.get i) O
 | .jS k,_,O=> .ok (.int (uW k)) O
 | .bin op a b,L,O=>(ev C fu a L O).bind λx O=>(ev C fu b L O).bind λy O=>gj (eW op x y) O
 | .cmp op a b,L,O=>(ev C fu a L O).bind λx O=>(ev C fu b L O).bind λy O=>gj (ct op O x y) O
 | .and es,L,O=>ea C fu true es L O
 | .or es,L,O=>ea C fu false es L O
 | .not a,L,O=>(ev C fu a L O).bind λx O=>x.iB .stuck λb=> .ok (.bool (!b)) O
 | .neg a,L,O=>(ev C fu a L O).bind λx O=>x.cE .stuck λb=> .ok (.int (-b)) O
 | .ite c a b,L,O=>(ev C fu c L O).bind λx O=>x.iB .stuck λt=>match t with
  |true=>ev C fu a L O
  |false=>ev C fu b L O
 | .tup es,L,O=>(bw C fu es L O).bind λvs O=> .ok (.tup vs) O
 | .list es,L,O=>(bw C fu es L O).bind λvs O=> .ok (.ref O.length) (O++[.list vs])
 | .dict ks es,L,O=>(bw C fu es L O).bind λvs O=>if vs.length=ks.length∧ks.Nodup then .ok (.ref O.length) (O++[.dict (ks.zip vs)]) else .stuck
 | .idx a i,L,O=>(ev C fu a L O).bind λx O=>(ev C fu i L O).bind λy O=>gj (dh O x y) O
 | .slice a lo hi hl hh,L,O=>(ev C fu a L O).bind λx O=>(ev C fu lo L O).bind λy O=>(ev C fu hi L O).bind λz O=>jx O x y z hl hh
 | .attr a f,L,O=>(ev C fu a L O).bind λx O=>gj (wW O x f) O
 | .call f es,L,O=>(bw C fu es L O).bind λvs O=>C f vs O
 | .own a m es,L,O=>(ev C fu a L O).bind λx O=>bK (ME O x) .stuck λc=>bK (gk c m) .stuck λf=>(bw C fu es L O).bind λvs O=>C f (x::vs) O
 | .bt m a es,L,O=>(ev C fu a L O).bind λx O=>if pV m.kd O x=true then (bw C fu es L O).bind λvs O=>fM m O x vs else .stuck
 | .j4 a c d,L,O=>(ev C fu a L O).bind λx O=>x.onStr .stuck λs=>if s.length≤8000000 then .ok (.str (s.map λx=>if x=c then d else x)) O else .stuck
 | .new c es,L,O=>(bw C fu es L O).bind λvs O=>pW C c O vs
 | .bi b es,L,O=>(bw C fu es L O).bind λvs O=>mI b O vs
 | .comp bc caps iter,L,O=>(ev C fu iter L O).bind λx O=>x.dX .stuck λn=>nQ (fy (kx n) (λv O=>ev C fu bc (some v::caps.map L.get) O) fu 0 [] O)
 | .jw bc caps n,L,O=>(ev C fu n L O).bind λx O=>x.cE .stuck λk=>if smallInt k=true then nQ (fy (gv k) (λv O=>ev C fu bc (some v::caps.map L.get) O) fu 0 [] O) else .stuck
noncomputable def bw (C:Calls) (fu:Nat):Es→Locals→ag→Out (List V)
 | .nil,_,O=> .ok [] O
 | .cons e es,L,O=>(ev C fu e L O).bind λv O=>(bw C fu es L O).bind λvs O=> .ok (v::vs) O
noncomputable def ea (C:Calls) (fu:Nat) (t:Bool):Es→Locals→ag→Out V
 | .nil,_,_=> .stuck
 | .cons e es,L,O=>(ev C fu e L O).bind λv O=>v.iB .stuck λb=>match es with
  | .nil=> .ok (.bool b) O
  | .cons _ _=>match b==t with
   |true=>ea C fu t es L O
   |false=> .ok (.bool b) O
end
noncomputable def Out.toS (o:Out V) (L:Locals) (k:V→ag→aU):aU:=match o with
 | .stuck=> .stuck
 | .ok v O=>k v O
 | .exc e O=> .exc e L O
noncomputable def putAll:Locals→List Nat→List V→Option Locals
 |L,[],vs=>sH vs Option.none (some L)
 |L,i::is,vs=>match vs with
  |[]=>Option.none
  |v::vs=>putAll (L.put i v) is vs
noncomputable def Flow.turn (f:Flow) (L:Locals) (O:ag) (k:aU):aU:=match f with
 | .next=>k
 | .brk=> .ok .next L O
 | .ret v=> .ok (.ret v) L O
noncomputable def km (c:Locals→ag→Out V) (b:Locals→ag→aU):Nat→Locals→ag→aU
 |0,_,_=> .stuck
 |n+1,L,O=>(c L O).toS L λv O=>v.iB .stuck λt=>match t with
  |true=>(b L O).bind λf L O=>f.turn L O (km c b n L O)
  |false=> .ok .next L O
noncomputable def jd (item:Nat→ag→Option (Option V)) (x:Nat) (b:Locals→ag→aU):Nat→Nat→Locals→ag→aU
 |0,_,_,_=> .stuck
 |n+1,i,L,O=>bK (item i O) .stuck λo=>bK o (.ok .next L O) λv=>(b (L.put x v) O).bind λf L O=>f.turn L O (jd item x b n (i+1) L O)
noncomputable def oW (vs:List V):Option aX:=rA vs (aaT vs Option.none λk a d=>some ⟨k,a,d⟩) λk a=>some ⟨k,a,.str []⟩
noncomputable def qw (o:Out (List V)) (L:Locals):aU:=match o with
 | .stuck=> .stuck
 | .exc e O=> .exc e L O
 | .ok vs O=>bK (oW vs) .stuck λe=> .exc e L O
noncomputable def handled (o:aU) (w:Nat) (aQ:List Nat):aU:=match o with
 | .stuck=> .stuck
 | .ok f L O=> .ok f L O
 | .exc e L O=>bK ((L.get w).bind λx=>dh O x (.str aQ)) .stuck λy=>bK (ju O (.tup [e.k,e.a]) y) .stuck λr=> .ok (.ret (.bool r)) L O
noncomputable def Flow.oV (f:Flow) (L:Locals) (O:ag) (k:aU):aU:=match f with
 | .next=>k
 | .brk=> .ok .brk L O
 | .ret v=> .ok (.ret v) L O
mutual
noncomputable def ex (C:Calls) (fu:Nat):S→Locals→ag→aU
 | .expr e,L,O=>(ev C fu e L O).toS L λ_ O=> .ok .next L O
 | .aA i e,L,O=>(ev C fu e L O).toS L λv O=> .ok .next (L.put i v) O
 | .mC i e,L,O=>(ev C fu e L O).toS L λv O=> .ok .next (L.put i v) O
 | .setAttr o f e,L,O=>(ev C fu e L O).toS L λv O=>(ev C fu o L O).toS L λx O=>bK (qU O x f v) .stuck λO=> .ok .next L O
 | .eH o i e,L,O=>(ev C fu e L O).toS L λv O=>(ev C fu o L O).toS L λx O=>(ev C fu i L O).toS L λy O=>bK (jU O x y v) .stuck λO=> .ok .next L O
 | .unpack is e,L,O=>(ev C fu e L O).toS L λv O=>v.qN .stuck λvs=>bK (putAll L is vs) .stuck λL=> .ok .next L O
 | .gF i op e,L,O=>bK (L.get i) .stuck λx=>(ev C fu e L O).toS L λy O=>(jf op O x y).toS L λz O=> .ok .next (L.put i z) O
 | .gY o i op e,L,O=>(ev C fu o L O).toS L λx O=>(ev C fu i L O).toS L λy O=>(gj (dh O x y) O).toS L λold O=>
      (ev C fu e L O).toS L λv O=>(jf op O old v).toS L λz O=>bK (jU O x y z) .stuck λO=> .ok .next L O
 | .ret e,L,O=>(ev C fu e L O).toS L λv O=> .ok (.ret v) L O
 | .lQ,L,O=> .ok (.ret .none) L O
 | .ite c a b,L,O=>(ev C fu c L O).toS L λv O=>v.iB .stuck λt=>match t with
  |true=>ah C fu a L O
  |false=>ah C fu b L O
 | .dD c b,L,O=>km (ev C fu c) (ah C fu b) fu L O
 | .forL x e b,L,O=>(ev C fu e L O).toS L λv O=>v.dX .stuck λn=>jd (kx n) x (ah C fu b) fu 0 L O
 | .forR x e b,L,O=>(ev C fu e L O).toS L λv O=>v.cE .stuck λk=>if smallInt k=true then jd (gv k) x (ah C fu b) fu 0 L O else .stuck
 | .raise es,L,O=>qw (bw C fu es L O) L
 | .j8 b _ w aQ,L,O=>handled (ah C fu b L O) w aQ
 | .brk,L,O=> .ok .brk L O
 | .lb o i,L,O=>(ev C fu o L O).toS L λx O=>(ev C fu i L O).toS L λy O=>bK (rE O x y) .stuck λO=> .ok .next L O
noncomputable def ah (C:Calls) (fu:Nat):Ss→Locals→ag→aU
 | .nil,L,O=> .ok .next L O
 | .cons s ss,L,O=>(ex C fu s L O).bind λf L O=>f.oV L O (ah C fu ss L O)
end
structure Fn where
 np:Nat
 nl:Nat
 body:Ss
noncomputable def Flow.val (f:Flow) (O:ag):Out V:=match f with
 | .next=> .ok .none O
 | .brk=> .stuck
 | .ret v=> .ok v O
noncomputable def fH:aU→Out V
 | .stuck=> .stuck
 | .ok f _ O=>f.val O
 | .exc e _ O=> .exc e O
noncomputable def xE (C:Calls) (fu:Nat) (F:Fn) (vs:List V) (O:ag):Out V:=
 if vs.length=F.np∧F.np≤F.nl then fH (ah C fu F.body (vs.map some++List.replicate (F.nl-F.np) Option.none) O) else .stuck
noncomputable def ay (g7:List Fn) (fu:Nat):Nat→Calls
 |0=>λ_ _ _=> .stuck
 |n+1=>λf vs O=>bK g7[f]? .stuck λF=>xE (ay g7 fu n) fu F vs O
theorem dK {c:Prop} {d:Decidable c} {t:c→Bool} (h:(@dite Bool c d t λ_=>false)=true):c:=by
 cases d with
 |isTrue e=>exact e
 |isFalse _=>cases h
theorem aN {p q:Bool} {P:Prop} (h:(p&&q)=true) (k:p=true→q=true→P):P:=by
 cases p
 ·cases h
 ·exact k rfl h
theorem fo {α:Type} [BEq α] [LawfulBEq α] {a b:α} {P:α→Prop} (h:(a==b)=true) (k:P b):P a:=by rw [eq_of_beq h];exact k
theorem acR {p:Prop} [d:Decidable p] {P:Prop} (h:decide p=true) (k:p→P):P:=k (ado h)
noncomputable def wl (x:PySem.Expr) (f:BoolOp→(List PySem.Expr)→Pos→Bool):Bool:=if h:x.ctorIdx=0 then PySem.Expr.BoolOp.elim x h f else false
theorem HO {P:PySem.Expr→Prop} {f:BoolOp→(List PySem.Expr)→Pos→Bool} {x:PySem.Expr} (h:wl x f=true) (k:∀a b c,f a b c=true→P (.BoolOp a b c)):P x:=
 PySem.Expr.BoolOp.elim (motive_1:=λx=>wl x f=true→P x) x (dK h) k h
noncomputable def zV (x:PySem.Expr) (f:PySem.Expr→Operator→PySem.Expr→Pos→Bool):Bool:=if h:x.ctorIdx=2 then PySem.Expr.BinOp.elim x h f else false
theorem Sm {P:PySem.Expr→Prop} {f:PySem.Expr→Operator→PySem.Expr→Pos→Bool} {x:PySem.Expr} (h:zV x f=true) (k:∀a b c d,f a b c d=true→P (.BinOp a b c d)):P x:=
 PySem.Expr.BinOp.elim (motive_1:=λx=>zV x f=true→P x) x (dK h) k h
noncomputable def xC (x:PySem.Expr) (f:UnaryOp→PySem.Expr→Pos→Bool):Bool:=if h:x.ctorIdx=3 then PySem.Expr.UnaryOp.elim x h f else false
theorem Ng {P:PySem.Expr→Prop} {f:UnaryOp→PySem.Expr→Pos→Bool} {x:PySem.Expr} (h:xC x f=true) (k:∀a b c,f a b c=true→P (.UnaryOp a b c)):P x:=
 PySem.Expr.UnaryOp.elim (motive_1:=λx=>xC x f=true→P x) x (dK h) k h
noncomputable def DJ (x:PySem.Expr) (f:PySem.Expr→PySem.Expr→PySem.Expr→Pos→Bool):Bool:=if h:x.ctorIdx=5 then PySem.Expr.IfExp.elim x h f else false
theorem QN {P:PySem.Expr→Prop} {f:PySem.Expr→PySem.Expr→PySem.Expr→Pos→Bool} {x:PySem.Expr} (h:DJ x f=true) (k:∀a b c d,f a b c d=true→P (.IfExp a b c d)):P x:=
 PySem.Expr.IfExp.elim (motive_1:=λx=>DJ x f=true→P x) x (dK h) k h
noncomputable def zS (x:PySem.Expr) (f:(List (Option PySem.Expr))→(List PySem.Expr)→Pos→Bool):Bool:=if h:x.ctorIdx=6 then PySem.Expr.Dict.elim x h f else false
theorem ZL {P:PySem.Expr→Prop} {f:(List (Option PySem.Expr))→(List PySem.Expr)→Pos→Bool} {x:PySem.Expr} (h:zS x f=true) (k:∀a b c,f a b c=true→P (.Dict a b c)):P x:=
 PySem.Expr.Dict.elim (motive_1:=λx=>zS x f=true→P x) x (dK h) k h
noncomputable def ug (x:PySem.Expr) (f:PySem.Expr→(List Comprehension)→Scope→Pos→Bool):Bool:=if h:x.ctorIdx=8 then PySem.Expr.ListComp.elim x h f else false
theorem CF {P:PySem.Expr→Prop} {f:PySem.Expr→(List Comprehension)→Scope→Pos→Bool} {x:PySem.Expr} (h:ug x f=true) (k:∀a b c d,f a b c d=true→P (.ListComp a b c d)):P x:=
 PySem.Expr.ListComp.elim (motive_1:=λx=>ug x f=true→P x) x (dK h) k h
noncomputable def vS (x:PySem.Expr) (f:PySem.Expr→(List CmpOp)→(List PySem.Expr)→Pos→Bool):Bool:=if h:x.ctorIdx=15 then PySem.Expr.Compare.elim x h f else false
theorem JJ {P:PySem.Expr→Prop} {f:PySem.Expr→(List CmpOp)→(List PySem.Expr)→Pos→Bool} {x:PySem.Expr} (h:vS x f=true) (k:∀a b c d,f a b c d=true→P (.Compare a b c d)):P x:=
 PySem.Expr.Compare.elim (motive_1:=λx=>vS x f=true→P x) x (dK h) k h
noncomputable def kK (x:PySem.Expr) (f:PySem.Expr→(List PySem.Expr)→(List Keyword)→Pos→Bool):Bool:=if h:x.ctorIdx=16 then PySem.Expr.Call.elim x h f else false
theorem mS {P:PySem.Expr→Prop} {f:PySem.Expr→(List PySem.Expr)→(List Keyword)→Pos→Bool} {x:PySem.Expr} (h:kK x f=true) (k:∀a b c d,f a b c d=true→P (.Call a b c d)):P x:=
 PySem.Expr.Call.elim (motive_1:=λx=>kK x f=true→P x) x (dK h) k h
noncomputable def sN (x:PySem.Expr) (f:Const→Nat→Pos→Bool):Bool:=if h:x.ctorIdx=19 then PySem.Expr.Constant.elim x h f else false
theorem wJ {P:PySem.Expr→Prop} {f:Const→Nat→Pos→Bool} {x:PySem.Expr} (h:sN x f=true) (k:∀a b c,f a b c=true→P (.Constant a b c)):P x:=
 PySem.Expr.Constant.elim (motive_1:=λx=>sN x f=true→P x) x (dK h) k h
noncomputable def oB (x:PySem.Expr) (f:PySem.Expr→Str→Pos→Bool):Bool:=if h:x.ctorIdx=20 then PySem.Expr.Attribute.elim x h f else false
theorem r9 {P:PySem.Expr→Prop} {f:PySem.Expr→Str→Pos→Bool} {x:PySem.Expr} (h:oB x f=true) (k:∀a b c,f a b c=true→P (.Attribute a b c)):P x:=
 PySem.Expr.Attribute.elim (motive_1:=λx=>oB x f=true→P x) x (dK h) k h
noncomputable def nY (x:PySem.Expr) (f:PySem.Expr→PySem.Expr→Pos→Bool):Bool:=if h:x.ctorIdx=21 then PySem.Expr.Subscript.elim x h f else false
theorem qP {P:PySem.Expr→Prop} {f:PySem.Expr→PySem.Expr→Pos→Bool} {x:PySem.Expr} (h:nY x f=true) (k:∀a b c,f a b c=true→P (.Subscript a b c)):P x:=
 PySem.Expr.Subscript.elim (motive_1:=λx=>nY x f=true→P x) x (dK h) k h
noncomputable def eO (x:PySem.Expr) (f:Str→Pos→Bool):Bool:=if h:x.ctorIdx=23 then PySem.Expr.Name.elim x h f else false
theorem iO {P:PySem.Expr→Prop} {f:Str→Pos→Bool} {x:PySem.Expr} (h:eO x f=true) (k:∀a b,f a b=true→P (.Name a b)):P x:=
 PySem.Expr.Name.elim (motive_1:=λx=>eO x f=true→P x) x (dK h) k h
noncomputable def Dw (x:PySem.Expr) (f:(List PySem.Expr)→Pos→Bool):Bool:=if h:x.ctorIdx=24 then PySem.Expr.List.elim x h f else false
theorem O5 {P:PySem.Expr→Prop} {f:(List PySem.Expr)→Pos→Bool} {x:PySem.Expr} (h:Dw x f=true) (k:∀a b,f a b=true→P (.List a b)):P x:=
 PySem.Expr.List.elim (motive_1:=λx=>Dw x f=true→P x) x (dK h) k h
noncomputable def sU (x:PySem.Expr) (f:(List PySem.Expr)→Nat→Pos→Bool):Bool:=if h:x.ctorIdx=25 then PySem.Expr.Tuple.elim x h f else false
theorem Ck {P:PySem.Expr→Prop} {f:(List PySem.Expr)→Nat→Pos→Bool} {x:PySem.Expr} (h:sU x f=true) (k:∀a b c,f a b c=true→P (.Tuple a b c)):P x:=
 PySem.Expr.Tuple.elim (motive_1:=λx=>sU x f=true→P x) x (dK h) k h
noncomputable def zP (x:PySem.Expr) (f:(Option PySem.Expr)→(Option PySem.Expr)→(Option PySem.Expr)→Pos→Bool):Bool:=if h:x.ctorIdx=26 then PySem.Expr.Slice.elim x h f else false
theorem aaX {P:PySem.Expr→Prop} {f:(Option PySem.Expr)→(Option PySem.Expr)→(Option PySem.Expr)→Pos→Bool} {x:PySem.Expr} (h:zP x f=true) (k:∀a b c d,f a b c d=true→P (.Slice a b c d)):P x:=
 PySem.Expr.Slice.elim (motive_1:=λx=>zP x f=true→P x) x (dK h) k h
noncomputable def tn (x:PySem.Stmt) (f:(Option PySem.Expr)→Pos→Bool):Bool:=if h:x.ctorIdx=3 then PySem.Stmt.Return.elim x h f else false
theorem Ew {P:PySem.Stmt→Prop} {f:(Option PySem.Expr)→Pos→Bool} {x:PySem.Stmt} (h:tn x f=true) (k:∀a b,f a b=true→P (.Return a b)):P x:=
 PySem.Stmt.Return.elim (motive_2:=λx=>tn x f=true→P x) x (dK h) k h
noncomputable def B9 (x:PySem.Stmt) (f:(List PySem.Expr)→Pos→Bool):Bool:=if h:x.ctorIdx=4 then PySem.Stmt.Delete.elim x h f else false
theorem Tv {P:PySem.Stmt→Prop} {f:(List PySem.Expr)→Pos→Bool} {x:PySem.Stmt} (h:B9 x f=true) (k:∀a b,f a b=true→P (.Delete a b)):P x:=
 PySem.Stmt.Delete.elim (motive_2:=λx=>B9 x f=true→P x) x (dK h) k h
noncomputable def p6 (x:PySem.Stmt) (f:(List PySem.Expr)→PySem.Expr→Pos→Bool):Bool:=if h:x.ctorIdx=5 then PySem.Stmt.Assign.elim x h f else false
theorem ui {P:PySem.Stmt→Prop} {f:(List PySem.Expr)→PySem.Expr→Pos→Bool} {x:PySem.Stmt} (h:p6 x f=true) (k:∀a b c,f a b c=true→P (.Assign a b c)):P x:=
 PySem.Stmt.Assign.elim (motive_2:=λx=>p6 x f=true→P x) x (dK h) k h
noncomputable def yp (x:PySem.Stmt) (f:PySem.Expr→Operator→PySem.Expr→Pos→Bool):Bool:=if h:x.ctorIdx=7 then PySem.Stmt.AugAssign.elim x h f else false
theorem GB {P:PySem.Stmt→Prop} {f:PySem.Expr→Operator→PySem.Expr→Pos→Bool} {x:PySem.Stmt} (h:yp x f=true) (k:∀a b c d,f a b c d=true→P (.AugAssign a b c d)):P x:=
 PySem.Stmt.AugAssign.elim (motive_2:=λx=>yp x f=true→P x) x (dK h) k h
noncomputable def wK (x:PySem.Stmt) (f:PySem.Expr→PySem.Expr→(List Stmt)→(List Stmt)→Pos→Bool):Bool:=if h:x.ctorIdx=9 then PySem.Stmt.For.elim x h f else false
theorem GK {P:PySem.Stmt→Prop} {f:PySem.Expr→PySem.Expr→(List Stmt)→(List Stmt)→Pos→Bool} {x:PySem.Stmt} (h:wK x f=true) (k:∀a b c d e,f a b c d e=true→P (.For a b c d e)):P x:=
 PySem.Stmt.For.elim (motive_2:=λx=>wK x f=true→P x) x (dK h) k h
noncomputable def zT (x:PySem.Stmt) (f:PySem.Expr→(List Stmt)→(List Stmt)→Pos→Bool):Bool:=if h:x.ctorIdx=11 then PySem.Stmt.While.elim x h f else false
theorem P9 {P:PySem.Stmt→Prop} {f:PySem.Expr→(List Stmt)→(List Stmt)→Pos→Bool} {x:PySem.Stmt} (h:zT x f=true) (k:∀a b c d,f a b c d=true→P (.While a b c d)):P x:=
 PySem.Stmt.While.elim (motive_2:=λx=>zT x f=true→P x) x (dK h) k h
noncomputable def A5 (x:PySem.Stmt) (f:PySem.Expr→(List Stmt)→(List Stmt)→Pos→Bool):Bool:=if h:x.ctorIdx=12 then PySem.Stmt.If.elim x h f else false
theorem ZN {P:PySem.Stmt→Prop} {f:PySem.Expr→(List Stmt)→(List Stmt)→Pos→Bool} {x:PySem.Stmt} (h:A5 x f=true) (k:∀a b c d,f a b c d=true→P (.If a b c d)):P x:=
 PySem.Stmt.If.elim (motive_2:=λx=>A5 x f=true→P x) x (dK h) k h
noncomputable def DH (x:PySem.Stmt) (f:(Option PySem.Expr)→(Option PySem.Expr)→Pos→Bool):Bool:=if h:x.ctorIdx=16 then PySem.Stmt.Raise.elim x h f else false
theorem QC {P:PySem.Stmt→Prop} {f:(Option PySem.Expr)→(Option PySem.Expr)→Pos→Bool} {x:PySem.Stmt} (h:DH x f=true) (k:∀a b c,f a b c=true→P (.Raise a b c)):P x:=
 PySem.Stmt.Raise.elim (motive_2:=λx=>DH x f=true→P x) x (dK h) k h
noncomputable def DM (x:PySem.Stmt) (f:(List Stmt)→(List ExceptHandler)→(List Stmt)→(List Stmt)→Pos→Bool):Bool:=if h:x.ctorIdx=17 then PySem.Stmt.Try.elim x h f else false
theorem Rz {P:PySem.Stmt→Prop} {f:(List Stmt)→(List ExceptHandler)→(List Stmt)→(List Stmt)→Pos→Bool} {x:PySem.Stmt} (h:DM x f=true) (k:∀a b c d e,f a b c d e=true→P (.Try a b c d e)):P x:=
 PySem.Stmt.Try.elim (motive_2:=λx=>DM x f=true→P x) x (dK h) k h
noncomputable def Bb (x:PySem.Stmt) (f:PySem.Expr→Pos→Bool):Bool:=if h:x.ctorIdx=24 then PySem.Stmt.Expr.elim x h f else false
theorem aaH {P:PySem.Stmt→Prop} {f:PySem.Expr→Pos→Bool} {x:PySem.Stmt} (h:Bb x f=true) (k:∀a b,f a b=true→P (.Expr a b)):P x:=
 PySem.Stmt.Expr.elim (motive_2:=λx=>Bb x f=true→P x) x (dK h) k h
noncomputable def B7 (x:PySem.Stmt) (f:Pos→Bool):Bool:=if h:x.ctorIdx=26 then PySem.Stmt.Break.elim x h f else false
theorem QM {P:PySem.Stmt→Prop} {f:Pos→Bool} {x:PySem.Stmt} (h:B7 x f=true) (k:∀a,f a=true→P (.Break a)):P x:=
 PySem.Stmt.Break.elim (motive_2:=λx=>B7 x f=true→P x) x (dK h) k h
noncomputable def B8 (x:PySem.Const) (f:Bool→Bool):Bool:=if h:x.ctorIdx=1 then PySem.Const.bool.elim x h f else false
theorem RN {P:PySem.Const→Prop} {f:Bool→Bool} {x:PySem.Const} (h:B8 x f=true) (k:∀a,f a=true→P (.bool a)):P x:=
 PySem.Const.bool.elim (motive:=λx=>B8 x f=true→P x) x (dK h) k h
noncomputable def AB (x:PySem.Const) (f:Int→Bool):Bool:=if h:x.ctorIdx=2 then PySem.Const.int.elim x h f else false
theorem Qo {P:PySem.Const→Prop} {f:Int→Bool} {x:PySem.Const} (h:AB x f=true) (k:∀a,f a=true→P (.int a)):P x:=
 PySem.Const.int.elim (motive:=λx=>AB x f=true→P x) x (dK h) k h
noncomputable def B4 (x:PySem.Const) (f:Str→Bool):Bool:=if h:x.ctorIdx=5 then PySem.Const.str.elim x h f else false
theorem VA {P:PySem.Const→Prop} {f:Str→Bool} {x:PySem.Const} (h:B4 x f=true) (k:∀a,f a=true→P (.str a)):P x:=
 PySem.Const.str.elim (motive:=λx=>B4 x f=true→P x) x (dK h) k h
noncomputable def fR {α:Type} (l:List α) (f:α→Bool):Bool:=match l with |[]=>false |a::r=>r.isEmpty&&f a
theorem gV {α:Type} {P:List α→Prop} {f:α→Bool} {l:List α} (h:fR l f=true) (k:∀a,f a=true→P [a]):P l:=match l,h with
 |[a],h=>k a h
noncomputable def e8 {α:Type} (l:List α) (b:Bool):Bool:=match l with |[]=>b |_::_=>false
theorem fY {α:Type} {P:List α→Prop} {b:Bool} {l:List α} (h:e8 l b=true) (k:b=true→P []):P l:=match l,h with
 |[],h=>k h
noncomputable def iI {α:Type} (o:Option α) (f:α→Bool):Bool:=match o with |some a=>f a |Option.none=>false
theorem qp {α:Type} {P:Option α→Prop} {f:α→Bool} {o:Option α} (h:iI o f=true) (k:∀a,f a=true→P (some a)):P o:=match o,h with
 |some a,h=>k a h
noncomputable def yz {α:Type} (o:Option α) (b:Bool):Bool:=match o with |some _=>false |Option.none=>b
theorem AA {α:Type} {P:Option α→Prop} {b:Bool} {o:Option α} (h:yz o b=true) (k:b=true→P Option.none):P o:=match o,h with
 |Option.none,h=>k h
noncomputable def cps (s:String):List Nat:=s.toList.map Char.toNat
noncomputable def lm:List String:=["is_name_char","name_end","row_end","blanks_end","layout_end","string_end","remark_end","escaped_end","whole_end","count_rows","read_arguments","substitute","read_body",
 "directive_names","","","","","","","","","","","","","","_law_pool","_law_pick","_law_macro","_law_written","_law_filled","_law_expanded","_law_emit","_law_use","_law_define","_law_condition","_law_rows","law"]
noncomputable def gG (l:List String) (i:Nat) (x:Str):Bool:=iI l[i]? λs=>x==Str.ofString s&&s !=""
noncomputable def DL:List String:=["MOST_DEPTH","MOST_USES"]
noncomputable def th:cj→String
 | .macro=>"Macro"
 | .table=>"MacroTable"
 | .et=>"Preprocessor"
noncomputable def o8:Bi→String
 | .len=>"len" | .min=>"min" | .max=>"max" | .int=>"int" | .abs=>"abs" | .sorted=>"sorted"
noncomputable def Bm.name:Bm→String
 | .append=>"append" | .pop=>"pop" | .mW=>"pop" | .index=>"index" | .join=>"join" | .strip=>"strip" | .count=>"count" | .split=>"split"
noncomputable def jB:BinOp→Operator
 | .add=> .Add | .sub=> .Sub | .mul=> .Mult | .fdiv=> .FloorDiv | .mod=> .Mod
noncomputable def f7:mD→CmpOp
 | .eq=> .Eq | .ne=> .NotEq | .lt=> .Lt | .le=> .LtE | .gt=> .Gt | .ge=> .GtE | .is=> .Is | .iM=> .IsNot | .isin=> .In | .ix=> .NotIn
noncomputable def boolOf:Bool→BoolOp
 |true=> .And |false=> .Or
noncomputable def d6 (sc:Scope) (x:Str):Bool:=sc.names.lookup x==some .globalImplicit&&x !=Str.ofString "__debug__"
noncomputable def iG (sc:Scope) (nm:List Str) (i:Nat) (x:Str):Bool:=nm[i]?==some x&&x !=Str.ofString "__debug__"&&(sc.names.lookup x==some .local||sc.names.lookup x==some .cell)
noncomputable def dQ (sc:Scope) (nm:List Str) (i:Nat) (x:Str):Bool:=nm[i]?==some x&&sc.names.lookup x==some .local&&x !=Str.ofString "__debug__"
noncomputable def ig (sc:Scope):Scope:={sc with names:=sc.names.map λ(n,k)=>if k== .free then (n,.cell) else (n,k)}
noncomputable def freeNames (sc:Scope):List Str:=(sc.names.filter λx=>x.2== .free).map (·.1)
noncomputable def l7 (sc:Scope) (nm:List Str) (aG:Scope) (x:Str) (caps:List Nat):Bool:=
 aG.kind== .function&&aG.names.all (λy=>y.2!= .cell)&&aG.names.all (λy=>y.2!= .local||aG.names.lookup y.1==some .local)&&aG.names.lookup x==some .local&&
 (freeNames aG).map some==caps.map (λi=>nm[i]?)&&(freeNames aG).all (λn=>sc.names.lookup n==some .cell)&&(freeNames aG).all (λn=>aG.names.lookup n==some .free)&&sc.kind== .function&&decide (freeNames aG).Nodup
noncomputable def acj (n:Nat) (x:PySem.Expr):Bool:=x.ctorIdx==n
noncomputable def kU (x:PySem.Expr):Bool:=x.ctorIdx !=26
noncomputable def dJ (x:PySem.Expr):Bool:=x.ctorIdx !=22&&x.ctorIdx !=7
noncomputable def kM (x:PySem.Expr):Bool:=x.ctorIdx !=8&&(x.ctorIdx !=9&&x.ctorIdx !=10)
noncomputable def j1 (x:PySem.Expr):Bool:=if h:x.ctorIdx=16 then PySem.Expr.Call.elim x h (λf _ _ _=>f.ctorIdx !=23) else true
noncomputable def AR {α:Type} (l:List α) (f:α→α→Bool):Bool:=match l with |[]=>false |a::r=>fR r (f a)
noncomputable def rG (x:PySem.Expr) (l:List Nat):Bool:=sN x λc _ _=>B4 c λx=>x.cps.toList==l
noncomputable def rq:List (List Nat)→List (Option PySem.Expr)→Bool
 |[],xs=>e8 xs true
 |k::ks,xs=>match xs with
  |[]=>false
  |x::r=>iI x (rG · k)&&rq ks r
noncomputable def Yw (c d:Nat) (l:List PySem.Expr):Bool:=AR l λy z=>rG y [c]&&rG z [d]
noncomputable def qC (x:E):Bool:=x.ctorIdx==0
theorem aal {P:E→Prop} {x:E} (h:qC x=true) (k:P .none):P x:=E.none.elim x (eq_of_beq h) k
noncomputable def tL (f:PySem.Expr→Bool) (z:Bool) (o:Option PySem.Expr) (b:Bool):Bool:=match o with
 |some x=>b&&f x
 |Option.none=> !b&&z
mutual
noncomputable def aF (sc:Scope) (nm:List Str):E→PySem.Expr→Bool
 | .none,x=>sN x λc _ _=>c.ctorIdx==0
 | .bool b,x=>sN x λc _ _=>B8 c λd=>d==b
 | .int i,x=>sN x λc _ _=>AB c λd=>d==i
 | .str s,x=>rG x s&&decide (s.length≤1000)
 | .loc i,x=>eO x λy _=>iG sc nm i y
 | .jS k,x=>eO x λy _=>gG DL k y&&d6 sc y
 | .bin op a b,x=>zV x λl o r _=>o==jB op&&(aF sc nm a l&&aF sc nm b r)
 | .cmp op a b,x=>vS x λl os rs _=>fR os λo=>fR rs λr=>o==f7 op&&(!behindInMarks o r&&(aF sc nm a l&&aF sc nm b r))
 | .and es,x=>wl x λo vs _=>o== .And&&cC sc nm es vs
 | .or es,x=>wl x λo vs _=>o== .Or&&cC sc nm es vs
 | .not a,x=>xC x λo y _=>o== .Not&&aF sc nm a y
 | .neg a,x=>xC x λo y _=>o== .USub&&aF sc nm a y
 | .ite c a b,x=>DJ x λt y z _=>aF sc nm c t&&(aF sc nm a y&&aF sc nm b z)
 | .tup es,x=>sU x λvs _ _=>decide (vs.length≤1000)&&cC sc nm es vs
 | .list es,x=>Dw x λvs _=>decide (vs.length≤1000)&&cC sc nm es vs
 | .dict ks es,x=>zS x λcu vs _=>rq ks cu&&(cC sc nm es vs&&(decide (vs.length≤15)&&cu.length==vs.length))
 | .idx a i,x=>nY x λy j _=>aF sc nm a y&&(aF sc nm i j&&kU j)
 | .slice a lo hi hl hh,x=>nY x λy j _=>zP j λl u s _=>yz s (aF sc nm a y&&(tL (aF sc nm lo) (qC lo) l hl&&tL (aF sc nm hi) (qC hi) u hh))
 | .attr a f,x=>oB x λy n _=>gG uB f n&&(aF sc nm a y&&j1 y)
 | .call f es,x=>kK x λy args ks _=>e8 ks (eO y λn _=>gG lm f n&&(d6 sc n&&cC sc nm es args))
 | .own a m es,x=>kK x λy args ks p=>e8 ks (oB y λo n ap=>gG DO m n&&(aF sc nm a o&&(cC sc nm es args&&(j1 o&&(ap.endLine==p.line&&decide (args.length+1<30))))))
 | .bt b a es,x=>kK x λy args ks p=>e8 ks (oB y λo n ap=>n==Str.ofString b.name&&(aF sc nm a o&&(cC sc nm es args&&(j1 o&&(ap.endLine==p.line&&decide (args.length+1<30))))))
 | .j4 a c d,x=>kK x λy args ks p=>e8 ks (oB y λo n ap=>n==Str.ofString "replace"&&(aF sc nm a o&&(j1 o&&(ap.endLine==p.line&&(decide (c≠d)&&Yw c d args)))))
 | .new c es,x=>kK x λy args ks _=>e8 ks (eO y λn _=>n==Str.ofString (th c)&&(d6 sc n&&cC sc nm es args))
 | .bi b es,x=>kK x λy args ks _=>e8 ks (eO y λn _=>n==Str.ofString (o8 b)&&(d6 sc n&&cC sc nm es args))
 | .comp bc caps it,x=>ug x λpe gs aG _=>fR gs λg=>eO g.target λy _=>e8 g.ifs (g.is_async==0&&(aF sc nm it g.iter&&(l7 sc nm aG y caps&&aF (ig aG) (y::freeNames aG) bc pe)))
 | .jw bc caps n,x=>ug x λpe gs aG _=>fR gs λg=>eO g.target λy _=>e8 g.ifs (g.is_async==0&&kK g.iter λrg ps ks _=>fR ps λpn=>e8 ks (eO rg λr _=>r==Str.ofString "range"&&
      (d6 sc r&&(aF sc nm n pn&&(l7 sc nm aG y caps&&aF (ig aG) (y::freeNames aG) bc pe)))))
noncomputable def cC (sc:Scope) (nm:List Str):Es→List PySem.Expr→Bool
 | .nil,xs=>e8 xs true
 | .cons e es,xs=>match xs with
  |[]=>false
  |x::xs=>aF sc nm e x&&cC sc nm es xs
end
noncomputable def n6 (sc:Scope) (nm:List Str):List Nat→List PySem.Expr→Bool
 |[],xs=>e8 xs true
 |i::is,xs=>match xs with
  |[]=>false
  |x::r=>(eO x λy _=>dQ sc nm i y)&&n6 sc nm is r
noncomputable def Ek (v:PySem.Expr):Bool:=if h:v.ctorIdx=25 then PySem.Expr.Tuple.elim v h (λvs _ _=>vs.all (foldedForSure 8)) else true
noncomputable def A6 (v:Str) (a:String) (x:PySem.Expr):Bool:=oB x λy n _=>n==Str.ofString a&&eO y λz _=>z==v
noncomputable def Dj (v:Str) (x:PySem.Expr):Bool:=sU x λts _ _=>AR ts λa b=>A6 v "kind" a&&A6 v "at" b
noncomputable def A4 (sc:Scope) (nm:List Str) (w:Nat) (aQ:List Nat) (v:Str) (x:PySem.Expr):Bool:=nY x λy k _=>rG k aQ&&eO y λn _=>iG sc nm w n&&n !=v
noncomputable def Bj (sc:Scope) (nm:List Str) (w:Nat) (aQ:List Nat) (v:Str) (x:PySem.Expr):Bool:=vS x λl os rs _=>fR os λo=>fR rs λr=>o== .Eq&&(Dj v l&&A4 sc nm w aQ v r)
noncomputable def rK (sc:Scope) (nm:List Str) (w:Nat) (aQ:List Nat) (v:Str) (l:List PySem.Stmt):Bool:=fR l λst=>tn st λe _=>iI e (Bj sc nm w aQ v)
noncomputable def yg (sc:Scope) (nm:List Str) (i w:Nat) (aQ:List Nat) (h:ExceptHandler):Bool:=match h with
 | .ExceptHandler ty v body _=>iI ty λty=>eO ty λn _=>n==Str.ofString "SourceError"&&(d6 sc n&&iI v λv=>dQ sc nm i v&&(v !=Str.ofString "__debug__"&&rK sc nm w aQ v body))
mutual
noncomputable def fj (sc:Scope) (nm:List Str):S→PySem.Stmt→Bool
 | .expr e,st=>Bb st λx _=>aF sc nm e x&&kM x
 | .aA i e,st=>p6 st λts x _=>fR ts λt=>eO t λn _=>dQ sc nm i n&&(aF sc nm e x&&kM x)
 | .mC i e,st=>p6 st λts x _=>fR ts λt=>eO t λn q=>(e.ctorIdx==25||e.ctorIdx==26)&&(dQ sc nm i n&&(aF sc nm e x&&ug x λ_ _ c p=>q.line==p.line&& !(c.names.any λy=>y.1==n&&(y.2== .local||y.2== .cell))))
 | .setAttr o f e,st=>p6 st λts v _=>fR ts λt=>oB t λx n _=>gG uB f n&&(aF sc nm o x&&(aF sc nm e v&&kM v))
 | .eH o i e,st=>p6 st λts v _=>fR ts λt=>nY t λx j _=>aF sc nm o x&&(aF sc nm i j&&(kU j&&(aF sc nm e v&&kM v)))
 | .unpack is e,st=>p6 st λts v _=>fR ts λt=>sU t λts _ _=>n6 sc nm is ts&&(aF sc nm e v&&(kM v&&(Ek v&&decide is.Nodup)))
 | .gF i op e,st=>yp st λt o v _=>eO t λn _=>o==jB op&&(dQ sc nm i n&&aF sc nm e v)
 | .gY x i op e,st=>yp st λt o v _=>nY t λpx pi _=>o==jB op&&(aF sc nm x px&&(aF sc nm i pi&&(kU pi&&aF sc nm e v)))
 | .ret e,st=>tn st λo _=>iI o λx=>aF sc nm e x
 | .lQ,st=>tn st λo _=>yz o true
 | .ite c a b,st=>A5 st λt x y _=>aF sc nm c t&&(eD sc nm a x&&eD sc nm b y)
 | .dD c b,st=>zT st λt x eP _=>e8 eP (aF sc nm c t&&eD sc nm b x)
 | .forL i e b,st=>wK st λt it x eP _=>e8 eP (eO t λn _=>dQ sc nm i n&&(aF sc nm e it&&eD sc nm b x))
 | .forR i e b,st=>wK st λt it x eP _=>e8 eP (eO t λn _=>kK it λrg ps ks _=>fR ps λpn=>e8 ks (eO rg λr _=>r==Str.ofString "range"&&(dQ sc nm i n&&(d6 sc r&&(aF sc nm e pn&&eD sc nm b x)))))
 | .raise es,st=>DH st λex c _=>yz c (iI ex λx=>kK x λf args ks _=>e8 ks (eO f λn _=>n==Str.ofString "SourceError"&&(d6 sc n&&cC sc nm es args)))
 | .j8 b i w aQ,st=>DM st λx hs eP fin _=>e8 eP (e8 fin (fR hs (yg sc nm i w aQ)&&eD sc nm b x))
 | .brk,st=>B7 st λ_=>true
 | .lb o i,st=>B9 st λts _=>fR ts λt=>nY t λx j _=>aF sc nm o x&&(aF sc nm i j&&kU j)
noncomputable def eD (sc:Scope) (nm:List Str):Ss→List PySem.Stmt→Bool
 | .nil,xs=>e8 xs true
 | .cons s ss,xs=>match xs with
  |[]=>false
  |x::xs=>fj sc nm s x&&eD sc nm ss xs
end
section
variable {sc:Scope} {nm:List Str} {P:PySem.Expr→Prop} {Ps:List PySem.Expr→Prop} {x:PySem.Expr} {xs:List PySem.Expr} {a b c e:E} {es:Es}
theorem IF {α:Type} {P:List α→Prop} {f:α→α→Bool} {l:List α} (h:AR l f=true) (k:∀a b,f a b=true→P [a,b]):P l:=match l,h with
 |a::r,h=>gV (P:=λr=>P (a::r)) (l:=r) h (k a)
theorem sX {l:List Nat} (h:rG x l=true) (k:∀q p,P (.Constant (.str ⟨l.toArray⟩) q p)):P x:=
 wJ h λc q p h=>VA (P:=λc=>P (.Constant c q p)) h λy h=>fo (P:=λl=>P (.Constant (.str y) q p)) h (by
  obtain ⟨y⟩:=y
  have e:y.toList=l:=eq_of_beq h
  subst e;exact k q p)
theorem Ad (h:aF sc nm .none x=true) (k:∀q p,P (.Constant .none q p)):P x:=
 wJ h λc q p h=>Const.none.elim (motive:=λc=>P (.Constant c q p)) c (eq_of_beq h) (k q p)
theorem Ce {b:Bool} (h:aF sc nm (.bool b) x=true) (k:∀q p,P (.Constant (.bool b) q p)):P x:=
 wJ h λc q p h=>RN (P:=λc=>P (.Constant c q p)) h λd h=>fo (P:=λd=>P (.Constant (.bool d) q p)) h (k q p)
theorem zH {i:Int} (h:aF sc nm (.int i) x=true) (k:∀q p,P (.Constant (.int i) q p)):P x:=
 wJ h λc q p h=>Qo (P:=λc=>P (.Constant c q p)) h λd h=>fo (P:=λd=>P (.Constant (.int d) q p)) h (k q p)
theorem zu {l:List Nat} (h:aF sc nm (.str l) x=true) (k:∀q p,l.length≤1000→P (.Constant (.str ⟨l.toArray⟩) q p)):P x:=
 aN h λh1 h2=>sX h1 λq p=>k q p (ado h2)
theorem z8 {i:Nat} (h:aF sc nm (.loc i) x=true) (k:∀y p,iG sc nm i y=true→P (.Name y p)):P x:=iO h k
theorem DK {i:Nat} (h:aF sc nm (.jS i) x=true) (k:∀y p,gG DL i y=true→d6 sc y=true→P (.Name y p)):P x:=
 iO h λy p h=>aN h (k y p)
theorem C2 {op:BinOp} (h:aF sc nm (.bin op a b) x=true) (k:∀l r p,aF sc nm a l=true→aF sc nm b r=true→P (.BinOp l (jB op) r p)):P x:=
 Sm h λl o r p h=>aN h λh1 h=>aN h λh2 h3=>fo (P:=λo=>P (.BinOp l o r p)) h1 (k l r p h2 h3)
theorem yY {op:mD} (h:aF sc nm (.cmp op a b) x=true) (k:∀l r p,behindInMarks (f7 op) r=false→aF sc nm a l=true→aF sc nm b r=true→P (.Compare l [f7 op] [r] p)):P x:=
 JJ h λl os rs p h=>gV (P:=λos=>P (.Compare l os rs p)) h λo h=>gV (P:=λrs=>P (.Compare l [o] rs p)) h λr h=>aN h λh1 h=>
  fo (P:=λo=>(!behindInMarks o r&&(aF sc nm a l&&aF sc nm b r))=true→P (.Compare l [o] [r] p)) h1 (λh=>aN h λh2 h=>aN h (k l r p (Bool.not_eq_true' _▸h2))) h
theorem CP (h:aF sc nm (.and es) x=true) (k:∀vs p,cC sc nm es vs=true→P (.BoolOp .And vs p)):P x:=
 HO h λo vs p h=>aN h λh1 h2=>fo (P:=λo=>P (.BoolOp o vs p)) h1 (k vs p h2)
theorem AQ (h:aF sc nm (.or es) x=true) (k:∀vs p,cC sc nm es vs=true→P (.BoolOp .Or vs p)):P x:=
 HO h λo vs p h=>aN h λh1 h2=>fo (P:=λo=>P (.BoolOp o vs p)) h1 (k vs p h2)
theorem zv (h:aF sc nm (.not a) x=true) (k:∀y p,aF sc nm a y=true→P (.UnaryOp .Not y p)):P x:=
 Ng h λo y p h=>aN h λh1 h2=>fo (P:=λo=>P (.UnaryOp o y p)) h1 (k y p h2)
theorem zl (h:aF sc nm (.neg a) x=true) (k:∀y p,aF sc nm a y=true→P (.UnaryOp .USub y p)):P x:=
 Ng h λo y p h=>aN h λh1 h2=>fo (P:=λo=>P (.UnaryOp o y p)) h1 (k y p h2)
theorem zh (h:aF sc nm (.ite c a b) x=true) (k:∀t y z p,aF sc nm c t=true→aF sc nm a y=true→aF sc nm b z=true→P (.IfExp t y z p)):P x:=
 QN h λt y z p h=>aN h λh1 h=>aN h (k t y z p h1)
theorem zG (h:aF sc nm (.tup es) x=true) (k:∀vs q p,vs.length≤1000→cC sc nm es vs=true→P (.Tuple vs q p)):P x:=
 Ck h λvs q p h=>aN h λh1=>k vs q p (ado h1)
theorem CR (h:aF sc nm (.list es) x=true) (k:∀vs p,vs.length≤1000→cC sc nm es vs=true→P (.List vs p)):P x:=
 O5 h λvs p h=>aN h λh1=>k vs p (ado h1)
theorem Af {ks:List (List Nat)} (h:aF sc nm (.dict ks es) x=true) (k:∀cu vs p,rq ks cu=true→cC sc nm es vs=true→vs.length≤15→cu.length=vs.length→P (.Dict cu vs p)):P x:=
 ZL h λcu vs p h=>aN h λh1 h=>aN h λh2 h=>aN h λh3 h4=>k cu vs p h1 h2 (ado h3) (eq_of_beq h4)
theorem Bg (h:aF sc nm (.idx a b) x=true) (k:∀y j p,aF sc nm a y=true→aF sc nm b j=true→kU j=true→P (.Subscript y j p)):P x:=
 qP h λy j p h=>aN h λh1 h=>aN h (k y j p h1)
theorem DY {hl hh:Bool} (h:aF sc nm (.slice a b c hl hh) x=true) (k:∀y l u q p,aF sc nm a y=true→tL (aF sc nm b) (qC b) l hl=true→tL (aF sc nm c) (qC c) u hh=true→P (.Subscript y (.Slice l u Option.none q) p)):P x:=
 qP h λy j p h=>aaX (P:=λj=>P (.Subscript y j p)) h λl u s q h=>AA (P:=λs=>P (.Subscript y (.Slice l u s q) p)) h λh=>aN h λh1 h=>aN h (k y l u q p h1)
theorem zr {f:Nat} (h:aF sc nm (.attr a f) x=true) (k:∀y n p,gG uB f n=true→aF sc nm a y=true→j1 y=true→P (.Attribute y n p)):P x:=
 r9 h λy n p h=>aN h λh1 h=>aN h (k y n p h1)
theorem Ed {f:Nat} (h:aF sc nm (.call f es) x=true) (k:∀y q args p,gG lm f y=true→d6 sc y=true→cC sc nm es args=true→P (.Call (.Name y q) args [] p)):P x:=
 mS h λy args ks p h=>fY (P:=λks=>P (.Call y args ks p)) h λh=>iO (P:=λy=>P (.Call y args [] p)) h λn q h=>aN h λh1 h=>aN h (k n q args p h1)
theorem tM {n m:Str} {A:PySem.Expr→List Keyword→Prop} {y:PySem.Expr} {ks:List Keyword} {B:Str→Bool} (h:e8 ks (eO y λn _=>n==m&&B n)=true) (k:∀q,B m=true→A (.Name m q) []):A y ks:=
 fY (P:=λks=>A y ks) h λh=>iO (P:=λy=>A y []) h λn q h=>aN h λh1 h=>fo (P:=λn=>B n=true→A (.Name n q) []) h1 (k q) h
theorem A7 {c:cj} (h:aF sc nm (.new c es) x=true) (k:∀q args p,d6 sc (Str.ofString (th c))=true→cC sc nm es args=true→P (.Call (.Name (Str.ofString (th c)) q) args [] p)):P x:=
 mS h λy args ks p h=>tM (n:=default) (A:=λy ks=>P (.Call y args ks p)) (B:=λn=>d6 sc n&&cC sc nm es args) h λq h=>aN h (k q args p)
theorem C5 {c:Bi} (h:aF sc nm (.bi c es) x=true) (k:∀q args p,d6 sc (Str.ofString (o8 c))=true→cC sc nm es args=true→P (.Call (.Name (Str.ofString (o8 c)) q) args [] p)):P x:=
 mS h λy args ks p h=>tM (n:=default) (A:=λy ks=>P (.Call y args ks p)) (B:=λn=>d6 sc n&&cC sc nm es args) h λq h=>aN h (k q args p)
theorem Et {m:Nat} (h:aF sc nm (.own a m es) x=true) (k:∀y n ap args p,gG DO m n=true→aF sc nm a y=true→cC sc nm es args=true→j1 y=true→(ap.endLine==p.line)=true→args.length+1<30→P (.Call (.Attribute y n ap) args [] p)):P x:=
 mS h λy args ks p h=>fY (P:=λks=>P (.Call y args ks p)) h λh=>r9 (P:=λy=>P (.Call y args [] p)) h λo n ap h=>aN h λh1 h=>aN h λh2 h=>aN h λh3 h=>aN h λh4 h=>aN h λh5 h6=>
  k o n ap args p h1 h2 h3 h4 h5 (ado h6)
theorem ze {m:Bm} (h:aF sc nm (.bt m a es) x=true) (k:∀y ap args p,aF sc nm a y=true→cC sc nm es args=true→j1 y=true→(ap.endLine==p.line)=true→args.length+1<30→P (.Call (.Attribute y (Str.ofString m.name) ap) args [] p)):P x:=
 mS h λy args ks p h=>fY (P:=λks=>P (.Call y args ks p)) h λh=>r9 (P:=λy=>P (.Call y args [] p)) h λo n ap h=>aN h λh1 h=>fo (P:=λn=>P (.Call (.Attribute o n ap) args [] p)) h1
    (aN h λh2 h=>aN h λh3 h=>aN h λh4 h=>aN h λh5 h6=>k o ap args p h2 h3 h4 h5 (ado h6))
theorem AD {c d:Nat} (h:aF sc nm (.j4 a c d) x=true) (k:∀y ap k1 p1 k2 p2 p,aF sc nm a y=true→j1 y=true→(ap.endLine==p.line)=true→c≠d→P (.Call (.Attribute y (Str.ofString "replace") ap) [.Constant (.str ⟨#[c]⟩) k1 p1,.Constant (.str ⟨#[d]⟩) k2 p2] [] p)):P x:=
 mS h λy args ks p h=>fY (P:=λks=>P (.Call y args ks p)) h λh=>r9 (P:=λy=>P (.Call y args [] p)) h λo n ap h=>aN h λh1 h=>fo (P:=λn=>P (.Call (.Attribute o n ap) args [] p)) h1
    (aN h λh2 h=>aN h λh3 h=>aN h λh4 h=>aN h λh5 h=>IF (P:=λargs=>P (.Call (.Attribute o _ ap) args [] p)) h λy z h=>aN h λh6 h7=>
   sX (P:=λy=>P (.Call (.Attribute o _ ap) [y,z] [] p)) h6 λk1 p1=>sX (P:=λz=>P (.Call (.Attribute o _ ap) [_,z] [] p)) h7 λk2 p2=>k o ap k1 p1 k2 p2 p h2 h3 h4 (ado h5))
theorem BO {i:Nat} {is:List Nat} (h:n6 sc nm (i::is) xs=true) (k:∀y q r,dQ sc nm i y=true→n6 sc nm is r=true→Ps (.Name y q::r)):Ps xs:=match xs,h with
 |x::r,h=>aN h λh1 h2=>iO (P:=λx=>Ps (x::r)) h1 λy q h1=>k y q r h1 h2
theorem acI {i:Int} {P:Int→Prop} (h:(i==0)=true) (k:P 0):P i:=fo h k
theorem wO {caps:List Nat} (h:aF sc nm (.comp e caps b) x=true) (k:∀pe y q cK aG p,aF sc nm b cK=true→l7 sc nm aG y caps=true→aF (ig aG) (y::freeNames aG) e pe=true→P (.ListComp pe [⟨.Name y q,cK,[],0⟩] aG p)):P x:=
 CF h λpe gs aG p h=>gV (P:=λgs=>P (.ListComp pe gs aG p)) h λg h=>match g,h with
  |⟨t,it,ifs,kG⟩,h=>iO (P:=λt=>P (.ListComp pe [⟨t,it,ifs,kG⟩] aG p)) (x:=t) h λy q h=>fY (P:=λifs=>P (.ListComp pe [⟨.Name y q,it,ifs,kG⟩] aG p)) (l:=ifs) h λh=>aN h λh1 h=>
   fo (P:=λkG=>P (.ListComp pe [⟨.Name y q,it,[],kG⟩] aG p)) (a:=kG) h1 (aN h λh2 h=>aN h (k pe y q it aG p h2))
theorem xm {caps:List Nat} (h:aF sc nm (.jw e caps b) x=true) (k:∀pe y q pr pn pc aG p,d6 sc (Str.ofString "range")=true→aF sc nm b pn=true→l7 sc nm aG y caps=true→aF (ig aG) (y::freeNames aG) e pe=true→
  P (.ListComp pe [⟨.Name y q,.Call (.Name (Str.ofString "range") pr) [pn] [] pc,[],0⟩] aG p)):P x:=
 CF h λpe gs aG p h=>gV (P:=λgs=>P (.ListComp pe gs aG p)) h λg h=>match g,h with
  |⟨t,it,ifs,kG⟩,h=>iO (P:=λt=>P (.ListComp pe [⟨t,it,ifs,kG⟩] aG p)) (x:=t) h λy q h=>fY (P:=λifs=>P (.ListComp pe [⟨.Name y q,it,ifs,kG⟩] aG p)) (l:=ifs) h λh=>aN h λh1 h=>
   fo (P:=λkG=>P (.ListComp pe [⟨.Name y q,it,[],kG⟩] aG p)) (a:=kG) h1 (mS (P:=λit=>P (.ListComp pe [⟨.Name y q,it,[],0⟩] aG p)) (x:=it) h λrg ps ks pc h=>
    gV (P:=λps=>P (.ListComp pe [⟨.Name y q,.Call rg ps ks pc,[],0⟩] aG p)) h λpn h=>tM (n:=default) (A:=λrg ks=>P (.ListComp pe [⟨.Name y q,.Call rg [pn] ks pc,[],0⟩] aG p))
          (B:=λr=>d6 sc r&&(aF sc nm b pn&&(l7 sc nm aG y caps&&aF (ig aG) (y::freeNames aG) e pe))) h λpr h=>aN h λh2 h=>aN h λh3 h=>aN h (k pe y q pr pn pc aG p h2 h3))
theorem rF (h:cC sc nm .nil xs=true):xs=[]:=fY (P:=λxs=>xs=[]) h λ_=>rfl
theorem pz (h:cC sc nm (.cons e es) xs=true) (k:∀y ys,aF sc nm e y=true→cC sc nm es ys=true→Ps (y::ys)):Ps xs:=match xs,h with
 |y::ys,h=>aN h (k y ys)
end
section
variable {sc:Scope} {nm:List Str} {P:PySem.Stmt→Prop} {Ps:List PySem.Stmt→Prop} {x:PySem.Stmt} {xs:List PySem.Stmt} {a b c e o i:E} {es:Es} {s:S} {ss s1 s2:Ss} {j:Nat}
theorem Xe (h:fj sc nm (.expr e) x=true) (k:∀y p,aF sc nm e y=true→kM y=true→P (.Expr y p)):P x:=aaH h λy p h=>aN h (k y p)
theorem Gk {ts:List PySem.Expr} {Q:List PySem.Expr→Prop} {f:Str→Pos→Bool} (h:(fR ts λt=>eO t f)=true) (k:∀n q,f n q=true→Q [.Name n q]):Q ts:=
 gV h λt h=>iO (P:=λt=>Q [t]) h k
theorem NU (h:fj sc nm (.aA j e) x=true) (k:∀n q y p,dQ sc nm j n=true→aF sc nm e y=true→kM y=true→P (.Assign [.Name n q] y p)):P x:=
 ui h λts y p h=>Gk (Q:=λts=>P (.Assign ts y p)) h λn q h=>aN h λh1 h=>aN h (k n q y p h1)
theorem OJ {P:E→Prop} {e:E} (h:(e.ctorIdx==25||e.ctorIdx==26)=true) (k1:∀a b c,P (.comp a b c)) (k2:∀a b c,P (.jw a b c)):P e:=
 if h1:e.ctorIdx=25 then E.comp.elim e h1 k1 else if h2:e.ctorIdx=26 then E.jw.elim e h2 k2 else absurd h (by
  rw [beq_eq_false_iff_ne.mpr h1,beq_eq_false_iff_ne.mpr h2];exact Bool.false_ne_true)
theorem Oe (h:fj sc nm (.mC j e) x=true) (k:∀n q a b c p r,(e.ctorIdx==25||e.ctorIdx==26)=true→dQ sc nm j n=true→aF sc nm e (.ListComp a b c p)=true→q.line=p.line→(c.names.any λy=>y.1==n&&(y.2== .local||y.2== .cell))=false→P (.Assign [.Name n q] (.ListComp a b c p) r)):P x:=
 ui h λts y r h=>Gk (Q:=λts=>P (.Assign ts y r)) h λn q h=>aN h λh0 h=>aN h λh1 h=>aN h λh2 h=>CF (P:=λy=>aF sc nm e y=true→P (.Assign [.Name n q] y r)) h (λa b c p h h2=>aN h λh3 h4=>k n q a b c p r h0 h1 h2 (eq_of_beq h3) (Bool.not_eq_true' _▸h4)) h2
theorem Te {f:Nat} (h:fj sc nm (.setAttr o f e) x=true) (k:∀y n q v p,gG uB f n=true→aF sc nm o y=true→aF sc nm e v=true→kM v=true→P (.Assign [.Attribute y n q] v p)):P x:=
 ui h λts v p h=>gV (P:=λts=>P (.Assign ts v p)) h λt h=>r9 (P:=λt=>P (.Assign [t] v p)) h λy n q h=>aN h λh1 h=>aN h λh2 h=>aN h (k y n q v p h1 h2)
theorem SX (h:fj sc nm (.eH o i e) x=true) (k:∀y j q v p,aF sc nm o y=true→aF sc nm i j=true→kU j=true→aF sc nm e v=true→kM v=true→P (.Assign [.Subscript y j q] v p)):P x:=
 ui h λts v p h=>gV (P:=λts=>P (.Assign ts v p)) h λt h=>qP (P:=λt=>P (.Assign [t] v p)) h λy j q h=>aN h λh1 h=>aN h λh2 h=>aN h λh3 h=>aN h (k y j q v p h1 h2 h3)
theorem SY {is:List Nat} (h:fj sc nm (.unpack is e) x=true) (k:∀ts k q v p,n6 sc nm is ts=true→aF sc nm e v=true→kM v=true→Ek v=true→is.Nodup→P (.Assign [.Tuple ts k q] v p)):P x:=
 ui h λts v p h=>gV (P:=λts=>P (.Assign ts v p)) h λt h=>Ck (P:=λt=>P (.Assign [t] v p)) h λts m q h=>aN h λh1 h=>aN h λh2 h=>aN h λh3 h=>aN h λh4 h5=>k ts m q v p h1 h2 h3 h4 (ado h5)
theorem QF {op:BinOp} (h:fj sc nm (.gF j op e) x=true) (k:∀n q v p,dQ sc nm j n=true→aF sc nm e v=true→P (.AugAssign (.Name n q) (jB op) v p)):P x:=
 GB h λt o v p h=>iO (P:=λt=>P (.AugAssign t o v p)) h λn q h=>aN h λh1 h=>fo (P:=λo=>P (.AugAssign (.Name n q) o v p)) h1 (aN h (k n q v p))
theorem Ow {op:BinOp} (h:fj sc nm (.gY o i op e) x=true) (k:∀y j q v p,aF sc nm o y=true→aF sc nm i j=true→kU j=true→aF sc nm e v=true→P (.AugAssign (.Subscript y j q) (jB op) v p)):P x:=
 GB h λt o v p h=>qP (P:=λt=>P (.AugAssign t o v p)) h λy j q h=>aN h λh1 h=>fo (P:=λo=>P (.AugAssign (.Subscript y j q) o v p)) h1 (aN h λh2 h=>aN h λh3 h=>aN h (k y j q v p h2 h3))
theorem aar (h:fj sc nm (.ret e) x=true) (k:∀y p,aF sc nm e y=true→P (.Return (some y) p)):P x:=
 Ew h λo p h=>qp (P:=λo=>P (.Return o p)) h λy h=>k y p h
theorem aaZ (h:fj sc nm .lQ x=true) (k:∀p,P (.Return Option.none p)):P x:=Ew h λo p h=>AA (P:=λo=>P (.Return o p)) h λ_=>k p
theorem XA (h:fj sc nm (.ite c s1 s2) x=true) (k:∀t y z p,aF sc nm c t=true→eD sc nm s1 y=true→eD sc nm s2 z=true→P (.If t y z p)):P x:=
 ZN h λt y z p h=>aN h λh1 h=>aN h (k t y z p h1)
theorem NN (h:fj sc nm (.dD c ss) x=true) (k:∀t y p,aF sc nm c t=true→eD sc nm ss y=true→P (.While t y [] p)):P x:=
 P9 h λt y eP p h=>fY (P:=λeP=>P (.While t y eP p)) h λh=>aN h (k t y p)
theorem Y1 (h:fj sc nm (.forL j e ss) x=true) (k:∀n q it y p,dQ sc nm j n=true→aF sc nm e it=true→eD sc nm ss y=true→P (.For (.Name n q) it y [] p)):P x:=
 GK h λt it y eP p h=>fY (P:=λeP=>P (.For t it y eP p)) h λh=>iO (P:=λt=>P (.For t it y [] p)) h λn q h=>aN h λh1 h=>aN h (k n q it y p h1)
theorem Sr (h:fj sc nm (.forR j e ss) x=true) (k:∀n q pr pn pc y p,dQ sc nm j n=true→d6 sc (Str.ofString "range")=true→aF sc nm e pn=true→eD sc nm ss y=true→P (.For (.Name n q) (.Call (.Name (Str.ofString "range") pr) [pn] [] pc) y [] p)):P x:=
 GK h λt it y eP p h=>fY (P:=λeP=>P (.For t it y eP p)) h λh=>iO (P:=λt=>P (.For t it y [] p)) h λn q h=>mS (P:=λit=>P (.For (.Name n q) it y [] p)) h λrg ps ks pc h=>
  gV (P:=λps=>P (.For (.Name n q) (.Call rg ps ks pc) y [] p)) h λpn h=>tM (n:=default) (A:=λrg ks=>P (.For (.Name n q) (.Call rg [pn] ks pc) y [] p)) (B:=λr=>dQ sc nm j n&&(d6 sc r&&(aF sc nm e pn&&eD sc nm ss y))) h
      λpr h=>aN h λh1 h=>aN h λh2 h=>aN h (k n q pr pn pc y p h1 h2)
theorem U8 (h:fj sc nm (.raise es) x=true) (k:∀q args pc p,d6 sc (Str.ofString "SourceError")=true→cC sc nm es args=true→P (.Raise (some (.Call (.Name (Str.ofString "SourceError") q) args [] pc)) Option.none p)):P x:=
 QC h λex c p h=>AA (P:=λc=>P (.Raise ex c p)) h λh=>qp (P:=λex=>P (.Raise ex Option.none p)) h λy h=>mS (P:=λy=>P (.Raise (some y) Option.none p)) h λf args ks pc h=>
  tM (n:=default) (A:=λf ks=>P (.Raise (some (.Call f args ks pc)) Option.none p)) (B:=λn=>d6 sc n&&cC sc nm es args) h λq h=>aN h (k q args pc p)
theorem Ka {P:PySem.Expr→Prop} {v:Str} {a:String} {x:PySem.Expr} (h:A6 v a x=true) (k:∀p q,P (.Attribute (.Name v p) (Str.ofString a) q)):P x:=
 r9 h λy n q h=>aN h λh1 h=>fo (P:=λn=>P (.Attribute y n q)) h1 (iO (P:=λy=>P (.Attribute y (Str.ofString a) q)) h λz p h=>fo (P:=λz=>P (.Attribute (.Name z p) (Str.ofString a) q)) h (k p q))
theorem NH {P:PySem.Expr→Prop} {v:Str} {x:PySem.Expr} (h:Dj v x=true) (k:∀p1 p2 p3 p4 q p,P (.Tuple [.Attribute (.Name v p1) (Str.ofString "kind") p2,.Attribute (.Name v p3) (Str.ofString "at") p4] q p)):P x:=
 Ck h λts q p h=>IF (P:=λts=>P (.Tuple ts q p)) h λa b h=>aN h λh1 h2=>Ka (P:=λa=>P (.Tuple [a,b] q p)) h1 λp1 p2=>Ka (P:=λb=>P (.Tuple [_,b] q p)) h2 λp3 p4=>k p1 p2 p3 p4 q p
theorem abe {P:PySem.Expr→Prop} {w:Nat} {aQ:List Nat} {v:Str} {x:PySem.Expr} (h:A4 sc nm w aQ v x=true) (k:∀n p1 q p2 p3,iG sc nm w n=true→n≠v→P (.Subscript (.Name n p1) (.Constant (.str ⟨aQ.toArray⟩) q p2) p3)):P x:=
 qP h λy z p3 h=>aN h λh1 h=>sX (P:=λz=>P (.Subscript y z p3)) h1 λq p2=>iO (P:=λy=>P (.Subscript y _ p3)) h λn p1 h=>aN h λh1 h2=>k n p1 q p2 p3 h1 (bne_iff_ne.1 h2)
theorem O8 {P:PySem.Expr→Prop} {w:Nat} {aQ:List Nat} {v:Str} {x:PySem.Expr} (h:Bj sc nm w aQ v x=true) (k:∀l r p,Dj v l=true→A4 sc nm w aQ v r=true→P (.Compare l [.Eq] [r] p)):P x:=
 JJ h λl os rs p h=>gV (P:=λos=>P (.Compare l os rs p)) h λo h=>gV (P:=λrs=>P (.Compare l [o] rs p)) h λr h=>aN h λh1 h=>fo (P:=λo=>P (.Compare l [o] [r] p)) h1 (aN h (k l r p))
theorem Ho {w:Nat} {aQ:List Nat} {v:Str} {l:List PySem.Stmt} (h:rK sc nm w aQ v l=true) (k:∀x p,Bj sc nm w aQ v x=true→Ps [.Return (some x) p]):Ps l:=
 gV h λst h=>Ew (P:=λst=>Ps [st]) h λo p h=>qp (P:=λo=>Ps [.Return o p]) h λx h=>k x p h
theorem N4 {w:Nat} {aQ:List Nat} {H:ExceptHandler→Prop} {hd:ExceptHandler} (h:yg sc nm j w aQ hd=true)
    (k:∀q v body p,d6 sc (Str.ofString "SourceError")=true→dQ sc nm j v=true→v≠Str.ofString "__debug__"→rK sc nm w aQ v body=true→H (.ExceptHandler (some (.Name (Str.ofString "SourceError") q)) (some v) body p)):H hd:=match hd,h with
 | .ExceptHandler ty v body p,h=>qp (P:=λty=>H (.ExceptHandler ty v body p)) (o:=ty) h λty h=>iO (P:=λty=>H (.ExceptHandler (some ty) v body p)) (x:=ty) h λn q h=>aN h λh1 h=>
  fo (P:=λn=>(d6 sc n&&iI v λv=>dQ sc nm j v&&(v !=Str.ofString "__debug__"&&rK sc nm w aQ v body))=true→H (.ExceptHandler (some (.Name n q)) v body p)) h1
      (λh=>aN h λh2 h=>qp (P:=λv=>H (.ExceptHandler _ v body p)) (o:=v) h λv h=>aN h λh3 h=>aN h λh4 h5=>k q v body p h2 h3 (bne_iff_ne.1 h4) h5) h
theorem Zw {w:Nat} {aQ:List Nat} (h:fj sc nm (.j8 ss j w aQ) x=true) (k:∀y hd p,yg sc nm j w aQ hd=true→eD sc nm ss y=true→P (.Try y [hd] [] [] p)):P x:=
 Rz h λy hs eP fin p h=>fY (P:=λeP=>P (.Try y hs eP fin p)) h λh=>fY (P:=λfin=>P (.Try y hs [] fin p)) h λh=>aN h λh1 h2=>gV (P:=λhs=>P (.Try y hs [] [] p)) h1 λhd h1=>k y hd p h1 h2
theorem NG (h:fj sc nm .brk x=true) (k:∀p,P (.Break p)):P x:=QM h λp _=>k p
theorem WE (h:fj sc nm (.lb o i) x=true) (k:∀y j q p,aF sc nm o y=true→aF sc nm i j=true→kU j=true→P (.Delete [.Subscript y j q] p)):P x:=
 Tv h λts p h=>gV (P:=λts=>P (.Delete ts p)) h λt h=>qP (P:=λt=>P (.Delete [t] p)) h λy j q h=>aN h λh1 h=>aN h (k y j q p h1)
theorem Pk (h:eD sc nm .nil xs=true):xs=[]:=fY (P:=λxs=>xs=[]) h λ_=>rfl
theorem Cz (h:eD sc nm (.cons s ss) xs=true) (k:∀y ys,fj sc nm s y=true→eD sc nm ss ys=true→Ps (y::ys)):Ps xs:=match xs,h with
 |y::ys,h=>aN h (k y ys)
end
end Mine
namespace Mine
noncomputable def IJ:Ss:=
 (.cons (.ite (.or (.cons (.cmp .eq (.loc 0) (.str [95])) (.cons (.cmp .eq (.loc 0) (.str [36])) (.cons (.and (.cons (.cmp .le (.str [48]) (.loc 0)) (.cons (.cmp .le (.loc 0) (.str [57])) .nil))) .nil))))
   (.cons (.ret (.bool true)) .nil) .nil)
 (.cons (.ret (.or (.cons (.and (.cons (.cmp .le (.str [97]) (.loc 0)) (.cons (.cmp .le (.loc 0) (.str [122])) .nil))) (.cons (.and (.cons (.cmp .le (.str [65]) (.loc 0)) (.cons (.cmp .le (.loc 0) (.str [90])) .nil))) .nil)))) .nil))
noncomputable def Vd:List String:=["char"]
noncomputable def Hq:Ss:=
 (.cons (.aA 2 (.slice (.loc 0) (.loc 1) (.bin .add (.loc 1) (.int 1)) true true))
 (.cons (.ite (.or (.cons (.cmp .eq (.loc 2) (.str [36])) (.cons (.and (.cons (.cmp .le (.str [48]) (.loc 2)) (.cons (.cmp .le (.loc 2) (.str [57])) .nil))) .nil)))
   (.cons (.ret (.loc 1)) .nil) .nil)
 (.cons (.aA 3 (.loc 1))
 (.cons (.dD (.call 0 (.cons (.slice (.loc 0) (.loc 3) (.bin .add (.loc 3) (.int 1)) true true) .nil))
   (.cons (.aA 3 (.bin .add (.loc 3) (.int 1))) .nil))
 (.cons (.ret (.loc 3)) .nil)))))
noncomputable def Qy:List String:=["text","at","first","end"]
noncomputable def Yt:Ss:=
 (.cons (.aA 2 (.loc 1))
 (.cons (.dD (.and (.cons (.cmp .lt (.loc 2) (.bi .len (.cons (.loc 0) .nil))) (.cons (.cmp .ne (.idx (.loc 0) (.loc 2)) (.str [10])) .nil)))
   (.cons (.aA 2 (.bin .add (.loc 2) (.int 1))) .nil))
 (.cons (.ret (.loc 2)) .nil)))
noncomputable def Vo:List String:=["text","at","end"]
noncomputable def YJ:Ss:=
 (.cons (.aA 2 (.loc 1))
 (.cons (.dD (.and (.cons (.cmp .lt (.loc 2) (.bi .len (.cons (.loc 0) .nil))) (.cons (.cmp .isin (.idx (.loc 0) (.loc 2)) (.str [32,9,13])) .nil)))
   (.cons (.aA 2 (.bin .add (.loc 2) (.int 1))) .nil))
 (.cons (.ret (.loc 2)) .nil)))
noncomputable def aaa:List String:=["text","at","end"]
noncomputable def VX:Ss:=
 (.cons (.aA 2 (.loc 1))
 (.cons (.dD (.and (.cons (.cmp .lt (.loc 2) (.bi .len (.cons (.loc 0) .nil))) (.cons (.cmp .isin (.idx (.loc 0) (.loc 2)) (.str [32,9,13,10,12,11])) .nil)))
   (.cons (.aA 2 (.bin .add (.loc 2) (.int 1))) .nil))
 (.cons (.ret (.loc 2)) .nil)))
noncomputable def Ud:List String:=["text","at","end"]
noncomputable def Xy:Ss:=
 (.cons (.aA 2 (.bin .add (.loc 1) (.int 1)))
 (.cons (.dD (.and (.cons (.cmp .lt (.loc 2) (.bi .len (.cons (.loc 0) .nil))) (.cons (.cmp .ne (.idx (.loc 0) (.loc 2)) (.str [10])) .nil)))
   (.cons (.ite (.cmp .eq (.idx (.loc 0) (.loc 2)) (.str [34]))
    (.cons (.ret (.bin .add (.loc 2) (.int 1))) .nil) .nil)
   (.cons (.ite (.and (.cons (.cmp .eq (.idx (.loc 0) (.loc 2)) (.str [92])) (.cons (.cmp .ix (.slice (.loc 0) (.bin .add (.loc 2) (.int 1)) (.bin .add (.loc 2) (.int 2)) true true) (.tup (.cons (.str []) (.cons (.str [10]) .nil)))) .nil)))
    (.cons (.aA 2 (.bin .add (.loc 2) (.int 1))) .nil) .nil)
   (.cons (.aA 2 (.bin .add (.loc 2) (.int 1))) .nil))))
 (.cons (.ret (.loc 2)) .nil)))
noncomputable def Pl:List String:=["text","at","end"]
noncomputable def MO:Ss:=
 (.cons (.aA 2 (.slice (.loc 0) (.loc 1) (.bin .add (.loc 1) (.int 2)) true true))
 (.cons (.ite (.cmp .eq (.loc 2) (.str [47,47]))
   (.cons (.ret (.call 2 (.cons (.loc 0) (.cons (.loc 1) .nil)))) .nil) .nil)
 (.cons (.ite (.cmp .ne (.loc 2) (.str [47,42]))
   (.cons (.ret (.loc 1)) .nil) .nil)
 (.cons (.aA 3 (.bin .add (.loc 1) (.int 2)))
 (.cons (.dD (.and (.cons (.cmp .lt (.loc 3) (.bi .len (.cons (.loc 0) .nil))) (.cons (.cmp .ne (.slice (.loc 0) (.loc 3) (.bin .add (.loc 3) (.int 2)) true true) (.str [42,47])) .nil)))
   (.cons (.aA 3 (.bin .add (.loc 3) (.int 1))) .nil))
 (.cons (.ret (.bi .min (.cons (.bin .add (.loc 3) (.int 2)) (.cons (.bi .len (.cons (.loc 0) .nil)) .nil)))) .nil))))))
noncomputable def VI:List String:=["text","at","mark","end"]
noncomputable def Xs:Ss:=
 (.cons (.aA 2 (.loc 1))
 (.cons (.dD (.and (.cons (.cmp .lt (.loc 2) (.bi .len (.cons (.loc 0) .nil))) (.cons (.cmp .ix (.idx (.loc 0) (.loc 2)) (.str [32,9,13,10,12,11])) .nil)))
   (.cons (.aA 2 (.bin .add (.loc 2) (.int 1))) .nil))
 (.cons (.ret (.loc 2)) .nil)))
noncomputable def S6:List String:=["text","at","end"]
noncomputable def ID:Ss:=
 (.cons (.aA 2 (.idx (.loc 0) (.loc 1)))
 (.cons (.ite (.cmp .eq (.loc 2) (.str [34]))
   (.cons (.ret (.call 5 (.cons (.loc 0) (.cons (.loc 1) .nil)))) .nil) .nil)
 (.cons (.ite (.cmp .eq (.loc 2) (.str [92]))
   (.cons (.ret (.call 7 (.cons (.loc 0) (.cons (.loc 1) .nil)))) .nil) .nil)
 (.cons (.aA 3 (.loc 1))
 (.cons (.ite (.cmp .eq (.loc 2) (.str [39]))
   (.cons (.aA 3 (.bin .add (.loc 1) (.int 1))) .nil) .nil)
 (.cons (.dD (.call 0 (.cons (.slice (.loc 0) (.loc 3) (.bin .add (.loc 3) (.int 1)) true true) .nil))
   (.cons (.aA 3 (.bin .add (.loc 3) (.int 1))) .nil))
 (.cons (.ret (.bi .max (.cons (.loc 3) (.cons (.bin .add (.loc 1) (.int 1)) .nil)))) .nil)))))))
noncomputable def aa5:List String:=["text","at","char","end"]
noncomputable def aa1:Ss:=
 (.cons (.ret (.bt .count (.loc 0) (.cons (.str [10]) .nil))) .nil)
noncomputable def N1:List String:=["text"]
noncomputable def PQ:Ss:=
 (.cons (.ite (.cmp .ne (.slice (.loc 0) (.loc 1) (.bin .add (.loc 1) (.int 1)) true true) (.str [40]))
   (.cons (.ret .none) .nil) .nil)
 (.cons (.aA 2 (.list .nil))
 (.cons (.aA 3 (.list .nil))
 (.cons (.aA 4 (.int 0))
 (.cons (.aA 5 (.bin .add (.loc 1) (.int 1)))
 (.cons (.dD (.cmp .lt (.loc 5) (.bi .len (.cons (.loc 0) .nil)))
   (.cons (.aA 6 (.idx (.loc 0) (.loc 5)))
   (.cons (.aA 7 (.call 6 (.cons (.loc 0) (.cons (.loc 5) .nil))))
   (.cons (.ite (.cmp .gt (.loc 7) (.loc 5))
    (.cons (.expr (.bt .append (.loc 3) (.cons (.str [32]) .nil))) .nil)
    (.cons (.ite (.and (.cons (.cmp .eq (.loc 4) (.int 0)) (.cons (.or (.cons (.cmp .eq (.loc 6) (.str [44])) (.cons (.cmp .eq (.loc 6) (.str [41])) .nil))) .nil)))
      (.cons (.expr (.bt .append (.loc 2) (.cons (.bt .strip (.bt .join (.str []) (.cons (.loc 3) .nil)) .nil) .nil)))
      (.cons (.aA 3 (.list .nil))
      (.cons (.aA 7 (.bin .add (.loc 5) (.int 1)))
      (.cons (.ite (.cmp .eq (.loc 6) (.str [41]))
       (.cons (.ret (.tup (.cons (.loc 2) (.cons (.loc 7) .nil)))) .nil) .nil) .nil))))
      (.cons (.aA 7 (.call 8 (.cons (.loc 0) (.cons (.loc 5) .nil))))
      (.cons (.ite (.cmp .isin (.loc 6) (.str [40,91,123]))
       (.cons (.aA 4 (.bin .add (.loc 4) (.int 1))) .nil)
       (.cons (.ite (.cmp .isin (.loc 6) (.str [41,93,125]))
         (.cons (.aA 4 (.bin .sub (.loc 4) (.int 1))) .nil) .nil) .nil))
      (.cons (.ite (.cmp .lt (.loc 4) (.int 0))
       (.cons (.ret .none) .nil) .nil)
      (.cons (.expr (.bt .append (.loc 3) (.cons (.j4 (.slice (.loc 0) (.loc 5) (.loc 7) true true) 10 32) .nil))) .nil))))) .nil))
   (.cons (.aA 5 (.loc 7)) .nil)))))
 (.cons (.ret .none) .nil)))))))
noncomputable def UU:List String:=["text","at","arguments","pieces","depth","index","char","end"]
noncomputable def SU:Ss:=
 (.cons (.aA 3 (.list .nil))
 (.cons (.aA 4 (.int 0))
 (.cons (.dD (.cmp .lt (.loc 4) (.bi .len (.cons (.loc 0) .nil)))
   (.cons (.aA 5 (.call 8 (.cons (.loc 0) (.cons (.loc 4) .nil))))
   (.cons (.aA 6 (.slice (.loc 0) (.loc 4) (.loc 5) true true))
   (.cons (.ite (.cmp .isin (.loc 6) (.loc 1))
    (.cons (.aA 6 (.idx (.loc 2) (.bt .index (.loc 1) (.cons (.loc 6) .nil)))) .nil) .nil)
   (.cons (.expr (.bt .append (.loc 3) (.cons (.loc 6) .nil)))
   (.cons (.aA 4 (.loc 5)) .nil))))))
 (.cons (.ret (.bt .join (.str []) (.cons (.loc 3) .nil))) .nil))))
noncomputable def QT:List String:=["body","names","arguments","pieces","index","end","piece"]
noncomputable def aaO:Ss:=
 (.cons (.aA 2 (.list .nil))
 (.cons (.aA 3 (.loc 1))
 (.cons (.dD (.and (.cons (.cmp .lt (.loc 3) (.bi .len (.cons (.loc 0) .nil))) (.cons (.cmp .ne (.idx (.loc 0) (.loc 3)) (.str [10])) .nil)))
   (.cons (.aA 4 (.call 6 (.cons (.loc 0) (.cons (.loc 3) .nil))))
   (.cons (.ite (.cmp .gt (.loc 4) (.loc 3))
    (.cons (.expr (.bt .append (.loc 2) (.cons (.str [32]) .nil))) .nil)
    (.cons (.ite (.and (.cons (.cmp .eq (.idx (.loc 0) (.loc 3)) (.str [92])) (.cons (.cmp .eq (.slice (.loc 0) (.bin .add (.loc 3) (.int 1)) (.bin .add (.loc 3) (.int 2)) true true) (.str [10])) .nil)))
      (.cons (.expr (.bt .append (.loc 2) (.cons (.str [32]) .nil)))
      (.cons (.aA 4 (.bin .add (.loc 3) (.int 2))) .nil))
      (.cons (.ite (.cmp .eq (.slice (.loc 0) (.loc 3) (.bin .add (.loc 3) (.int 3)) true true) (.str [92,13,10]))
       (.cons (.expr (.bt .append (.loc 2) (.cons (.str [32]) .nil)))
       (.cons (.aA 4 (.bin .add (.loc 3) (.int 3))) .nil))
       (.cons (.aA 4 (.call 8 (.cons (.loc 0) (.cons (.loc 3) .nil))))
       (.cons (.expr (.bt .append (.loc 2) (.cons (.slice (.loc 0) (.loc 3) (.loc 4) true true) .nil))) .nil))) .nil)) .nil))
   (.cons (.aA 3 (.loc 4)) .nil))))
 (.cons (.ret (.tup (.cons (.bt .strip (.bt .join (.str []) (.cons (.loc 2) .nil)) .nil) (.cons (.loc 3) .nil)))) .nil))))
noncomputable def We:List String:=["text","at","pieces","index","end"]
noncomputable def Rl:Ss:=
 (.cons (.ret (.tup (.cons (.str [100,101,102,105,110,101]) (.cons (.str [117,110,100,101,102]) (.cons (.str [105,102,100,101,102]) (.cons (.str [105,102,110,100,101,102]) (.cons (.str [101,108,115,105,102]) (.cons (.str [101,108,115,101]) (.cons (.str [101,110,100,105,102]) (.cons (.str [116,105,109,101,115,99,97,108,101]) (.cons (.str [100,101,102,97,117,108,116,95,110,101,116,116,121,112,101]) (.cons (.str [114,101,115,101,116,97,108,108]) (.cons (.str [99,101,108,108,100,101,102,105,110,101]) (.cons (.str [101,110,100,99,101,108,108,100,101,102,105,110,101]) (.cons (.str [105,110,99,108,117,100,101]) (.cons (.str [108,105,110,101]) (.cons (.str [117,110,99,111,110,110,101,99,116,101,100,95,100,114,105,118,101]) (.cons (.str [110,111,117,110,99,111,110,110,101,99,116,101,100,95,100,114,105,118,101]) .nil)))))))))))))))))) .nil)
noncomputable def Yq:List String:=[]
noncomputable def PF:Ss:=
 (.cons (.setAttr (.loc 0) 11 (.loc 1))
 (.cons (.setAttr (.loc 0) 12 (.loc 2))
 (.cons (.setAttr (.loc 0) 13 (.loc 3)) .nil)))
noncomputable def Pt:List String:=["self","kind","at","detail"]
noncomputable def PU:Ss:=
 (.cons (.setAttr (.loc 0) 0 (.loc 1))
 (.cons (.setAttr (.loc 0) 1 (.loc 2)) .nil))
noncomputable def WR:List String:=["self","names","body"]
noncomputable def Au:Ss:=
 (.cons (.setAttr (.loc 0) 2 (.dict [] .nil))
 (.cons (.setAttr (.loc 0) 3 (.call 13 .nil))
 (.cons (.setAttr (.loc 0) 4 (.int 0))
 (.cons (.ite (.cmp .iM (.loc 1) .none)
   (.cons (.forL 2 (.bi .sorted (.cons (.loc 1) .nil))
    (.cons (.eH (.attr (.loc 0) 2) (.loc 2) (.new .macro (.cons .none (.cons (.idx (.call 12 (.cons (.j4 (.idx (.loc 1) (.loc 2)) 10 32) (.cons (.int 0) .nil))) (.int 0)) .nil)))) .nil)) .nil) .nil) .nil))))
noncomputable def Sj:List String:=["self","defines","name"]
noncomputable def qR:Ss:=
 (.cons (.aA 6 (.slice (.loc 1) (.bin .add (.loc 2) (.int 1)) (.loc 3) true true))
 (.cons (.ite (.or (.cons (.cmp .isin (.loc 6) (.attr (.loc 0) 3)) (.cons (.cmp .eq (.loc 6) (.str [])) .nil)))
   (.cons (.raise (.cons (.str [98,97,100,95,100,105,114,101,99,116,105,118,101]) (.cons (.loc 4) (.cons (.loc 6) .nil)))) .nil) .nil)
 (.cons (.ite (.cmp .ix (.loc 6) (.attr (.loc 0) 2))
   (.cons (.raise (.cons (.str [117,110,100,101,102,105,110,101,100,95,109,97,99,114,111]) (.cons (.loc 4) (.cons (.loc 6) .nil)))) .nil) .nil)
 (.cons (.setAttr (.loc 0) 4 (.bin .add (.attr (.loc 0) 4) (.int 1)))
 (.cons (.ite (.or (.cons (.cmp .ge (.loc 5) (.jS 0)) (.cons (.cmp .gt (.attr (.loc 0) 4) (.jS 1)) .nil)))
   (.cons (.raise (.cons (.str [109,97,99,114,111,95,100,101,112,116,104]) (.cons (.loc 4) (.cons (.loc 6) .nil)))) .nil) .nil)
 (.cons (.aA 7 (.idx (.attr (.loc 0) 2) (.loc 6)))
 (.cons (.aA 8 (.attr (.loc 7) 1))
 (.cons (.ite (.cmp .iM (.attr (.loc 7) 0) .none)
   (.cons (.aA 9 (.call 10 (.cons (.loc 1) (.cons (.call 4 (.cons (.loc 1) (.cons (.loc 3) .nil))) .nil))))
   (.cons (.ite (.cmp .is (.loc 9) .none)
    (.cons (.raise (.cons (.str [109,97,99,114,111,95,97,114,103,117,109,101,110,116,115]) (.cons (.loc 4) (.cons (.loc 6) .nil)))) .nil) .nil)
   (.cons (.unpack [10,3] (.loc 9))
   (.cons (.ite (.and (.cons (.cmp .eq (.loc 10) (.list (.cons (.str []) .nil))) (.cons (.cmp .eq (.bi .len (.cons (.attr (.loc 7) 0) .nil)) (.int 0)) .nil)))
    (.cons (.aA 10 (.list .nil)) .nil) .nil)
   (.cons (.ite (.cmp .ne (.bi .len (.cons (.loc 10) .nil)) (.bi .len (.cons (.attr (.loc 7) 0) .nil)))
    (.cons (.raise (.cons (.str [109,97,99,114,111,95,97,114,103,117,109,101,110,116,115]) (.cons (.loc 4) (.cons (.loc 6) .nil)))) .nil) .nil)
   (.cons (.aA 8 (.call 11 (.cons (.loc 8) (.cons (.attr (.loc 7) 0) (.cons (.loc 10) .nil))))) .nil)))))) .nil)
 (.cons (.ret (.tup (.cons (.own (.loc 0) 1 (.cons (.loc 8) (.cons (.loc 4) (.cons (.bin .add (.loc 5) (.int 1)) .nil)))) (.cons (.loc 3) .nil)))) .nil)))))))))
noncomputable def Y8:List String:=["self","text","at","end","place","depth","name","macro","body","found","arguments"]
noncomputable def VQ:Ss:=
 (.cons (.aA 4 (.list .nil))
 (.cons (.aA 5 (.int 0))
 (.cons (.dD (.cmp .lt (.loc 5) (.bi .len (.cons (.loc 1) .nil)))
   (.cons (.ite (.cmp .eq (.idx (.loc 1) (.loc 5)) (.str [96]))
    (.cons (.unpack [6,5] (.own (.loc 0) 0 (.cons (.loc 1) (.cons (.loc 5) (.cons (.call 1 (.cons (.loc 1) (.cons (.bin .add (.loc 5) (.int 1)) .nil))) (.cons (.loc 2) (.cons (.loc 3) .nil)))))))
    (.cons (.expr (.bt .append (.loc 4) (.cons (.loc 6) .nil))) .nil))
    (.cons (.aA 7 (.call 8 (.cons (.loc 1) (.cons (.loc 5) .nil))))
    (.cons (.expr (.bt .append (.loc 4) (.cons (.slice (.loc 1) (.loc 5) (.loc 7) true true) .nil)))
    (.cons (.aA 5 (.loc 7)) .nil)))) .nil))
 (.cons (.ret (.bt .join (.str []) (.cons (.loc 4) .nil))) .nil))))
noncomputable def Qp:List String:=["self","text","place","depth","pieces","index","piece","end"]
noncomputable def N6:Ss:=
 (.cons (.setAttr (.loc 0) 5 (.new .table (.cons (.loc 1) .nil)))
 (.cons (.setAttr (.loc 0) 6 (.list .nil))
 (.cons (.expr (.own (.loc 0) 2 .nil)) .nil)))
noncomputable def VD:List String:=["self","defines"]
noncomputable def Pb:Ss:=
 (.cons (.setAttr (.loc 0) 6 (.list .nil))
 (.cons (.setAttr (.loc 0) 7 (.list .nil))
 (.cons (.setAttr (.loc 0) 8 (.int 0))
 (.cons (.setAttr (.loc 0) 9 (.list .nil))
 (.cons (.setAttr (.loc 0) 10 (.bool true))
 (.cons (.setAttr (.attr (.loc 0) 5) 4 (.int 0)) .nil))))))
noncomputable def Yy:List String:=["self"]
noncomputable def Mn:Ss:=
 (.cons (.expr (.own (.loc 0) 2 .nil))
 (.cons (.aA 2 (.int 0))
 (.cons (.dD (.cmp .lt (.loc 2) (.bi .len (.cons (.loc 1) .nil)))
   (.cons (.aA 3 (.call 6 (.cons (.loc 1) (.cons (.loc 2) .nil))))
   (.cons (.ite (.cmp .eq (.idx (.loc 1) (.loc 2)) (.str [96]))
    (.cons (.aA 3 (.own (.loc 0) 4 (.cons (.loc 1) (.cons (.loc 2) .nil)))) .nil)
    (.cons (.ite (.cmp .eq (.loc 3) (.loc 2))
      (.cons (.aA 3 (.call 8 (.cons (.loc 1) (.cons (.loc 2) .nil)))) .nil) .nil)
    (.cons (.expr (.own (.loc 0) 3 (.cons (.slice (.loc 1) (.loc 2) (.loc 3) true true) .nil))) .nil)))
   (.cons (.aA 2 (.loc 3)) .nil))))
 (.cons (.ite (.cmp .gt (.bi .len (.cons (.attr (.loc 0) 9) .nil)) (.int 0))
   (.cons (.raise (.cons (.str [117,110,98,97,108,97,110,99,101,100,95,99,111,110,100,105,116,105,111,110]) (.cons (.idx (.idx (.attr (.loc 0) 9) (.neg (.int 1))) (.int 0)) .nil))) .nil) .nil)
 (.cons (.ret (.bt .join (.str []) (.cons (.attr (.loc 0) 7) .nil))) .nil)))))
noncomputable def Qr:List String:=["self","text","at","end"]
noncomputable def Jr:Ss:=
 (.cons (.ite (.not (.attr (.loc 0) 10))
   (.cons (.aA 1 (.bin .mul (.str [10]) (.call 9 (.cons (.loc 1) .nil)))) .nil) .nil)
 (.cons (.expr (.bt .append (.attr (.loc 0) 7) (.cons (.loc 1) .nil)))
 (.cons (.setAttr (.loc 0) 8 (.bin .add (.attr (.loc 0) 8) (.bi .len (.cons (.loc 1) .nil)))) .nil)))
noncomputable def W7:List String:=["self","piece"]
noncomputable def JR:Ss:=
 (.cons (.aA 3 (.call 1 (.cons (.loc 1) (.cons (.bin .add (.loc 2) (.int 1)) .nil))))
 (.cons (.aA 4 (.slice (.loc 1) (.bin .add (.loc 2) (.int 1)) (.loc 3) true true))
 (.cons (.ite (.cmp .isin (.loc 4) (.tup (.cons (.str [105,102,100,101,102]) (.cons (.str [105,102,110,100,101,102]) (.cons (.str [101,108,115,105,102]) (.cons (.str [101,108,115,101]) (.cons (.str [101,110,100,105,102]) .nil)))))))
   (.cons (.ret (.own (.loc 0) 7 (.cons (.loc 4) (.cons (.loc 1) (.cons (.loc 2) (.cons (.loc 3) .nil)))))) .nil) .nil)
 (.cons (.ite (.not (.attr (.loc 0) 10))
   (.cons (.ret (.bi .max (.cons (.loc 3) (.cons (.bin .add (.loc 2) (.int 1)) .nil)))) .nil) .nil)
 (.cons (.ite (.cmp .eq (.loc 4) (.str [100,101,102,105,110,101]))
   (.cons (.ret (.own (.loc 0) 6 (.cons (.loc 1) (.cons (.loc 2) (.cons (.loc 3) .nil))))) .nil) .nil)
 (.cons (.ite (.cmp .eq (.loc 4) (.str [117,110,100,101,102]))
   (.cons (.unpack [5,3] (.own (.loc 0) 5 (.cons (.loc 1) (.cons (.loc 2) (.cons (.loc 3) .nil)))))
   (.cons (.ite (.cmp .isin (.loc 5) (.attr (.attr (.loc 0) 5) 2))
    (.cons (.lb (.attr (.attr (.loc 0) 5) 2) (.loc 5)) .nil) .nil)
   (.cons (.ret (.loc 3)) .nil))) .nil)
 (.cons (.ite (.cmp .eq (.loc 4) (.str [100,101,102,97,117,108,116,95,110,101,116,116,121,112,101]))
   (.cons (.unpack [6,3] (.own (.loc 0) 5 (.cons (.loc 1) (.cons (.loc 2) (.cons (.loc 3) .nil)))))
   (.cons (.expr (.bt .append (.attr (.loc 0) 6) (.cons (.tup (.cons (.attr (.loc 0) 8) (.cons (.loc 6) .nil))) .nil)))
   (.cons (.ret (.loc 3)) .nil))) .nil)
 (.cons (.ite (.cmp .eq (.loc 4) (.str [116,105,109,101,115,99,97,108,101]))
   (.cons (.dD (.and (.cons (.cmp .lt (.loc 3) (.bi .len (.cons (.loc 1) .nil))) (.cons (.cmp .ne (.idx (.loc 1) (.loc 3)) (.str [10])) (.cons (.cmp .eq (.call 6 (.cons (.loc 1) (.cons (.loc 3) .nil))) (.loc 3)) .nil))))
    (.cons (.aA 3 (.bin .add (.loc 3) (.int 1))) .nil))
   (.cons (.ret (.loc 3)) .nil)) .nil)
 (.cons (.ite (.cmp .eq (.loc 4) (.str [114,101,115,101,116,97,108,108]))
   (.cons (.expr (.bt .append (.attr (.loc 0) 6) (.cons (.tup (.cons (.attr (.loc 0) 8) (.cons (.str [119,105,114,101]) .nil))) .nil)))
   (.cons (.ret (.loc 3)) .nil)) .nil)
 (.cons (.ite (.or (.cons (.cmp .eq (.loc 4) (.str [99,101,108,108,100,101,102,105,110,101])) (.cons (.cmp .eq (.loc 4) (.str [101,110,100,99,101,108,108,100,101,102,105,110,101])) .nil)))
   (.cons (.ret (.loc 3)) .nil) .nil)
 (.cons (.unpack [7,8] (.own (.attr (.loc 0) 5) 0 (.cons (.loc 1) (.cons (.loc 2) (.cons (.loc 3) (.cons (.loc 2) (.cons (.int 0) .nil)))))))
 (.cons (.expr (.own (.loc 0) 3 (.cons (.bin .add (.loc 7) (.bin .mul (.str [10]) (.call 9 (.cons (.slice (.loc 1) (.loc 2) (.loc 8) true true) .nil)))) .nil)))
 (.cons (.ret (.loc 8)) .nil)))))))))))))
noncomputable def VF:List String:=["self","text","at","end","name","known","word","piece","behind"]
noncomputable def UZ:Ss:=
 (.cons (.aA 4 (.call 3 (.cons (.loc 1) (.cons (.loc 3) .nil))))
 (.cons (.aA 5 (.call 1 (.cons (.loc 1) (.cons (.loc 4) .nil))))
 (.cons (.ite (.cmp .eq (.loc 5) (.loc 4))
   (.cons (.raise (.cons (.str [98,97,100,95,100,105,114,101,99,116,105,118,101]) (.cons (.loc 2) .nil))) .nil) .nil)
 (.cons (.ret (.tup (.cons (.slice (.loc 1) (.loc 4) (.loc 5) true true) (.cons (.loc 5) .nil)))) .nil))))
noncomputable def WV:List String:=["self","text","at","end","begin","behind"]
noncomputable def IA:Ss:=
 (.cons (.unpack [4,3] (.own (.loc 0) 5 (.cons (.loc 1) (.cons (.loc 2) (.cons (.loc 3) .nil)))))
 (.cons (.ite (.cmp .isin (.loc 4) (.attr (.attr (.loc 0) 5) 3))
   (.cons (.raise (.cons (.str [98,97,100,95,100,105,114,101,99,116,105,118,101]) (.cons (.loc 2) (.cons (.loc 4) .nil)))) .nil) .nil)
 (.cons (.aA 5 .none)
 (.cons (.aA 6 (.loc 3))
 (.cons (.ite (.cmp .eq (.slice (.loc 1) (.loc 3) (.bin .add (.loc 3) (.int 1)) true true) (.str [40]))
   (.cons (.aA 7 (.call 10 (.cons (.loc 1) (.cons (.loc 3) .nil))))
   (.cons (.ite (.cmp .is (.loc 7) .none)
    (.cons (.raise (.cons (.str [109,97,99,114,111,95,97,114,103,117,109,101,110,116,115]) (.cons (.loc 2) (.cons (.loc 4) .nil)))) .nil) .nil)
   (.cons (.unpack [5,6] (.loc 7))
   (.cons (.ite (.cmp .eq (.loc 5) (.list (.cons (.str []) .nil)))
    (.cons (.aA 5 (.list .nil)) .nil) .nil)
   (.cons (.forR 8 (.bi .len (.cons (.loc 5) .nil))
    (.cons (.aA 9 (.and (.cons (.cmp .ne (.idx (.loc 5) (.loc 8)) (.str [])) (.cons (.cmp .eq (.call 1 (.cons (.idx (.loc 5) (.loc 8)) (.cons (.int 0) .nil))) (.bi .len (.cons (.idx (.loc 5) (.loc 8)) .nil))) .nil))))
    (.cons (.ite (.or (.cons (.not (.loc 9)) (.cons (.cmp .isin (.idx (.loc 5) (.loc 8)) (.slice (.loc 5) .none (.loc 8) false true)) .nil)))
      (.cons (.raise (.cons (.str [109,97,99,114,111,95,97,114,103,117,109,101,110,116,115]) (.cons (.loc 2) (.cons (.loc 4) .nil)))) .nil) .nil) .nil))) .nil))))) .nil)
 (.cons (.unpack [10,11] (.call 12 (.cons (.loc 1) (.cons (.loc 6) .nil))))
 (.cons (.eH (.attr (.attr (.loc 0) 5) 2) (.loc 4) (.new .macro (.cons (.loc 5) (.cons (.loc 10) .nil))))
 (.cons (.expr (.own (.loc 0) 3 (.cons (.bin .mul (.str [10]) (.call 9 (.cons (.slice (.loc 1) (.loc 2) (.loc 11) true true) .nil))) .nil)))
 (.cons (.ret (.loc 11)) .nil)))))))))
noncomputable def Zc:List String:=["self","text","at","end","name","names","begin","found","i","proper","body","behind"]
noncomputable def HM:Ss:=
 (.cons (.ite (.or (.cons (.cmp .eq (.loc 1) (.str [105,102,100,101,102])) (.cons (.cmp .eq (.loc 1) (.str [105,102,110,100,101,102])) .nil)))
   (.cons (.unpack [5,4] (.own (.loc 0) 5 (.cons (.loc 2) (.cons (.loc 3) (.cons (.loc 4) .nil)))))
   (.cons (.aA 6 (.cmp .eq (.cmp .isin (.loc 5) (.attr (.attr (.loc 0) 5) 2)) (.cmp .eq (.loc 1) (.str [105,102,100,101,102]))))
   (.cons (.expr (.bt .append (.attr (.loc 0) 9) (.cons (.list (.cons (.loc 3) (.cons (.attr (.loc 0) 10) (.cons (.loc 6) (.cons (.bool false) .nil))))) .nil)))
   (.cons (.setAttr (.loc 0) 10 (.and (.cons (.attr (.loc 0) 10) (.cons (.loc 6) .nil))))
   (.cons (.ret (.loc 4)) .nil))))) .nil)
 (.cons (.ite (.cmp .eq (.bi .len (.cons (.attr (.loc 0) 9) .nil)) (.int 0))
   (.cons (.raise (.cons (.str [117,110,98,97,108,97,110,99,101,100,95,99,111,110,100,105,116,105,111,110]) (.cons (.loc 3) .nil))) .nil) .nil)
 (.cons (.aA 7 (.idx (.attr (.loc 0) 9) (.neg (.int 1))))
 (.cons (.ite (.cmp .eq (.loc 1) (.str [101,110,100,105,102]))
   (.cons (.expr (.bt .pop (.attr (.loc 0) 9) .nil))
   (.cons (.setAttr (.loc 0) 10 (.idx (.loc 7) (.int 1)))
   (.cons (.ret (.loc 4)) .nil))) .nil)
 (.cons (.ite (.idx (.loc 7) (.int 3))
   (.cons (.raise (.cons (.str [117,110,98,97,108,97,110,99,101,100,95,99,111,110,100,105,116,105,111,110]) (.cons (.loc 3) .nil))) .nil) .nil)
 (.cons (.ite (.cmp .eq (.loc 1) (.str [101,108,115,101]))
   (.cons (.eH (.loc 7) (.int 3) (.bool true))
   (.cons (.aA 6 (.bool true)) .nil))
   (.cons (.unpack [5,4] (.own (.loc 0) 5 (.cons (.loc 2) (.cons (.loc 3) (.cons (.loc 4) .nil)))))
   (.cons (.aA 6 (.cmp .isin (.loc 5) (.attr (.attr (.loc 0) 5) 2))) .nil)))
 (.cons (.setAttr (.loc 0) 10 (.and (.cons (.idx (.loc 7) (.int 1)) (.cons (.loc 6) (.cons (.not (.idx (.loc 7) (.int 2))) .nil)))))
 (.cons (.eH (.loc 7) (.int 2) (.or (.cons (.idx (.loc 7) (.int 2)) (.cons (.loc 6) .nil))))
 (.cons (.ret (.loc 4)) .nil)))))))))
noncomputable def PV:List String:=["self","name","text","at","end","known","holds","top"]
noncomputable def F7:Ss:=
 (.cons (.aA 1 (.list .nil))
 (.cons (.aA 2 (.int 5))
 (.cons (.forL 3 (.slice (.loc 0) .none (.int 40) false true)
   (.cons (.aA 4 (.bi .int (.cons (.loc 3) .nil)))
   (.cons (.aA 2 (.bin .mod (.bin .add (.bin .mul (.loc 2) (.int 31)) (.loc 4)) (.int 1009)))
   (.cons (.aA 5 (.bi .abs (.cons (.loc 4) .nil)))
   (.cons (.forR 6 (.int 60)
    (.cons (.expr (.bt .append (.loc 1) (.cons (.bin .mod (.loc 5) (.int 840)) .nil)))
    (.cons (.gF 5 .fdiv (.int 840))
    (.cons (.ite (.cmp .eq (.loc 5) (.int 0))
      (.cons .brk .nil) .nil) .nil))))
   (.cons (.ite (.cmp .gt (.bi .len (.cons (.loc 1) .nil)) (.int 400))
    (.cons .brk .nil) .nil) .nil))))))
 (.cons (.ret (.list (.cons (.loc 1) (.cons (.int 0) (.cons (.loc 2) .nil))))) .nil))))
noncomputable def VT:List String:=["script","figures","mix","cell","big","rest","step"]
noncomputable def JV:Ss:=
 (.cons (.ite (.cmp .lt (.idx (.loc 0) (.int 1)) (.bi .len (.cons (.idx (.loc 0) (.int 0)) .nil)))
   (.cons (.aA 2 (.idx (.idx (.loc 0) (.int 0)) (.idx (.loc 0) (.int 1))))
   (.cons (.gY (.loc 0) (.int 1) .add (.int 1)) .nil))
   (.cons (.ite (.cmp .lt (.bi .len (.cons (.idx (.loc 0) (.int 0)) .nil)) (.int 3))
    (.cons (.aA 2 (.int 0)) .nil)
    (.cons (.eH (.loc 0) (.int 2) (.bin .mod (.bin .add (.bin .mul (.idx (.loc 0) (.int 2)) (.int 37)) (.int 11)) (.int 1009)))
    (.cons (.aA 2 (.idx (.loc 0) (.int 2))) .nil))) .nil))
 (.cons (.ret (.bin .mod (.loc 2) (.loc 1))) .nil))
noncomputable def YC:List String:=["pool","bound","figure"]
noncomputable def Qa:Ss:=
 (.cons (.aA 3 (.list .nil))
 (.cons (.forR 4 (.call 28 (.cons (.loc 0) (.cons (.int 4) .nil)))
   (.cons (.aA 5 (.call 28 (.cons (.loc 0) (.cons (.int 7) .nil))))
   (.cons (.ite (.cmp .lt (.loc 5) (.int 2))
    (.cons (.expr (.bt .append (.loc 3) (.cons (.tup (.cons (.str [116,101,120,116]) (.cons (.idx (.list (.cons (.str [120,49]) (.cons (.str [43,32,50]) (.cons (.str [56,39,104,53]) (.cons (.str [34,96,65,32,112,34]) (.cons (.str [91,114,93]) .nil)))))) (.call 28 (.cons (.loc 0) (.cons (.int 5) .nil)))) .nil))) .nil))) .nil)
    (.cons (.ite (.and (.cons (.cmp .lt (.loc 5) (.int 4)) (.cons (.cmp .gt (.loc 2) (.int 0)) .nil)))
      (.cons (.expr (.bt .append (.loc 3) (.cons (.tup (.cons (.str [112,97,114,97,109]) (.cons (.call 28 (.cons (.loc 0) (.cons (.loc 2) .nil))) .nil))) .nil))) .nil)
      (.cons (.ite (.cmp .lt (.loc 5) (.int 6))
       (.cons (.expr (.bt .append (.loc 3) (.cons (.tup (.cons (.str [117,115,101]) (.cons (.idx (.str [65,66,67]) (.call 28 (.cons (.loc 0) (.cons (.int 3) .nil)))) (.cons (.list .nil) .nil)))) .nil))) .nil)
       (.cons (.aA 6 (.ite (.cmp .gt (.loc 2) (.int 0)) (.tup (.cons (.str [112,97,114,97,109]) (.cons (.int 0) .nil))) (.tup (.cons (.str [116,101,120,116]) (.cons (.str [107]) .nil)))))
       (.cons (.expr (.bt .append (.loc 3) (.cons (.tup (.cons (.str [117,115,101]) (.cons (.str [70]) (.cons (.list (.cons (.list (.cons (.loc 6) .nil)) .nil)) .nil)))) .nil))) .nil))) .nil)) .nil)) .nil)))
 (.cons (.ret (.loc 3)) .nil)))
noncomputable def Zd:List String:=["pool","world","count","pieces","step","kind","inner"]
noncomputable def EP:Ss:=
 (.cons (.aA 1 (.list .nil))
 (.cons (.forL 2 (.loc 0)
   (.cons (.ite (.cmp .eq (.idx (.loc 2) (.int 0)) (.str [116,101,120,116]))
    (.cons (.expr (.bt .append (.loc 1) (.cons (.idx (.loc 2) (.int 1)) .nil))) .nil)
    (.cons (.ite (.cmp .eq (.idx (.loc 2) (.int 0)) (.str [112,97,114,97,109]))
      (.cons (.expr (.bt .append (.loc 1) (.cons (.idx (.str [112,113]) (.idx (.loc 2) (.int 1))) .nil))) .nil)
      (.cons (.aA 3 (.bt .join (.str [44,32]) (.cons (.comp (.call 30 (.cons (.loc 0) .nil)) [] (.idx (.loc 2) (.int 2))) .nil)))
      (.cons (.expr (.bt .append (.loc 1) (.cons (.bin .add (.bin .add (.str [96]) (.idx (.loc 2) (.int 1))) (.ite (.cmp .ne (.idx (.loc 2) (.int 2)) (.list .nil)) (.bin .add (.bin .add (.str [40]) (.loc 3)) (.str [41])) (.str []))) .nil))) .nil))) .nil)) .nil))
 (.cons (.ret (.bt .join (.str [32]) (.cons (.loc 1) .nil))) .nil)))
noncomputable def W0:List String:=["pieces","rows","piece","inside"]
noncomputable def MW:Ss:=
 (.cons (.aA 2 (.list .nil))
 (.cons (.forL 3 (.loc 0)
   (.cons (.ite (.cmp .eq (.idx (.loc 3) (.int 0)) (.str [112,97,114,97,109]))
    (.cons (.gF 2 .add (.idx (.loc 1) (.idx (.loc 3) (.int 1)))) .nil)
    (.cons (.ite (.cmp .eq (.idx (.loc 3) (.int 0)) (.str [117,115,101]))
      (.cons (.expr (.bt .append (.loc 2) (.cons (.tup (.cons (.str [117,115,101]) (.cons (.idx (.loc 3) (.int 1)) (.cons (.comp (.call 31 (.cons (.loc 0) (.cons (.loc 1) .nil))) [1] (.idx (.loc 3) (.int 2))) .nil)))) .nil))) .nil)
      (.cons (.expr (.bt .append (.loc 2) (.cons (.loc 3) .nil))) .nil)) .nil)) .nil))
 (.cons (.ret (.loc 2)) .nil)))
noncomputable def YE:List String:=["pieces","args","rows","piece"]
noncomputable def EQ:Ss:=
 (.cons (.ite (.cmp .ix (.loc 1) (.idx (.loc 0) (.str [109,97,99,114,111,115])))
   (.cons (.ret (.tup (.cons .none (.cons (.str [117,110,100,101,102,105,110,101,100,95,109,97,99,114,111]) .nil)))) .nil) .nil)
 (.cons (.gY (.loc 0) (.str [117,115,101,115]) .add (.int 1))
 (.cons (.ite (.or (.cons (.cmp .ge (.loc 3) (.int 20)) (.cons (.cmp .gt (.idx (.loc 0) (.str [117,115,101,115])) (.int 1000)) .nil)))
   (.cons (.ret (.tup (.cons .none (.cons (.str [109,97,99,114,111,95,100,101,112,116,104]) .nil)))) .nil) .nil)
 (.cons (.aA 4 (.list .nil))
 (.cons (.forL 5 (.call 31 (.cons (.idx (.idx (.loc 0) (.str [109,97,99,114,111,115])) (.loc 1)) (.cons (.loc 2) .nil)))
   (.cons (.ite (.cmp .eq (.idx (.loc 5) (.int 0)) (.str [116,101,120,116]))
    (.cons (.expr (.bt .append (.loc 4) (.cons (.idx (.loc 5) (.int 1)) .nil))) .nil)
    (.cons (.unpack [6,7] (.call 32 (.cons (.loc 0) (.cons (.idx (.loc 5) (.int 1)) (.cons (.idx (.loc 5) (.int 2)) (.cons (.bin .add (.loc 3) (.int 1)) .nil))))))
    (.cons (.ite (.cmp .ne (.loc 7) (.str []))
      (.cons (.ret (.tup (.cons .none (.cons (.loc 7) .nil)))) .nil) .nil)
    (.cons (.expr (.bt .append (.loc 4) (.cons (.loc 6) .nil))) .nil)))) .nil))
 (.cons (.ret (.tup (.cons (.bt .join (.str [32]) (.cons (.loc 4) .nil)) (.cons (.str []) .nil)))) .nil))))))
noncomputable def R7:List String:=["world","name","args","depth","rows","piece","text","fault"]
noncomputable def NT:Ss:=
 (.cons (.gY (.loc 0) (.str [116,101,120,116]) .add (.loc 1))
 (.cons (.gY (.loc 0) (.str [100,117,101]) .add (.ite (.idx (.loc 0) (.str [97,99,116,105,118,101])) (.loc 2) (.bin .mul (.str [10]) (.bt .count (.loc 2) (.cons (.str [10]) .nil))))) .nil))
noncomputable def Rh:List String:=["world","text","due"]
noncomputable def Ir:Ss:=
 (.cons (.aA 2 (.call 28 (.cons (.loc 0) (.cons (.int 5) .nil))))
 (.cons (.aA 3 (.bi .len (.cons (.idx (.loc 1) (.str [116,101,120,116])) .nil)))
 (.cons (.aA 4 (.idx (.str [65,66,67,70,71]) (.loc 2)))
 (.cons (.aA 5 (.list .nil))
 (.cons (.aA 6 (.int 0))
 (.cons (.aA 7 (.bin .add (.str [96]) (.loc 4)))
 (.cons (.ite (.cmp .gt (.loc 2) (.int 2))
   (.cons (.mC 5 (.jw (.list (.cons (.idx (.list (.cons (.tup (.cons (.str [116,101,120,116]) (.cons (.str [117]) .nil))) (.cons (.tup (.cons (.str [116,101,120,116]) (.cons (.str [34,41,44,32,34]) .nil))) (.cons (.tup (.cons (.str [116,101,120,116]) (.cons (.str [40,49,44,32,50,41]) .nil))) .nil)))) (.call 28 (.cons (.loc 1) (.cons (.int 3) .nil)))) .nil)) [0] (.bin .sub (.loc 2) (.int 2))))
   (.cons (.ite (.cmp .eq (.call 28 (.cons (.loc 0) (.cons (.int 3) .nil))) (.int 2))
    (.cons (.eH (.loc 5) (.int 0) (.list (.cons (.tup (.cons (.str [117,115,101]) (.cons (.str [65]) (.cons (.list .nil) .nil)))) .nil))) .nil) .nil)
   (.cons (.aA 8 (.cmp .eq (.call 28 (.cons (.loc 0) (.cons (.int 3) .nil))) (.int 2)))
   (.cons (.aA 6 (.ite (.loc 8) (.int 1) (.int 0)))
   (.cons (.gF 7 .add (.bin .add (.bin .add (.ite (.loc 8) (.str [32,10,40,32]) (.str [40])) (.bt .join (.str [32,47,42,32,44,32,42,47,44]) (.cons (.comp (.call 30 (.cons (.loc 0) .nil)) [] (.loc 5)) .nil))) (.str [32,41]))) .nil))))) .nil)
 (.cons (.unpack [9,10] (.tup (.cons (.str []) (.cons (.str []) .nil))))
 (.cons (.ite (.idx (.loc 1) (.str [97,99,116,105,118,101]))
   (.cons (.unpack [9,10] (.call 32 (.cons (.loc 1) (.cons (.loc 4) (.cons (.loc 5) (.cons (.int 0) .nil)))))) .nil) .nil)
 (.cons (.ite (.cmp .ne (.loc 10) (.str []))
   (.cons (.eH (.loc 1) (.str [102,97,117,108,116]) (.tup (.cons (.loc 10) (.cons (.loc 3) .nil)))) .nil) .nil)
 (.cons (.expr (.call 33 (.cons (.loc 1) (.cons (.loc 7) (.cons (.bin .add (.ite (.cmp .is (.loc 9) .none) (.str []) (.loc 9)) (.bin .mul (.str [10]) (.loc 6))) .nil))))) .nil)))))))))))
noncomputable def aaA:List String:=["pool","world","kind","at","name","args","rows","row","wide","text","fault"]
noncomputable def LU:Ss:=
 (.cons (.aA 2 (.call 28 (.cons (.loc 0) (.cons (.int 5) .nil))))
 (.cons (.aA 3 (.bi .max (.cons (.int 0) (.cons (.bin .sub (.loc 2) (.int 2)) .nil))))
 (.cons (.aA 4 (.idx (.str [65,66,67,70,71]) (.loc 2)))
 (.cons (.aA 5 (.call 29 (.cons (.loc 0) (.cons (.loc 1) (.cons (.loc 3) .nil)))))
 (.cons (.aA 6 (.bin .add (.bin .add (.bin .add (.str [96,100,101,102,105,110,101,32]) (.loc 4)) (.idx (.list (.cons (.str []) (.cons (.str [40,112,41]) (.cons (.str [40,32,112,32,44,32,113,32,41]) .nil)))) (.loc 3))) (.str [32])))
 (.cons (.aA 7 (.call 30 (.cons (.loc 5) .nil)))
 (.cons (.aA 8 (.call 28 (.cons (.loc 0) (.cons (.int 3) .nil))))
 (.cons (.ite (.cmp .eq (.loc 8) (.int 1))
   (.cons (.expr (.call 33 (.cons (.loc 1) (.cons (.bin .add (.bin .add (.bin .add (.loc 6) (.str [92,10])) (.loc 7)) (.str [32,47,47,32,96,65,10])) (.cons (.str [10,10]) .nil))))) .nil)
   (.cons (.ite (.cmp .eq (.loc 8) (.int 2))
    (.cons (.expr (.call 33 (.cons (.loc 1) (.cons (.bin .add (.bin .add (.bin .add (.loc 6) (.str [47,42,32,112,32,42,47])) (.loc 7)) (.str [32,92,10,32,10])) (.cons (.str [10,10]) .nil))))) .nil)
    (.cons (.expr (.call 33 (.cons (.loc 1) (.cons (.bin .add (.bin .add (.loc 6) (.loc 7)) (.str [10])) (.cons (.str [10]) .nil))))) .nil)) .nil))
 (.cons (.ite (.idx (.loc 1) (.str [97,99,116,105,118,101]))
   (.cons (.eH (.idx (.loc 1) (.str [109,97,99,114,111,115])) (.loc 4) (.loc 5)) .nil) .nil) .nil)))))))))
noncomputable def O7:List String:=["pool","world","kind","count","name","pieces","row","spelled","way"]
noncomputable def Fp:Ss:=
 (.cons (.aA 3 (.idx (.loc 1) (.str [97,99,116,105,118,101])))
 (.cons (.aA 4 (.bool false))
 (.cons (.forR 5 (.bin .add (.int 1) (.call 28 (.cons (.loc 0) (.cons (.int 3) .nil))))
   (.cons (.aA 6 (.ite (.cmp .eq (.loc 5) (.int 0)) (.idx (.list (.cons (.str [105,102,100,101,102]) (.cons (.str [105,102,110,100,101,102]) .nil))) (.call 28 (.cons (.loc 0) (.cons (.int 2) .nil)))) (.str [101,108,115,105,102])))
   (.cons (.aA 7 (.idx (.str [65,66,67,70,90]) (.call 28 (.cons (.loc 0) (.cons (.int 5) .nil)))))
   (.cons (.expr (.call 33 (.cons (.loc 1) (.cons (.str [32,32]) (.cons (.str [32,32]) .nil)))))
   (.cons (.expr (.call 33 (.cons (.loc 1) (.cons (.bin .add (.bin .add (.bin .add (.str [96]) (.loc 6)) (.str [32])) (.loc 7)) (.cons (.str []) .nil)))))
   (.cons (.aA 8 (.cmp .eq (.cmp .isin (.loc 7) (.idx (.loc 1) (.str [109,97,99,114,111,115]))) (.cmp .ne (.loc 6) (.str [105,102,110,100,101,102]))))
   (.cons (.eH (.loc 1) (.str [97,99,116,105,118,101]) (.and (.cons (.loc 3) (.cons (.loc 8) (.cons (.not (.loc 4)) .nil)))))
   (.cons (.aA 4 (.or (.cons (.loc 4) (.cons (.loc 8) .nil))))
   (.cons (.expr (.call 33 (.cons (.loc 1) (.cons (.str [10]) (.cons (.str [10]) .nil)))))
   (.cons (.expr (.call 37 (.cons (.loc 0) (.cons (.loc 1) (.cons (.bin .add (.loc 2) (.int 1)) .nil)))))
   (.cons (.ite (.cmp .iM (.idx (.loc 1) (.str [102,97,117,108,116])) .none)
    (.cons .lQ .nil) .nil) .nil)))))))))))
 (.cons (.ite (.cmp .eq (.call 28 (.cons (.loc 0) (.cons (.int 2) .nil))) (.int 1))
   (.cons (.expr (.call 33 (.cons (.loc 1) (.cons (.str [96,101,108,115,101]) (.cons (.str []) .nil)))))
   (.cons (.eH (.loc 1) (.str [97,99,116,105,118,101]) (.and (.cons (.loc 3) (.cons (.not (.loc 4)) .nil))))
   (.cons (.expr (.call 33 (.cons (.loc 1) (.cons (.str [32,47,47,96,101,110,100,105,102,10]) (.cons (.str [32,47,47,96,101,110,100,105,102,10]) .nil)))))
   (.cons (.expr (.call 37 (.cons (.loc 0) (.cons (.loc 1) (.cons (.bin .add (.loc 2) (.int 1)) .nil))))) .nil)))) .nil)
 (.cons (.ite (.cmp .is (.idx (.loc 1) (.str [102,97,117,108,116])) .none)
   (.cons (.expr (.call 33 (.cons (.loc 1) (.cons (.str [96,101,110,100,105,102]) (.cons (.str []) .nil)))))
   (.cons (.eH (.loc 1) (.str [97,99,116,105,118,101]) (.loc 3))
   (.cons (.expr (.call 33 (.cons (.loc 1) (.cons (.str [10]) (.cons (.str [10]) .nil))))) .nil))) .nil) .nil)))))
noncomputable def WB:List String:=["pool","world","depth","outer","taken","step","word","name","holds"]
noncomputable def FC:Ss:=
 (.cons (.forR 3 (.call 28 (.cons (.loc 0) (.cons (.bin .sub (.int 6) (.loc 2)) .nil)))
   (.cons (.aA 4 (.call 28 (.cons (.loc 0) (.cons (.ite (.cmp .lt (.loc 2) (.int 3)) (.int 10) (.int 8)) .nil))))
   (.cons (.gY (.loc 1) (.str [114,111,111,109]) .sub (.int 1))
   (.cons (.ite (.or (.cons (.cmp .iM (.idx (.loc 1) (.str [102,97,117,108,116])) .none) (.cons (.cmp .lt (.idx (.loc 1) (.str [114,111,111,109])) (.int 0)) .nil)))
    (.cons .lQ .nil) .nil)
   (.cons (.ite (.cmp .lt (.loc 4) (.int 2))
    (.cons (.aA 5 (.idx (.list (.cons (.str [97,32,60,61,32,98,59]) (.cons (.str [34,96,105,102,100,101,102,32,65,32,92,34,32,47,47,34]) (.cons (.str [92,96,66,32,120]) (.cons (.str [47,42,32,96,101,110,100,105,102,10,32,96,90,32,42,47]) (.cons (.str [47,47,32,96,101,108,115,101]) .nil)))))) (.call 28 (.cons (.loc 0) (.cons (.int 5) .nil)))))
    (.cons (.expr (.call 33 (.cons (.loc 1) (.cons (.bin .add (.loc 5) (.str [10])) (.cons (.bin .add (.loc 5) (.str [10])) .nil))))) .nil))
    (.cons (.ite (.cmp .lt (.loc 4) (.int 4))
      (.cons (.expr (.call 35 (.cons (.loc 0) (.cons (.loc 1) .nil)))) .nil)
      (.cons (.ite (.cmp .lt (.loc 4) (.int 6))
       (.cons (.expr (.call 33 (.cons (.loc 1) (.cons (.str [119,32]) (.cons (.str [119,32]) .nil)))))
       (.cons (.expr (.call 34 (.cons (.loc 0) (.cons (.loc 1) .nil))))
       (.cons (.expr (.call 33 (.cons (.loc 1) (.cons (.str [32,59,10]) (.cons (.str [32,59,10]) .nil))))) .nil)))
       (.cons (.ite (.cmp .eq (.loc 4) (.int 6))
         (.cons (.aA 6 (.idx (.str [65,66,67,70,90]) (.call 28 (.cons (.loc 0) (.cons (.int 5) .nil)))))
         (.cons (.expr (.call 33 (.cons (.loc 1) (.cons (.bin .add (.str [96,117,110,100,101,102,32]) (.loc 6)) (.cons (.str []) .nil)))))
         (.cons (.expr (.call 33 (.cons (.loc 1) (.cons (.str [10]) (.cons (.str [10]) .nil)))))
         (.cons (.ite (.idx (.loc 1) (.str [97,99,116,105,118,101]))
          (.cons (.expr (.bt .mW (.idx (.loc 1) (.str [109,97,99,114,111,115])) (.cons (.loc 6) (.cons .none .nil)))) .nil) .nil) .nil))))
         (.cons (.ite (.cmp .eq (.loc 4) (.int 7))
          (.cons (.unpack [5,7] (.idx (.list (.cons (.tup (.cons (.str [96,116,105,109,101,115,99,97,108,101,32,49,110,115,32,47,32,49,112,115]) (.cons (.str []) .nil))) (.cons (.tup (.cons (.str [96,100,101,102,97,117,108,116,95,110,101,116,116,121,112,101,32,110,111,110,101]) (.cons (.str [110,111,110,101]) .nil))) (.cons (.tup (.cons (.str [96,114,101,115,101,116,97,108,108]) (.cons (.str [119,105,114,101]) .nil))) (.cons (.tup (.cons (.str [96,99,101,108,108,100,101,102,105,110,101]) (.cons (.str []) .nil))) .nil))))) (.call 28 (.cons (.loc 0) (.cons (.int 4) .nil)))))
          (.cons (.ite (.and (.cons (.idx (.loc 1) (.str [97,99,116,105,118,101])) (.cons (.cmp .ne (.loc 7) (.str [])) .nil)))
            (.cons (.expr (.bt .append (.idx (.loc 1) (.str [110,101,116,116,121,112,101,115])) (.cons (.tup (.cons (.bi .len (.cons (.idx (.loc 1) (.str [100,117,101])) .nil)) (.cons (.loc 7) .nil))) .nil))) .nil) .nil)
          (.cons (.aA 8 (.bt .split (.loc 5) (.cons (.str [32]) .nil)))
          (.cons (.expr (.call 33 (.cons (.loc 1) (.cons (.idx (.loc 8) (.int 0)) (.cons (.str []) .nil)))))
          (.cons (.expr (.call 33 (.cons (.loc 1) (.cons (.bin .add (.slice (.loc 5) (.bi .len (.cons (.idx (.loc 8) (.int 0)) .nil)) .none true false) (.str [10])) (.cons (.str [10]) .nil))))) .nil)))))
          (.cons (.expr (.call 36 (.cons (.loc 0) (.cons (.loc 1) (.cons (.loc 2) .nil))))) .nil)) .nil)) .nil)) .nil)) .nil)) .nil))))) .nil)
noncomputable def TR:List String:=["pool","world","depth","step","kind","row","name","word","parts"]
noncomputable def jA:Ss:=
 (.cons (.aA 1 (.call 27 (.cons (.loc 0) .nil)))
 (.cons (.aA 2 (.dict [[116,101,120,116],[100,117,101],[109,97,99,114,111,115],[97,99,116,105,118,101],[102,97,117,108,116],[110,101,116,116,121,112,101,115],[114,111,111,109],[117,115,101,115]] (.cons (.str []) (.cons (.str []) (.cons (.dict [] .nil) (.cons (.bool true) (.cons .none (.cons (.list .nil) (.cons (.int 24) (.cons (.int 0) .nil))))))))))
 (.cons (.aA 3 .none)
 (.cons (.ite (.cmp .eq (.call 28 (.cons (.loc 1) (.cons (.int 3) .nil))) (.int 1))
   (.cons (.aA 3 (.dict [[66]] (.cons (.str [32,55,32,96,67]) .nil)))
   (.cons (.eH (.idx (.loc 2) (.str [109,97,99,114,111,115])) (.str [66]) (.list (.cons (.tup (.cons (.str [116,101,120,116]) (.cons (.str [55]) .nil))) (.cons (.tup (.cons (.str [117,115,101]) (.cons (.str [67]) (.cons (.list .nil) .nil)))) .nil)))) .nil)) .nil)
 (.cons (.expr (.call 37 (.cons (.loc 1) (.cons (.loc 2) (.cons (.int 0) .nil)))))
 (.cons (.ite (.cmp .is (.idx (.loc 2) (.str [102,97,117,108,116])) .none)
   (.cons (.aA 4 (.list (.cons (.tup (.cons (.str []) (.cons (.str []) (.cons (.int 0) .nil)))) (.cons (.tup (.cons (.str [96,101,110,100,105,102]) (.cons (.str [117,110,98,97,108,97,110,99,101,100,95,99,111,110,100,105,116,105,111,110]) (.cons (.int 0) .nil)))) (.cons (.tup (.cons (.str [96,105,102,100,101,102,32,65,10,96,105,102,100,101,102,32,66,10,96,101,110,100,105,102]) (.cons (.str [117,110,98,97,108,97,110,99,101,100,95,99,111,110,100,105,116,105,111,110]) (.cons (.int 0) .nil)))) .nil)))))
   (.cons (.gF 4 .add (.list (.cons (.tup (.cons (.str [96,101,108,115,101]) (.cons (.str [117,110,98,97,108,97,110,99,101,100,95,99,111,110,100,105,116,105,111,110]) (.cons (.int 0) .nil)))) (.cons (.tup (.cons (.str [96,105,110,99,108,117,100,101,32,34,120,34]) (.cons (.str [98,97,100,95,100,105,114,101,99,116,105,118,101]) (.cons (.int 0) .nil)))) (.cons (.tup (.cons (.str [96,32,65]) (.cons (.str [98,97,100,95,100,105,114,101,99,116,105,118,101]) (.cons (.int 0) .nil)))) .nil)))))
   (.cons (.gF 4 .add (.list (.cons (.tup (.cons (.str [96,100,101,102,105,110,101,10,65,32,49]) (.cons (.str [98,97,100,95,100,105,114,101,99,116,105,118,101]) (.cons (.int 0) .nil)))) (.cons (.tup (.cons (.str [96,81,57]) (.cons (.str [117,110,100,101,102,105,110,101,100,95,109,97,99,114,111]) (.cons (.int 0) .nil)))) (.cons (.tup (.cons (.str [96,100,101,102,105,110,101,32,101,108,115,101,32,120]) (.cons (.str [98,97,100,95,100,105,114,101,99,116,105,118,101]) (.cons (.int 0) .nil)))) .nil)))))
   (.cons (.gF 4 .add (.list (.cons (.tup (.cons (.str [96,105,102,100,101,102,32,65,10,96,101,108,115,101,10,96,101,108,115,101,10]) (.cons (.str [117,110,98,97,108,97,110,99,101,100,95,99,111,110,100,105,116,105,111,110]) (.cons (.int 15) .nil)))) (.cons (.tup (.cons (.str [96,100,101,102,105,110,101,32,72,40,120,44,120,41,32,120]) (.cons (.str [109,97,99,114,111,95,97,114,103,117,109,101,110,116,115]) (.cons (.int 0) .nil)))) .nil))))
   (.cons (.gF 4 .add (.list (.cons (.tup (.cons (.str [96,100,101,102,105,110,101,32,72,40,120,41,32,120,10,96,72]) (.cons (.str [109,97,99,114,111,95,97,114,103,117,109,101,110,116,115]) (.cons (.int 15) .nil)))) (.cons (.tup (.cons (.str [96,100,101,102,105,110,101,32,72,40,120,41,32,120,10,96,72,40,49,44,50,41]) (.cons (.str [109,97,99,114,111,95,97,114,103,117,109,101,110,116,115]) (.cons (.int 15) .nil)))) .nil))))
   (.cons (.unpack [5,6,7] (.idx (.loc 4) (.bin .mul (.call 28 (.cons (.loc 1) (.cons (.int 2) .nil))) (.call 28 (.cons (.loc 1) (.cons (.int 13) .nil))))))
   (.cons (.ite (.and (.cons (.cmp .eq (.loc 7) (.int 15)) (.cons (.cmp .eq (.loc 6) (.str [109,97,99,114,111,95,97,114,103,117,109,101,110,116,115])) (.cons (.cmp .ge (.idx (.loc 2) (.str [117,115,101,115])) (.int 1000)) .nil))))
    (.cons (.aA 6 (.str [109,97,99,114,111,95,100,101,112,116,104])) .nil) .nil)
   (.cons (.ite (.cmp .ne (.loc 6) (.str []))
    (.cons (.eH (.loc 2) (.str [102,97,117,108,116]) (.tup (.cons (.loc 6) (.cons (.bin .add (.bi .len (.cons (.idx (.loc 2) (.str [116,101,120,116])) .nil)) (.loc 7)) .nil)))) .nil) .nil)
   (.cons (.gY (.loc 2) (.str [116,101,120,116]) .add (.loc 5)) .nil))))))))) .nil)
 (.cons (.aA 8 (.new .et (.cons (.loc 3) .nil)))
 (.cons (.j8
   (.cons (.aA 9 (.own (.loc 8) 8 (.cons (.idx (.loc 2) (.str [116,101,120,116])) .nil))) .nil) 10 2 [102,97,117,108,116])
 (.cons (.ret (.and (.cons (.cmp .is (.idx (.loc 2) (.str [102,97,117,108,116])) .none) (.cons (.cmp .eq (.loc 9) (.idx (.loc 2) (.str [100,117,101]))) (.cons (.cmp .eq (.attr (.loc 8) 6) (.idx (.loc 2) (.str [110,101,116,116,121,112,101,115]))) .nil))))) .nil)))))))))
noncomputable def Yh:List String:=["script","pool","world","outside","faults","row","kind","inside","maker","told","error"]
noncomputable def g7:List Fn:=[
 ⟨1,1,IJ⟩,
 ⟨2,4,Hq⟩,
 ⟨2,3,Yt⟩,
 ⟨2,3,YJ⟩,
 ⟨2,3,VX⟩,
 ⟨2,3,Xy⟩,
 ⟨2,4,MO⟩,
 ⟨2,3,Xs⟩,
 ⟨2,4,ID⟩,
 ⟨1,1,aa1⟩,
 ⟨2,8,PQ⟩,
 ⟨3,7,SU⟩,
 ⟨2,5,aaO⟩,
 ⟨0,0,Rl⟩,
 ⟨4,4,PF⟩,
 ⟨3,3,PU⟩,
 ⟨2,3,Au⟩,
 ⟨6,11,qR⟩,
 ⟨4,8,VQ⟩,
 ⟨2,2,N6⟩,
 ⟨1,1,Pb⟩,
 ⟨2,4,Mn⟩,
 ⟨2,2,Jr⟩,
 ⟨3,9,JR⟩,
 ⟨4,6,UZ⟩,
 ⟨4,12,IA⟩,
 ⟨5,8,HM⟩,
 ⟨1,7,F7⟩,
 ⟨2,3,JV⟩,
 ⟨3,7,Qa⟩,
 ⟨1,4,EP⟩,
 ⟨2,4,MW⟩,
 ⟨4,8,EQ⟩,
 ⟨3,3,NT⟩,
 ⟨2,11,Ir⟩,
 ⟨2,9,LU⟩,
 ⟨3,9,Fp⟩,
 ⟨3,9,FC⟩,
 ⟨1,11,jA⟩]
noncomputable def Lr:List (List String):=[
 Vd,
 Qy,
 Vo,
 aaa,
 Ud,
 Pl,
 VI,
 S6,
 aa5,
 N1,
 UU,
 QT,
 We,
 Yq,
 Pt,
 WR,
 Sj,
 Y8,
 Qp,
 VD,
 Yy,
 Qr,
 W7,
 VF,
 WV,
 Zc,
 PV,
 VT,
 YC,
 Zd,
 W0,
 YE,
 R7,
 Rh,
 aaA,
 O7,
 WB,
 TR,
 Yh]
noncomputable def Zb:List (Nat×Option Nat):=[(6,Option.none),(7,Option.none),(8,Option.none),(9,Option.none),(10,Option.none),(11,Option.none),(12,Option.none),(13,Option.none),(14,Option.none),(15,Option.none),(16,Option.none),(17,Option.none),(18,Option.none),(19,Option.none),(1,some 0),(20,some 0),(21,some 0),(21,some 1),(21,some 2),(22,some 0),(22,some 1),(22,some 2),(22,some 3),(22,some 4),(22,some 5),(22,some 6),(22,some 7),(24,Option.none),(25,Option.none),(26,Option.none),(27,Option.none),(28,Option.none),(29,Option.none),(30,Option.none),(31,Option.none),(32,Option.none),(33,Option.none),(34,Option.none),(35,Option.none)]
end Mine
namespace Mine
open PySem
abbrev pw:Program:=PySem.Challenge.pw_ok0094_01
structure GH where
 name:Str
 args:Arguments
 body:List Stmt
 scope:Scope
noncomputable def Fv (l:List Stmt) (i:Nat):Option GH:=match l[i]? with
 |some (.FunctionDef n a b _ _ _ sc _ _ _)=>some ⟨n,a,b,sc⟩
 |_=>none
noncomputable def Vm (f:Nat):Option GH:=match Zb[f]? with
 |some (i,none)=>Fv pw.main.body i
 |some (i,some j)=>match pw.main.body[i]? with
  |some (.ClassDef _ _ _ b _ _ _ _ _ _ _)=>Fv b j
  |_=>none
 |none=>none
noncomputable def Fu (f:Nat):List Str:=(Lr.getD f []).map Str.ofString
noncomputable def TK (f:Nat):Bool:=match Vm f,g7[f]? with
 |some d,some F=>eD d.scope (Fu f) F.body d.body&&d.scope.kind== .function&& !d.scope.isGenerator&& !d.scope.isCoroutine&&F.np==d.args.args.length&&F.nl==(Fu f).length
 |_,_=>false
theorem ada:(List.range 39).filter (λf=> !TK f)=[]:=by decide +kernel
end Mine
namespace Mine
open PySem PySem.W PyProof.Rows PySem.Calls
theorem FP (x y:List Nat):(⟨x.toArray⟩:Str)++(⟨y.toArray⟩:Str)=⟨(x++y).toArray⟩:=by
 show PySem.Str.mk _=_
 simp
noncomputable def mk (l:List Nat):Str:=⟨l.toArray⟩
theorem vH {x y:List Nat} (h:mk x=mk y):x=y:=by unfold mk at h;injection h with h;simpa using h
theorem XF (x:Str):mk x.cps.toList=x:=by cases x;simp [mk]
theorem yr (sep:List Nat):∀l:List (List Nat),Str.join (mk sep) (l.map mk)=mk (cv sep l)
 |[]=>rfl
 |[x]=>rfl
 |x::y::r=>by
  show mk x++mk sep++Str.join (mk sep) ((y::r).map mk)=_
  rw [yr sep (y::r)]
  unfold mk
  rw [FP,FP]
  simp [cv]
theorem OV (sep:List Nat) (l:List (List Nat)):Txt.join (mk sep) (l.map mk)=mk (cv sep l):=by
 unfold Txt.join
 rw [StrLaws.glued_eq_join]
 exact yr sep l
theorem Nq (c:Nat):∀s,di c s≠[]
 |[]=>by simp [di]
 |x::r=>by
  unfold di
  split
  ·simp
  ·split<;>simp
theorem J5 (c:Nat):∀p,c∉p→di c p=[p]
 |[],_=>rfl
 |x::r,h=>by
  have h1:x≠c:=λe=>h (by rw [e];exact .head _)
  have h2:c∉r:=λe=>h (.tail _ e)
  unfold di
  rw [if_neg h1,J5 c r h2]
theorem Lj (c:Nat) (s:List Nat):∀p,c∉p→di c (p++c::s)=p::di c s
 |[],_=>by simp [di]
 |x::r,h=>by
  have h1:x≠c:=λe=>h (by rw [e];exact .head _)
  have h2:c∉r:=λe=>h (.tail _ e)
  show di c (x::(r++c::s))=_
  rw [di,if_neg h1,Lj c s r h2]
theorem HC (c:Nat):∀l:List (List Nat),l≠[]→(∀p∈l,c∉p)→di c (cv [c] l)=l
 |[],h,_=>absurd rfl h
 |[x],_,h=>J5 c x (h x (.head _))
 |x::y::r,_,h=>by
  show di c (x++[c]++cv [c] (y::r))=_
  rw [List.append_assoc,List.singleton_append,Lj c _ x (h x (.head _)),HC c (y::r) (by simp) λp hp=>h p (.tail _ hp)]
theorem Hs (s:List Nat) (c:Nat):Txt.split (mk s) (mk [c])=(di c s).map mk:=by
 have hj:=StrLaws.join_split (mk s) ⟨#[c]⟩
 have hf:=StrLaws.split_free (mk s) c
 have hl:=split_len (mk s) c
 show Txt.split (mk s) ⟨#[c]⟩=_
 generalize Txt.split (mk s) ⟨#[c]⟩=HV at hj hf hl
 obtain ⟨l,rfl⟩:∃l:List (List Nat),HV=l.map mk:=⟨HV.map λp=>p.cps.toList,by rw [List.map_map];simp [Function.comp_def,XF]⟩
 have Sq:cv [c] l=s:=by
  have:Str.join (mk [c]) (l.map mk)=mk s:=hj
  rw [yr] at this
  exact vH this
 have cx:l≠[]:=by
  rintro rfl
  have:0≤cnt c (mk s).cps.toList:=by
   have:∀l:List Nat,0≤cnt c l:=λl=>by
    induction l with
    |nil=>rw [cnt_nil];exact Int.le_refl _
    |cons x r ih=>rw [cnt_cons];split<;>omega
   exact this _
  simp at hl
  omega
 rw [←Sq,HC c l cx λp hp=>by simpa [mk] using hf (mk p) (List.mem_map_of_mem hp)]
theorem Kb (c d:Nat):∀s:List Nat,cv [d] (di c s)=s.map λx=>if x=c then d else x
 |[]=>rfl
 |x::r=>by
  have ih:=Kb c d r
  unfold di
  by_cases h:x=c
  ·rw [if_pos h,List.map_cons,if_pos h, ←ih]
   cases hq:di c r with
   |nil=>exact absurd hq (Nq c r)
   |cons p ps=>rfl
  ·rw [if_neg h,List.map_cons,if_neg h, ←ih]
   cases hq:di c r with
   |nil=>exact absurd hq (Nq c r)
   |cons p ps=>cases ps<;>rfl
theorem NM (s:List Nat) (c d:Nat):Txt.replace (mk s) (mk [c]) (mk [d])=mk (s.map λx=>if x=c then d else x):=by
 have:=StrLaws.replace_one (mk s) (mk [d]) c
 show Txt.replace (mk s) ⟨#[c]⟩ (mk [d])=_
 rw [this]
 show Str.join (mk [d]) (Txt.split (mk s) (mk [c]))=_
 rw [Hs,yr,Kb]
theorem Fy (c:Nat):∀l:List Nat,cnt c l=((l.count c:Nat):Int)
 |[]=>by rw [cnt_nil];rfl
 |x::r=>by
  rw [cnt_cons,Fy c r,List.count_cons]
  by_cases h:x=c<;>simp [h]<;>omega
theorem YL (s:List Nat) (c:Nat):Txt.count (mk s) (mk [c])=((s.count c:Nat):Int):=by
 have:=count_cnt (mk s) c
 show Txt.count (mk s) ⟨#[c]⟩=_
 rw [this,Fy]
 simp [mk]
theorem Im {α:Type} (p:α→Bool) (l:List α):l.drop (l.takeWhile p).length=l.dropWhile p:=by
 induction l with
 |nil=>rfl
 |cons x r ih=>
  by_cases h:p x=true
  ·simp [h,ih]
  ·simp [h]
theorem aac:∀c,c<128→Unicode.isSpace c=dH c:=by decide +kernel
theorem GU {α:Type} {p q:α→Bool}:∀{l:List α},(∀x∈l,p x=q x)→l.dropWhile p=l.dropWhile q
 |[],_=>rfl
 |x::r,h=>by
  rw [List.dropWhile_cons,List.dropWhile_cons,h x (.head _),GU λy hy=>h y (.tail _ hy)]
theorem Xh (s:List Nat) (ha:vP s=true):Txt.strip (mk s)=mk (cZ s):=by
 have hs:∀c∈s,Unicode.isSpace c=dH c:=λc hc=>by
  have:=List.all_eq_true.mp ha c hc
  exact aac c (by simpa using this)
 unfold Txt.strip
 rw [W.stripBy_eq]
 unfold W.stripped
 simp only [if_true]
 have hl:(mk s).cps.toList=s:=by simp [mk]
 have dy:(mk s).length=s.length:=by simp [mk,Str.length]
 rw [hl,Im,dy]
 unfold cZ Builtin.Str.strSub
 have e1:s.dropWhile Unicode.isSpace=s.dropWhile dH:=GU hs
 rw [e1]
 have TG:∀c∈s.dropWhile dH,Unicode.isSpace c=dH c:=λc hc=>hs c (List.dropWhile_suffix _ |>.subset hc)
 have e2:((s.dropWhile dH).reverse.takeWhile Unicode.isSpace).length=((s.dropWhile dH).reverse.takeWhile dH).length:=by
  have:∀l:List Nat,(∀c∈l,Unicode.isSpace c=dH c)→l.takeWhile Unicode.isSpace=l.takeWhile dH:=by
   intro l
   induction l with
   |nil=>intro _;rfl
   |cons x r ih=>intro h;rw [List.takeWhile_cons,List.takeWhile_cons,h x (.head _),ih λy hy=>h y (.tail _ hy)]
  rw [this _ λc hc=>TG c (List.mem_reverse.mp hc)]
 rw [e2]
 have xZ:(s.takeWhile Unicode.isSpace).length=(s.takeWhile dH).length:=by
  have h1:=congrArg List.length (List.takeWhile_append_dropWhile (p:=Unicode.isSpace) (l:=s))
  have h2:=congrArg List.length (List.takeWhile_append_dropWhile (p:=dH) (l:=s))
  rw [List.length_append,e1] at h1
  rw [List.length_append] at h2
  omega
 rw [xZ]
 unfold mk
 congr 1
 rw [←Array.toList_inj]
 simp only [Array.toList_extract,List.toList_toArray,List.extract_eq_take_drop]
 rw [Im]
 generalize hd:s.dropWhile dH=d
 have Hl:s.length=(s.takeWhile dH).length+d.length:=by
  rw [←hd, ←List.length_append,List.takeWhile_append_dropWhile]
 have:d=(d.reverse.dropWhile dH).reverse++(d.reverse.takeWhile dH).reverse:=by
  rw [←List.reverse_append,List.takeWhile_append_dropWhile,List.reverse_reverse]
 have ab2:d.length=((d.reverse.dropWhile dH).reverse).length+(d.reverse.takeWhile dH).length:=by
  have:=congrArg List.length this
  rw [List.length_append,List.length_reverse (as:=List.takeWhile _ _)] at this
  exact this
 have hk:s.length-(d.reverse.takeWhile dH).length-(s.takeWhile dH).length=((d.reverse.dropWhile dH).reverse).length:=by omega
 rw [hk]
 exact (congrArg (List.take _) this).trans List.take_left
theorem D4 {M:Model} {Γ:Ctx} {p:Pos} {t:Sem Fin} {fs:List Frame} {s s':Shared} {e:End} (h:Runs M Γ p t fs s e s'):s.toks≤s'.toks:=by
 induction h with
 |done |raise |yield=>exact adq _
 |fresh _ ih=>exact adk (Nat.le_succ _) ih
 |again _ _ ih |rule _ ih | «at» _ ih |load _ _ ih |update _ _ ih |loadIfAlive _ ih |point _ ih |alloc _ ih |ask _ ih |choose _ _ ih |os _ ih |handled _ ih |genState _ _ ih |stack _ ih |thread _ ih |newGen _ ih=>exact ih
 |callSusp _ ih=>exact ih
 |call _ _ a b=>exact adk a b
 |resumeFresh _ _ _ _ a b=>exact adk a b
 |resumeSuspended _ _ _ _ a b=>exact adk a b
 |resumeJustStarted _ _ _ ih |resumeThrowFresh _ _ ih |resumeRunning _ _ ih |resumeFinished _ _ ih=>exact ih
 |segRet _ _ a b |segGen _ _ a b=>exact adk a b
 |segSuspOut _ _ ih=>exact ih
 |segSuspGen _ _ _ _ a b=>exact adk a b
theorem NW {α:Type} {M:Model} {Γ:Ctx} {t:Sem α} {Q:α→Pos→Shared→Prop} {E:Value→Pos→Shared→Prop} {p:Pos} {s:Shared} (h:Sem.wp M Γ t Q E p s):
  Sem.wp M Γ t (λa p s'=>Q a p s'∧s.toks≤s'.toks) (λe p s'=>E e p s'∧s.toks≤s'.toks) p s:=by
 have aQ:∀(t:Sem α) (p:Pos) (bN:Shared),s.toks≤bN.toks→Sem.wp M Γ t Q E p bN→Sem.wp M Γ t (λa p s'=>Q a p s'∧s.toks≤s'.toks) (λe p s'=>E e p s'∧s.toks≤s'.toks) p bN:=by
  intro t
  induction t with
  |pure x |raise x=>exact λp bN l h=>⟨h,l⟩
  |unsupported |finish |yield |fork |await |register=>exact λ_ _ _ h=>h
  |fresh k ih=>exact λp bN l h=>ih _ _ _ (adk l (Nat.le_succ _)) h
  |rule _ k ih | «at» _ k ih |alloc _ k ih |loadIfAlive _ k ih |point _ k ih |ask k ih |os _ _ k ih |handled _ k ih |newGen _ k ih |stack k ih |thread k ih=>exact λp bN l h=>ih _ _ _ l h
  |load a _ k ih |genState a k ih=>exact λp bN l ⟨o,ho,h⟩=>⟨o,ho,ih _ _ _ l h⟩
  |update a _ f k ih |choose _ _ k ih=>exact λp bN l ⟨ha,h⟩=>⟨ha,ih _ _ _ l h⟩
  |call c h g l k ih=>exact λp bN l ⟨r,s',hr,h⟩=>⟨r,s',hr,ih _ _ _ (adk l (D4 hr)) h⟩
  |resume g r l k ih=>
   intro p bN le ⟨res,s',hw,h⟩
   refine ⟨res,s',hw,ih _ _ _ (adk le ?_) h⟩
   unfold Wakes at hw
   repeat' split at hw
   all_goals first
    |(obtain ⟨_,_,h1,_,_,h2⟩:=hw;subst h2;exact (show bN.toks≤_ from (D4 h1:)))
    |(obtain ⟨_,h2⟩:=hw;subst h2;exact adq _)
    |exact False.elim hw
 exact aQ t p s (adq _) h
theorem wpAny_toks {α:Type} {M:Model} {A:Around} {t:Sem α} {Q:α→Shared→Prop} {E:Value→Shared→Prop} {s:Shared} (h:wpAny M A t Q E s):
  wpAny M A t (λa s'=>Q a s'∧s.toks≤s'.toks) (λe s'=>E e s'∧s.toks≤s'.toks) s:=λΓ p UG=>NW (h Γ p UG)
theorem abB {M:Model} {A:Around} {c:Code} {R:Result→Shared→Prop} {s:Shared} (h:codeAny M A c R s):
  codeAny M A c (λr s'=>R r s'∧s.toks≤s'.toks) s:=λΓ p h1 h2=>by
 obtain ⟨r,s',hr,h⟩:=h Γ p h1 h2
 exact ⟨r,s',hr,h,D4 hr⟩
abbrev aH:=List (Addr×Addr)
noncomputable def bM (Z:aH) (b:Addr):Prop:=∃p∈Z,b=p.1∨b=p.2
noncomputable def cD:cj→Addr
 | .macro=>162
 | .table=>197
 | .et=>268
noncomputable def bA:Addr:=45
noncomputable def aB (f:Nat):Str:=Str.ofString (uB.getD f "")
mutual
noncomputable def RV (J h:Heap) (Z:aH):V→Value→Prop
 | .none,v=>v= .none
 | .bool b,v=>v= .bool b
 | .int i,v=>∃t,v= .int i t
 | .str s,v=>(∃t,v= .str ⟨s.toArray⟩ t)∧s.length≤aq
 | .ref n,v=>∃p,Z[n]?=some p∧v= .ref p.1
 | .tup vs,v=>∃a ws,v= .ref a∧IsTup h a ws∧aD J h Z vs ws.toList
 | .frozen vs,v=>∃a o ws,v= .ref a∧J.get? a=some o∧h.IsList a ws∧ws.size≤aq∧aD J h Z vs ws.toList
noncomputable def aD (J h:Heap) (Z:aH):List V→List Value→Prop
 |[],ws=>ws=[]
 |v::vs,ws=>∃x r,ws=x::r∧RV J h Z v x∧aD J h Z vs r
end
theorem k8 {Z ai:aH} (hp:Z<+:ai) {n:Nat} {p:Addr×Addr} (e:Z[n]?=some p):ai[n]?=some p:=by
 obtain ⟨t,rfl⟩:=hp
 rw [List.getElem?_append_left (List.getElem?_eq_some_iff.mp e).1]
 exact e
theorem aD.length {J h:Heap} {Z:aH}:∀{vs:List V} {ws:List Value},aD J h Z vs ws→ws.length=vs.length
 |[],_,e=>by simp only [aD] at e;rw [e];rfl
 |_::_,_,e=>by
  simp only [aD] at e
  obtain ⟨x,r,rfl,_,h⟩:=e
  rw [List.length_cons,List.length_cons,aD.length h]
theorem aD.get {J h:Heap} {Z:aH}:∀{vs:List V} {ws:List Value},aD J h Z vs ws→∀{i:Nat} {v:V},vs[i]?=some v→∃x,ws[i]?=some x∧RV J h Z v x
 |[],_,_,_,_,q=>by cases q
 |_::_,_,e,i,v,q=>by
  simp only [aD] at e
  obtain ⟨x,r,rfl,hx,h⟩:=e
  cases i with
  |zero=>cases q;exact ⟨x,rfl,hx⟩
  |succ i=>exact aD.get h (by simpa using q)
theorem aD.set {J h:Heap} {Z:aH}:∀{vs:List V} {ws:List Value},aD J h Z vs ws→∀{i:Nat} {v:V} {x:Value},RV J h Z v x→aD J h Z (vs.set i v) (ws.set i x)
 |[],_,e,_,_,_,_=>by simp only [aD] at e;subst e;simp [aD]
 |_::_,_,e,i,v,x,q=>by
  simp only [aD] at e
  obtain ⟨y,r,rfl,hy,h⟩:=e
  cases i with
  |zero=>simp only [List.set_cons_zero,aD];exact ⟨x,r,rfl,q,h⟩
  |succ i=>simp only [List.set_cons_succ,aD];exact ⟨y,_,rfl,hy,aD.set h q⟩
theorem aD.append {J h:Heap} {Z:aH}:∀{vs us:List V} {ws xs:List Value},aD J h Z vs ws→aD J h Z us xs→aD J h Z (vs++us) (ws++xs)
 |[],_,_,_,e,q=>by simp only [aD] at e;subst e;exact q
 |_::_,_,_,_,e,q=>by
  simp only [aD] at e
  obtain ⟨y,r,rfl,hy,h⟩:=e
  simp only [List.cons_append,aD]
  exact ⟨y,_,rfl,hy,aD.append h q⟩
theorem aD.cons {J h:Heap} {Z:aH} {v:V} {vs:List V} {x:Value} {ws:List Value} (a:RV J h Z v x) (b:aD J h Z vs ws):aD J h Z (v::vs) (x::ws):=by
 simp only [aD];exact ⟨x,ws,rfl,a,b⟩
theorem aD.nil {J h:Heap} {Z:aH}:aD J h Z [] []:=by simp only [aD]
theorem aD.one {J h:Heap} {Z:aH} {v:V} {x:Value} (a:RV J h Z v x):aD J h Z [v] [x]:=aD.cons a aD.nil
theorem aD.take {J h:Heap} {Z:aH}:∀{vs:List V} {ws:List Value},aD J h Z vs ws→∀n,aD J h Z (vs.take n) (ws.take n)
 |_,_,_,0=>by simp [aD]
 |[],_,e,n+1=>by simp only [aD] at e;subst e;simp [aD]
 |_::_,_,e,n+1=>by
  simp only [aD] at e
  obtain ⟨y,r,rfl,hy,h⟩:=e
  simp only [List.take_succ_cons]
  exact aD.cons hy (aD.take h n)
theorem aD.drop {J h:Heap} {Z:aH}:∀{vs:List V} {ws:List Value},aD J h Z vs ws→∀n,aD J h Z (vs.drop n) (ws.drop n)
 |_,_,e,0=>by simpa using e
 |[],_,e,n+1=>by simp only [aD] at e;subst e;simp [aD]
 |_::_,_,e,n+1=>by
  simp only [aD] at e
  obtain ⟨y,r,rfl,hy,h⟩:=e
  simp only [List.drop_succ_cons]
  exact aD.drop h n
structure VK (J:Heap) (Z:aH) (h:Heap) (ai:aH) (h':Heap):Prop where
 pre:Z<+:ai
 seq:∀b o,h.get? b=some o→¬bM Z b→(∃vs n,o.data= .seq vs n)→(o.cls= .type "tuple"∨(J.get? b).isSome)→∃sl,h'.get? b=some {o with slots:=sl}
 stays:J.StaysIn h'
 off:∀p∈Z,J.get? p.1=none∧J.get? p.2=none
 cells:∀b o,bM Z b→h.get? b=some o→(∀vs n,o.data= .seq vs n→o.cls= .type "list")
theorem D2 {J:Heap} {Z:aH} (off:∀p∈Z,J.get? p.1=none∧J.get? p.2=none) {a:Addr} {o:Obj} (e:J.get? a=some o):¬bM Z a:=by
 rintro ⟨p,hp,rfl |rfl⟩
 ·rw [(off p hp).1] at e;cases e
 ·rw [(off p hp).2] at e;cases e
mutual
theorem RV.mono {J h h':Heap} {Z ai:aH} (k:VK J Z h ai h'):∀{v:V} {x:Value},RV J h Z v x→RV J h' ai v x
 | .none,_,e=>by simpa only [RV] using e
 | .bool _,_,e=>by simpa only [RV] using e
 | .int _,_,e=>by simpa only [RV] using e
 | .str _,_,e=>by simpa only [RV] using e
 | .ref n,_,e=>by
  simp only [RV] at e ⊢
  obtain ⟨p,hp,rfl⟩:=e
  exact ⟨p,k8 k.pre hp,rfl⟩
 | .tup vs,_,e=>by
  simp only [RV] at e ⊢
  obtain ⟨a,ws,rfl,⟨o,ho,hc,n,hd⟩,r⟩:=e
  have nf:¬bM Z a:=λq=>by
   exact absurd (hc.symm.trans (k.cells a o q ho _ _ hd)) (by decide)
  obtain ⟨sl,hs⟩:=k.seq a o ho nf ⟨_,_,hd⟩ (.inl hc)
  exact ⟨a,ws,rfl,⟨_,hs,hc,n,hd⟩,aD.mono k r⟩
 | .frozen vs,_,e=>by
  simp only [RV] at e ⊢
  obtain ⟨a,o,ws,rfl,hb,⟨o',ho,hc,n,hd⟩,hz,r⟩:=e
  obtain ⟨sl,hs⟩:=k.seq a o' ho (D2 k.off hb) ⟨_,_,hd⟩ (.inr (by rw [hb];rfl))
  exact ⟨a,o,ws,rfl,hb,⟨_,hs,hc,n,hd⟩,hz,aD.mono k r⟩
theorem aD.mono {J h h':Heap} {Z ai:aH} (k:VK J Z h ai h'):∀{vs:List V} {ws:List Value},aD J h Z vs ws→aD J h' ai vs ws
 |[],_,e=>by simpa only [aD] using e
 |_::_,_,e=>by
  simp only [aD] at e ⊢
  obtain ⟨x,r,rfl,hx,h⟩:=e
  exact ⟨x,r,rfl,RV.mono k hx,aD.mono k h⟩
end
section
variable (U:Program) (w:World)
noncomputable def bo (J h:Heap) (Z:aH):List (List Nat×V)→List (Str×Value)→Prop
 |[],l=>l=[]
 |(k,v)::r,l=>∃x q,l=(⟨k.toArray⟩,x)::q∧RV J h Z v x∧bo J h Z r q
noncomputable def cA (J h:Heap) (Z:aH):List (Nat×V)→List DictEntry→Prop
 |[],l=>l=[]
 |(f,v)::r,l=>∃hs t x q,l=⟨hs,.str (aB f) t,x⟩::q∧f<14∧RV J h Z v x∧cA J h Z r q
noncomputable def RC (J h:Heap) (Z:aH) (p:Addr×Addr):Cell→Prop
 | .list vs=>p.2=p.1∧vs.length≤aq∧∃ws,h.PlainList p.1 ws∧aD J h Z vs ws.toList
 | .dict es=>p.2=p.1∧es.length≤1000000∧∃cL,h.DictOf (strKind U w) p.1 cL∧bo J h Z es cL
 | .inst c fs=>h.get? p.1=some (instObj (cD c) p.2)∧fs.length≤14∧(fs.map (·.1)).Nodup∧∃es n,h.get? p.2=some (dictOf es n)∧cA J h Z fs es
structure SR (J h:Heap) (Z:aH) (O:ag):Prop where
 len:Z.length=O.length
 cell:∀(n:Nat) p c,Z[n]?=some p→O[n]?=some c→RC U w J h Z p c
 sep:∀(n m:Nat) p q,Z[n]?=some p→Z[m]?=some q→n≠m→p.1≠q.1∧p.1≠q.2∧p.2≠q.1∧p.2≠q.2
 off:∀p∈Z,J.get? p.1=none∧J.get? p.2=none
end
section
variable {U:Program} {w:World} {J h h':Heap} {Z ai:aH} {O:ag}
theorem bo.mono (k:VK J Z h ai h'):∀{es:List (List Nat×V)} {l:List (Str×Value)},bo J h Z es l→bo J h' ai es l
 |[],_,e=>e
 |(_,_)::_,_,e=>by
  simp only [bo] at e ⊢
  obtain ⟨x,q,a,b,c⟩:=e
  exact ⟨x,q,a,RV.mono k b,bo.mono k c⟩
theorem cA.mono (k:VK J Z h ai h'):∀{es:List (Nat×V)} {l:List DictEntry},cA J h Z es l→cA J h' ai es l
 |[],_,e=>e
 |(_,_)::_,_,e=>by
  simp only [cA] at e ⊢
  obtain ⟨hs,t,x,q,a,g,b,c⟩:=e
  exact ⟨hs,t,x,q,a,g,RV.mono k b,cA.mono k c⟩
theorem RC.mono (k:VK J Z h ai h') {p:Addr×Addr} (e1:∀o,h.get? p.1=some o→h'.get? p.1=some o) (e2:∀o,h.get? p.2=some o→h'.get? p.2=some o):∀{c:Cell},RC U w J h Z p c→RC U w J h' ai p c
 | .list vs,⟨a,b,ws,⟨o,ho⟩,d⟩=>⟨a,b,ws,⟨o,e1 _ ho⟩,aD.mono k d⟩
 | .dict es,⟨a,b,cL,⟨o,x,ep,ho,r⟩,d⟩=>⟨a,b,cL,⟨o,x,ep,e1 o ho,r⟩,bo.mono k d⟩
 | .inst c fs,⟨a,b,nd,es,n,d,f⟩=>⟨e1 _ a,b,nd,es,n,e2 _ d,cA.mono k f⟩
theorem RC.kind {p:Addr×Addr} {c:Cell} (x:RC U w J h Z p c) {b:Addr} (hb:b=p.1∨b=p.2):
  ∃o,h.get? b=some o∧((∃vs n,o.data= .seq vs n∧o.cls= .type "list")∨(∃es n,o.data= .dict es n)∨(o.data= .plain)):=by
 cases c with
 |list vs=>
  obtain ⟨a,_,ws,⟨n,ho⟩,_⟩:=x
  have:b=p.1:=by rcases hb with h |h<;>simp_all
  exact ⟨_,this▸ho,.inl ⟨_,_,rfl,rfl⟩⟩
 |dict es=>
  obtain ⟨a,_,cL,⟨o,x,ep,ho,_,hd,_⟩,_⟩:=x
  have:b=p.1:=by rcases hb with h |h<;>simp_all
  exact ⟨o,this▸ho,.inr (.inl ⟨_,_,hd⟩)⟩
 |inst c fs=>
  obtain ⟨a,_,_,es,n,d,_⟩:=x
  rcases hb with h |h
  ·exact ⟨_,h▸a,.inr (.inr rfl)⟩
  ·exact ⟨_,h▸d,.inr (.inl ⟨_,_,rfl⟩)⟩
theorem SR.kind (S:SR U w J h Z O) {b:Addr} (hb:bM Z b):
  ∃o,h.get? b=some o∧((∃vs n,o.data= .seq vs n∧o.cls= .type "list")∨(∃es n,o.data= .dict es n)∨(o.data= .plain)):=by
 obtain ⟨p,hp,e⟩:=hb
 obtain ⟨n,hn⟩:=List.getElem?_of_mem hp
 have hl:n<O.length:=by rw [←S.len];exact (List.getElem?_eq_some_iff.mp hn).1
 exact (S.cell n p _ hn (List.getElem?_eq_getElem hl)).kind e
theorem SR.live (S:SR U w J h Z O) {b:Addr} (hb:bM Z b):(h.get? b).isSome:=by
 obtain ⟨o,e,_⟩:=S.kind hb
 rw [e];rfl
theorem SR.BL (S:SR U w J h Z O) {b:Addr} {o:Obj} {vs:Array Value} (e:h.get? b=some o) (hd:o.data= .fields vs):¬bM Z b:=λq=>by
 obtain ⟨o',e',k⟩:=S.kind q
 rw [e] at e';cases e'
 rcases k with ⟨_,_,k,_⟩ |⟨_,_,k⟩ |k<;>rw [hd] at k<;>cases k
theorem SR.Ec (S:SR U w J h Z O) {b:Addr} {o:Obj} {v:Option Value} (e:h.get? b=some o) (hd:o.data= .cell v):¬bM Z b:=λq=>by
 obtain ⟨o',e',k⟩:=S.kind q
 rw [e] at e';cases e'
 rcases k with ⟨_,_,k,_⟩ |⟨_,_,k⟩ |k<;>rw [hd] at k<;>cases k
theorem SR.cells (S:SR U w J h Z O):∀b o,bM Z b→h.get? b=some o→(∀vs n,o.data= .seq vs n→o.cls= .type "list"):=λb o q e vs n hd=>by
 obtain ⟨o',e',k⟩:=S.kind q
 rw [e] at e';cases e'
 rcases k with ⟨_,_,_,k⟩ |⟨_,_,k⟩ |k
 ·exact k
 ·rw [hd] at k;cases k
 ·rw [hd] at k;cases k
noncomputable def aE:Addr→Prop:=λ_=>False
structure aj (X:Addr→Prop) (Z:aH) (s:Shared) (ai:aH) (s':Shared):Prop where
 pre:Z<+:ai
 keep:∀b o,s.heap.get? b=some o→¬bM Z b→¬X b→s'.heap.get? b=some o
 live:∀b,(s.heap.get? b).isSome→(s'.heap.get? b).isSome
 new:∀(n:Nat) p,Z.length≤n→ai[n]?=some p→s.heap.get? p.1=none∧s.heap.get? p.2=none
 gens:s'.gens=s.gens
 drawn:s'.drawn=s.drawn
 os:s'.os=s.os
theorem aj.refl (X:Addr→Prop) (Z:aH) (s:Shared):aj X Z s Z s:=
 ⟨List.prefix_refl _,λ_ _ e _ _=>e,λ_ e=>e,λn p hn e=>(by rw [List.getElem?_eq_none hn] at e;cases e),rfl,rfl,rfl⟩
theorem acg {b:Addr} (hp:Z<+:ai) (q:bM Z b):bM ai b:=by
 obtain ⟨p,hm,e⟩:=q
 exact ⟨p,hp.subset hm,e⟩
theorem g5 {X:Addr→Prop} {s s':Shared} (E:aj X Z s ai s') {b:Addr} (hl:(s.heap.get? b).isSome) (q:bM ai b):bM Z b:=by
 obtain ⟨p,hm,e⟩:=q
 obtain ⟨n,hn⟩:=List.getElem?_of_mem hm
 by_cases aK:n<Z.length
 ·have:=k8 E.pre (List.getElem?_eq_getElem aK)
  rw [hn] at this
  injection this with this
  exact ⟨p,this▸List.getElem_mem aK,e⟩
 ·obtain ⟨a,c⟩:=E.new n p (Nat.le_of_not_lt aK) hn
  rcases e with rfl |rfl
  ·rw [a] at hl;cases hl
  ·rw [c] at hl;cases hl
theorem aj.trans {X:Addr→Prop} {s s' bY:Shared} {f9:aH} (a:aj X Z s ai s') (b:aj X ai s' f9 bY):aj X Z s f9 bY:=by
 refine ⟨a.pre.trans b.pre,λc o e nf nx=>b.keep c o (a.keep c o e nf nx) (λq=>nf (g5 a (by rw [e];rfl) q)) nx,λc e=>b.live c (a.live c e),λn p hn e=>?_,
  b.gens.trans a.gens,b.drawn.trans a.drawn,b.os.trans a.os⟩
 have tZ:∀c,s'.heap.get? c=none→s.heap.get? c=none:=λc q=>by
  cases z:s.heap.get? c with
  |none=>rfl
  |some o=>have:=a.live c (by rw [z];rfl);rw [q] at this;cases this
 by_cases aK:n<ai.length
 ·have:=k8 b.pre (List.getElem?_eq_getElem aK)
  rw [e] at this
  exact a.new n p hn (by rw [this];exact List.getElem?_eq_getElem aK)
 ·obtain ⟨x,y⟩:=b.new n p (Nat.le_of_not_lt aK) e
  exact ⟨tZ _ x,tZ _ y⟩
theorem aj.chain {X Y:Addr→Prop} {s s' bY:Shared} {f9:aH} (a:aj X Z s ai s') (b:aj Y ai s' f9 bY) (h:∀c,Y c→X c∨s.heap.get? c=none):aj X Z s f9 bY:=by
 refine ⟨a.pre.trans b.pre,λc o e nf nx=>b.keep c o (a.keep c o e nf nx) (λq=>nf (g5 a (by rw [e];rfl) q)) (λy=>?_),λc e=>b.live c (a.live c e),λn p hn e=>?_,
  b.gens.trans a.gens,b.drawn.trans a.drawn,b.os.trans a.os⟩
 ·rcases h c y with q |q
  ·exact nx q
  ·rw [q] at e;cases e
 have tZ:∀c,s'.heap.get? c=none→s.heap.get? c=none:=λc q=>by
  cases z:s.heap.get? c with
  |none=>rfl
  |some o=>have:=a.live c (by rw [z];rfl);rw [q] at this;cases this
 by_cases aK:n<ai.length
 ·have:=k8 b.pre (List.getElem?_eq_getElem aK)
  rw [e] at this
  exact a.new n p hn (by rw [this];exact List.getElem?_eq_getElem aK)
 ·obtain ⟨x,y⟩:=b.new n p (Nat.le_of_not_lt aK) e
  exact ⟨tZ _ x,tZ _ y⟩
theorem aj.weaken {X Y:Addr→Prop} {s s':Shared} (a:aj X Z s ai s') (h:∀b,X b→Y b):aj Y Z s ai s':=
 ⟨a.pre,λb o e nf ny=>a.keep b o e nf λq=>ny (h b q),a.live,a.new,a.gens,a.drawn,a.os⟩
theorem aj.vk {X:Addr→Prop} {s s':Shared} (a:aj X Z s ai s') (S:SR U w J s.heap Z O) (st:J.StaysIn s'.heap) (hX:∀b o,X b→s.heap.get? b=some o→∀vs n,o.data= .seq vs n→False):VK J Z s.heap ai s'.heap:=
 ⟨a.pre,λb o e nf ⟨vs,n,hd⟩ _=>⟨o.slots,a.keep b o e nf λq=>hX b o q e vs n hd⟩,st,S.off,S.cells⟩
theorem aj.stays {X:Addr→Prop} {s s':Shared} (a:aj X Z s ai s') (S:SR U w J s.heap Z O) (st:J.StaysIn s.heap) (hX:∀b,X b→J.get? b=none):J.StaysIn s'.heap:=λb o e=>
 a.keep b o (st b o e) (D2 S.off e) λq=>by rw [hX b q] at e;cases e
theorem SR.grow (S:SR U w J h Z O) (k:VK J Z h Z h') (e:∀b o,bM Z b→h.get? b=some o→h'.get? b=some o):SR U w J h' Z O:=by
 refine ⟨S.len,λn p c hn hc=>(S.cell n p c hn hc).mono k (λo=>e p.1 o ⟨p,List.mem_of_getElem? hn,.inl rfl⟩) (λo=>e p.2 o ⟨p,List.mem_of_getElem? hn,.inr rfl⟩),S.sep,S.off⟩
theorem SR.turn (S:SR U w J h Z O) (k:VK J Z h Z h') {n:Nat} {p:Addr×Addr} (hn:Z[n]?=some p) {c:Cell} (hc:RC U w J h' Z p c)
    (e:∀b o,bM Z b→b≠p.1→b≠p.2→h.get? b=some o→h'.get? b=some o):SR U w J h' Z (O.set n c):=by
 refine ⟨by rw [List.length_set];exact S.len,λm q d hm hd=>?_,S.sep,S.off⟩
 by_cases eV:n=m
 ·subst eV
  rw [hn] at hm;cases hm
  have hl:n<O.length:=by rw [←S.len];exact (List.getElem?_eq_some_iff.mp hn).1
  rw [List.getElem?_set_self hl] at hd
  cases hd;exact hc
 ·rw [List.getElem?_set_ne eV] at hd
  obtain ⟨a1,a2,a3,a4⟩:=S.sep n m p q hn hm eV
  have lI:=List.mem_of_getElem? hm
  exact (S.cell m q d hm hd).mono k (λo=>e q.1 o ⟨q,lI,.inl rfl⟩ (Ne.symm a1) (Ne.symm a3)) (λo=>e q.2 o ⟨q,lI,.inr rfl⟩ (Ne.symm a2) (Ne.symm a4))
theorem SR.add {p:Addr×Addr} (S:SR U w J h Z O) (k:VK J Z h (Z++[p]) h') {c:Cell} (hc:RC U w J h' (Z++[p]) p c)
    (e:∀b o,bM Z b→h.get? b=some o→h'.get? b=some o) (n1:¬bM Z p.1) (n2:¬bM Z p.2) (b1:J.get? p.1=none) (b2:J.get? p.2=none):SR U w J h' (Z++[p]) (O++[c]):=by
 have EJ:∀(n:Nat) q,Z[n]?=some q→q.1≠p.1∧q.1≠p.2∧q.2≠p.1∧q.2≠p.2:=λn q hq=>by
  have lI:=List.mem_of_getElem? hq
  refine ⟨λz=>n1 ⟨q,lI,.inl z.symm⟩,λz=>n2 ⟨q,lI,.inl z.symm⟩,λz=>n1 ⟨q,lI,.inr z.symm⟩,λz=>n2 ⟨q,lI,.inr z.symm⟩⟩
 refine ⟨by simp [S.len],λn q d hn hd=>?_,λn m x y hx hy ne=>?_,λq hq=>?_⟩
 ·by_cases aK:n<Z.length
  ·rw [List.getElem?_append_left aK] at hn
   rw [List.getElem?_append_left (S.len▸aK)] at hd
   have lI:=List.mem_of_getElem? hn
   exact (S.cell n q d hn hd).mono k (λo=>e q.1 o ⟨q,lI,.inl rfl⟩) (λo=>e q.2 o ⟨q,lI,.inr rfl⟩)
  ·have jX:=Nat.le_of_not_lt aK
   rw [List.getElem?_append_right jX] at hn
   rw [List.getElem?_append_right (S.len▸jX), ←S.len] at hd
   cases hk:n-Z.length with
   |zero=>rw [hk] at hn hd;cases hn;cases hd;exact hc
   |succ j=>rw [hk] at hn;simp at hn
 ·have cQ:∀(i:Nat) q,(Z++[p])[i]?=some q→Z[i]?=some q∨(i=Z.length∧q=p):=λi q hi=>by
   by_cases aK:i<Z.length
   ·rw [List.getElem?_append_left aK] at hi;exact .inl hi
   ·have jX:=Nat.le_of_not_lt aK
    rw [List.getElem?_append_right jX] at hi
    cases hk:i-Z.length with
    |zero=>rw [hk] at hi;cases hi;exact .inr ⟨by omega,rfl⟩
    |succ j=>rw [hk] at hi;simp at hi
  rcases cQ n x hx with a |⟨a,rfl⟩<;>rcases cQ m y hy with c |⟨c,rfl⟩
  ·exact S.sep n m x y a c ne
  ·exact EJ n x a
  ·obtain ⟨z1,z2,z3,z4⟩:=EJ m y c
   exact ⟨Ne.symm z1,Ne.symm z3,Ne.symm z2,Ne.symm z4⟩
  ·exact absurd (a.trans c.symm) ne
 ·rcases List.mem_append.mp hq with z |z
  ·exact S.off q z
  ·rw [List.mem_singleton] at z;subst z;exact ⟨b1,b2⟩
theorem SR.more {p:Addr×Addr} (S:SR U w J h Z O) (k:VK J Z h (Z++[p]) h') {c:Cell} (hc:RC U w J h' (Z++[p]) p c)
    (e:∀b o,bM Z b→h.get? b=some o→h'.get? b=some o) (n1:h.get? p.1=none) (n2:h.get? p.2=none) (b1:J.get? p.1=none) (b2:J.get? p.2=none):SR U w J h' (Z++[p]) (O++[c]):=
 S.add k hc e (λq=>by have:=S.live q;rw [n1] at this;cases this) (λq=>by have:=S.live q;rw [n2] at this;cases this) b1 b2
end
noncomputable def bb (fl:List Env):List Addr:=fl.filterMap (·.frame)
structure St (U:Program) (w:World) (J:Heap) (fl:List Env) (Z:aH) (O:ag) (s:Shared):Prop where
 sr:SR U w J s.heap Z O
 stays:J.StaysIn s.heap
 frames:s.heap.FunFrames J fl
 jM:∀a∈bb fl,¬bM Z a
 tok:0<s.toks
structure cU (X F:Addr→Prop) (Z:aH) (s:Shared) (ai:aH) (s':Shared):Prop where
 pre:Z<+:ai
 keep:∀b o,s.heap.get? b=some o→¬bM Z b→¬X b→∃sl,s'.heap.get? b=some {o with slots:=sl}∧(¬F b→sl=o.slots)
 live:∀b,(s.heap.get? b).isSome→(s'.heap.get? b).isSome
 new:∀(n:Nat) p,Z.length≤n→ai[n]?=some p→s.heap.get? p.1=none∧s.heap.get? p.2=none
 gens:s'.gens=s.gens
 drawn:s'.drawn=s.drawn
 os:s'.os=s.os
inductive Cx (nj:Bool) (h₀ h:Heap) (x:Addr) (vs:Array Value):Prop where
 |no (hb:nj=false) (h1:vs[1]?=some .none):Cx nj h₀ h x vs
 |yes (tb:Addr) (ot:Obj) (dq:Array Value) (h1:vs[1]?=some (.ref tb)) (h2:h₀.get? tb=none) (h3:tb≠x) (h4:h.get? tb=some ot) (h5:ot.data= .fields dq) (h6:4≤dq.size):Cx nj h₀ h x vs
inductive Jt (nj:Bool) (J h₀ h:Heap) (Z:aH) (x:Addr) (e:aX):Prop where
 |mk (o:Obj) (dx:Addr) (vs:Array Value) (es:List DictEntry) (n:Nat) (ho:h.get? x=some o) (cV:o.cls= .ref bA) (dg:o.dict=some dx) (hd:o.data= .fields vs) (bO:vs.size=6) (ko:Cx nj h₀ h x vs)
      (d1:h₀.get? dx=none) (d2:¬bM Z dx) (d3:h.get? dx=some (dictOf es n)) (d4:cA J h Z [(11,e.k),(12,e.a),(13,e.d)] es):Jt nj J h₀ h Z x e
structure kn (nj:Bool) (J h₀ h:Heap) (Z:aH) (x:Addr) (e:aX):Prop where
 fresh:h₀.get? x=none
 off:¬bM Z x
 ac5:Jt nj J h₀ h Z x e
inductive XO (U:Program) (w:World) (J:Heap) (F:Addr→Prop) (Z:aH) (s:Shared) (e:aX) (af:ag) (v:Value) (s':Shared):Prop where
 |mk (ai:aH) (x:Addr) (hv:v= .ref x) (hx:cU aE F Z s ai s') (hs:SR U w J s'.heap ai af) (he:kn false J s.heap s'.heap ai x e):XO U w J F Z s e af v s'
noncomputable def bh (U:Program) (w:World) (J:Heap) (F:Addr→Prop) {α:Type} (Z:aH) (s:Shared) (out:Out α) (v:Value) (s':Shared):Prop:=match out with
 | .exc e af=>XO U w J F Z s e af v s'
 |_=>False
inductive PO (U:Program) (w:World) (J:Heap) (X:Addr→Prop) (Z:aH) (s:Shared) (x:V) (af:ag) (v:Value) (s':Shared):Prop where
 |mk (ai:aH) (hx:aj X Z s ai s') (hs:SR U w J s'.heap ai af) (hv:RV J s'.heap ai x v):PO U w J X Z s x af v s'
noncomputable def aI (U:Program) (w:World) (J:Heap) (X:Addr→Prop) (Z:aH) (s:Shared) (out:Out V) (v:Value) (s':Shared):Prop:=match out with
 | .ok x af=>PO U w J X Z s x af v s'
 |_=>False
inductive Mi (U:Program) (w:World) (J:Heap) (Z:aH) (s:Shared) (x:List V) (af:ag) (vs:List Value) (s':Shared):Prop where
 |mk (ai:aH) (hx:aj aE Z s ai s') (hs:SR U w J s'.heap ai af) (hv:aD J s'.heap ai x vs):Mi U w J Z s x af vs s'
noncomputable def DB (U:Program) (w:World) (J:Heap) (Z:aH) (s:Shared) (out:Out (List V)) (vs:List Value) (s':Shared):Prop:=match out with
 | .ok x af=>Mi U w J Z s x af vs s'
 |_=>False
section
variable {U:Program} {w:World} {J:Heap} {fl:List Env} {Z ai:aH} {O af:ag} {s s':Shared}
theorem nW {h h' J:Heap}:∀{l:List Env},h.FunFrames J l→(∀a∈bb l,∀o,h.get? a=some o→(∀vs,o.data≠ .fields vs)→∃o',h'.get? a=some o'∧∀vs,o'.data≠ .fields vs)→h'.FunFrames J l
 |[],_,_=>trivial
 |aa::r,⟨hk,⟨L,o,hf,hn,ho,hd⟩,hr⟩,k=>by
  have e:bb (aa::r)=L::bb r:=by simp [bb,hf]
  obtain ⟨o',d8,bQ⟩:=k L (by rw [e];exact .head _) o ho hd
  exact ⟨hk,⟨L,o',hf,hn,d8,bQ⟩,nW hr λa ha=>k a (by rw [e];exact .tail _ ha)⟩
theorem mM {h J:Heap}:∀{l:List Env},h.FunFrames J l→∀a∈bb l,J.get? a=none∧∃o,h.get? a=some o∧∀vs,o.data≠ .fields vs
 |[],_,a,ha=>by cases ha
 |aa::r,⟨hk,⟨L,o,hf,hn,ho,hd⟩,hr⟩,a,ha=>by
  have e:bb (aa::r)=L::bb r:=by simp [bb,hf]
  rw [e] at ha
  rcases List.mem_cons.mp ha with rfl |ha
  ·exact ⟨hn,o,ho,hd⟩
  ·exact mM hr a ha
theorem aj.fp (E:aj aE Z s ai s') (S:St U w J fl Z O s):VK J Z s.heap ai s'.heap:=
 E.vk S.sr (E.stays S.sr S.stays λ_ x=>x.elim) λ_ _ x=>x.elim
theorem St.ext (S:St U w J fl Z O s) (E:aj aE Z s ai s') (R:SR U w J s'.heap ai af) (ht:s.toks≤s'.toks):St U w J fl ai af s':=by
 refine ⟨R,E.stays S.sr S.stays λ_ x=>x.elim,nW S.frames λa ha o ho hd=>⟨o,E.keep a o ho (S.jM a ha) λx=>x,hd⟩,λa ha q=>?_,adl S.tok ht⟩
 obtain ⟨_,o,ho,_⟩:=mM S.frames a ha
 exact S.jM a ha (g5 E (by rw [ho];rfl) q)
theorem aj.toks (X:Addr→Prop) (Z:aH) (s:Shared) (k:Nat):aj X Z s Z {s with toks:=k}:=
 ⟨List.prefix_refl _,λ_ _ e _ _=>e,λ_ e=>e,λn p hn e=>(by rw [List.getElem?_eq_none hn] at e;cases e),rfl,rfl,rfl⟩
theorem cU.refl (X F:Addr→Prop) (Z:aH) (s:Shared):cU X F Z s Z s:=
 ⟨List.prefix_refl _,λb o e _ _=>⟨o.slots,e,λ_=>rfl⟩,λ_ e=>e,λn p hn e=>(by rw [List.getElem?_eq_none hn] at e;cases e),rfl,rfl,rfl⟩
theorem gU {h h':Heap} (live:∀b,(h.get? b).isSome→(h'.get? b).isSome) {c:Addr} (q:h'.get? c=none):h.get? c=none:=by
 cases z:h.get? c with
 |none=>rfl
 |some o=>have:=live c (by rw [z];rfl);rw [q] at this;cases this
theorem cU.chain {X Y F:Addr→Prop} {bY:Shared} {f9:aH} (a:aj X Z s ai s') (b:cU Y F ai s' f9 bY) (h:∀c,Y c→X c∨s.heap.get? c=none):cU X F Z s f9 bY:=by
 refine ⟨a.pre.trans b.pre,λc o e nf nx=>b.keep c o (a.keep c o e nf nx) (λq=>nf (g5 a (by rw [e];rfl) q)) (λy=>?_),λc e=>b.live c (a.live c e),λn p hn e=>?_,
  b.gens.trans a.gens,b.drawn.trans a.drawn,b.os.trans a.os⟩
 ·rcases h c y with q |q
  ·exact nx q
  ·rw [q] at e;cases e
 by_cases aK:n<ai.length
 ·have:=k8 b.pre (List.getElem?_eq_getElem aK)
  rw [e] at this
  exact a.new n p hn (by rw [this];exact List.getElem?_eq_getElem aK)
 ·obtain ⟨x,y⟩:=b.new n p (Nat.le_of_not_lt aK) e
  exact ⟨gU a.live x,gU a.live y⟩
theorem cU.after {F:Addr→Prop} {bY:Shared} {f9:aH} (a:aj aE Z s ai s') (b:cU aE F ai s' f9 bY):cU aE F Z s f9 bY:=cU.chain a b λ_ x=>x.elim
theorem kn.before {nt:Bool} {h₀ fG h:Heap} {x:Addr} {e:aX} (live:∀b,(h₀.get? b).isSome→(fG.get? b).isSome) (k:kn nt J fG h Z x e):kn nt J h₀ h Z x e:=match k with
 |⟨a,b,o,dx,vs,es,n,h1,h2,h3,h4,h5,h6,h7,h8,h9,tA⟩=>⟨gU live a,b,o,dx,vs,es,n,h1,h2,h3,h4,h5,(match h6 with
  | .no h h1=> .no h h1
  | .yes tb ot dq q1 q2 q3 q4 q5 q6=> .yes tb ot dq q1 (gU live q2) q3 q4 q5 q6),gU live h7,h8,h9,tA⟩
theorem bh.after {α β:Type} {F:Addr→Prop} {out:Out α} {uH:Out β} {v:Value} {bY:Shared} (a:aj aE Z s ai s') (b:bh U w J F ai s' out v bY) (ho:∀e O,out= .exc e O→uH= .exc e O):bh U w J F Z s uH v bY:=by
 cases out with
 |exc e O=>
  rw [ho e O rfl]
  obtain ⟨f9,x,hv,hx,hs,he⟩:=b
  exact ⟨f9,x,hv,cU.after a hx,hs,he.before a.live⟩
 |stuck=>exact b.elim
 |ok _ _=>exact b.elim
theorem bh.bind {α β:Type} {F:Addr→Prop} {out:Out α} {k:α→ag→Out β} {v:Value} {bY:Shared} (b:bh U w J F Z s out v bY):bh U w J F Z s (out.bind k) v bY:=by
 cases out with
 |exc e O=>exact b
 |stuck=>exact b.elim
 |ok _ _=>exact b.elim
theorem aI.after {out:Out V} {v:Value} {bY:Shared} (a:aj aE Z s ai s') (b:aI U w J aE ai s' out v bY):aI U w J aE Z s out v bY:=by
 cases out with
 |ok x O=>
  obtain ⟨f9,e,r,q⟩:=b
  exact ⟨f9,a.trans e,r,q⟩
 |stuck=>exact b.elim
 |exc _ _=>exact b.elim
theorem aI.same {X:Addr→Prop} (R:SR U w J s.heap Z O) {x:V} {v:Value} (r:RV J s.heap Z x v) (k:Nat):aI U w J X Z s (.ok x O) v {s with toks:=k}:=
 ⟨Z,aj.toks X Z s k,R,r⟩
theorem aI.here {X:Addr→Prop} (R:SR U w J s.heap Z O) {x:V} {v:Value} (r:RV J s.heap Z x v):aI U w J X Z s (.ok x O) v s:=
 ⟨Z,aj.refl X Z s,R,r⟩
theorem aj.push (X:Addr→Prop) (Z:aH) (s:Shared) (o:Obj) (k:Nat):aj X Z s Z {s with heap:=s.heap.push o,toks:=k}:=
 ⟨List.prefix_refl _,λ_ _ e _ _=>Heap.get?_push_of_some _ e,λb e=>by
  obtain ⟨x,hx⟩:=Option.isSome_iff_exists.mp e
  rw [Heap.get?_push_of_some _ hx];rfl,λn p hn e=>(by rw [List.getElem?_eq_none hn] at e;cases e),rfl,rfl,rfl⟩
theorem AN (S:St U w J fl Z O s) (o:Obj):VK J Z s.heap Z (s.heap.push o):=
  (aj.push aE Z s o s.toks).fp S
theorem oP (S:St U w J fl Z O s) (o:Obj):SR U w J (s.heap.push o) Z O:=
 S.sr.grow (AN S o) λ_ _ _ e=>Heap.get?_push_of_some _ e
theorem St.push (S:St U w J fl Z O s) (o:Obj) (k:Nat) (hk:s.toks≤k):St U w J fl Z O {s with heap:=s.heap.push o,toks:=k}:=
 S.ext (aj.push aE Z s o k) (oP S o) hk
theorem St.toks (S:St U w J fl Z O s) (k:Nat) (hk:s.toks≤k):St U w J fl Z O {s with toks:=k}:=
 S.ext (aj.toks aE Z s k) S.sr hk
theorem fS (h:Heap):h.get? h.objs.size=none:=by
 cases e:h.get? h.objs.size with
 |none=>rfl
 |some o=>exact absurd (Heap.lt_size e) (Nat.lt_irrefl _)
theorem jE {h:Heap} (k:J.StaysIn h) {a:Addr} (e:h.get? a=none):J.get? a=none:=by
 cases q:J.get? a with
 |none=>rfl
 |some o=>have:=k a o q;rw [e] at this;cases this
theorem GW (S:St U w J fl Z O s) {o:Obj} {c:Cell} (k:Nat)
    (hc:∀h',h'=s.heap.push o→VK J Z s.heap (Z++[(s.heap.objs.size,s.heap.objs.size)]) h'→RC U w J h' (Z++[(s.heap.objs.size,s.heap.objs.size)]) (s.heap.objs.size,s.heap.objs.size) c):
  aI U w J aE Z s (.ok (.ref O.length) (O++[c])) (.ref s.heap.objs.size) {s with heap:=s.heap.push o,toks:=k}:=by
 have v:VK J Z s.heap (Z++[(s.heap.objs.size,s.heap.objs.size)]) (s.heap.push o):=by
  have:=AN S o
  exact ⟨List.prefix_append _ _,this.seq,this.stays,this.off,this.cells⟩
 refine ⟨Z++[(s.heap.objs.size,s.heap.objs.size)],?_,S.sr.more v (hc _ rfl v) (λ_ _ _ e=>Heap.get?_push_of_some _ e) (fS _) (fS _) (jE S.stays (fS _)) (jE S.stays (fS _)),?_⟩
 ·have E:=aj.push aE Z s o k
  refine ⟨List.prefix_append _ _,E.keep,E.live,λn p hn e=>?_,rfl,rfl,rfl⟩
  rw [List.getElem?_append_right hn] at e
  cases hk:n-Z.length with
  |zero=>rw [hk] at e;cases e;exact ⟨fS _,fS _⟩
  |succ j=>rw [hk] at e;simp at e
 ·simp only [RV]
  exact ⟨(s.heap.objs.size,s.heap.objs.size),by rw [←S.sr.len];simp,rfl⟩
theorem CU (S:St U w J fl Z O s) {vs:List V} {ws:List Value} (r:aD J s.heap Z vs ws) (hz:vs.length≤aq) (k:Nat) (n:Nat):
  aI U w J aE Z s (.ok (.ref O.length) (O++[.list vs])) (.ref s.heap.objs.size) {s with heap:=s.heap.push {cls:= .type "list",data:= .seq ws.toArray n},toks:=k}:=
 GW S k λh' e v=>by
  subst e
  exact ⟨rfl,hz,ws.toArray,⟨n,Heap.get?_push_size _ rfl⟩,aD.mono v (by simpa using r)⟩
theorem FD (S:St U w J fl Z O s) {vs:List V} {ws:List Value} (r:aD J s.heap Z vs ws) (k:Nat):
  aI U w J aE Z s (.ok (.tup vs) O) (.ref s.heap.objs.size) {s with heap:=s.heap.push {cls:= .type "tuple",data:= .seq ws.toArray},toks:=k}:=by
 refine ⟨Z,aj.push aE Z s _ k,oP S _,?_⟩
 simp only [RV]
 exact ⟨_,ws.toArray,rfl,⟨_,Heap.get?_push_size _ rfl,rfl,_,rfl⟩,aD.mono (AN S _) (by simpa using r)⟩
theorem z9 (S:St U w J fl Z O s) {n:Nat} {p:Addr×Addr} {c:Cell} (hn:Z[n]?=some p) {a:Addr} (ha:a=p.1∨a=p.2) {h':Heap} (hs:Heap.SameBut a s.heap h') (hl:(h'.get? a).isSome) (k:Nat)
    (hc:VK J Z s.heap Z h'→RC U w J h' Z p c):aj aE Z s Z {s with heap:=h',toks:=k}∧SR U w J h' Z (O.set n c):=by
 have E:aj aE Z s Z {s with heap:=h',toks:=k}:=by
  refine ⟨List.prefix_refl _,λb o e nf _=>(hs.2 b λq=>nf ⟨p,List.mem_of_getElem? hn,q▸ha⟩).trans e,λb e=>?_,λn p hn e=>(by rw [List.getElem?_eq_none hn] at e;cases e),rfl,rfl,rfl⟩
  by_cases q:b=a
  ·subst q;exact hl
  ·show (h'.get? b).isSome
   rw [hs.2 b q];exact e
 have v:VK J Z s.heap Z h':=E.fp S
 refine ⟨E,S.sr.turn v hn (hc v) λb o _ n1 n2 e=>(hs.2 b λq=>?_).trans e⟩
 subst q
 rcases ha with h |h
 ·exact n1 h
 ·exact n2 h
theorem mr {α:Type} {M:Model} {A:Around} {t:Sem α} {P Q:α→Shared→Prop} {E E':Value→Shared→Prop}
    (h:wpAny M A t P E s) (hk:∀a s',P a s'→s.toks≤s'.toks→Q a s') (hE:∀e s',E e s'→s.toks≤s'.toks→E' e s'):wpAny M A t Q E' s:=
 wpAny_mono (wpAny_toks h) (λa s' x=>hk a s' x.1 x.2) λe s' x=>hE e s' x.1 x.2
theorem mP {α:Type} {M:Model} {A:Around} {t:Sem α} {P Q:α→Shared→Prop} {E E':Value→Shared→Prop}
    (h:wpAny M A t P E s) (hk:∀a s',P a s'→s.toks≤s'.toks→Q a s') (hE:∀e s',E e s'→E' e s'):wpAny M A t Q E' s:=
 wpAny_mono (wpAny_toks h) (λa s' x=>hk a s' x.1 x.2) λe s' x=>hE e s' x.1
theorem acK {α β:Type} {M:Model} {A:Around} {t:Sem α} {k:α→Sem β} {P:α→Shared→Prop} {Q:β→Shared→Prop} {E:Value→Shared→Prop}
    (h:wpAny M A t P E s) (hk:∀a s',P a s'→wpAny M A (k a) Q E s'):wpAny M A (t>>=k) Q E s:=
 wpAny_bind (wpAny_mono h (λa s' x=>hk a s' x) λ_ _ x=>x)
end
section
variable {U:Program} {w:World} {J:Heap} {fl:List Env} {Z:aH} {O:ag} {s:Shared} {A:Around} {E:Value→Shared→Prop}
theorem str_len (l:List Nat):(⟨l.toArray⟩:Str).length=l.length:=by simp [PySem.Str.length]
theorem gW:aq=sizeLine:=by decide
theorem acY {l:List Nat} {v:V} (h:zX l=some v):v= .str l∧l.length≤aq:=by
 unfold zX at h
 split at h
 ·cases h;exact ⟨rfl,by assumption⟩
 ·cases h
theorem Hh (x y:List Nat):(⟨x.toArray⟩:Str)++(⟨y.toArray⟩:Str)=⟨(x++y).toArray⟩:=by
 show PySem.Str.mk _=_
 simp
theorem eY {h:Heap} (i:Int) (t:Tok):RV J h Z (.int i) (.int i t):=by simp only [RV];exact ⟨t,rfl⟩
theorem iH {h:Heap} {l:List Nat} (t:Tok) (hl:l.length≤aq):RV J h Z (.str l) (.str ⟨l.toArray⟩ t):=by simp only [RV];exact ⟨⟨t,rfl⟩,hl⟩
theorem iL {h:Heap} (b:Bool):RV J h Z (.bool b) (.bool b):=by simp only [RV]
theorem xY {h:Heap}:RV J h Z .none .none:=by simp only [RV]
theorem XU (l:List Nat):∀n,iD l n=(List.replicate n l).flatten
 |0=>rfl
 |n+1=>by rw [iD,XU l n,List.replicate_succ,List.flatten_cons]
theorem GD {i:Int} (h:smallInt i=true): -2147483648<i∧i<2147483648:=by
 unfold smallInt at h
 rw [Bool.and_eq_true,decide_eq_true_iff,decide_eq_true_iff] at h
 exact h
end
theorem sn {α:Type} {z:α}:some z≠none:=Option.some_ne_none z
@[elab_as_elim] theorem co {α:Type} {a z:α} {P:α→Prop} (h:some a=some z) (k:P a):P z:=Option.some.inj h▸k
@[elab_as_elim] theorem mK {α β:Type} {o:Option α} {f:α→β} {z:β} {P:β→Prop} (h:o.map f=some z) (k:∀a,o=some a→P (f a)):P z:=match o,h with
 |some a,h=>co h (k a rfl)
theorem lc {α β:Type} {o:Option α} {f:α→Option β} {z:β} {P:Prop} (h:o.bind f=some z) (k:∀a,o=some a→f a=some z→P):P:=match o,h with
 |some a,h=>k a rfl h
theorem dc {α:Type} {c:Prop} [i:Decidable c] {a d r:α} {P:Prop} (h:(if c then a else d)=r) (hn:r≠d) (k:c→a=r→P):P:=match i,h with
 | .isTrue e,h=>k e h
 | .isFalse _,h=>absurd h.symm hn
theorem fk {α β:Type} {o:Option β} {d r:α} {f:β→α} {P:Prop} (h:bK o d f=r) (hn:r≠d) (k:∀x,o=some x→f x=r→P):P:=match o,h with
 |some a,h=>k a rfl h
 |Option.none,h=>absurd h.symm hn
theorem HE {α β:Type} {o:Option β} {d r:α} {f:β→α} {P:Prop} (h:bK o d f=r) (k:∀x,o=some x→f x=r→P) (k2:o=none→d=r→P):P:=match o,h with
 |some a,h=>k a rfl h
 |Option.none,h=>k2 rfl h
theorem JY {α β:Type} {o:Out α} {d r:β} {f:α→ag→β} {P:Prop} (h:qf o d f=r) (hn:r≠d) (k:∀v O,o= .ok v O→f v O=r→P):P:=match o,h with
 | .ok a O,h=>k a O rfl h
 | .stuck,h | .exc _ _,h=>absurd h.symm hn
@[elab_as_elim] theorem HN {α β:Type} {a z:α} {b y:β} {P:α→β→Prop} (h:some (a,b)=some (z,y)) (k:P a b):P z y:=by cases h;exact k
@[elab_as_elim] theorem oQ {α:Type} {o:Option α} {O:ag} {out:Out α} {P:Out α→Prop} (h:gj o O=out) (hn:out≠ .stuck) (k:∀v,o=some v→P (.ok v O)):P out:=match o,h with
 |some v,h=>h▸k v rfl
 |Option.none,h=>absurd h.symm hn
section
variable {U:Program} {w:World} {J h:Heap} {Z:aH} {α:Type} {x:V} {v:Value} {vs:List V} {ws:List Value} {d r:α}
@[elab_as_elim] theorem vK {i:Int} {P:Value→Prop} (rv:RV J h Z (.int i) v) (k:∀t,P (.int i t)):P v:=match rv with
 |⟨t,e⟩=>e▸k t
@[elab_as_elim] theorem tQ {l:List Nat} {P:Value→Prop} (rv:RV J h Z (.str l) v) (k:∀t,l.length≤aq→P (.str ⟨l.toArray⟩ t)):P v:=match rv with
 |⟨⟨t,e⟩,hl⟩=>e▸k t hl
@[elab_as_elim] theorem uG {b:Bool} {P:Value→Prop} (rv:RV J h Z (.bool b) v) (k:P (.bool b)):P v:=Eq.symm (show v=_ from rv)▸k
@[elab_as_elim] theorem vZ {P:Value→Prop} (rv:RV J h Z .none v) (k:P .none):P v:=Eq.symm (show v=_ from rv)▸k
@[elab_as_elim] theorem tY {n:Nat} {P:Value→Prop} (rv:RV J h Z (.ref n) v) (k:∀p,Z[n]?=some p→P (.ref p.1)):P v:=match rv with
 |⟨p,hp,e⟩=>e▸k p hp
@[elab_as_elim] theorem DI {us:List V} {P:Value→Prop} (rv:RV J h Z (.tup us) v) (k:∀a xs,IsTup h a xs→aD J h Z us xs.toList→P (.ref a)):P v:=match rv with
 |⟨a,xs,e,ht,rs⟩=>e▸k a xs ht rs
@[elab_as_elim] theorem mR {f:Int→α} {P:V→Value→Prop} (e:x.cE d f=r) (rv:RV J h Z x v) (k:∀i t,f i=r→P (.int i) (.int i t)) (k2:d=r→P x v):P x v:=match x,e,rv with
 | .int i,e,rv=>vK (P:=P (.int i)) rv λt=>k i t e
 | .none,e,_ | .bool _,e,_ | .str _,e,_ | .tup _,e,_ | .ref _,e,_ | .frozen _,e,_=>k2 e
@[elab_as_elim] theorem dB {f:Int→α} {P:V→Value→Prop} (e:x.cE d f=r) (hn:r≠d) (rv:RV J h Z x v) (k:∀i t,f i=r→P (.int i) (.int i t)):P x v:=mR e rv k λe=>absurd e.symm hn
@[elab_as_elim] theorem qQ {f:List Nat→α} {P:V→Value→Prop} (e:x.onStr d f=r) (rv:RV J h Z x v) (k:∀l t,l.length≤aq→f l=r→P (.str l) (.str ⟨l.toArray⟩ t)) (k2:d=r→P x v):P x v:=match x,e,rv with
 | .str l,e,rv=>tQ (P:=P (.str l)) rv λt hl=>k l t hl e
 | .none,e,_ | .bool _,e,_ | .int _,e,_ | .tup _,e,_ | .ref _,e,_ | .frozen _,e,_=>k2 e
@[elab_as_elim] theorem ej {f:List Nat→α} {P:V→Value→Prop} (e:x.onStr d f=r) (hn:r≠d) (rv:RV J h Z x v) (k:∀l t,l.length≤aq→f l=r→P (.str l) (.str ⟨l.toArray⟩ t)):P x v:=qQ e rv k λe=>absurd e.symm hn
@[elab_as_elim] theorem Cw {f:Nat→α} {P:V→Value→Prop} (e:x.dX d f=r) (rv:RV J h Z x v) (k:∀n p,Z[n]?=some p→f n=r→P (.ref n) (.ref p.1)) (k2:d=r→P x v):P x v:=match x,e,rv with
 | .ref n,e,rv=>tY (P:=P (.ref n)) rv λp hp=>k n p hp e
 | .none,e,_ | .bool _,e,_ | .int _,e,_ | .tup _,e,_ | .str _,e,_ | .frozen _,e,_=>k2 e
@[elab_as_elim] theorem gf {f:Nat→α} {P:V→Value→Prop} (e:x.dX d f=r) (hn:r≠d) (rv:RV J h Z x v) (k:∀n p,Z[n]?=some p→f n=r→P (.ref n) (.ref p.1)):P x v:=Cw e rv k λe=>absurd e.symm hn
@[elab_as_elim] theorem wZ {f:List V→α} {P:V→Value→Prop} (e:x.qN d f=r) (rv:RV J h Z x v) (k:∀us a xs,IsTup h a xs→aD J h Z us xs.toList→f us=r→P (.tup us) (.ref a)) (k2:d=r→P x v):P x v:=match x,e,rv with
 | .tup us,e,rv=>DI (P:=P (.tup us)) rv λa xs ht rs=>k us a xs ht rs e
 | .none,e,_ | .bool _,e,_ | .int _,e,_ | .ref _,e,_ | .str _,e,_ | .frozen _,e,_=>k2 e
@[elab_as_elim] theorem Uz {f:List V→α} {P:V→Value→Prop} (e:x.qN d f=r) (hn:r≠d) (rv:RV J h Z x v) (k:∀us a xs,IsTup h a xs→aD J h Z us xs.toList→f us=r→P (.tup us) (.ref a)):P x v:=wZ e rv k λe=>absurd e.symm hn
@[elab_as_elim] theorem zj {f:Bool→α} {P:V→Value→Prop} (e:x.iB d f=r) (rv:RV J h Z x v) (k:∀b,f b=r→P (.bool b) (.bool b)) (k2:d=r→P x v):P x v:=match x,e,rv with
 | .bool b,e,rv=>uG (P:=P (.bool b)) rv (k b e)
 | .none,e,_ | .str _,e,_ | .int _,e,_ | .tup _,e,_ | .ref _,e,_ | .frozen _,e,_=>k2 e
@[elab_as_elim] theorem Ai {f:Bool→α} {P:V→Value→Prop} (e:x.iB d f=r) (hn:r≠d) (rv:RV J h Z x v) (k:∀b,f b=r→P (.bool b) (.bool b)):P x v:=zj e rv k λe=>absurd e.symm hn
@[elab_as_elim] theorem K0 {f:Bool→α} {P:V→Prop} (e:x.iB d f=r) (hn:r≠d) (k:∀b,f b=r→P (.bool b)):P x:=match x,e with
 | .bool b,e=>k b e
 | .none,e | .str _,e | .int _,e | .tup _,e | .ref _,e | .frozen _,e=>absurd e.symm hn
@[elab_as_elim] theorem Fw {f:Nat→α} {P:V→Prop} (e:x.dX d f=r) (hn:r≠d) (k:∀b,f b=r→P (.ref b)):P x:=match x,e with
 | .ref b,e=>k b e
 | .none,e | .str _,e | .int _,e | .tup _,e | .bool _,e | .frozen _,e=>absurd e.symm hn
@[elab_as_elim] theorem KR {f:Int→α} {P:V→Prop} (e:x.cE d f=r) (hn:r≠d) (k:∀b,f b=r→P (.int b)):P x:=match x,e with
 | .int b,e=>k b e
 | .none,e | .str _,e | .ref _,e | .tup _,e | .bool _,e | .frozen _,e=>absurd e.symm hn
@[elab_as_elim] theorem BF {c:α} {P:V→Value→Prop} (e:x.yA d c=r) (hn:r≠d) (rv:RV J h Z x v) (k:c=r→P .none .none):P x v:=match x,e,rv with
 | .none,e,rv=>vZ (P:=P .none) rv (k e)
 | .bool _,e,_ | .str _,e,_ | .int _,e,_ | .tup _,e,_ | .ref _,e,_ | .frozen _,e,_=>absurd e.symm hn
@[elab_as_elim] theorem lp {u:V} {us:List V} {P:List Value→Prop} (rs:aD J h Z (u::us) ws) (k:∀a as,RV J h Z u a→aD J h Z us as→P (a::as)):P ws:=match rs with
 |⟨a,as,e,ra,r⟩=>e▸k a as ra r
@[elab_as_elim] theorem s8 {P:List Value→Prop} (rs:aD J h Z [] ws) (k:P []):P ws:=Eq.symm (show ws=_ from rs)▸k
@[elab_as_elim] theorem yt {c:α} {P:List V→List Value→Prop} (e:sH vs d c=r) (hn:r≠d) (rs:aD J h Z vs ws) (k:c=r→P [] []):P vs ws:=match vs,e,rs with
 |[],e,rs=>s8 (P:=P []) rs (k e)
 |_::_,e,_=>absurd e.symm hn
@[elab_as_elim] theorem lr {f:V→α} {P:List V→List Value→Prop} (e:kS vs d f=r) (hn:r≠d) (rs:aD J h Z vs ws) (k:∀u a,RV J h Z u a→f u=r→P [u] [a]):P vs ws:=match vs,e,rs with
 |u::us,e,rs=>lp (P:=P (u::us)) rs λa as ra rs=>yt (P:=λus as=>P (u::us) (a::as)) e hn rs (k u a ra)
 |[],e,_=>absurd e.symm hn
@[elab_as_elim] theorem Al {f:V→V→α} {P:List V→List Value→Prop} (e:rA vs d f=r) (hn:r≠d) (rs:aD J h Z vs ws) (k:∀u u2 a a2,RV J h Z u a→RV J h Z u2 a2→f u u2=r→P [u,u2] [a,a2]):P vs ws:=match vs,e,rs with
 |u::us,e,rs=>lp (P:=P (u::us)) rs λa as ra rs=>lr (P:=λus as=>P (u::us) (a::as)) e hn rs λu2 a2=>k u u2 a a2 ra
 |[],e,_=>absurd e.symm hn
end
section
variable {U:Program} {w:World} {J h:Heap} {Z:aH} {O:ag} {α:Type} {n:Nat} {p:Addr×Addr} {d r:α} {P:Prop}
theorem rW {f:Cell→α} (e:gX O n d f=r) (hn:r≠d) (k:∀c,O[n]?=some c→f c=r→P):P:=match hc:O[n]? with
 |some c=>k c hc (by unfold gX at e;rw [hc] at e;exact e)
 |Option.none=>absurd (by unfold gX at e;rw [hc] at e;exact e.symm) hn
@[elab_as_elim] theorem xv {c:Cell} {f:List V→α} {P:Cell→Prop} (e:c.eX d f=r) (k:∀us,f us=r→P (.list us)) (k2:d=r→P c):P c:=match c,e with
 | .list us,e=>k us e
 | .dict _,e | .inst _ _,e=>k2 e
@[elab_as_elim] theorem MZ {c:Cell} {f:List (List Nat×V)→α} {P:Cell→Prop} (e:c.jo d f=r) (hn:r≠d) (k:∀es,f es=r→P (.dict es)):P c:=match c,e with
 | .dict us,e=>k us e
 | .list _,e | .inst _ _,e=>absurd e.symm hn
@[elab_as_elim] theorem Y3 {c:Cell} {f:cj→List (Nat×V)→α} {P:Cell→Prop} (e:c.lg d f=r) (hn:r≠d) (k:∀c fs,f c fs=r→P (.inst c fs)):P c:=match c,e with
 | .inst c fs,e=>k c fs e
 | .list _,e | .dict _,e=>absurd e.symm hn
inductive qa (J h:Heap) (Z:aH) (a:Addr) (us:List V):Prop where
 |mk (ws:Array Value) (hl:h.PlainList a ws) (rs:aD J h Z us ws.toList) (bO:ws.size=us.length) (hz:us.length≤aq):qa J h Z a us
theorem SR.list (S:SR U w J h Z O) (hp:Z[n]?=some p) {us:List V} (hs:O[n]?=some (.list us)):qa J h Z p.1 us:=match S.cell _ _ _ hp hs with
 |⟨_,hz,ws,hl,rs⟩=>⟨ws,hl,rs,Array.length_toList.symm.trans (aD.length rs),hz⟩
inductive yd (U:Program) (w:World) (J h:Heap) (Z:aH) (a:Addr) (es:List (List Nat×V)):Prop where
 |mk (cL:List (Str×Value)) (hd:h.DictOf (strKind U w) a cL) (rd:bo J h Z es cL) (hz:es.length≤1000000):yd U w J h Z a es
theorem SR.dict (S:SR U w J h Z O) (hp:Z[n]?=some p) {es:List (List Nat×V)} (hs:O[n]?=some (.dict es)):yd U w J h Z p.1 es:=match S.cell _ _ _ hp hs with
 |⟨_,hz,cL,hd,rd⟩=>⟨cL,hd,rd,hz⟩
inductive Er (J h:Heap) (Z:aH) (p:Addr×Addr) (c:cj) (fs:List (Nat×V)):Prop where
 |mk (es:List DictEntry) (m:Nat) (ho:h.get? p.1=some (instObj (cD c) p.2)) (hd:h.get? p.2=some (dictOf es m)) (fr:cA J h Z fs es) (hz:fs.length≤14) (nU:(fs.map (·.1)).Nodup):Er J h Z p c fs
theorem SR.inst (S:SR U w J h Z O) (hp:Z[n]?=some p) {c:cj} {fs:List (Nat×V)} (hs:O[n]?=some (.inst c fs)):Er J h Z p c fs:=match S.cell _ _ _ hp hs with
 |⟨ho,hz,nU,es,m,hd,fr⟩=>⟨es,m,ho,hd,fr,hz,nU⟩
theorem iC (S:SR U w J h Z O) (hp:Z[n]?=some p) {f:List V→α} (e:eX O n d f=r) (hn:r≠d) (k:∀us,O[n]?=some (.list us)→qa J h Z p.1 us→f us=r→P):P:=
 rW e hn λc hs e=>xv (P:=λc=>O[n]?=some c→P) e (λus e hs=>k us hs (S.list hp hs) e) (λe=>absurd e.symm hn) hs
theorem rO (S:SR U w J h Z O) (hp:Z[n]?=some p) {f:List (List Nat×V)→α} (e:jo O n d f=r) (hn:r≠d) (k:∀es,O[n]?=some (.dict es)→yd U w J h Z p.1 es→f es=r→P):P:=
 rW e hn λc hs e=>MZ (P:=λc=>O[n]?=some c→P) e hn (λus e hs=>k us hs (S.dict hp hs) e) hs
theorem Ez (S:SR U w J h Z O) (hp:Z[n]?=some p) {f:cj→List (Nat×V)→α} (e:lg O n d f=r) (hn:r≠d) (k:∀c fs,O[n]?=some (.inst c fs)→Er J h Z p c fs→f c fs=r→P):P:=
 rW e hn λc hs e=>Y3 (P:=λc=>O[n]?=some c→P) e hn (λc fs e hs=>k c fs hs (S.inst hp hs) e) hs
@[elab_as_elim] theorem zb {l:List Nat} {f:Nat→α} {P:List Nat→Prop} (e:one l d f=r) (hn:r≠d) (k:∀c,f c=r→P [c]):P l:=match l,e with
 |[c],e=>k c e
 |[],e |_::_::_,e=>absurd e.symm hn
end
inductive BP (s:Shared) (b:Bool):Value→Shared→Prop where
 |mk (k:Nat):BP s b (.bool b) {s with toks:=k}
theorem BP.of {s:Shared} {b c:Bool} (e:c=b) (k:Nat):BP s b (.bool c) {s with toks:=k}:=e▸ .mk k
theorem BP.at {s:Shared} {b c:Bool} (e:c=b):BP s b (.bool c) s:=BP.of e s.toks
section
variable {U:Program} {w:World} {J:Heap} {fl:List Env} {Z:aH} {O:ag} {s:Shared} {A:Around} {E:Value→Shared→Prop} {X:Addr→Prop}
theorem Iu {y:Int} (h:0<y∧y<1073741824):y.natAbs<1073741824:=by omega
theorem LQ {i j:Int}:(i==j)=decide (i=j):=rfl
theorem UD {i:Int} (h:smallInt i=true):Builtin.Int.intBits i≤64:=by
 obtain ⟨a,b⟩:=GD h
 exact PySem.intBits_le_64 (by omega) (by omega)
theorem Rv {x y:Int} (h1:smallInt x=true) (h2:smallInt y=true):PySem.IntMulOk x y:=by
 unfold PySem.IntMulOk
 have a:=UD h1
 have:decide (Builtin.Int.intBits x>shortFactorBits)=false:=decide_eq_false (by unfold shortFactorBits;omega)
 rw [this]
 simp
theorem SN (n:Nat) (l:List Nat):∀acc:Array Nat,(List.replicate n l.toArray).foldl (· ++ ·) acc=acc++(iD l n).toArray:=by
 induction n with
 |zero=>intro acc;simp [iD]
 |succ n ih=>intro acc;rw [List.replicate_succ,List.foldl_cons,ih,iD];simp
theorem DF (l:List Nat):∀n,(iD l n).length=l.length*n
 |0=>by simp [iD]
 |n+1=>by rw [iD,List.length_append,DF l n,Nat.mul_succ];omega
theorem Rt (l:List Nat) (n:Int) (h:0≤n):Txt.mul ⟨l.toArray⟩ n=(⟨(iD l n.toNat).toArray⟩:Str):=by
 unfold Txt.mul
 by_cases h1:n<1
 ·rw [if_pos h1]
  have:n.toNat=0:=by omega
  rw [this];rfl
 ·rw [if_neg h1]
  by_cases h2:(n==1||(⟨l.toArray⟩:Str).length==0)=true
  ·rw [if_pos h2]
   rw [Bool.or_eq_true,beq_iff_eq,beq_iff_eq,str_len] at h2
   rcases h2 with h2 |h2
   ·subst h2;simp [iD]
   ·obtain rfl:=List.length_eq_zero_iff.mp h2
    have:iD [] n.toNat=[]:=List.length_eq_zero_iff.mp (by rw [DF];simp)
    rw [this]
  ·rw [if_neg h2]
   have:=SN n.toNat l #[]
   simp only [this]
   simp
theorem WT {l:List Nat} {n:Int} (h:0≤n∧l.length*n.toNat≤aq∧n<4294967296) (hl:l.length≤aq):MulOk ⟨l.toArray⟩ n:=by
 obtain ⟨h0,h1,h2⟩:=h
 refine ⟨?_,λa b=>?_,λa b=>?_⟩
 ·rw [Bool.or_eq_false_iff]
  exact ⟨decide_eq_false (by omega),decide_eq_false (by omega)⟩
 ·rw [str_len]
  intro q
  have:(l.length:Int)*n≤2^63-1:=by
   have e:(l.length:Int)*n=((l.length*n.toNat:Nat):Int):=by
    rw [Int.natCast_mul,Int.toNat_of_nonneg h0]
   rw [e]
   unfold aq at h1
   omega
  have:=Int.le_ediv_of_mul_le (c:=n) (by omega) this
  omega
 ·rw [str_len]
  unfold Builtin.Str.tooLong
  rw [←gW]
  exact decide_eq_false (by omega)
theorem Zq (S:SR U w J s.heap Z O) {op:BinOp} {x y z:V} {a b:Value} (rx:RV J s.heap Z x a) (ry:RV J s.heap Z y b) (h:eW op x y=some z):
  wpAny (model U w) A (binaryOp (jB op) a b) (aI U w J X Z s (.ok z O)) E s:=by
 cases op with
 |add=>
  refine mR h rx (λi t h=>dB h sn ry λj u h=>?_) λh=>ej h sn rx λl t hl h=>ej h sn ry λm u hm h=>?_
  ·exact co h (PyProof.Rows.add_int (aI.same S (eY _ _) _))
  ·refine dc h sn λhl h=>co h (PyProof.Rows.add_str (λt' tk=>?_) ?_)
   ·rw [Hh]
    exact aI.same S (iH _ hl) _
   ·rw [str_len,str_len, ←gW, ←List.length_append];exact hl
 |sub=>exact dB h sn rx λi t h=>dB h sn ry λj u h=>co h (PyProof.Rows.sub_int (aI.same S (eY _ _) _))
 |mul=>
  refine mR h rx (λi t h=>dB h sn ry λj u h=>dc h sn λhs h=>?_) λh=>ej h sn rx λl t hl h=>dB h sn ry λj u h=>dc h sn λhs h=>?_
  ·exact co h (aN hs λh1 h2=>PyProof.Rows.mul_int (aI.same S (eY _ _) _) (Rv h1 h2))
  ·refine co h (SB.mul (WT hs hl) λt' k=>?_)
   rw [Rt _ _ hs.1]
   exact aI.same S (iH _ (by rw [DF];exact hs.2.1)) _
 |fdiv=>exact dB h sn rx λi t h=>dB h sn ry λj u h=>dc h sn λhs h=>co h (PyProof.Rows.floordiv_int (Int.ne_of_gt hs.1) (aI.same S (eY _ _) _) (.inl (PyProof.noPylong_small (Iu hs))))
 |mod=>exact dB h sn rx λi t h=>dB h sn ry λj u h=>dc h sn λhs h=>co h (PyProof.Rows.mod_int' (Int.ne_of_gt hs.1) (aI.same S (eY _ _) _))
theorem Co {d:Nat} {h:Heap} (P:∀(x:V) (v:Value) (D:PyData),V.py O d x=some D→RV J h Z x v→∃as,Reads h v D as):
  ∀(xs:List V) (vs:List Value) (Ds:List PyData),V.pS O d xs=some Ds→aD J h Z xs vs→∃as,ReadsAll h vs Ds as
 |[],_,_,e,r=>co (P:=λDs=>∃as,ReadsAll h _ Ds as) e (s8 (P:=λvs=>∃as,ReadsAll h vs [] as) r ⟨[],.nil⟩)
 |x::xs,_,_,e,r=>lp (P:=λvs=>∃as,ReadsAll h vs _ as) r λv vs rx rs=>lc e λD e1 e=>lc e λDs e2 e=>co (P:=λDs=>∃as,ReadsAll h _ Ds as) e
      (match P x v D e1 rx,Co P xs vs Ds e2 rs with
    |⟨a1,q1⟩,⟨a2,q2⟩=>⟨_,.cons q1 q2⟩)
theorem MX {h:Heap} {x:V} {v:Value} {D:PyData} (e:x.Ak=some D) (r:RV J h Z x v):∃as,Reads h v D as:=match x,e,r with
 | .none,e,r=>co (P:=λD=>∃as,Reads h v D as) e (vZ (P:=λv=>∃as,Reads h v _ as) r ⟨[],.none⟩)
 | .bool b,e,r=>co (P:=λD=>∃as,Reads h v D as) e (uG (P:=λv=>∃as,Reads h v _ as) r ⟨[],.bool _⟩)
 | .int i,e,r=>co (P:=λD=>∃as,Reads h v D as) e (vK (P:=λv=>∃as,Reads h v _ as) r λt=>⟨[],.int _ _⟩)
 | .str l,e,r=>co (P:=λD=>∃as,Reads h v D as) e (tQ (P:=λv=>∃as,Reads h v _ as) r λt _=>⟨[],.str _ _⟩)
theorem wU {h:Heap} (S:SR U w J h Z O):∀(d:Nat) (x:V) (v:Value) (D:PyData),V.py O d x=some D→RV J h Z x v→∃as,Reads h v D as
 |0,x,v,D,e,r=>MX e r
 |d+1,x,v,D,e,r=>wZ (P:=λ_ v=>∃as,Reads h v D as) e r (λus a xs ht rs e=>lc e λDs e1 e=>co (P:=λD=>∃as,Reads h _ D as) e (match Co (wU S d) _ _ _ e1 rs,ht with
    |⟨as,q⟩,⟨o,ho,hc,n,hd⟩=>⟨_,Reads.tuple ho hc hd q⟩))
   λe=>Cw (P:=λ_ v=>∃as,Reads h v D as) e r (λn p hp e=>iC S hp e sn λus hs L e=>lc e λDs e1 e=>co (P:=λD=>∃as,Reads h _ D as) e (match L with
    |⟨ws,⟨m,ho⟩,rs,_,_⟩=>match Co (wU S d) _ _ _ e1 rs with
     |⟨as,q⟩=>⟨_,Reads.list ho rfl rfl q⟩)) λe=>MX e r
theorem AL {x y:List Nat}:((⟨x.toArray⟩:Str)==(⟨y.toArray⟩:Str))=decide (x=y):=by
 rw [Bool.eq_iff_iff,beq_iff_eq,decide_eq_true_iff]
 constructor
 ·intro h;injection h with h;simpa using h
 ·rintro rfl;rfl
theorem xy (S:SR U w J s.heap Z O) {x y:V} {a b:Value} {r:Bool} (rx:RV J s.heap Z x a) (ry:RV J s.heap Z y b) (hu:A.units+64<cLine) (h:jV O x y=some r) (neg:Bool):
  wpAny (model U w) A (compareOp (if neg then .NotEq else .Eq) a b) (BP s (cond neg (!r) r)) E s:=
 lc h λD e1 h=>lc h λF e2 h=>dc h sn λhs h=>aN hs λh1 h2=>match wU S _ _ _ _ e1 rx,wU S _ _ _ _ e2 ry with
  |⟨as,q1⟩,⟨bs,q2⟩=>co (P:=λr=>wpAny (model U w) A (compareOp (if neg then .NotEq else .Eq) a b) (BP s (cond neg (!r) r)) E s) h (match neg with
   |false=>eq_dataH q1 q2 h1 h2 hu (BP.at rfl)
   |true=>ne_dataH q1 q2 h1 h2 hu (BP.at rfl))
theorem zI (S:SR U w J s.heap Z O) {x y:V} {a b:Value} {r:Bool} (rx:RV J s.heap Z x a) (ry:RV J s.heap Z y b) (hu:A.units+64<cLine) (h:ju O x y=some r) (neg:Bool):
  wpAny (model U w) A (compareOp (if neg then .NotEq else .Eq) a b) (BP s (cond neg (!r) r)) E s:=by
 have fin:∀{a b:Value} {p:Bool},p=r→wpAny (model U w) A (compareOp .Eq a b) (BP s p) E s→wpAny (model U w) A (compareOp .NotEq a b) (BP s (!p)) E s→wpAny (model U w) A (compareOp (if neg then .NotEq else .Eq) a b) (BP s (cond neg (!r) r)) E s:=by
  intro a b p e h1 h2
  subst e
  cases neg
  ·exact h1
  ·exact h2
 refine mR h rx (λi t h=>mR h ry (λj u h=>?a) λh=>?b) λh=>qQ h rx (λl t hl h=>qQ h ry (λm u hm h=>?c) λh=>?d) λh=>zj h rx (λp h=>zj h ry (λq h=>?e) λh=>?f) λh=>?g
 case a=>exact fin (Option.some.inj h) (PyProof.Rows.eq_int (BP.at LQ)) (PyProof.Rows.ne_int (BP.at (congrArg (!·) LQ)))
 case b=>exact xy S (eY _ _) ry hu h neg
 case c=>exact fin (Option.some.inj h) (PyProof.Rows.eq_str (BP.at AL)) (PyProof.Rows.ne_str (BP.at (congrArg (!·) AL)))
 case d=>exact xy S (iH _ hl) ry hu h neg
 case e=>exact fin (Option.some.inj h) (PyProof.Rows.eq_bool (BP.at rfl)) (PyProof.Rows.ne_bool (BP.at rfl))
 case f=>exact xy S (iL _) ry hu h neg
 case g=>exact xy S rx ry hu h neg
theorem rh {h:Heap}:∀{vs:List V} {ws:List Value} {l:List (List Nat)},hS vs=some l→aD J h Z vs ws→StrsAre ws (l.map λx=>⟨x.toArray⟩)
 |[],_,_,e,r=>co (P:=λl=>StrsAre _ (l.map λx=>(⟨x.toArray⟩:Str))) e (s8 (P:=λws=>StrsAre ws _) r .nil)
 |v::vs,_,_,e,r=>lp (P:=λws=>StrsAre ws _) r λa as ra rs=>ej (P:=λ_ a=>StrsAre (a::as) _) e sn ra λl t hl e=>mK (P:=λl=>StrsAre (_::as) (l.map λx=>(⟨x.toArray⟩:Str))) e λl e=> .cons _ _ (rh e rs)
theorem tR (k:List Nat):∀l:List (List Nat),(l.map λx=>(⟨x.toArray⟩:Str)).any (· ==(⟨k.toArray⟩:Str))=decide (k∈l)
 |[]=>by simp
 |x::l=>by
  rw [List.map_cons,List.any_cons,AL,tR k l,Bool.eq_iff_iff]
  simp only [Bool.or_eq_true,decide_eq_true_iff,List.mem_cons]
  constructor
  ·rintro (h |h)
   ·exact .inl h.symm
   ·exact .inr h
  ·rintro (h |h)
   ·exact .inl h.symm
   ·exact .inr h
theorem xr {h:Heap} (k:List Nat):∀{es:List (List Nat×V)} {l:List (Str×Value)},bo J h Z es l→
    (match dictGet es k with |some v=>∃x,valueAt l (⟨k.toArray⟩:Str)=some x∧RV J h Z v x |Option.none=>valueAt l (⟨k.toArray⟩:Str)=Option.none)
 |[],l,e=>by simp only [bo] at e;subst e;simp [dictGet,valueAt]
 |(x,v)::es,l,e=>by
  simp only [bo] at e
  obtain ⟨u,q,rfl,rv,r⟩:=e
  have ih:=xr k r
  simp only [dictGet,valueAt,List.find?_cons]
  by_cases hx:x=k
  ·subst hx
   simp only [if_true]
   exact ⟨u,by simp,rv⟩
  ·have:decide ((⟨x.toArray⟩:Str)=⟨k.toArray⟩)=false:=decide_eq_false λz=>hx (by injection z with z;simpa using z)
   simp only [hx,if_false,this]
   exact ih
theorem Ax {h:Heap} {k:List Nat} {es:List (List Nat×V)} {l:List (Str×Value)} (rd:bo J h Z es l):(valueAt l (⟨k.toArray⟩:Str)).isSome=(dictGet es k).isSome:=by
 have g:=xr k rd
 cases e:dictGet es k with
 |none=>rw [e] at g;rw [show valueAt l _=_ from g];rfl
 |some v=>rw [e] at g;obtain ⟨x,e2,_⟩:=(show ∃x,_ from g);rw [e2];rfl
theorem Ey (hb:(J.get? sysModules).isSome) (S:SR U w J s.heap Z O) {n:Nat} {p:Addr×Addr} (hp:Z[n]?=some p):(p.1==sysModules)=false:=by
 cases q:p.1==sysModules with
 |false=>rfl
 |true=>
  have:=(S.off p (List.mem_of_getElem? hp)).1
  rw [beq_iff_eq.mp q] at this
  rw [this] at hb;cases hb
theorem Lv (hb:(J.get? sysModules).isSome) (S:SR U w J s.heap Z O) {x y:V} {a b:Value} {r:Bool} (rx:RV J s.heap Z x a) (ry:RV J s.heap Z y b) (h:lX O x y=some r) (neg:Bool):
  wpAny (model U w) A (compareOp (if neg then .NotIn else .In) a b) (BP s (cond neg (!r) r)) E s:=by
 have Ky:∀{a b:Value} {p:Bool},wpAny (model U w) A (compareOp .In a b) (BP s p) E s→wpAny (model U w) A (compareOp .NotIn a b) (BP s (!p)) E s→wpAny (model U w) A (compareOp (if neg then .NotIn else .In) a b) (BP s (cond neg (!p) p)) E s:=by
  intro a b p h1 h2
  cases neg
  ·exact h1
  ·exact h2
 have fin:∀{a b:Value} {p:Bool},p=r→wpAny (model U w) A (compareOp .In a b) (BP s p) E s→wpAny (model U w) A (compareOp .NotIn a b) (BP s (!p)) E s→wpAny (model U w) A (compareOp (if neg then .NotIn else .In) a b) (BP s (cond neg (!r) r)) E s:=λe=>e▸Ky
 refine ej h sn rx λl t hl h=>qQ h ry (λm u hm h=>zb h sn λc h=>?a) λh=>wZ h ry (λus a ws ht rs h=>lc h λls e h=>dc h sn λ_ h=>?b) λh=>gf h sn ry λn p hp h=>rW h sn λc hs h=>?c
 case a=>exact fin (Option.some.inj h) (PyProof.Rows.in_str (BP.of (by rw [PySem.StrLaws.found_one]) _)) (PySem.P.notIn_str (BP.of (by rw [PySem.StrLaws.found_one]) _))
 case b=>exact fin (Option.some.inj h) (in_tuple_strs ht (rh e rs) (BP.at (tR l ls))) (notin_tuple_strs ht (rh e rs) (BP.at (congrArg (!·) (tR l ls))))
 case c=>
  refine xv (P:=λc=>O[n]?=some c→_) h (λus h hs=>?a) (λh=>MZ (P:=λc=>O[n]?=some c→_) h sn λes h hs=>?b) hs
  case a=>
   obtain ⟨ws,hl,rs,bO,hz⟩:=S.list hp hs
   refine mK h λls e=>?_
   exact Ky (in_list_strs (vs:=ws.toList) hl.isList (rh e rs) (BP.at (tR l ls))) (notin_list_strs (vs:=ws.toList) hl.isList (rh e rs) (BP.at (congrArg (!·) (tR l ls))))
  case b=>
   obtain ⟨cL,hd,rd,hz⟩:=S.dict hp hs
   have cx:=Ey hb S hp
   exact fin (Option.some.inj h) (wpAny_in_of (knd:=strKind U w) (strKind_is U w _ t) cx hd.mapOf (BP.of (Ax rd) _)) (wpAny_notIn_of (knd:=strKind U w) (strKind_is U w _ t) cx hd.mapOf (BP.of (congrArg (!·) (Ax rd)) _))
theorem abU (S:SR U w J s.heap Z O) {t:Sem Value} {M:Model} {b:Bool} (h:wpAny M A t (BP s b) E s):wpAny M A t (aI U w J X Z s (.ok (.bool b) O)) E s:=
 wpAny_mono h (λv s' e=>match e with | .mk k=>aI.same S (iL _) _) λ_ _ x=>x
theorem GV {h:Heap} {x:V} {a:Value} {r:Bool} (e:CN x=some r) (rx:RV J h Z x a):(a==Value.none)=r:=match x,e,rx with
 | .none,e,rx=>co (P:=λr=>(a==Value.none)=r) e (vZ (P:=λa=>(a==Value.none)=true) rx rfl)
 | .bool b,e,rx=>co (P:=λr=>(a==Value.none)=r) e (uG (P:=λa=>(a==Value.none)=false) rx rfl)
 | .int b,e,rx=>co (P:=λr=>(a==Value.none)=r) e (vK (P:=λa=>(a==Value.none)=false) rx λ_=>rfl)
 | .str b,e,rx=>co (P:=λr=>(a==Value.none)=r) e (tQ (P:=λa=>(a==Value.none)=false) rx λ_ _=>rfl)
 | .tup b,e,rx=>co (P:=λr=>(a==Value.none)=r) e (DI (P:=λa=>(a==Value.none)=false) rx λ_ _ _ _=>rfl)
 | .ref b,e,rx=>co (P:=λr=>(a==Value.none)=r) e (tY (P:=λa=>(a==Value.none)=false) rx λ_ _=>rfl)
theorem aaL (hb:(J.get? sysModules).isSome) (S:SR U w J s.heap Z O) (hu:A.units+64<cLine) {op:mD} {x y z:V} {a b:Value} {G:V→Prop} (rx:RV J s.heap Z x a) (ry:RV J s.heap Z y b) (h:ct op O x y=some z)
    (k:∀r,wpAny (model U w) A (compareOp (f7 op) a b) (BP s r) E s→G (.bool r)):G z:=by
 cases op with
 |eq=>exact mK h λr e=>k _ (zI S rx ry hu e false)
 |ne=>exact mK h λr e=>k _ (zI S rx ry hu e true)
 |is=>exact BF (P:=λy b=>(∀r,wpAny (model U w) A (compareOp (f7 .is) a b) (BP s r) E s→G (.bool r))→G z) h sn ry (λh k=>mK h λr e=>k r (PySem.is_none (BP.at (GV e rx)))) k
 |iM=>exact BF (P:=λy b=>(∀r,wpAny (model U w) A (compareOp (f7 .iM) a b) (BP s r) E s→G (.bool r))→G z) h sn ry (λh k=>mK h λr e=>k _ (PySem.isNot_none (BP.at (congrArg (!·) (GV e rx))))) k
 |isin=>exact mK h λr e=>k _ (Lv hb S rx ry e false)
 |ix=>exact mK h λr e=>k _ (Lv hb S rx ry e true)
 |lt=>exact dB (P:=λ_ a=>(∀r,wpAny (model U w) A (compareOp (f7 .lt) a b) (BP s r) E s→G (.bool r))→G z) h sn rx (λi t h=>dB (P:=λ_ b=>(∀r,wpAny (model U w) A (compareOp (f7 .lt) _ b) (BP s r) E s→G (.bool r))→G z) h sn ry λj u h k=>co h (k _ (PyProof.Rows.lt_int (BP.at rfl)))) k
 |gt=>exact dB (P:=λ_ a=>(∀r,wpAny (model U w) A (compareOp (f7 .gt) a b) (BP s r) E s→G (.bool r))→G z) h sn rx (λi t h=>dB (P:=λ_ b=>(∀r,wpAny (model U w) A (compareOp (f7 .gt) _ b) (BP s r) E s→G (.bool r))→G z) h sn ry λj u h k=>co h (k _ (PyProof.Rows.gt_int (BP.at rfl)))) k
 |ge=>exact dB (P:=λ_ a=>(∀r,wpAny (model U w) A (compareOp (f7 .ge) a b) (BP s r) E s→G (.bool r))→G z) h sn rx (λi t h=>dB (P:=λ_ b=>(∀r,wpAny (model U w) A (compareOp (f7 .ge) _ b) (BP s r) E s→G (.bool r))→G z) h sn ry λj u h k=>co h (k _ (PyProof.Rows.ge_int (BP.at rfl)))) k
 |le=>exact mR (P:=λ_ a=>(∀r,wpAny (model U w) A (compareOp (f7 .le) a b) (BP s r) E s→G (.bool r))→G z) h rx (λi t h=>dB (P:=λ_ b=>(∀r,wpAny (model U w) A (compareOp (f7 .le) _ b) (BP s r) E s→G (.bool r))→G z) h sn ry λj u h k=>co (P:=G) h (k _ (PyProof.Rows.le_int (BP.at rfl))))
            (λh=>ej (P:=λ_ a=>(∀r,wpAny (model U w) A (compareOp (f7 .le) a b) (BP s r) E s→G (.bool r))→G z) h sn rx λl t hl h=>ej (P:=λ_ b=>(∀r,wpAny (model U w) A (compareOp (f7 .le) _ b) (BP s r) E s→G (.bool r))→G z) h sn ry λm u hm h k=>co h (k _ (PySem.P.le_str (BP.at (by simp))))) k
theorem Ly {k:Int} {n:Nat} (h0:0≤k) (h1:k.toNat<n):seqIndex? k n=some k.toNat:=by
 unfold seqIndex?
 have:¬k<0:=by omega
 simp only [this,if_false]
 rw [if_pos]
 rw [Bool.and_eq_true,decide_eq_true_iff,decide_eq_true_iff]
 omega
theorem SS:([0]:List Nat).length≤aq:=by decide
theorem QD {k:Int} {n:Nat} (hl:n≤aq) (h0:0≤k) (h:k.toNat<n):(decide (k< -(2^63:Int))||decide (k≥2^63))=false:=by
 unfold aq at hl
 rw [Bool.or_eq_false_iff];exact ⟨decide_eq_false (by omega),decide_eq_false (by omega)⟩
theorem Ig {k:Int} {n:Nat} (h0:0≤k) (h:k.toNat<n) (hl:n≤aq):k<2^63:=by unfold aq at hl;omega
inductive Aq (U:Program) (w:World) (A:Around) (s:Shared) (a b:Value) (Q:Value→Shared→Prop) (E:Value→Shared→Prop):Prop where
 |mk (T:String) (id:String) (h:wpAny (model U w) A (getItem a b) Q E s) (hT:s.TypeIs a T) (hl:typeLookup (.type T) "__getitem__"=pure (some (.builtin id))):Aq U w A s a b Q E
theorem Ea (S:SR U w J s.heap Z O) {x y z:V} {a b:Value} (rx:RV J s.heap Z x a) (ry:RV J s.heap Z y b) (h:dh O x y=some z):Aq U w A s a b (aI U w J X Z s (.ok z O)) E:=by
 refine mR h ry (λk u h=>qQ h rx (λl t hl h=>dc h sn λh0 h=>?a) λh=>wZ h rx (λus a ws ht rs h=>dc h sn λh0 h=>?b) λh=>gf h sn rx λn p hp h=>iC S hp h sn λus hs L h=>?c) λh=>
  ej h sn ry λk u hk h=>gf h sn rx λn p hp h=>rO S hp h sn λes hs D h=>?d
 case a=>
  refine mK (P:=λz=>Aq U w A s _ _ (aI U w J X Z s (.ok z O)) E) h λc hc=>?_
  have aK:=(List.getElem?_eq_some_iff.mp hc).1
  refine ⟨"str",_,PyProof.Rows.getItem_str (c:=c) (QD hl h0 aK) ?_ (aI.same S (iH (l:=[c]) _ SS) _),rfl,PySem.F.slot_str_getitem.lookup⟩
  rw [str_len,Ly h0 aK];simpa using hc
 case b=>
  obtain ⟨x,hx,rx⟩:=aD.get rs h
  have aK:=(List.getElem?_eq_some_iff.mp h).1
  have bO:ws.size=us.length:=(Array.length_toList (xs:=ws)).symm.trans (aD.length rs)
  refine ⟨"tuple",_,PyProof.Rows.getItem_tuple ht (by omega) (by omega) (Ly h0.1 (bO▸aK)) (by simpa using hx) (aI.here S rx),?_,PySem.F.slot_tuple_getitem.lookup⟩
  obtain ⟨o,ho,hc,_⟩:=ht
  exact ⟨o,ho,hc⟩
 case c=>
  obtain ⟨ws,hl,rs,bO,hz⟩:=L
  have hl:=hl.isList
  refine ⟨"list",_,?_,(match hl with |⟨o,ho,hc,_⟩=>⟨o,ho,hc⟩),PySem.slot_list_getitem.lookup⟩
  by_cases h0:0≤k
  ·rw [if_pos h0] at h
   obtain ⟨x,hx,rx⟩:=aD.get rs h
   exact wpAny_getItem_list hl h0 (Ig h0 (List.getElem?_eq_some_iff.mp h).1 hz) (by simpa using hx) (aI.here S rx)
  ·rw [if_neg h0] at h
   refine dc h sn λh1 h=>?_
   subst h1
   rw [List.getLast?_eq_getElem?] at h
   obtain ⟨x,hx,rx⟩:=aD.get rs h
   obtain ⟨aK,_⟩:=List.getElem?_eq_some_iff.mp h
   refine wpAny_getItem_list_neg hl (by omega) (by omega) (by omega) (x:=x) ?_ (aI.here S rx)
   have:(-1+(ws.size:Int)).toNat=us.length-1:=by omega
   rw [this];simpa using hx
 case d=>
  obtain ⟨cL,hd,rd,hz⟩:=D
  have g:=xr k rd
  rw [h] at g
  obtain ⟨x,e,rx⟩:=g
  exact ⟨"dict",_,wpAny_getItem_of (knd:=strKind U w) (strKind_is U w _ u) hd.mapOf e (aI.same S rx _),hd.typeIs,PySem.slot_dict_getitem.lookup⟩
theorem Se {α:Type} (l:Array α):∀(a k:Nat),a+k≤l.size→((List.range k).map λ(j:Nat)=>((a:Int)+1*(j:Int)).toNat).filterMap (l[·]?)=(l.toList.drop a).take k:=by
 intro a k h
 have e:((List.range k).map λ(j:Nat)=>((a:Int)+1*(j:Int)).toNat)=(List.range k).map λj=>a+j:=List.map_congr_left λj _=>by omega
 rw [e]
 refine List.ext_getElem? λi=>?_
 rw [List.filterMap_map]
 have:(List.range k).filterMap ((λx=>l[x]?)∘λj=>a+j)=(List.range k).filterMap λj=>l[a+j]?:=rfl
 rw [this]
 have aQ:∀k,a+k≤l.size→(List.range k).filterMap (λj=>l[a+j]?)=(l.toList.drop a).take k:=by
  intro k
  induction k with
  |zero=>intro _;simp
  |succ k ih=>
   intro h
   rw [List.range_succ,List.filterMap_append,ih (by omega),List.take_add_one]
   congr 1
   rw [List.getElem?_drop]
   have:a+k<l.size:=by omega
   simp [this]
 rw [aQ k h]
theorem ZD {a b n:Nat} (h:b≤n):sliceRange (a:Int) (b:Int) 1=(List.range (b-a)).map λ(k:Nat)=>((a:Int)+1*(k:Int)).toNat:=by
 unfold sliceRange
 simp only [show (1:Int)>0 from by decide,if_true]
 by_cases ij:(a:Int)<b
 ·rw [if_pos ij]
  have:(((b:Int)-a+1-1)/1).toNat=b-a:=by omega
  rw [this]
 ·rw [if_neg ij]
  have:b-a=0:=by omega
  rw [this];rfl
noncomputable def gD (v:Option Nat) (d n:Nat):Nat:=match v with
 |some k=>min k n
 |Option.none=>d
theorem Pe (lo hi:Option Nat) (n:Nat):Builtin.Str.strSliceIndices (lo.map λ(k:Nat)=>(k:Int)) (hi.map λ(k:Nat)=>(k:Int)) 1 n=sliceRange ((gD lo 0 n:Nat):Int) ((gD hi n n:Nat):Int) 1:=by
 unfold Builtin.Str.strSliceIndices
 simp only [show (1:Int)>0 from by decide,if_true]
 have c:∀(v:Option Nat) (d:Nat),(match v.map λ(k:Nat)=>(k:Int) with
   |Option.none=>(d:Int)
   |some i=>max 0 (min (if i<0 then i+(n:Int) else i) (n:Int)))=((gD v d n:Nat):Int):=by
  intro v d
  cases v with
  |none=>rfl
  |some k=>
   simp only [Option.map_some,gD]
   have:¬((k:Int)<0):=by omega
   rw [if_neg this]
   simp only [Int.max_def,Int.min_def,Nat.min_def]
   repeat' split
   all_goals first |omega |rfl
 have e1:=c lo 0
 have e2:=c hi n
 simp only [Int.ofNat_zero,Int.natCast_zero] at e1 e2 ⊢
 cases lo<;>cases hi<;>simp_all
theorem BC {α:Type} (l:List α) (lo hi:Option Nat):(l.drop (gD lo 0 l.length)).take (gD hi l.length l.length-gD lo 0 l.length)=kD l lo hi:=by
 unfold kD gD
 cases lo with
 |none=>
  cases hi with
  |none=>simp
  |some h=>
   simp only [List.drop_zero,Nat.sub_zero]
   rw [Nat.min_def]
   split
   ·rfl
   ·rw [List.take_of_length_le (adq _),List.take_of_length_le (by omega)]
 |some k=>
  cases hi with
  |none=>
   simp only
   rw [List.take_of_length_le (by rw [List.length_drop];exact adq _)]
   rw [Nat.min_def]
   split
   ·rfl
   ·rw [List.drop_of_length_le (adq _),List.drop_of_length_le (by omega)]
  |some h=>
   simp only
   rw [List.drop_take]
   by_cases hk:k≤l.length
   ·rw [Nat.min_eq_left hk]
    by_cases hh:h≤l.length
    ·rw [Nat.min_eq_left hh]
    ·rw [Nat.min_eq_right (by omega),List.take_of_length_le (by rw [List.length_drop];exact adq _),List.take_of_length_le (by rw [List.length_drop];omega)]
   ·have e:min k l.length=l.length:=Nat.min_eq_right (by omega)
    rw [e,List.drop_of_length_le (adq _),List.drop_of_length_le (l:=l) (i:=k) (by omega)]
    simp
theorem Wb (l:List Nat) (lo hi:Option Nat):Txt.slice ⟨l.toArray⟩ (lo.map λ(k:Nat)=>(k:Int)) (hi.map λ(k:Nat)=>(k:Int))=(⟨(kD l lo hi).toArray⟩:Str):=by
 have xZ:gD lo 0 l.length≤l.length:=by unfold gD;cases lo<;>simp;omega
 have OO:gD hi l.length l.length≤l.length:=by unfold gD;cases hi<;>simp;omega
 unfold Txt.slice
 rw [str_len,Pe,ZD (n:=l.length) OO]
 by_cases ij:gD lo 0 l.length≤gD hi l.length l.length
 ·rw [Se (l:=l.toArray) _ _ (by simp;omega)]
  simp only [List.toList_toArray]
  rw [BC]
  split
  ·rename_i h
   simp only [beq_self_eq_true,Bool.true_and,beq_iff_eq,List.length_map,List.length_range] at h
   have h0:gD lo 0 l.length=0:=by omega
   have h1:gD hi l.length l.length=l.length:=by omega
   have:=BC l lo hi
   rw [h0,h1] at this
   simp at this
   rw [←this]
  ·rfl
 ·have h0:gD hi l.length l.length-gD lo 0 l.length=0:=by omega
  have c:=BC l lo hi
  rw [h0] at c ⊢
  simp only [List.take_zero] at c
  rw [←c]
  simp only [List.range_zero,List.map_nil,List.length_nil,List.filterMap_nil]
  split
  ·rename_i h
   simp only [beq_self_eq_true,Bool.true_and,beq_iff_eq] at h
   have:l=[]:=List.length_eq_zero_iff.mp h.symm
   subst this;rfl
  ·rfl
end
noncomputable def Q5:List Addr:=[54,61,68,75,82,89,96,103,110,117,124,131,138,145,29,159,180,187,194,216,223,230,237,244,251,258,265,279,286,293,298,303,310,317,322,329,336,343,350]
noncomputable def bS (f:Nat):Addr:=Q5.getD f 0
noncomputable def oH (m:Nat):Str:=Str.ofString (DO.getD m "")
theorem LC:∀f,f<14→∀g,g<14→aB f=aB g→f=g:=by decide +kernel
structure KF (K:Frag):Prop where
 ga:∀c,findIn K (.ref (cD c)) "__getattribute__"=some (some (.builtin "object.__getattribute__"))
 Ms:∀c,findIn K (.ref (cD c)) "__getattr__"=some none
 sa:∀c,findIn K (.ref (cD c)) "__setattr__"=some (some (.builtin "object.__setattr__"))
 hd:∀c,hasDictIn K (cD c)=true
 po:∀c,plainOver K (cD c)=true
 fld:∀c,∀f,f<14→findIn K (.ref (cD c)) (aB f)=some none
 GY:∀c m f,gk c m=some f→findIn K (.ref (cD c)) (oH m)=some (some (.ref (bS f)))
 GR:∀m,m<9→∀f,f<14→aB f≠oH m
 isFn:∀f,f<39→typeIn K (.ref (bS f))=some (.type "function")
 kp:∀f,f<39→keepIn K (.ref (bS f))=true
 kc:∀c,keepIn K (.ref (cD c))=true
 MU:∀c,makesIn K (cD c)=true
 init:∀c,findIn K (.ref (cD c)) "__init__"=some (some (.ref (bS (oK c))))
section
variable {U:Program} {w:World} {J:Heap} {fl:List Env} {Z:aH} {O:ag} {s:Shared} {A:Around} {E:Value→Shared→Prop} {X:Addr→Prop} {K:Frag}
theorem Km {h:Heap}:∀{fs:List (Nat×V)} {es:List DictEntry},cA J h Z fs es→es.any (·.refKey)=false
 |[],_,e=>by simp only [cA] at e;subst e;rfl
 |(_,_)::_,_,e=>by
  simp only [cA] at e
  obtain ⟨hs,t,x,q,rfl,_,_,r⟩:=e
  rw [List.any_cons,Km r];rfl
theorem CT {h:Heap} {f:Nat} (hf:f<14):∀{fs:List (Nat×V)} {es:List DictEntry},cA J h Z fs es→
    (match pG fs f with |some v=>∃x,getL (aB f) es=some (some x)∧RV J h Z v x |Option.none=>getL (aB f) es=some Option.none)
 |[],_,e=>by simp only [cA] at e;subst e;rfl
 |(g,v)::r,_,e=>by
  have e0:=e
  simp only [cA] at e
  obtain ⟨hs,t,x,q,rfl,hg,rv,rr⟩:=e
  have ih:=CT hf rr
  simp only [pG]
  by_cases pU:g=f
  ·subst pU
   simp only [if_true]
   refine ⟨x,?_,rv⟩
   unfold getL
   rw [List.find?_cons]
   have:(Value.str (aB g) t).isStr (aB g)=true:=by simp [Value.isStr]
   rw [this]
  ·simp only [pU,if_false]
   have cx:(Value.str (aB g) t).isStr (aB f)=false:=by
    simp only [Value.isStr,beq_eq_false_iff_ne]
    exact λz=>pU (LC g hg f hf z)
   have vm:getL (aB f) (⟨hs,.str (aB g) t,x⟩::q)=getL (aB f) q:=by
    unfold getL
    rw [List.find?_cons]
    simp only [cx]
    rw [List.any_cons]
    rfl
   rw [vm]
   exact ih
theorem JF {h:Heap} {n:Str} (hn:∀f,f<14→aB f≠n):∀{fs:List (Nat×V)} {es:List DictEntry},cA J h Z fs es→getL n es=some Option.none
 |[],_,e=>by simp only [cA] at e;subst e;rfl
 |(g,v)::r,_,e=>by
  simp only [cA] at e
  obtain ⟨hs,t,x,q,rfl,hg,rv,rr⟩:=e
  have ih:=JF hn rr
  have cx:(Value.str (aB g) t).isStr n=false:=by
   simp only [Value.isStr,beq_eq_false_iff_ne]
   exact hn g hg
  unfold getL at ih ⊢
  rw [List.find?_cons]
  simp only [cx]
  rw [List.any_cons]
  exact ih
theorem ue {h:Heap} {f:Nat} (hf:f<14) {v:V} {x:Value} (rv:RV J h Z v x) (Cg:Int) (t:Tok):∀{fs:List (Nat×V)} {es:List DictEntry},cA J h Z fs es→
  cA J h Z (fe fs f v) (putL (aB f) Cg (.str (aB f) t) x es)
 |[],_,e=>by
  simp only [cA] at e;subst e
  simp only [fe,putL,cA]
  exact ⟨Cg,t,x,[],rfl,hf,rv,rfl⟩
 |(g,u)::r,_,e=>by
  simp only [cA] at e
  obtain ⟨hs,t',y,q,rfl,hg,ru,rr⟩:=e
  simp only [fe,putL]
  by_cases pU:g=f
  ·subst pU
   have:(Value.str (aB g) t').isStr (aB g)=true:=by simp [Value.isStr]
   simp only [this,if_true,cA]
   exact ⟨hs,t',x,q,rfl,hg,rv,rr⟩
  ·have cx:(Value.str (aB g) t').isStr (aB f)=false:=by
    simp only [Value.isStr,beq_eq_false_iff_ne]
    exact λz=>pU (LC g hg f hf z)
   simp only [cx,pU,Bool.false_eq_true,if_false,cA]
   exact ⟨hs,t',y,_,rfl,hg,ru,ue hf rv Cg t rr⟩
theorem Ba (f:Nat) (v:V):∀fs:List (Nat×V),(fe fs f v).map (·.1)=if f∈fs.map (·.1) then fs.map (·.1) else fs.map (·.1)++[f]
 |[]=>by simp [fe]
 |(g,u)::r=>by
  simp only [fe]
  by_cases h:g=f
  ·subst h;simp
  ·simp only [h,if_false,List.map_cons,Ba f v r,List.mem_cons]
   have:¬f=g:=λz=>h z.symm
   simp only [this,false_or]
   split<;>simp
theorem W3:∀l:List Nat,l.Nodup→(∀x∈l,x<14)→l.length≤14:=λl hn hx=>by
 have h:=List.Nodup.length_le_of_subset (l₂:=List.range 14) hn (λx hm=>List.mem_range.mpr (hx x hm))
 simpa using h
theorem zZ {h:Heap}:∀{fs:List (Nat×V)} {es:List DictEntry},cA J h Z fs es→(∀x∈fs.map (·.1),x<14)∧es.length=fs.length
 |[],_,e=>by simp only [cA] at e;subst e;simp
 |(g,v)::r,_,e=>by
  simp only [cA] at e
  obtain ⟨hs,t,x,q,rfl,hg,rv,rr⟩:=e
  obtain ⟨a,b⟩:=zZ rr
  refine ⟨λy hy=>?_,by simp [b]⟩
  simp only [List.map_cons,List.mem_cons] at hy
  rcases hy with rfl |hy
  ·exact hg
  ·exact a y hy
theorem Nf {h:Heap} {x:V} {v:Value} (r:RV J h Z x v):handedIn v=true:=match x,r with
 | .none,r=>vZ (P:=λv=>handedIn v=true) r rfl
 | .bool _,r=>uG (P:=λv=>handedIn v=true) r rfl
 | .int _,r=>vK (P:=λv=>handedIn v=true) r λ_=>rfl
 | .str _,r=>tQ (P:=λv=>handedIn v=true) r λ_ _=>rfl
 | .tup _,r=>DI (P:=λv=>handedIn v=true) r λ_ _ _ _=>rfl
 | .ref _,r=>tY (P:=λv=>handedIn v=true) r λ_ _=>rfl
 | .frozen _,⟨_,_,_,e,_⟩=>e▸rfl
theorem C1 {h:Heap} {p:Addr×Addr} {c:cj} {es:List DictEntry} {n:Nat} (h1:h.get? p.1=some (instObj (cD c) p.2)) (h2:h.get? p.2=some (dictOf es n)):
  InstAt h p.1 (instObj (cD c) p.2) (cD c) (some (dictOf es n)):=⟨h1,rfl,rfl,h2⟩
theorem T7 (kf:KF K) (X0:K.In s.heap) (S:SR U w J s.heap Z O) {x z:V} {a:Value} {f:Nat} {b:Bool} (hf:f<14) (rx:RV J s.heap Z x a) (h:wW O x f=some z):
  wpAny (model U w) A (getAttr a (aB f) b) (aI U w J X Z s (.ok z O)) E s:=by
 refine gf h sn rx λn p hp h=>Ez S hp h sn λc fs hs I h=>?_
 obtain ⟨es,m,h1,h2,fr,_,_⟩:=I
 have g:=CT hf fr
 rw [h] at g
 obtain ⟨v,e,rv⟩:=g
 exact get_value X0 (C1 h1 h2) (kf.ga c) (findObj_own (attr:=none) (kf.hd c) (kf.fld c f hf) rfl (by rw [lookIn_dict];exact e)) (Nf rv) (aI.same S rv _)
theorem Z4 {c:cj} {x dx:Addr} {es:List DictEntry} {n:Nat} {name:Str} {tk:Tok} {v:Value} {R:Result→Shared→Prop} (kf:KF K) (X0:K.In s.heap)
    (h1:s.heap.get? x=some (instObj (cD c) dx)) (h2:s.heap.get? dx=some (dictOf es n)) (hn:findIn K (.ref (cD c)) name=some none) (hk:es.any (·.refKey)=false)
    (hz:(putL name (PyData.keyHash w.params name) (.str name s.toks) v es).length≤1000)
    (h:∀h',Heap.SameBut dx s.heap h'→h'.get? dx=some (dictOf (putL name (PyData.keyHash w.params name) (.str name s.toks) v es) (putN name es n))→R (.ok (.ret .none)) {s with heap:=h',toks:=s.toks+1}):
  codeAny (model U w) A (.call (.builtin "object.__setattr__") ⟨[.ref x,.str name tk,v],[]⟩) R s:=by
 have I:InstAt s.heap x (instObj (cD c) dx) (cD c) (some (dictOf es n)):=⟨h1,rfl,rfl,h2⟩
 refine osa_open (r:=none) X0 I (kf.po c) (by unfold takerIn;rw [hn];rfl) λb=>?_
 obtain ⟨cd,hc,bQ⟩:=any_some (kf.hd c)
 refine wpAny_bind (wpAny_pure (wpAny_bind (wpAny_bind (wpAny_loadPart h1 (wpAny_bind ((looks_clsIn X0 hc).here ?_))))))
 rw [bQ]
 refine wpAny_pure (a:=some dx) (wpAny_bind (wpAny_pure (wpAny_bind ?_)))
 unfold nsSet
 refine wpAny_bind (wpAny_bind (wpAny_askSetting (wpAny_pure (wpAny_bind (wpAny_mkText (wpAny_bind (wpAny_loadPart h2 ?_)))))))
 have q:aRefKeyMayBeTheName name es.toArray=false:=by
  rw [aRefKeyMayBeTheName_at]
  have:(es.toArray.any λx:DictEntry=>x.refKey)=false:=by rw [←Array.any_toList];exact hk
  rw [this,Bool.and_false]
 dsimp only
 rw [q]
 have acC:(dictOf (putL name (PyData.keyHash w.params name) (.str name s.toks) v es) (putN name es n)).isFreed=false:=rfl
 have hu:=putName_dict name (PyData.keyHash w.params name) (.str name s.toks) v es n
 have g:(s.heap.update dx (Obj.putName name (PyData.keyHash w.params name) (.str name s.toks) v)).get? dx=some (dictOf (putL name (PyData.keyHash w.params name) (.str name s.toks) v es) (putN name es n)):=by
  rw [←hu];exact Heap.get?_update_self _ h2 (by rw [hu];rfl)
 refine wpAny_updatePart h2 ?_
 refine wpAny_bind (wpAny_lookBehind g (pastItsLine_dict (by rw [List.size_toArray,sizeLine_eq];omega)) ?_)
 exact wpAny_pure (h _ (Heap.SameBut.update ..) g)
structure Left (U:Program) (w:World) (J:Heap) (Z:aH) (s:Shared) (af:ag) (s':Shared):Prop where
 x:aj aE Z s Z s'
 sr:SR U w J s'.heap Z af
theorem ZZ {fs:List (Nat×V)} (f:Nat) (v:V) (nd:(fs.map (·.1)).Nodup):((fe fs f v).map (·.1)).Nodup:=by
 rw [Ba]
 split
 ·exact nd
 ·rename_i hm
  exact List.nodup_append.mpr ⟨nd,by simp,λa ha b hb q=>hm (by simp at hb;rw [←hb, ←q];exact ha)⟩
theorem QW {fs:List (Nat×V)} {f:Nat} (v:V) (hf:f<14) (sm:∀x∈fs.map (·.1),x<14):∀y∈(fe fs f v).map (·.1),y<14:=λy hy=>by
 rw [Ba] at hy
 split at hy
 ·exact sm y hy
 ·rcases List.mem_append.mp hy with q |q
  ·exact sm y q
  ·simp at q;subst q;exact hf
theorem Tr (kf:KF K) (X0:K.In s.heap) (S:St U w J fl Z O s) {x v:V} {a b:Value} {f:Nat} {af:ag} (hf:f<14) (rx:RV J s.heap Z x a) (rv:RV J s.heap Z v b) (h:qU O x f v=some af):
  wpAny (model U w) A (setAttr a (aB f) b) (λ_ s'=>Left U w J Z s af s') E s:=by
 refine gf h sn rx λn p hp h=>Ez S.sr hp h sn λc fs hs I h=>co h ?_
 obtain ⟨es,m,h1,h2,fr,hl,nd⟩:=I
 have HA:=ZZ f v nd
 have Mf:(fe fs f v).length≤14:=by
  have:=W3 _ HA (QW v hf (zZ fr).1)
  rw [List.length_map] at this;exact this
 have Hk:=λt=>ue hf rv (PyData.keyHash w.params (aB f)) t fr
 refine set_plain X0 (C1 h1 h2) (kf.sa c) (Z4 (s:={s with toks:=s.toks+1}) kf X0 h1 h2 (kf.fld c f hf) (Km fr) ?_ λh' ba hg=>?_)
 ·rw [(zZ (Hk _)).2];exact adk Mf (by decide)
 ·have T:=z9 (c:= .inst c (fe fs f v)) S hp (.inr rfl) ba (by rw [hg];rfl) (s.toks+1+1) λvk=>by
   have ne:p.1≠p.2:=λq=>by
    rw [q,h2] at h1
    injection h1 with h1;injection h1 with h1;cases h1
   exact ⟨(ba.2 _ ne).trans h1,Mf,HA,_,_,hg,cA.mono vk (Hk _)⟩
  exact ⟨T.1,T.2⟩
end
section
variable {U:Program} {w:World} {J:Heap} {fl:List Env} {Z:aH} {O:ag} {s:Shared} {A:Around} {E:Value→Shared→Prop} {X:Addr→Prop} {K:Frag}
theorem Left.post {af:ag} {s':Shared} (h:Left U w J Z s af s') {x:V} {v:Value} (r:RV J s'.heap Z x v):aI U w J aE Z s (.ok x af) v s':=⟨Z,h.1,h.2,r⟩
theorem xJ (S:St U w J fl Z O s) {n:Nat} {p:Addr×Addr} {vs us:List V} {ws xs:Array Value} (hp:Z[n]?=some p) (hs:O[n]?=some (.list vs)) {h':Heap} (ba:Heap.SameBut p.1 s.heap h') (hl:h'.PlainList p.1 xs)
    (rs:aD J s.heap Z us xs.toList) (hz:us.length≤aq) (k:Nat):Left U w J Z s (O.set n (.list us)) {s with heap:=h',toks:=k}:=by
 obtain ⟨e,_⟩:=S.sr.cell _ _ _ hp hs
 obtain ⟨m,hm⟩:=hl
 have T:=z9 (c:= .list us) S hp (.inl rfl) ba (by rw [hm];rfl) k λv=>⟨e,hz,xs,⟨m,hm⟩,aD.mono v rs⟩
 exact ⟨T.1,T.2⟩
theorem KW {h:Heap} {k:List Nat} {v:V} {x:Value} (rv:RV J h Z v x):∀{es:List (List Nat×V)} {l:List (Str×Value)},bo J h Z es l→(l.map (·.1)).Nodup→bo J h Z (dictPut es k v) (stored l (⟨k.toArray⟩:Str) x)
 |[],l,e,_=>by
  simp only [bo] at e;subst e
  simp only [dictPut,stored,List.any_nil,Bool.false_eq_true,if_false,List.nil_append,bo]
  exact ⟨x,[],rfl,rv,rfl⟩
 |(y,u)::es,l,e,nd=>by
  simp only [bo] at e
  obtain ⟨a,q,rfl,ru,r⟩:=e
  have ih:=KW (k:=k) rv r (List.nodup_cons.mp nd).2
  simp only [dictPut]
  by_cases hx:y=k
  ·subst hx
   simp only [if_true,stored,List.any_cons,decide_true,Bool.true_or,List.map_cons]
   have:(q.map λkv=>if kv.1=(⟨y.toArray⟩:Str) then (kv.1,x) else kv)=q:=map_store_of_not_mem q _ x (List.nodup_cons.mp nd).1
   rw [this]
   simp only [bo]
   exact ⟨x,q,rfl,rv,r⟩
  ·have cx:¬((⟨y.toArray⟩:Str)=⟨k.toArray⟩):=λz=>hx (by injection z with z;simpa using z)
   simp only [hx,if_false,bo]
   refine ⟨a,stored q (⟨k.toArray⟩:Str) x,?_,ru,ih⟩
   simp only [stored,List.any_cons,decide_eq_false cx,Bool.false_or,List.map_cons,if_neg cx]
   split<;>rfl
theorem AK {h:Heap} {k:List Nat}:∀{es:List (List Nat×V)} {l:List (Str×Value)},bo J h Z es l→(l.map (·.1)).Nodup→bo J h Z (dictDel es k) (without l (⟨k.toArray⟩:Str))
 |[],l,e,_=>by
  simp only [bo] at e;subst e
  simp only [dictDel,without,List.filter_nil,bo]
 |(y,u)::es,l,e,nd=>by
  simp only [bo] at e
  obtain ⟨a,q,rfl,ru,r⟩:=e
  have ih:=AK (k:=k) r (List.nodup_cons.mp nd).2
  simp only [dictDel]
  by_cases hx:y=k
  ·subst hx
   have nm:=(List.nodup_cons.mp nd).1
   have:without ((((⟨y.toArray⟩:Str),a)::q)) (⟨y.toArray⟩:Str)=q:=by
    unfold without
    rw [List.filter_cons]
    simp only [ne_eq,not_true_eq_false,decide_false,Bool.false_eq_true,if_false]
    exact List.filter_eq_self.mpr λz hz=>decide_eq_true λe=>nm (by rw [List.mem_map];exact ⟨z,hz,e⟩)
   simp only [if_true]
   rw [this];exact r
  ·have cx:¬((⟨y.toArray⟩:Str)=⟨k.toArray⟩):=λz=>hx (by injection z with z;simpa using z)
   simp only [hx,if_false,bo]
   refine ⟨a,without q (⟨k.toArray⟩:Str),?_,ru,ih⟩
   unfold without
   rw [List.filter_cons]
   simp only [ne_eq,cx,not_false_eq_true,decide_true,if_true]
theorem yI {h:Heap}:∀{es:List (List Nat×V)} {l:List (Str×Value)},bo J h Z es l→l.length=es.length
 |[],l,e=>by simp only [bo] at e;subst e;rfl
 |(y,u)::es,l,e=>by
  simp only [bo] at e
  obtain ⟨a,q,rfl,ru,r⟩:=e
  simp [yI r]
theorem HP (k:List Nat) (v:V):∀es:List (List Nat×V),(dictPut es k v).length≤es.length+1
 |[]=>by simp [dictPut]
 |(y,u)::es=>by
  simp only [dictPut]
  split
  ·simp
  ·have:=HP k v es;simp;omega
theorem El (k:List Nat):∀es:List (List Nat×V),(dictDel es k).length≤es.length
 |[]=>by simp [dictDel]
 |(y,u)::es=>by
  simp only [dictDel]
  split
  ·simp
  ·have:=El k es;simp;omega
theorem CH (S:St U w J fl Z O s) {n:Nat} {p:Addr×Addr} {es fs:List (List Nat×V)} {cL:List (Str×Value)} (hp:Z[n]?=some p) (hs:O[n]?=some (.dict es)) {h':Heap} (ba:Heap.SameBut p.1 s.heap h')
    (hd:h'.DictOf (strKind U w) p.1 cL) (rd:bo J s.heap Z fs cL) (hz:fs.length≤1000000) (k:Nat):Left U w J Z s (O.set n (.dict fs)) {s with heap:=h',toks:=k}:=by
 obtain ⟨e,_⟩:=S.sr.cell _ _ _ hp hs
 have hl:(h'.get? p.1).isSome:=by obtain ⟨o,_,_,ho,_⟩:=hd;rw [ho];rfl
 have T:=z9 (c:= .dict fs) S hp (.inl rfl) ba hl k λv=>⟨e,hz,cL,hd,bo.mono v rd⟩
 exact ⟨T.1,T.2⟩
theorem BW {h:Heap} {a:Addr} {cL:List (Str×Value)} (hd:h.DictOf (strKind U w) a cL):(cL.map (·.1)).Nodup:=by
 obtain ⟨_,_,_,_,_,_,_,_,nd⟩:=hd;exact nd
theorem Bt {n:Nat} (h:n≤1000000):n≤sizeLine:=adk h (by rw [←gW];decide)
theorem abM {n:Nat} (h:n<1000000):n<sizeLine:=adl h (by rw [←gW];decide)
theorem KZ (S:St U w J fl Z O s) {x y v:V} {a b c:Value} {af:ag} (rx:RV J s.heap Z x a) (ry:RV J s.heap Z y b) (rv:RV J s.heap Z v c) (h:jU O x y v=some af):
  wpAny (model U w) A (setItem a b c) (λ_ s'=>Left U w J Z s af s') E s:=by
 refine gf h sn rx λn p hp h=>mR h ry (λk u h=>iC S.sr hp h sn λus hs L h=>dc h sn λh0 h=>co h ?a) λh=>ej h sn ry λk u hk h=>rO S.sr hp h sn λes hs D h=>dc h sn λh0 h=>co h ?b
 case a=>
  obtain ⟨ws,⟨m,hm⟩,rs,bO,hz⟩:=L
  refine ki_setAt (n:=m) hm h0.1 (Ig h0.1 h0.2 hz) ((Int.toNat_lt h0.1).1 (bO▸h0.2)) ?_
  have hu:=PySem.IsL.update hm (·.setIfInBounds (Int.toNat k) c)
  exact xJ (ws:=ws) S hp hs (Heap.SameBut.update ..) ⟨_,hu⟩ (by rw [Array.toList_setIfInBounds];exact aD.set rs rv) (by rw [List.length_set];exact hz) s.toks
 case b=>
  obtain ⟨cL,hd,rd,hz⟩:=D
  refine wpAny_setItem_pairs (knd:=strKind U w) (strKind_is U w _ u) hd (λh' bQ ba=>?_) (yI rd▸Bt hz)
  exact CH S hp hs ba bQ (KW rv rd (BW hd)) (adk (HP k v es) h0) _
theorem aaP (S:St U w J fl Z O s) {x y:V} {a b:Value} {af:ag} (rx:RV J s.heap Z x a) (ry:RV J s.heap Z y b) (h:rE O x y=some af):
  wpAny (model U w) A (delItem a b) (λ_ s'=>Left U w J Z s af s') E s:=by
 refine gf h sn rx λn p hp h=>ej h sn ry λk u hk h=>rO S.sr hp h sn λes hs D h=>dc h sn λh0 h=>co h ?_
 obtain ⟨cL,hd,rd,hz⟩:=D
 refine wpAny_delItem_slot hd.typeIs (by decide) PySem.F.slot_dict_delitem (call_meetsIn PySem.F.slot_dict_delitem hd.typeIs PySem.F.entry_dict_delitem (PySem.F.args_dict_delitem_2 _ _)
    (meets_dict_delitem_pairs (strKind U w) p.1 (strKind_is U w _ u)) ⟨cL,hd,yI rd▸Bt hz,(Ax rd).trans h0,λh' bQ ba=>?_⟩)
 exact CH S hp hs ba bQ (AK rd (BW hd)) (adk (El k es) hz) _
theorem uC {Q:Value→Shared→Prop} {v:Value} {s':Shared} (h:Q v s'):wants Q E (.ok (.ret v)) s':=h
theorem Gs {ws:Array Value} {vs:List V} {h:Heap} (rs:aD J h Z vs ws.toList):ws.size=vs.length:=by rw [←aD.length rs];simp
theorem Jy:typeLookup (.type "list") (dunderI "add")=pure (some (Value.builtin "list.__iadd__")):=PySem.F.slot_list_iadd.lookup
theorem Wj {a b:Value} {Q:Value→Shared→Prop} (ha:s.TypeIs a "list") (hb:s.TypeIs b "list") (hc:wpAny (model U w) A (call (.builtin "list.__iadd__") [a,b]) Q E s):
  wpAny (model U w) A (inplaceOp .Add a b) Q E s:=by
 unfold inplaceOp
 refine wpAny_holding ?_
 have hq:isSeqSlot (some (Value.builtin "list.__iadd__"))=true:=by decide +kernel
 have Yl:fillsInplaceSlot (.type "list") "add" (Operator.Add== .Add)=pure false:=by
  unfold fillsInplaceSlot
  show (typeLookup (.type "list") (dunderI "add")>>=λfi=>pure (fi.isSome&& !isSeqSlot fi))=pure false
  rw [Jy,pure_bind,hq];rfl
 have Vq:seqSlot? (.type "list") (dunderI "add")=pure (some (Value.builtin "list.__iadd__")):=PySem.seqSlot_of Jy hq
 refine wpAny_bind (wpAny_typeOf ha (wpAny_bind (wpAny_of_eq Yl ?_)))
 show wpAny _ A (if false=true then _ else _) Q E s
 rw [if_neg Bool.false_ne_true]
 refine wpAny_bind (wpAny_binaryOp1_none (nm:="add") ha hb PySem.noFill_list_add ?_)
 refine wpAny_bind (wpAny_of_eq Vq ?_)
 exact wpAny_bind (wpAny_rule hc)
theorem Ux (S:SR U w J s.heap Z O) {op:BinOp} {x y z:V} {a b:Value} (rx:RV J s.heap Z x a) (ry:RV J s.heap Z y b) (h:eW op x y=some z) (hm:op≠ .mul):
  wpAny (model U w) A (inplaceOp (jB op) a b) (aI U w J X Z s (.ok z O)) E s:=by
 cases op with
 |add=>
  refine mR h rx (λi t h=>dB h sn ry λj u h=>co h ?a) λh=>ej h sn rx λl t hl h=>ej h sn ry λm u hm h=>dc h sn λhl h=>co h ?b
  case a=>exact PyProof.Rows.iadd_int (aI.same S (eY _ _) _)
  case b=>
   refine PyProof.Rows.iadd_str (λt' tk=>?_) ?_
   ·rw [Hh]
    exact aI.same S (iH _ hl) _
   ·rw [str_len,str_len, ←gW, ←List.length_append];exact hl
 |sub=>exact dB h sn rx λi t h=>dB h sn ry λj u h=>co h (PyProof.Rows.isub_int (aI.same S (eY _ _) _))
 |mul=>exact absurd rfl hm
 |fdiv=>exact dB h sn rx λi t h=>dB h sn ry λj u h=>dc h sn λhs h=>co h (PyProof.Rows.ifloordiv_int (Int.ne_of_gt hs.1) (aI.same S (eY _ _) _) (.inl (PyProof.noPylong_small (Iu hs))))
 |mod=>exact dB h sn rx λi t h=>dB h sn ry λj u h=>dc h sn λhs h=>co h (PyProof.Rows.imod_int (Int.ne_of_gt hs.1) (aI.same S (eY _ _) _))
theorem Qc {n m:Nat} (h:n+m≤aq):n≤sizeLine∧m≤sizeLine∧n+m≤sizeLine:=by rw [←gW];exact ⟨adk (adn ..) h,adk (Nat.le_add_left ..) h,h⟩
theorem J7 (S:St U w J fl Z O s) {op:BinOp} {x y:V} {a b:Value} {out:Out V} (rx:RV J s.heap Z x a) (ry:RV J s.heap Z y b) (h:jf op O x y=out) (hn:out≠ .stuck):
  wpAny (model U w) A (inplaceOp (jB op) a b) (aI U w J aE Z s out) E s:=by
 have plain:op≠ .mul→gj (eW op x y) O=out→wpAny (model U w) A (inplaceOp (jB op) a b) (aI U w J aE Z s out) E s:=λhm h=>oQ h hn λz hz=>Ux S.sr rx ry hz hm
 cases op with
 |add=>
  refine Cw (P:=λx a=>_→wpAny (model U w) A (inplaceOp (jB .add) a b) (aI U w J aE Z s out) E s) h rx (λn p hp h _=>gf h hn ry λm q hq h=>iC S.sr hp h hn λxs hx L1 h=>iC S.sr hq h hn λys hy L2 h=>dc h hn λh0 h=>?a) (λh pl=>pl nofun h) plain
  obtain ⟨ws,⟨m1,hm⟩,rs,l1,hz⟩:=L1
  obtain ⟨us,⟨m2,m5⟩,PH,l2,abH⟩:=L2
  subst h
  have ⟨f1,f2,f3⟩:=Qc h0.2
  have T1:s.TypeIs (.ref p.1) "list":=⟨_,hm,rfl⟩
  have T2:s.TypeIs (.ref q.1) "list":=⟨_,m5,rfl⟩
  refine Wj T1 T2 (call_meets PySem.F.slot_list_iadd T1 PySem.F.entry_list_iadd (PySem.F.args_list_iadd_2 _ _)
      (AutoSeq1.list___iadd___list_list_0 p.1 ws m1 q.1 us m2 ?_ (by rw [l1];exact f1) (by rw [l1,l2];exact Nat.le_succ_of_le f3)) ⟨hm,m5,?_⟩)
  ·rw [Bool.and_eq_true,not_and]
   intro _
   unfold Builtin.List.listTooLong
   simp only [decide_eq_true_eq,sizeLine_eq] at*
   omega
  ·have hu:=PySem.IsL.update hm (· ++us)
   exact uC (Left.post (xJ (ws:=ws) S hp hx (Heap.SameBut.update ..) ⟨_,hu⟩ (by rw [Array.toList_append];exact aD.append rs PH) (by rw [List.length_append];exact h0.2) s.toks) ⟨p,hp,rfl⟩)
 |mul=>exact absurd h.symm hn
 |sub |fdiv |mod=>exact plain nofun h
end
section
variable {U:Program} {w:World} {J:Heap} {fl:List Env} {Z:aH} {O:ag} {s:Shared} {A:Around} {E:Value→Shared→Prop} {X:Addr→Prop} {K:Frag}
noncomputable def BE:Bi→Value
 | .len=> .builtin "len" | .min=> .builtin "min" | .max=> .builtin "max" | .int=> .type "int" | .abs=> .builtin "abs" | .sorted=> .builtin "sorted"
theorem GP (S:St U w J fl Z O s) {x:V} {v:Value} {h':Heap} {k:Nat} (g:∀c o,s.heap.get? c=some o→h'.get? c=some o) (r:∀h,RV J h Z x v):aI U w J aE Z s (.ok x O) v {s with heap:=h',toks:=k}:=by
 have E:aj aE Z s Z {s with heap:=h',toks:=k}:=⟨List.prefix_refl _,λb o e _ _=>g b o e,λb e=>by
  obtain ⟨o,ho⟩:=Option.isSome_iff_exists.mp e
  rw [g b o ho];rfl,λn p hn e=>(by rw [List.getElem?_eq_none hn] at e;cases e),rfl,rfl,rfl⟩
 exact ⟨Z,E,S.sr.grow (E.fp S) λb o _ e=>g b o e,r _⟩
theorem GF (S:St U w J fl Z O s) {h':Heap} (g:∀c o,s.heap.get? c=some o→h'.get? c=some o) {p:Addr×Addr} (h1:s.heap.get? p.1=none) (h2:s.heap.get? p.2=none) {c:Cell} (k:Nat)
    (hc:VK J Z s.heap (Z++[p]) h'→RC U w J h' (Z++[p]) p c):aI U w J aE Z s (.ok (.ref O.length) (O++[c])) (.ref p.1) {s with heap:=h',toks:=k}:=by
 have E0:aj aE Z s Z {s with heap:=h',toks:=k}:=⟨List.prefix_refl _,λb o e _ _=>g b o e,λb e=>by
  obtain ⟨o,ho⟩:=Option.isSome_iff_exists.mp e
  rw [g b o ho];rfl,λn p hn e=>(by rw [List.getElem?_eq_none hn] at e;cases e),rfl,rfl,rfl⟩
 have v0:=E0.fp S
 have v:VK J Z s.heap (Z++[p]) h':=⟨List.prefix_append _ _,v0.seq,v0.stays,v0.off,v0.cells⟩
 refine ⟨Z++[p],?_,S.sr.more v (hc v) (λb o _ e=>g b o e) h1 h2 (jE S.stays h1) (jE S.stays h2),?_⟩
 ·refine ⟨List.prefix_append _ _,E0.keep,E0.live,λn q hn e=>?_,rfl,rfl,rfl⟩
  rw [List.getElem?_append_right hn] at e
  cases hk:n-Z.length with
  |zero=>rw [hk] at e;cases e;exact ⟨h1,h2⟩
  |succ j=>rw [hk] at e;simp at e
 ·simp only [RV]
  exact ⟨p,by rw [←S.sr.len];simp,rfl⟩
theorem UK {k:Str} {v:Value} (h:(PySem.strKind U w).is k v=true):∃t,v= .str k t:=by
 have h:v.isStrOf k=true:=h
 cases v<;>simp [Value.isStrOf] at h
 subst h
 exact ⟨_,rfl⟩
theorem YO (S:St U w J fl Z O s) (hh:A.handled=none) (hb:(J.get? sysModules).isSome) {n:Nat} {k:List Nat} {v:V} {p:Addr×Addr} (hp:Z[n]?=some p) (hs:O[n]?=some (.dict [(k,v)])) (P8:k.length≤aq):
  wpAny (model U w) A (call (.builtin "sorted") [.ref p.1]) (aI U w J aE Z s (.ok (.ref O.length) (O++[.list [.str k]]))) E s:=by
 obtain ⟨cL,hd,⟨x,q,rfl,rx,rfl⟩,_⟩:=S.sr.dict hp hs
 have cx:=Ey hb S.sr hp
 obtain ⟨ep,yw⟩:=hd.dictAt
 refine call_function_entry kind_sorted plain_sorted entry_sorted (args_sorted1 _) ?_
 unfold Builtin.«sorted»
 refine wpAny_bind (m:=checkCount "sorted" 1 1 _) (wpAny_pure ?_)
 refine wpAny_bind (kdu_collect (A:=A.in1) (kdl_dict (knd:=PySem.strKind U w) cx) hh yw (by show 1≤_;decide) λh' tk acc hk zp=>?_)
 obtain ⟨bO,hv⟩:=zp
 have adb:acc.size=1:=bO
 obtain ⟨y,hy⟩:∃y,acc[0]?=some y:=⟨acc[0],by rw [Array.getElem?_eq_getElem]⟩
 obtain ⟨k1,x1,e1,e2⟩:=hv 0 y hy
 simp only [List.getElem?_cons_zero,Option.some.injEq,Prod.mk.injEq] at e1
 obtain ⟨rfl,rfl⟩:=e1
 obtain ⟨t,rfl⟩:=UK e2
 have zp:acc.toList=[.str ⟨k.toArray⟩ t]:=by
  apply List.ext_getElem?
  intro i
  rw [Array.getElem?_toList]
  match i with
  |0=>exact hy
  |i+1=>rw [Array.getElem?_eq_none (by omega)];rfl
 rw [zp]
 refine wpAny_bind (wpAny_newList ?_ (by show 1≤_;decide))
 have Cq:(h'.push (seqObj "list" [Value.str ⟨k.toArray⟩ t].toArray 0)).get? h'.objs.size=some (seqObj "list" [Value.str ⟨k.toArray⟩ t].toArray 0):=Heap.get?_push_size _ rfl
 refine wpAny_bind (wpAny_holding (wpAny_call_entry PyProof.Rows.slot_list_sort (s:={s with heap:=h'.push (seqObj "list" [Value.str ⟨k.toArray⟩ t].toArray 0),toks:=tk}) ⟨_,Cq,rfl⟩ PyProof.Rows.entry_list_sort
    (list_sort_treeK strKind_oneLt Cq (λz hz=>?_) (λ_ _ _ e=>by cases e) (by show 1<64;decide) λFf a1 a2=>⟨_,rfl,?_⟩) (args_list_sort _)))
 ·have:z=(Value.str ⟨k.toArray⟩ t,Value.str ⟨k.toArray⟩ t):=by simpa [pairsOf] using hz
  subst this
  exact ⟨_,rfl⟩
 ·refine wpAny_pure ⟨_,rfl,?_⟩
  have Jz:s.heap.get? h'.objs.size=none:=by
   cases q:s.heap.get? h'.objs.size with
   |none=>rfl
   |some o=>exact absurd (Heap.lt_size (hk _ _ q)) (Nat.lt_irrefl _)
  have XM:(arrOf Ff).map (·.2)= #[Value.str ⟨k.toArray⟩ t]:=by
   have e1:(pairsOf [Value.str ⟨k.toArray⟩ t])= #[(Value.str ⟨k.toArray⟩ t,Value.str ⟨k.toArray⟩ t)]:=by simp [pairsOf]
   rw [e1] at a1
   have:=a1.toList
   have h2:=List.perm_singleton.mp this
   have h3:arrOf Ff= #[(Value.str ⟨k.toArray⟩ t,Value.str ⟨k.toArray⟩ t)]:=by
    rw [←Array.toList_inj];exact h2
   rw [h3];simp
  rw [XM]
  obtain ⟨e,he⟩:=sortedHeap_at (out:= #[Value.str ⟨k.toArray⟩ t]) Cq
  refine GF (p:=(h'.objs.size,h'.objs.size)) S (λb o q=>?_) Jz Jz tk λv=>⟨rfl,by show 1≤_;decide, #[Value.str ⟨k.toArray⟩ t],⟨e,he⟩,aD.one (iH t ?_)⟩
  ·have aK:b<h'.objs.size:=Heap.lt_size (hk _ _ q)
   rw [sortedHeap_old (Nat.ne_of_lt aK) (by rw [size_push'];exact Nat.lt_succ_of_lt aK),Heap.get?_push_ne _ _ _ (Nat.ne_of_lt aK)]
   exact hk _ _ q
  ·exact P8
theorem HD {n:Nat} (h:n≤aq):(n:Int)<2^63:=Int.lt_of_le_of_lt (Int.ofNat_le.2 h) (by decide)
theorem WO (S:SR U w J s.heap Z O) {x z:V} {v:Value} (h:Nl O x=some z) (r:RV J s.heap Z x v):wpAny (model U w) A (call (.builtin "len") [v]) (aI U w J aE Z s (.ok z O)) E s:=by
 refine qQ h r (λl t hl h=>co h ?a) λh=>gf h sn r λn p hp h=>iC S hp h sn λus hs L h=>co h ?b
 case a=>exact PyProof.Rows.len_str (by rw [str_len];exact Int.not_le.2 (HD hl)) (aI.same S (by rw [str_len];exact eY _ _) _)
 case b=>
  obtain ⟨ws,hl,rs,bO,hz⟩:=L
  exact PyProof.Rows.len_list hl.isList (HD (bO▸hz)) (aI.same S (by rw [bO];exact eY _ _) _)
theorem abx (i:Int):(if i<0 then -i else i)=((i.natAbs:Nat):Int):=by split<;>omega
theorem abZ {α:Type} {z:α} {O:ag}:Out.ok z O≠ .stuck:=nofun
@[elab_as_elim] theorem abY {α:Type} {a z:α} {O af:ag} {P:α→ag→Prop} (h:Out.ok a O= .ok z af) (k:P a O):P z af:=by cases h;exact k
theorem RD (hb:(J.get? sysModules).isSome) (S:St U w J fl Z O s) (hh:A.handled=none) {b:Bi} {vs:List V} {ws:List Value} {out:Out V} (h:mI b O vs=out) (hn:out≠ .stuck) (r:aD J s.heap Z vs ws):
  wpAny (model U w) A (call (BE b) ws) (aI U w J aE Z s out) E s:=by
 cases b with
 |len=>exact lr h hn r λx a rx h=>oQ h hn λz hz=>WO S.sr hz rx
 |min=>
  refine Al h hn r λx y a b rx ry h=>dB h hn rx λi t h=>dB h hn ry λj u h=>h▸min_two_ints hh λh' tk hk=>?_
  split<;>exact GP S hk λh=>eY _ _
 |max=>
  refine Al h hn r λx y a b rx ry h=>dB h hn rx λi t h=>dB h hn ry λj u h=>h▸max_two_ints hh λh' tk hk=>?_
  split<;>exact GP S hk λh=>eY _ _
 |int=>exact lr h hn r λx a rx h=>dB h hn rx λi t h=>h▸call_int_int (aI.here S.sr (eY _ _))
 |abs=>exact lr h hn r λx a rx h=>dB h hn rx λi t h=>h▸call_abs_int λu tk=>aI.same S.sr (abx i▸eY _ _) _
 |sorted=>
  refine lr h hn r λx a rx h=>gf h hn rx λn p hp h=>rO S.sr hp h hn λes hs D h=>?_
  match es,h,hs with
  |[],h,_=>exact absurd h.symm hn
  |(k,v)::r,h,hs=>
   refine dc h hn λh0 h=>h▸?_
   have e:=List.isEmpty_iff.1 h0.1
   subst e
   exact YO S hh hb hp hs h0.2
end
section
variable {U:Program} {w:World} {J:Heap} {fl:List Env} {Z:aH} {O af:ag} {s:Shared} {A:Around} {E:Value→Shared→Prop} {X:Addr→Prop} {K:Frag}
noncomputable def Bm.id:Bm→String
 | .append=>"list.append" | .pop=>"list.pop" | .index=>"list.index" | .mW=>"dict.pop" | .join=>"str.join" | .strip=>"str.strip" | .count=>"str.count" | .split=>"str.split"
theorem TP {name:Str} {id:String} {p:Addr×Addr} {n:Nat} {vs:List V} {pl:Sem Bool} {Q:Value×List Value→Shared→Prop} (S:SR U w J s.heap Z O) (hp:Z[n]?=some p) (hs:O[n]?=some (.list vs))
    (slot:Slot "list" name id) (ty:typeOf (.builtin id)=pure (.type "method_descriptor")) (h:Q (.builtin id,[.ref p.1]) s):wpAny (model U w) A (getMethod (.ref p.1) name pl) Q E s:=match S.list hp hs with
 |⟨ws,⟨m,hm⟩,_,_,_⟩=>getMethod_builtin ⟨_,hm,rfl⟩ PySem.F.plainAttrs_list slot ty (λa e=>by cases e;exact ⟨_,hm,rfl⟩) h
theorem Oo {name:Str} {id:String} {p:Addr×Addr} {n:Nat} {vs:List (List Nat×V)} {pl:Sem Bool} {Q:Value×List Value→Shared→Prop} (S:SR U w J s.heap Z O) (hp:Z[n]?=some p) (hs:O[n]?=some (.dict vs))
    (slot:Slot "dict" name id) (ty:typeOf (.builtin id)=pure (.type "method_descriptor")) (h:Q (.builtin id,[.ref p.1]) s):wpAny (model U w) A (getMethod (.ref p.1) name pl) Q E s:=match S.dict hp hs with
 |⟨cL,hd,_,_⟩=>getMethod_builtin hd.typeIs PySem.F.plainAttrs_dict slot ty (λa e=>by
   cases e
   obtain ⟨o,_,_,ho,hc,_⟩:=hd
   exact ⟨o,ho,hc.2.1⟩) h
theorem abE {v:V} (h:pV .s O v=true):∃l,v= .str l:=by
 cases v<;>first |exact ⟨_,rfl⟩ |exact absurd h Bool.false_ne_true
theorem NV (S:SR U w J s.heap Z O) {x:V} {v:Value} {m:Bm} {pl:Sem Bool} {Q:Value×List Value→Shared→Prop} (hk:pV m.kd O x=true) (r:RV J s.heap Z x v) (h:Q (.builtin m.id,[v]) s):
  wpAny (model U w) A (getMethod v (Str.ofString m.name) pl) Q E s:=by
 have L:pV .l O x=true→∀{name:Str} {id:String},Slot "list" name id→typeOf (.builtin id)=pure (.type "method_descriptor")→Q (.builtin id,[v]) s→wpAny (model U w) A (getMethod v name pl) Q E s:=λhk name id sl ty h=>
  gf (P:=λ_ v=>Q (.builtin id,[v]) s→wpAny (model U w) A (getMethod v name pl) Q E s) hk nofun r (λn p hp e h=>iC S hp e nofun λus hs _ _=>TP S hp hs sl ty h) h
 have D:pV .d O x=true→∀{name:Str} {id:String},Slot "dict" name id→typeOf (.builtin id)=pure (.type "method_descriptor")→Q (.builtin id,[v]) s→wpAny (model U w) A (getMethod v name pl) Q E s:=λhk name id sl ty h=>
  gf (P:=λ_ v=>Q (.builtin id,[v]) s→wpAny (model U w) A (getMethod v name pl) Q E s) hk nofun r (λn p hp e h=>rO S hp e nofun λus hs _ _=>Oo S hp hs sl ty h) h
 cases m with
 |append=>exact L hk PySem.F.slot_list_append PySem.F.type_list_append h
 |pop=>exact L hk PySem.F.slot_list_pop PySem.F.type_list_pop h
 |index=>exact L hk PySem.F.slot_list_index PySem.F.type_list_index h
 |mW=>exact D hk PySem.F.slot_dict_pop PySem.F.type_dict_pop h
 |join=>exact ej (P:=λ_ v=>Q (.builtin "str.join",[v]) s→wpAny (model U w) A (getMethod v (Str.ofString "join") pl) Q E s) hk nofun r (λl t _ _ h=>by with_reducible refine GM.join ?_;exact h) h
 |strip=>exact ej (P:=λ_ v=>Q (.builtin "str.strip",[v]) s→wpAny (model U w) A (getMethod v (Str.ofString "strip") pl) Q E s) hk nofun r (λl t _ _ h=>by with_reducible refine GM.strip ?_;exact h) h
 |count=>exact ej (P:=λ_ v=>Q (.builtin "str.count",[v]) s→wpAny (model U w) A (getMethod v (Str.ofString "count") pl) Q E s) hk nofun r (λl t _ _ h=>by with_reducible refine GM.count ?_;exact h) h
 |split=>exact ej (P:=λ_ v=>Q (.builtin "str.split",[v]) s→wpAny (model U w) A (getMethod v (Str.ofString "split") pl) Q E s) hk nofun r (λl t _ _ h=>by with_reducible refine GM.split ?_;exact h) h
theorem OK (l:List Nat):(cZ l).length≤l.length:=by
 unfold cZ
 rw [List.length_reverse]
 refine adk (List.dropWhile_suffix _).length_le ?_
 rw [List.length_reverse]
 exact (List.dropWhile_suffix _).length_le
theorem F0 (sep:List Nat):∀l:List (List Nat),(l.map (·.length)).sum+l.length*sep.length≤(cv sep l).length+sep.length
 |[]=>by simp [cv]
 |[x]=>by simp [cv]
 |x::y::r=>by
  have ih:=F0 sep (y::r)
  simp only [List.map_cons,List.sum_cons,List.length_cons,cv,List.length_append,Nat.succ_mul] at ih ⊢
  omega
theorem Nt (c:Nat):∀s:List Nat,(di c s).length≤s.length+1∧∀p∈di c s,p.length≤s.length
 |[]=>by simp [di]
 |x::r=>by
  obtain ⟨h1,h2⟩:=Nt c r
  unfold di
  split
  ·refine ⟨by simp;omega,λp hp=>?_⟩
   rcases List.mem_cons.mp hp with rfl |hp
   ·simp
   ·have:=h2 p hp;simp;omega
  ·cases hq:di c r with
   |nil=>simp
   |cons p ps=>
    rw [hq] at h1 h2
    refine ⟨by simp at h1 ⊢;omega,λq hm=>?_⟩
    rcases List.mem_cons.mp hm with rfl |hm
    ·have:=h2 p (.head _);simp;omega
    ·have:=h2 q (.tail _ hm);simp;omega
theorem Hg {h:Heap}:∀{l:List (List Nat)} {ws:List Value} {ys:List Str},StrsAre ws ys→ys=l.map mk→(∀p∈l,p.length≤aq)→aD J h Z (l.map .str) ws
 |l,_,_,.nil,e,_=>by
  cases l with
  |nil=>exact aD.nil
  |cons _ _=>cases e
 |l,_,_,.cons x t r,e,hl=>by
  cases l with
  |nil=>cases e
  |cons p ps=>
   rw [List.map_cons] at e
   injection e with e1 e2
   subst e1
   exact aD.cons (iH t (hl p (.head _))) (Hg r e2 λq hq=>hl q (.tail _ hq))
theorem HS:∀l:List (Str×Tok),StrsAre (strValues l) (l.map (·.1))
 |[]=> .nil
 |(x,t)::r=> .cons x t (HS r)
theorem Oc (S:St U w J fl Z O s) {l:List Nat} {c:Nat} {t u:Tok} (hl:l.length<aq):
  wpAny (model U w) A (call (.builtin "str.split") [.str (mk l) t,.str (mk [c]) u]) (aI U w J aE Z s (.ok (.ref O.length) (O++[.list ((di c l).map .str)]))) E s:=by
 have KH:=Hs l c
 have dy:=Nt c l
 have fin:∀(ps:List (Str×Tok)) (k:Nat),ps.map (·.1)=Txt.split (mk l) (mk [c])→
   aI U w J aE Z s (.ok (.ref O.length) (O++[.list ((di c l).map .str)])) (.ref s.heap.objs.size) {s with heap:=s.heap.push {cls:= .type "list",data:= .seq (strValues ps).toArray},toks:=k}:=by
  intro ps k e
  rw [KH] at e
  refine CU S (Hg (e▸HS ps) rfl λp hp=>?_) ?_ k 0
  ·have:=dy.2 p hp;omega
  ·rw [List.length_map];omega
 have tV:(mk l).length=l.length:=str_len l
 have hy:((mk [c]).length==0)=false:=rfl
 cases h1:(decide ((mk l).length<(mk [c]).length)||decide (Builtin.Str.strKind (mk l)<Builtin.Str.strKind (mk [c])))
 ·cases hf:(Builtin.Str.occurrences (mk l) (mk [c]) 0 (mk l).length ((mk l).length+1)).isEmpty
  ·have e:Txt.split (mk l) (mk [c])=Builtin.Str.partsBetween (mk l) (Builtin.Str.occurrences (mk l) (mk [c]) 0 (mk l).length ((mk l).length+1)) (mk [c]).length:=
        (if_neg (by rw [h1];exact Bool.false_ne_true)).trans (if_neg (by rw [hf];exact Bool.false_ne_true))
   refine call_meets PySem.F.slot_str_split (typeIs_str _ _ _) PySem.F.entry_str_split (PySem.F.args_str_split_2 _ _) (meets_str_split_sep (mk l) (mk [c]) t u h1 hy hf (by rw [tV, ←gW];omega) ?_) ?_
   ·rw [←e,KH,List.length_map, ←gW];omega
   ·have:=fin (numbered s.toks (Txt.split (mk l) (mk [c]))) (s.toks+(Txt.split (mk l) (mk [c])).length) (numbered_texts _ _)
    rw [e, ←strsFrom_eq] at this
    exact this
  ·refine call_meets PySem.F.slot_str_split (typeIs_str _ _ _) PySem.F.entry_str_split (PySem.F.args_str_split_2 _ _) (meets_str_split_not_found (mk l) (mk [c]) t u h1 hy hf) ?_
   exact fin [(mk l,t)] s.toks ((if_neg (by rw [h1];exact Bool.false_ne_true)).trans (if_pos hf)).symm
 ·refine call_meets PySem.F.slot_str_split (typeIs_str _ _ _) PySem.F.entry_str_split (PySem.F.args_str_split_2 _ _) (meets_str_split_cannot_occur (mk l) (mk [c]) t u h1) ?_
  exact fin [(mk l,t)] s.toks (if_pos h1).symm
theorem Jo {xs:List V} {l:List (List Nat)}:∀{h:Heap} {ws:List Value},hS xs=some l→aD J h Z xs ws→StrsAre ws (l.map mk):=λe r=>rh e r
theorem KX {x:List Nat}:∀{l:List (List Nat)} {i:Nat},gR x l=some i→l[i]?=some x∧∀j,j<i→∃y,l[j]?=some y∧y≠x
 |[],_,h=>by cases h
 |y::r,i,h=>by
  unfold gR at h
  split at h
  ·rename_i e
   cases h
   exact ⟨by rw [e];rfl,λj hj=>absurd hj (Nat.not_lt_zero _)⟩
  ·rename_i e
   obtain ⟨k,hk,rfl⟩:=Option.map_eq_some_iff.mp h
   obtain ⟨h1,h2⟩:=KX hk
   refine ⟨h1,λj hj=>?_⟩
   cases j with
   |zero=>exact ⟨y,rfl,e⟩
   |succ j=>exact h2 j (by omega)
theorem OQ {ws:List Value} {ys:List Str} (h:StrsAre ws ys):∀{j:Nat} {y:Str},ys[j]?=some y→∃t,ws[j]?=some (.str y t):=by
 induction h with
 |nil=>intro j y e;cases e
 |cons n u r ih=>
  intro j y e
  cases j with
  |zero=>cases e;exact ⟨u,rfl⟩
  |succ j=>exact ih e
theorem WN (S:St U w J fl Z O s) {n:Nat} {p:Addr×Addr} {us:List V} {u:V} {a:Value} (hp:Z[n]?=some p) (hs:O[n]?=some (.list us)) (L:qa J s.heap Z p.1 us) (ru:RV J s.heap Z u a) (hz:us.length<aq):
  wpAny (model U w) A (call (.builtin "list.append") [.ref p.1,a]) (aI U w J aE Z s (.ok .none (O.set n (.list (us++[u]))))) E s:=by
 obtain ⟨fT,hl,ri,bO,sM⟩:=L
 refine wpAny_list_append_plain hl (λh' vw ba=>?_) (by rw [bO, ←gW];exact Nat.le_of_lt hz)
 refine Left.post (xJ (ws:=fT) S hp hs ba vw ?_ (by rw [List.length_append,List.length_singleton];exact hz) s.toks) xY
 rw [Array.toList_push]
 exact aD.append ri (aD.one ru)
theorem Sl {xs:List V} (h:xs.length≤aq):xs.dropLast.length≤aq:=by rw [List.length_dropLast];exact adk (Nat.sub_le ..) h
theorem abh {fT:Array Value} {k:Nat} (hk:fT.size=k+1):(fT.eraseIdxIfInBounds (fT.size-1)).toList=fT.toList.take k:=by
 have aK:fT.size-1<fT.size:=by rw [hk];exact adu _
 unfold Array.eraseIdxIfInBounds
 rw [dif_pos aK,Array.toList_eraseIdx,List.eraseIdx_eq_take_drop_succ,List.drop_of_length_le (by rw [Array.length_toList,hk];exact adq _),List.append_nil,hk];rfl
theorem WY (S:St U w J fl Z O s) {n:Nat} {p:Addr×Addr} {us:List V} {out:Out V} (hp:Z[n]?=some p) (hs:O[n]?=some (.list us)) (L:qa J s.heap Z p.1 us) (h:tJ O n us=out) (hn:out≠ .stuck):
  wpAny (model U w) A (call (.builtin "list.pop") [.ref p.1]) (aI U w J aE Z s out) E s:=by
 unfold tJ at h
 cases hu:us.getLast? with
 |none=>rw [hu] at h;exact absurd h.symm hn
 |some u=>
  rw [hu] at h
  subst h
  obtain ⟨fT,⟨e,he⟩,ri,bO,sM⟩:=L
  rw [List.getLast?_eq_getElem?] at hu
  obtain ⟨y,hy,ry⟩:=aD.get ri hu
  obtain ⟨k,hk⟩:∃k,us.length=k+1:=⟨us.length-1,(Nat.succ_pred_eq_of_pos (adm (ads _) (List.getElem?_eq_some_iff.mp hu).1)).symm⟩
  have T:s.TypeIs (.ref p.1) "list":=⟨_,he,rfl⟩
  refine call_meets PySem.F.slot_list_pop T PySem.F.entry_list_pop (PySem.F.args_list_pop_1 _) (MeetsSeq.list_pop_last p.1 fT e y (by rw [bO];simpa using hy) (by rw [bO, ←gW];exact sM)) ⟨he,?_⟩
  have O2:=PySem.IsL.update he (λxs=>xs.eraseIdxIfInBounds (fT.size-1))
  have L:=xJ (us:=us.dropLast) (ws:=fT) S hp hs (Heap.SameBut.update ..) ⟨_,O2⟩ (by rw [abh (bO.trans hk),List.dropLast_eq_take,hk];exact aD.take ri _) (Sl sM) s.toks
  exact uC (Left.post L (RV.mono (L.1.fp S) ry))
theorem WK (hb:(J.get? sysModules).isSome) (S:St U w J fl Z O s) {n:Nat} {p:Addr×Addr} {es:List (List Nat×V)} {k:List Nat} {t:Tok} {d:V} {b:Value} (hp:Z[n]?=some p) (hs:O[n]?=some (.dict es)) (D:yd U w J s.heap Z p.1 es) (TU:RV J s.heap Z d b):
  wpAny (model U w) A (call (.builtin "dict.pop") [.ref p.1,.str ⟨k.toArray⟩ t,b]) (aI U w J aE Z s (sJ O n es k d)) E s:=by
 obtain ⟨cL,hd,rd,hz⟩:=D
 have g:=xr k rd
 unfold sJ
 cases hq:dictGet es k with
 |some q=>
  rw [hq] at g
  obtain ⟨y,e,ry⟩:=g
  refine call_meetsIn PySem.F.slot_dict_pop hd.typeIs PySem.F.entry_dict_pop (PySem.F.args_dict_pop_3 _ _ _) (meets_dict_pop_there (PySem.strKind U w) p.1 (strKind_is U w _ t) [b] (.inr ⟨b,rfl⟩) rfl) ⟨cL,y,hd,yI rd▸Bt hz,e,λh' bQ ba=>?_⟩
  have L:=CH S hp hs ba bQ (AK rd (BW hd)) (adk (El k es) hz) (s.toks+1)
  exact uC (Left.post L (RV.mono (L.1.fp S) ry))
 |none=>
  rw [hq] at g
  exact call_meetsIn PySem.F.slot_dict_pop hd.typeIs PySem.F.entry_dict_pop (PySem.F.args_dict_pop_3 _ _ _) (meets_dict_pop_default (PySem.strKind U w) p.1 (strKind_is U w _ t) (Ey hb S.sr hp) rfl b) ⟨cL,hd,g,uC (aI.same S.sr TU _)⟩
theorem Z6 (S:SR U w J s.heap Z O) {p:Addr×Addr} {us:List V} {x:List Nat} {t:Tok} {l:List (List Nat)} {i:Nat} (L:qa J s.heap Z p.1 us) (hl:hS us=some l) (hi:gR x l=some i):
  wpAny (model U w) A (call (.builtin "list.index") [.ref p.1,.str ⟨x.toArray⟩ t]) (aI U w J aE Z s (.ok (.int i) O)) E s:=by
 obtain ⟨fT,⟨e,he⟩,ri,bO,sM⟩:=L
 have sa:StrsAre fT.toList (l.map mk):=Jo hl ri
 obtain ⟨h1,h2⟩:=KX hi
 have T:s.TypeIs (.ref p.1) "list":=⟨_,he,rfl⟩
 have at':∀{j:Nat} {y:List Nat},l[j]?=some y→∃(t:Tok) (h:j<fT.size),fT[j]= .str (mk y) t:=λ{j y} q=>by
  obtain ⟨t1,g1⟩:=OQ sa (j:=j) (y:=mk y) (by rw [List.getElem?_map,q];rfl)
  rw [Array.getElem?_toList] at g1
  obtain ⟨aK,Cr⟩:=Array.getElem?_eq_some_iff.mp g1
  exact ⟨t1,aK,Cr⟩
 obtain ⟨t1,aK,Cr⟩:=at' h1
 refine call_meets PySem.F.slot_list_index T PySem.F.entry_list_index (PySem.F.args_list_index_2 _ _) (MeetsSeq.list_index p.1 fT e (.str (mk x) t) (isStrOf (mk x)) (λy hy=>eq_isStrOf (mk x) t sa y (by simpa using hy)) i aK
    (by unfold aq at sM;omega) (by rw [Cr];simp [isStrOf]) λj hj V1=>?_) ⟨he,uC (aI.same S (eY _ _) _)⟩
 obtain ⟨y,q1,q2⟩:=h2 j V1
 obtain ⟨t2,_,Xw⟩:=at' q1
 rw [Xw]
 simp only [isStrOf,beq_eq_false_iff_ne]
 exact λe=>q2 (vH e)
theorem abf (S:SR U w J s.heap Z O) {p:Addr×Addr} {us:List V} {sep:List Nat} {t:Tok} {l:List (List Nat)} (L:qa J s.heap Z p.1 us) (hl:hS us=some l) (hz:(cv sep l).length+sep.length≤aq):
  wpAny (model U w) A (call (.builtin "str.join") [.str ⟨sep.toArray⟩ t,.ref p.1]) (aI U w J aE Z s (.ok (.str (cv sep l)) O)) E s:=by
 obtain ⟨fT,mX,ri,bO,sM⟩:=L
 have sa:StrsAre fT.toList (l.map mk):=Jo hl ri
 refine join_list mX.isList sa ?_ λt' k=>?_
 ·rw [show ((l.map mk).map (·.length)).sum=(l.map (·.length)).sum by rw [List.map_map];rfl,List.length_map,str_len]
  exact adk (F0 sep l) hz
 ·rw [show Txt.join (⟨sep.toArray⟩:Str) (l.map mk)=⟨(cv sep l).toArray⟩ from OV sep l]
  exact aI.same S (iH _ (adk (adn ..) hz)) _
theorem Wa (hb:(J.get? sysModules).isSome) (S:St U w J fl Z O s) {x:V} {v:Value} {vs:List V} {ws:List Value} {m:Bm} {out:Out V} (r:RV J s.heap Z x v) (rs:aD J s.heap Z vs ws) (h:fM m O x vs=out) (hn:out≠ .stuck):
  wpAny (model U w) A (call (.builtin m.id) (v::ws)) (aI U w J aE Z s out) E s:=by
 cases m with
 |append=>exact gf h hn r λn p hp h=>lr h hn rs λu a ru h=>iC S.sr hp h hn λus hs L h=>dc h hn λhz h=>h▸WN S hp hs L ru hz
 |pop=>exact gf h hn r λn p hp h=>yt h hn rs λh=>iC S.sr hp h hn λus hs L h=>WY S hp hs L h hn
 |mW=>exact gf h hn r λn p hp h=>Al h hn rs λk d a b rk rd h=>ej h hn rk λk t hk h=>rO S.sr hp h hn λes hs D h=>h▸WK hb S hp hs D rd
 |index=>exact gf h hn r λn p hp h=>lr h hn rs λu a ru h=>ej h hn ru λk t hk h=>iC S.sr hp h hn λus hs L h=>fk h hn λl hl h=>fk h hn λi hi h=>h▸Z6 S.sr L hl hi
 |join=>exact ej h hn r λsep t _ h=>lr h hn rs λu a ru h=>gf h hn ru λn p hp h=>iC S.sr hp h hn λus hs L h=>fk h hn λl hl h=>dc h hn λhz h=>h▸abf S.sr L hl hz
 |strip=>
  refine ej h hn r λl t hl h=>yt h hn rs λh=>dc h hn λha h=>h▸?_
  refine SC.strip (λt' k=>?_) (by rw [str_len, ←gW];exact hl)
  rw [show Txt.strip (⟨l.toArray⟩:Str)=mk (cZ l) from Xh _ ha]
  exact aI.same S.sr (iH _ (adk (OK _) hl)) _
 |count=>
  refine ej h hn r λl t hl h=>lr h hn rs λu a ru h=>ej h hn ru λx t' _ h=>zb h hn λc h=>h▸?_
  refine SC.count ?_
  rw [show Txt.count (⟨l.toArray⟩:Str) ⟨[c].toArray⟩=((l.count c:Nat):Int) from YL l c]
  exact aI.same S.sr (eY _ _) _
 |split=>exact ej h hn r λl t hl h=>lr h hn rs λu a ru h=>ej h hn ru λx t' _ h=>zb h hn λc h=>dc h hn λhz h=>h▸Oc S hz
end
noncomputable def GL (U:Program) (w:World) (J:Heap) (gl bl:Addr) (x:Str) (v:Value):Prop:=
 ∀(aa:Env) (s:Shared) (A:Around) (Q:Value→Shared→Prop) (E:Value→Shared→Prop),aa.globals=gl→aa.builtins=bl→J.StaysIn s.heap→Q v s→wpAny (model U w) A (loadGlobal aa x) Q E s
structure IG (U:Program) (w:World) (J:Heap) (gl bl:Addr):Prop where
 fn:∀f x,gG lm f x=true→GL U w J gl bl x (.ref (bS f))
 cls:∀c,GL U w J gl bl (Str.ofString (th c)) (.ref (cD c))
 bi:∀b,GL U w J gl bl (Str.ofString (o8 b)) (BE b)
 Ia:GL U w J gl bl (Str.ofString "range") (.type "range")
 jS:∀k x,gG DL k x=true→∃t,GL U w J gl bl x (.int (uW k) t)
 err:GL U w J gl bl (Str.ofString "SourceError") (.ref bA)
structure cz (U:Program) (w:World) (J:Heap) (gl bl:Addr) (K:Frag):Prop where
 ll:K.In J
 kf:KF K
 sys:(J.get? sysModules).isSome
 lim:J.NoLimit
 g:IG U w J gl bl
structure bJ (gl bl:Addr) (aa:Env):Prop where
 kind:aa.scope.kind= .function
 glob:aa.globals=gl
 Lk:aa.builtins=bl
 cells:∀n,aa.kindOf n=some .cell→(aa.cells.lookup n).isSome=true
structure bI (n k:Nat) (fl:List Env) (A:Around):Prop where
 hand:A.handled=none
 frames:A.frames=some fl
 depth:A.depth+12*n+k+10≤recursionLimit
 units:A.units+40*n+k+200≤cLine
noncomputable def qe (J h:Heap) (Z:aH) (aa:Env) (nm:List Str) (L:Locals):Prop:=
 ∃m,h.Ns aa.locals m∧∀i v,L.get i=some v→∃n x,nm[i]?=some n∧RV J h Z v x∧
    ((aa.kindOf n=some .local∧m n=some x)∨(aa.kindOf n=some .cell∧∃c,aa.cells.lookup n=some c∧h.IsCell c (some x)))
structure aR (U:Program) (w:World) (J:Heap) (fl:List Env) (aa:Env) (nm:List Str) (Z:aH) (O:ag) (L:Locals) (s:Shared):Prop where
 st:St U w J fl Z O s
 loc:qe J s.heap Z aa nm L
 jQ:¬bM Z aa.locals
 oq:J.get? aa.locals=none
section
variable {U:Program} {w:World} {J:Heap} {gl bl:Addr} {K:Frag} {fl:List Env} {Z ai:aH} {O af:ag} {s s':Shared} {A:Around} {E:Value→Shared→Prop} {aa:Env} {nm:List Str} {L:Locals}
theorem qe.mono {h h':Heap} (l:qe J h Z aa nm L) (v:VK J Z h ai h') (k:∀b o,h.get? b=some o→(∀vs n,o.data≠ .seq vs n)→(b=aa.locals∨∃x,o.data= .cell x)→h'.get? b=some o):qe J h' ai aa nm L:=by
 obtain ⟨m,hm,hl⟩:=l
 refine ⟨m,hm.at λo e=>?_,λi v' e=>?_⟩
 ·obtain ⟨o',es,ep,d8,hd,_⟩:=hm
  rw [e] at d8;cases d8
  exact k _ _ e (λvs n q=>by rw [hd] at q;cases q) (.inl rfl)
 ·obtain ⟨n,x,hn,rv,hx⟩:=hl i v' e
  refine ⟨n,x,hn,RV.mono v rv,?_⟩
  rcases hx with hx |⟨h1,c,h2,h3⟩
  ·exact .inl hx
  ·obtain ⟨o,ho,hd⟩:=h3
   exact .inr ⟨h1,c,h2,o,k _ _ ho (λvs n q=>by rw [hd] at q;cases q) (.inr ⟨_,hd⟩),hd⟩
theorem aR.ext (H:aR U w J fl aa nm Z O L s) (X:aj aE Z s ai s') (R:SR U w J s'.heap ai af) (ht:s.toks≤s'.toks):aR U w J fl aa nm ai af L s':=by
 refine ⟨H.st.ext X R ht,H.loc.mono (X.fp H.st) λb o e _ hb=>X.keep b o e (λq=>?_) λx=>x,λq=>?_,H.oq⟩
 ·rcases hb with rfl |⟨x,hd⟩
  ·exact H.jQ q
  ·exact H.st.sr.Ec e hd q
 ·obtain ⟨m,hm,_⟩:=H.loc
  obtain ⟨o,_,_,ho,_⟩:=hm
  exact H.jQ (g5 X (by rw [ho];rfl) q)
theorem AG {α β:Type} {o:Out α} {f:α→ag→Out β} {out:Out β} (h:o.bind f=out) (hn:out≠ .stuck):(∃v O,o= .ok v O∧f v O=out)∨∃e O,o= .exc e O∧out= .exc e O:=by
 cases o with
 |stuck=>exact absurd h.symm hn
 |ok v O=>exact .inl ⟨v,O,rfl,h⟩
 |exc e O=>exact .inr ⟨e,O,rfl,h.symm⟩
theorem go {α β γ:Type} {F:Addr→Prop} {aP:aH} {s0:Shared} (X:aj aE aP s0 Z s) {o:Out α} {f:α→ag→Out β} {out:Out β} {t:Sem γ} {P:Out α→γ→Shared→Prop} {Q:γ→Shared→Prop} (h:o.bind f=out) (hn:out≠ .stuck)
    (ih:o≠ .stuck→wpAny (model U w) A t (P o) (bh U w J F Z s o) s) (hP:∀e O r s',P (.exc e O) r s'→False)
    (k:∀v O,o= .ok v O→f v O=out→∀r s',P (.ok v O) r s'→s.toks≤s'.toks→Q r s'):wpAny (model U w) A t Q (bh U w J F aP s0 out) s:=by
 rcases AG h hn with ⟨v,O,e1,e2⟩ |⟨e,O,e1,e2⟩
 ·subst e1
  exact mP (ih (by simp)) (λr s' p ht=>k v O rfl e2 r s' p ht) λ_ _ x=>x.elim
 ·subst e1
  refine mP (ih (by simp)) (λr s' p _=>(hP _ _ _ _ p).elim) λv s' x=>?_
  rw [e2]
  exact bh.after X x λ_ _ q=>by cases q;rfl
theorem ach {X:Addr→Prop} {e:aX} {v:Value}:aI U w J X Z s (.exc e O) v s'→False:=λx=>x
theorem acM {e:aX} {v:List Value}:DB U w J Z s (.exc e O) v s'→False:=λx=>x
theorem fin {aP:aH} {s0:Shared} (X:aj aE aP s0 Z s) {t:Sem Value} {out:Out V} (h:wpAny (model U w) A t (aI U w J aE Z s out) E s):wpAny (model U w) A t (aI U w J aE aP s0 out) E s:=
 wpAny_mono h (λ_ _ p=>aI.after X p) λ_ _ x=>x
theorem acS {α:Type} {o:Option α} {out:Out α} (h:gj o O=out) (hn:out≠ .stuck):∃v,o=some v∧out= .ok v O:=by
 cases o with
 |none=>exact absurd h.symm hn
 |some v=>exact ⟨v,rfl,h.symm⟩
theorem D5 (eo:bJ gl bl aa) (H:aR U w J fl aa nm Z O L s) {i:Nat} {x:Str} {v:V} (hi:iG aa.scope nm i x=true) (hv:L.get i=some v):
  wpAny (model U w) A (loadName aa x) (aI U w J aE Z s (.ok v O)) E s:=by
 obtain ⟨m,hm,hl⟩:=H.loc
 obtain ⟨n,y,hn,rv,hx⟩:=hl i v hv
 unfold iG at hi
 simp only [Bool.and_eq_true,beq_iff_eq] at hi
 rw [hi.1.1] at hn
 cases hn
 rcases hx with ⟨h1,h2⟩ |⟨h1,c,h2,h3⟩
 ·exact wpAny_loadName_local eo.kind h1 hm h2 (aI.here H.st.sr rv)
 ·exact wpAny_loadName_cell eo.kind h1 h2 h3 (aI.here H.st.sr rv)
theorem o6 (eo:bJ gl bl aa) (H:aR U w J fl aa nm Z O L s) {x:Str} {v:Value} {pos:Pos} {Q:Value→Shared→Prop} (g:GL U w J gl bl x v) (hx:d6 aa.scope x=true) (h:Q v s):wpAny (model U w) A (eval (.Name x pos) aa) Q E s:=by
 unfold d6 at hx
 simp only [Bool.and_eq_true,beq_iff_eq,bne_iff_ne,ne_eq] at hx
 refine wpAny_Name ?_ (beq_eq_false_iff_ne.mpr hx.2)
 rw [loadName_read eo.kind hx.1]
 exact g aa s A Q E eo.glob eo.Lk H.st.stays h
end
noncomputable def Nk (U:Program) (w:World) (J:Heap) (F:Addr→Prop) (Z:aH) (s:Shared) (out:Out V) (r:Result) (s':Shared):Prop:=match r with
 | .ok (.ret v)=>aI U w J aE Z s out v s'
 | .ok _=>False
 | .error e=>bh U w J F Z s out e s'
noncomputable def js (U:Program) (w:World) (J:Heap) (n:Nat) (C:Calls):Prop:=∀f vs O out,C f vs O=out→out≠ .stuck→∀fl A Z s ws,bI n 0 fl A→St U w J fl Z O s→aD J s.heap Z vs ws→
 codeAny (model U w) A (.call (.ref (bS f)) ⟨ws,[]⟩) (Nk U w J (· ∈bb fl) Z s out) s
theorem js.call {U:Program} {w:World} {J:Heap} {n:Nat} {C:Calls} (CO:js U w J n C) {f:Nat} {vs:List V} {O:ag} {out:Out V} (h:C f vs O=out) (hn:out≠ .stuck) {fl:List Env} {A:Around} {Z:aH} {s:Shared} {ws:List Value} (R:bI n 0 fl A)
    (S:St U w J fl Z O s) (r:aD J s.heap Z vs ws):wpAny (model U w) A (call (.ref (bS f)) ws []) (aI U w J aE Z s out) (bh U w J (· ∈bb fl) Z s out) s:=
 wpAny_call (CO f vs O out h hn fl A Z s ws R S r)
noncomputable def gx (U:Program) (w:World) (J:Heap) (gl bl:Addr) (fl:List Env) (A:Around) (C:Calls) (fu:Nat) (e:E):Prop:=
 ∀{aa:Env} {nm:List Str} {x:PySem.Expr} {L:Locals} {O:ag} {out:Out V} {Z:aH} {s:Shared},aF aa.scope nm e x=true→bJ gl bl aa→aR U w J fl aa nm Z O L s→ev C fu e L O=out→out≠ .stuck→
  wpAny (model U w) A (eval x aa) (aI U w J aE Z s out) (bh U w J (· ∈bb fl) Z s out) s
noncomputable def sz (U:Program) (w:World) (J:Heap) (gl bl:Addr) (fl:List Env) (A:Around) (C:Calls) (fu:Nat) (e:E):Prop:=
 ∀{aa:Env} {nm:List Str} {x:PySem.Expr} {L:Locals} {O:ag} {out:Out V} {Z:aH} {s:Shared},aF aa.scope nm e x=true→bJ gl bl aa→aR U w J fl aa nm Z O L s→ev C fu e L O=out→out≠ .stuck→(∀v af,out= .ok v af→∃b,v= .bool b)→
  wpAny (model U w) A (isTrue x aa (eval x aa)) (λb s'=>aI U w J aE Z s out (.bool b) s') (bh U w J (· ∈bb fl) Z s out) s
noncomputable def qK (U:Program) (w:World) (J:Heap) (gl bl:Addr) (fl:List Env) (A:Around) (C:Calls) (fu:Nat) (es:Es):Prop:=
 ∀{aa:Env} {nm:List Str} {xs:List PySem.Expr} {pos:Pos} {L:Locals} {O:ag} {out:Out (List V)} {Z:aH} {s:Shared},cC aa.scope nm es xs=true→bJ gl bl aa→aR U w J fl aa nm Z O L s→bw C fu es L O=out→out≠ .stuck→
  wpAny (model U w) A (spliced (backTo pos (starEach xs aa))) (DB U w J Z s out) (bh U w J (· ∈bb fl) Z s out) s
noncomputable def uN (U:Program) (w:World) (J:Heap) (gl bl:Addr) (fl:List Env) (A:Around) (C:Calls) (fu:Nat) (op:BoolOp) (f:Es→Locals→ag→Out V) (es:Es):Prop:=
 ∀{aa:Env} {nm:List Str} {xs:List PySem.Expr} {pos:Pos} {L:Locals} {O:ag} {out:Out V} {Z:aH} {s:Shared},cC aa.scope nm es xs=true→bJ gl bl aa→aR U w J fl aa nm Z O L s→f es L O=out→out≠ .stuck→
  wpAny (model U w) A (boolOp pos op (evalEach xs aa)) (aI U w J aE Z s out) (bh U w J (· ∈bb fl) Z s out) s∧
  wpAny (model U w) A (allTrue op xs aa) (λb s'=>aI U w J aE Z s out (.bool b) s') (bh U w J (· ∈bb fl) Z s out) s
section
variable {U:Program} {w:World} {J:Heap} {gl bl:Addr} {K:Frag} {fl:List Env} {Z ai:aH} {O af:ag} {s s':Shared} {A:Around} {E0:Value→Shared→Prop} {aa:Env} {nm:List Str} {L:Locals}
variable {C:Calls} {n fu:Nat}
theorem bI.weaken {n k n' k':Nat} (h:bI n k fl A) (a:n'≤n) (b:k'≤k):bI n' k' fl A:=
 ⟨h.hand,h.frames,adk (Nat.add_le_add_right (Nat.add_le_add (Nat.add_le_add_left (Nat.mul_le_mul_left 12 a) _) b) 10) h.depth,adk (Nat.add_le_add_right (Nat.add_le_add (Nat.add_le_add_left (Nat.mul_le_mul_left 40 a) _) b) 200) h.units⟩
theorem C3 {sc:Scope} {x:PySem.Expr}:∀{e:E},aF sc nm e x=true→dJ x=true
 | .none,h=>Ad (P:=λx=>dJ x=true) h λ_ _=>rfl
 | .bool _,h=>Ce (P:=λx=>dJ x=true) h λ_ _=>rfl
 | .int _,h=>zH (P:=λx=>dJ x=true) h λ_ _=>rfl
 | .str _,h=>zu (P:=λx=>dJ x=true) h λ_ _ _=>rfl
 | .loc _,h=>z8 (P:=λx=>dJ x=true) h λ_ _ _=>rfl
 | .jS _,h=>DK (P:=λx=>dJ x=true) h λ_ _ _ _=>rfl
 | .bin _ _ _,h=>C2 (P:=λx=>dJ x=true) h λ_ _ _ _ _=>rfl
 | .cmp _ _ _,h=>yY (P:=λx=>dJ x=true) h λ_ _ _ _ _ _=>rfl
 | .and _,h=>CP (P:=λx=>dJ x=true) h λ_ _ _=>rfl
 | .or _,h=>AQ (P:=λx=>dJ x=true) h λ_ _ _=>rfl
 | .not _,h=>zv (P:=λx=>dJ x=true) h λ_ _ _=>rfl
 | .neg _,h=>zl (P:=λx=>dJ x=true) h λ_ _ _=>rfl
 | .ite _ _ _,h=>zh (P:=λx=>dJ x=true) h λ_ _ _ _ _ _ _=>rfl
 | .tup _,h=>zG (P:=λx=>dJ x=true) h λ_ _ _ _ _=>rfl
 | .list _,h=>CR (P:=λx=>dJ x=true) h λ_ _ _ _=>rfl
 | .dict _ _,h=>Af (P:=λx=>dJ x=true) h λ_ _ _ _ _ _ _=>rfl
 | .idx _ _,h=>Bg (P:=λx=>dJ x=true) h λ_ _ _ _ _ _=>rfl
 | .slice _ _ _ _ _,h=>DY (P:=λx=>dJ x=true) h λ_ _ _ _ _ _ _ _=>rfl
 | .attr _ _,h=>zr (P:=λx=>dJ x=true) h λ_ _ _ _ _ _=>rfl
 | .call _ _,h=>Ed (P:=λx=>dJ x=true) h λ_ _ _ _ _ _ _=>rfl
 | .own _ _ _,h=>Et (P:=λx=>dJ x=true) h λ_ _ _ _ _ _ _ _ _ _ _=>rfl
 | .bt _ _ _,h=>ze (P:=λx=>dJ x=true) h λ_ _ _ _ _ _ _ _ _=>rfl
 | .j4 _ _ _,h=>AD (P:=λx=>dJ x=true) h λ_ _ _ _ _ _ _ _ _ _ _=>rfl
 | .new _ _,h=>A7 (P:=λx=>dJ x=true) h λ_ _ _ _ _=>rfl
 | .bi _ _,h=>C5 (P:=λx=>dJ x=true) h λ_ _ _ _ _=>rfl
 | .comp _ _ _,h=>wO (P:=λx=>dJ x=true) h λ_ _ _ _ _ _ _ _ _=>rfl
 | .jw _ _ _,h=>xm (P:=λx=>dJ x=true) h λ_ _ _ _ _ _ _ _ _ _ _ _=>rfl
theorem Jn {aa:Env} {y:Value}:∀{x:PySem.Expr},dJ x=true→foldedSetIterable x aa y=pure y:=by
 intro x
 cases x<;>first |exact λ_=>rfl |exact λh=>absurd h Bool.false_ne_true
theorem NR:∀{x:PySem.Expr},dJ x=true→∀(ac:List PySem.Expr) (aa:Env),starEach (x::ac) aa=(false,eval x aa)::starEach ac aa:=by
 intro x
 cases x<;>first |exact λ_ _ _=>rfl |exact λh=>absurd h Bool.false_ne_true
theorem te {sc:Scope} {e:E} {x:PySem.Expr} (h:aF sc nm e x=true) (ac:List PySem.Expr) (aa:Env):starEach (x::ac) aa=(false,eval x aa)::starEach ac aa:=NR (C3 h) ac aa
theorem sO {sc:Scope}:∀{es:Es} {xs:List PySem.Expr},cC sc nm es xs=true→∀aa pos,(backTo pos (starEach xs aa)).any (·.1)=false
 | .nil,xs,h,aa,pos=>by rw [rF h];rfl
 | .cons e es,xs,h,aa,pos=>pz (Ps:=λxs=>(backTo pos (starEach xs aa)).any (·.1)=false) h λy ys h1 h2=>by
  rw [te h1]
  exact sO h2 aa pos
theorem TC {f:Nat} {x:Str} (h:gG lm f x=true):f<39:=by
 unfold gG at h
 cases hs:lm[f]? with
 |none=>rw [hs] at h;cases h
 |some s=>exact (List.getElem?_eq_some_iff.mp hs).1
theorem acr (H:aR U w J fl aa nm Z O L s) {x:V} {v:Value} {k:Nat} (r:RV J s.heap Z x v):aI U w J aE Z s (.ok x O) v {s with toks:=k}:=aI.same H.st.sr r k
theorem ac1 {aP:aH} {s0:Shared} (X:aj aE aP s0 Z s) (S:St U w J fl Z O s) {α:Type} {x:V} {v:Value} (r:RV J s0.heap aP x v) (S0:St U w J fl aP af s0):RV J s.heap Z x v:=RV.mono (X.fp S0) r
theorem QO {x:List Nat} {t:Tok} {l u:Option (Int×Tok)} {lo hi:Option Nat} {Q:Value→Shared→Prop} (hl:x.length≤aq) (h1:l.map (·.1)=lo.map λ(k:Nat)=>(k:Int)) (h2:u.map (·.1)=hi.map λ(k:Nat)=>(k:Int))
    (h:∀t' k,Q (.str ⟨(kD x lo hi).toArray⟩ t') {s with toks:=k}):(sliceMade ⟨x.toArray⟩ t l u none).post Q s:=by
 have e:=Wb x lo hi
 rw [←h1, ←h2] at e
 unfold Txt.slice at e
 unfold sliceMade slicePicked
 split
 ·rename_i hc
  have e:=(if_pos hc).symm.trans e
  have:=h t s.toks
  rw [←e] at this
  exact this
 ·rename_i hc
  have e:=(if_neg hc).symm.trans e
  have dy:(kD x lo hi).length≤x.length:=by
   unfold kD
   cases hi<;>cases lo<;>simp<;>omega
  have e':(⟨(Builtin.Str.strSliceIndices (l.map (·.1)) (u.map (·.1)) ((Option.map (·.1) (none:Option (Int×Tok))).getD 1) (⟨x.toArray⟩:Str).length).filterMap ((⟨x.toArray⟩:Str).cps[·]?) |>.toArray⟩:Str)=⟨(kD x lo hi).toArray⟩:=e
  refine ⟨?_,?_⟩
  ·rw [e',str_len, ←gW];omega
  ·rw [e']
   exact h _ _
theorem LA {name:Str}:∀{x:PySem.Expr},j1 x=true→attributeBase x name aa (eval x aa)=eval x aa:=by
 intro x
 cases x with
 |Call f a k p=>cases f<;>first |exact λ_=>rfl |exact λh=>absurd h Bool.false_ne_true
 |_=>exact λ_=>rfl
theorem Az {o:PySem.Expr} {name:Str} {DN pos:Pos} {args:List PySem.Expr} {Q:Value→Shared→Prop} (hb:j1 o=true) (ma:(backTo pos (starEach args aa)).any (·.1)=false) (dy:args.length+1<30) (Zf:(DN.endLine==pos.line)=true)
    (h:wpAny (model U w) A (eval o aa) (λov bN=>wpAny (model U w) A (getMethod ov name (do return (←importBound o aa).getD true)) (λp lH=>wpAny (model U w) A (callWith pos p.1 p.2 (backTo pos (starEach args aa)) []) Q E0 lH) E0 bN) E0 s):
  wpAny (model U w) A (eval (.Call (.Attribute o name DN) args [] pos) aa) Q E0 s:=by
 rw [arm_eval_Call,LA hb]
 refine wpAny_bind (wpAny_mono h (λov bN fG=>?_) λ_ _ e=>e)
 refine wpAny_bind (wpAny_standAt ?_)
 have ji:∀l:List (Bool×Sem Value),l.any (·.1)=false→l.all (λx=> !x.1)=true:=λl hl=>by
  rw [List.all_eq_true]
  intro y hy
  have:=List.any_eq_false.mp hl y hy
  simpa using this
 have Pa:methodCallForm (args.length+([]:List Keyword).length) (backTo pos (starEach args aa)) (backToKw pos (keywordEach [] aa))=true:=by
  unfold methodCallForm
  rw [ji _ ma]
  simp only [backToKw,keywordEach,List.map_nil,List.all_nil,Bool.true_and,decide_eq_true_eq,List.length_nil,List.isEmpty_nil,if_true]
  omega
 have YY:methodCallPos true o aa DN pos=pure pos:=by unfold methodCallPos;simp [Zf]
 unfold methodCall
 rw [Pa]
 refine wpAny_bind (wpAny_holding ?_)
 show wpAny _ _ (getMethod ov name _) _ _ _
 exact wpAny_mono fG (λp lH nE=>wpAny_bind (wpAny_of_eq YY nE)) λ_ _ e=>e
end
section
variable {U:Program} {w:World} {J:Heap} {gl bl:Addr} {K:Frag} {fl:List Env} {Z ai ao:aH} {O af ae:ag} {s s' s1:Shared} {A:Around} {E0:Value→Shared→Prop} {aa:Env} {nm:List Str} {L:Locals}
variable {C:Calls} {n fu:Nat}
structure tq (U:Program) (w:World) (J:Heap) (A:Around) (aP:aH) (I:Addr) (item:Nat→ag→Option (Option V)) (T:Nat→Heap→Prop):Prop where
 at':∀i h,T i h→∃o vs,h.get? I=some o∧o.data= .fields vs
 same:∀i h h',T i h→h'.get? I=h.get? I→T i h'
 wL:∀i v Z O s (Q:Option Value→Shared→Prop) E,aP<+:Z→T i s.heap→SR U w J s.heap Z O→item i O=some (some v)→
    (∀h' x k,T (i+1) h'→Heap.SameBut I s.heap h'→s.toks≤k→RV J s.heap Z v x→Q (some x) {s with heap:=h',toks:=k})→wpAny (model U w) A (pyNext (.ref I)) Q E s
 stop:∀i Z O s (Q:Option Value→Shared→Prop) E,aP<+:Z→T i s.heap→SR U w J s.heap Z O→item i O=some none→(∀h',Heap.ExtBut I s.heap h'→Q none {s with heap:=h'})→wpAny (model U w) A (pyNext (.ref I)) Q E s
 self:∀i s (Q:Value→Shared→Prop) E,T i s.heap→Q (.ref I) s→wpAny (model U w) A (pyIter (.ref I)) Q E s
theorem ON (hh:A.handled=none) {n:Nat} {p:Addr×Addr} {aP:aH} {I:Addr} (hp:aP[n]?=some p):tq U w J A aP I (kx n) (λi h=>h.IsListIter I p.1 i) where
 at':=λi h ⟨o,ho,_,hd⟩=>⟨o,_,ho,hd⟩
 same:=λi h h' ⟨o,ho,r⟩ e=>⟨o,e.trans ho,r⟩
 wL:=λi v Z O s Q E iz gr S hv hQ=>iC S (k8 iz hp) hv sn λus hs L e=>by
  obtain ⟨ws,hl,rs,bO,hz⟩:=L
  obtain ⟨x,hx,rx⟩:=aD.get rs (Option.some.inj e)
  exact wpAny_pyNext_list_item gr hl.isList (x:=x) (by simpa using hx) λh' hi ba=>hQ h' x s.toks hi ba (adq _) rx
 stop:=λi Z O s Q E iz gr S hv hQ=>iC S (k8 iz hp) hv sn λus hs L e=>by
  obtain ⟨ws,hl,rs,bO,hz⟩:=L
  exact wpAny_pyNext_list_end hh gr hl.isList (Array.getElem?_eq_none (bO▸List.getElem?_eq_none_iff.mp (Option.some.inj e))) hQ
 self:=λi s Q E gr h=>wpAny_pyIter_listiter gr h
theorem aaj (hh:A.handled=none) {k:Int} {aP:aH} {I:Addr}:tq U w J A aP I (gv k) (λi h=>IsRangeIter h I (i:Int) ((k.toNat:Int)-i) 1) where
 at':=λi h e=>⟨_,_,e,rfl⟩
 same:=λi h h' x e=>e.trans x
 wL:=λi v Z O s Q E iz gr S hv hQ=>by
  unfold gv at hv
  injection hv with hv
  split at hv
  ·rename_i aK
   injection hv with hv
   subst hv
   refine wpAny_pyNext_range_item gr (by omega) λh' hi ba=>hQ h' _ _ ?_ ba (Nat.le_succ _) (eY _ _)
   show IsRangeIter h' I ((i+1:Nat):Int) ((k.toNat:Int)-((i+1:Nat):Int)) 1
   rw [show ((i+1:Nat):Int)=(i:Int)+1 from by omega,show (k.toNat:Int)-((i:Int)+1)=(k.toNat:Int)-(i:Int)-1 from by omega]
   exact hi
  ·cases hv
 stop:=λi Z O s Q E iz gr S hv hQ=>by
  unfold gv at hv
  injection hv with hv
  split at hv
  ·cases hv
  ·exact wpAny_pyNext_range_end hh gr (by omega) hQ
 self:=λi s Q E gr h=>wpAny_pyIter_rangeiter gr h
structure NY (U:Program) (w:World) (J:Heap) (fl:List Env) (ao:aH) (s1:Shared) (ai:aH) (af:ag) (s':Shared) (h':Heap) (k:Nat):Prop where
 x:aj aE ao s1 ai {s' with heap:=h',toks:=k}
 st:St U w J fl ai af {s' with heap:=h',toks:=k}
 v:VK J ai s'.heap ai h'
theorem sL {a:Addr} (S1:St U w J fl ao ae s1) (X:aj aE ao s1 ai s') (S:St U w J fl ai af s') (ha:s1.heap.get? a=none) (nf:¬bM ai a) {h':Heap} (ba:∀b o,b≠a→s'.heap.get? b=some o→h'.get? b=some o)
    (wY:∀o,s'.heap.get? a=some o→(∃vs n,o.data= .seq vs n)→o.cls≠ .type "tuple") (k:Nat) (hk:s'.toks≤k):
  NY U w J fl ao s1 ai af s' h' k:=by
 have nb:J.get? a=none:=jE S1.stays ha
 have v:VK J ai s'.heap ai h':=by
  refine ⟨List.prefix_refl _,λb o e nf hq hc=>⟨o.slots,ba b o (λz=>?_) e⟩,λb o e=>ba b o (λz=>?_) (S.stays b o e),S.sr.off,S.sr.cells⟩
  ·subst z
   rcases hc with hc |hc
   ·exact wY o e hq hc
   ·rw [nb] at hc;cases hc
  ·subst z;rw [nb] at e;cases e
 have keep:∀b o,s1.heap.get? b=some o→¬bM ao b→h'.get? b=some o:=λb o e nf=>ba b o (λz=>by subst z;rw [ha] at e;cases e) (X.keep b o e nf λx=>x)
 refine ⟨⟨X.pre,λb o e nf _=>keep b o e nf,λb e=>?_,X.new,X.gens,X.drawn,X.os⟩,⟨S.sr.grow v λb o q e=>ba b o (λz=>nf (z▸q)) e,v.stays,?_,S.jM,adl S.tok hk⟩,v⟩
 ·obtain ⟨o,ho⟩:=Option.isSome_iff_exists.mp (X.live b e)
  show (h'.get? b).isSome
  rw [ba b o (λz=>by subst z;rw [ha] at e;cases e) ho];rfl
 ·refine nW S1.frames λb hb o ho hd=>⟨o,keep b o ho (S1.jM b hb),hd⟩
inductive rQ (U:Program) (w:World) (J:Heap) (A:Around) (fl:List Env) (aa:Env) (nm:List Str) (L:Locals) (Z:aH) (s:Shared) (item:Nat→ag→Option (Option V)) (ae:ag) (it:Value) (s2:Shared):Prop where
 |mk (I:Addr) (ao:aH) (s1:Shared) (T:Nat→Heap→Prop) (gr:it= .ref I) (X:aj aE Z s ao s1) (H:aR U w J fl aa nm ao ae L s1) (hI:s1.heap.get? I=none) (X2:aj aE ao s1 ao s2) (H2:aR U w J fl aa nm ao ae L s2)
      (fd:tq U w J A ao I item T) (hT:T 0 s2.heap):rQ U w J A fl aa nm L Z s item ae it s2
theorem Nd (R:bI n 10 fl A) (eo:bJ gl bl aa) (H:aR U w J fl aa nm Z O L s) {iter:E} {cK:PySem.Expr} {Q:Value→Shared→Prop} (lJ:aF aa.scope nm iter cK=true) (Vi:gx U w J gl bl fl A C fu iter)
    (cw:ev C fu iter L O≠ .stuck) (qc:∀e af,ev C fu iter L O= .exc e af→∀v s',bh U w J (· ∈bb fl) Z s (.exc e af:Out V) v s'→s.toks≤s'.toks→E0 v s')
    (sA:∀v ae,ev C fu iter L O= .ok v ae→∃m vs,v= .ref m∧ae[m]?=some (.list vs))
    (hk:∀m ae,ev C fu iter L O= .ok (.ref m) ae→∀it s2,rQ U w J A fl aa nm L Z s (kx m) ae it s2→Q it s2):
  wpAny (model U w) A (eval cK aa) (λx bN=>wpAny (model U w) A (pyIter x) Q E0 bN) E0 s:=by
 cases ho:ev C fu iter L O with
 |stuck=>exact absurd ho cw
 |exc e af=>
  refine mr (Vi lJ eo H ho (by simp)) (λ_ _ p _=>p.elim) λv s' x ht=>qc e af ho v s' x ht
 |ok v ae=>
  refine mP (Vi lJ eo H ho (by simp)) (λx s1 ⟨ao,X1,R1,r1⟩ t1=>?_) λ_ _ x=>x.elim
  obtain ⟨m,vs,rfl,hs⟩:=sA v ae ho
  refine tY r1 λp hp=>?_
  obtain ⟨ws,hl,rs,bO,hz⟩:=R1.list hp hs
  have H1:=H.ext X1 R1 t1
  refine wpAny_pyIter_list hl.isList (hk m ae ho _ _ ⟨s1.heap.objs.size,ao,s1,_,rfl,X1,H1,fS _,aj.push aE ao s1 _ s1.toks,H1.ext (aj.push aE ao s1 _ s1.toks) (oP H1.st _) (adq _),ON R.hand hp,?_⟩)
  exact ⟨_,Heap.get?_push_size _ rfl,rfl,rfl⟩
theorem ab8 {k:Int} (h:0≤k):Builtin.Range.rangeSize 0 k 1=k:=by
 rw [rangeSize_nat];omega
theorem GQ (B:cz U w J gl bl K) (R:bI n 10 fl A) (eo:bJ gl bl aa) (H:aR U w J fl aa nm Z O L s) {iter:E} {cK:PySem.Expr} {pr pc:Pos} {Q:Value→Shared→Prop} (hg:d6 aa.scope (Str.ofString "range")=true)
    (lJ:aF aa.scope nm iter cK=true) (Vi:gx U w J gl bl fl A C fu iter)
    (cw:ev C fu iter L O≠ .stuck) (qc:∀e af,ev C fu iter L O= .exc e af→∀v s',bh U w J (· ∈bb fl) Z s (.exc e af:Out V) v s'→s.toks≤s'.toks→E0 v s')
    (sA:∀v ae,ev C fu iter L O= .ok v ae→∃k,v= .int k∧smallInt k=true)
    (hk:∀k ae,ev C fu iter L O= .ok (.int k) ae→∀it s2,rQ U w J A fl aa nm L Z s (gv k) ae it s2→Q it s2):
  wpAny (model U w) A (eval (.Call (.Name (Str.ofString "range") pr) [cK] [] pc) aa) (λx bN=>wpAny (model U w) A (pyIter x) Q E0 bN) E0 s:=by
 refine wpAny_Call_NameR (o6 eo H B.g.Ia hg ?_)
 have ma:=te lJ [] aa
 refine callWith_of (P:=λ_=>True) (by rw [ma];rfl) (λh X=>⟨.machine,.inr (.inl rfl),Looks.of_pure rfl⟩) ?_
 suffices aQ:wpAny (model U w) A (spliced (backTo pc (starEach [cK] aa))) (λvs s'=>True∧wpAny (model U w) A (call (.type "range") ([]++vs) []) (λx bN=>wpAny (model U w) A (pyIter x) Q E0 bN) E0 s') E0 s by
  rw [ma] at aQ ⊢
  exact evalArgs_plain aQ
 refine spliced_more (rest:=[]) ?_ ma
 cases ho:ev C fu iter L O with
 |stuck=>exact absurd ho cw
 |exc e af=>
  refine mr (Vi lJ eo H ho (by simp)) (λ_ _ p _=>p.elim) λv s' x ht=>qc e af ho v s' x ht
 |ok v ae=>
  refine mP (Vi lJ eo H ho (by simp)) (λx s1 ⟨ao,X1,R1,r1⟩ t1=>?_) λ_ _ x=>x.elim
  obtain ⟨k,rfl,VE⟩:=sA v ae ho
  obtain ⟨t,rfl⟩:∃t,x= .int k t:=r1
  have H1:=H.ext X1 R1 t1
  refine spliced_none ⟨trivial,?_⟩
  refine call_range_1 (n:=k) (t:=t) ?_
  obtain ⟨k1,k2⟩:=GD VE
  have X2:=aj.push aE ao s1 {cls:= .type "range",data:= .fields #[.int 0 s1.toks,.int k t,.int 1 (s1.toks+1)]} (s1.toks+1+1)
  have H2:aR U w J fl aa nm ao ae L _:=H1.ext X2 (oP H1.st _) (by show s1.toks≤s1.toks+1+1;omega)
  refine wpAny_pyIter_range (IsRange.new ..) (small_one (by omega) (by omega) (by omega) (by omega)) ?_
  refine hk k ae ho _ _ ⟨_,ao,_,_,rfl,X1.trans X2,H2,fS _,aj.push aE ao _ _ _,H2.ext (aj.push aE ao _ _ _) (oP H2.st _) (adq _),aaj R.hand,?_⟩
  rw [rangeSize_nat]
  show IsRangeIter _ _ ((0:Nat):Int) ((k.toNat:Int)-((0:Nat):Int)) 1
  rw [show (k.toNat:Int)-((0:Nat):Int)=(((k-0).toNat:Nat):Int) from by omega]
  exact Heap.get?_push_size _ rfl
end
section
variable {U:Program} {w:World} {J:Heap} {gl bl:Addr} {K:Frag} {fl:List Env} {Z ai ao:aH} {O af ae az:ag} {s s' s1 s2:Shared} {A:Around} {E0:Value→Shared→Prop} {aa:Env} {nm:List Str} {L:Locals}
variable {C:Calls} {n fu:Nat}
theorem aR.ext2 (H:aR U w J fl aa nm Z O L s) (X:aj aE Z s ai s') (S':St U w J fl ai af s'):aR U w J fl aa nm ai af L s':=by
 refine ⟨S',H.loc.mono (X.fp H.st) λb o e _ hb=>X.keep b o e (λq=>?_) λx=>x,λq=>?_,H.oq⟩
 ·rcases hb with rfl |⟨x,hd⟩
  ·exact H.jQ q
  ·exact H.st.sr.Ec e hd q
 ·obtain ⟨m,hm,_⟩:=H.loc
  obtain ⟨o,_,_,ho,_⟩:=hm
  exact H.jQ (g5 X (by rw [ho];rfl) q)
theorem Gy {aG:Scope} (hk:aa.scope.kind= .function) (hf:∀x∈aG.names,x.2= .free→aa.kindOf x.1=some .cell):relabel aG aa=ig aG:=by
 unfold relabel ig
 congr 1
 refine List.map_congr_left λx hx=>?_
 obtain ⟨a,k⟩:=x
 cases k<;>simp
 simp [hk,hf _ hx rfl]
theorem zo:∀(names:List (Str×NameKind)) (acc:List (Str×Addr)),(∀x∈names,x.2= .free→(aa.cells.lookup x.1).isSome=true)→(∀n c,acc.lookup n=some c→aa.cells.lookup n=some c)→
  ∃cl,(forIn (m:=Sem) names acc λ(x:Str×NameKind) (cs:List (Str×Addr))=>(do
   if x.2== .free then
    let c←cellOf aa x.1
    pure (ForInStep.yield ((x.1,c)::cs))
   else pure (ForInStep.yield cs):Sem (ForInStep (List (Str×Addr)))))=pure cl∧(∀n c,cl.lookup n=some c→aa.cells.lookup n=some c)∧(∀x∈names,x.2= .free→(cl.lookup x.1).isSome=true)∧(∀n,(acc.lookup n).isSome=true→(cl.lookup n).isSome=true)
 |[],acc,_,h=>⟨acc,by simp,h,λ_ hx=>(by cases hx),λ_ h=>h⟩
 |(a,k)::r,acc,hc,h=>by
  rw [List.forIn_cons]
  by_cases hk:k= .free
  ·subst hk
   have h1:=hc (a,.free) (.head _) rfl
   obtain ⟨c,m6⟩:=Option.isSome_iff_exists.mp h1
   obtain ⟨cl,e,h2,h3,h4⟩:=zo r ((a,c)::acc) (λx hx=>hc x (.tail _ hx)) λn c' q=>by
    rw [List.lookup_cons] at q
    split at q
    ·rename_i hn
     cases q
     rw [beq_iff_eq.mp hn];exact m6
    ·exact h n c' q
   refine ⟨cl,?_,h2,λx hx hf=>?_,λn hn=>h4 n ?_⟩
   ·have:cellOf aa a=pure c:=by unfold cellOf;have PX:aa.cells.lookup a=some c:=m6;rw [PX]
    simp only [beq_self_eq_true,if_true,this,pure_bind]
    exact e
   ·rcases List.mem_cons.mp hx with rfl |hx
    ·exact h4 a (by rw [List.lookup_cons];simp)
    ·exact h3 x hx hf
   ·rw [List.lookup_cons];split<;>simp [hn]
  ·obtain ⟨cl,e,h2,h3,h4⟩:=zo r acc (λx hx=>hc x (.tail _ hx)) h
   refine ⟨cl,?_,h2,λx hx hf=>?_,h4⟩
   ·have:(k==NameKind.free)=false:=by cases k<;>first |rfl |exact absurd rfl hk
    simp only [this,Bool.false_eq_true,if_false,pure_bind]
    exact e
   ·rcases List.mem_cons.mp hx with rfl |hx
    ·exact absurd hf hk
    ·exact h3 x hx hf
theorem TO {aG:Scope} (hc:∀x∈aG.names,x.2= .free→(aa.cells.lookup x.1).isSome=true):∃cl,closureFor aG aa=pure cl∧(∀x∈aG.names,x.2= .free→cl.lookup x.1=aa.cells.lookup x.1):=by
 obtain ⟨cl,e,h1,h2,_⟩:=zo aG.names [] hc λn c q=>by cases q
 refine ⟨cl,?_,λx hx hf=>?_⟩
 ·unfold closureFor
  exact (congrArg (λt=>t>>=pure) e).trans (by rw [pure_bind])
 ·obtain ⟨c,m6⟩:=Option.isSome_iff_exists.mp (h2 x hx hf)
  rw [m6,h1 _ _ m6]
structure qh (aa:Env) (nm:List Str) (aG:Scope) (x:Str) (caps:List Nat):Prop where
 kind:aG.kind= .function
 M7:∀y∈aG.names,y.2≠ .cell
 loc:∀y∈aG.names,y.2= .local→aG.names.lookup y.1=some .local
 hx:aG.names.lookup x=some .local
 caps:(freeNames aG).map some=caps.map (λi=>nm[i]?)
 outer:∀n∈freeNames aG,aa.kindOf n=some .cell
 inner:∀n∈freeNames aG,aG.names.lookup n=some .free
theorem U3 {aG:Scope} {x:Str} {caps:List Nat} (h:l7 aa.scope nm aG x caps=true):qh aa nm aG x caps:=by
 unfold l7 at h
 simp only [Bool.and_eq_true,List.all_eq_true,beq_iff_eq,bne_iff_ne,Bool.or_eq_true] at h
 obtain ⟨⟨⟨⟨⟨⟨⟨⟨h1,h2⟩,h3⟩,h4⟩,h5⟩,h6⟩,h7⟩,h8⟩,h9⟩:=h
 exact ⟨h1,h2,λy hy hl=>(h3 y hy).resolve_left λq=>q hl,h4,h5,λn hn=>h6 n hn,h7⟩
theorem wQ {aG:Scope} {y:Str×NameKind} (hy:y∈aG.names) (hf:y.2= .free):y.1∈freeNames aG:=by
 unfold freeNames
 exact List.mem_map.mpr ⟨y,List.mem_filter.mpr ⟨hy,by rw [hf];rfl⟩,rfl⟩
theorem CZ:∀{names:List (Str×NameKind)} {n:Str},(names.map λ(n,k)=>if k==NameKind.free then (n,NameKind.cell) else (n,k)).lookup n=(names.lookup n).map λk=>if k== .free then .cell else k
 |[],_=>rfl
 |(a,k)::r,n=>by
  have ih:=@CZ r n
  rw [List.map_cons]
  by_cases hk:(k==NameKind.free)=true
  ·simp only [hk,if_true,List.lookup_cons]
   split
   ·simp only [Option.map_some,hk,if_true]
   ·exact ih
  ·simp only [hk,if_false,List.lookup_cons,Bool.false_eq_true]
   split
   ·simp only [Option.map_some,hk,if_false,Bool.false_eq_true]
   ·exact ih
theorem Ze {aG:Scope} {x:Str} {caps:List Nat} {cl:List (Str×Addr)} {Cc:Addr} (ci:qh aa nm aG x caps) (eo:bJ gl bl aa) (gO:∀y∈aG.names,y.2= .free→cl.lookup y.1=aa.cells.lookup y.1):
    (compEnvC aG cl Cc aa).scope=ig aG∧bJ gl bl (compEnvC aG cl Cc aa):=by
 have e:relabel aG aa=ig aG:=Gy eo.kind λy hy hf=>ci.outer _ (wQ hy hf)
 refine ⟨e,⟨?_,eo.glob,eo.Lk,λn hn=>?_⟩⟩
 ·show (relabel aG aa).kind=_
  exact ci.kind
 ·have hn:(relabel aG aa).names.lookup n=some .cell:=hn
  rw [e] at hn
  have jb:(aG.names.lookup n).map (λk=>if k== .free then NameKind.cell else k)=some .cell:=by rw [←CZ];exact hn
  cases hq:aG.names.lookup n with
  |none=>rw [hq] at jb;cases jb
  |some k=>
   rw [hq] at jb
   simp only [Option.map_some,Option.some.injEq] at jb
   have hm:=mem_of_lookup hq
   by_cases hk:k= .free
   ·subst hk
    have:=gO _ hm rfl
    show (cl.lookup n).isSome=true
    rw [this]
    exact eo.cells n (ci.outer n (wQ hm rfl))
   ·have:(k==NameKind.free)=false:=by cases k<;>first |rfl |exact absurd rfl hk
    rw [this] at jb
    exact absurd jb (ci.M7 _ hm)
theorem aaw {aG:Scope} {x:Str} {caps:List Nat} {cl:List (Str×Addr)} {Cc:Addr} {m:Str→Option Value} {v:V} {y:Value} (ci:qh aa nm aG x caps) (eo:bJ gl bl aa) (gO:∀y∈aG.names,y.2= .free→cl.lookup y.1=aa.cells.lookup y.1)
    (H:aR U w J fl aa nm Z O L s) (hm:s.heap.Ns Cc m) (TZ:m x=some y) (ry:RV J s.heap Z v y) (nf:¬bM Z Cc) (nb:J.get? Cc=none):aR U w J fl (compEnvC aG cl Cc aa) (x::freeNames aG) Z O (some v::caps.map L.get) s:=by
 refine ⟨H.st,⟨m,hm,λi u hu=>?_⟩,nf,nb⟩
 have e:relabel aG aa=ig aG:=Gy eo.kind λy hy hf=>ci.outer _ (wQ hy hf)
 cases i with
 |zero=>
  have hu:(some v:Option V)=some u:=hu
  cases hu
  refine ⟨x,y,rfl,ry,.inl ⟨?_,TZ⟩⟩
  exact lookup_relabel_local ci.hx
 |succ i=>
  have hu:((caps.map L.get)[i]?).join=some u:=hu
  rw [List.getElem?_map] at hu
  cases hc:caps[i]? with
  |none=>rw [hc] at hu;cases hu
  |some j=>
   rw [hc] at hu
   have hu:L.get j=some u:=hu
   obtain ⟨m0,yG,hl⟩:=H.loc
   obtain ⟨nn,z,hn,rz,hz⟩:=hl j u hu
   have h1:((freeNames aG).map some)[i]?=some (nm[j]?):=by rw [ci.caps,List.getElem?_map,hc];rfl
   rw [List.getElem?_map] at h1
   cases hf:(freeNames aG)[i]? with
   |none=>rw [hf] at h1;cases h1
   |some Zi=>
    rw [hf,hn] at h1
    have h1:some (some Zi)=some (some nn):=h1
    cases h1
    have tS:=List.mem_of_getElem? hf
    have hk:=ci.outer nn tS
    refine ⟨nn,z,hf,rz,.inr ⟨?_,?_⟩⟩
    ·show (relabel aG aa).names.lookup nn=some .cell
     rw [e]
     have:=@CZ aG.names nn
     rw [ci.inner nn tS] at this
     exact this
    ·rcases hz with ⟨hz,_⟩ |⟨_,c,aaM,xn⟩
     ·rw [hk] at hz;cases hz
     ·refine ⟨c,?_,xn⟩
      show cl.lookup nn=some c
      rw [←aaM]
      exact gO _ (mem_of_lookup (ci.inner nn tS)) rfl
theorem sP {aa:Env} (h:aa.scope.kind= .function):(aa.scope.kind== .class||(aa.scope.kind== .module&&aa.locals !=aa.globals))=false:=by rw [h];rfl
structure oj (U:Program) (w:World) (J:Heap) (fl:List Env) (ao:aH) (s1:Shared) (D Cc:Addr) (vs:List V) (az:ag) (ai:aH) (s':Shared):Prop where
 ext:aj aE ao s1 ai s'
 st:St U w J fl ai az s'
 acc:∃ws,s'.heap.PlainList D ws∧aD J s'.heap ai vs ws.toList
 len:vs.length≤aq
 ns:∃m,s'.heap.Ns Cc m
 ne:D≠Cc
 xi:¬bM ai D
 EF:¬bM ai Cc
 newD:s1.heap.get? D=none
 vY:s1.heap.get? Cc=none
structure wX (U:Program) (w:World) (J:Heap) (A:Around) (fl:List Env) (aa:Env) (nm:List Str) (L:Locals) (ao:aH) (s1:Shared) (ae:ag) (I D Cc:Addr) (item:Nat→ag→Option (Option V)) (T:Nat→Heap→Prop):Prop where
 H:aR U w J fl aa nm ao ae L s1
 fd:tq U w J A ao I item T
 ade:s1.heap.get? I=none
 newD:s1.heap.get? D=none
 vY:s1.heap.get? Cc=none
 nq:D≠Cc
 oG:I≠Cc
 pH:I≠D
inductive nO (U:Program) (w:World) (J:Heap) (fl:List Env) (ao:aH) (s1:Shared) (I D Cc:Addr) (T:Nat→Heap→Prop) (i:Nat) (acc:List V) (af:ag) (sx:Shared):Prop where
 |mk (ai:aH) (ws:Array Value) (m:Str→Option Value) (X:aj aE ao s1 ai sx) (S:St U w J fl ai af sx) (hT:T i sx.heap) (hD:sx.heap.PlainList D ws) (rs:aD J sx.heap ai acc ws.toList) (cw:sx.heap.Ns Cc m)
      (nI:¬bM ai I) (nD:¬bM ai D) (nC:¬bM ai Cc) (hz:acc.length≤aq):nO U w J fl ao s1 I D Cc T i acc af sx
section
variable {I D Cc:Addr} {item:Nat→ag→Option (Option V)} {T:Nat→Heap→Prop} {bc:E} {caps:List Nat} {pe:PySem.Expr} {x:Str} {px:Pos} {aG:Scope} {cl:List (Str×Addr)} {i:Nat} {acc:List V}
theorem yu {h h':Heap} {a:Addr} {o:Obj} {vs:Array Value} (e:h.get? a=some o) (hd:o.data= .fields vs):∀o',h.get? a=some o'→(∃vs n,o'.data= .seq vs n)→o'.cls≠ .type "tuple":=λo' e' ⟨vs,n,q⟩=>by
 rw [e] at e';cases e';rw [hd] at q;cases q
theorem DT {h:Heap} {a:Addr} {m:Str→Option Value} (cw:h.Ns a m):∀o',h.get? a=some o'→(∃vs n,o'.data= .seq vs n)→o'.cls≠ .type "tuple":=λo' e' ⟨vs,n,q⟩=>by
 obtain ⟨o,es,ep,ho,hd,_⟩:=cw
 rw [ho] at e';cases e';rw [hd] at q;cases q
theorem abm {h:Heap} {a:Addr} {ws:Array Value} (hl:h.PlainList a ws):∀o',h.get? a=some o'→(∃vs n,o'.data= .seq vs n)→o'.cls≠ .type "tuple":=λo' e' _ q=>by
 obtain ⟨dn,ho⟩:=hl
 rw [ho] at e';cases e';have q:Value.type "list"=Value.type "tuple":=q;injection q with q;exact absurd q (by decide)
theorem YI {h:Heap} {a:Addr} {m:Str→Option Value} (cw:h.Ns a m):(h.get? a).isSome:=by obtain ⟨o,_,_,e,_⟩:=cw;rw [e];rfl
theorem WU (ci:qh aa nm aG x caps) (eo:bJ gl bl aa) (gO:∀y∈aG.names,y.2= .free→cl.lookup y.1=aa.cells.lookup y.1) (hm:aF (ig aG) (x::freeNames aG) bc pe=true) (Ve:gx U w J gl bl fl A C fu bc)
    (ce:wX U w J A fl aa nm L ao s1 ae I D Cc item T) {u:V} {cN:ag} (inv:nO U w J fl ao s1 I D Cc T i acc af s) {v:V} (hv:item i af=some (some v)) (hf:ev C fu bc (some v::caps.map L.get) af= .ok u cN) (dy:acc.length<aq)
  {Q:Option Value→Shared→Prop} {Q1:Shared→Prop} (hQ:∀s',nO U w J fl ao s1 I D Cc T (i+1) (acc++[u]) cN s'→Q1 s')
  (hy:∀y sy,wpAny (model U w) A (assign (.Name x px) (compEnvC aG cl Cc aa) y) (λ_ s2=>wpAny (model U w) A (eval pe (compEnvC aG cl Cc aa)) (λz s5=>wpAny (model U w) A (call (.builtin "list.append") [.ref D,z]) (λ_ s6=>Q1 s6) E0 s5) E0 s2) E0 sy→Q (some y) sy):
  wpAny (model U w) A (pyNext (.ref I)) Q E0 s:=by
 obtain ⟨ai,ws,m,X,S,hT,hD,rs,cw,nI,nD,nC,hz⟩:=inv
 obtain ⟨H1,fd,hI,sG,me,nq,oG,pH⟩:=ce
 obtain ⟨oI,vI,jg,mZ⟩:=fd.at' _ _ hT
 refine fd.wL i v ai af s _ _ X.pre hT S.sr hv λh' y tk o4 ba zM ry=>?_
 have a:=sL H1.st X S hI nI (λb o hb e=>(ba.2 b hb).trans e) (yu (h':=h') jg mZ) tk zM
 have MK:h'.Ns Cc m:=cw.at λo e=>(ba.2 Cc (Ne.symm oG)).trans e
 refine hy _ _ (wpAny_assign_Name (wpAny_storeName_local (m:=m) (lookup_relabel_local ci.hx) MK (λh2 qq lq=>?_) (sP ci.kind)))
 replace qq:h2.Ns Cc _:=qq
 replace lq:Heap.SameBut Cc h' h2:=lq
 have b:=sL H1.st a.x a.st me nC (λb o hb e=>(lq.2 b hb).trans e) (DT MK) (tk+1) (Nat.le_succ _)
 have Hc:=aaw (Cc:=Cc) (y:=y) (v:=v) ci eo gO (H1.ext2 b.x b.st) qq (by simp) (RV.mono b.v (RV.mono a.v ry)) nC (jE H1.st.stays me)
 have ce:=Ze (Cc:=Cc) (cl:=cl) ci eo gO
 refine mP (Ve (aa:=compEnvC aG cl Cc aa) (nm:=x::freeNames aG) (x:=pe) (by rw [ce.1];exact hm) ce.2 Hc hf nofun) (λz s5 ⟨xe,X5,R5,r5⟩ t5=>?_) λ_ _ q=>q.elim
 have S5:=b.st.ext X5 R5 t5
 have Zh:aj aE ao s1 xe s5:=b.x.trans X5
 obtain ⟨dn,mf⟩:=hD
 have Lz:h2.get? D=some {cls:= .type "list",data:= .seq ws dn}:=(lq.2 _ nq).trans ((ba.2 _ (Ne.symm pH)).trans mf)
 have MT:s5.heap.PlainList D ws:=⟨dn,X5.keep _ _ Lz nD λq=>q⟩
 refine wpAny_list_append_plain MT (λh6 Tt Ac=>hQ _ ?_) (by rw [Gs rs, ←gW];exact hz)
 obtain ⟨aai,_,eI,_⟩:=fd.at' _ _ o4
 have La:h2.get? I=some aai:=(lq.2 I oG).trans eI
 have Jq:¬bM xe D:=λq=>nD (g5 X5 (by show (h2.get? D).isSome;rw [Lz];rfl) q)
 have d:=sL H1.st Zh S5 sG Jq (λb o hb e=>(Ac.2 b hb).trans e) (abm MT) s5.toks (adq _)
 refine ⟨xe,ws.push z,_,d.x,d.st,fd.same _ _ _ o4 ?_,Tt,?_,(qq.at λo e=>X5.keep _ _ e nC λq=>q).at λo e=>(Ac.2 Cc (Ne.symm nq)).trans e,
    λq=>nI (g5 X5 (by show (h2.get? I).isSome;rw [La];rfl) q),Jq,λq=>nC (g5 X5 (YI qq) q),by rw [List.length_append];exact dy⟩
 ·show h6.get? I=h'.get? I
  rw [eI,Ac.2 I pH]
  exact X5.keep _ _ La nI λq=>q
 ·rw [Array.toList_push]
  exact aD.append (aD.mono d.v (aD.mono (X5.fp b.st) (aD.mono b.v (aD.mono a.v rs)))) (aD.one (RV.mono d.v r5))
theorem YH (ce:wX U w J A fl aa nm L ao s1 ae I D Cc item T) (inv:nO U w J fl ao s1 I D Cc T i acc az s) (hv:item i az=some none) {Q:Option Value→Shared→Prop}
    (hQ:∀ai s',oj U w J fl ao s1 D Cc acc az ai s'→Q none s'):wpAny (model U w) A (pyNext (.ref I)) Q E0 s:=by
 obtain ⟨ai,ws,m,X,S,hT,⟨dn,mf⟩,rs,cw,nI,nD,nC,hz⟩:=inv
 obtain ⟨H1,fd,hI,sG,me,nq,oG,pH⟩:=ce
 obtain ⟨oI,vI,jg,mZ⟩:=fd.at' _ _ hT
 refine fd.stop i ai az s _ _ X.pre hT S.sr hv λh' ba=>hQ ai _ ?_
 have a:=sL H1.st X S hI nI (λb o hb e=>ba b o hb e) (yu (h':=h') jg mZ) s.toks (adq _)
 exact ⟨a.x,a.st,⟨ws,⟨dn,ba _ _ (Ne.symm pH) mf⟩,aD.mono a.v rs⟩,hz,⟨m,cw.at λo e=>ba _ _ (Ne.symm oG) e⟩,nq,nD,nC,sG,me⟩
end
theorem Vc {item:Nat→ag→Option (Option V)} {I D Cc:Addr} {T:Nat→Heap→Prop} {h3 h4:Heap} {k:Nat} {m:Str→Option Value} (H1:aR U w J fl aa nm ao ae L s1) (hI:s1.heap.get? I=none) (H2:aR U w J fl aa nm ao ae L s2) (fd:tq U w J A ao I item T) (hT:T 0 s2.heap)
    (X3:aj aE ao s1 ao {s2 with heap:=h3}) (S3:St U w J fl ao ae {s2 with heap:=h3}) (keep:∀b o,s2.heap.get? b=some o→h3.get? b=some o) (G5:s2.heap.get? D=none) (hD:h3.PlainList D #[]) (live:∀b,(s1.heap.get? b).isSome→(s2.heap.get? b).isSome) (xg:h3.get? Cc=none) (cw:h4.Ns Cc m) (AY:∀b o,b≠Cc→h3.get? b=some o→h4.get? b=some o) (hk:s2.toks≤k):
  wX U w J A fl aa nm L ao s1 ae I D Cc item T∧nO U w J fl ao s1 I D Cc T 0 [] ae {s2 with heap:=h4,toks:=k}:=by
 obtain ⟨dn,mf⟩:=hD
 have nq:D≠Cc:=λe=>by rw [e,xg] at mf;cases mf
 have sG:s1.heap.get? D=none:=gU live G5
 have me:s1.heap.get? Cc=none:=gU X3.live xg
 have BR:∀a,s1.heap.get? a=none→¬bM ao a:=λa e q=>by have:=H1.st.sr.live q;rw [e] at this;cases this
 obtain ⟨oI,vI,jg,mZ⟩:=fd.at' _ _ hT
 have q3:=keep _ _ jg
 have oG:I≠Cc:=λe=>by rw [e,xg] at q3;cases q3
 have pH:I≠D:=λe=>by rw [e,G5] at jg;cases jg
 have d:=sL H1.st X3 S3 me (BR _ me) AY (λo e=>by rw [show (_:Option Obj)=none from xg] at e;cases e) k hk
 exact ⟨⟨H1,fd,hI,sG,me,nq,oG,pH⟩,⟨ao, #[],_,d.x,d.st,fd.same 0 _ _ hT (by rw [jg];exact AY _ _ oG q3),⟨dn,AY _ _ nq mf⟩,aD.nil,cw,H2.st.sr.BL jg mZ,BR _ sG,BR _ me,ads _⟩⟩
theorem Uu {item:Nat→ag→Option (Option V)} {I D Cc:Addr} {T:Nat→Heap→Prop} {bc:E} {caps:List Nat} {pe cK:PySem.Expr} {x:Str} {px pos:Pos} {aG:Scope} {cl:List (Str×Addr)} {vs:List V} (eo:bJ gl bl aa)
    (ci:qh aa nm aG x caps) (gO:∀y∈aG.names,y.2= .free→cl.lookup y.1=aa.cells.lookup y.1)
    (hm:aF (ig aG) (x::freeNames aG) bc pe=true) (Ve:gx U w J gl bl fl A C fu bc) (ce:wX U w J A fl aa nm L ao s1 ae I D Cc item T) (inv:nO U w J fl ao s1 I D Cc T 0 [] ae s)
    (hG:fy item (λv O=>ev C fu bc (some v::caps.map L.get) O) fu 0 [] ae=some (vs,az)) {Rr:Result→Shared→Prop} (hR:∀ai s',oj U w J fl ao s1 D Cc vs az ai s'→Rr (.ok .next) s'):
  codeAny (model U w) A (.compLoop (.ListComp pe [⟨.Name x px,cK,[],0⟩] aG pos) 0 (.ref I) (.ref D) (compEnvC aG cl Cc aa)) Rr s:=by
 refine codeAny_compLoop_list (λj (sy:Shared)=>∃i acc af,fy item (λv O=>ev C fu bc (some v::caps.map L.get) O) j i acc af=some (vs,az)∧nO U w J fl ao s1 I D Cc T i acc af sy) ?_ fu ⟨0,[],ae,hG,inv⟩
 rintro j sy ⟨i,acc,af,hG,inv⟩
 match j,hG with
 |j+1,hG=>exact lc hG λo hv hG=>HE hG
                     (λv ho hG=>JY hG sn λu cN hf hG=>dc hG sn λdy hG=>WU ci eo gO hm Ve ce inv (ho▸hv) hf dy (λs' c=>⟨j,adu _,i+1,acc++[u],cN,hG,c⟩) λy sy h=>h)
                     λho hG=>YH ce (HN (P:=λacc O=>nO U w J fl ao s1 I D Cc T i acc O sy) hG inv) (HN (P:=λ_ O=>item i O=some none) hG (ho▸hv)) hR
theorem Qb {item:Nat→ag→Option (Option V)} {it:Value} {bc:E} {caps:List Nat} {pe cK:PySem.Expr} {x:Str} {px pos:Pos} {aG:Scope} {cl:List (Str×Addr)} {vs:List V} (eo:bJ gl bl aa)
    (bg:rQ U w J A fl aa nm L Z s item ae it s2) (ci:qh aa nm aG x caps) (gO:∀y∈aG.names,y.2= .free→cl.lookup y.1=aa.cells.lookup y.1)
    (hm:aF (ig aG) (x::freeNames aG) bc pe=true) (Ve:gx U w J gl bl fl A C fu bc)
    (hG:fy item (λv O=>ev C fu bc (some v::caps.map L.get) O) fu 0 [] ae=some (vs,az)) {Rr:Value→Addr→Result→Shared→Prop}
    (hR:∀D Cc ao s1 ai s',aj aE Z s ao s1→aR U w J fl aa nm ao ae L s1→oj U w J fl ao s1 D Cc vs az ai s'→Rr (.ref D) Cc (.ok .next) s'):
  wpAny (model U w) A (newList []) (λacc Xn=>wpAny (model U w) A (newFunctionEnv aG aa.globals cl [] aa.qual none .none (some aa)) (λGJ Oj=>
   codeAny (model U w) A (.compStart (.ListComp pe [⟨.Name x px,cK,[],0⟩] aG pos) 0 it acc {GJ with scope:=relabel aG aa}) (Rr acc GJ.locals) Oj) E0 Xn) E0 s2:=by
 obtain ⟨I,ao,s1,T,gr,X0,H1,hI,X1,H2,fd,hT⟩:=bg
 refine wpAny_newObj_type (wpAny_newFunctionEnv ci.M7 (by intro y hy;cases hy) (λfG Ws SA=>?_) ci.kind)
 have d:=Vc H1 hI H2 fd hT (X1.trans (aj.push aE ao s2 _ s2.toks)) (H2.st.push _ s2.toks (adq _)) (λb o e=>Heap.get?_push_of_some _ e) (fS _) ⟨0,Heap.get?_push_size _ rfl⟩ X1.live (fS _) Ws
    (λb o hb e=>(SA.2 b hb).trans (Heap.get?_push_of_some _ e)) (adq _)
 obtain ⟨_,_,_,_,_,o4,_⟩:=d.2
 have fin:=Uu (cK:=cK) (px:=px) (pos:=pos) eo ci gO hm Ve d.1 d.2 hG (Rr:=Rr _ _) λai s' c=>hR _ _ ao s1 ai s' X0 H1 c
 rw [gr]
 exact codeAny_compStart_list fin (fd.self 0 _ _ _ o4 fin)
theorem V3 {D Cc:Addr} {vs:List V} {h':Heap} (H1:aR U w J fl aa nm ao ae L s1) (X0:aj aE Z s ao s1) (d:oj U w J fl ao s1 D Cc vs az ai s') (ba:Heap.SameBut Cc s'.heap h'):
  aI U w J aE Z s (.ok (.ref az.length) (az++[.list vs])) (.ref D) {s' with heap:=h'}:=by
 obtain ⟨ws,hD,rs⟩:=d.acc
 obtain ⟨m,cw⟩:=d.ns
 obtain ⟨dn,mf⟩:=hD
 obtain ⟨Xa,Sa,Va⟩:=sL H1.st d.ext d.st d.vY d.EF (λb o hb e=>(ba.2 b hb).trans e) (DT cw) s'.toks (adq _)
 have QP:h'.get? D=some {cls:= .type "list",data:= .seq ws dn}:=(ba.2 _ d.ne).trans mf
 have nb:J.get? D=none:=jE H1.st.stays d.newD
 have v:VK J ai h' (ai++[(D,D)]) h':=⟨List.prefix_append _ _,λb o e _ _ _=>⟨o.slots,e⟩,Sa.stays,Sa.sr.off,Sa.sr.cells⟩
 refine aI.after X0 ⟨ai++[(D,D)],?_,Sa.sr.add (p:=(D,D)) v ⟨rfl,d.len,ws,⟨dn,QP⟩,aD.mono v (aD.mono Va rs)⟩ (λb o _ e=>e) d.xi d.xi nb nb,?_⟩
 ·refine ⟨Xa.pre.trans (List.prefix_append _ _),Xa.keep,Xa.live,λn p hn e=>?_,Xa.gens,Xa.drawn,Xa.os⟩
  by_cases aK:n<ai.length
  ·rw [List.getElem?_append_left aK] at e
   exact Xa.new n p hn e
  ·rw [List.getElem?_append_right (Nat.le_of_not_lt aK)] at e
   cases hk:n-ai.length with
   |zero=>rw [hk] at e;cases e;exact ⟨d.newD,d.newD⟩
   |succ j=>rw [hk] at e;simp at e
 ·simp only [RV]
  exact ⟨(D,D),by rw [←Sa.sr.len];simp,rfl⟩
theorem aaS {aG:Scope} {x:Str} {caps:List Nat} (ci:qh aa nm aG x caps) (eo:bJ gl bl aa):∃cl,closureFor aG aa=pure cl∧(∀x∈aG.names,x.2= .free→cl.lookup x.1=aa.cells.lookup x.1):=
 TO λy hy hf=>eo.cells _ (ci.outer _ (wQ hy hf))
theorem ab4 {o:Option (List V×ag)} {out:Out V} (h:nQ o=out) (hn:out≠ .stuck):∃vs az,o=some (vs,az)∧out= .ok (.ref az.length) (az++[.list vs]):=by
 cases o with
 |none=>exact absurd h.symm hn
 |some p=>exact ⟨p.1,p.2,rfl,h.symm⟩
theorem ZU {item:Nat→ag→Option (Option V)} {f:V→ag→Out V} {iU i:Nat} {acc:List V} {r:List V×ag} (h:fy item f iU i acc O=some r):∃o,item i O=some o:=by
 cases iU with
 |zero=>cases h
 |succ k=>
  exact lc h λo ho _=>⟨o,ho⟩
theorem Hi {iter:E} {cK:PySem.Expr} (h:aF aa.scope nm iter cK=true) (y:Value):foldedSetIterable cK aa y=pure y:=Jn (C3 h)
noncomputable def xa (U:Program) (w:World) (J:Heap) (A:Around) (fl:List Env) (aa:Env) (nm:List Str) (L:Locals) (Z:aH) (s:Shared) (C:Calls) (fu:Nat) (bc:E) (caps:List Nat) (o:Out V) (E0:Value→Shared→Prop) (cK:PySem.Expr):Prop:=
 ∀Q:Value→Shared→Prop,(∀item ae vs az it s2,fy item (λv O=>ev C fu bc (some v::caps.map L.get) O) fu 0 [] ae=some (vs,az)→o= .ok (.ref az.length) (az++[.list vs])→rQ U w J A fl aa nm L Z s item ae it s2→Q it s2)→
  wpAny (model U w) A (eval cK aa) (λx bN=>wpAny (model U w) A (pyIter x) Q E0 bN) E0 s
theorem yV {o:Out V} {bc:E} {caps:List Nat} {pe cK:PySem.Expr} {x:Str} {px pos pos':Pos} {aG:Scope} {use:Option (Value→Sem Unit)} {Q:Value→Shared→Prop} (eo:bJ gl bl aa) (zy:∀y,foldedSetIterable cK aa y=pure y) (ik:l7 aa.scope nm aG x caps=true)
    (hm:aF (ig aG) (x::freeNames aG) bc pe=true) (Ve:gx U w J gl bl fl A C fu bc) (gr:xa U w J A fl aa nm L Z s C fu bc caps o E0 cK)
    (hH:∀D Cc ao s1 ae ai s' vs az,o= .ok (.ref az.length) (az++[.list vs])→aj aE Z s ao s1→aR U w J fl aa nm ao ae L s1→oj U w J fl ao s1 D Cc vs az ai s'→compPost (model U w) A E0 use Q (.ref D) Cc (.ok .next) s'):
  wpAny (model U w) A (comprehension (.ListComp pe [⟨.Name x px,cK,[],0⟩] aG pos) aG aa pos' (newList []) false (eval cK aa) use) Q E0 s:=
 have ci:=U3 ik
 match aaS ci eo with
 |⟨cl,gO,Ry⟩=>wpAny_comprehension_free (g:=⟨.Name x px,cK,[],0⟩) (gs:=[]) rfl zy gO ci.kind ci.loc (gr _ λitem ae vs az it s2 hG ho bg=>Qb eo bg ci Ry hm Ve hG λD Cc ao s1 ai s' X0 H1 d=>hH D Cc ao s1 ae ai s' vs az ho X0 H1 d)
theorem G9 {bc iter:E} {caps:List Nat} {cK:PySem.Expr} {o:Out V} (R:bI n 10 fl A) (eo:bJ gl bl aa) (H:aR U w J fl aa nm Z O L s) (lJ:aF aa.scope nm iter cK=true) (Vi:gx U w J gl bl fl A C fu iter) (h:ev C fu (.comp bc caps iter) L O=o) (hn:o≠ .stuck)
    (qc:∀e af,o= .exc e af→∀v s',bh U w J (· ∈bb fl) Z s (.exc e af:Out V) v s'→s.toks≤s'.toks→E0 v s'):xa U w J A fl aa nm L Z s C fu bc caps o E0 cK:=λQ hQ=>by
 replace h:((ev C fu iter L O).bind λx O=>x.dX .stuck λn=>nQ (fy (kx n) (λv O=>ev C fu bc (some v::caps.map L.get) O) fu 0 [] O))=o:=h
 refine Nd R eo H lJ Vi (λq=>?_) (λe af q v s' x t=>?_) (λv ae q=>?_) λm ae q it s2 bg=>?_
 ·rw [q] at h;exact hn h.symm
 ·rw [q] at h;exact qc e af h.symm v s' x t
 ·rw [q] at h
  exact Fw (P:=λv=>∃m vs,v= .ref m∧ae[m]?=some (.list vs)) h hn λm h=>fk h hn λp hp _=>match ZU hp with
   |⟨o,ho⟩=>rW ho sn λc hc e=>xv (P:=λc=>ae[m]?=some c→_) e (λus _ hc=>⟨m,us,rfl,hc⟩) (λe=>absurd e.symm sn) hc
 ·rw [q] at h
  exact fk (show nQ (fy (kx m) (λv O=>ev C fu bc (some v::caps.map L.get) O) fu 0 [] ae)=o from h) hn λp hp h=>hQ _ _ _ _ _ _ hp h.symm bg
theorem Hd {bc iter:E} {caps:List Nat} {pr pc:Pos} {cK:PySem.Expr} {o:Out V} (B:cz U w J gl bl K) (R:bI n 10 fl A) (eo:bJ gl bl aa) (H:aR U w J fl aa nm Z O L s) (hg:d6 aa.scope (Str.ofString "range")=true) (lJ:aF aa.scope nm iter cK=true) (Vi:gx U w J gl bl fl A C fu iter) (h:ev C fu (.jw bc caps iter) L O=o) (hn:o≠ .stuck)
    (qc:∀e af,o= .exc e af→∀v s',bh U w J (· ∈bb fl) Z s (.exc e af:Out V) v s'→s.toks≤s'.toks→E0 v s'):xa U w J A fl aa nm L Z s C fu bc caps o E0 (.Call (.Name (Str.ofString "range") pr) [cK] [] pc):=λQ hQ=>by
 replace h:((ev C fu iter L O).bind λx O=>x.cE .stuck λk=>if smallInt k=true then nQ (fy (gv k) (λv O=>ev C fu bc (some v::caps.map L.get) O) fu 0 [] O) else .stuck)=o:=h
 refine GQ B R eo H hg lJ Vi (λq=>?_) (λe af q v s' x t=>?_) (λv ae q=>?_) λk ae q it s2 bg=>?_
 ·rw [q] at h;exact hn h.symm
 ·rw [q] at h;exact qc e af h.symm v s' x t
 ·rw [q] at h
  exact KR (P:=λv=>∃k,v= .int k∧smallInt k=true) h hn λk h=>dc h hn λhs _=>⟨k,rfl,hs⟩
 ·rw [q] at h
  exact dc (show (if smallInt k=true then nQ (fy (gv k) (λv O=>ev C fu bc (some v::caps.map L.get) O) fu 0 [] ae) else .stuck)=o from h) hn λ_ h=>fk h hn λp hp h=>hQ _ _ _ _ _ _ hp h.symm bg
theorem Fi {o:Out V} {bc:E} {caps:List Nat} {pe cK:PySem.Expr} {x:Str} {px pos:Pos} {aG:Scope} (eo:bJ gl bl aa) (zy:∀y,foldedSetIterable cK aa y=pure y) (ik:l7 aa.scope nm aG x caps=true) (hm:aF (ig aG) (x::freeNames aG) bc pe=true) (Ve:gx U w J gl bl fl A C fu bc)
    (gr:xa U w J A fl aa nm L Z s C fu bc caps o (bh U w J (· ∈bb fl) Z s o) cK):wpAny (model U w) A (eval (.ListComp pe [⟨.Name x px,cK,[],0⟩] aG pos) aa) (aI U w J aE Z s o) (bh U w J (· ∈bb fl) Z s o) s:=
 yV (pos':=cK.pos) (use:=none) eo zy ik hm Ve gr λD Cc ao s1 ae ai s' vs az ho X0 H1 d=>match d.ns with
  |⟨m',VL⟩=>⟨m',VL,λh' ba=>ho▸V3 H1 X0 d ba⟩
end
section
variable {U:Program} {w:World} {J:Heap} {gl bl:Addr} {K:Frag} {fl:List Env} {Z ai aP:aH} {O af:ag} {s s' s0:Shared} {A:Around} {E0:Value→Shared→Prop} {aa:Env} {nm:List Str} {L:Locals}
variable {C:Calls} {n fu:Nat}
theorem step {e:E} {x:PySem.Expr} {β:Type} {f:V→ag→Out β} {out:Out β} {Q:Value→Shared→Prop} (V:gx U w J gl bl fl A C fu e) (hm:aF aa.scope nm e x=true) (eo:bJ gl bl aa) (H:aR U w J fl aa nm Z O L s) (X:aj aE aP s0 Z s)
    (h:(ev C fu e L O).bind f=out) (hn:out≠ .stuck) (k:∀v ae va ao s1,f v ae=out→aj aE aP s0 ao s1→VK J Z s.heap ao s1.heap→aR U w J fl aa nm ao ae L s1→RV J s1.heap ao v va→Q va s1):
  wpAny (model U w) A (eval x aa) Q (bh U w J (· ∈bb fl) aP s0 out) s:=
 go X h hn (λeh=>V hm eo H rfl eh) (λ_ _ _ _ x=>x) λv ae _ h' va s1 p t=>match p with
  |⟨ao,X1,R1,r1⟩=>k v ae va ao s1 h' (X.trans X1) (X1.fp H.st) (H.ext X1 R1 t) r1
theorem yk {es:Es} {xs:List PySem.Expr} {pos:Pos} {β:Type} {f:List V→ag→Out β} {out:Out β} {Q:List Value→Shared→Prop} (V:qK U w J gl bl fl A C fu es) (hm:cC aa.scope nm es xs=true) (eo:bJ gl bl aa) (H:aR U w J fl aa nm Z O L s) (X:aj aE aP s0 Z s)
    (h:(bw C fu es L O).bind f=out) (hn:out≠ .stuck) (k:∀v ae va ao s1,bw C fu es L O= .ok v ae→f v ae=out→aj aE aP s0 ao s1→VK J Z s.heap ao s1.heap→aR U w J fl aa nm ao ae L s1→aD J s1.heap ao v va→Q va s1):
  wpAny (model U w) A (spliced (backTo pos (starEach xs aa))) Q (bh U w J (· ∈bb fl) aP s0 out) s:=
 go (P:=λo ws s'=>DB U w J Z s o ws s') X h hn (λeh=>V hm eo H rfl eh) (λ_ _ _ _ x=>x) λv ae e h' va s1 p t=>match p with
  |⟨ao,X1,R1,r1⟩=>k v ae va ao s1 e h' (X.trans X1) (X1.fp H.st) (H.ext X1 R1 t) r1
theorem Ll {h:Heap} {b:Bool} {x:V} (r:RV J h Z x (.bool b)):x= .bool b:=match x,r with
 | .bool _,r=>by cases (show Value.bool _=Value.bool _ from r);rfl
 | .none,r=>nomatch (show Value.bool b=_ from r)
 | .int _,⟨_,r⟩=>nomatch r
 | .str _,⟨⟨_,r⟩,_⟩=>nomatch r
 | .tup _,⟨_,_,r,_⟩=>nomatch r
 | .ref _,⟨_,_,r⟩=>nomatch r
 | .frozen _,⟨_,_,_,r,_⟩=>nomatch r
theorem stepT {e:E} {x:PySem.Expr} {β:Type} {f:Bool→ag→Out β} {out:Out β} {Q:Bool→Shared→Prop} (T:sz U w J gl bl fl A C fu e) (hm:aF aa.scope nm e x=true) (eo:bJ gl bl aa) (H:aR U w J fl aa nm Z O L s) (X:aj aE aP s0 Z s)
    (h:((ev C fu e L O).bind λv O=>v.iB .stuck λb=>f b O)=out) (hn:out≠ .stuck) (k:∀b ae ao s1,f b ae=out→aj aE aP s0 ao s1→aR U w J fl aa nm ao ae L s1→Q b s1):
  wpAny (model U w) A (isTrue x aa (eval x aa)) Q (bh U w J (· ∈bb fl) aP s0 out) s:=
 go (P:=λo b s'=>aI U w J aE Z s o (.bool b) s') X h hn (λeh=>T hm eo H rfl eh λv af q=>by
   rw [q] at h
   exact K0 (P:=λv=>∃b,v= .bool b) h hn λb _=>⟨b,rfl⟩) (λ_ _ _ _ x=>x) λv ae _ h' b s1 p t=>match p with
  |⟨ao,X1,R1,r1⟩=>k b ae ao s1 (by rw [Ll r1] at h';exact h') (X.trans X1) (H.ext X1 R1 t)
theorem NB {e:E} {x:PySem.Expr} {out:Out V} (V:gx U w J gl bl fl A C fu e) (hm:aF aa.scope nm e x=true) (eo:bJ gl bl aa) (H:aR U w J fl aa nm Z O L s) (X:aj aE aP s0 Z s) (h:ev C fu e L O=out) (hn:out≠ .stuck):
  wpAny (model U w) A (eval x aa) (aI U w J aE aP s0 out) (bh U w J (· ∈bb fl) aP s0 out) s:=
 wpAny_mono (V hm eo H h hn) (λ_ _ p=>aI.after X p) λ_ _ p=>bh.after X p λ_ _ q=>q
theorem FY {e:E} {x:PySem.Expr} {out:Out V} (T:sz U w J gl bl fl A C fu e) (hm:aF aa.scope nm e x=true) (eo:bJ gl bl aa) (H:aR U w J fl aa nm Z O L s) (X:aj aE aP s0 Z s) (h:ev C fu e L O=out) (hn:out≠ .stuck) (hb:∀v af,out= .ok v af→∃b,v= .bool b):
  wpAny (model U w) A (isTrue x aa (eval x aa)) (λb s'=>aI U w J aE aP s0 out (.bool b) s') (bh U w J (· ∈bb fl) aP s0 out) s:=
 wpAny_mono (T hm eo H h hn hb) (λ_ _ p=>aI.after X p) λ_ _ p=>bh.after X p λ_ _ q=>q
theorem bI.cmp (R:bI n 10 fl A):A.units+64<cLine:=by have:=R.units;omega
theorem XE {X:Addr→Prop} {t:Sem Value} {out:Out V} {F:Addr→Prop} (hb:∀v af,out= .ok v af→∃b,v= .bool b)
    (h:wpAny (model U w) A t (aI U w J X Z s out) (bh U w J F Z s out) s):
  wpAny (model U w) A t (λv bN=>wpAny (model U w) A (truthy v) (λb s'=>aI U w J X Z s out (.bool b) s') (bh U w J F Z s out) bN) (bh U w J F Z s out) s:=
 wpAny_mono h (λv bN p=>match out,hb,p with
  | .ok x af,hb,⟨ai,e,r,rv⟩=>match x,hb x af rfl,rv with
   |_,⟨b,rfl⟩,rv=>uG (P:=λv=>wpAny (model U w) A (truthy v) (λb' s'=>aI U w J X Z s (.ok (.bool b) af) (.bool b') s') _ bN) rv (wpAny_truthy_bool ⟨ai,e,r,iL b⟩)) λ_ _ x=>x
theorem U1 (c:cj):oK c<39:=by cases c<;>decide
theorem OW (B:cz U w J gl bl K) (CO:js U w J n C) (R:bI n 10 fl A) (S:St U w J fl Z O s) {c:cj} {vs:List V} {ws:List Value} {out:Out V} (h:pW C c O vs=out) (hn:out≠ .stuck) (r:aD J s.heap Z vs ws):
  wpAny (model U w) A (call (.ref (cD c)) ws []) (aI U w J aE Z s out) (bh U w J (· ∈bb fl) Z s out) s:=by
 have X0:K.In s.heap:=B.ll.keeps λb o e=>S.stays b o e
 obtain ⟨hh,g,d,t,os⟩:=s
 refine wpAny_call (make_core (makes_of X0 (B.kf.MU c)) (looks_findIn X0 (B.kf.init c)) (λself=>bind_fn X0 self (B.kf.isFn _ (U1 c))) (.inl rfl) ?_)
 have k:∀b o,hh.get? b=some o→((hh.push emptyDict).push (instObj (cD c) hh.objs.size)).get? b=some o:=λb o e=>Heap.get?_push_of_some _ (Heap.get?_push_of_some _ e)
 have e1:hh.get? (hh.objs.size+1)=none:=by
  cases q:hh.get? (hh.objs.size+1) with
  |none=>rfl
  |some o=>exact absurd (Nat.lt_of_succ_lt (Heap.lt_size q)) (Nat.lt_irrefl _)
 have hx:((hh.push emptyDict).push (instObj (cD c) hh.objs.size)).get? (hh.objs.size+1)=some (instObj (cD c) hh.objs.size):=by heap_get
 have hd:((hh.push emptyDict).push (instObj (cD c) hh.objs.size)).get? hh.objs.size=some (dictOf [] 0):=Heap.get?_push_of_some _ (Heap.get?_push_size _ rfl)
 generalize (hh.push emptyDict).push (instObj (cD c) hh.objs.size)=h1 at*
 obtain ⟨ao,X1,R1,r1⟩:=GF (s:=⟨hh,g,d,t,os⟩) (p:=(hh.objs.size+1,hh.objs.size)) S k e1 (fS hh) (c:= .inst c []) t λv=>⟨hx,ads _,List.nodup_nil,[],0,hd,rfl⟩
 refine JY h hn λv az hC h=>?_
 have R':bI n 0 fl (A.under (.builtin "type.__call__" ⟨.ref (cD c)::ws,[]⟩)):=⟨R.hand,R.frames,by have:=R.depth;show A.depth+1+12*n+0+10≤_;omega,by have:=R.units;show A.units+1+40*n+0+200≤_;omega⟩
 refine codeAny_mono (CO (oK c) _ _ _ hC nofun fl _ ao _ (.ref (hh.objs.size+1)::ws) R' (S.ext X1 R1 (adq _)) (aD.cons r1 (aD.mono (X1.fp S) r))) λq s' z=>?_
 match q,z with
 | .ok (.ret a),⟨eT,X2,R2,r2⟩=>
  refine BF (P:=λ_ a=>a=Value.none∧aI U w J aE Z ⟨hh,g,d,t,os⟩ out (.ref (hh.objs.size+1)) s') h hn r2 λh=>⟨rfl,h▸⟨eT,X1.trans X2,R2,?_⟩⟩
  obtain ⟨p,hp,e2⟩:=r1
  exact ⟨p,k8 X2.pre hp,e2⟩
theorem ZI {s0 s1:Shared} {aP ao:aH} {gy ae:ag} {o:Obj} {k0:Nat} (S0:St U w J fl aP gy s0) (E1:aj aE aP {s0 with heap:=s0.heap.push o,toks:=k0} ao s1) (S1:St U w J fl ao ae s1) (ho:∀vs n,o.data≠ .seq vs n) (hf:o.isFreed=false)
  {h':Heap} (ba:Heap.SameBut s0.heap.objs.size s1.heap h') (hl:(h'.get? s0.heap.objs.size).isSome) {c:Cell} (k:Nat)
  (hc:VK J ao s1.heap (ao++[(s0.heap.objs.size,s0.heap.objs.size)]) h'→RC U w J h' (ao++[(s0.heap.objs.size,s0.heap.objs.size)]) (s0.heap.objs.size,s0.heap.objs.size) c):
  aI U w J aE aP s0 (.ok (.ref ae.length) (ae++[c])) (.ref s0.heap.objs.size) {s1 with heap:=h',toks:=k}:=by
 have eF:(s0.heap.push o).get? s0.heap.objs.size=some o:=Heap.get?_push_size _ hf
 have v3:¬bM aP s0.heap.objs.size:=λq=>by have:=S0.sr.live q;rw [fS] at this;cases this
 have AF:¬bM ao s0.heap.objs.size:=λq=>v3 (g5 E1 (by show ((s0.heap.push o).get? _).isSome;rw [eF];rfl) q)
 have dw:s1.heap.get? s0.heap.objs.size=some o:=E1.keep _ _ eF v3 λx=>x
 have hb:J.get? s0.heap.objs.size=none:=jE S0.stays (fS _)
 have v:VK J ao s1.heap (ao++[(s0.heap.objs.size,s0.heap.objs.size)]) h':=by
  refine ⟨List.prefix_append _ _,λb o' e nf ⟨vs,n,q⟩ _=>⟨o'.slots,(ba.2 b λz=>?_).trans e⟩,λb o' e=>(ba.2 b λz=>?_).trans (S1.stays b o' e),S1.sr.off,S1.sr.cells⟩
  ·subst z;rw [dw] at e;cases e;exact ho vs n q
  ·subst z;rw [hb] at e;cases e
 refine ⟨ao++[(s0.heap.objs.size,s0.heap.objs.size)],?_,S1.sr.add v (hc v) (λb o' q e=>(ba.2 b λz=>AF (z▸q)).trans e) AF AF hb hb,?_⟩
 ·refine ⟨E1.pre.trans (List.prefix_append _ _),λb o' e nf _=>(ba.2 b λz=>?_).trans (E1.keep b o' (Heap.get?_push_of_some _ e) nf λx=>x),λb e=>?_,λn p hn e=>?_,E1.gens,E1.drawn,E1.os⟩
  ·have:=Heap.lt_size e
   rw [z] at this
   exact Nat.lt_irrefl _ this
  ·obtain ⟨o',d8⟩:=Option.isSome_iff_exists.mp e
   have:(s1.heap.get? b).isSome:=E1.live b (by show ((s0.heap.push o).get? b).isSome;rw [Heap.get?_push_of_some _ d8];rfl)
   show (h'.get? b).isSome
   rw [ba.2 b λz=>absurd (Heap.lt_size d8) (by rw [z];exact Nat.lt_irrefl _)]
   exact this
  ·by_cases aK:n<ao.length
   ·rw [List.getElem?_append_left aK] at e
    obtain ⟨a1,a2⟩:=E1.new n p hn e
    have live:∀b,(s0.heap.get? b).isSome→((s0.heap.push o).get? b).isSome:=λb q=>by
     obtain ⟨o',d8⟩:=Option.isSome_iff_exists.mp q
     rw [Heap.get?_push_of_some _ d8];rfl
    exact ⟨gU live a1,gU live a2⟩
   ·rw [List.getElem?_append_right (Nat.le_of_not_lt aK)] at e
    cases hk:n-ao.length with
    |zero=>rw [hk] at e;cases e;exact ⟨fS _,fS _⟩
    |succ j=>rw [hk] at e;simp at e
 ·exact ⟨(s0.heap.objs.size,s0.heap.objs.size),by rw [←S1.sr.len];simp,rfl⟩
noncomputable def fh (U:Program) (w:World) (J:Heap) (gl bl:Addr) (fl:List Env) (A:Around) (C:Calls) (fu:Nat):Es→Prop
 | .nil=>True
 | .cons e es=>(gx U w J gl bl fl A C fu e∧sz U w J gl bl fl A C fu e)∧fh U w J gl bl fl A C fu es
theorem XY:qK U w J gl bl fl A C fu .nil:=λ{aa nm xs pos L O out Z s} hm eo H h hn=>by
  rw [rF hm]
  exact h▸spliced_none ⟨Z,aj.refl _ _ _,H.st.sr,aD.nil⟩
theorem TB {e:E} {es:Es} (V:gx U w J gl bl fl A C fu e) (Vs:qK U w J gl bl fl A C fu es):qK U w J gl bl fl A C fu (.cons e es):=λ{aa nm xs pos L O out Z s} hm eo H h hn=>by
  refine pz (Ps:=λxs=>wpAny (model U w) A (spliced (backTo pos (starEach xs aa))) _ _ s) hm λy ys h1 h2=>?_
  refine spliced_more (step V h1 eo H (aj.refl _ _ _) h hn λv ae va ao s1 h X1 _ H1 r1=>?_) (te h1 ys aa)
  exact yk Vs h2 eo H1 X1 h hn λvs az ws eT s2 _ h X2 v2 H2 r2=>h▸⟨eT,X2,H2.st.sr,aD.cons (RV.mono v2 r1) r2⟩
theorem kZ:∀{es:Es},fh U w J gl bl fl A C fu es→qK U w J gl bl fl A C fu es
 | .nil,_=>XY
 | .cons e es,⟨⟨V,_⟩,Vs⟩=>TB V (kZ Vs)
theorem XJ (t:Bool):uN U w J gl bl fl A C fu (boolOf t) (ea C fu t) .nil:=λ_ _ _ h hn=>absurd h.symm hn
theorem Uk {e:E} (t:Bool) (V:gx U w J gl bl fl A C fu e) (T:sz U w J gl bl fl A C fu e):uN U w J gl bl fl A C fu (boolOf t) (ea C fu t) (.cons e .nil):=λ{aa nm xs pos L O out Z s} hm eo H h hn=>by
  refine pz (Ps:=λxs=>wpAny (model U w) A (boolOp pos (boolOf t) (evalEach xs aa)) _ _ s∧wpAny (model U w) A (allTrue (boolOf t) xs aa) _ _ s) hm λy ys h1 h2=>?_
  rw [rF h2]
  refine ⟨step V h1 eo H (aj.refl _ _ _) h hn λv ae va ao s1 h X1 _ H1 r1=>Ai h hn r1 λb h=>h▸⟨ao,X1,H1.st.sr,iL b⟩,?_⟩
  have aQ:=stepT (f:=λb O=>(Out.ok (Mine.V.bool b) O:Out Mine.V)) (Q:=λb s1=>aI U w J aE Z s out (.bool b) s1) T h1 eo H (aj.refl _ _ _) h hn λb ae ao s1 h X1 H1=>h▸⟨ao,X1,H1.st.sr,iL b⟩
  cases t
  ·refine wpAny_allTrue_Or_cons (wpAny_mono aQ (λb s1 p=>?_) λ_ _ x=>x)
   cases b
   ·exact wpAny_allTrue_Or_nil p
   ·exact p
  ·refine wpAny_allTrue_And_cons (wpAny_mono aQ (λb s1 p=>?_) λ_ _ x=>x)
   cases b
   ·exact p
   ·exact wpAny_allTrue_And_nil p
theorem WW {e e':E} {es:Es} (t:Bool) (V:gx U w J gl bl fl A C fu e) (T:sz U w J gl bl fl A C fu e) (ih:uN U w J gl bl fl A C fu (boolOf t) (ea C fu t) (.cons e' es)):uN U w J gl bl fl A C fu (boolOf t) (ea C fu t) (.cons e (.cons e' es)):=λ{aa nm xs pos L O out Z s} hm eo H h hn=>by
  refine pz (Ps:=λxs=>wpAny (model U w) A (boolOp pos (boolOf t) (evalEach xs aa)) _ _ s∧wpAny (model U w) A (allTrue (boolOf t) xs aa) _ _ s) hm λy ys h1 h2=>?_
  refine pz (Ps:=λys=>cC aa.scope nm (.cons e' es) ys=true→wpAny (model U w) A (boolOp pos (boolOf t) (evalEach (y::ys) aa)) _ _ s∧wpAny (model U w) A (allTrue (boolOf t) (y::ys) aa) _ _ s) h2 (λz zs _ _ h2=>?_) h2
  constructor
  ·show wpAny (model U w) A (do
    let v←eval y aa
    standAt pos
    let b←holding [v] (truthy v)
    match boolOf t,b with
    | .And,false | .Or,true=>pure v
    |_,_=>boolOp pos (boolOf t) (evalEach (z::zs) aa)) _ _ s
   refine wpAny_bind (step V h1 eo H (aj.refl _ _ _) h hn λv ae va ao s1 h X1 _ H1 r1=>Ai h hn r1 λb h=>?_)
   refine wpAny_bind (wpAny_standAt (wpAny_bind (wpAny_holding (wpAny_truthy_bool ?_))))
   cases t<;>cases b
   ·exact wpAny_mono (ih h2 eo H1 h hn).1 (λ_ _ p=>aI.after X1 p) λ_ _ p=>bh.after X1 p λ_ _ q=>q
   ·exact h▸wpAny_pure ⟨ao,X1,H1.st.sr,iL _⟩
   ·exact h▸wpAny_pure ⟨ao,X1,H1.st.sr,iL _⟩
   ·exact wpAny_mono (ih h2 eo H1 h hn).1 (λ_ _ p=>aI.after X1 p) λ_ _ p=>bh.after X1 p λ_ _ q=>q
  ·have more:∀ae ao s1,ea C fu t (.cons e' es) L ae=out→aj aE Z s ao s1→aR U w J fl aa nm ao ae L s1→wpAny (model U w) A (allTrue (boolOf t) (z::zs) aa) (λb s'=>aI U w J aE Z s out (.bool b) s') (bh U w J (· ∈bb fl) Z s out) s1:=
        λae ao s1 h X1 H1=>wpAny_mono (ih (pos:=pos) h2 eo H1 h hn).2 (λ_ _ p=>aI.after X1 p) λ_ _ p=>bh.after X1 p λ_ _ q=>q
   cases t
   ·refine wpAny_allTrue_Or_cons (stepT T h1 eo H (aj.refl _ _ _) h hn λb ae ao s1 h X1 H1=>?_)
    cases b
    ·exact more ae ao s1 h X1 H1
    ·exact h▸⟨ao,X1,H1.st.sr,iL _⟩
   ·refine wpAny_allTrue_And_cons (stepT T h1 eo H (aj.refl _ _ _) h hn λb ae ao s1 h X1 H1=>?_)
    cases b
    ·exact h▸⟨ao,X1,H1.st.sr,iL _⟩
    ·exact more ae ao s1 h X1 H1
theorem tP (t:Bool):∀{es:Es},fh U w J gl bl fl A C fu es→uN U w J gl bl fl A C fu (boolOf t) (ea C fu t) es
 | .nil,_=>XJ t
 | .cons e .nil,⟨⟨V,T⟩,_⟩=>Uk t V T
 | .cons e (.cons e' es),⟨⟨V,T⟩,Vs⟩=>WW t V T (tP t Vs)
inductive Pairs (U:Program) (w:World) (J:Heap) (Z:aH) (s:Shared) (ks:List (List Nat)) (out:Out (List V)) (ps:List (Value×Value)) (s':Shared):Prop where
 |mk (vs:List V) (af:ag) (ai:aH) (cL:List (Str×Value)) (ho:out= .ok vs af) (X:aj aE Z s ai s') (R:SR U w J s'.heap ai af) (hc:Carries (PySem.strKind U w) ps cL) (rd:bo J s'.heap ai (ks.zip vs) cL) (hl:vs.length=ks.length) (hk:cL.map (·.1)=ks.map mk):Pairs U w J Z s ks out ps s'
theorem JP {ks:List (List Nat)} {e:aX} {ps:List (Value×Value)} (p:Pairs U w J Z s ks (.exc e O) ps s'):False:=by obtain ⟨_,_,_,_,q,_⟩:=p;cases q
theorem LD {pos:Pos}:∀{es:Es} {ks:List (List Nat)} {cu:List (Option PySem.Expr)} {xs:List PySem.Expr} {out:Out (List V)} {O:ag} {Z:aH} {s:Shared},fh U w J gl bl fl A C fu es→rq ks cu=true→cC aa.scope nm es xs=true→cu.length=xs.length→
  bJ gl bl aa→aR U w J fl aa nm Z O L s→bw C fu es L O=out→out≠ .stuck→
  wpAny (model U w) A (evalPairs (pairTrees cu xs aa pos)) (Pairs U w J Z s ks out) (bh U w J (· ∈bb fl) Z s out) s
 | .nil,ks,cu,xs,out,O,Z,s,av,hk,hm,hl,eo,H,h,hn=>by
  have e1:=rF hm
  subst e1
  have e2:=List.length_eq_zero_iff.mp hl
  subst e2
  match ks,hk with
  |[],_=>exact evalPairs_nil ⟨[],O,Z,[],h.symm,aj.refl _ _ _,H.st.sr,trivial,rfl,rfl,rfl⟩
 | .cons e es,ks,cu,xs,out,O,Z,s,⟨⟨v1,_⟩,v2⟩,hk,hm,hl,eo,H,h,hn=>by
  refine pz (Ps:=λxs=>cu.length=xs.length→wpAny (model U w) A (evalPairs (pairTrees cu xs aa pos)) (Pairs U w J Z s ks out) _ s) hm (λy ys h1 h2 hl=>?_) hl
  match ks,cu,hk,hl with
  |[],cu,hk,hl=>exact fY (P:=λcu=>cu.length=(y::ys).length→wpAny (model U w) A (evalPairs (pairTrees cu (y::ys) aa pos)) (Pairs U w J Z s [] out) _ s) hk (λ_ hl=>nomatch hl) hl
  |k::ks,ke::cu,hk,hl=>
   refine aN hk λDe vV=>qp (P:=λke=>wpAny (model U w) A (evalPairs (pairTrees (ke::cu) (y::ys) aa pos)) (Pairs U w J Z s (k::ks) out) _ s) De λke De=>
    sX (P:=λke=>wpAny (model U w) A (evalPairs (pairTrees (some ke::cu) (y::ys) aa pos)) (Pairs U w J Z s (k::ks) out) _ s) De λq1 q2=>evalPairs_cons (wpAny_Constant_str ?_)
   have H0:aR U w J fl aa nm Z O L {s with toks:=s.toks+1}:=H.ext (aj.toks aE Z s _) H.st.sr (Nat.le_succ _)
   refine wpAny_bind (step v1 h1 eo H0 (aj.toks aE Z s (s.toks+1)) h hn λv ae va ao s1 h X1 _ H1 r1=>wpAny_bind (wpAny_standAt (wpAny_pure ?_)))
   refine go (P:=λo ps s'=>Pairs U w J ao s1 ks o ps s') X1 h hn (λjb=>LD v2 vV h2 (Nat.succ.inj hl) eo H1 rfl jb) (λ_ _ _ _ q=>JP q) λvs az e2 h ps s2 q t2=>?_
   obtain ⟨kN,af,eT,cL,q0,X2,R2,q1,q2,q3,q4⟩:=q
   cases q0
   exact ⟨v::vs,az,eT,(_,va)::cL,h.symm,X1.trans X2,R2,⟨strKind_is U w _ _,rfl,q1⟩,⟨va,cL,rfl,RV.mono (X2.fp H1.st) r1,q2⟩,congrArg Nat.succ q3,congrArg (mk k:: ·) q4⟩
theorem EN:∀{l:List (List Nat)},l.Nodup→(l.map mk).Nodup
 |[],_=>List.nodup_nil
 |x::r,h=>by
  rw [List.map_cons,List.nodup_cons]
  obtain ⟨h1,h2⟩:=List.nodup_cons.mp h
  refine ⟨λq=>?_,EN h2⟩
  obtain ⟨y,hy,e⟩:=List.mem_map.mp q
  exact h1 (vH e▸hy)
theorem yU:∀{ks:List (List Nat)} {cu:List (Option PySem.Expr)},rq ks cu=true→cu.all (·.isSome)=true∧ks.length=cu.length
 |[],cu,h=>fY (P:=λcu=>cu.all (·.isSome)=true∧([]:List (List Nat)).length=cu.length) h λ_=>⟨rfl,rfl⟩
 |k::ks,ke::cu,h=>aN h λh1 h2=>qp (P:=λke=>(ke::cu).all (·.isSome)=true∧(k::ks).length=(ke::cu).length) h1 λ_ _=>⟨(yU h2).1,congrArg Nat.succ (yU h2).2⟩
theorem Wg {ks:List (List Nat)} {es:Es} {cu:List (Option PySem.Expr)} {vs:List PySem.Expr} {pos:Pos} {out:Out V} (eo:bJ gl bl aa) (H:aR U w J fl aa nm Z O L s) (hk:rq ks cu=true)
    (hm:cC aa.scope nm es vs=true) (hl:cu.length=vs.length) (hz:vs.length≤15) (Ls:fh U w J gl bl fl A C fu es) (h:ev C fu (.dict ks es) L O=out) (hn:out≠ .stuck):
  wpAny (model U w) A (eval (.Dict cu vs pos) aa) (aI U w J aE Z s out) (bh U w J (· ∈bb fl) Z s out) s:=by
 obtain ⟨ha,dy⟩:=yU hk
 replace h:((bw C fu es L O).bind λvs O=>if vs.length=ks.length∧ks.Nodup then Out.ok (V.ref O.length) (O++[Cell.dict (ks.zip vs)]) else Out.stuck)=out:=h
 match cu,ks,vs,es,hk,hm,hl,dy with
 |[],[],[],.nil,_,_,_,_=>
  refine dc (show (if ([]:List V).length=([]:List (List Nat)).length∧([]:List (List Nat)).Nodup then Out.ok (V.ref O.length) (O++[Cell.dict (([]:List (List Nat)).zip ([]:List V))]) else Out.stuck)=out from h) hn λ_ h=>h▸?_
  exact wpAny_Dict_empty (GW (c:= .dict []) H.st s.toks λh' e v=>by
   subst e
   exact ⟨rfl,ads _,[],Heap.DictOf.new _,rfl⟩)
 |[],[],[],.cons _ _,_,hm,_,_=>exact absurd hm Bool.false_ne_true
 |k0::cu,ks,vs,es,hk,hm,hl,dy=>
  have Xp:=aj.push aE Z s {cls:= .type "dict",data:= .dict #[]} s.toks
  have Hp:aR U w J fl aa nm Z O L {s with heap:=s.heap.push {cls:= .type "dict",data:= .dict #[]}}:=H.ext Xp (oP H.st _) (adq _)
  refine wpAny_Dict_walk (knd:=PySem.strKind U w) ha hl nofun (adk (hl▸hz) (by decide)) ?_
  refine go (P:=λo ps s'=>Pairs U w J Z _ ks o ps s') Xp h hn (λeh=>LD Ls hk hm hl eo Hp rfl eh) (λ_ _ _ _ q=>JP q) λus ae e1 h ps s1 q t1=>dc h hn λhc h=>?_
  obtain ⟨acA,acU,ao,cL,q0,X1,R1,q1,q2,q3,q4⟩:=q
  cases q0
  have v3:¬bM Z s.heap.objs.size:=λq=>by have:=H.st.sr.live q;rw [fS] at this;cases this
  have dw:s1.heap.get? s.heap.objs.size=some {cls:= .type "dict",data:= .dict #[]}:=X1.keep _ _ (Heap.get?_push_size _ rfl) v3 λx=>x
  have eF:=(Heap.DictOf.new (knd:=PySem.strKind U w) s.heap).at λo e=>by
   rw [Heap.get?_push_size _ rfl] at e;cases e;exact dw
  refine ⟨cL,q1,eF,λh' bQ ba=>?_⟩
  rw [merged_nil_of_nodup cL (q4▸EN hc.2)] at bQ
  refine h▸ZI H.st X1 (Hp.st.ext X1 R1 t1) (λ_ _ q=>by cases q) rfl ba ?_ _ λv=>⟨rfl,?_,cL,bQ,bo.mono v q2⟩
  ·obtain ⟨o,_,_,ho,_⟩:=bQ;rw [ho];rfl
  ·rw [List.length_zip,q3,Nat.min_self,dy,hl];exact adk hz (by decide)
theorem uq (B:cz U w J gl bl K) {f:Value} (hk:∀h,K.In h→∃k,(k=Keeper.frame∨k=Keeper.machine∨k=Keeper.boundFrame)∧Looks (model U w) h (keeperOf f) k) {es:Es} {xs:List PySem.Expr} {pos:Pos} {first:List Value} {out:Out V} {g:List V→ag→Out V} (X0:aj aE aP s0 Z s)
    (eo:bJ gl bl aa) (H:aR U w J fl aa nm Z O L s) (hm:cC aa.scope nm es xs=true) (Ls:qK U w J gl bl fl A C fu es) (h:(bw C fu es L O).bind g=out) (hn:out≠ .stuck)
    (hc:∀vs af ai ws s',g vs af=out→VK J Z s.heap ai s'.heap→aR U w J fl aa nm ai af L s'→aD J s'.heap ai vs ws→wpAny (model U w) A (call f (first++ws) []) (aI U w J aE ai s' out) (bh U w J (· ∈bb fl) ai s' out) s'):
  wpAny (model U w) A (callWith pos f first (backTo pos (starEach xs aa)) []) (aI U w J aE aP s0 out) (bh U w J (· ∈bb fl) aP s0 out) s:=by
 have ma:=sO hm aa pos
 refine callWith_of (P:=λh=>K.In h) (by rw [ma];rfl) hk ?_
 have aQ:=yk (pos:=pos) (Q:=λws bN=>K.In bN.heap∧wpAny (model U w) A (call f (first++ws) []) (aI U w J aE aP s0 out) (bh U w J (· ∈bb fl) aP s0 out) bN) Ls hm eo H X0 h hn λvs af ws ai s' _ h X V H' r=>
  ⟨B.ll.keeps λb o e=>H'.st.stays b o e,wpAny_mono (hc vs af ai ws s' h V H' r) (λ_ _ p=>aI.after X p) λ_ _ p=>bh.after X p λ_ _ q=>q⟩
 match es,xs,hm,h,aQ with
 | .nil,xs,hm,h,aQ=>
  rw [rF hm]
  exact evalArgs_nil3 ⟨B.ll.keeps λb o e=>H.st.stays b o e,wpAny_mono (hc [] O Z [] s h ⟨List.prefix_refl _,λb o e _ _ _=>⟨o.slots,e⟩,H.st.stays,H.st.sr.off,H.st.sr.cells⟩ H aD.nil) (λ_ _ p=>aI.after X0 p) λ_ _ p=>bh.after X0 p λ_ _ q=>q⟩
 | .cons e es,x::xs,hm,h,aQ=>
  rw [te (aN hm λh1 _=>h1)] at aQ ⊢
  exact evalArgs_plain aQ
theorem zB {l:List String} {i:Nat} {x:Str} (h:gG l i x=true):i<l.length∧x=Str.ofString (l.getD i ""):=by
 unfold gG at h
 cases hs:l[i]? with
 |none=>rw [hs] at h;cases h
 |some s=>
  rw [hs] at h
  exact ⟨(List.getElem?_eq_some_iff.mp hs).1,aN h λh1 _=>by rw [eq_of_beq h1,List.getD_eq_getElem?_getD,hs];rfl⟩
theorem ve (B:cz U w J gl bl K) (S:St U w J fl Z O s):K.In s.heap:=B.ll.keeps λb o e=>S.stays b o e
theorem AJ {y:PySem.Expr} {attr:Str} {pos:Pos} {Q:Value→Shared→Prop} (hb:j1 y=true) (h:wpAny (model U w) A (eval y aa) (λo bN=>wpAny (model U w) A (getAttr o attr true) Q E0 bN) E0 s):
  wpAny (model U w) A (eval (.Attribute y attr pos) aa) Q E0 s:=by
 rw [show eval (.Attribute y attr pos) aa=(do
  let o←attributeBase y attr aa (eval y aa)
  standAt pos.atName
  let r←holding [o] (getAttr o attr true)
  letTemporaryGo y o r
  pure r) from rfl,LA hb]
 refine wpAny_bind (wpAny_mono h (λo bN fG=>?_) λ_ _ e=>e)
 refine wpAny_bind (wpAny_standAt (wpAny_bind (wpAny_holding (wpAny_mono fG (λr lH nE=>?_) λ_ _ e=>e))))
 exact wpAny_bind (wpAny_letTemporaryGo (wpAny_pure nE))
theorem DS {sc:Scope}:∀{es:Es} {xs:List PySem.Expr} {L:Locals} {O af:ag} {vs:List V},cC sc nm es xs=true→bw C fu es L O= .ok vs af→vs.length=xs.length
 | .nil,xs,L,O,af,vs,hm,h=>by rw [rF hm];cases (show Out.ok [] O= .ok vs af from h);rfl
 | .cons e es,xs,L,O,af,vs,hm,h=>pz (Ps:=λxs=>vs.length=xs.length) hm λy ys h1 h2=>by
  rcases AG (show (ev C fu e L O).bind _=_ from h) nofun with ⟨v,ae,e1,e2⟩ |⟨_,_,_,e2⟩
  ·rcases AG e2 nofun with ⟨us,az,e3,e4⟩ |⟨_,_,_,e4⟩
   ·cases e4
    exact congrArg Nat.succ (DS h2 e3)
   ·cases e4
  ·cases e2
theorem WH {M:Model} {id:String} (h:Heap) (X:K.In h):∃k,(k=Keeper.frame∨k=Keeper.machine∨k=Keeper.boundFrame)∧Looks M h (keeperOf (.builtin id)) k:=⟨.machine,.inr (.inl rfl),Looks.of_pure rfl⟩
theorem aah {M:Model} (b:Bi) (h:Heap) (X:K.In h):∃k,(k=Keeper.frame∨k=Keeper.machine∨k=Keeper.boundFrame)∧Looks M h (keeperOf (BE b)) k:=by
 cases b<;>exact ⟨.machine,.inr (.inl rfl),Looks.of_pure rfl⟩
theorem CX {c:cj} {m f:Nat} (h:gk c m=some f):f<39∧m<9:=by
 have h:((uv c)[m]?).join=some f:=h
 cases q:(uv c)[m]? with
 |none=>rw [q] at h;cases h
 |some o=>
  rw [q] at h
  have h:o=some f:=h
  subst h
  obtain ⟨a,b⟩:=List.getElem?_eq_some_iff.mp q
  have aQ:∀c:cj,(uv c).length≤9∧∀x∈uv c,x.getD 0<39:=λc=>by cases c<;>decide
  exact ⟨(aQ c).2 _ (List.mem_of_getElem? q),adl a (aQ c).1⟩
theorem OE (kf:KF K) {m:Nat} {c:cj} {h:Heap} {fs:List (Nat×V)} {es:List DictEntry} {dn:Nat} (hm:m<9) (fr:cA J h Z fs es):shadowIn (some (dictOf es dn)) (oH m)=some false:=by
 have:=JF (kf.GR m hm) fr
 show (lookIn (oH m) (dictOf es dn)).map (·.isSome)=_
 rw [lookIn_dict,this];rfl
theorem Yr (B:cz U w J gl bl K) (X:aj aE aP s0 Z s) (H:aR U w J fl aa nm Z O L s) {l:List Nat} {c d:Nat} {va:Value} {k1 p1 k2 p2 pl} {pos:Pos} (kE:c≠d) (r:RV J s.heap Z (.str l) va) (hl:l.length≤8000000):
  wpAny (model U w) A (getMethod va (Str.ofString "replace") pl) (λp lH=>wpAny (model U w) A (callWith pos p.1 p.2 (backTo pos (starEach [.Constant (.str ⟨#[c]⟩) k1 p1,.Constant (.str ⟨#[d]⟩) k2 p2] aa)) [])
      (aI U w J aE aP s0 (.ok (.str (l.map λx=>if x=c then d else x)) O)) E0 lH) E0 s:=by
 obtain ⟨⟨t,rfl⟩,_⟩:=r
 with_reducible refine GM.replace ?_
 refine callWith_builtin (by rfl) (evalArgs_plain ?_)
 refine spliced_more (wpAny_Constant_str (spliced_more (wpAny_Constant_str (spliced_none ?_)) rfl)) rfl
 have ht:=H.st.tok
 refine SC.replace (x:=mk l) (y:=mk [c]) (z:=mk [d]) (by show s.toks≠0;omega) (by show s.toks+1≠0;omega) (by show s.toks≠s.toks+1;omega) ?_ ?_ λt' k=>?_
 ·rw [beq_eq_false_iff_ne]
  exact λe=>kE (by have:=vH e;injection this)
 ·rw [show (mk l).length=l.length from str_len l]
  show l.length+(l.length+1)*1≤16777216
  omega
 ·rw [NM]
  exact aI.after X (aI.same H.st.sr (iH _ (by rw [List.length_map];unfold aq;omega)) _)
noncomputable def qg (J h:Heap) (Z:aH) (v:V) (b:Bool) (va:Value):Prop:=cond b (RV J h Z v va) (va= .none)
theorem qg.mono {h h':Heap} (k:VK J Z h ai h') {v:V} {b:Bool} {va:Value} (p:qg J h Z v b va):qg J h' ai v b va:=match b,p with
 |true,p=>RV.mono k p
 |false,p=>p
theorem Kn {e:E} {l:Option PySem.Expr} {b:Bool} {f:V→ag→Out V} {out:Out V} {Q:Value→Shared→Prop} (V:gx U w J gl bl fl A C fu e) (hm:tL (aF aa.scope nm e) (qC e) l b=true) (eo:bJ gl bl aa) (H:aR U w J fl aa nm Z O L s) (X:aj aE aP s0 Z s)
    (h:(ev C fu e L O).bind f=out) (hn:out≠ .stuck) (k:∀v ae va ao s1,f v ae=out→aj aE aP s0 ao s1→VK J Z s.heap ao s1.heap→aR U w J fl aa nm ao ae L s1→qg J s1.heap ao v b va→Q va s1):
  wpAny (model U w) A (evalPart l aa) Q (bh U w J (· ∈bb fl) aP s0 out) s:=match l,b,hm,k with
 |some x,b,hm,k=>aN hm λh1 h2=>match b,h1,k with
  |true,_,k=>evalPart_some_step (step V h2 eo H X h hn k)
 |none,b,hm,k=>aN hm λh1 h2=>match b,h1,k with
  |false,_,k=>aal (P:=λe=>(ev C fu e L O).bind f=out→wpAny (model U w) A (evalPart none aa) Q _ s) h2 (λh=>evalPart_none_step (k .none O .none Z s h X ⟨List.prefix_refl _,λb o e _ _ _=>⟨o.slots,e⟩,H.st.stays,H.st.sr.off,H.st.sr.cells⟩ H rfl)) h
inductive qr (v:Value) (k:Option Nat):Prop where
 |mk (i:Option (Int×Tok)) (e:v=partValue i) (hm:i.map (·.1)=k.map λ(n:Nat)=>(n:Int)) (hp:IsPart v (k.map λ(n:Nat)=>(n:Int))):qr v k
theorem Jm {h:Heap} {b:Bool} {y:V} {v:Value} {k:Option Nat} (hk:kL y b=some k) (r:qg J h Z y b v):qr v k:=match b,hk,r with
 |false,hk,r=>co (P:=qr v) hk ((show v= .none from r)▸⟨none,rfl,rfl,.none⟩)
 |true,hk,r=>dB (P:=λ_ v=>qr v k) hk sn r λi t hk=>dc hk sn λhi hk=>co (P:=qr (.int i t)) hk (by
   have e:((i.toNat:Nat):Int)=i:=Int.toNat_of_nonneg hi.1
   exact ⟨some (i,t),rfl,by simp [e],by simp only [Option.map_some,e];exact IsPart.int i t⟩)
theorem Pw {α:Type} (l:List α) (lo hi:Option Nat):(kD l lo hi).length≤l.length:=by
 have a:∀(l:List α) k,(l.drop k).length≤l.length:=λl k=>by rw [List.length_drop];exact Nat.sub_le ..
 have b:∀(l:List α) k,(l.take k).length≤l.length:=λl k=>by rw [List.length_take];exact Nat.min_le_right ..
 cases lo<;>cases hi
 ·exact adq _
 ·exact b _ _
 ·exact a _ _
 ·exact adk (a _ _) (b _ _)
theorem FO {value:PySem.Expr} {lo up st:Option PySem.Expr} {sp:Pos} {vl vu:Value} {us:List V} {k1 k2:Option Nat} {out:Out V} {a:Addr} {ws:Array Value} (H:aR U w J fl aa nm Z O L s) (X:aj aE aP s0 Z s) (hl:s.heap.IsList a ws) (rs:aD J s.heap Z us ws.toList) (hz:ws.size≤aq)
    (p1:qr vl k1) (p2:qr vu k2) (h:Dv O us k1 k2=out) (hn:out≠ .stuck) (ma:subscripted (.Slice lo up st sp) false (.ref a) (.ref s.heap.objs.size)=operate [.ref s.heap.objs.size,.ref a] (getItem (.ref a) (.ref s.heap.objs.size))):
  wpAny (model U w) A (subscriptTail value (.Slice lo up st sp) (.ref a) (.ref s.heap.objs.size)) (aI U w J aE aP s0 out) E0 {s with heap:=s.heap.push {cls:= .type "slice",data:= .fields #[vl,vu,.none]}}:=by
 match k1,h with
 |none,h=>
  refine fk h hn λk hk h=>?_
  subst hk
  have Xp:=aj.push aE Z s {cls:= .type "slice",data:= .fields #[vl,vu,.none]} s.toks
  have Hp:aR U w J fl aa nm Z O L {s with heap:=s.heap.push {cls:= .type "slice",data:= .fields #[vl,vu,.none]}}:=H.ext Xp (oP H.st _) (adq _)
  have vw:(s.heap.push {cls:= .type "slice",data:= .fields #[vl,vu,.none]}).IsList a ws:=hl.push _
  obtain ⟨_,_,_,q1⟩:=p1
  obtain ⟨_,_,_,q2⟩:=p2
  refine tail_any (T:="list") vw.typeIs list_getitem_lookup (wpAny_getItem_list_slice vw (Heap.IsSliceOf.new ..) q1 q2 .none (by simp) ?_ (by rw [←gW];exact hz)) ma
  simp only [Option.map_none,Option.map_some]
  rw [slicePick_upto']
  refine h▸aI.after (X.trans Xp) (CU Hp.st (aD.take (aD.mono (Xp.fp H.st) rs) _) ?_ s.toks 0)
  have:=aD.length rs
  rw [Array.length_toList] at this
  rw [List.length_take, ←this];exact adk (Nat.min_le_right ..) hz
 |some _,h=>exact absurd h.symm hn
theorem Vw {value:PySem.Expr} {lo up:Option PySem.Expr} {sp:Pos} {o vl vu:Value} {x y z:V} {hl hh:Bool} {out:Out V} (H:aR U w J fl aa nm Z O L s) (X:aj aE aP s0 Z s) (rx:RV J s.heap Z x o) (ry:qg J s.heap Z y hl vl) (rz:qg J s.heap Z z hh vu) (h:jx O x y z hl hh=out) (hn:out≠ .stuck):
  wpAny (model U w) A (subscriptTail value (.Slice lo up none sp) o (.ref s.heap.objs.size)) (aI U w J aE aP s0 out) E0 {s with heap:=s.heap.push {cls:= .type "slice",data:= .fields #[vl,vu,.none]}}:=by
 refine fk h hn λk1 e1 h=>fk h hn λk2 e2 h=>?_
 have p1:=Jm e1 ry
 have p2:=Jm e2 rz
 have Xp:=aj.push aE Z s {cls:= .type "slice",data:= .fields #[vl,vu,.none]} s.toks
 match x,rx,h with
 | .str t,rx,h=>
  obtain ⟨i1,rfl,m1,_⟩:=p1
  obtain ⟨i2,rfl,m2,_⟩:=p2
  refine tQ (P:=λo=>wpAny (model U w) A (subscriptTail value (.Slice lo up none sp) o (.ref s.heap.objs.size)) (aI U w J aE aP s0 out) E0 _) rx λtk hz=>?_
  refine tail_any (ops:=[.ref s.heap.objs.size,.str ⟨t.toArray⟩ tk]) (T:="str") (typeIs_str _ _ _) PySem.F.slot_str_getitem.lookup (wpAny_getItem_str_slice (l:=i1) (u:=i2) (st:=none) ⟨_,Heap.get?_push_size _ rfl,rfl,rfl⟩ rfl ?_) rfl
  exact QO hz m1 m2 λt' k=>h▸aI.after (X.trans Xp) (aI.same (oP H.st _) (iH _ (adk (Pw ..) hz)) k)
 | .frozen us,⟨a,o',ws,e,hb,Bc,hz,rs⟩,h=>exact e▸FO H X Bc rs hz p1 p2 h hn rfl
 | .ref m,rx,h=>
  refine tY (P:=λo=>wpAny (model U w) A (subscriptTail value (.Slice lo up none sp) o (.ref s.heap.objs.size)) (aI U w J aE aP s0 out) E0 _) rx λp hp=>iC H.st.sr hp h hn λus hs Lt h=>?_
  obtain ⟨ws,Bc,rs,bO,hz⟩:=Lt
  exact FO H X Bc.isList rs (bO▸hz) p1 p2 h hn rfl
 | .none,_,h | .bool _,_,h | .int _,_,h | .tup _,_,h=>exact absurd h.symm hn
theorem Tg {M:Model} {o i:Value}:∀{x:PySem.Expr},kU x=true→subscripted x false o i=operate [o,i] (getItem o i):=by
 intro x
 cases x<;>first |exact λ_=>rfl |exact λh=>absurd h Bool.false_ne_true
noncomputable def Plain (x:PySem.Expr):Prop:=∀(aa:Env) (C6:Sem Value),isTrue x aa C6=(do let v←C6;standAt x.pos;holding [v] (truthy v))
noncomputable def a7 (U:Program) (w:World) (J:Heap) (gl bl:Addr) (fl:List Env) (A:Around) (C:Calls) (fu:Nat) (e:E):Prop:=gx U w J gl bl fl A C fu e∧sz U w J gl bl fl A C fu e
theorem gu {e:E} (hp:∀{sc:Scope} {nm:List Str} {x:PySem.Expr},aF sc nm e x=true→Plain x) (V:gx U w J gl bl fl A C fu e):a7 U w J gl bl fl A C fu e:=
 ⟨V,λ{aa nm x L O out Z s} hm eo H h hn hb=>wpAny_isTrue_value (XE hb (V hm eo H h hn)) (hp hm _ _)⟩
section
variable {a b c:E} {es:Es}
theorem u0 {e:E} {v:V} (hp:∀{sc:Scope} {nm:List Str} {x:PySem.Expr},aF sc nm e x=true→Plain x) (he:∀L O,ev C fu e L O= .ok v O)
    (k:∀{aa:Env} {nm:List Str} {x:PySem.Expr} {L:Locals} {O:ag} {Z:aH} {s:Shared},aF aa.scope nm e x=true→bJ gl bl aa→aR U w J fl aa nm Z O L s→wpAny (model U w) A (eval x aa) (aI U w J aE Z s (.ok v O)) (bh U w J (· ∈bb fl) Z s (.ok v O)) s):a7 U w J gl bl fl A C fu e:=
 gu hp λ{aa nm x L O out Z s} hm eo H h hn=>h▸he L O▸k hm eo H
theorem VH:a7 U w J gl bl fl A C fu .none:=u0 (λh=>Ad (P:=Plain) h λ_ _ _ _=>rfl) (λ_ _=>rfl) λ{aa nm x L O Z s} hm eo H=>Ad (P:=λx=>wpAny (model U w) A (eval x aa) _ _ s) hm λ_ _=>wpAny_Constant_none (aI.here H.st.sr xY)
theorem VB {p:Bool}:a7 U w J gl bl fl A C fu (.bool p):=u0 (λh=>Ce (P:=Plain) h λ_ _ _ _=>rfl) (λ_ _=>rfl) λ{aa nm x L O Z s} hm eo H=>Ce (P:=λx=>wpAny (model U w) A (eval x aa) _ _ s) hm λ_ _=>wpAny_Constant_bool (aI.here H.st.sr (iL _))
theorem Rn {i:Int}:a7 U w J gl bl fl A C fu (.int i):=u0 (λh=>zH (P:=Plain) h λ_ _ _ _=>rfl) (λ_ _=>rfl) λ{aa nm x L O Z s} hm eo H=>zH (P:=λx=>wpAny (model U w) A (eval x aa) _ _ s) hm λ_ _=>wpAny_Constant_int (aI.same H.st.sr (eY _ _) _)
theorem Wc {l:List Nat}:a7 U w J gl bl fl A C fu (.str l):=u0 (λh=>zu (P:=Plain) h λ_ _ _ _ _=>rfl) (λ_ _=>rfl) λ{aa nm x L O Z s} hm eo H=>zu (P:=λx=>wpAny (model U w) A (eval x aa) _ _ s) hm λ_ _ hl=>wpAny_Constant_str (aI.same H.st.sr (iH _ (adk hl (by decide))) _)
theorem Xv {i:Nat}:a7 U w J gl bl fl A C fu (.loc i):=gu (λh=>z8 (P:=Plain) h λ_ _ _ _ _=>rfl) λ{aa nm x L O out Z s} hm eo H h hn=>z8 (P:=λx=>wpAny (model U w) A (eval x aa) _ _ s) hm λy p hi=>
 oQ (P:=λout=>wpAny (model U w) A (eval (.Name y p) aa) (aI U w J aE Z s out) (bh U w J _ Z s out) s) h hn λv hv=>wpAny_Name (D5 eo H hi hv) (beq_eq_false_iff_ne.mpr (aN hi λhi _=>aN hi λ_ hi=>bne_iff_ne.1 hi))
theorem aaE (B:cz U w J gl bl K) {i:Nat}:a7 U w J gl bl fl A C fu (.jS i):=u0 (λh=>DK (P:=Plain) h λ_ _ _ _ _ _=>rfl) (λ_ _=>rfl) λ{aa nm x L O Z s} hm eo H=>DK (P:=λx=>wpAny (model U w) A (eval x aa) _ _ s) hm λy p h1 h2=>match B.g.jS i y h1 with
 |⟨t,g⟩=>o6 eo H g h2 (aI.here H.st.sr (eY _ _))
theorem Zl (a1:a7 U w J gl bl fl A C fu a) (b1:a7 U w J gl bl fl A C fu b) {op:BinOp}:a7 U w J gl bl fl A C fu (.bin op a b):=gu (λh=>C2 (P:=Plain) h λ_ _ _ _ _ _ _=>rfl) λ{aa nm x L O out Z s} hm eo H h hn=>C2 (P:=λx=>wpAny (model U w) A (eval x aa) _ _ s) hm λl r p h1 h2=>
 wpAny_BinOp (step a1.1 h1 eo H (aj.refl _ _ _) h hn λv ae va ao s1 h X1 _ H1 r1=>step b1.1 h2 eo H1 X1 h hn λu az vb eT s2 h X2 k2 H2 r2=>
  oQ (P:=λout=>wpAny (model U w) A (binaryOp (jB op) va vb) (aI U w J aE Z s out) (bh U w J _ Z s out) s2) h hn λz hz=>fin X2 (Zq H2.st.sr (RV.mono k2 r1) r2 hz))
theorem Nu (B:cz U w J gl bl K) (R:bI n 10 fl A) (a1:a7 U w J gl bl fl A C fu a) (b1:a7 U w J gl bl fl A C fu b) {op:mD} {l r:PySem.Expr} {out:Out V} (h1:aF aa.scope nm a l=true) (h2:aF aa.scope nm b r=true) (eo:bJ gl bl aa) (H:aR U w J fl aa nm Z O L s) (h:ev C fu (.cmp op a b) L O=out) (hn:out≠ .stuck)
  {Q:Value→Shared→Prop} (k:∀c s',aI U w J aE Z s out (.bool c) s'→Q (.bool c) s'):
  wpAny (model U w) A (eval l aa) (λva bN=>wpAny (model U w) A (eval r aa) (λvb lH=>wpAny (model U w) A (compareOp (f7 op) va vb) Q (bh U w J (· ∈bb fl) Z s out) lH) (bh U w J (· ∈bb fl) Z s out) bN) (bh U w J (· ∈bb fl) Z s out) s:=
 step a1.1 h1 eo H (aj.refl _ _ _) h hn λv ae va ao s1 h X1 _ H1 r1=>step b1.1 h2 eo H1 X1 h hn λu az vb eT s2 h X2 k2 H2 r2=>
  oQ (P:=λout=>(∀c s',aI U w J aE Z s out (.bool c) s'→Q (.bool c) s')→wpAny (model U w) A (compareOp (f7 op) va vb) Q (bh U w J _ Z s out) s2) h hn (λz hz=>
   aaL (G:=λz=>(∀c s',aI U w J aE Z s (.ok z az) (.bool c) s'→Q (.bool c) s')→wpAny (model U w) A (compareOp (f7 op) va vb) Q (bh U w J _ Z s (.ok z az)) s2) B.sys H2.st.sr (bI.cmp R) (RV.mono k2 r1) r2 hz
        λc hc k=>wpAny_mono hc (λv s' e=>match e with | .mk t=>k c _ (aI.after X2 (aI.same H2.st.sr (iL _) t))) λ_ _ x=>x) k
theorem Ui (B:cz U w J gl bl K) (R:bI n 10 fl A) (a1:a7 U w J gl bl fl A C fu a) (b1:a7 U w J gl bl fl A C fu b) {op:mD}:a7 U w J gl bl fl A C fu (.cmp op a b):=
 ⟨λ{aa nm x L O out Z s} hm eo H h hn=>yY (P:=λx=>wpAny (model U w) A (eval x aa) _ _ s) hm λl r p hq h1 h2=>wpAny_Compare1 (Nu B R a1 b1 h1 h2 eo H h hn λ_ _ p=>p) hq,
   λ{aa nm x L O out Z s} hm eo H h hn hb=>yY (P:=λx=>wpAny (model U w) A (isTrue x aa (eval x aa)) _ _ s) hm λl r p hq h1 h2=>wpAny_isTrue_Compare1 (Nu B R a1 b1 h1 h2 eo H h hn λ_ _ p=>wpAny_truthy_bool p) hq⟩
theorem UM (Ls:fh U w J gl bl fl A C fu es):a7 U w J gl bl fl A C fu (.and es):=
 ⟨λ{aa nm x L O out Z s} hm eo H h hn=>CP (P:=λx=>wpAny (model U w) A (eval x aa) _ _ s) hm λvs p h1=>(arm_eval_BoolOp .And vs p aa)▸(tP true Ls h1 eo H h hn).1,
   λ{aa nm x L O out Z s} hm eo H h hn hb=>CP (P:=λx=>wpAny (model U w) A (isTrue x aa (eval x aa)) _ _ s) hm λvs p h1=>wpAny_isTrue_BoolOp (tP true Ls (pos:=p) h1 eo H h hn).2⟩
theorem abq (Ls:fh U w J gl bl fl A C fu es):a7 U w J gl bl fl A C fu (.or es):=
 ⟨λ{aa nm x L O out Z s} hm eo H h hn=>AQ (P:=λx=>wpAny (model U w) A (eval x aa) _ _ s) hm λvs p h1=>(arm_eval_BoolOp .Or vs p aa)▸(tP false Ls h1 eo H h hn).1,
   λ{aa nm x L O out Z s} hm eo H h hn hb=>AQ (P:=λx=>wpAny (model U w) A (isTrue x aa (eval x aa)) _ _ s) hm λvs p h1=>wpAny_isTrue_BoolOp (tP false Ls (pos:=p) h1 eo H h hn).2⟩
theorem ZV (a1:a7 U w J gl bl fl A C fu a):a7 U w J gl bl fl A C fu (.not a):=
 ⟨λ{aa nm x L O out Z s} hm eo H h hn=>zv (P:=λx=>wpAny (model U w) A (eval x aa) _ _ s) hm λy p h1=>wpAny_UnaryOp (step a1.1 h1 eo H (aj.refl _ _ _) h hn λv ae va ao s1 h X1 _ H1 r1=>Ai h hn r1 λb h=>h▸PyProof.Rows.not_of (wpAny_truthy_bool ⟨ao,X1,H1.st.sr,iL _⟩)),
   λ{aa nm x L O out Z s} hm eo H h hn hb=>zv (P:=λx=>wpAny (model U w) A (isTrue x aa (eval x aa)) _ _ s) hm λy p h1=>wpAny_isTrue_Not (stepT a1.2 h1 eo H (aj.refl _ _ _) h hn λb ae ao s1 h X1 H1=>h▸⟨ao,X1,H1.st.sr,iL _⟩)⟩
theorem Sw (a1:a7 U w J gl bl fl A C fu a):a7 U w J gl bl fl A C fu (.neg a):=gu (λh=>zl (P:=Plain) h λ_ _ _ _ _=>rfl) λ{aa nm x L O out Z s} hm eo H h hn=>zl (P:=λx=>wpAny (model U w) A (eval x aa) _ _ s) hm λy p h1=>
 wpAny_UnaryOp (step a1.1 h1 eo H (aj.refl _ _ _) h hn λv ae va ao s1 h X1 _ H1 r1=>dB h hn r1 λi t h=>h▸PyProof.Rows.neg_int (aI.after X1 (aI.same H1.st.sr (eY _ _) _)))
theorem QX (c1:a7 U w J gl bl fl A C fu c) (a1:a7 U w J gl bl fl A C fu a) (b1:a7 U w J gl bl fl A C fu b):a7 U w J gl bl fl A C fu (.ite c a b):=
 ⟨λ{aa nm x L O out Z s} hm eo H h hn=>zh (P:=λx=>wpAny (model U w) A (eval x aa) _ _ s) hm λt y z p h1 h2 h3=>wpAny_IfExp (stepT c1.2 h1 eo H (aj.refl _ _ _) h hn λt ae ao s1 h X1 H1=>match t,h with
   |true,h=>NB a1.1 h2 eo H1 X1 h hn
   |false,h=>NB b1.1 h3 eo H1 X1 h hn),
  λ{aa nm x L O out Z s} hm eo H h hn hb=>zh (P:=λx=>wpAny (model U w) A (isTrue x aa (eval x aa)) _ _ s) hm λt y z p h1 h2 h3=>isTrue_IfExp (stepT c1.2 h1 eo H (aj.refl _ _ _) h hn λt ae ao s1 h X1 H1=>match t,h with
   |true,h=>FY a1.2 h2 eo H1 X1 h hn hb
   |false,h=>FY b1.2 h3 eo H1 X1 h hn hb)⟩
theorem PT (Ls:fh U w J gl bl fl A C fu es):a7 U w J gl bl fl A C fu (.tup es):=gu (λh=>zG (P:=Plain) h λ_ _ _ _ _ _ _=>rfl) λ{aa nm x L O out Z s} hm eo H h hn=>zG (P:=λx=>wpAny (model U w) A (eval x aa) _ _ s) hm λvs q p hz h1=>
 PySem.wpAny_Tuple_spliced (yk (kZ Ls) h1 eo H (aj.refl _ _ _) h hn λus ae ws ao s1 e h X1 _ H1 r1=>h▸⟨by rw [aD.length r1,DS h1 e, ←gW];exact adk hz (by decide),aI.after X1 (FD H1.st r1 s1.toks)⟩)
theorem Zy (Ls:fh U w J gl bl fl A C fu es):a7 U w J gl bl fl A C fu (.list es):=gu (λh=>CR (P:=Plain) h λ_ _ _ _ _ _=>rfl) λ{aa nm x L O out Z s} hm eo H h hn=>CR (P:=λx=>wpAny (model U w) A (eval x aa) _ _ s) hm λvs p hz h1=>
 PySem.wpAny_List_spliced (yk (kZ Ls) h1 eo H (aj.refl _ _ _) h hn λus ae ws ao s1 e h X1 _ H1 r1=>
  have HY:us.length≤aq:=DS h1 e▸adk hz (by decide)
  h▸⟨by rw [aD.length r1, ←gW];exact HY,aI.after X1 (CU H1.st r1 HY s1.toks 0)⟩)
theorem ZP {ks:List (List Nat)} (Ls:fh U w J gl bl fl A C fu es):a7 U w J gl bl fl A C fu (.dict ks es):=gu (λh=>Af (P:=Plain) h λ_ _ _ _ _ _ _ _ _=>rfl) λ{aa nm x L O out Z s} hm eo H h hn=>Af (P:=λx=>wpAny (model U w) A (eval x aa) _ _ s) hm λcu vs p h1 h2 hz hl=>Wg eo H h1 h2 hl hz Ls h hn
theorem Oh (a1:a7 U w J gl bl fl A C fu a) (b1:a7 U w J gl bl fl A C fu b):a7 U w J gl bl fl A C fu (.idx a b):=gu (λh=>Bg (P:=Plain) h λ_ _ _ _ _ _ _ _=>rfl) λ{aa nm x L O out Z s} hm eo H h hn=>Bg (P:=λx=>wpAny (model U w) A (eval x aa) _ _ s) hm λy j p h1 h2 h3=>
 PyProof.Rows.Subscript_ (step a1.1 h1 eo H (aj.refl _ _ _) h hn λv ae va ao s1 h X1 _ H1 r1=>step b1.1 h2 eo H1 X1 h hn λu az vb eT s2 h X2 k2 H2 r2=>
  oQ (P:=λout=>wpAny (model U w) A (subscriptTail y j va vb) (aI U w J aE Z s out) (bh U w J _ Z s out) s2) h hn λz hz=>match Ea (A:=A) (E:=bh U w J (· ∈bb fl) Z s (.ok z az)) (X:=aE) H2.st.sr (RV.mono k2 r1) r2 hz with
   |⟨T,id,g,hT,hl⟩=>fin X2 (tail_any (ops:=[va,vb]) hT hl g (Tg (M:=model U w) h3)))
theorem Rw (a1:a7 U w J gl bl fl A C fu a) (b1:a7 U w J gl bl fl A C fu b) (c1:a7 U w J gl bl fl A C fu c) {hl hh:Bool}:a7 U w J gl bl fl A C fu (.slice a b c hl hh):=gu (λh=>DY (P:=Plain) h λ_ _ _ _ _ _ _ _ _ _=>rfl) λ{aa nm x L O out Z s} hm eo H h hn=>DY (P:=λx=>wpAny (model U w) A (eval x aa) _ _ s) hm λy l u q p h1 h2 h3=>
 PyProof.Rows.Subscript_ (step a1.1 h1 eo H (aj.refl _ _ _) h hn λv ae va ao s1 h X1 _ H1 r1=>wpAny_Slice (Kn b1.1 h2 eo H1 X1 h hn λu az vb eT s2 h X2 k2 H2 r2=>Kn c1.1 h3 eo H2 X2 h hn λz cN vc om s3 h X3 k3 H3 r3=>
  evalPart_none_step (Vw H3 X3 (RV.mono k3 (RV.mono k2 r1)) (r2.mono k3) r3 h hn)))
theorem Xo (B:cz U w J gl bl K) (a1:a7 U w J gl bl fl A C fu a) {f:Nat}:a7 U w J gl bl fl A C fu (.attr a f):=gu (λh=>zr (P:=Plain) h λ_ _ _ _ _ _ _ _=>rfl) λ{aa nm x L O out Z s} hm eo H h hn=>zr (P:=λx=>wpAny (model U w) A (eval x aa) _ _ s) hm λy nn p h1 h2 h3=>
 AJ h3 (step a1.1 h2 eo H (aj.refl _ _ _) h hn λv ae va ao s1 h X1 _ H1 r1=>
  oQ (P:=λout=>wpAny (model U w) A (getAttr va nn true) (aI U w J aE Z s out) (bh U w J _ Z s out) s1) h hn λz hz=>match zB h1 with
   |⟨hf,e⟩=>e▸fin X1 (T7 B.kf (ve B H1.st) H1.st.sr hf r1 hz))
theorem Un (B:cz U w J gl bl K) (CO:js U w J n C) (R:bI n 10 fl A) (Ls:fh U w J gl bl fl A C fu es) {f:Nat}:a7 U w J gl bl fl A C fu (.call f es):=gu (λh=>Ed (P:=Plain) h λ_ _ _ _ _ _ _ _ _=>rfl) λ{aa nm x L O out Z s} hm eo H h hn=>Ed (P:=λx=>wpAny (model U w) A (eval x aa) _ _ s) hm λy q args p h1 h2 h3=>
 wpAny_Call_NameR (o6 eo H (B.g.fn f y h1) h2 (uq B (λh X=>keeps_K (B.kf.kp f (TC h1)) h X) (aj.refl _ _ _) eo H h3 (kZ Ls) h hn λvs ae ao ws s1 h k H1 r1=>CO.call h hn (R.weaken (adq _) (ads _)) H1.st r1))
theorem UB (B:cz U w J gl bl K) (CO:js U w J n C) (R:bI n 10 fl A) (Ls:fh U w J gl bl fl A C fu es) {c:cj}:a7 U w J gl bl fl A C fu (.new c es):=gu (λh=>A7 (P:=Plain) h λ_ _ _ _ _ _ _=>rfl) λ{aa nm x L O out Z s} hm eo H h hn=>A7 (P:=λx=>wpAny (model U w) A (eval x aa) _ _ s) hm λq args p h2 h3=>
 wpAny_Call_NameR (o6 eo H (B.g.cls c) h2 (uq B (λh X=>keeps_K (B.kf.kc c) h X) (aj.refl _ _ _) eo H h3 (kZ Ls) h hn λvs ae ao ws s1 h k H1 r1=>OW B CO R H1.st h hn r1))
theorem Qf (B:cz U w J gl bl K) (R:bI n 10 fl A) (Ls:fh U w J gl bl fl A C fu es) {p:Bi}:a7 U w J gl bl fl A C fu (.bi p es):=gu (λh=>C5 (P:=Plain) h λ_ _ _ _ _ _ _=>rfl) λ{aa nm x L O out Z s} hm eo H h hn=>C5 (P:=λx=>wpAny (model U w) A (eval x aa) _ _ s) hm λq args pp h2 h3=>
 wpAny_Call_NameR (o6 eo H (B.g.bi p) h2 (uq B (aah p) (aj.refl _ _ _) eo H h3 (kZ Ls) h hn λvs ae ao ws s1 h k H1 r1=>RD B.sys H1.st R.hand h hn r1))
theorem OU (B:cz U w J gl bl K) (R:bI n 10 fl A) (a1:a7 U w J gl bl fl A C fu a) (b1:a7 U w J gl bl fl A C fu b) {caps:List Nat}:a7 U w J gl bl fl A C fu (.comp a caps b):=gu (λh=>wO (P:=Plain) h λ_ _ _ _ _ _ _ _ _ _ _=>rfl) λ{aa nm x L O out Z s} hm eo H h hn=>wO (P:=λx=>wpAny (model U w) A (eval x aa) _ _ s) hm λpe y q cK aG p h1 h2 h3=>Fi eo (Hi h1) h2 h3 a1.1 (G9 R eo H h1 b1.1 h hn λe af q v s' x _=>q▸x)
theorem Y2 (B:cz U w J gl bl K) (R:bI n 10 fl A) (a1:a7 U w J gl bl fl A C fu a) (b1:a7 U w J gl bl fl A C fu b) {caps:List Nat}:a7 U w J gl bl fl A C fu (.jw a caps b):=gu (λh=>xm (P:=Plain) h λ_ _ _ _ _ _ _ _ _ _ _ _ _ _=>rfl) λ{aa nm x L O out Z s} hm eo H h hn=>xm (P:=λx=>wpAny (model U w) A (eval x aa) _ _ s) hm λpe y q pr pn pc aG p h0 h1 h2 h3=>Fi eo (λ_=>rfl) h2 h3 a1.1 (Hd B R eo H h0 h1 b1.1 h hn λe af q v s' x _=>q▸x)
theorem Vk (B:cz U w J gl bl K) (a1:a7 U w J gl bl fl A C fu a) (Ls:fh U w J gl bl fl A C fu es) {m:Bm}:a7 U w J gl bl fl A C fu (.bt m a es):=gu (λh=>ze (P:=Plain) h λ_ _ _ _ _ _ _ _ _ _ _=>rfl) λ{aa nm x L O out Z s} hm eo H h hn=>ze (P:=λx=>wpAny (model U w) A (eval x aa) _ _ s) hm λy ap args p h2 h3 h4 h5 h6=>
 Az h4 (sO h3 aa p) h6 h5 (step a1.1 h2 eo H (aj.refl _ _ _) h hn λv ae va ao s1 h X1 _ H1 r1=>dc h hn λhk h=>NV H1.st.sr hk r1
    (uq B (WH (id:=m.id)) X1 eo H1 h3 (kZ Ls) h hn λvs az eT ws s2 h k2 H2 r2=>Wa B.sys H2.st (RV.mono k2 r1) r2 h hn))
theorem WS (B:cz U w J gl bl K) (CO:js U w J n C) (R:bI n 10 fl A) (Ls:fh U w J gl bl fl A C fu es) {m:Nat} {v:V} {va:Value} {args:List PySem.Expr} {p:Pos} {out:Out V} {pl:Sem Bool} (Cv:m<9) (h3:cC aa.scope nm es args=true) (eo:bJ gl bl aa) (H1:aR U w J fl aa nm Z O L s) (X1:aj aE aP s0 Z s) (r1:RV J s.heap Z v va)
    (h:(bK (ME O v) .stuck λc=>bK (gk c m) .stuck λf=>(bw C fu es L O).bind λvs O=>C f (v::vs) O)=out) (hn:out≠ .stuck):
  wpAny (model U w) A (getMethod va (oH m) pl) (λq lH=>wpAny (model U w) A (callWith p q.1 q.2 (backTo p (starEach args aa)) []) (aI U w J aE aP s0 out) (bh U w J (· ∈bb fl) aP s0 out) lH) (bh U w J (· ∈bb fl) aP s0 out) s:=
 fk h hn λc hc h=>fk h hn λf hf h=>gf (P:=λv va=>RV J s.heap Z v va→((bw C fu es L O).bind λvs O=>C f (v::vs) O)=out→wpAny (model U w) A (getMethod va (oH m) pl) _ _ s) hc sn r1 (λnn q hq hc r1 h=>
  Ez H1.st.sr hq hc sn λc' fs hs I e=>match I with
   |⟨abD,dn,g1,g2,fr,_,_⟩=>have hf:gk c' m=some f:=Option.some.inj e▸hf
    method_fn (ve B H1.st) (C1 g1 g2) (B.kf.ga c') (B.kf.Ms c') (B.kf.GY c' m f hf) (B.kf.isFn f (CX hf).1) (OE B.kf (c:=c') Cv fr)
    (uq B (λh X=>keeps_K (B.kf.kp f (CX hf).1) h X) X1 eo H1 h3 (kZ Ls) h hn λvs az eT ws s2 h k2 H2 r2=>CO.call h hn (R.weaken (adq _) (ads _)) H2.st (aD.cons (RV.mono k2 r1) r2))) r1 h
theorem aav (B:cz U w J gl bl K) (CO:js U w J n C) (R:bI n 10 fl A) (a1:a7 U w J gl bl fl A C fu a) (Ls:fh U w J gl bl fl A C fu es) {m:Nat}:a7 U w J gl bl fl A C fu (.own a m es):=gu (λh=>Et (P:=Plain) h λ_ _ _ _ _ _ _ _ _ _ _ _ _=>rfl) λ{aa nm x L O out Z s} hm eo H h hn=>Et (P:=λx=>wpAny (model U w) A (eval x aa) _ _ s) hm λy nn ap args p h1 h2 h3 h4 h5 h6=>
 Az h4 (sO h3 aa p) h6 h5 (step a1.1 h2 eo H (aj.refl _ _ _) h hn λv ae va ao s1 h X1 _ H1 r1=>match zB h1 with
  |⟨Cv,e⟩=>e▸WS B CO R Ls Cv h3 eo H1 X1 r1 h hn)
theorem YQ (B:cz U w J gl bl K) (a1:a7 U w J gl bl fl A C fu a) {c d:Nat}:a7 U w J gl bl fl A C fu (.j4 a c d):=gu (λh=>AD (P:=Plain) h λ_ _ _ _ _ _ _ _ _ _ _ _ _=>rfl) λ{aa nm x L O out Z s} hm eo H h hn=>AD (P:=λx=>wpAny (model U w) A (eval x aa) _ _ s) hm λy ap k1 p1 k2 p2 p h2 h4 h5 kE=>
 Az h4 rfl (by show 3<30;decide) h5 (step a1.1 h2 eo H (aj.refl _ _ _) h hn λv ae va ao s1 h X1 _ H1 r1=>ej (P:=λv va=>RV J s1.heap ao v va→wpAny (model U w) A (getMethod va (Str.ofString "replace") _) _ _ s1) h hn r1 (λl t _ h r1=>dc h hn λhl h=>h▸Yr B X1 H1 kE r1 hl) r1)
end
mutual
theorem d9 (B:cz U w J gl bl K) (CO:js U w J n C) (R:bI n 10 fl A):∀e:E,a7 U w J gl bl fl A C fu e
 | .none=>VH
 | .bool b=>VB
 | .int i=>Rn
 | .str l=>Wc
 | .loc i=>Xv
 | .jS i=>aaE B
 | .bin op a b=>Zl (d9 B CO R a) (d9 B CO R b)
 | .cmp op a b=>Ui B R (d9 B CO R a) (d9 B CO R b)
 | .and es=>UM (jt B CO R es)
 | .or es=>abq (jt B CO R es)
 | .not a=>ZV (d9 B CO R a)
 | .neg a=>Sw (d9 B CO R a)
 | .ite c a b=>QX (d9 B CO R c) (d9 B CO R a) (d9 B CO R b)
 | .tup es=>PT (jt B CO R es)
 | .list es=>Zy (jt B CO R es)
 | .dict ks es=>ZP (jt B CO R es)
 | .idx a i=>Oh (d9 B CO R a) (d9 B CO R i)
 | .slice a lo hi hl hh=>Rw (d9 B CO R a) (d9 B CO R lo) (d9 B CO R hi)
 | .attr a f=>Xo B (d9 B CO R a)
 | .call f es=>Un B CO R (jt B CO R es)
 | .own a m es=>aav B CO R (d9 B CO R a) (jt B CO R es)
 | .bt m a es=>Vk B (d9 B CO R a) (jt B CO R es)
 | .j4 a c d=>YQ B (d9 B CO R a)
 | .new c es=>UB B CO R (jt B CO R es)
 | .bi b es=>Qf B R (jt B CO R es)
 | .comp bc caps it=>OU B R (d9 B CO R bc) (d9 B CO R it)
 | .jw bc caps it=>Y2 B R (d9 B CO R bc) (d9 B CO R it)
theorem jt (B:cz U w J gl bl K) (CO:js U w J n C) (R:bI n 10 fl A):∀es:Es,fh U w J gl bl fl A C fu es
 | .nil=>trivial
 | .cons e es=>⟨d9 B CO R e,jt B CO R es⟩
end
end
noncomputable def cR (aa:Env):Addr→Prop:=λb=>b=aa.locals
noncomputable def FV (J h:Heap) (Z:aH):Flow→PySem.Flow→Prop
 | .next,f=>f= .next
 | .brk,f=>f= .brk
 | .ret v,f=>∃x,f= .ret x∧RV J h Z v x
structure eK (fl:List Env) (aa:Env) (nm:List Str):Prop where
 nodup:nm.Nodup
 frame:aa.frame=some aa.locals
 head:∃r,fl=aa::r
inductive SO (U:Program) (w:World) (J:Heap) (fl:List Env) (aa:Env) (nm:List Str) (Z:aH) (s:Shared) (g:Flow) (L':Locals) (af:ag) (f:PySem.Flow) (s':Shared):Prop where
 |mk (ai:aH) (hx:aj (cR aa) Z s ai s') (hh:aR U w J fl aa nm ai af L' s') (hf:FV J s'.heap ai g f):SO U w J fl aa nm Z s g L' af f s'
noncomputable def PS (U:Program) (w:World) (J:Heap) (fl:List Env) (aa:Env) (nm:List Str) (Z:aH) (s:Shared) (out:aU) (f:PySem.Flow) (s':Shared):Prop:=match out with
 | .ok g L' af=>SO U w J fl aa nm Z s g L' af f s'
 |_=>False
inductive KA (b:Bool) (U:Program) (w:World) (J:Heap) (fl:List Env) (aa:Env) (nm:List Str) (Z:aH) (s:Shared) (e:aX) (L':Locals) (af:ag) (v:Value) (s':Shared):Prop where
 |mk (ai:aH) (x:Addr) (hv:v= .ref x) (hx:cU (cR aa) (· ∈bb fl) Z s ai s') (hh:aR U w J fl aa nm ai af L' s') (he:kn b J s.heap s'.heap ai x e):KA b U w J fl aa nm Z s e L' af v s'
noncomputable def XS (b:Bool) (U:Program) (w:World) (J:Heap) (fl:List Env) (aa:Env) (nm:List Str) (Z:aH) (s:Shared) (out:aU) (v:Value) (s':Shared):Prop:=match out with
 | .exc e L' af=>KA b U w J fl aa nm Z s e L' af v s'
 |_=>False
section
variable {U:Program} {w:World} {J:Heap} {gl bl:Addr} {K:Frag} {fl:List Env} {Z ai ao aP:aH} {O af ae:ag} {s s' s1 s0:Shared} {A:Around} {E0:Value→Shared→Prop} {aa:Env} {nm:List Str} {L:Locals}
variable {C:Calls} {n fu:Nat}
theorem cU.vk {X F:Addr→Prop} (a:cU X F Z s ai s') (S:SR U w J s.heap Z O) (st:J.StaysIn s'.heap) (hX:∀b o,X b→s.heap.get? b=some o→∀vs n,o.data= .seq vs n→False):VK J Z s.heap ai s'.heap:=
 ⟨a.pre,λb o e nf ⟨vs,n,hd⟩ _=>by
  obtain ⟨sl,h,_⟩:=a.keep b o e nf λq=>hX b o q e vs n hd
  exact ⟨sl,h⟩,st,S.off,S.cells⟩
theorem cU.g5 {X F:Addr→Prop} (E:cU X F Z s ai s') {b:Addr} (hl:(s.heap.get? b).isSome) (q:bM ai b):bM Z b:=by
 obtain ⟨p,hm,e⟩:=q
 obtain ⟨n,hn⟩:=List.getElem?_of_mem hm
 by_cases aK:n<Z.length
 ·have:=k8 E.pre (List.getElem?_eq_getElem aK)
  rw [hn] at this
  injection this with this
  exact ⟨p,this▸List.getElem_mem aK,e⟩
 ·obtain ⟨a,c⟩:=E.new n p (Nat.le_of_not_lt aK) hn
  rcases e with rfl |rfl
  ·rw [a] at hl;cases hl
  ·rw [c] at hl;cases hl
theorem cU.stays {X:Addr→Prop} (a:cU X (· ∈bb fl) Z s ai s') (S:St U w J fl Z O s) (hX:∀b,X b→J.get? b=none):J.StaysIn s'.heap:=λb o e=>by
 obtain ⟨sl,h,hs⟩:=a.keep b o (S.stays b o e) (D2 S.sr.off e) λq=>by rw [hX b q] at e;cases e
 have:sl=o.slots:=hs λq=>by
  have:=(mM S.frames b q).1
  rw [this] at e;cases e
 rw [h,this]
theorem qe.FT {h h':Heap} (l:qe J h Z aa nm L) (v:VK J Z h ai h') (k:∀b o,h.get? b=some o→(∀vs n,o.data≠ .seq vs n)→(b=aa.locals∨∃x,o.data= .cell x)→∃sl,h'.get? b=some {o with slots:=sl}):qe J h' ai aa nm L:=by
 obtain ⟨m,hm,hl⟩:=l
 refine ⟨m,?_,λi v' e=>?_⟩
 ·obtain ⟨o,es,ep,ho,hd,r⟩:=hm
  obtain ⟨sl,hs⟩:=k _ _ ho (λvs n q=>by rw [hd] at q;cases q) (.inl rfl)
  exact ⟨_,es,ep,hs,hd,r⟩
 ·obtain ⟨n,x,hn,rv,hx⟩:=hl i v' e
  refine ⟨n,x,hn,RV.mono v rv,?_⟩
  rcases hx with hx |⟨h1,c,h2,h3⟩
  ·exact .inl hx
  ·obtain ⟨o,ho,hd⟩:=h3
   obtain ⟨sl,hs⟩:=k _ _ ho (λvs n q=>by rw [hd] at q;cases q) (.inr ⟨_,hd⟩)
   exact .inr ⟨h1,c,h2,_,hs,hd⟩
theorem aR.exc (H:aR U w J fl aa nm Z O L s) (X:cU aE (· ∈bb fl) Z s ai s') (R:SR U w J s'.heap ai af) (ht:s.toks≤s'.toks):aR U w J fl aa nm ai af L s':=by
 have st:=X.stays H.st λ_ x=>x.elim
 have v:VK J Z s.heap ai s'.heap:=X.vk H.st.sr st λ_ _ x=>x.elim
 refine ⟨⟨R,st,nW H.st.frames λa ha o ho hd=>?_,λa ha q=>?_,adl H.st.tok ht⟩,H.loc.FT v λb o e _ hb=>?_,λq=>?_,H.oq⟩
 ·obtain ⟨sl,h,_⟩:=X.keep a o ho (H.st.jM a ha) λx=>x
  exact ⟨_,h,hd⟩
 ·obtain ⟨_,o,ho,_⟩:=mM H.st.frames a ha
  exact H.st.jM a ha (X.g5 (by rw [ho];rfl) q)
 ·obtain ⟨sl,h,_⟩:=X.keep b o e (λq=>by
   rcases hb with rfl |⟨x,hd⟩
   ·exact H.jQ q
   ·exact H.st.sr.Ec e hd q) λx=>x
  exact ⟨sl,h⟩
 ·obtain ⟨m,hm,_⟩:=H.loc
  obtain ⟨o,_,_,ho,_⟩:=hm
  exact H.jQ (X.g5 (by rw [ho];rfl) q)
theorem XS.after {b:Bool} {out uH:aU} {v:Value} (a:aj (cR aa) aP s0 Z s) (x:XS b U w J fl aa nm Z s out v s') (ho:∀e L O,out= .exc e L O→uH= .exc e L O):XS b U w J fl aa nm aP s0 uH v s':=by
 cases out with
 |exc e L O=>
  rw [ho e L O rfl]
  obtain ⟨ai,y,h1,h2,h3,h4⟩:=x
  exact ⟨ai,y,h1,cU.chain a h2 λc q=> .inl q,h3,h4.before a.live⟩
 |stuck=>exact x.elim
 |ok _ _ _=>exact x.elim
theorem PS.after {out:aU} {f:PySem.Flow} (a:aj (cR aa) aP s0 Z s) (x:PS U w J fl aa nm Z s out f s'):PS U w J fl aa nm aP s0 out f s':=by
 cases out with
 |ok g L O=>
  obtain ⟨ai,h1,h2,h3⟩:=x
  exact ⟨ai,a.trans h1,h2,h3⟩
 |stuck=>exact x.elim
 |exc _ _ _=>exact x.elim
theorem L7 {γ:Type} (X:aj (cR aa) aP s0 Z s) (H:aR U w J fl aa nm Z O L s) {o:Out V} {k:V→ag→aU} {out:aU} {t:Sem γ} {P:Out V→γ→Shared→Prop} {Q:γ→Shared→Prop} (h:o.toS L k=out) (hn:out≠ .stuck)
    (ih:o≠ .stuck→wpAny (model U w) A t (P o) (bh U w J (· ∈bb fl) Z s o) s) (hP:∀e O r s',P (.exc e O) r s'→False)
    (kk:∀v O,o= .ok v O→k v O=out→∀r s',P (.ok v O) r s'→s.toks≤s'.toks→Q r s'):wpAny (model U w) A t Q (XS false U w J fl aa nm aP s0 out) s:=match o,h,ih,kk with
 | .stuck,h,_,_=>absurd h.symm hn
 | .ok v ae,h,ih,kk=>mr (ih nofun) (λr s' p ht=>kk v ae rfl h r s' p ht) λ_ _ x _=>x.elim
 | .exc e ae,h,ih,_=>mr (ih nofun) (λr s' p _=>(hP _ _ _ _ p).elim) λv s' x ht=>match x with
  |⟨ai,x,h1,h2,h3,h4⟩=>(show aU.exc e L ae=out from h)▸⟨ai,x,h1,cU.chain X (Y:=aE) h2 λ_ q=>q.elim,H.exc h2 h3 ht,h4.before X.live⟩
theorem aj.loc (X:aj aE Z s ai s'):aj (cR aa) Z s ai s':=X.weaken λ_ q=>q.elim
theorem sV {o:Out V} {t:Sem Value} {k:V→ag→aU} {out:aU} {Q:Value→Shared→Prop} (ih:o≠ .stuck→wpAny (model U w) A t (aI U w J aE Z s o) (bh U w J (· ∈bb fl) Z s o) s) (H:aR U w J fl aa nm Z O L s) (X:aj (cR aa) aP s0 Z s)
    (h:o.toS L k=out) (hn:out≠ .stuck) (kk:∀v ae va ao s1,k v ae=out→aj (cR aa) aP s0 ao s1→VK J Z s.heap ao s1.heap→aR U w J fl aa nm ao ae L s1→RV J s1.heap ao v va→Q va s1):wpAny (model U w) A t Q (XS false U w J fl aa nm aP s0 out) s:=
 L7 X H h hn ih (λ_ _ _ _ x=>x) λv ae _ h va s1 p t=>match p with
  |⟨ao,X1,R1,r1⟩=>kk v ae va ao s1 h (X.trans X1.loc) (X1.fp H.st) (H.ext X1 R1 t) r1
theorem ie {e:E} {x:PySem.Expr} {k:V→ag→aU} {out:aU} {Q:Value→Shared→Prop} (V:a7 U w J gl bl fl A C fu e) (hm:aF aa.scope nm e x=true) (eo:bJ gl bl aa) (H:aR U w J fl aa nm Z O L s) (X:aj (cR aa) aP s0 Z s)
    (h:(ev C fu e L O).toS L k=out) (hn:out≠ .stuck) (kk:∀v ae va ao s1,k v ae=out→aj (cR aa) aP s0 ao s1→VK J Z s.heap ao s1.heap→aR U w J fl aa nm ao ae L s1→RV J s1.heap ao v va→Q va s1):wpAny (model U w) A (eval x aa) Q (XS false U w J fl aa nm aP s0 out) s:=
 sV (λeh=>V.1 hm eo H rfl eh) H X h hn kk
theorem aab {γ:Type} {b:Bool} (X:aj (cR aa) aP s0 Z s) {o:aU} {k:Flow→Locals→ag→aU} {out:aU} {t:Sem γ} {P:aU→γ→Shared→Prop} {Q:γ→Shared→Prop} (h:o.bind k=out) (hn:out≠ .stuck)
    (ih:o≠ .stuck→wpAny (model U w) A t (P o) (XS b U w J fl aa nm Z s o) s) (hP:∀e L O r s',P (.exc e L O) r s'→False)
    (kk:∀f L O,o= .ok f L O→k f L O=out→∀r s',P (.ok f L O) r s'→s.toks≤s'.toks→Q r s'):wpAny (model U w) A t Q (XS b U w J fl aa nm aP s0 out) s:=match o,h,ih,kk with
 | .stuck,h,_,_=>absurd h.symm hn
 | .ok f L ae,h,ih,kk=>mr (ih nofun) (λr s' p ht=>kk f L ae rfl h r s' p ht) λ_ _ x _=>x.elim
 | .exc e L ae,h,ih,_=>mr (ih nofun) (λr s' p _=>(hP _ _ _ _ _ p).elim) λv s' x ht=>XS.after X x λe' L' af q=>by cases q;exact h.symm
structure NX (U:Program) (w:World) (J:Heap) (fl:List Env) (aa:Env) (Z:aH) (O:ag) (s:Shared) (h':Heap) (k:Nat):Prop where
 x:aj (cR aa) Z s Z {s with heap:=h',toks:=k}
 st:St U w J fl Z O {s with heap:=h',toks:=k}
 v:VK J Z s.heap Z h'
theorem MS (H:aR U w J fl aa nm Z O L s) {h':Heap} (ba:Heap.SameBut aa.locals s.heap h') {m:Str→Option Value} (hm:h'.Ns aa.locals m) (k:Nat) (hk:s.toks≤k):
  NX U w J fl aa Z O s h' k:=by
 obtain ⟨m0,⟨o0,es,ep,Sk,eF,_⟩,_⟩:=H.loc
 obtain ⟨o1,acP,acF,qd,dw,_⟩:=hm
 have v:VK J Z s.heap Z h':=by
  refine ⟨List.prefix_refl _,λb o e nf ⟨vs,n,hd⟩ _=>⟨o.slots,(ba.2 b λz=>?_).trans e⟩,λb o e=>(ba.2 b λz=>?_).trans (H.st.stays b o e),H.st.sr.off,H.st.sr.cells⟩
  ·subst z;rw [Sk] at e;cases e;rw [eF] at hd;cases hd
  ·subst z;rw [H.oq] at e;cases e
 refine ⟨⟨List.prefix_refl _,λb o e _ nx=>(ba.2 b nx).trans e,λb e=>?_,λn p hn e=>(by rw [List.getElem?_eq_none hn] at e;cases e),rfl,rfl,rfl⟩,
  ⟨H.st.sr.grow v λb o q e=>(ba.2 b λz=>H.jQ (z▸q)).trans e,v.stays,nW H.st.frames λa ha o ho hd=>?_,H.st.jM,adl H.st.tok hk⟩,v⟩
 ·show (h'.get? b).isSome
  by_cases z:b=aa.locals
  ·subst z;rw [qd];rfl
  ·rw [ba.2 b z];exact e
 ·by_cases z:a=aa.locals
  ·subst z;exact ⟨o1,qd,λvs q=>by rw [dw] at q;cases q⟩
  ·exact ⟨o,(ba.2 a z).trans ho,hd⟩
theorem Vz {i j:Nat} {v u:V} (h:(L.put i v).get j=some u):(j=i∧u=v)∨(j≠i∧L.get j=some u):=by
 unfold Locals.put Locals.get at*
 by_cases hj:j=i
 ·subst hj
  by_cases hl:j<L.length
  ·rw [List.getElem?_set_self hl] at h
   cases h;exact .inl ⟨rfl,rfl⟩
  ·rw [List.getElem?_eq_none (by rw [List.length_set];omega)] at h;cases h
 ·rw [List.getElem?_set_ne (Ne.symm hj)] at h
  exact .inr ⟨hj,h⟩
theorem oE {sc:Scope} {i:Nat} {x:Str} (h:dQ sc nm i x=true):nm[i]?=some x∧sc.names.lookup x=some .local∧iG sc nm i x=true:=by
 unfold dQ at h
 simp only [Bool.and_eq_true,beq_iff_eq,bne_iff_ne,ne_eq] at h
 refine ⟨h.1.1,h.1.2,?_⟩
 unfold iG
 simp [h.1.1,h.1.2,h.2]
structure wo (U:Program) (w:World) (J:Heap) (fl:List Env) (aa:Env) (nm:List Str) (Z:aH) (s:Shared) (af:ag) (L':Locals) (s':Shared):Prop where
 x:aj (cR aa) Z s Z s'
 h:aR U w J fl aa nm Z af L' s'
theorem xo (eo:bJ gl bl aa) (ef:eK fl aa nm) (H:aR U w J fl aa nm Z O L s) {i:Nat} {x:Str} {v:V} {y:Value} (hi:dQ aa.scope nm i x=true) (rv:RV J s.heap Z v y):
  wpAny (model U w) A (storeName aa x y) (λ_ s'=>wo U w J fl aa nm Z s O (L.put i v) s') E0 s:=by
 replace hi:=oE hi
 obtain ⟨m,hm,hl⟩:=H.loc
 refine wpAny_storeName_local (m:=m) hi.2.1 hm (λh' cw ba=>?_) (sP eo.kind)
 obtain ⟨X,S,V⟩:=MS H ba cw (s.toks+1) (Nat.le_succ _)
 refine ⟨X,S,⟨_,cw,λj u hu=>?_⟩,H.jQ,H.oq⟩
 rcases Vz hu with ⟨rfl,rfl⟩ |⟨hj,hu⟩
 ·exact ⟨x,y,hi.1,RV.mono V rv,.inl ⟨hi.2.1,by simp⟩⟩
 ·obtain ⟨nn,z,hn,rz,hz⟩:=hl j u hu
  have cx:nn≠x:=λe=>by
   subst e
   exact hj ((List.getElem?_inj (List.getElem?_eq_some_iff.mp hn).1 ef.nodup).mp (hn.trans hi.1.symm))
  refine ⟨nn,z,hn,RV.mono V rz,?_⟩
  rcases hz with ⟨hk,hz⟩ |⟨hk,c,hc,hz⟩
  ·exact .inl ⟨hk,by simp [cx,hz]⟩
  ·obtain ⟨o,ho,hd⟩:=hz
   refine .inr ⟨hk,c,hc,o,(ba.2 c λz=>?_).trans ho,hd⟩
   subst z
   obtain ⟨o',_,_,d8,bQ,_⟩:=hm
   rw [ho] at d8;cases d8;rw [hd] at bQ;cases bQ
noncomputable def rY (U:Program) (w:World) (J:Heap) (fl:List Env) (A:Around) (aa:Env) (nm:List Str):Prop:=∀(E0:Value→Shared→Prop) (Z:aH) (s:Shared) (out:aU) (v:Value) (s':Shared) (gy:ag),St U w J fl Z gy s→
 XS false U w J fl aa nm Z s out v s'→wpAny (model U w) A (noteFrame v aa) (λ_ bY=>XS true U w J fl aa nm Z s out v bY) E0 s'
noncomputable def fL (U:Program) (w:World) (J:Heap) (gl bl:Addr) (fl:List Env) (A:Around) (C:Calls) (fu:Nat) (st:S):Prop:=
 ∀{aa:Env} {nm:List Str} {x:PySem.Stmt} {L:Locals} {O:ag} {out:aU} {Z:aH} {s:Shared},fj aa.scope nm st x=true→bJ gl bl aa→eK fl aa nm→aR U w J fl aa nm Z O L s→ex C fu st L O=out→out≠ .stuck→
  wpAny (model U w) A (exec x aa) (PS U w J fl aa nm Z s out) (XS false U w J fl aa nm Z s out) s
noncomputable def ic (U:Program) (w:World) (J:Heap) (gl bl:Addr) (fl:List Env) (A:Around) (C:Calls) (fu:Nat) (st:Ss):Prop:=
 ∀{aa:Env} {nm:List Str} {xs:List PySem.Stmt} {L:Locals} {O:ag} {out:aU} {Z:aH} {s:Shared},eD aa.scope nm st xs=true→bJ gl bl aa→eK fl aa nm→aR U w J fl aa nm Z O L s→ah C fu st L O=out→out≠ .stuck→
  wpAny (model U w) A (execs xs aa) (PS U w J fl aa nm Z s out) (XS false U w J fl aa nm Z s out) s
theorem ta {t:Option PySem.Expr} {l:Nat} {aa:Env}:∀{v:PySem.Expr},kM v=true→swapsWith v t l aa=pure false:=by
 intro v
 cases v<;>first |exact λ_=>rfl |exact λh=>absurd h Bool.false_ne_true
theorem xh {af:ag} (X:aj (cR aa) aP s0 Z s) (H:aR U w J fl aa nm Z O L s) {s':Shared} (x:Left U w J Z s af s') (ht:s.toks≤s'.toks):PS U w J fl aa nm aP s0 (.ok .next L af) .next s':=
 ⟨Z,X.trans x.1.loc,H.ext x.1 x.2 ht,rfl⟩
theorem Mz {i:Nat} {v:V} {x:Str} {y:Value} (eo:bJ gl bl aa) (ef:eK fl aa nm) (X:aj (cR aa) aP s0 Z s) (H:aR U w J fl aa nm Z O L s) (hi:dQ aa.scope nm i x=true) (rv:RV J s.heap Z v y):
  wpAny (model U w) A (storeName aa x y) (λ_ s'=>PS U w J fl aa nm aP s0 (.ok .next (L.put i v) O) .next s') E0 s:=
 wpAny_mono (xo eo ef H hi rv) (λ_ bY p=>⟨Z,X.trans p.x,p.h,rfl⟩) λ_ _ x=>x
theorem oa {e:E} (a1:a7 U w J gl bl fl A C fu e):fL U w J gl bl fl A C fu (.expr e):=λ{aa nm x L O out Z s} hm eo ef H h hn=>Xe (P:=λx=>wpAny (model U w) A (exec x aa) _ _ s) hm λy p h1 h2=>
 wpAny_Expr_any (ie a1 h1 eo H (aj.refl _ _ _) h hn λv ae va ao s1 h X1 _ H1 r1=>h▸⟨ao,X1,H1,rfl⟩) (by unfold interactive;rw [eo.kind];rfl) (ta h2)
theorem YS {i:Nat} {e:E} (a1:a7 U w J gl bl fl A C fu e):fL U w J gl bl fl A C fu (.aA i e):=λ{aa nm x L O out Z s} hm eo ef H h hn=>NU (P:=λx=>wpAny (model U w) A (exec x aa) _ _ s) hm λnn q y p h1 h2 h3=>
 wpAny_Assign_Name (ie a1 h2 eo H (aj.refl _ _ _) h hn λv ae va ao s1 h X1 _ H1 r1=>h▸Mz eo ef X1 H1 h1 r1) (ta h3)
theorem Sy (B:cz U w J gl bl K) {o e:E} {f:Nat} (a1:a7 U w J gl bl fl A C fu o) (b1:a7 U w J gl bl fl A C fu e):fL U w J gl bl fl A C fu (.setAttr o f e):=λ{aa nm x L O out Z s} hm eo ef H h hn=>Te (P:=λx=>wpAny (model U w) A (exec x aa) _ _ s) hm λy nn q v p h1 h2 h3 h4=>
 plainObj_wpAny_Assign_Attribute (ie b1 h3 eo H (aj.refl _ _ _) h hn λv ae va ao s1 h X1 _ H1 r1=>ie a1 h2 eo H1 X1 h hn λu az vb eT s2 h X2 k2 H2 r2=>fk h hn λcN hs h=>match zB h1 with
  |⟨hf,e⟩=>h▸e▸mP (Tr B.kf (ve B H2.st) H2.st hf r2 (RV.mono k2 r1) hs) (λ_ s3 x t3=>xh X2 H2 x t3) λ_ _ x=>x) (ta h4)
theorem abu {o i e:E} (a1:a7 U w J gl bl fl A C fu o) (b1:a7 U w J gl bl fl A C fu i) (c1:a7 U w J gl bl fl A C fu e):fL U w J gl bl fl A C fu (.eH o i e):=λ{aa nm x L O out Z s} hm eo ef H h hn=>SX (P:=λx=>wpAny (model U w) A (exec x aa) _ _ s) hm λy j q v p h1 h2 h3 h4 h5=>
 wpAny_Assign_Subscript (ie c1 h4 eo H (aj.refl _ _ _) h hn λv ae va ao s1 h X1 _ H1 r1=>ie a1 h1 eo H1 X1 h hn λu az vb eT s2 h X2 k2 H2 r2=>ie b1 h2 eo H2 X2 h hn λz cN vc om s3 h X3 k3 H3 r3=>fk h hn λeR hs h=>
  h▸mP (KZ H3.st (RV.mono k3 r2) r3 (RV.mono k3 (RV.mono k2 r1)) hs) (λ_ s4 x t4=>xh X3 H3 x t4) λ_ _ x=>x) (ta h5)
theorem zd {i:Nat} {op:BinOp} {e:E} (a1:a7 U w J gl bl fl A C fu e):fL U w J gl bl fl A C fu (.gF i op e):=λ{aa nm x L O out Z s} hm eo ef H h hn=>QF (P:=λx=>wpAny (model U w) A (exec x aa) _ _ s) hm λnn q v p h1 h2=>fk h hn λu hu h=>
 wpAny_AugAssign_Name (sV (o:= .ok u O) (k:=λu O=>(ev C fu e L O).toS L λy O=>(jf op O u y).toS L λz O=> .ok .next (L.put i z) O) (λ_=>D5 eo H (oE h1).2.2 hu) H (aj.refl _ _ _) h hn λu ae va ao s1 h X1 _ H1 r1=>ie a1 h2 eo H1 X1 h hn λu2 az vb eT s2 h X2 k2 H2 r2=>
  sV (λeh=>J7 H2.st (RV.mono k2 r1) r2 rfl eh) H2 X2 h hn λz cN vc om s3 h X3 k3 H3 r3=>h▸Mz eo ef X3 H3 h1 r3)
theorem Ol:∀{j:PySem.Expr},kU j=true→∀(o i new:Value),augStore j o i new=(do holding [new,o,i] (setItem o i new);release [new,o,i] [];pure PySem.Flow.next):=by
 intro j
 cases j<;>first |exact λ_ _ _ _=>rfl |exact λh=>absurd h Bool.false_ne_true
theorem D1 {o i e:E} {op:BinOp} (a1:a7 U w J gl bl fl A C fu o) (b1:a7 U w J gl bl fl A C fu i) (c1:a7 U w J gl bl fl A C fu e):fL U w J gl bl fl A C fu (.gY o i op e):=λ{aa nm x L O out Z s} hm eo ef H h hn=>Ow (P:=λx=>wpAny (model U w) A (exec x aa) _ _ s) hm λy j q v p h1 h2 h3 h4=>
 wpAny_AugAssign_SubscriptAny (ie a1 h1 eo H (aj.refl _ _ _) h hn λv ae va ao s1 h X1 _ H1 r1=>ie b1 h2 eo H1 X1 h hn λu az vb eT s2 h X2 k2 H2 r2=>
  sV (λeh=>oQ (P:=λo=>wpAny (model U w) A (getItem va vb) (aI U w J aE eT s2 o) (bh U w J _ eT s2 o) s2) rfl eh λz hz=>match Ea H2.st.sr (RV.mono k2 r1) r2 hz with |⟨_,_,g,_,_⟩=>g) H2 X2 h hn λz cN vc om s3 h X3 k3 H3 r3=>
  ie c1 h4 eo H3 X3 h hn λz4 eR vd r7 s4 h X4 k4 H4 r4=>sV (λeh=>J7 H4.st (RV.mono k4 r3) r4 rfl eh) H4 X4 h hn λz5 lU vf xe s5 h X5 k5 H5 r5=>fk h hn λAX hs h=>
  h▸mP (KZ H5.st (RV.mono k5 (RV.mono k4 (RV.mono k3 (RV.mono k2 r1)))) (RV.mono k5 (RV.mono k4 (RV.mono k3 r2))) r5 hs) (λ_ s6 x t6=>xh X5 H5 x t6) λ_ _ x=>x) (Ol h3)
theorem uF {e:E} (a1:a7 U w J gl bl fl A C fu e):fL U w J gl bl fl A C fu (.ret e):=λ{aa nm x L O out Z s} hm eo ef H h hn=>aar (P:=λx=>wpAny (model U w) A (exec x aa) _ _ s) hm λy p h1=>
 wpAny_Return_some (ie a1 h1 eo H (aj.refl _ _ _) h hn λv ae va ao s1 h X1 _ H1 r1=>h▸⟨ao,X1,H1,va,rfl,r1⟩)
theorem tK:fL U w J gl bl fl A C fu .lQ:=λ{aa nm x L O out Z s} hm eo ef H h hn=>aaZ (P:=λx=>wpAny (model U w) A (exec x aa) _ _ s) hm λp=>h▸wpAny_Return_none ⟨Z,aj.refl _ _ _,H,.none,rfl,xY⟩
theorem vv:fL U w J gl bl fl A C fu .brk:=λ{aa nm x L O out Z s} hm eo ef H h hn=>NG (P:=λx=>wpAny (model U w) A (exec x aa) _ _ s) hm λp=>h▸wpAny_Break ⟨Z,aj.refl _ _ _,H,rfl⟩
theorem Of {o i:E} (a1:a7 U w J gl bl fl A C fu o) (b1:a7 U w J gl bl fl A C fu i):fL U w J gl bl fl A C fu (.lb o i):=λ{aa nm x L O out Z s} hm eo ef H h hn=>WE (P:=λx=>wpAny (model U w) A (exec x aa) _ _ s) hm λy j q p h1 h2 h3=>
 wpAny_Delete (wpAny_deleteEach_cons (wpAny_delete_Subscript (ie a1 h1 eo H (aj.refl _ _ _) h hn λv ae va ao s1 h X1 _ H1 r1=>ie b1 h2 eo H1 X1 h hn λu az vb eT s2 h X2 k2 H2 r2=>fk h hn λcN hs h=>
  h▸mP (aaP H2.st (RV.mono k2 r1) r2 hs) (λ_ s3 x t3=>wpAny_deleteEach_nil (xh X2 H2 x t3)) λ_ _ x=>x)))
end
noncomputable def xb (U:Program) (w:World) (J:Heap) (fl:List Env) (A:Around) (aa:Env) (nm:List Str):Prop:=∀(Z:aH) (s:Shared) (out:aU) (v:Value) (s':Shared) (gy:ag),St U w J fl Z gy s→
 XS true U w J fl aa nm Z s out v s'→cameBackBy (model U w) A aa (XS false U w J fl aa nm Z s out) v s'
section
variable {U:Program} {w:World} {J:Heap} {gl bl:Addr} {K:Frag} {fl:List Env} {Z ai ao aP:aH} {O af ae:ag} {s s' s1 s0 s2:Shared} {A:Around} {E0:Value→Shared→Prop} {aa:Env} {nm:List Str} {L L':Locals}
variable {C:Calls} {n fu:Nat}
theorem DA {γ:Type} {gy:ag} (S0:St U w J fl aP gy s0) (hN:rY U w J fl A aa nm) {t:Sem γ} {Q:γ→Shared→Prop} {out:aU} {R:Value→Shared→Prop} (hR:∀x s',XS true U w J fl aa nm aP s0 out x s'→R x s')
    (h:wpAny (model U w) A t Q (XS false U w J fl aa nm aP s0 out) s):wpAny (model U w) A t Q (notedBy (model U w) A aa R) s:=
 wpAny_mono h (λ_ _ x=>x) λv s' x=>wpAny_mono (hN R aP s0 out v s' gy S0 x) (λ_ bY y=>hR v bY y) λ_ _ y=>y
structure OY (U:Program) (w:World) (J:Heap) (fl:List Env) (aa:Env) (nm:List Str) (ao:aH) (s1:Shared) (ai:aH) (af:ag) (L':Locals) (s':Shared) (h':Heap) (k:Nat):Prop where
 x:aj (cR aa) ao s1 ai {s' with heap:=h',toks:=k}
 h:aR U w J fl aa nm ai af L' {s' with heap:=h',toks:=k}
 v:VK J ai s'.heap ai h'
theorem yP {a:Addr} {DG:List Str} {L1:Locals} (H1:aR U w J fl aa nm ao ae L1 s1) (X:aj (cR aa) ao s1 ai s') (H:aR U w J fl aa nm ai af L' s') (ha:s1.heap.get? a=none) (nf:¬bM ai a) {h':Heap} (ba:∀b o,b≠a→s'.heap.get? b=some o→h'.get? b=some o)
    (Dx:∀o v,s'.heap.get? a=some o→o.data≠ .cell v)
    (wY:∀o,s'.heap.get? a=some o→(∃vs n,o.data= .seq vs n)→o.cls≠ .type "tuple") (k:Nat) (hk:s'.toks≤k):
  OY U w J fl aa nm ao s1 ai af L' s' h' k:=by
 have nb:J.get? a=none:=jE H1.st.stays ha
 have v:VK J ai s'.heap ai h':=by
  refine ⟨List.prefix_refl _,λb o e nf hq hc=>⟨o.slots,ba b o (λz=>?_) e⟩,λb o e=>ba b o (λz=>?_) (H.st.stays b o e),H.st.sr.off,H.st.sr.cells⟩
  ·subst z
   rcases hc with hc |hc
   ·exact wY o e hq hc
   ·rw [nb] at hc;cases hc
  ·subst z;rw [nb] at e;cases e
 have E7:(s1.heap.get? aa.locals).isSome:=by obtain ⟨m,⟨o,_,_,e,_⟩,_⟩:=H1.loc;rw [e];rfl
 have cx:aa.locals≠a:=λe=>by rw [e,ha] at E7;cases E7
 refine ⟨⟨X.pre,λb o e nf nx=>ba b o (λz=>by subst z;rw [ha] at e;cases e) (X.keep b o e nf nx),λb e=>?_,X.new,X.gens,X.drawn,X.os⟩,
  ⟨⟨H.st.sr.grow v λb o q e=>ba b o (λz=>nf (z▸q)) e,v.stays,nW H.st.frames λb hb o ho hd=>⟨o,ba b o (λz=>?_) ho,hd⟩,H.st.jM,adl H.st.tok hk⟩,H.loc.mono v λb o e _ hb=>ba b o (λz=>?_) e,H.jQ,H.oq⟩,v⟩
 ·obtain ⟨o,ho⟩:=Option.isSome_iff_exists.mp (X.live b e)
  show (h'.get? b).isSome
  rw [ba b o (λz=>by subst z;rw [ha] at e;cases e) ho];rfl
 ·subst z
  obtain ⟨_,o',d8,_⟩:=mM H1.st.frames b hb
  rw [ha] at d8;cases d8
 ·subst z
  rcases hb with hb |⟨x,hd⟩
  ·exact cx hb.symm
  ·exact Dx o _ e hd
@[elab_as_elim] theorem Js {h:Heap} {f:Flow} {r:PySem.Flow} {k out:aU} {P:PySem.Flow→Prop} (e:f.turn L O k=out) (fv:FV J h Z f r) (k1:k=out→P .next) (k2:out= .ok .next L O→P .brk) (k3:∀v x,out= .ok (.ret v) L O→RV J h Z v x→P (.ret x)):P r:=match f,e,fv with
 | .next,e,fv=>Eq.symm (show r=_ from fv)▸k1 e
 | .brk,e,fv=>Eq.symm (show r=_ from fv)▸k2 e.symm
 | .ret v,e,⟨x,q,rv⟩=>q▸k3 v x e.symm rv
@[elab_as_elim] theorem Bs {h:Heap} {f:Flow} {r:PySem.Flow} {k out:aU} {P:PySem.Flow→Prop} (e:f.oV L O k=out) (fv:FV J h Z f r) (k1:k=out→P .next) (k2:out= .ok .brk L O→P .brk) (k3:∀v x,out= .ok (.ret v) L O→RV J h Z v x→P (.ret x)):P r:=match f,e,fv with
 | .next,e,fv=>Eq.symm (show r=_ from fv)▸k1 e
 | .brk,e,fv=>Eq.symm (show r=_ from fv)▸k2 e.symm
 | .ret v,e,⟨x,q,rv⟩=>q▸k3 v x e.symm rv
theorem xP {o:aU} {t:Sem PySem.Flow} {k:Flow→Locals→ag→aU} {out:aU} {Q:PySem.Flow→Shared→Prop} (ih:o≠ .stuck→wpAny (model U w) A t (PS U w J fl aa nm Z s o) (XS false U w J fl aa nm Z s o) s) (X:aj (cR aa) aP s0 Z s)
    (h:o.bind k=out) (hn:out≠ .stuck) (kk:∀f L1 ae r ao s1,k f L1 ae=out→aj (cR aa) aP s0 ao s1→aj (cR aa) Z s ao s1→aR U w J fl aa nm ao ae L1 s1→FV J s1.heap ao f r→Q r s1):wpAny (model U w) A t Q (XS false U w J fl aa nm aP s0 out) s:=
 aab (P:=λo f s'=>PS U w J fl aa nm Z s o f s') X h hn ih (λ_ _ _ _ _ x=>x) λf L1 ae _ h r s1 p _=>match p with
  |⟨ao,X1,H1,fv⟩=>kk f L1 ae r ao s1 h (X.trans X1) X1 H1 fv
theorem zi {o:aU} {t:Sem PySem.Flow} {b:Bool} (X:aj (cR aa) aP s0 Z s) (h:wpAny (model U w) A t (PS U w J fl aa nm Z s o) (XS b U w J fl aa nm Z s o) s):wpAny (model U w) A t (PS U w J fl aa nm aP s0 o) (XS b U w J fl aa nm aP s0 o) s:=
 wpAny_mono h (λ_ _ x=>PS.after X x) λ_ _ x=>XS.after X x λ_ _ _ q=>q
theorem Nj {e:E} {x:PySem.Expr} {f:Bool→ag→aU} {out:aU} {Q:Bool→Shared→Prop} (T:a7 U w J gl bl fl A C fu e) (hm:aF aa.scope nm e x=true) (eo:bJ gl bl aa) (H:aR U w J fl aa nm Z O L s) (X:aj (cR aa) aP s0 Z s)
    (h:((ev C fu e L O).toS L λv O=>v.iB .stuck λb=>f b O)=out) (hn:out≠ .stuck) (k:∀b ae ao s1,f b ae=out→aj (cR aa) aP s0 ao s1→aR U w J fl aa nm ao ae L s1→Q b s1):
  wpAny (model U w) A (isTrue x aa (eval x aa)) Q (XS false U w J fl aa nm aP s0 out) s:=
 L7 (P:=λo b s'=>aI U w J aE Z s o (.bool b) s') X H h hn (λeh=>T.2 hm eo H rfl eh λv af q=>by
   rw [q] at h
   exact K0 (P:=λv=>∃b,v= .bool b) h hn λb _=>⟨b,rfl⟩) (λ_ _ _ _ x=>x) λv ae _ h' b s1 p t=>match p with
  |⟨ao,X1,R1,r1⟩=>k b ae ao s1 (by rw [Ll r1] at h';exact h') (X.trans X1.loc) (H.ext X1 R1 t)
theorem O0:ic U w J gl bl fl A C fu .nil:=λ{aa nm xs L O out Z s} hm eo ef H h hn=>by
 rw [Pk hm]
 exact h▸wpAny_execs_nil ⟨Z,aj.refl _ _ _,H,rfl⟩
theorem Uj {st:S} {ss:Ss} (a:fL U w J gl bl fl A C fu st) (b:ic U w J gl bl fl A C fu ss):ic U w J gl bl fl A C fu (.cons st ss):=λ{aa nm xs L O out Z s} hm eo ef H h hn=>Cz (Ps:=λxs=>wpAny (model U w) A (execs xs aa) _ _ s) hm λy ys h1 h2=>
 wpAny_execs_cons (xP (λeh=>a h1 eo ef H rfl eh) (aj.refl _ _ _) h hn λf L1 ae r ao s1 h X1 _ H1 fv=>Bs h fv (λh=>zi X1 (b h2 eo ef H1 h hn)) (λh=>h▸⟨ao,X1,H1,rfl⟩) λv x h rv=>h▸⟨ao,X1,H1,x,rfl,rv⟩)
theorem mL {c:E} {a b:Ss} (c1:a7 U w J gl bl fl A C fu c) (sa:ic U w J gl bl fl A C fu a) (sb:ic U w J gl bl fl A C fu b):fL U w J gl bl fl A C fu (.ite c a b):=λ{aa nm x L O out Z s} hm eo ef H h hn=>XA (P:=λx=>wpAny (model U w) A (exec x aa) _ _ s) hm λt y z p h1 h2 h3=>
 wpAny_If (Nj c1 h1 eo H (aj.refl _ _ _) h hn λt ae ao s1 h X1 H1=>match t,h with
  |true,h=>zi X1 (sa h2 eo ef H1 h hn)
  |false,h=>zi X1 (sb h3 eo ef H1 h hn))
inductive Ja (U:Program) (w:World) (J:Heap) (fl:List Env) (aa:Env) (nm:List Str) (Z:aH) (s:Shared) (C:Calls) (fu:Nat) (c:E) (b:Ss) (out:aU) (k:Nat) (sy:Shared):Prop where
 |mk (L':Locals) (af:ag) (ai:aH) (hW:km (ev C fu c) (ah C fu b) k L' af=out) (X:aj (cR aa) Z s ai sy) (H:aR U w J fl aa nm ai af L' sy):Ja U w J fl aa nm Z s C fu c b out k sy
theorem YN (hN:∀aa nm,eK fl aa nm→rY U w J fl A aa nm) (hC:∀aa nm,eK fl aa nm→xb U w J fl A aa nm) {c:E} {b:Ss} (c1:a7 U w J gl bl fl A C fu c) (sb:ic U w J gl bl fl A C fu b):fL U w J gl bl fl A C fu (.dD c b):=λ{aa nm x L O out Z s} hm eo ef H h hn=>NN (P:=λx=>wpAny (model U w) A (exec x aa) _ _ s) hm λt y p h1 h2=>by
 have cb:∀v s',XS true U w J fl aa nm Z s out v s'→cameBackBy (model U w) A aa (XS false U w J fl aa nm Z s out) v s':=λv s' x=>hC aa nm ef _ _ _ _ _ _ H.st x
 refine wpAny_While (codeAny_whileLoop (Ja U w J fl aa nm Z s C fu c b out) ?_ fu ⟨L,O,Z,h,aj.refl _ _ _,H⟩)
 intro k sy wi
 match k,wi with
 |0,⟨_,_,_,hW,_,_⟩=>exact absurd hW.symm hn
 |k+1,⟨L',af,ai,hW,X,Hy⟩=>
  refine DA H.st (hN aa nm ef) cb (Nj c1 h1 eo Hy X hW hn λt ae ao s1 h X1 H1=>?_)
  match t,h with
  |false,h=>exact h▸wpAny_execs_nil ⟨ao,X1,H1,rfl⟩
  |true,h=>exact DA H.st (hN aa nm ef) cb (xP (λeh=>sb h2 eo ef H1 rfl eh) X1 h hn λf L2 az g eT s2 h X2 _ H2 fv=>Js h fv (λh=>⟨k,adu _,L2,az,eT,h,X2,H2⟩) (λh=>h▸⟨eT,X2,H2,rfl⟩) λv x h rv=>h▸⟨eT,X2,H2,x,rfl,rv⟩)
inductive I7 (U:Program) (w:World) (J:Heap) (fl:List Env) (aa:Env) (nm:List Str) (ao:aH) (s1:Shared) (C:Calls) (fu:Nat) (I:Addr) (item:Nat→ag→Option (Option V)) (T:Nat→Heap→Prop) (i:Nat) (b:Ss) (out:aU) (k:Nat) (sy:Shared):Prop where
 |mk (j:Nat) (L':Locals) (af:ag) (ai:aH) (hG:jd item i (ah C fu b) k j L' af=out) (X:aj (cR aa) ao s1 ai sy) (H:aR U w J fl aa nm ai af L' sy) (hT:T j sy.heap) (nI:¬bM ai I):I7 U w J fl aa nm ao s1 C fu I item T i b out k sy
theorem BJ (H:aR U w J fl aa nm Z O L s):(s.heap.get? aa.locals).isSome:=by obtain ⟨m,⟨o,_,_,e,_⟩,_⟩:=H.loc;rw [e];rfl
theorem Fh {item:Nat→ag→Option (Option V)} {it:Value} {i:Nat} {b:Ss} {y:List PySem.Stmt} {nn:Str} {q:Pos} {out:aU} {gy:ag} (S0:St U w J fl Z gy s) (eo:bJ gl bl aa) (ef:eK fl aa nm) (hN:rY U w J fl A aa nm)
    (bg:rQ U w J A fl aa nm L Z s item ae it s2) (h1:dQ aa.scope nm i nn=true) (h2:eD aa.scope nm b y=true) (sb:ic U w J gl bl fl A C fu b) (hF:jd item i (ah C fu b) fu 0 L ae=out) (hn:out≠ .stuck) {R:Result→Shared→Prop}
    (hR:∀x s',XS true U w J fl aa nm Z s out x s'→R (.error x) s') (B5:∀f s',PS U w J fl aa nm Z s out f s'→R (.ok f) s'):
  codeAny (model U w) A (.forLoop (.Name nn q) it y [] aa) R s2:=by
 obtain ⟨I,ao,s1,T,rfl,X0,H1,hI,X1,H2,fd,hT⟩:=bg
 obtain ⟨acZ,adf,VV,Ri⟩:=fd.at' _ _ hT
 have IX:¬cR aa I:=λe=>by have:=BJ H1;rw [←(show I=aa.locals from e),hI] at this;cases this
 refine codeAny_forLoop (I7 U w J fl aa nm ao s1 C fu I item T i b out) ?_ fu ⟨0,L,ae,ao,hF,X1.loc,H2,hT,H2.st.sr.BL VV Ri⟩
 intro k sy fi
 match k,fi with
 |0,⟨_,_,_,_,hG,_,_,_,_⟩=>exact absurd hG.symm hn
 |k+1,⟨j,L',af,ai,hG,X,Hy,zA,nI⟩=>
  obtain ⟨oI,vI,jg,mZ⟩:=fd.at' _ _ zA
  have FK:∀o v,sy.heap.get? I=some o→o.data≠ .cell v:=λo v e q=>by rw [jg] at e;cases e;rw [mZ] at q;cases q
  refine fk hG hn λo hv hG=>HE hG (λv ho hG=>?_) λho hG=>?_
  ·refine fd.wL j v ai af sy _ _ X.pre zA Hy.st.sr (ho▸hv) λh' z tk o4 ba zM rz=>?_
   have a:=yP (DG:=nm) H1 X Hy hI nI (λb o hb e=>(ba.2 b hb).trans e) FK (yu (h':=h') jg mZ) tk zM
   refine wpAny_assign_Name (wpAny_mono (xo eo ef a.h h1 (RV.mono a.v rz)) (λ_ s3 st=>?_) λ_ _ x=>x)
   refine DA S0 hN hR (xP (λeh=>sb h2 eo ef st.h rfl eh) ((X0.loc.trans a.x).trans st.x) hG hn λf L2 az g r7 s4 h X4 X5 H4 fv=>?_)
   obtain ⟨oJ,_,HT,_⟩:=fd.at' _ _ o4
   have I3:=st.x.keep _ _ HT nI IX
   refine Js h fv (λh=>⟨k,adu _,j+1,L2,az,r7,h,(a.x.trans st.x).trans X5,H4,fd.same _ _ _ o4 ((X5.keep _ _ I3 nI IX).trans HT.symm),λq=>nI (g5 X5 (by rw [I3];rfl) q)⟩) (λh=>B5 _ _ (h▸⟨r7,X4,H4,rfl⟩)) λv x h rv=>B5 _ _ (h▸⟨r7,X4,H4,x,rfl,rv⟩)
  ·refine fd.stop j ai af sy _ _ X.pre zA Hy.st.sr (ho▸hv) λh' ba=>?_
   have a:=yP (DG:=nm) H1 X Hy hI nI (λb o hb e=>ba b o hb e) FK (yu (h':=h') jg mZ) sy.toks (adq _)
   exact wpAny_execs_nil (B5 _ _ (hG▸⟨ai,X0.loc.trans a.x,a.h,rfl⟩))
theorem Zo {item:Nat→ag→Option (Option V)} {i iU j:Nat} {f:Locals→ag→aU} {out:aU} (h:jd item i f iU j L O=out) (hn:out≠ .stuck):∃o,item j O=some o:=match iU,h with
 |0,h=>absurd h.symm hn
 |k+1,h=>fk h hn λo ho _=>⟨o,ho⟩
theorem aaQ {m j:Nat} {o:Option V} (h:kx m j O=some o):∃vs,O[m]?=some (.list vs):=
 rW h sn λc hc e=>xv (P:=λc=>O[m]?=some c→∃vs,O[m]?=some (.list vs)) e (λus _ hc=>⟨us,hc⟩) (λe=>absurd e.symm sn) hc
theorem xO {e:aX} {out:aU} {v:Value} (H:aR U w J fl aa nm Z O L s) (h:aU.exc e L ae=out) (x:bh U w J (· ∈bb fl) Z s (.exc e ae:Out V) v s1) (t1:s.toks≤s1.toks):XS false U w J fl aa nm Z s out v s1:=match x with
 |⟨ai,y,a1,a2,a3,a4⟩=>h▸⟨ai,y,a1,cU.chain (aj.refl _ _ _) a2 λ_ q=>q.elim,H.exc a2 a3 t1,a4⟩
theorem qo (R:bI n 10 fl A) (hN:∀aa nm,eK fl aa nm→rY U w J fl A aa nm) (hC:∀aa nm,eK fl aa nm→xb U w J fl A aa nm) {i:Nat} {e:E} {b:Ss} (a1:a7 U w J gl bl fl A C fu e) (sb:ic U w J gl bl fl A C fu b):fL U w J gl bl fl A C fu (.forL i e b):=λ{aa nm x L O out Z s} hm eo ef H h hn=>Y1 (P:=λx=>wpAny (model U w) A (exec x aa) _ _ s) hm λnn q it y p h1 h2 h3=>by
 replace h:((ev C fu e L O).toS L λv O=>v.dX .stuck λn=>jd (kx n) i (ah C fu b) fu 0 L O)=out:=h
 refine wpAny_For (Nd (fu:=fu) R eo H h2 a1.1 (λq=>?_) (λe1 ae q v s1 x t1=>?_) (λv ae q=>?_) λm ae q it s2 bg=>?_) λz=>Jn (C3 h2)
 ·rw [q] at h;exact hn h.symm
 ·rw [q] at h;exact xO H h x t1
 ·rw [q] at h
  exact Fw (P:=λv=>∃m vs,v= .ref m∧ae[m]?=some (.list vs)) h hn λm h=>match Zo h hn with
   |⟨o,ho⟩=>match aaQ ho with
    |⟨vs,hs⟩=>⟨m,vs,rfl,hs⟩
 ·rw [q] at h
  exact Fh H.st eo ef (hN aa nm ef) bg h1 h3 sb h hn (λx s' xx=>hC aa nm ef _ _ _ _ _ _ H.st xx) λf s' pp=>pp
theorem wV (B:cz U w J gl bl K) (R:bI n 10 fl A) (hN:∀aa nm,eK fl aa nm→rY U w J fl A aa nm) (hC:∀aa nm,eK fl aa nm→xb U w J fl A aa nm) {i:Nat} {e:E} {b:Ss} (a1:a7 U w J gl bl fl A C fu e) (sb:ic U w J gl bl fl A C fu b):fL U w J gl bl fl A C fu (.forR i e b):=λ{aa nm x L O out Z s} hm eo ef H h hn=>Sr (P:=λx=>wpAny (model U w) A (exec x aa) _ _ s) hm λnn q pr pn pc y p h1 h0 h2 h3=>by
 replace h:((ev C fu e L O).toS L λv O=>v.cE .stuck λk=>if smallInt k=true then jd (gv k) i (ah C fu b) fu 0 L O else aU.stuck)=out:=h
 refine wpAny_For (GQ (fu:=fu) B R eo H h0 h2 a1.1 (λq=>?_) (λe1 ae q v s1 x t1=>?_) (λv ae q=>?_) λk ae q it s2 bg=>?_)
 ·rw [q] at h;exact hn h.symm
 ·rw [q] at h;exact xO H h x t1
 ·rw [q] at h
  exact KR (P:=λv=>∃k,v= .int k∧smallInt k=true) h hn λk h=>dc h hn λhs _=>⟨k,rfl,hs⟩
 ·rw [q] at h
  exact dc (show (if smallInt k=true then jd (gv k) i (ah C fu b) fu 0 L ae else aU.stuck)=out from h) hn λ_ h=>Fh H.st eo ef (hN aa nm ef) bg h1 h3 sb h hn (λx s' xx=>hC aa nm ef _ _ _ _ _ _ H.st xx) λf s' pp=>pp
end
section
variable {U:Program} {w:World} {J:Heap} {gl bl:Addr} {K:Frag} {fl:List Env} {Z ai ao aP:aH} {O af ae az:ag} {s s' s1 s0 s2:Shared} {A:Around} {E0:Value→Shared→Prop} {aa:Env} {nm:List Str} {L L':Locals}
variable {C:Calls} {n fu:Nat}
theorem K1 {sc:Scope}:∀{is:List Nat} {ts:List PySem.Expr},n6 sc nm is ts=true→assignEach ts aa=ts.map λt=>(false,assign t aa)
 |[],ts,h=>fY (P:=λts=>assignEach ts aa=ts.map λt=>(false,assign t aa)) h λ_=>rfl
 |i::is,ts,h=>BO (Ps:=λts=>assignEach ts aa=ts.map λt=>(false,assign t aa)) h λy p r _ h2=>congrArg ((false,assign (.Name y p) aa):: ·) (K1 h2)
theorem Iy {P:List V→Prop} {i:Nat} {is:List Nat} {vs:List V} (h:putAll L (i::is) vs=some L') (k:∀v r,putAll (L.put i v) is r=some L'→P (v::r)):P vs:=match vs,h with
 |v::r,h=>k v r h
theorem Wz {α:Type} {P:List V→Prop} {vs:List V} {d x r:α} (h:sH vs d x=r) (hn:r≠d) (k:x=r→P []):P vs:=match vs,h with
 |[],h=>k h
 |_::_,h=>absurd h.symm hn
theorem C0 {α:Type} {c:Prop} [i:Decidable c] {a b:α} (h:b=a):(if c then a else b)=a:=match i with
 | .isTrue _=>rfl
 | .isFalse _=>h
theorem US {ts:List PySem.Expr} {k:Nat} {q:Pos}:∀{v:PySem.Expr},Ek v=true→swappedStores [.Tuple ts k q] v aa=pure none:=by
 intro v
 cases v with
 |Tuple vs l p=>
  intro h
  have h:vs.all (foldedForSure 8)=true:=h
  refine C0 (C0 (C0 (if_pos h)))
 |_=>exact λ_=>rfl
theorem Rf (H:aR U w J fl aa nm Z O L s) (p:wo U w J fl aa nm Z s af L' s'):VK J Z s.heap Z s'.heap:=by
 obtain ⟨m,⟨o,es,ep,ho,hd,_⟩,_⟩:=H.loc
 exact p.x.vk H.st.sr p.h.st.stays λb o' q e vs n bQ=>by
  have:b=aa.locals:=q
  subst this
  rw [ho] at e;cases e;rw [hd] at bQ;cases bQ
theorem ND (eo:bJ gl bl aa) (ef:eK fl aa nm):∀{is:List Nat} {ts:List PySem.Expr} {vs:List V} {ws:List Value} {L L':Locals} {s:Shared},n6 aa.scope nm is ts=true→putAll L is vs=some L'→aD J s.heap Z vs ws→aR U w J fl aa nm Z O L s→
  wpAny (model U w) A (assignInOrder (ts.map λt=>assign t aa) ws) (λ_ s'=>wo U w J fl aa nm Z s O L' s') E0 s
 |[],ts,vs,ws,L,L',s,h,hp,r,H=>fY (P:=λts=>wpAny (model U w) A (assignInOrder (ts.map λt=>assign t aa) ws) _ E0 s) h λ_=>yt (P:=λ_ ws=>wpAny (model U w) A (assignInOrder [] ws) _ E0 s) hp sn r λhp=>
   co (P:=λL'=>wpAny (model U w) A (assignInOrder [] []) (λ_ s'=>wo U w J fl aa nm Z s O L' s') E0 s) hp (wpAny_pure ⟨aj.refl _ _ _,H⟩)
 |i::is,ts,vs,ws,L,L',s,h,hp,r,H=>BO (Ps:=λts=>wpAny (model U w) A (assignInOrder (ts.map λt=>assign t aa) ws) _ E0 s) h λy q ts hi h2=>Iy (P:=λvs=>aD J s.heap Z vs ws→wpAny (model U w) A (assignInOrder ((.Name y q::ts).map λt=>assign t aa) ws) _ E0 s) hp (λv vs hp r=>
   lp (P:=λws=>wpAny (model U w) A (assignInOrder ((.Name y q::ts).map λt=>assign t aa) ws) _ E0 s) r λa ac ra rr=>
    wpAny_bind (wpAny_holding (wpAny_assign_Name (wpAny_mono (xo eo ef H hi ra) (λ_ s1 p=>wpAny_mono (ND eo ef h2 hp (aD.mono (Rf H p) rr) p.h) (λ_ s2 p2=>⟨p.x.trans p2.x,p2.h⟩) λ_ _ x=>x) λ_ _ x=>x)))) r
theorem FH {sc:Scope}:∀{is:List Nat} {ts:List PySem.Expr} {vs:List V} {L L':Locals},n6 sc nm is ts=true→putAll L is vs=some L'→ts.length=vs.length
 |[],ts,vs,L,L',h,hp=>fY (P:=λts=>ts.length=vs.length) h λ_=>Wz (P:=λvs=>([]:List PySem.Expr).length=vs.length) hp sn λ_=>rfl
 |i::is,ts,vs,L,L',h,hp=>BO (Ps:=λts=>ts.length=vs.length) h λy q r _ h2=>Iy (P:=λvs=>(PySem.Expr.Name y q::r).length=vs.length) hp λv vs hp=>congrArg Nat.succ (FH h2 hp)
theorem pB (R:bI n 10 fl A) {is:List Nat} {e:E} (a1:a7 U w J gl bl fl A C fu e):fL U w J gl bl fl A C fu (.unpack is e):=λ{aa nm x L O out Z s} hm eo ef H h hn=>SY (P:=λx=>wpAny (model U w) A (exec x aa) _ _ s) hm λts k q v p h1 h2 h3 h4 h5=>by
 refine wpAny_Assign_stores (ie a1 h2 eo H (aj.refl _ _ _) h hn λv ae va ao s1 h X1 _ H1 r1=>Uz (P:=λ_ va=>wpAny (model U w) A (assignAll va ((assignEach [.Tuple ts k q] aa).map (·.2))) _ _ s1) h hn r1 λus a ws ht rs h=>fk h hn λL2 hp h=>?_) (show swapsWithSole _ _ _ _=_ from ta (t:=some (.Tuple ts k q)) (l:=p.line) (aa:=aa) h3) (US h4)
 have he:=K1 (aa:=aa) h1
 show wpAny _ A (assign (.Tuple ts k q) aa (.ref a)) _ _ _
 refine wpAny_assign_Tuple R.hand ht (by rw [he,List.length_map,Gs rs];exact FH h1 hp) (by rw [he];simp [List.findIdx?_eq_none_iff]) λh' aad=>?_
 rw [he,List.map_map]
 have g:∀c o,s1.heap.get? c=some o→h'.get? c=some o:=λc o e=>aad c o (Nat.ne_of_lt (Heap.lt_size e)) e
 have E1:aj aE ao s1 ao {s1 with heap:=h'}:=⟨List.prefix_refl _,λb o e _ _=>g b o e,λb e=>by
  obtain ⟨o,ho⟩:=Option.isSome_iff_exists.mp e
  show (h'.get? b).isSome
  rw [g b o ho];rfl,λn p hn e=>(by rw [List.getElem?_eq_none hn] at e;cases e),rfl,rfl,rfl⟩
 have vk:=E1.fp H1.st
 exact wpAny_mono (ND eo ef h1 hp (aD.mono vk rs) (H1.ext E1 (H1.st.sr.grow vk λb o _ e=>g b o e) (adq _))) (λ_ s2 p=>h▸⟨ao,(X1.trans E1.loc).trans p.x,p.h,rfl⟩) λ_ _ x=>x
theorem RY {a:PySem.Expr} {b:List Comprehension} {c:Scope} {p q:Pos} {nn:Str} {l:Nat} (eo:bJ gl bl aa) (hl:aa.kindOf nn=some .local) (hq:q.line=p.line) (hc:(c.names.any λy=>y.1==nn&&(y.2== .local||y.2== .cell))=false):
  swapsWithSole [.Name nn q] (.ListComp a b c p) l aa=pure true:=by
 show pure (aa.blockKind== .function&&aa.kindOf nn==some .local&&q.line==p.line&& !(c.names.any λy=>y.1==nn&&(y.2== .local||y.2== .cell)))=_
 have:aa.blockKind= .function:=by unfold Env.blockKind;rw [eo.kind];rfl
 rw [this,hl,hq,hc]
 simp
structure Zt (U:Program) (w:World) (J:Heap) (fl:List Env) (aa:Env) (nm:List Str) (ao:aH) (s1:Shared) (ai:aH) (s':Shared) (D:Addr) (az:ag) (vs:List V) (L:Locals):Prop where
 x:aj aE ao s1 (ai++[(D,D)]) s'
 h:aR U w J fl aa nm (ai++[(D,D)]) (az++[.list vs]) L s'
 r:RV J s'.heap (ai++[(D,D)]) (.ref az.length) (.ref D)
theorem aa7 {D Cc:Addr} {vs:List V} (H1:aR U w J fl aa nm ao ae L s1) (d:oj U w J fl ao s1 D Cc vs az ai s'):
  Zt U w J fl aa nm ao s1 ai s' D az vs L:=by
 obtain ⟨ws,hD,rs⟩:=d.acc
 have nb:J.get? D=none:=jE H1.st.stays d.newD
 have v:VK J ai s'.heap (ai++[(D,D)]) s'.heap:=⟨List.prefix_append _ _,λb o e _ _ _=>⟨o.slots,e⟩,d.st.stays,d.st.sr.off,d.st.sr.cells⟩
 have R:SR U w J s'.heap (ai++[(D,D)]) (az++[.list vs]):=d.st.sr.add (p:=(D,D)) v ⟨rfl,d.len,ws,hD,aD.mono v rs⟩ (λb o _ e=>e) d.xi d.xi nb nb
 have X:aj aE ao s1 (ai++[(D,D)]) s':=by
  refine ⟨d.ext.pre.trans (List.prefix_append _ _),d.ext.keep,d.ext.live,λn p hn e=>?_,d.ext.gens,d.ext.drawn,d.ext.os⟩
  by_cases aK:n<ai.length
  ·rw [List.getElem?_append_left aK] at e
   exact d.ext.new n p hn e
  ·rw [List.getElem?_append_right (Nat.le_of_not_lt aK)] at e
   cases hk:n-ai.length with
   |zero=>rw [hk] at e;cases e;exact ⟨d.newD,d.newD⟩
   |succ j=>rw [hk] at e;simp at e
 refine ⟨X,H1.ext2 X ⟨R,d.st.stays,d.st.frames,λa ha q=>?_,d.st.tok⟩,?_⟩
 ·obtain ⟨_,o,ho,_⟩:=mM H1.st.frames a ha
  exact H1.st.jM a ha (g5 X (by rw [ho];rfl) q)
 ·exact ⟨(D,D),by rw [←d.st.sr.len];simp,rfl⟩
theorem Q2 {b:Addr} {p:Addr×Addr} (h:bM (Z++[p]) b):bM Z b∨b=p.1∨b=p.2:=by
 obtain ⟨q,hq,e⟩:=h
 rcases List.mem_append.mp hq with z |z
 ·exact .inl ⟨q,z,e⟩
 ·rw [List.mem_singleton] at z;subst z;exact .inr e
theorem TJ {D Cc:Addr} {vs:List V} {i:Nat} {nn:Str} {q:Pos} (eo:bJ gl bl aa) (ef:eK fl aa nm) (X0:aj aE Z s ao s1) (H1:aR U w J fl aa nm ao ae L s1) (d:oj U w J fl ao s1 D Cc vs az ai s') (hi:dQ aa.scope nm i nn=true):
  wpAny (model U w) A (assignAll (.ref D) ((assignEach [.Name nn q] aa).map (·.2))) (λ_ bY=>∃m,bY.heap.Ns Cc m∧∀h',Heap.SameBut Cc bY.heap h'→PS U w J fl aa nm Z s (.ok .next (L.put i (.ref az.length)) (az++[.list vs])) .next {bY with heap:=h'}) E0 s':=by
 obtain ⟨X2,H2,r2⟩:=aa7 H1 d
 obtain ⟨m,cw⟩:=d.ns
 show wpAny _ A (assign (.Name nn q) aa (.ref D)) _ _ _
 refine wpAny_assign_Name (wpAny_mono (xo eo ef H2 hi r2) (λ_ s3 st=>?_) λ_ _ x=>x)
 have nC:¬bM (ai++[(D,D)]) Cc:=λq=>by
  rcases Q2 q with z |z |z
  ·exact d.EF z
  ·exact d.ne z.symm
  ·exact d.ne z.symm
 have UL:¬cR aa Cc:=λe=>by
  have:=BJ H1
  rw [←(show Cc=aa.locals from e),d.vY] at this;cases this
 obtain ⟨oC,VM,Tp,Y7,F9,rC⟩:=cw
 have JQ:s3.heap.get? Cc=some oC:=st.x.keep _ _ Y7 nC UL
 have MR:s3.heap.Ns Cc m:=⟨oC,VM,Tp,JQ,F9,rC⟩
 refine ⟨m,MR,λh' ba=>?_⟩
 have a:=yP (DG:=nm) H1 (X2.loc.trans st.x) st.h d.vY nC (λb o hb e=>(ba.2 b hb).trans e) (λo v e q=>by rw [JQ] at e;cases e;rw [F9] at q;cases q) (DT MR) s3.toks (adq _)
 exact ⟨_,X0.loc.trans a.x,a.h,rfl⟩
theorem Ub {pe:PySem.Expr} {gs:List Comprehension} {aG:Scope} {p q r:Pos} {nn:Str} {i:Nat} {out:aU} (eo:bJ gl bl aa) (h1:dQ aa.scope nm i nn=true) (h3:q.line=p.line) (h4:(aG.names.any λy=>y.1==nn&&(y.2== .local||y.2== .cell))=false)
    (aQ:wpAny (model U w) A (comprehension (.ListComp pe gs aG p) aG aa (firstIterPos gs p) (newList []) (firstAsync gs) (firstIter gs aa) (some λv=>assignAll v ((assignEach [.Name nn q] aa).map (·.2)))) (λ_ s'=>PS U w J fl aa nm Z s out .next s') (XS false U w J fl aa nm Z s out) s):
  wpAny (model U w) A (exec (.Assign [.Name nn q] (.ListComp pe gs aG p) r) aa) (PS U w J fl aa nm Z s out) (XS false U w J fl aa nm Z s out) s:=by
 rw [exec_Assign_arm]
 refine wpAny_bind (wpAny_standAt ?_)
 rw [RY eo (oE h1).2.1 h3 h4]
 refine wpAny_bind (wpAny_pure ?_)
 rw [if_pos rfl]
 have e1:evalThenUse (.ListComp pe gs aG p) aa (λv=>assignAll v ((assignEach [.Name nn q] aa).map (·.2)))=(comprehension (.ListComp pe gs aG p) aG aa (firstIterPos gs p) (newList []) (firstAsync gs) (firstIter gs aa) (some λv=>assignAll v ((assignEach [.Name nn q] aa).map (·.2)))>>=λ_=>pure ()):=rfl
 rw [e1]
 exact wpAny_bind (wpAny_bind (wpAny_mono aQ (λ_ _ x=>wpAny_pure (wpAny_pure x)) λ_ _ x=>x))
theorem Fs {o:Out V} {out:aU} {i:Nat} {nn:Str} {q:Pos} (eo:bJ gl bl aa) (ef:eK fl aa nm) (h1:dQ aa.scope nm i nn=true) (h:o.toS L (λv O=> .ok .next (L.put i v) O)=out):
  ∀D Cc ao s1 ae ai s' vs az,o= .ok (.ref az.length) (az++[.list vs])→aj aE Z s ao s1→aR U w J fl aa nm ao ae L s1→oj U w J fl ao s1 D Cc vs az ai s'→
   compPost (model U w) A (XS false U w J fl aa nm Z s out) (some λv=>assignAll v ((assignEach [.Name nn q] aa).map (·.2))) (λ_ s'=>PS U w J fl aa nm Z s out .next s') (.ref D) Cc (.ok .next) s':=λD Cc ao s1 ae ai s' vs az ho X0 H1 d=>by
 rw [ho] at h
 exact (show aU.ok .next (L.put i (.ref az.length)) (az++[.list vs])=out from h)▸TJ eo ef X0 H1 d h1
theorem Le {o:Out V} {k:V→ag→aU} {out:aU} (h:o.toS L k=out) (hn:out≠ .stuck):o≠ .stuck:=λq=>by rw [q] at h;exact hn h.symm
theorem Nh {o:Out V} {k:V→ag→aU} {out:aU} (H:aR U w J fl aa nm Z O L s) (h:o.toS L k=out):∀e1 ae,o= .exc e1 ae→∀v s',bh U w J (· ∈bb fl) Z s (.exc e1 ae:Out V) v s'→s.toks≤s'.toks→XS false U w J fl aa nm Z s out v s':=λe1 ae q v s' x t=>by
 rw [q] at h;exact xO H h x t
theorem VG {i:Nat} {e:E} {a:PySem.Expr} {b:List Comprehension} {c:Scope} {p q:Pos} {nn:Str} {out:aU} (B:cz U w J gl bl K) (R:bI n 10 fl A) (ih:∀e,a7 U w J gl bl fl A C fu e) (eo:bJ gl bl aa) (ef:eK fl aa nm) (H:aR U w J fl aa nm Z O L s) (hn:out≠ .stuck)
    (h0:(e.ctorIdx==25||e.ctorIdx==26)=true) (h1:dQ aa.scope nm i nn=true) (h2:aF aa.scope nm e (.ListComp a b c p)=true) (h:(ev C fu e L O).toS L (λv O=> .ok .next (L.put i v) O)=out):
  wpAny (model U w) A (comprehension (.ListComp a b c p) c aa (firstIterPos b p) (newList []) (firstAsync b) (firstIter b aa) (some λv=>assignAll v ((assignEach [.Name nn q] aa).map (·.2)))) (λ_ s'=>PS U w J fl aa nm Z s out .next s') (XS false U w J fl aa nm Z s out) s:=by
 have k1:∀bc caps iter,aF aa.scope nm (.comp bc caps iter) (.ListComp a b c p)=true→(ev C fu (.comp bc caps iter) L O).toS L (λv O=> .ok .next (L.put i v) O)=out→
  wpAny (model U w) A (comprehension (.ListComp a b c p) c aa (firstIterPos b p) (newList []) (firstAsync b) (firstIter b aa) (some λv=>assignAll v ((assignEach [.Name nn q] aa).map (·.2)))) (λ_ s'=>PS U w J fl aa nm Z s out .next s') (XS false U w J fl aa nm Z s out) s:=λbc caps iter h2 h=>
  wO (P:=λx=>x= .ListComp a b c p→_) h2 (λpe y q2 cK aG p2 g1 g2 g3 e1=>by
   cases e1
   exact yV eo (Hi g1) g2 g3 (ih bc).1 (G9 R eo H g1 (ih iter).1 rfl (Le h hn) (Nh H h)) (Fs eo ef h1 h)) rfl
 have k2:∀bc caps iter,aF aa.scope nm (.jw bc caps iter) (.ListComp a b c p)=true→(ev C fu (.jw bc caps iter) L O).toS L (λv O=> .ok .next (L.put i v) O)=out→
  wpAny (model U w) A (comprehension (.ListComp a b c p) c aa (firstIterPos b p) (newList []) (firstAsync b) (firstIter b aa) (some λv=>assignAll v ((assignEach [.Name nn q] aa).map (·.2)))) (λ_ s'=>PS U w J fl aa nm Z s out .next s') (XS false U w J fl aa nm Z s out) s:=λbc caps iter h2 h=>
  xm (P:=λx=>x= .ListComp a b c p→_) h2 (λpe y q2 pr pn pc aG p2 g0 g1 g2 g3 e1=>by
   cases e1
   exact yV eo (λ_=>rfl) g2 g3 (ih bc).1 (Hd B R eo H g0 g1 (ih iter).1 rfl (Le h hn) (Nh H h)) (Fs eo ef h1 h)) rfl
 generalize wpAny (model U w) A (comprehension (.ListComp a b c p) c aa (firstIterPos b p) (newList []) (firstAsync b) (firstIter b aa) (some λv=>assignAll v ((assignEach [.Name nn q] aa).map (·.2)))) (λ_ s'=>PS U w J fl aa nm Z s out .next s') (XS false U w J fl aa nm Z s out) s=G at*
 exact OJ (P:=λe=>aF aa.scope nm e (.ListComp a b c p)=true→(ev C fu e L O).toS L (λv O=> .ok .next (L.put i v) O)=out→G) h0 k1 k2 h2 h
theorem Wr {i:Nat} {e:E} (B:cz U w J gl bl K) (R:bI n 10 fl A) (ih:∀e,a7 U w J gl bl fl A C fu e):fL U w J gl bl fl A C fu (.mC i e):=λ{aa nm x L O out Z s} hm eo ef H h hn=>Oe (P:=λx=>wpAny (model U w) A (exec x aa) _ _ s) hm λnn q a b c p r h0 h1 h2 h3 h4=>
 Ub (i:=i) eo h1 h3 h4 (VG B R ih eo ef H hn h0 h1 h2 h)
end
section
variable {U:Program} {w:World} {J:Heap} {gl bl:Addr} {K:Frag} {fl outer:List Env} {Z ai ao aP:aH} {O af ae az:ag} {s s' s1 s0 s2:Shared} {A:Around} {E0:Value→Shared→Prop} {aa:Env} {nm:List Str} {L L':Locals}
variable {C:Calls} {n fu:Nat}
noncomputable def NK (fl:List Env) (Y:Addr→Prop) (h h':Heap):Prop:=∀b o,h.get? b=some o→¬Y b→∃sl,h'.get? b=some {o with slots:=sl}∧(b∉bb fl→sl=o.slots)
theorem NK.refl (fl:List Env) (Y:Addr→Prop) (h:Heap):NK fl Y h h:=λb o e _=>⟨o.slots,e,λ_=>rfl⟩
theorem NK.trans {Y Y':Addr→Prop} {h h' yT:Heap} (a:NK fl Y h h') (b:NK fl Y' h' yT):NK fl (λc=>Y c∨Y' c) h yT:=λc o e ny=>by
 obtain ⟨sl,e1,f1⟩:=a c o e λq=>ny (.inl q)
 obtain ⟨Ct,e2,f2⟩:=b c _ e1 λq=>ny (.inr q)
 exact ⟨Ct,e2,λq=>(f2 q).trans (f1 q)⟩
inductive Entry (fl:List Env) (h:Heap) (x:Addr) (o:Obj) (h':Heap):Prop where
 |mk (T:Addr) (ot:Obj) (dq:Array Value) (e1:h'.get? x=some (o.mapFields (·.setIfInBounds 1 (.ref T)))) (e2:h.get? T=none) (e3:T≠x) (e4:h'.get? T=some ot) (e5:ot.data= .fields dq) (e6:4≤dq.size) (nk:NK fl (· =x) h h') (live:∀b,(h.get? b).isSome→(h'.get? b).isSome):Entry fl h x o h'
theorem Tb {h:Heap} {x:Addr} {o:Obj} {vs:Array Value} (rU:h.FunFrames J fl) (ho:h.get? x=some o) (hd:o.data= .fields vs):x∉bb fl:=λhm=>by
 obtain ⟨_,o',d8,yC⟩:=mM rU x hm
 rw [ho] at d8;cases d8;exact yC vs hd
theorem U0 {h fG nE:Heap} {x T:Addr} {o ot:Obj} {vs dq:Array Value} (ho:h.get? x=some o) (hd:o.data= .fields vs) (w7:x∉bb fl) (bO:fG.objs.size=h.objs.size) (Mm:∀b,b∉bb fl→fG.get? b=h.get? b) (Xj:∀b ob,h.get? b=some ob→∃sl,fG.get? b=some {ob with slots:=sl})
    (hT:T=fG.objs.size) (push:∀b ob,fG.get? b=some ob→nE.get? b=some ob) (fU:nE.get? T=some ot) (e9:ot.data= .fields dq) (h4:4≤dq.size):Entry fl h x o (nE.update x (Obj.mapFields (·.setIfInBounds 1 (.ref T)))):=by
 have yy:fG.get? x=some o:=(Mm x w7).trans ho
 have UJ:=push _ _ yy
 have xM:T≠x:=by rw [hT];exact Nat.ne_of_gt (Heap.lt_size yy)
 have ZY:h.get? T=none:=by rw [hT,bO];exact fS _
 have nk:NK fl (· =x) h (nE.update x (Obj.mapFields (·.setIfInBounds 1 (.ref T)))):=λb ob e nx=>by
  obtain ⟨sl,e1⟩:=Xj b ob e
  refine ⟨sl,(Heap.get?_update_other _ _ (Ne.symm nx)).trans (push _ _ e1),λq=>?_⟩
  have:=Mm b q
  rw [e1,e] at this
  injection this with this
  exact congrArg Obj.slots this
 have Jk:=Heap.get?_update_self (Obj.mapFields (·.setIfInBounds 1 (Value.ref T))) UJ (Obj.isFreed_of_fields (Obj.data_mapFields hd (·.setIfInBounds 1 (Value.ref T))))
 refine ⟨T,ot,dq,Jk,ZY,xM,(Heap.get?_update_other _ _ (Ne.symm xM)).trans fU,e9,h4,nk,λb hb=>?_⟩
 by_cases yj:b=x
 ·rw [yj,Jk];rfl
 ·obtain ⟨ob,mq⟩:=Option.isSome_iff_exists.mp hb
  obtain ⟨sl,e1,_⟩:=nk b ob mq yj
  rw [e1];rfl
theorem JN {x Lx:Addr} {o:Obj} {vs:Array Value} {head:Value} {PN:Bool} {Q:Unit→Shared→Prop} (sF:A.frames=some (aa::outer)) (rU:s.heap.FunFrames J (aa::outer)) (hf:aa.frame=some Lx) (ho:s.heap.get? x=some o) (hd:o.data= .fields vs) (bO:vs.size=6)
    (h:∀h',Entry (aa::outer) s.heap x o h'→Q () {s with heap:=h'}):
  wpAny (model U w) A (do let a←frameOf aa;let pl←entryPlaceOf Lx PN;let b←EntryCells.newEntry head a .none (rawInt Lx) .none pl;setField (.ref x) 1 b) Q E0 s:=by
 have w7:=Tb rU ho hd
 refine wpAny_bind (wpAny_frameOf_fun sF rU hf λfG w9=>wpAny_bind (wpAny_entryPlaceOf λpl pO=>?_))
 unfold EntryCells.newEntry newFields
 refine wpAny_bind (wpAny_newObj_type ?_ (pO.sizeOk5 _ _ _ _ _))
 have yy:fG.get? x=some o:=(w9.2.1 x w7).trans ho
 refine wpAny_setField (Heap.get?_push_of_some _ yy) hd (by rw [bO];decide) (h _ ?_)
 refine U0 ho hd w7 w9.1 w9.2.1 w9.2.2 rfl (λb ob e=>Heap.get?_push_of_some _ e) (Heap.get?_push_size fG rfl) rfl ?_
 simp only [List.size_toArray,List.length_append,List.length_cons,List.length_nil];omega
theorem NC {b':Bool} {e:aX} {x:Addr} {h':Heap} {Y:Addr→Prop} (S:St U w J fl Z O s) (X:cU (cR aa) (· ∈bb fl) Z s ai s') (H:aR U w J fl aa nm ai af L' s')
    (hY:∀b,Y b→s.heap.get? b=none∧∃o vs,s'.heap.get? b=some o∧o.data= .fields vs) (nk:NK fl Y s'.heap h') (live:∀b,(s'.heap.get? b).isSome→(h'.get? b).isSome) (ex:VK J ai s'.heap ai h'→kn b' J s.heap h' ai x e):
  XS b' U w J fl aa nm Z s (.exc e L' af) (.ref x) {s' with heap:=h'}:=by
 have stays:J.StaysIn h':=λb o q=>by
  obtain ⟨sl,e1,f1⟩:=nk b o (H.st.stays b o q) λy=>by
   have:=S.stays b o q
   rw [(hY b y).1] at this;cases this
  have:sl=o.slots:=f1 λm=>by
   have:=(mM H.st.frames b m).1
   rw [this] at q;cases q
  rw [e1,this]
 have v:VK J ai s'.heap ai h':=⟨List.prefix_refl _,λb o q nf ⟨vs,n,hd⟩ _=>by
  obtain ⟨sl,e1,_⟩:=nk b o q λy=>by
   obtain ⟨_,o',kN,e2,bQ⟩:=hY b y
   rw [q] at e2;cases e2;rw [hd] at bQ;cases bQ
  exact ⟨sl,e1⟩,stays,H.st.sr.off,H.st.sr.cells⟩
 refine ⟨ai,x,rfl,⟨X.pre,λb o q nf nx=>?_,λb q=>live b (X.live b q),X.new,X.gens,X.drawn,X.os⟩,⟨⟨H.st.sr.grow v λb o q e1=>?_,stays,nW H.st.frames λa ha o ho hd=>?_,H.st.jM,H.st.tok⟩,H.loc.FT v λb o q hd hb=>?_,H.jQ,H.oq⟩,ex v⟩
 ·obtain ⟨sl,e1,f1⟩:=X.keep b o q nf nx
  obtain ⟨Ct,e2,f2⟩:=nk b _ e1 λy=>by rw [(hY b y).1] at q;cases q
  exact ⟨Ct,e2,λm=>(f2 m).trans (f1 m)⟩
 ·obtain ⟨sl,e2,f2⟩:=nk b o e1 λy=>by
   obtain ⟨_,o',kN,e3,bQ⟩:=hY b y
   exact H.st.sr.BL e3 bQ q
  have:sl=o.slots:=f2 λm=>H.st.jM b m q
  rw [e2,this]
 ·obtain ⟨sl,e1,_⟩:=nk a o ho λy=>by
   obtain ⟨_,o',kN,e2,bQ⟩:=hY a y
   rw [ho] at e2;cases e2;exact hd kN bQ
  exact ⟨_,e1,hd⟩
 ·obtain ⟨sl,e1,_⟩:=nk b o q λy=>by
   obtain ⟨_,o',kN,e2,bQ⟩:=hY b y
   rw [q] at e2;cases e2
   rcases hb with rfl |⟨z,hz⟩
   ·obtain ⟨m,⟨o2,_,_,e3,CW,_⟩,_⟩:=H.loc
    rw [q] at e3;cases e3;rw [CW] at bQ;cases bQ
   ·rw [hz] at bQ;cases bQ
  exact ⟨sl,e1⟩
theorem aaf (o:Obj) (f:Array Value→Array Value):(o.mapFields f).dict=o.dict:=by
 obtain ⟨c,d,dt,sl⟩:=o;cases dt<;>rfl
theorem W2 {e:aX} {h0 hA h':Heap} {x T:Addr} {o ot:Obj} {dx:Addr} {vs dq:Array Value} {es:List DictEntry} {nn:Nat} {Y:Addr→Prop} (v:VK J ai hA ai h') (fresh:h0.get? x=none) (off:¬bM ai x) (cV:o.cls= .ref bA) (dg:o.dict=some dx) (hd:o.data= .fields vs) (bO:vs.size=6)
    (d1:h0.get? dx=none) (d2:¬bM ai dx) (d3:hA.get? dx=some (dictOf es nn)) (d4:cA J hA ai [(11,e.k),(12,e.a),(13,e.d)] es)
    (hx:h'.get? x=some (o.mapFields (·.setIfInBounds 1 (.ref T)))) (hT:h0.get? T=none) (xM:T≠x) (fU:h'.get? T=some ot) (e9:ot.data= .fields dq) (h4:4≤dq.size) (nk:NK fl Y hA h') (ny:¬Y dx) (nf:dx∉bb fl):kn true J h0 h' ai x e:=by
 obtain ⟨sl,e1,f1⟩:=nk dx _ d3 ny
 have Wi:=f1 nf
 refine ⟨fresh,off,_,dx,_,es,nn,hx,(Obj.cls_mapFields _ _).trans cV,(aaf _ _).trans dg,Obj.data_mapFields hd _,by rw [Array.size_setIfInBounds];exact bO,.yes T ot dq ?_ hT xM fU e9 h4,d1,d2,?_,cA.mono v d4⟩
 ·rw [Array.getElem?_setIfInBounds_self_of_lt (by omega)]
 ·rw [e1,Wi]
@[elab_as_elim] theorem uy {b:Bool} {out:aU} {v:Value} {P:aU→Value→Prop} (z:XS b U w J fl aa nm Z s out v s')
    (k:∀e L' af ai x,cU (cR aa) (· ∈bb fl) Z s ai s'→aR U w J fl aa nm ai af L' s'→kn b J s.heap s'.heap ai x e→P (.exc e L' af) (.ref x)):P out v:=match out,z with
 | .exc e L' af,⟨ai,x,hv,hx,hh,he⟩=>Eq.symm hv▸k e L' af ai x hx hh he
 | .stuck,z | .ok _ _ _,z=>z.elim
structure OD (fl:List Env) (h h':Heap) (tb:Addr) (IY:Obj):Prop where
 at':h'.get? tb=some IY
 other:∀b,b≠tb→h'.get? b=h.get? b
 nk:NK fl (· =tb) h h'
 live:∀b,(h.get? b).isSome→(h'.get? b).isSome
theorem LR {h:Heap} {tb:Addr} {ot:Obj} {dq:Array Value} {f:Array Value→Array Value} (fU:h.get? tb=some ot) (e9:ot.data= .fields dq):OD fl h (h.update tb (Obj.mapFields f)) tb (ot.mapFields f):=by
 have MP:=Heap.get?_update_self (Obj.mapFields f) fU (Obj.isFreed_of_fields (Obj.data_mapFields e9 f))
 have other:∀b,b≠tb→(h.update tb (Obj.mapFields f)).get? b=h.get? b:=λb hb=>Heap.get?_update_other _ _ (Ne.symm hb)
 refine ⟨MP,other,λb ob q nb=>⟨ob.slots,(other b nb).trans q,λ_=>rfl⟩,λb q=>?_⟩
 by_cases hb:b=tb
 ·rw [hb,MP];rfl
 ·rw [other b hb];exact q
theorem yf {dq:Array Value} (h4:4≤dq.size):3<dq.size:=h4
theorem H8 {e:aX} {x dx:Addr} {o:Obj} {vs:Array Value} {es:List DictEntry} {nn:Nat} {h0 h':Heap} {Y:Addr→Prop} {gy:ag} (S:St U w J fl Z gy s) (X:cU (cR aa) (· ∈bb fl) Z s ai s') (H:aR U w J fl aa nm ai af L' s') (fresh:s.heap.get? x=none) (off:¬bM ai x) (cV:o.cls= .ref bA) (dg:o.dict=some dx) (hd:o.data= .fields vs) (bO:vs.size=6)
    (d1:s.heap.get? dx=none) (d2:¬bM ai dx) (d3:s'.heap.get? dx=some (dictOf es nn)) (d4:cA J s'.heap ai [(11,e.k),(12,e.a),(13,e.d)] es) (en:Entry fl h0 x o h') (hY:∀b,Y b∨b=x→s.heap.get? b=none∧∃o vs,s'.heap.get? b=some o∧o.data= .fields vs) (ny:¬Y dx) (yB:dx≠x) (Hm:NK fl Y s'.heap h0) (LL:∀b,(s'.heap.get? b).isSome→(h0.get? b).isSome):
  XS true U w J fl aa nm Z s (.exc e L' af) (.ref x) {s' with heap:=h'}:=by
 obtain ⟨T,ot,dq,e1,e2,e3,e4,e5,e6,nk,live⟩:=en
 have nf:dx∉bb fl:=λm=>by
  obtain ⟨_,o',d8,_⟩:=mM S.frames dx m
  rw [d1] at d8;cases d8
 exact NC (Y:=λc=>Y c∨c=x) S X H hY (Hm.trans nk) (λb q=>live b (LL b q)) λvk=>W2 (Y:=λc=>Y c∨c=x) vk fresh off cV dg hd bO d1 d2 d3 d4 e1 (gU X.live (gU LL e2)) e3 e4 e5 e6 (Hm.trans nk) (λq=>q.elim ny yB) nf
theorem ux (sF:A.frames=some fl) (ef:eK fl aa nm):rY U w J fl A aa nm:=λE0 Z s out v s' gy S z=>by
 refine uy z λe L' af ai x X H ex=>?_
 obtain ⟨fresh,off,o,dx,vs,es,nn,ho,cV,dg,hd,bO,ko,d1,d2,d3,d4⟩:=ex
 obtain ⟨outer,rfl⟩:=ef.head
 have yB:dx≠x:=λq=>by rw [q,ho] at d3;cases d3;cases hd
 have Fc:∀b,b=x→s.heap.get? b=none∧∃o vs,s'.heap.get? b=some o∧o.data= .fields vs:=λb hb=>hb▸⟨fresh,o,vs,ho,hd⟩
 unfold noteFrame
 simp only [ef.frame]
 cases ko with
 |no _ h1=>
  refine wpAny_bind (wpAny_field ho hd h1 ?_)
  rw [if_neg (by decide)]
  exact JN sF H.st.frames ef.frame ho hd bO λh' en=>H8 (Y:=λ_=>False) S X H fresh off cV dg hd bO d1 d2 d3 d4 en (λb hb=>hb.elim False.elim (Fc b)) id yB (λb o q _=>⟨o.slots,q,λ_=>rfl⟩) λ_ q=>q
 |yes tb ot dq h1 sI qL fU e9 h4=>
  refine wpAny_bind (wpAny_field ho hd h1 ?_)
  rw [if_pos (show (Value.ref tb !=Value.none)=true from bne_iff_ne.2 nofun)]
  refine wpAny_bind (wpAny_field fU e9 (Array.getElem?_eq_getElem (yf h4)) ?_)
  by_cases HI:(dq[3]'(yf h4)==rawInt aa.locals)=true
  ·rw [if_pos HI]
   exact wpAny_pure ⟨ai,x,rfl,X,H,fresh,off,o,dx,vs,es,nn,ho,cV,dg,hd,bO,.yes tb ot dq h1 sI qL fU e9 h4,d1,d2,d3,d4⟩
  ·rw [if_neg HI]
   refine wpAny_bind (wpAny_setField fU e9 (yf h4) ?_)
   have u:=LR (fl:=aa::outer) (f:=(·.setIfInBounds 3 Value.none)) fU e9
   have Bz:dx≠tb:=λq=>by rw [q,fU] at d3;cases d3;cases e9
   generalize s'.heap.update tb (Obj.mapFields (·.setIfInBounds 3 Value.none))=h1 at u ⊢
   have rU:h1.FunFrames J (aa::outer):=nW H.st.frames λa ha ob mq yC=>⟨ob,(u.other a λq=>by rw [q,fU] at mq;cases mq;exact yC _ e9).trans mq,yC⟩
   exact JN (s:={s' with heap:=h1}) sF rU ef.frame ((u.other x (Ne.symm qL)).trans ho) hd bO λh' en=>H8 (s':=s') (Y:=(· =tb)) S X H fresh off cV dg hd bO d1 d2 d3 d4 en (λb hb=>hb.elim (λq=>q▸⟨sI,ot,dq,fU,e9⟩) (Fc b)) Bz yB u.nk u.live
theorem vF {b:Bool} {out:aU} {v:Value} {fa:Option Addr} (S:St U w J fl Z O s) (z:XS b U w J fl aa nm Z s out v s'):wpAny (model U w) A (setFlight v fa) (λ_ bY=>XS b U w J fl aa nm Z s out v bY) E0 s':=by
 refine uy z λe L' af ai x X H ex=>?_
 obtain ⟨fresh,off,o,dx,vs,es,nn,ho,cV,dg,hd,bO,ko,d1,d2,d3,d4⟩:=ex
 unfold setFlight
 cases ko with
 |no hb h1=>
  refine wpAny_bind (wpAny_field ho hd h1 ?_)
  rw [if_neg (by decide)]
  exact wpAny_pure ⟨ai,x,rfl,X,H,fresh,off,o,dx,vs,es,nn,ho,cV,dg,hd,bO,.no hb h1,d1,d2,d3,d4⟩
 |yes tb ot dq h1 sI qL fU e9 h4=>
  refine wpAny_bind (wpAny_field ho hd h1 ?_)
  rw [if_pos (show (Value.ref tb !=Value.none)=true from bne_iff_ne.2 nofun)]
  refine wpAny_setField fU e9 (yf h4) ?_
  have u:=LR (fl:=fl) (f:=(·.setIfInBounds 3 (fa.elim Value.none λf=>rawInt f))) fU e9
  have Bz:dx≠tb:=λq=>by rw [q,fU] at d3;cases d3;cases e9
  have od:=Obj.data_mapFields e9 (·.setIfInBounds 3 (fa.elim Value.none λf=>rawInt f))
  generalize ot.mapFields (·.setIfInBounds 3 (fa.elim Value.none λf=>rawInt f))=IY at u od
  generalize s'.heap.update tb (Obj.mapFields (·.setIfInBounds 3 (fa.elim Value.none λf=>rawInt f)))=h2 at u ⊢
  exact NC (Y:=(· =tb)) S X H (λb hb=>hb▸⟨sI,ot,dq,fU,e9⟩) u.nk u.live λvk=>⟨fresh,off,o,dx,vs,es,nn,(u.other x (Ne.symm qL)).trans ho,cV,dg,hd,bO,.yes tb _ _ h1 sI qL u.at' od (by rw [Array.size_setIfInBounds];exact h4),d1,d2,(u.other dx Bz).trans d3,cA.mono vk d4⟩
theorem XS.weaken {out:aU} {v:Value} (z:XS true U w J fl aa nm Z s out v s'):XS false U w J fl aa nm Z s out v s':=uy (P:=λout v=>XS false U w J fl aa nm Z s out v s') z λe L' af ai x X H ex=>match ex with
 |⟨fresh,off,o,dx,vs,es,nn,ho,cV,dg,hd,bO,ko,r1,r2,r3,r4⟩=>⟨ai,x,rfl,X,H,fresh,off,o,dx,vs,es,nn,ho,cV,dg,hd,bO,(match ko with
  | .no q _=>nomatch q
  | .yes tb ot dq q1 q2 q3 q4 q5 q6=> .yes tb ot dq q1 q2 q3 q4 q5 q6),r1,r2,r3,r4⟩
theorem z7 (ef:eK fl aa nm):xb U w J fl A aa nm:=λZ s out v s' gy S z=>uy (P:=λout v=>XS true U w J fl aa nm Z s out v s'→cameBackBy (model U w) A aa (XS false U w J fl aa nm Z s out) v s') z (λe L' af ai x X H ex z0=>match ex with
 |⟨fresh,off,o,dx,vs,es,nn,ho,cV,dg,hd,bO,ko,d1,d2,d3,d4⟩=>match ko with
  | .no q _=>nomatch q
  | .yes tb ot dq h1 sI qL fU e9 h4=>by
   unfold cameBackBy
   refine wpAny_bind (wpAny_field ho hd h1 ?_)
   rw [if_neg (show ¬(Value.ref tb==Value.none)=true from λq=>nomatch (beq_iff_eq.1 q))]
   exact wpAny_mono (vF S z0) (λ_ _ y=>XS.weaken y) λ_ _ y=>y) z
theorem WM {out:aU} {v:Value} (sF:A.frames=some fl) (ef:eK fl aa nm) (S:St U w J fl Z O s) (z:XS false U w J fl aa nm Z s out v s'):
  wpAny (model U w) A (leaving aa v) (λ_ bY=>XS true U w J fl aa nm Z s out v bY) E0 s':=by
 unfold leaving
 exact wpAny_bind (wpAny_mono (ux sF ef E0 Z s out v s' O S z) (λ_ s1 y=>vF S y) λ_ _ y=>y)
end
inductive oY (J:Heap) (gl bl:Addr) (f:Nat) (F:Fn):Prop where
 |mk (o:Obj) (fd:FuncData) (body:List PySem.Stmt) (nm:List Str) (ho:J.get? (bS f)=some o) (hd:o.data= .func fd) (hk:fd.scope.kind= .function) (hg:fd.scope.isGenerator=false) (hc:fd.scope.isCoroutine=false) (H6:fd.globals=gl) (uK:fd.builtins=bl) (gO:fd.closure=[])
      (EM:fd.body= .stmts body) (wy:J.CodeRec fd.code fd.qualname) (hm:eD fd.scope nm F.body body=true) (yD:nm.length=F.nl) (nU:nm.Nodup) (oT:F.np≤F.nl)
      (s9:∀x∈nm.take F.np,fd.scope.names.lookup x=some .local∨fd.scope.names.lookup x=some .cell)
      (sf:∀s ws,J.StaysIn s.heap→ws.length=F.np→BindsTo s fd ⟨ws,[]⟩ ((nm.take F.np).zip ws)):oY J gl bl f F
section
variable {U:Program} {w:World} {J:Heap} {gl bl:Addr} {K:Frag} {fl outer:List Env} {Z ai ao aP:aH} {O af ae az:ag} {s s' s1 s0 s2:Shared} {A:Around} {E0:Value→Shared→Prop} {aa:Env} {nm:List Str} {L L':Locals}
variable {C:Calls} {n fu:Nat}
theorem Ft {kd:Str→Option NameKind} {x:Str}:∀{b:List (Str×Value)} {m:Str→Option Value},x∉b.map (·.1)→bindL kd b m x=m x
 |[],_,_=>rfl
 |(y,v)::r,m,h=>by
  rw [List.map_cons,List.mem_cons,not_or] at h
  rw [bindL,Ft h.2]
  split
  ·simp [h.1]
  ·rfl
theorem Kh {kd:Str→Option NameKind} {x:Str} {v:Value} (hk:kd x=some .local):∀{b:List (Str×Value)} {m:Str→Option Value},(b.map (·.1)).Nodup→(x,v)∈b→bindL kd b m x=some v
 |(y,u)::r,m,hn,h=>by
  rw [List.map_cons,List.nodup_cons] at hn
  rcases List.mem_cons.mp h with h |h
  ·cases h
   rw [bindL,Ft hn.1,if_pos hk]
   simp
  ·rw [bindL];exact Kh hk hn.2 h
theorem Gi {kd:Str→Option NameKind} {x:Str}:∀{b:List (Str×Value)} {m:Str→Option Value},x∉b.map (·.1)→bindC kd b m x=m x
 |[],_,_=>rfl
 |(y,v)::r,m,h=>by
  rw [List.map_cons,List.mem_cons,not_or] at h
  rw [bindC,Gi h.2]
  split
  ·rfl
  ·simp [h.1]
theorem Kg {kd:Str→Option NameKind} {x:Str} {v:Value} (hk:kd x≠some .local):∀{b:List (Str×Value)} {m:Str→Option Value},(b.map (·.1)).Nodup→(x,v)∈b→bindC kd b m x=some v
 |(y,u)::r,m,hn,h=>by
  rw [List.map_cons,List.nodup_cons] at hn
  rcases List.mem_cons.mp h with h |h
  ·cases h
   rw [bindC,Gi hn.1,if_neg hk]
   simp
  ·rw [bindC];exact Kg hk hn.2 h
theorem Di:∀{names:List (Str×NameKind)} {k:Nat} {acc:List (Str×Addr)} {x:Str},(acc.lookup x).isSome=true→((cellsFrom k names acc).lookup x).isSome=true
 |[],_,_,_,h=>h
 |(y,kd)::r,k,acc,x,h=>by
  rw [cellsFrom]
  split
  ·refine Di ?_
   rw [List.lookup_cons];split<;>simp [h]
  ·exact Di h
theorem tG:∀{names:List (Str×NameKind)} {k:Nat} {acc:List (Str×Addr)} {x:Str},names.lookup x=some .cell→((cellsFrom k names acc).lookup x).isSome=true
 |(y,kd)::r,k,acc,x,h=>by
  rw [cellsFrom]
  rw [List.lookup_cons] at h
  split at h
  ·rename_i hx
   cases h
   rw [if_pos (by decide)]
   refine Di ?_
   rw [List.lookup_cons,hx];rfl
  ·split
   ·exact tG h
   ·exact tG h
theorem JU {h:Heap}:∀{vs:List V} {ws:List Value} {ns:List Str} {i:Nat} {v:V},aD J h Z vs ws→ns.length=vs.length→vs[i]?=some v→∃n x,ns[i]?=some n∧(n,x)∈ns.zip ws∧RV J h Z v x
 |[],_,_,_,_,_,_,h=>by cases h
 |v::vs,ws,ns,i,u,r,hl,h=>by
  obtain ⟨x,q,rfl,rx,rr⟩:=r
  cases ns with
  |nil=>cases hl
  |cons n ns=>
   cases i with
   |zero=>cases h;exact ⟨n,x,rfl,.head _,rx⟩
   |succ i=>
    obtain ⟨n',x',a,b,c⟩:=JU rr (by simpa using hl) (by simpa using h)
    exact ⟨n',x',a,.tail _ b,c⟩
theorem N3 {fd:FuncData} {f:Nat} {vs:List V} {ws:List Value} {np nl:Nat} (S:St U w J fl Z O s) (hk:fd.scope.kind= .function) (yD:nm.length=nl) (nU:nm.Nodup) (oT:np≤nl) (adg:vs.length=np) (r:aD J s.heap Z vs ws)
    (s9:∀x∈nm.take np,fd.scope.names.lookup x=some .local∨fd.scope.names.lookup x=some .cell)
    (x:InCallC s (callEnvC fd s.heap.objs.size (bS f)).locals (bindL (callEnvC fd s.heap.objs.size (bS f)).kindOf ((nm.take np).zip ws) λ_=>none) (callEnvC fd s.heap.objs.size (bS f)).cells
        (bindC (callEnvC fd s.heap.objs.size (bS f)).kindOf ((nm.take np).zip ws) λ_=>none) s1) (ht:s.toks≤s1.toks):
  aj aE Z s Z s1∧aR U w J (callEnvC fd s.heap.objs.size (bS f)::fl) (callEnvC fd s.heap.objs.size (bS f)) nm Z O (vs.map some++List.replicate (nl-np) none) s1:=by
 obtain ⟨h1,k1,e1⟩:=x.toInCall.same
 have keep:=x.toInCall.keep
 have X:aj aE Z s Z s1:=by
  refine ⟨List.prefix_refl _,λb o e _ _=>keep b o e,λb e=>?_,λn p hn e=>(by rw [List.getElem?_eq_none hn] at e;cases e),by rw [e1],by rw [e1],by rw [e1]⟩
  obtain ⟨o,ho⟩:=Option.isSome_iff_exists.mp e
  rw [keep b o ho];rfl
 have V:=X.fp S
 have dead:s.heap.get? s.heap.objs.size=none:=fS _
 have Jp:¬bM Z s.heap.objs.size:=λq=>by have:=S.sr.live q;rw [dead] at this;cases this
 have nb:J.get? s.heap.objs.size=none:=jE S.stays dead
 have S1:=S.ext X (S.sr.grow V λb o _ e=>keep b o e) ht
 have cw:s1.heap.Ns s.heap.objs.size _:=x.toInCall.ns
 refine ⟨X,⟨S1.sr,S1.stays,⟨?_,⟨s.heap.objs.size,?_⟩,S1.frames⟩,λa ha=>?_,S1.tok⟩,⟨_,cw,λi v hv=>?_⟩,Jp,nb⟩
 ·show fd.scope.kind≠_
  rw [hk];intro q;cases q
 ·obtain ⟨o,es,ep,ho,hd,_⟩:=cw
  exact ⟨o,rfl,nb,ho,λvs q=>by rw [hd] at q;cases q⟩
 ·have:a=s.heap.objs.size∨a∈bb fl:=by simpa [bb,callEnvC,newEnv] using ha
  rcases this with rfl |ha
  ·exact Jp
  ·exact S1.jM a ha
 ·have hv:((vs.map some++List.replicate (nl-np) none)[i]?).join=some v:=hv
  have IZ:vs[i]?=some v:=by
   by_cases hi:i<vs.length
   ·rw [List.getElem?_append_left (by simpa using hi),List.getElem?_map] at hv
    cases hq:vs[i]? with
    |none=>rw [hq] at hv;cases hv
    |some u=>rw [hq] at hv;exact hv
   ·rw [List.getElem?_append_right (by simpa using hi)] at hv
    rw [List.getElem?_replicate] at hv
    split at hv<;>cases hv
  have dy:(nm.take np).length=vs.length:=by rw [List.length_take];omega
  obtain ⟨nn,y,a1,a2,a3⟩:=JU r dy IZ
  have tS:nn∈nm.take np:=List.mem_of_getElem? a1
  have eV:nm[i]?=some nn:=by
   have:(nm.take np)[i]?=nm[i]?:=by
    rw [List.getElem?_take]
    have:i<vs.length:=(List.getElem?_eq_some_iff.mp IZ).1
    rw [if_pos (by omega)]
   rw [←this];exact a1
  have Hn:(((nm.take np).zip ws).map (·.1)).Nodup:=by
   have:((nm.take np).zip ws).map (·.1)=nm.take np:=by
    rw [List.map_fst_zip]
    rw [dy,aD.length r];exact adq _
   rw [this]
   exact nU.sublist (List.take_sublist _ _)
  refine ⟨nn,y,eV,RV.mono V a3,?_⟩
  rcases s9 nn tS with hl |hc
  ·exact .inl ⟨hl,Kh hl Hn a2⟩
  ·refine .inr ⟨hc,?_⟩
   have hs:=tG (k:=s.heap.objs.size+1) (acc:=[]) hc
   obtain ⟨c,m6⟩:=Option.isSome_iff_exists.mp hs
   refine ⟨c,m6,?_⟩
   have:=x.cell nn c m6
   rw [Kg (by intro q;rw [show (callEnvC fd s.heap.objs.size (bS f)).kindOf nn=some .cell from hc] at q;cases q) Hn a2] at this
   exact this
noncomputable def Nn (v:PySem.Flow):Value:=match v with | .ret x=>x |_=> .none
theorem Rp {out:aU} {v:PySem.Flow} {e1:Env} (hL:s.heap.get? e1.locals=none) (X:aj aE Z s Z s1) (p:PS U w J (e1::fl) e1 nm Z s1 out v s') (hn:fH out≠ .stuck):
  aI U w J aE Z s (fH out) (Nn v) s':=match out,p,hn with
 | .ok g L2 az,⟨ai,X2,H2,fv⟩,hn=>
  have X3:aj aE Z s ai s':=X.chain X2 λc hc=> .inr (by rw [show c=e1.locals from hc];exact hL)
  match g,fv,hn with
  | .next,fv,_=>Eq.symm (show v=_ from fv)▸⟨ai,X3,H2.st.sr,xY⟩
  | .brk,_,hn=>absurd rfl hn
  | .ret u,⟨y,e,ry⟩,_=>e▸⟨ai,X3,H2.st.sr,ry⟩
 | .stuck,p,_ | .exc _ _ _,p,_=>p.elim
theorem call_exc {b:Bool} {out:aU} {v:Value} {e1:Env} (hL:s.heap.get? e1.locals=none) (hf:e1.frame=some e1.locals) (X:aj aE Z s Z s1) (p:XS b U w J (e1::fl) e1 nm Z s1 out v s'):
  bh U w J (· ∈bb fl) Z s (fH out) v s':=uy (P:=λout v=>bh U w J (· ∈bb fl) Z s (fH out) v s') p λe L2 az ai x X2 H2 ex=>by
 have X3:cU aE (· ∈bb (e1::fl)) Z s ai s':=cU.chain X X2 λc hc=> .inr (by rw [show c=e1.locals from hc];exact hL)
 refine ⟨ai,x,rfl,⟨X3.pre,λb o q nf nx=>?_,X3.live,X3.new,X3.gens,X3.drawn,X3.os⟩,H2.st.sr,?_⟩
 ·obtain ⟨sl,h1,h2⟩:=X3.keep b o q nf nx
  refine ⟨sl,h1,λhb=>h2 λhm=>?_⟩
  have:b=e1.locals∨b∈bb fl:=by simpa [bb,hf] using hm
  rcases this with rfl |hm
  ·rw [hL] at q;cases q
  ·exact hb hm
 ·match ex.before X.live with
  |⟨a1,a2,o,dx,vs,es,nn,b1,b2,b3,b4,b5,b6,b7,b8,b9,WL⟩=>exact ⟨a1,a2,o,dx,vs,es,nn,b1,b2,b3,b4,b5,(match b6 with
   | .no _ q=> .no rfl q
   | .yes tb ot dq q1 q2 q3 q4 q5 q6=> .yes tb ot dq q1 q2 q3 q4 q5 q6),b7,b8,b9,WL⟩
noncomputable def BodyOk (U:Program) (w:World) (J:Heap) (gl bl:Addr) (n:Nat) (C:Calls) (fu:Nat) (ss:Ss):Prop:=∀fl A,bI n 10 fl A→ic U w J gl bl fl A C fu ss
structure HQ (U:Program) (w:World) (J:Heap) (gl bl:Addr) (n:Nat) (fl:List Env) (A:Around) (Z:aH) (O:ag) (s:Shared) (F:Fn) (vs:List V) (e1:Env) (nm:List Str) (body:List PySem.Stmt) (s2:Shared):Prop where
 hm:eD e1.scope nm F.body body=true
 eo:bJ gl bl e1
 ef:eK (e1::fl) e1 nm
 R:bI n 10 (e1::fl) (A.deeper e1)
 dead:s.heap.get? e1.locals=none
 X:aj aE Z s Z s2
 H:aR U w J (e1::fl) e1 nm Z O (vs.map some++List.replicate (F.nl-F.np) none) s2
theorem bI.call (R:bI (n+1) 0 fl A) (e1:Env):bI n 10 (e1::fl) (A.deeper e1):=by
 refine ⟨R.hand,by show A.frames.map _=_;rw [R.frames];rfl,?_,?_⟩
 ·have:=R.depth;show A.depth+1+12*n+10+10≤_;omega
 ·have:=R.units;show A.units+3+40*n+10+200≤_;omega
theorem bI.ou (R:bI (n+1) 0 fl A):A.depth<recursionLimit:=by have:=R.depth;omega
noncomputable def aa4 (U:Program) (w:World) (A:Around) (s:Shared) (f:Nat) (k:Nat) (fd:FuncData) (jZ:List (Str×Value)):Prop:=∀(Q:Env→Shared→Prop) (E:Value→Shared→Prop),
  (∀aa,aa=callEnvC fd s.heap.objs.size (bS f)→∀s',InCallC s aa.locals (bindL aa.kindOf jZ λ_=>none) aa.cells (bindC aa.kindOf jZ λ_=>none) s'→k≤s'.toks→Q aa s')→
  wpAny (model U w) A.in1 (newFunctionEnv fd.scope fd.globals [] jZ (fd.qualname++".<locals>.") (some (bS f)) fd.code none fd.builtins) Q E s
noncomputable def vJ (U:Program) (w:World) (A:Around) (J:Heap) (s:Shared) (f np:Nat) (k:Nat):Prop:=∀o fd jZ,J.get? (bS f)=some o→o.data= .func fd→fd.scope.kind= .function→jZ.length=np→
  (∀x∈jZ,fd.scope.names.lookup x.1=some .local∨(fd.scope.names.lookup x.1=some .cell∧((cellsFrom (s.heap.objs.size+1) fd.scope.names []).lookup x.1).isSome=true))→aa4 U w A s f k fd jZ
theorem Z8 {f np:Nat}:vJ U w A J s f np s.toks:=λo fd jZ _ _ hk _ hz Q E hQ=>
 wpAny_mono (wpAny_toks (wpAny_newFunctionEnv_cells (Q:=λaa s2=>aa=callEnvC fd s.heap.objs.size (bS f)∧InCallC s aa.locals (bindL aa.kindOf jZ λ_=>none) aa.cells (bindC aa.kindOf jZ λ_=>none) s2) hk hz λaa he s' x=>⟨he,x⟩))
    (λaa s2 x=>hQ aa x.1.1 s2 x.1.2 x.2) λe s' x=>x.1
theorem GS (B:cz U w J gl bl K) {f:Nat} {F:Fn} (D:oY J gl bl f F) {vs:List V} {ws:List Value} (R:bI (n+1) 0 fl A) {k:Nat} (S:St U w J fl Z O {s with toks:=k}) (r:aD J s.heap Z vs ws) (hl:vs.length=F.np)
    (st:vJ U w A J s f F.np k) {Rr:Result→Shared→Prop}
    (go:∀e1 nm body s2,HQ U w J gl bl n fl A Z O s F vs e1 nm body s2→wpAny (model U w) (A.deeper e1) (execs body e1) (λf s'=>Rr (.ok (.ret (Nn f))) s') (λe s'=>wpAny (model U w) (A.deeper e1) (leaving e1 e) (λ_ bY=>Rr (.error e) bY) (λe' bY=>Rr (.error e') bY) s') s2):
  codeAny (model U w) A (.call (.ref (bS f)) ⟨ws,[]⟩) Rr s:=by
 obtain ⟨o,fd,body,nm,ho,hd,hk,hg,hc,H6,uK,gO,EM,wy,hm,yD,nU,oT,s9,sf⟩:=D
 have stays:∀b o,J.get? b=some o→s.heap.get? b=some o:=λb o e=>S.stays b o e
 refine codeAny_call_function R.ou (stays _ _ ho) hd hc hg EM (wy.keeps stays) (sf s ws S.stays ((aD.length r).trans hl) _ _ _ _ ?_)
 rw [gO]
 have dy:((nm.take F.np).zip ws).length=F.np:=by rw [List.length_zip,List.length_take,aD.length r,hl,yD,Nat.min_eq_left oT,Nat.min_self]
 refine st o fd _ ho hd hk dy (λx hx=>(s9 x.1 (List.of_mem_zip hx).1).imp_right λq=>⟨q,tG q⟩) _ _ λaa he s2 x Xz=>?_
 obtain ⟨X,H⟩:=N3 (s:={s with toks:=k}) S hk yD nU oT hl r s9 (he▸(⟨⟨x.toInCall.same,x.toInCall.ns,x.toInCall.keep,x.toInCall.fresh⟩,x.cell,x.apart,x.above⟩:InCallC {s with toks:=k} aa.locals _ aa.cells _ s2)) Xz
 rw [←he] at H
 have run:HQ U w J gl bl n fl A Z O s F vs aa nm body s2:=⟨he▸hm,he▸⟨hk,H6,uK,λn q=>tG q⟩,he▸⟨nU,rfl,fl,rfl⟩,R.call aa,he▸fS _,⟨X.pre,X.keep,X.live,X.new,X.gens,X.drawn,X.os⟩,H⟩
 refine ⟨B.lim.keeps λb o e=>H.st.stays b o e,codeAny_func (wpAny_mono (go aa nm body s2 run) (λv s' p=>?_) λe s' p=>p)⟩
 cases v<;>exact p
theorem Wm (B:cz U w J gl bl K) {f:Nat} {F:Fn} (D:oY J gl bl f F) (hB:BodyOk U w J gl bl n C fu F.body) {vs:List V} {ws:List Value} {out:Out V} (R:bI (n+1) 0 fl A) (S:St U w J fl Z O s) (h:xE C fu F vs O=out) (hn:out≠ .stuck) (r:aD J s.heap Z vs ws):
  codeAny (model U w) A (.call (.ref (bS f)) ⟨ws,[]⟩) (Nk U w J (· ∈bb fl) Z s out) s:=
 dc h hn λdy h=>GS B D R (k:=s.toks) S r dy.1 Z8 λe1 nm body s2 r0=>wpAny_mono (hB _ _ r0.R r0.hm r0.eo r0.ef r0.H rfl λq=>hn (by rw [←h,q];rfl)) (λv s' p=>h▸Rp r0.dead r0.X p (h▸hn))
    λe s' p=>wpAny_mono (WM r0.R.frames r0.ef r0.H.st p) (λ_ bY q=>h▸call_exc r0.dead r0.ef.frame r0.X q) λ_ _ z=>z
end
end Mine
namespace Mine
open PySem PySem.W PyProof.Rows PySem.Calls
open Builtin Builtin.ObjectAttr
noncomputable def sT:List Value:=[.ref 45,.ref 32,.type "Exception",.type "BaseException",.type "object"]
structure EK (K:Frag):Prop where
 cd:∃cd,clsIn K bA=some cd∧cd.mro=sT∧cd.hasDict=true
 sa:findIn K (.ref bA) "__setattr__"=some (some (.builtin "object.__setattr__"))
 Ca:∀f,11≤f→f<14→findIn K (.ref bA) (aB f)=some none
 init:findIn K (.ref bA) "__init__"=some (some (.ref 29))
 isFn:typeIn K (.ref 29)=some (.type "function")
 kp:keepIn K (.ref bA)=true
section
variable {U:Program} {w:World} {J:Heap} {gl bl:Addr} {K:Frag} {fl outer:List Env} {Z ai ao aP:aH} {O af ae az:ag} {s s' s1 s0 s2:Shared} {A:Around} {E0:Value→Shared→Prop} {aa:Env} {nm:List Str} {L L':Locals}
variable {C:Calls} {n fu:Nat}
theorem RW (self:Value):refuseLoop self "__setattr__" sT=pure ():=by
 unfold sT
 rw [refuseLoop_ref,refuseLoop_ref]
 exact PySem.F.store_object.passes self
theorem Kz {x:Addr} {ox:Obj} {od:Option Obj} {f:Nat} {tk:Tok} {v:Value} {R:Result→Shared→Prop} (ek:EK K) (X:K.In s.heap) (I:InstAt s.heap x ox bA od) (h1:11≤f) (h2:f<14)
    (h:wpAny (model U w) A.in1 (storeInOwnDict (.ref x) (.ref bA) (.str (aB f) tk) (aB f) v false)
      (λfin s'=>match fin with | .done f=>R (.ok f) s' | .again c'=>c'.quiet=true∧codeAny (model U w) A c' R s') (λe s'=>R (.error e) s') s):
  codeAny (model U w) A (.call (.builtin "object.__setattr__") ⟨[.ref x,.str (aB f) tk,v],[]⟩) R s:=by
 have SF:=PySem.F.store_object
 obtain ⟨cd,hc,lY,dg⟩:=ek.cd
 have Ap:cd.mro.contains (.type "object")=true:=by rw [lY];decide
 have ne:cd.mro.isEmpty=false:=by rw [lY];rfl
 have sub:Looks (model U w) s.heap (isInstance (.ref x) (.type "object")) true:=I.type.andThen (looks_mroIn X (by unfold mroIn;rw [hc,Option.bind_some,if_neg (by rw [ne];decide),Ap]))
 refine codeAny_call_builtin SF.slot.plain SF.entry (@check_slot (model U w) _ _ s "object.__setattr__" "object" "__setattr__" (.ref x) [.str (aB f) tk,v] [] _ SF.kind SF.split sub (SF.args (.ref x) (.str (aB f) tk) v) ?_)
 have hm:Looks (model U w) s.heap (mroOf (.ref bA)) cd.mro:=(looks_clsIn X hc).andThen .now
 have L3:Looks (model U w) s.heap (storeTaker? none) none:=Looks.of_pure rfl
 rw [osa_eq,refuse_eq]
 refine wpAny_bind (wpAny_bind (I.type.here (wpAny_bind (hm.here ?_))))
 rw [lY,RW]
 refine wpAny_pure (wpAny_bind (I.type.here (wpAny_bind ((looks_findIn X (ek.Ca f h1 h2)).here (wpAny_bind (L3.here ?_))))))
 exact h
theorem ES {x dx:Addr} {ox:Obj} {vs:Array Value} {es:List DictEntry} {nn f:Nat} {v:Value} {Q:Unit→Shared→Prop} (ek:EK K) (X:K.In s.heap) (hx:s.heap.get? x=some ox) (cV:ox.cls= .ref bA) (kh:ox.data= .fields vs) (dg:ox.dict=some dx) (pT:s.heap.get? dx=some (dictOf es nn))
    (h1:11≤f) (h2:f<14) (hk:es.any (·.refKey)=false) (hz:∀t,(putL (aB f) (PyData.keyHash w.params (aB f)) (.str (aB f) t) v es).length≤1000)
    (h:∀h' t,Heap.SameBut dx s.heap h'→h'.get? dx=some (dictOf (putL (aB f) (PyData.keyHash w.params (aB f)) (.str (aB f) t) v es) (putN (aB f) es nn))→Q () {s with heap:=h',toks:=s.toks+1+1}):
  wpAny (model U w) A (setAttr (.ref x) (aB f) v) Q E0 s:=by
 have I:InstAt s.heap x ox bA (some (dictOf es nn)):=⟨hx,cV,by obtain ⟨_,_,dd,_⟩:=ox;cases kh;rfl,by rw [dg];exact pT⟩
 refine set_plain X I ek.sa (Kz (s:={s with toks:=s.toks+1}) ek X I h1 h2 ?_)
 obtain ⟨cd,hc,lY,bQ⟩:=ek.cd
 obtain ⟨oc,QV,V8,abv⟩:=ox
 dsimp only at cV kh dg
 subst cV kh dg
 refine wpAny_bind (wpAny_pure (wpAny_bind (wpAny_bind (wpAny_loadPart hx (wpAny_bind (Looks.here (s:={s with toks:=s.toks+1}) (looks_clsIn X hc) ?_))))))
 rw [bQ]
 refine wpAny_pure (a:=some dx) (wpAny_bind (wpAny_pure (wpAny_bind ?_)))
 unfold nsSet
 refine wpAny_bind (wpAny_bind (wpAny_askSetting (wpAny_pure (wpAny_bind (wpAny_mkText (wpAny_bind (wpAny_loadPart pT ?_)))))))
 have q:aRefKeyMayBeTheName (aB f) es.toArray=false:=by
  rw [aRefKeyMayBeTheName_at]
  have:(es.toArray.any λx:DictEntry=>x.refKey)=false:=by rw [←Array.any_toList];exact hk
  rw [this,Bool.and_false]
 dsimp only
 rw [q]
 have hu:=putName_dict (aB f) (PyData.keyHash w.params (aB f)) (.str (aB f) (s.toks+1)) v es nn
 have g:(s.heap.update dx (Obj.putName (aB f) (PyData.keyHash w.params (aB f)) (.str (aB f) (s.toks+1)) v)).get? dx=some (dictOf (putL (aB f) (PyData.keyHash w.params (aB f)) (.str (aB f) (s.toks+1)) v es) (putN (aB f) es nn)):=by
  rw [←hu];exact Heap.get?_update_self _ pT (by rw [hu];rfl)
 refine wpAny_updatePart pT ?_
 refine wpAny_bind (wpAny_lookBehind g (pastItsLine_dict (by rw [List.size_toArray,sizeLine_eq];have:=hz (s.toks+1);omega)) ?_)
 exact wpAny_pure (h _ _ (Heap.SameBut.update ..) g)
theorem Vb {x:Addr} {ox:Obj} {vs:Array Value} {f:Nat} {v:Value} {Q:Unit→Shared→Prop} (ek:EK K) (X:K.In s.heap) (hx:s.heap.get? x=some ox) (cV:ox.cls= .ref bA) (kh:ox.data= .fields vs) (dg:ox.dict=none)
    (h1:11≤f) (h2:f<14)
    (h:∀h' t,(∀b o,b≠x→s.heap.get? b=some o→h'.get? b=some o)→h'.get? x=some {ox with dict:=some s.heap.objs.size}→h'.get? s.heap.objs.size=some (dictOf (putL (aB f) (PyData.keyHash w.params (aB f)) (.str (aB f) t) v []) (putN (aB f) [] 0))→Q () {s with heap:=h',toks:=s.toks+1+1}):
  wpAny (model U w) A (setAttr (.ref x) (aB f) v) Q E0 s:=by
 have I:InstAt s.heap x ox bA none:=⟨hx,cV,by obtain ⟨_,_,dd,_⟩:=ox;cases kh;rfl,by rw [dg];trivial⟩
 refine set_plain X I ek.sa (Kz (s:={s with toks:=s.toks+1}) ek X I h1 h2 ?_)
 obtain ⟨cd,hc,lY,bQ⟩:=ek.cd
 obtain ⟨oc,QV,V8,abv⟩:=ox
 dsimp only at cV kh dg
 subst cV kh dg
 refine wpAny_bind (wpAny_pure (wpAny_bind (wpAny_bind (wpAny_loadPart hx (wpAny_bind (Looks.here (s:={s with toks:=s.toks+1}) (looks_clsIn X hc) ?_))))))
 rw [bQ]
 have tg:x<s.heap.objs.size:=Heap.lt_size hx
 have Ie:=Heap.get?_push_of_some (h:=s.heap) {cls:= .type "dict",data:= .dict #[]} hx
 have Ur:(s.heap.push {cls:= .type "dict",data:= .dict #[]}).get? s.heap.objs.size=some (dictOf [] 0):=Heap.get?_push_size _ rfl
 show wpAny _ _ (alloc {cls:= .type "dict",data:= .dict #[]}>>=_) _ _ _
 refine wpAny_bind (wpAny_alloc (wpAny_bind (wpAny_update Ie (wpAny_pure (a:=some s.heap.objs.size) ?_))))
 have aau:=Heap.get?_update_self (λo:Obj=>{o with dict:=some s.heap.objs.size}) Ie rfl
 have Ej:((s.heap.push {cls:= .type "dict",data:= .dict #[]}).update x λo=>{o with dict:=some s.heap.objs.size}).get? s.heap.objs.size=some (dictOf [] 0):=(Heap.get?_update_other _ _ (Nat.ne_of_lt tg)).trans Ur
 refine wpAny_bind (wpAny_pure (wpAny_bind ?_))
 unfold nsSet
 refine wpAny_bind (wpAny_bind (wpAny_askSetting (wpAny_pure (wpAny_bind (wpAny_mkText (wpAny_bind (wpAny_loadPart Ej ?_)))))))
 have q:aRefKeyMayBeTheName (aB f) (#[]:Array DictEntry)=false:=by
  rw [aRefKeyMayBeTheName_at];simp
 dsimp only
 rw [q]
 have hu:=putName_dict (aB f) (PyData.keyHash w.params (aB f)) (.str (aB f) (s.toks+1)) v [] 0
 have g:=Heap.get?_update_self (Obj.putName (aB f) (PyData.keyHash w.params (aB f)) (.str (aB f) (s.toks+1)) v) Ej (by rw [hu];rfl)
 rw [hu] at g
 refine wpAny_updatePart Ej ?_
 refine wpAny_bind (wpAny_lookBehind g (pastItsLine_dict (by rw [List.size_toArray,sizeLine_eq];show 1≤_;decide)) ?_)
 refine wpAny_pure (h _ (s.toks+1) (λb o hb e=>?_) ?_ g)
 ·have QK:b≠s.heap.objs.size:=Nat.ne_of_lt (Heap.lt_size e)
  rw [Heap.get?_update_other _ _ (Ne.symm QK),Heap.get?_update_other _ _ (Ne.symm hb)]
  exact Heap.get?_push_of_some _ e
 ·rw [Heap.get?_update_other _ _ (Ne.symm (Nat.ne_of_lt tg))]
  exact aau
end
end Mine
namespace Mine
open PySem PySem.W PySem.Calls
open Builtin Builtin.ObjectAttr
section
variable {U:Program} {w:World} {A:Around} {E:Value→Shared→Prop} {h:Heap} {g:Array GenState} {d:Drawn} {t:Nat} {os:OsState} {K:Frag} {R:Result→Shared→Prop}
variable {nm q:Str} {C N:Addr} {bs bm:List Value} {hdct:Bool} {sn:List Str} {sub:List Value} {ab:Bool} {col:Option Bool} {dd:Option Addr} {k0 k1 k2 k3 k5:Option Value} {Bn newId FU:String} {Iq:List Value}
theorem ZH (Fn:ExcBaseFacts Bn newId FU Iq) (AS:(Value.ref C::bm).contains (.type Bn)=true) (Eo:(Value.ref C::bm).contains (.type "AttributeError")=false) (Eu:(Value.ref C::bm).contains (.type "NameError")=false)
  {ac:List Value} (hC:h.get? C=some (excClassObj nm q C N bs bm hdct sn sub ab col dd k0 k1 k2 k3 k5 newId))
  (hq:R (.ok (.ret (.ref (h.objs.size+1)))) ⟨(h.push {cls:= .type "tuple",data:= .seq ac.toArray}).push {cls:= .ref C,data:= .fields #[.ref h.objs.size,.none,.none,.none,.bool false,.none]},g,d,t,os⟩) (MB:ac.length≤sizeLine):
  codeAny (model U w) A (.builtin newId ⟨.ref C::ac,[]⟩) R ⟨h,g,d,t,os⟩:=by
 have abN:=Fn.ends
 refine codeAny_builtinAt Fn.entry ?_
 unfold Builtin.«BaseException.__new__»
 refine wpAt_bind ?_
 show wpAt _ _ _ (stack>>=_) _ _ _
 refine wpAt_bind (wpAt_stack λp cP=>wpAt_of_wpAny ?_)
 wp_walk
 refine wpAt_of_wpAny ?_
 rw [Fn.owner]
 repeat (first |with_reducible refine wpAny_madeHere_exc Fn.canon hC ?_ |with_reducible refine wpAny_loadPart_at hC ?_ |(with_reducible refine wpAny_isSubtype_exc hC ?_;first |rw [AS] |rw [Eo] |rw [Eu]) |wp_step)
 show R _ _
 rw [Heap.size_push]
 exact hq
theorem aa2 {ac:List Value} {fI:Addr} {Q:Value→Shared→Prop} (Fn:ExcBaseFacts Bn newId FU Iq) (T:OwnTail h bm bm) (J6:bm.contains (.type Bn)=true) (Eo:(Value.ref C::bm).contains (.type "AttributeError")=false) (Eu:(Value.ref C::bm).contains (.type "NameError")=false)
    (X:K.In h) (hC:h.get? C=some (excClassObj nm q C N bs bm hdct sn sub ab col dd k0 k1 k2 k3 k5 newId)) (hi:findIn K (.ref C) "__init__"=some (some (.ref fI))) (hf:typeIn K (.ref fI)=some (.type "function"))
    (hq:∀h' e,Heap.MadeExcOf h h' e (.ref C) ac→wpAny (model U w) (A.under (.builtin "type.__call__" ⟨.ref C::ac,[]⟩)) (call (.ref fI) (.ref e::ac)) (λr s'=>r= .none∧Q (.ref e) s') E ⟨h',g,d,t,os⟩) (MB:ac.length≤sizeLine):
  wpAny (model U w) A (call (.ref C) ac) Q E ⟨h,g,d,t,os⟩:=by
 have f1:=tc_lookup
 have f2:=tc_bind (.ref C)
 have hT:(⟨h,g,d,t,os⟩:Shared).TypeIs (.ref C) "type":=⟨_,hC,rfl⟩
 refine wpAny_call (codeAny_of_tree ?_)
 show wpAny _ _ (callAny (.ref C) _) _ _ _
 repeat (any_goals (first |assumption |with_reducible refine wpAny_loadPart_at hC ?_ |wp_step))
 refine ⟨rfl,?_⟩
 refine codeAny_call_builtin_at (Code.quiet_builtin _ (by decide +kernel)) entry_typeCall (wpAny_check_type_call_sub hC ?_)
 repeat (first |with_reducible refine wpAny_loadPart_at hC ?_ |with_reducible refine wpAny_madeBy_exc hC ?_ |wp_step)
 refine codeAny_call_builtin_code (Code.quiet_builtin _ Fn.quiet) (wpAny_check_new_subU Fn J6 T hC ?_)
 refine ZH Fn (by rw [List.contains_cons,J6,Bool.or_true]) Eo Eu hC ?_ MB
 show wpAny _ _ _ _ _ _
 have IS:=Heap.get?_push_of_some {cls:= .ref C,data:= .fields #[.ref h.objs.size,.none,.none,.none,.bool false,.none]}
    (Heap.get?_push_of_some {cls:= .type "tuple",data:= .seq ac.toArray} hC)
 have HR:K.In ((h.push {cls:= .type "tuple",data:= .seq ac.toArray}).push {cls:= .ref C,data:= .fields #[.ref h.objs.size,.none,.none,.none,.bool false,.none]}):=X.keeps λb o e=>Heap.get?_push_of_some _ (Heap.get?_push_of_some _ e)
 have Kf:((h.push {cls:= .type "tuple",data:= .seq ac.toArray}).push
   {cls:= .ref C,data:= .fields #[.ref h.objs.size,.none,.none,.none,.bool false,.none]}).get? (h.objs.size+1)=some
   {cls:= .ref C,data:= .fields #[.ref h.objs.size,.none,.none,.none,.bool false,.none]}:=by heap_get
 have EG:(Value.ref C::bm).contains (.ref C)=true:=by simp
 unfold isInstance
 repeat (first |with_reducible refine wpAny_loadPart_at Kf ?_ |(with_reducible refine wpAny_isSubtype_exc IS ?_;rw [EG]) |wp_step)
 show wpAny _ _ (isSubtype (.ref C) (.ref C)) _ _ _
 refine wpAny_isSubtype_exc IS ?_
 rw [EG]
 repeat wp_step
 refine Looks.here (s:=⟨(h.push {cls:= .type "tuple",data:= .seq ac.toArray}).push {cls:= .ref C,data:= .fields #[.ref h.objs.size,.none,.none,.none,.bool false,.none]},g,d,t,os⟩) (looks_findIn HR hi) ?_
 refine wpAny_holding (wpAny_bind (Looks.here (s:=⟨(h.push {cls:= .type "tuple",data:= .seq ac.toArray}).push {cls:= .ref C,data:= .fields #[.ref h.objs.size,.none,.none,.none,.bool false,.none]},g,d,t,os⟩) (bind_fn HR _ hf) ?_))
 refine wpAny_bind (wpAny_mono (hq _ (h.objs.size+1) ⟨λb o hb=>Heap.get?_push_of_some _ (Heap.get?_push_of_some _ hb),Heap.get?_none_of_le (Nat.le_succ _),h.objs.size,Kf,Heap.get?_none_of_le (adq _),?_⟩) (λr s' hr=>?_) λ_ _ x=>x)
 ·exact Heap.get?_push_of_some _ (Heap.get?_push_at rfl rfl)
 ·obtain ⟨rfl,hQ⟩:=hr
  wp_walk
  exact hQ
end
end Mine
namespace Mine
open PySem PySem.W PyProof.Rows PySem.Calls
noncomputable def eS:Str:=Str.ofString "self"
theorem abA:aB 11=Str.ofString "kind":=by decide +kernel
theorem acp:aB 12=Str.ofString "at":=by decide +kernel
theorem adh:aB 13=Str.ofString "detail":=by decide +kernel
theorem Ww:(eS==aB 11)=false∧(eS==aB 12)=false∧(eS==aB 13)=false∧(aB 11==aB 12)=false∧(aB 11==aB 13)=false∧(aB 12==aB 13)=false:=by decide +kernel
theorem RZ:(eS==("__debug__":Str))=false∧(aB 11==("__debug__":Str))=false∧(aB 12==("__debug__":Str))=false∧(aB 13==("__debug__":Str))=false:=by decide +kernel
noncomputable def kq (a n:Str) (p1 p2 p3 p4:Pos):PySem.Stmt:= .Assign [.Attribute (.Name eS p1) a p2] (.Name n p3) p4
noncomputable def Jb (J:Heap):Prop:=
 ∃o fd p1 p2 p3 p4 q1 q2 q3 q4 r1 r2 r3 r4,J.get? 29=some o∧o.data= .func fd∧fd.scope.kind= .function∧fd.scope.isGenerator=false∧fd.scope.isCoroutine=false∧
  fd.body= .stmts [kq (aB 11) (aB 11) p1 p2 p3 p4,kq (aB 12) (aB 12) q1 q2 q3 q4,kq (aB 13) (aB 13) r1 r2 r3 r4]∧J.CodeRec fd.code fd.qualname∧(∀x∈fd.scope.names,x.2≠ .cell)∧
  fd.scope.names.lookup eS=some .local∧(∀f,11≤f→f<14→fd.scope.names.lookup (aB f)=some .local)∧
  (∀s x k a,J.StaysIn s.heap→∃t,BindsTo s fd ⟨[x,k,a],[]⟩ [(eS,x),(aB 11,k),(aB 12,a),(aB 13,.str ⟨#[]⟩ t)])∧
  (∀s x k a d,J.StaysIn s.heap→BindsTo s fd ⟨[x,k,a,d],[]⟩ [(eS,x),(aB 11,k),(aB 12,a),(aB 13,d)])
section
variable {U:Program} {w:World} {J:Heap} {gl bl:Addr} {K:Frag} {fl outer:List Env} {Z ai ao aP:aH} {O af ae az:ag} {s s' s1 s0 s2:Shared} {A:Around} {E0:Value→Shared→Prop} {aa:Env} {nm:List Str} {L L':Locals}
variable {C:Calls} {n fu:Nat}
theorem CB {aa:Env} {m:Str→Option Value} {x:Addr} {v:Value} {f:Nat} {p1 p2 p3 p4:Pos} {Q:PySem.Flow→Shared→Prop} (hk:aa.scope.kind= .function) (cw:s.heap.Ns aa.locals m) (l1:aa.kindOf eS=some .local) (l2:aa.kindOf (aB f)=some .local) (d1:(eS==("__debug__":Str))=false) (d2:(aB f==("__debug__":Str))=false)
    (m1:m eS=some (.ref x)) (m2:m (aB f)=some v) (h:wpAny (model U w) A (setAttr (.ref x) (aB f) v) (λ_=>Q .next) E0 s):wpAny (model U w) A (exec (kq (aB f) (aB f) p1 p2 p3 p4) aa) Q E0 s:=by
 unfold kq
 exact plainObj_wpAny_Assign_Attribute (wpAny_Name (wpAny_loadName_local hk l2 cw m2 (wpAny_Name (wpAny_loadName_local hk l1 cw m1 h) d1)) d2) rfl
theorem Qx {x:Addr} {ox:Obj} {vs:Array Value} {k a d:Value} {args:List Value} {Q:Value→Shared→Prop} {o:Obj} {fd:FuncData} {p1 p2 p3 p4 q1 q2 q3 q4 r1 r2 r3 r4:Pos} (ek:EK K) (ll:K.In J) (lim:J.NoLimit) (st:J.StaysIn s.heap) (D6:A.depth<recursionLimit)
    (hx:s.heap.get? x=some ox) (cV:ox.cls= .ref bA) (kh:ox.data= .fields vs) (dg:ox.dict=none) (Ym:J.get? x=none)
    (ho:J.get? 29=some o) (hd:o.data= .func fd) (hk:fd.scope.kind= .function) (hg:fd.scope.isGenerator=false) (hc:fd.scope.isCoroutine=false)
    (hb:fd.body= .stmts [kq (aB 11) (aB 11) p1 p2 p3 p4,kq (aB 12) (aB 12) q1 q2 q3 q4,kq (aB 13) (aB 13) r1 r2 r3 r4]) (wy:J.CodeRec fd.code fd.qualname) (Dx:∀x∈fd.scope.names,x.2≠ .cell)
    (l0:fd.scope.names.lookup eS=some .local) (l1:∀f,11≤f→f<14→fd.scope.names.lookup (aB f)=some .local) (sf:BindsTo s fd ⟨args,[]⟩ [(eS,.ref x),(aB 11,k),(aB 12,a),(aB 13,d)])
    (h:∀h' tk dx es nn,(∀b ob,b≠x→s.heap.get? b=some ob→h'.get? b=some ob)→h'.get? x=some {ox with dict:=some dx}→s.heap.get? dx=none→h'.get? dx=some (dictOf es nn)→
      (∀(qY h2:Heap) (Z:aH) (e:aX),RV qY h2 Z e.k k→RV qY h2 Z e.a a→RV qY h2 Z e.d d→cA qY h2 Z [(11,e.k),(12,e.a),(13,e.d)] es)→Q .none {s with heap:=h',toks:=tk}):
  wpAny (model U w) A (call (.ref 29) args []) Q E0 s:=by
 refine wpAny_call (codeAny_call_def D6 (st _ _ ho) hd (lim.keeps st) (wy.keeps st) hb sf Dx (λy hy=>?_) (λh₀ cw ow=>?_) hc hg hk)
 ·simp only [List.mem_cons,List.not_mem_nil,or_false] at hy
  rcases hy with rfl |rfl |rfl |rfl
  ·exact l0
  ·exact l1 11 (by omega) (by omega)
  ·exact l1 12 (by omega) (by omega)
  ·exact l1 13 (by omega) (by omega)
 ·obtain ⟨e1,e2,e3,e4,e5,e6⟩:=Ww
  obtain ⟨g0,g1,g2,g3⟩:=RZ
  have BU:(callEnv fd s.heap.objs.size 29).scope.kind= .function:=hk
  have tg:x<s.heap.objs.size:=Heap.lt_size hx
  have zk:=ow _ _ hx
  have m0:(λy=>([(eS,Value.ref x),(aB 11,k),(aB 12,a),(aB 13,d)]:List (Str×Value)).reverse.lookup y) eS=some (.ref x):=by
   simp only [List.reverse_cons,List.reverse_nil,List.nil_append,List.cons_append,List.lookup_cons,e1,e2,e3,beq_self_eq_true]
  have m1:(λy=>([(eS,Value.ref x),(aB 11,k),(aB 12,a),(aB 13,d)]:List (Str×Value)).reverse.lookup y) (aB 11)=some k:=by
   simp only [List.reverse_cons,List.reverse_nil,List.nil_append,List.cons_append,List.lookup_cons,e4,e5,beq_self_eq_true]
  have m2:(λy=>([(eS,Value.ref x),(aB 11,k),(aB 12,a),(aB 13,d)]:List (Str×Value)).reverse.lookup y) (aB 12)=some a:=by
   simp only [List.reverse_cons,List.reverse_nil,List.nil_append,List.cons_append,List.lookup_cons,e6,beq_self_eq_true]
  have m3:(λy=>([(eS,Value.ref x),(aB 11,k),(aB 12,a),(aB 13,d)]:List (Str×Value)).reverse.lookup y) (aB 13)=some d:=by
   simp only [List.reverse_cons,List.reverse_nil,List.nil_append,List.cons_append,List.lookup_cons,beq_self_eq_true]
  have X0:K.In h₀:=ll.keeps λb o e=>ow b o (st b o e)
  have kb:∀b ob,J.get? b=some ob→b≠x:=λb ob e q=>by subst q;rw [Ym] at e;cases e
  refine wpAny_execs_cons (CB BU cw l0 (l1 11 (by omega) (by omega)) g0 g1 m0 m1 (Vb ek X0 zk cV kh dg (by omega) (by omega) λh1 t1 qd Lu Zs=>?_))
  have aay:s.heap.objs.size≠x:=Nat.ne_of_gt tg
  have LY:h1.Ns s.heap.objs.size _:=Heap.Ns.at cw λo e=>qd _ _ aay e
  have X1:K.In h1:=ll.keeps λb o e=>qd b o (kb b o e) (ow b o (st b o e))
  have Mq:s.heap.objs.size<h₀.objs.size:=Heap.Ns.lt cw
  refine wpAny_execs_cons (CB BU LY l0 (l1 12 (by omega) (by omega)) g0 g2 m0 m2 (ES ek X1 Lu cV kh rfl Zs (by omega) (by omega) ?_ (λt=>?_) λh2 t2 lq YR=>?_))
  ·rfl
  ·show _≤1000
   have hf:((Value.str (aB 11) t1).isStr (aB 12))=false:=by simp only [Value.isStr];exact e4
   simp only [putL,hf,Bool.false_eq_true,if_false,List.length_cons,List.length_nil];omega
  have NF:s.heap.objs.size≠h₀.objs.size:=Nat.ne_of_lt Mq
  have pT:x≠h₀.objs.size:=Nat.ne_of_lt (Nat.lt_trans tg Mq)
  have mY:=(lq.2 x pT).trans Lu
  have qq:h2.Ns s.heap.objs.size _:=Heap.Ns.at LY λo e=>(lq.2 _ NF).trans e
  have XB:J.get? h₀.objs.size=none:=by
   cases q:J.get? h₀.objs.size with
   |none=>rfl
   |some ob=>exact absurd (Heap.lt_size (ow _ _ (st _ _ q))) (Nat.lt_irrefl _)
  have X2:K.In h2:=ll.keeps λb o e=>(lq.2 b λq=>by subst q;rw [XB] at e;cases e).trans (qd b o (kb b o e) (ow b o (st b o e)))
  refine wpAny_execs_cons (CB BU qq l0 (l1 13 (by omega) (by omega)) g0 g3 m0 m3 (ES ek X2 mY cV kh rfl YR (by omega) (by omega) ?_ (λt=>?_) λh3 t3 HX aaN=>?_))
  ·have hf:((Value.str (aB 11) t1).isStr (aB 12))=false:=by simp only [Value.isStr];exact e4
   simp only [putL,hf,Bool.false_eq_true,if_false];rfl
  ·show _≤1000
   have hf:((Value.str (aB 11) t1).isStr (aB 12))=false:=by simp only [Value.isStr];exact e4
   have OL:((Value.str (aB 11) t1).isStr (aB 13))=false:=by simp only [Value.isStr];exact e5
   have O6:((Value.str (aB 12) t2).isStr (aB 13))=false:=by simp only [Value.isStr];exact e6
   simp only [putL,hf,OL,O6,Bool.false_eq_true,if_false,List.length_cons,List.length_nil];omega
  refine wpAny_execs_nil (h h3 _ h₀.objs.size _ _ (λb ob yj e=>?_) ((HX.2 x pT).trans mY) ?_ aaN λqY h4 Z e rk ra rd=>?_)
  ·have Il:b≠h₀.objs.size:=Nat.ne_of_lt (Heap.lt_size (ow _ _ e))
   exact (HX.2 b Il).trans ((lq.2 b Il).trans (qd b ob yj (ow b ob e)))
  ·cases q:s.heap.get? h₀.objs.size with
   |none=>rfl
   |some ob=>exact absurd (Heap.lt_size (ow _ _ q)) (Nat.lt_irrefl _)
  ·have f0:cA qY h4 Z [] []:=rfl
   have f1:=ue (f:=11) (by omega) rk (PyData.keyHash w.params (aB 11)) t1 f0
   have f2:=ue (f:=12) (by omega) ra (PyData.keyHash w.params (aB 12)) t2 f1
   exact ue (f:=13) (by omega) rd (PyData.keyHash w.params (aB 13)) t3 f2
end
noncomputable def xT:List Value:=[.ref 32,.type "Exception",.type "BaseException",.type "object"]
structure ia (J:Heap) (K:Frag):Prop where
 ek:EK K
 init:Jb J
 cls:∃nm q N bs hdct sn sub ab col dd k0 k1 k2 k3 k5,J.get? bA=some (excClassObj nm q bA N bs xT hdct sn sub ab col dd k0 k1 k2 k3 k5 "Exception.__new__")
section
variable {U:Program} {w:World} {A:Around} {E:Value→Shared→Prop} {aa:Env}
variable {nm q:Str} {Cc N:Addr} {bs bm:List Value} {hdct:Bool} {sn:List Str} {sub:List Value} {ab:Bool} {col:Option Bool} {dd:Option Addr} {k0 k1 k2 k3 k5:Option Value} {newId:String}
theorem Xd {M:Model} {s:Shared} {x:Sem Value} {Q:PySem.Flow→Shared→Prop} (DE:bm.contains (.type "BaseException")=true) (hh:A.handled=none)
    (h:wpAny M A x (λv bN=>∃e t dx sl,v= .ref e∧bN.heap.get? Cc=some (excClassObj nm q Cc N bs bm hdct sn sub ab col dd k0 k1 k2 k3 k5 newId)∧
   bN.heap.get? e=some {cls:= .ref Cc,dict:=dx,data:= .fields #[.ref t,.none,.none,.none,.bool false,.none],slots:=sl}∧E (.ref e) bN) E s):
  wpAny M A (raiseStmt aa (some x) none) Q E s:=by
 have AS:(Value.ref Cc::bm).contains (.type "BaseException")=true:=by rw [List.contains_cons,DE,Bool.or_true]
 unfold raiseStmt
 refine wpAny_bind (wpAny_mono h (λv bN fG=>?_) λ_ _ x=>x)
 obtain ⟨e,t,dx,sl,rfl,hC,he,hE⟩:=fG
 obtain ⟨hp,g,d,tk,os⟩:=bN
 repeat (first |with_reducible refine wpAny_loadPart_at he ?_ |with_reducible refine wpAny_loadPart_at hC ?_ |(with_reducible refine wpAny_isSubtype_exc hC ?_;rw [AS]) |wp_step)
 exact wpAny_raiseNew_none hh hE
end
section
variable {U:Program} {w:World} {J:Heap} {gl bl:Addr} {K:Frag} {fl outer:List Env} {Z ai ao aP:aH} {O af ae az:ag} {s s' s1 s0 s2:Shared} {A:Around} {E0:Value→Shared→Prop} {aa:Env} {nm:List Str} {L L':Locals}
variable {C:Calls} {n fu:Nat}
@[elab_as_elim] theorem Yx {h:Heap} {vs:List V} {ws:List Value} {e:aX} {P:List Value→Prop} (hv:oW vs=some e) (r:aD J h Z vs ws) (k2:∀kv av,RV J h Z e.k kv→RV J h Z e.a av→e.d= .str []→P [kv,av])
    (k3:∀kv av dv,RV J h Z e.k kv→RV J h Z e.a av→RV J h Z e.d dv→P [kv,av,dv]):P ws:=match vs,hv,r with
 |[],hv,_ |[_],hv,_ |_::_::_::_::_,hv,_=>absurd hv.symm sn
 |[k,a],hv,r=>by
  cases hv
  exact lp r λkv _ rk r=>lp (P:=λws=>P (kv::ws)) r λav _ ra r=>s8 (P:=λws=>P (kv::av::ws)) r (k2 kv av rk ra rfl)
 |[k,a,d],hv,r=>by
  cases hv
  exact lp r λkv _ rk r=>lp (P:=λws=>P (kv::ws)) r λav _ ra r=>lp (P:=λws=>P (kv::av::ws)) r λdv _ rd r=>s8 (P:=λws=>P (kv::av::dv::ws)) r (k3 kv av dv rk ra rd)
inductive qX (J:Heap) (Z:aH) (s:Shared) (e:aX) (v:Value) (s':Shared):Prop where
 |mk (x t dx:Addr) (es:List DictEntry) (nn:Nat) (hv:v= .ref x) (keep:∀b o,s.heap.get? b=some o→s'.heap.get? b=some o) (g1:s'.gens=s.gens) (g2:s'.drawn=s.drawn) (g3:s'.os=s.os) (d1:s.heap.get? x=none)
      (d2:s'.heap.get? x=some {cls:= .ref bA,dict:=some dx,data:= .fields #[.ref t,.none,.none,.none,.bool false,.none],slots:= #[]}) (d3:s.heap.get? dx=none) (d4:s'.heap.get? dx=some (dictOf es nn))
      (d5:VK J Z s.heap Z s'.heap→cA J s'.heap Z [(11,e.k),(12,e.a),(13,e.d)] es):qX J Z s e v s'
theorem Xl {ws:List Value} (h:ws.length≤3):ws.length≤sizeLine:=adk h (by decide)
theorem S4 (EO:ia J K) (B:cz U w J gl bl K) (R:bI n 10 fl A) (S:St U w J fl Z O s) {vs:List V} {ws:List Value} {e:aX} (hv:oW vs=some e) (r:aD J s.heap Z vs ws):
  wpAny (model U w) A (call (.ref bA) ws []) (qX J Z s e) E0 s:=by
 obtain ⟨hh,g,d,t,os⟩:=s
 obtain ⟨Ef,q,N,bs,hdct,sn,sub,ab,col,dd,k0,k1,k2,k3,k5,hC⟩:=EO.cls
 obtain ⟨o,fd,p1,p2,p3,p4,q1,q2,q3,q4,r1,r2,r3,r4,i1,i2,i3,i4,i5,i6,i7,i8,i9,SI,OZ,Su⟩:=EO.init
 have X0:K.In hh:=B.ll.keeps λb o e=>S.stays b o e
 have D6:∀l,(A.under (.builtin "type.__call__" ⟨.ref bA::l,[]⟩)).depth<recursionLimit:=λl=>by have:=R.depth;show A.depth+1<_;omega
 have start:ws.length≤3→(∀h' x,Heap.MadeExcOf hh h' x (.ref bA) ws→∃dv,BindsTo ⟨h',g,d,t,os⟩ fd ⟨.ref x::ws,[]⟩ [(eS,.ref x),(aB 11,ws.getD 0 .none),(aB 12,ws.getD 1 .none),(aB 13,dv)]∧∀h2,VK J Z hh Z h2→RV J h2 Z e.k (ws.getD 0 .none)∧RV J h2 Z e.a (ws.getD 1 .none)∧RV J h2 Z e.d dv)→
   wpAny (model U w) A (call (.ref bA) ws []) (qX J Z ⟨hh,g,d,t,os⟩ e) E0 ⟨hh,g,d,t,os⟩:=λhz hb=>by
  refine aa2 (C:=bA) (bm:=xT) PySem.F.excBase_Exception .base (by decide) (by decide) (by decide) X0 (S.stays _ _ hC) EO.ek.init EO.ek.isFn (λh' x m=>?_) (Xl hz)
  obtain ⟨tt,hx,ab0,wY⟩:=m.there
  obtain ⟨dv,sf,TV⟩:=hb h' x m
  refine Qx (s:=⟨h',g,d,t,os⟩) EO.ek B.ll B.lim (λb o e=>m.keeps b o (S.stays b o e)) (D6 _) hx rfl rfl rfl (jE S.stays m.new) i1 i2 i3 i4 i5 i6 i7 i8 i9 SI sf λh2 tk dx es nn c1 c2 c3 c4 c5=>?_
  exact ⟨rfl,x,tt,dx,es,nn,rfl,λb o e=>c1 b o (λq=>by rw [q,m.new] at e;cases e) (m.keeps b o e),rfl,rfl,rfl,m.new,c2,gU (λb q=>by obtain ⟨o,ho⟩:=Option.isSome_iff_exists.mp q;rw [m.keeps _ _ ho];rfl) c3,c4,λv=>match TV h2 v with
   |⟨a1,a2,a3⟩=>c5 J h2 Z e a1 a2 a3⟩
 refine Yx (P:=λws=>(ws.length≤3→(∀h' x,Heap.MadeExcOf hh h' x (.ref bA) ws→∃dv,BindsTo ⟨h',g,d,t,os⟩ fd ⟨.ref x::ws,[]⟩ [(eS,.ref x),(aB 11,ws.getD 0 .none),(aB 12,ws.getD 1 .none),(aB 13,dv)]∧∀h2,VK J Z hh Z h2→RV J h2 Z e.k (ws.getD 0 .none)∧RV J h2 Z e.a (ws.getD 1 .none)∧RV J h2 Z e.d dv)→
   wpAny (model U w) A (call (.ref bA) ws []) (qX J Z ⟨hh,g,d,t,os⟩ e) E0 ⟨hh,g,d,t,os⟩)→wpAny (model U w) A (call (.ref bA) ws []) (qX J Z ⟨hh,g,d,t,os⟩ e) E0 ⟨hh,g,d,t,os⟩) hv r (λkv av rk ra ed st=>?_) (λkv av dv rk ra rd st=>?_) start
 ·exact st (by show 2≤3;decide) λh' x m=>match OZ ⟨h',g,d,t,os⟩ (.ref x) kv av (λb o e=>m.keeps b o (S.stays b o e)) with
   |⟨t0,hb⟩=>⟨_,hb,λh2 v=>⟨RV.mono v rk,RV.mono v ra,ed▸iH (l:=[]) t0 (ads _)⟩⟩
 ·exact st (by show 3≤3;decide) λh' x m=>⟨dv,Su ⟨h',g,d,t,os⟩ (.ref x) kv av dv (λb o e=>m.keeps b o (S.stays b o e)),λh2 v=>⟨RV.mono v rk,RV.mono v ra,RV.mono v rd⟩⟩
inductive yl (n8:Obj) (X:Value→Shared→Prop) (v:Value) (bN:Shared):Prop where
 |mk (e t:Addr) (dx:Option Addr) (sl:Array (Option Value)) (hv:v= .ref e) (hC:bN.heap.get? bA=some n8) (he:bN.heap.get? e=some {cls:= .ref bA,dict:=dx,data:= .fields #[.ref t,.none,.none,.none,.bool false,.none],slots:=sl}) (hX:X (.ref e) bN):yl n8 X v bN
theorem So {e:aX} {n8:Obj} {v:Value} (H0:aR U w J fl aa nm aP ae L s0) (X1:aj aE Z s aP s0) (hC:J.get? bA=some n8) (m:qX J aP s0 e v s2) (t2:s0.toks≤s2.toks):yl n8 (XS false U w J fl aa nm Z s (.exc e L ae)) v s2:=by
 obtain ⟨y,t,dx,qy,nn,e1,g,g1,g2,g3,d1,d2,d3,d4,d5⟩:=m
 have E1:aj aE aP s0 aP s2:=⟨List.prefix_refl _,λb o e _ _=>g b o e,λb e=>by
  obtain ⟨o,ho⟩:=Option.isSome_iff_exists.mp e
  rw [g b o ho];rfl,λn p hn e=>(by rw [List.getElem?_eq_none hn] at e;cases e),g1,g2,g3⟩
 have V:=E1.fp H0.st
 have H2:=H0.ext E1 (H0.st.sr.grow V λb o _ e=>g b o e) t2
 have XX:=X1.trans E1
 have nf:∀a,s0.heap.get? a=none→¬bM aP a:=λa e q=>by have:=H0.st.sr.live q;rw [e] at this;cases this
 exact ⟨y,t,some dx, #[],e1,H2.st.stays _ _ hC,d2,aP,y,rfl,⟨XX.pre,λb o q nf _=>⟨o.slots,XX.keep b o q nf λz=>z,λ_=>rfl⟩,XX.live,XX.new,XX.gens,XX.drawn,XX.os⟩,H2,
  gU X1.live d1,nf _ d1,_,dx,_,qy,nn,d2,rfl,rfl,rfl,rfl,.no rfl rfl,gU X1.live d3,nf _ d3,d4,d5 V⟩
theorem Ue (EO:ia J K) (B:cz U w J gl bl K) (R:bI n 10 fl A) {es:Es} {args:List PySem.Expr} {pc:Pos} {out:aU} {n8:Obj} (Ls:fh U w J gl bl fl A C fu es) (hC:J.get? bA=some n8) (h2:cC aa.scope nm es args=true) (eo:bJ gl bl aa) (H:aR U w J fl aa nm Z O L s) (h:qw (bw C fu es L O) L=out) (hn:out≠ .stuck):
  wpAny (model U w) A (spliced (backTo pc (starEach args aa))) (λws bN=>K.In bN.heap∧wpAny (model U w) A (call (.ref bA) ([]++ws) []) (yl n8 (XS false U w J fl aa nm Z s out)) (XS false U w J fl aa nm Z s out) bN) (XS false U w J fl aa nm Z s out) s:=
 match ho:bw C fu es L O,h with
 | .stuck,h=>absurd h.symm hn
 | .exc e ae,h=>mr (kZ Ls h2 eo H ho nofun) (λ_ _ z _=>z.elim) λv s1 z t1=>xO H h z t1
 | .ok vs ae,h=>mr (kZ Ls h2 eo H ho nofun) (λws s1 z t1=>match z with
   |⟨ao,X1,R1,r1⟩=>have H1:=H.ext X1 R1 t1
    ⟨ve B H1.st,fk (show bK (oW vs) aU.stuck (λe=> .exc e L ae)=out from h) hn λe he h=>h▸mr (S4 (E0:=λ_ _=>False) EO B R H1.st he r1) (λv s2 m t2=>So H1 X1 hC m t2) λ_ _ z _=>z.elim⟩) λ_ _ z _=>z.elim
theorem AI (EO:ia J K) (B:cz U w J gl bl K) (R:bI n 10 fl A) {es:Es} (Ls:fh U w J gl bl fl A C fu es):fL U w J gl bl fl A C fu (.raise es):=λ{aa nm x L O out Z s} hm eo ef H h hn=>U8 (P:=λx=>wpAny (model U w) A (exec x aa) _ _ s) hm λq args pc p h1 h2=>by
 obtain ⟨Ef,cq,N,bs,hdct,sn,sub,ab,col,dd,k0,k1,k2,k3,k5,hC⟩:=EO.cls
 rw [arm_exec_Raise]
 refine wpAny_bind (wpAny_standAt ?_)
 show wpAny _ A (raiseStmt aa (some (do let v←eval (.Call (.Name (Str.ofString "SourceError") q) args [] pc) aa;standAt p;pure v)) none) _ _ s
 have sp:=Ue (pc:=pc) EO B R Ls hC h2 eo H h hn
 refine Xd (Cc:=bA) (bm:=xT) (nm:=Ef) (q:=cq) (N:=N) (bs:=bs) (hdct:=hdct) (sn:=sn) (sub:=sub) (ab:=ab) (col:=col) (dd:=dd) (k0:=k0) (k1:=k1) (k2:=k2) (k3:=k3) (k5:=k5) (newId:="Exception.__new__") (by decide) R.hand (wpAny_bind (wpAny_mono (Q:=yl _ _) ?_ (λv bN hv=>wpAny_bind (wpAny_standAt (wpAny_pure (match hv with
  |⟨e,t,dx,sl,a1,a2,a3,a4⟩=>⟨e,t,dx,sl,a1,a2,a3,a4⟩)))) λ_ _ z=>z))
 refine wpAny_Call_NameR (o6 eo H B.g.err h1 (callWith_of (P:=λh=>K.In h) (by rw [sO h2 aa pc];rfl) (λh X=>keeps_K EO.ek.kp h X) ?_))
 match es,args,h2,h,sp with
 | .nil,args,h2,h,sp=>exact absurd (show aU.stuck=out from h).symm hn
 | .cons e es,y::ys,h2,h,sp=>
  rw [te (aN h2 λh _=>h)] at sp ⊢
  exact evalArgs_plain sp
end
end Mine
namespace Mine
open PySem PySem.W PyProof.Rows PySem.Calls
open Builtin Builtin.ObjectAttr
section
variable {U:Program} {w:World} {J:Heap} {gl bl:Addr} {K:Frag} {fl outer:List Env} {Z ai ao aP:aH} {O af ae az:ag} {s s' s1 s0 s2:Shared} {A:Around} {E0:Value→Shared→Prop} {aa:Env} {nm:List Str} {L L':Locals}
variable {C:Calls} {n fu:Nat}
theorem XZ {x:Addr} {ox od:Obj} {name:Str} {v:Value} {b:Bool} {Q:Value→Shared→Prop} (U6:findIn K (.ref bA) "__getattribute__"=some (some (.builtin "BaseException.__getattribute__"))) (V6:findIn K (.ref bA) "__getattr__"=some none) (DE:∃cd,clsIn K bA=some cd∧cd.mro=sT)
    (X:K.In s.heap) (I:InstAt s.heap x ox bA (some od)) (hf:findObj K bA (some od) name=some (.value v)) (hh:handedIn v=true) (h:Q v {s with toks:=s.toks+1}):wpAny (model U w) A (getAttr (.ref x) name b) Q E0 s:=by
 obtain ⟨hp,g,d,t,os⟩:=s
 have L0:=I.type (M:=model U w)
 have L1:=looks_findIn (M:=model U w) X U6
 have UH:=looks_findIn (M:=model U w) X V6
 have L2:=looks_find (M:=model U w) X I hf
 have f3:=PySem.F.attr_Exception.ga.bind (.ref x)
 have zk:(b&&onTheHeap (Value.builtin "BaseException.__getattribute__"))=false:=by cases b<;>rfl
 have mY:(Value.builtin "BaseException.__getattribute__"==Value.builtin "object.__getattribute__")=false:=by decide +kernel
 unfold getAttr getAttrBy
 refine wpAny_bind (wpAny_mkText (wpAny_holding (wpAny_bind (L0.at (wpAny_bind (L1.at ?_))))))
 simp only [mY,Bool.and_false,Bool.false_eq_true,if_false]
 unfold getAttrByItsOwn
 have hk:builtinKind "BaseException.__getattribute__"=some .slot:=by decide +kernel
 have Px:splitId "BaseException.__getattribute__"=some ("BaseException","__getattribute__"):=by decide +kernel
 obtain ⟨cd,hc,lY⟩:=DE
 have Ap:cd.mro.contains (.type "BaseException")=true:=by rw [lY];decide
 have ne:cd.mro.isEmpty=false:=by rw [lY];rfl
 have sub:Looks (model U w) hp (isInstance (.ref x) (.type "BaseException")) true:=L0.andThen (looks_mroIn X (by unfold mroIn;rw [hc,Option.bind_some,if_neg (by rw [ne];decide),Ap]))
 refine wpAny_bind (UH.at (wpAny_bind (wpAny_attempt (wpAny_holding ?_))))
 unfold callGetattribute
 rw [if_neg (by rw [zk];decide)]
 unfold boundAndCalled
 refine wpAny_bind (wpAny_of_eq f3 ?_)
 refine wpAny_call (codeAny_call_builtin PySem.F.attr_Exception.ga.plain PySem.F.entry_bexc_ga (@check_slot (model U w) _ _ ⟨hp,g,d,t+1,os⟩ "BaseException.__getattribute__" "BaseException" "__getattribute__" (.ref x) [.str name t] [] _ hk Px sub (PySem.F.args_bexc_ga (.ref x) (.str name t)) ?_))
 refine wpAny_bind (wpAny_pure (wpAny_bind (wpAny_pure (wpAny_bind (L0.at (wpAny_bind (L2.at (wpAny_pure ?_))))))))
 show wpAny _ _ (handedOut v) _ _ _
 rw [handedOut_of hh];exact wpAny_pure h
end
end Mine
namespace Mine
open PySem PySem.W PyProof.Rows PySem.Calls
structure EA (K:Frag):Prop where
 ga:findIn K (.ref bA) "__getattribute__"=some (some (.builtin "BaseException.__getattribute__"))
 gn:findIn K (.ref bA) "__getattr__"=some none
 hd:hasDictIn K bA=true
inductive PW (U:Program) (w:World) (J:Heap) (fl:List Env) (aa:Env) (Z:aH) (s:Shared) (g:Flow) (f:PySem.Flow) (s':Shared):Prop where
 |mk (ai:aH) (x:cU (cR aa) (· ∈bb fl) Z s ai s') (fv:FV J s'.heap ai g f):PW U w J fl aa Z s g f s'
noncomputable def rf (U:Program) (w:World) (J:Heap) (gl bl:Addr) (fl:List Env) (A:Around) (C:Calls) (fu:Nat) (st:Ss):Prop:=
 ∀{E0:Value→Shared→Prop} {aa:Env} {nm:List Str} {xs:List PySem.Stmt} {L L':Locals} {O af:ag} {g:Flow} {Z:aH} {s:Shared},eD aa.scope nm st xs=true→bJ gl bl aa→eK fl aa nm→aR U w J fl aa nm Z O L s→ah C fu st L O= .ok g L' af→
  wpAny (model U w) A (execs xs aa) (PW U w J fl aa Z s g) E0 s
section
variable {U:Program} {w:World} {J:Heap} {gl bl:Addr} {K:Frag} {fl outer:List Env} {Z ai ao aP:aH} {O af ae az:ag} {s s' s1 s0 s2:Shared} {A:Around} {E0:Value→Shared→Prop} {aa:Env} {nm:List Str} {L L':Locals}
variable {C:Calls} {n fu:Nat}
theorem aj.qw {X:Addr→Prop} {F:Addr→Prop} (a:aj X Z s ai s'):cU X F Z s ai s':=
 ⟨a.pre,λb o e nf nx=>⟨o.slots,a.keep b o e nf nx,λ_=>rfl⟩,a.live,a.new,a.gens,a.drawn,a.os⟩
theorem cU.then {X:Addr→Prop} {F:Addr→Prop} {bY:Shared} {f9:aH} (a:cU X F Z s ai s') (b:aj X ai s' f9 bY):cU X F Z s f9 bY:=by
 refine ⟨a.pre.trans b.pre,λc o e nf nx=>?_,λc e=>b.live c (a.live c e),λn p hn e=>?_,b.gens.trans a.gens,b.drawn.trans a.drawn,b.os.trans a.os⟩
 ·obtain ⟨sl,h,k⟩:=a.keep c o e nf nx
  exact ⟨sl,b.keep c _ h (λq=>nf (cU.g5 a (by rw [e];rfl) q)) nx,k⟩
 ·by_cases hl:n<ai.length
  ·have:=k8 b.pre (List.getElem?_eq_getElem hl)
   rw [e] at this
   exact a.new n p hn (by rw [List.getElem?_eq_getElem hl];exact this.symm)
  ·obtain ⟨h1,h2⟩:=b.new n p (Nat.le_of_not_lt hl) e
   exact ⟨gU a.live h1,gU a.live h2⟩
theorem Mj {g f:Flow} {L1:Locals} (h:aU.ok g L O= .ok f L1 ae):f=g:=by cases h;rfl
theorem PW.V7 {g:Flow} {af:ag} {f:PySem.Flow} (p:PS U w J fl aa nm Z s (.ok g L' af) f s'):PW U w J fl aa Z s g f s':=match p with
 |⟨ai,X,_,fv⟩=>⟨ai,X.qw,fv⟩
theorem PW.after {g:Flow} {f:PySem.Flow} (a:aj (cR aa) aP s0 Z s) (p:PW U w J fl aa Z s g f s'):PW U w J fl aa aP s0 g f s':=match p with
 |⟨ai,X,fv⟩=>⟨ai,cU.chain a X λc q=> .inl q,fv⟩
theorem PW.end_ {g f:Flow} {L1:Locals} {r:PySem.Flow} (h:aU.ok g L O= .ok f L1 ae) (X:aj (cR aa) Z s ai s') (fv:FV J s'.heap ai f r):PW U w J fl aa Z s g r s':=⟨ai,X.qw,Mj h▸fv⟩
theorem UO {ss:Ss} (a:ic U w J gl bl fl A C fu ss):rf U w J gl bl fl A C fu ss:=λ{E0 aa nm xs L L' O af g Z s} hm eo ef H h=>
 wpAny_mono (a hm eo ef H h nofun) (λ_ _ p=>PW.V7 p) λ_ _ x=>x.elim
theorem VN {st:S} {ss:Ss} (a:fL U w J gl bl fl A C fu st) (b:rf U w J gl bl fl A C fu ss):rf U w J gl bl fl A C fu (.cons st ss):=λ{E0 aa nm xs L L' O af g Z s} hm eo ef H h=>
 wpAny_mono (E:=XS false U w J fl aa nm Z s (.ok g L' af)) (Q:=PW U w J fl aa Z s g) (Cz (Ps:=λxs=>wpAny (model U w) A (execs xs aa) _ _ s) hm λy ys h1 h2=>
  wpAny_execs_cons (xP (λeh=>a h1 eo ef H rfl eh) (aj.refl _ _ _) h nofun λf L1 ae r ao s1 h X1 _ H1 fv=>Bs h fv (λh=>wpAny_mono (b h2 eo ef H1 h) (λ_ _ x=>PW.after X1 x) λ_ _ x=>x) (λh=>PW.end_ h X1 rfl) λv x h rv=>PW.end_ h X1 ⟨x,rfl,rv⟩))
  (λ_ _ x=>x) λ_ _ x=>x.elim
structure Om (U:Program) (w:World) (J:Heap) (fl:List Env) (aa:Env) (nm:List Str) (Z:aH) (s:Shared) (O:ag) (L:Locals) (x:Str) (y:Value) (m:Str→Option Value) (s':Shared):Prop where
 v:VK J Z s.heap Z s'.heap
 sb:Heap.SameBut aa.locals s.heap s'.heap
 ext:aj (cR aa) Z s Z s'
 h:aR U w J fl aa nm Z O L s'
 ns:s'.heap.Ns aa.locals m
 at':m x=some y
theorem T8 {i j:Nat} {u:V} (hu:Locals.get (L.set i none) j=some u):j≠i∧L.get j=some u:=by
 unfold Locals.get at hu
 by_cases e:i=j
 ·subst e
  rw [List.getElem?_set_self'] at hu
  cases hq:L[i]? with
  |none=>rw [hq] at hu;cases hu
  |some _=>rw [hq] at hu;cases hu
 ·rw [List.getElem?_set_ne e] at hu
  exact ⟨Ne.symm e,hu⟩
theorem abp {h h':Heap} {m:Str→Option Value} {a c:Addr} {z:Option Value} (hm:h.Ns a m) (ba:Heap.SameBut a h h') (q:∃o,h.get? c=some o∧o.data= .cell z):∃o,h'.get? c=some o∧o.data= .cell z:=match q with
 |⟨o,ho,hd⟩=>⟨o,(ba.2 c λe=>by
   obtain ⟨o',_,_,d8,bQ,_⟩:=hm
   rw [e,d8] at ho;cases ho;rw [hd] at bQ;cases bQ).trans ho,hd⟩
theorem Tn (eo:bJ gl bl aa) (ef:eK fl aa nm) (H:aR U w J fl aa nm Z O L s) {i:Nat} {x:Str} {y:Value} (hi:dQ aa.scope nm i x=true):
  wpAny (model U w) A (storeName aa x y) (λ_ s'=>∃m,Om U w J fl aa nm Z s O (L.set i none) x y m s') E0 s:=by
 replace hi:=oE hi
 obtain ⟨m,hm,hl⟩:=H.loc
 refine wpAny_storeName_local (m:=m) hi.2.1 hm (λh' cw ba=>?_) (sP eo.kind)
 obtain ⟨X,S,V⟩:=MS H ba cw (s.toks+1) (Nat.le_succ _)
 refine ⟨_,V,ba,X,⟨S,⟨_,cw,λj u hu=>?_⟩,H.jQ,H.oq⟩,cw,by simp⟩
 have hj:=T8 hu
 obtain ⟨nn,z,hn,rz,hz⟩:=hl j u hj.2
 have cx:nn≠x:=λe=>hj.1 ((List.getElem?_inj (List.getElem?_eq_some_iff.mp hn).1 ef.nodup).mp (hn.trans (e▸hi.1.symm)))
 exact ⟨nn,z,hn,RV.mono V rz,hz.imp (λq=>⟨q.1,by simp [cx,q.2]⟩) λq=>⟨q.1,q.2.imp λc q=>⟨q.1,abp hm ba q.2⟩⟩⟩
end
section
variable {U:Program} {w:World} {J:Heap} {gl bl:Addr} {K:Frag} {fl outer:List Env} {Z ai ao aP:aH} {O af ae az:ag} {s s' s1 s0 s2:Shared} {A:Around} {E0:Value→Shared→Prop} {aa:Env} {nm:List Str} {L L':Locals}
variable {C:Calls} {n fu:Nat}
inductive oA (J h:Heap) (Z:aH) (x:Addr) (e:aX):Prop where
 |mk (dx:Addr) (o:Obj) (vs:Array Value) (es:List DictEntry) (nn:Nat) (ho:h.get? x=some o) (cV:o.cls= .ref bA) (dg:o.dict=some dx) (hd:o.data= .fields vs) (d3:h.get? dx=some (dictOf es nn)) (d4:cA J h Z [(11,e.k),(12,e.a),(13,e.d)] es):oA J h Z x e
theorem oA.of {b:Bool} {h0 h:Heap} {x:Addr} {e:aX} (z:kn b J h0 h Z x e):oA J h Z x e:=match z with
 |⟨fresh,off,o,dx,vs,es,nn,ho,cV,dg,hd,bO,ko,d1,d2,d3,d4⟩=>⟨dx,o,vs,es,nn,ho,cV,dg,hd,d3,d4⟩
theorem ZJ {h:Heap} {m:Str→Option Value} {a b:Addr} {o:Obj} {vs:Array Value} (hm:h.Ns a m) (ho:h.get? b=some o) (hd:o.data= .fields vs):b≠a:=λq=>by
 obtain ⟨o',_,_,e1,bQ,_⟩:=hm
 rw [←q,ho] at e1;cases e1;rw [hd] at bQ;cases bQ
theorem oA.turn {b:Bool} {h0 h h':Heap} {m:Str→Option Value} {a x:Addr} {e:aX} (z:kn b J h0 h Z x e) (la:(h0.get? a).isSome) (hm:h.Ns a m) (v:VK J Z h Z h') (sb:Heap.SameBut a h h'):oA J h' Z x e:=match z with
 |⟨fresh,off,o,dx,vs,es,nn,ho,cV,dg,hd,bO,ko,d1,d2,d3,d4⟩=>⟨dx,o,vs,es,nn,(sb.2 x (ZJ hm ho hd)).trans ho,cV,dg,hd,(sb.2 dx λq=>by rw [←q,d1] at la;cases la).trans d3,cA.mono v d4⟩
theorem NE (EO:ia J K) (EA:EA K) (X:K.In s.heap) {x:Addr} {f:Nat} {v:V} {e:aX} {b:Bool} {Q:Value→Shared→Prop} (h1:11≤f) (h2:f<14) (z:oA J s.heap Z x e)
    (hf:pG [(11,e.k),(12,e.a),(13,e.d)] f=some v) (h:∀y,RV J s.heap Z v y→Q y {s with toks:=s.toks+1}):wpAny (model U w) A (getAttr (.ref x) (aB f) b) Q E0 s:=by
 obtain ⟨dx,o,vs,es,nn,ho,cV,dg,hd,d3,d4⟩:=z
 have g:=CT h2 d4
 rw [hf] at g
 obtain ⟨y,e,rv⟩:=g
 obtain ⟨cd,hc,lY,_⟩:=EO.ek.cd
 exact XZ EA.ga EA.gn ⟨cd,hc,lY⟩ X ⟨ho,cV,by obtain ⟨_,_,dd,_⟩:=o;cases hd;rfl,by rw [dg];exact d3⟩ (findObj_own (attr:=none) EA.hd (EO.ek.Ca f h1 h2) rfl (by rw [lookIn_dict];exact e)) (Nf rv) (h y rv)
theorem ZW {i:Nat} {x:Str} (h:iG aa.scope nm i x=true):(x==("__debug__":Str))=false:=by
 unfold iG at h
 simp only [Bool.and_eq_true,beq_iff_eq,bne_iff_ne,ne_eq] at h
 exact beq_eq_false_iff_ne.mpr h.1.2
theorem abX {r c:Bool} (h:c=(false !=r)):(Value.bool c)= .bool r:=by subst h;cases r<;>rfl
theorem abl (eo:bJ gl bl aa) (H:aR U w J fl aa nm Z O L s) {e:aX} {kv av:Value} {wn:Str} {wI:Nat} {y z:V} {r:Bool} {aQ:List Nat} {p7 p8 p9:Pos} {k2:Nat} {Q:PySem.Flow→Shared→Prop} (hw:iG aa.scope nm wI wn=true) (oL:L.get wI=some y)
    (rk:RV J s.heap Z e.k kv) (ra:RV J s.heap Z e.a av) (hz:dh O y (.str aQ)=some z) (mA:aQ.length≤aq) (hr:ju O (.tup [e.k,e.a]) z=some r) (hu:A.units+64<cLine) (hQ:∀ai s',aj aE Z s ai s'→Q (.ret (.bool r)) s'):
  wpAny (model U w) A (eval (.Subscript (.Name wn p7) (.Constant (.str ⟨aQ.toArray⟩) k2 p8) p9) aa) (λb s2=>wpAny (model U w) A (compareOp CmpOp.Eq (.ref s.heap.objs.size) b) (λv s'=>Q (.ret v) s') E0 s2) E0 {s with heap:=s.heap.push {cls:= .type "tuple",data:= .seq [kv,av].toArray},toks:=s.toks+2}:=by
 have T:=FD (vs:=[e.k,e.a]) (ws:=[kv,av]) H.st ⟨kv,_,rfl,rk,av,_,rfl,ra,rfl⟩ (s.toks+2)
 obtain ⟨ao,X1,R1,r1⟩:=T
 have H1:=H.ext X1 R1 (adn _ _)
 refine Subscript_ (wpAny_Name (wpAny_mono (wpAny_toks (D5 (E:=E0) eo H1 hw oL)) (λb s2 p=>?_) λ_ _ x=>x.1) (ZW hw))
 obtain ⟨⟨eT,X2,R2,r2⟩,t2⟩:=p
 have H2:=H1.ext X2 R2 t2
 refine wpAny_Constant_str ?_
 have P2:=aI.same (w:=w) (U:=U) (X:=aE) H2.st.sr (iH (l:=aQ) s2.toks mA) (s2.toks+1)
 obtain ⟨om,X3,R3,r3⟩:=P2
 have H3:=H2.ext X3 R3 (Nat.le_succ _)
 obtain ⟨T,id,g,hT,hl⟩:=Ea (A:=A) (E:=E0) (X:=aE) R3 (RV.mono (X3.fp H2.st) r2) r3 hz
 refine tail_any (ops:=[b]) hT hl (wpAny_mono g (λc s4 p=>?_) λ_ _ x=>x) rfl
 obtain ⟨r7,X4,R4,r4⟩:=p
 have Hj:=(X2.trans X3).trans X4
 exact wpAny_mono (zI (A:=A) (E:=E0) R4 (RV.mono (Hj.fp H1.st) r1) r4 hu hr false) (λv s5 p=>match p with
  |⟨k⟩=>hQ _ _ ((X1.trans Hj).trans ⟨List.prefix_refl _,λb o e _ _=>e,λb e=>e,λn p hn e=>(by rw [List.getElem?_eq_none hn] at e;cases e),rfl,rfl,rfl⟩)) λ_ _ x=>x
theorem aa8 (EO:ia J K) (EA:EA K) (B:cz U w J gl bl K) (hu:A.units+64<cLine) (eo:bJ gl bl aa) (H:aR U w J fl aa nm Z O L s) {e:aX} {x:Addr} {v:Str} {wI:Nat} {y z:V} {r:Bool} {aQ:List Nat}
  {Q:PySem.Flow→Shared→Prop} {m:Str→Option Value} {l:List PySem.Stmt} (hb:rK aa.scope nm wI aQ v l=true) (hk:aa.kindOf v=some .local) (tv:v≠Str.ofString "__debug__") (hm:s.heap.Ns aa.locals m) (mj:m v=some (.ref x)) (oL:∀wn,iG aa.scope nm wI wn=true→wn≠v→L.get wI=some y)
  (xf:oA J s.heap Z x e) (hz:dh O y (.str aQ)=some z) (mA:aQ.length≤aq) (hr:ju O (.tup [e.k,e.a]) z=some r) (hQ:∀ai s',aj aE Z s ai s'→Q (.ret (.bool r)) s'):wpAny (model U w) A (execs l aa) Q E0 s:=by
 have X:=ve B H.st
 have IP:(v==("__debug__":Str))=false:=beq_eq_false_iff_ne.mpr tv
 refine Ho (Ps:=λl=>wpAny (model U w) A (execs l aa) Q E0 s) hb λt Ao hc=>O8 (P:=λt=>wpAny (model U w) A (execs [.Return (some t) Ao] aa) Q E0 s) hc λtl tr I2 ht hs=>
  NH (P:=λtl=>wpAny (model U w) A (execs [.Return (some (.Compare tl [.Eq] [tr] I2)) Ao] aa) Q E0 s) ht λp1 p2 p3 p4 k1 p5=>abe (P:=λtr=>wpAny (model U w) A (execs [.Return (some (.Compare (.Tuple [.Attribute (.Name v p1) (Str.ofString "kind") p2,.Attribute (.Name v p3) (Str.ofString "at") p4] k1 p5) [.Eq] [tr] I2)) Ao] aa) Q E0 s) hs λwn p7 k2 p8 p9 hw cx=>?_
 refine wpAny_execs_cons (wpAny_Return_some (wpAny_Compare1 (PySem.wpAny_Tuple_spliced ?_) (by rfl)))
 refine spliced_more (AJ rfl (wpAny_Name (wpAny_loadName_local eo.kind hk hm mj ?_) IP)) rfl
 refine NE (f:=11) EO EA X (by decide) (by decide) xf rfl λkv rk=>?_
 refine spliced_more (AJ rfl (wpAny_Name (wpAny_loadName_local eo.kind hk hm mj ?_) IP)) rfl
 refine NE (s:={s with toks:=s.toks+1}) (f:=12) EO EA X (by decide) (by decide) xf rfl λav ra=>?_
 refine spliced_none ⟨by show 2≤sizeLine;decide,?_⟩
 exact abl eo H hw (oL wn hw cx) rk ra hz mA hr hu hQ
end
section
variable {U:Program} {w:World} {J:Heap} {gl bl:Addr} {K:Frag} {fl outer:List Env} {Z ai ao aP:aH} {O af ae az:ag} {s s' s1 s0 s2:Shared} {A:Around} {E0:Value→Shared→Prop} {aa:Env} {nm:List Str} {L L':Locals}
variable {C:Calls} {n fu:Nat}
theorem EW {h':Heap} {m:Str→Option Value} (hs:Heap.SameBut aa.locals s.heap h') (hm:h'.Ns aa.locals m) (k:Nat):aj (cR aa) Z s Z {s with heap:=h',toks:=k}:=by
 refine ⟨List.prefix_refl _,λb o e _ nx=>(hs.2 b nx).trans e,λb hb=>?_,λn p hn e=>(by rw [List.getElem?_eq_none hn] at e;cases e),rfl,rfl,rfl⟩
 by_cases q:b=aa.locals
 ·subst q
  obtain ⟨o,_,_,e,_⟩:=hm
  show (h'.get? aa.locals).isSome=true
  rw [e];rfl
 ·show (h'.get? b).isSome=true
  rw [hs.2 b q];exact hb
theorem VO {i j:Nat} {u:V} (h:L.get j=some u) (cx:j≠i):Locals.get (L.set i none) j=some u:=by
 unfold Locals.get at h ⊢
 rw [List.getElem?_set_ne (Ne.symm cx)];exact h
theorem Xg {i j:Nat} {v wn:Str} (hl:dQ aa.scope nm i v=true) (hw:iG aa.scope nm j wn=true) (cx:wn≠v):j≠i:=λq=>by
 subst q
 unfold iG at hw
 simp only [Bool.and_eq_true,beq_iff_eq] at hw
 have:=hw.1.1.symm.trans (oE hl).1
 cases this
 exact cx rfl
inductive vt (L:Locals) (O:ag) (e:aX) (wI:Nat) (aQ:List Nat) (g:Flow):Prop where
 |mk (y z:V) (r:Bool) (hy:L.get wI=some y) (hz:dh O y (.str aQ)=some z) (hr:ju O (.tup [e.k,e.a]) z=some r) (hg:g= .ret (.bool r)):vt L O e wI aQ g
theorem HK {α:Type} {o:Option α} {f:α→aU} {k:Flow→Locals→ag→aU} {out:aU} {P:Prop} (h:(bK o .stuck f).bind k=out) (hn:out≠ .stuck) (kk:∀x,o=some x→(f x).bind k=out→P):P:=match o,h with
 |some a,h=>kk a rfl h
 |none,h=>absurd h.symm hn
theorem NP {e:aX} {wI:Nat} {aQ:List Nat} {g:Flow} {ac:Locals→ag→aU} (h:(handled (.exc e L O) wI aQ).bind (λf L O=>f.oV L O (ac L O))= .ok g L' af):vt L O e wI aQ g:=
 HK (o:=(L.get wI).bind λx=>dh O x (.str aQ)) (f:=λy=>bK (ju O (.tup [e.k,e.a]) y) .stuck λr=> .ok (.ret (.bool r)) L O) h nofun λz hb h=>HK (o:=ju O (.tup [e.k,e.a]) z) (f:=λr=> .ok (.ret (.bool r)) L O) h nofun λr hr h=>lc hb λy hy hz=>⟨y,z,r,hy,hz,hr,Mj h⟩
inductive hO (U:Program) (w:World) (J:Heap) (fl:List Env) (aa:Env) (nm:List Str) (Z:aH) (s:Shared) (e:aX) (L':Locals) (af:ag) (x:Addr) (s':Shared):Prop where
 |mk (ai:aH) (hx:cU (cR aa) (· ∈bb fl) Z s ai s') (hh:aR U w J fl aa nm ai af L' s') (he:kn true J s.heap s'.heap ai x e):hO U w J fl aa nm Z s e L' af x s'
theorem hO.of {e:aX} {x:Addr} (z:XS true U w J fl aa nm Z s (.exc e L' af) (.ref x) s'):hO U w J fl aa nm Z s e L' af x s':=match z with
 |⟨om,y,hx,X3,H3,he⟩=>by cases hx;exact ⟨om,X3,H3,he⟩
theorem bI.Q8 {o:Option Value} (R:bI n 10 fl A):(A.mark o).units+64<cLine:=by rw [Around.mark_units];have:=R.units;omega
theorem Pr (EO:ia J K) (EA:EA K) (B:cz U w J gl bl K) (hu:A.units+64<cLine) (eo:bJ gl bl aa) (ef:eK fl aa nm) {i wI:Nat} {aQ:List Nat} {e:aX} {x:Addr} {v:Str} {body:List PySem.Stmt} {p:Pos} {g:Flow} {gy:ag} (H0:aR U w J fl aa nm Z gy L s) (mA:aQ.length≤aq)
    (hl:dQ aa.scope nm i v=true) (tv:v≠Str.ofString "__debug__") (hb:rK aa.scope nm wI aQ v body=true) (hd:vt L' af e wI aQ g) (z:hO U w J fl aa nm Z s e L' af x s') {R:PySem.Flow→Shared→Prop} {A2:Around} {E1 E2 E3:Value→Shared→Prop}
    (hR:∀r s6,wpAny (model U w) A2 (do bindName aa v .none;unbindBehindTheSuite aa v p) (λ_ s7=>PW U w J fl aa Z s g (.ret r) s7) E3 s6→R (.ret r) s6):
  wpAny (model U w) A (storeName aa v (.ref x)) (λ_ s2=>wpAny (model U w) A (execs body aa) R E1 s2) E2 s':=by
 obtain ⟨r7,X4,H4,he⟩:=z
 obtain ⟨y,z,r,hy,hz,hr,rfl⟩:=hd
 refine wpAny_mono (Tn eo ef H4 hl (y:= .ref x)) (λ_ s5 q=>?_) λ_ _ x=>x
 obtain ⟨m,V5,Ph,X5,H5,Lb,mj⟩:=q
 obtain ⟨mm,aaU,_⟩:=H4.loc
 refine aa8 EO EA B hu eo H5 hb (oE hl).2.1 tv Lb mj (λwn hw cx=>VO hy (Xg hl hw cx)) (oA.turn he (BJ H0) aaU V5 Ph) hz mA hr λQi s6 X6=>?_
 have Wn:s6.heap.Ns aa.locals m:=Lb.at λo e=>X6.keep _ o e H5.jQ λq=>q
 refine hR _ _ (wpAny_bind (wpAny_bindName (wpAny_storeName_local (m:=m) (oE hl).2.1 Wn (λh' cw ba=>?_) (sP eo.kind))))
 unfold unbindBehindTheSuite
 refine wpAny_onRaise (wpAny_unbindName_local (v:= .none) (oE hl).2.1 cw (by simp) (sP eo.kind) λyT u abr Zu=>?_)
 exact ⟨Qi,((X4.then X5).then X6.loc).then ((EW ba cw (s6.toks+1)).trans (EW (s:={s6 with heap:=h',toks:=s6.toks+1}) Zu abr (s6.toks+1))),_,rfl,iL _⟩
theorem Yj (EO:ia J K) (EA:EA K) (B:cz U w J gl bl K) (RM:bI n 10 fl A) (eo:bJ gl bl aa) (ef:eK fl aa nm) {i wI:Nat} {aQ:List Nat} {e:aX} {v0:Value} {hd:ExceptHandler} {g:Flow} {gy:ag} (H0:aR U w J fl aa nm Z gy L s) (mA:aQ.length≤aq)
    (hh:yg aa.scope nm i wI aQ hd=true) (bQ:vt L' af e wI aQ g) (z:XS true U w J fl aa nm Z s (.exc e L' af) v0 s') {R:PySem.Flow→Shared→Prop} (hR:∀r s',PW U w J fl aa Z s g (.ret r) s'→R (.ret r) s'):
  wpAny (model U w) A (handleBy v0 aa [hd]) R E0 s':=by
 refine N4 (H:=λhd=>wpAny (model U w) A (handleBy v0 aa [hd]) R E0 s') hh λq v body p hg hl tv hb=>?_
 obtain ⟨om,x,rfl,X3,H3,he⟩:=z
 obtain ⟨Ef,cq,N,bs,hdct,sn,sub,ab,col,dd,k0,ab9,acN,k3,k5,hC⟩:=EO.cls
 have Oi:=H3.st.stays _ _ hC
 have aae:XS true U w J fl aa nm Z s (.exc e L' af) (.ref x) s':=⟨om,x,rfl,X3,H3,he⟩
 obtain ⟨fresh,off,o,dx,vs,es,nn,mq,cV,dg,hd,bO,ko,d1,d2,d3,d4⟩:=he
 refine wpAny_handleBy_cons (codeAny_handlers_test (o6 eo H3 B.g.err hg ?_)) (by intro q;cases q)
 obtain ⟨hp,gg,dr,tt,os⟩:=s'
 refine wpAny_excMatches_sub_self Oi mq cV (by decide) ?_
 obtain ⟨st,acW,rfl⟩:∃st r,body=st::r:=Ho (Ps:=λbody=>∃st r,body=st::r) hb λx p _=>⟨_,_,rfl⟩
 refine codeAny_handlers_suite_as ?_
 refine wpAny_mono (vF (A:=A.mark (some (.ref x))) (fa:=none) H0.st aae) (λ_ s4 z4=>?_) λ_ _ x=>x
 exact Pr EO EA B RM.Q8 eo ef H0 mA hl tv hb bQ (hO.of z4) λr s6 h=>wpAny_mono h (λ_ s7 pw=>hR r s7 pw) λ_ _ x=>x
theorem ZA (EO:ia J K) (EA:EA K) (B:cz U w J gl bl K) (R:bI n 10 fl A) {b ac:Ss} {i wI:Nat} {aQ:List Nat} (mA:aQ.length≤aq)
    (sb:ic U w J gl bl fl A C fu b) (sr:ic U w J gl bl fl A C fu ac):rf U w J gl bl fl A C fu (.cons (.j8 b i wI aQ) ac):=λ{E0 aa nm xs L L' O af g Z s} hm eo ef H h=>by
 refine Cz (Ps:=λxs=>wpAny (model U w) A (execs xs aa) (PW U w J fl aa Z s g) E0 s) hm λy ys h1 h2=>Zw (P:=λy=>wpAny (model U w) A (execs (y::ys) aa) (PW U w J fl aa Z s g) E0 s) h1 λyb hd p hh hb=>?_
 replace h:(handled (ah C fu b L O) wI aQ).bind (λf L O=>f.oV L O (ah C fu ac L O))=aU.ok g L' af:=h
 refine wpAny_execs_cons (wpAny_Try_except ?_)
 exact match ho:ah C fu b L O,h with
 | .stuck,h=>nomatch h
 | .ok f L1 ae,h=>wpAny_mono (sb hb eo ef H ho nofun) (λr s1 z=>match z with
  |⟨ao,X1,H1,fv⟩=>Bs (show f.oV L1 ae (ah C fu ac L1 ae)=aU.ok g L' af from h) fv (λh=>wpAny_execs_nil (wpAny_mono (UO sr h2 eo ef H1 h) (λ_ _ x=>PW.after X1 x) λ_ _ x=>x)) (λh=>PW.end_ h X1 rfl) λv x h rv=>PW.end_ h X1 ⟨x,rfl,rv⟩) λ_ _ x=>x.elim
 | .exc e L1 ae,h=>wpAny_mono (sb hb eo ef H ho nofun) (λ_ _ x=>x.elim) λv0 s1 zx=>by
   refine wpAny_mono (ux R.frames ef E0 Z s _ v0 s1 O H.st zx) (λ_ s2 z2=>wpAny_mono (vF (A:=A) (fa:=none) H.st z2) (λ_ s3 z3=>?_) λ_ _ x=>x) λ_ _ x=>x
   exact Yj EO EA B R eo ef H mA hh (NP h) z3 λ_ _ x=>x
end
mutual
noncomputable def Av:S→Bool
 | .ite _ a b=>jr a&&jr b
 | .dD _ b=>jr b
 | .forL _ _ b=>jr b
 | .forR _ _ b=>jr b
 | .j8 _ _ _ _=>false
 | .expr _ | .aA _ _ | .mC _ _ | .setAttr _ _ _ | .eH _ _ _ | .unpack _ _ | .gF _ _ _ | .gY _ _ _ _ | .ret _ | .lQ | .raise _ | .brk | .lb _ _=>true
noncomputable def jr:Ss→Bool
 | .nil=>true
 | .cons s ss=>Av s&&jr ss
end
noncomputable def S.Gb (s:S) (d:Bool) (f:Ss→List Nat→Bool):Bool:=match s with
 | .j8 b _ _ aQ=>f b aQ
 |_=>d
@[elab_as_elim] theorem Xf {s:S} {d:Bool} {f:Ss→List Nat→Bool} {P:S→Prop} (h:s.Gb d f=true) (k1:∀b i w aQ,f b aQ=true→P (.j8 b i w aQ)) (k2:d=true→P s):P s:=match s,h with
 | .j8 _ _ _ _,h=>k1 _ _ _ _ h
 | .expr _,h | .aA _ _,h | .mC _ _,h | .setAttr _ _ _,h | .eH _ _ _,h | .unpack _ _,h | .gF _ _ _,h | .gY _ _ _ _,h | .ret _,h | .lQ,h | .raise _,h | .brk,h | .lb _ _,h | .ite _ _ _,h | .dD _ _,h | .forL _ _ _,h | .forR _ _ _,h=>k2 h
section
variable {U:Program} {w:World} {J:Heap} {gl bl:Addr} {K:Frag} {fl outer:List Env} {A:Around}
variable {C:Calls} {n fu:Nat}
mutual
theorem HB (EO:ia J K) (B:cz U w J gl bl K) (ih:∀e,a7 U w J gl bl fl A C fu e) (il:∀es,fh U w J gl bl fl A C fu es) (R:bI n 10 fl A):∀st:S,Av st=true→fL U w J gl bl fl A C fu st
 | .expr e,_=>oa (ih e)
 | .aA i e,_=>YS (ih e)
 | .mC i e,_=>Wr B R ih
 | .setAttr o f e,_=>Sy B (ih o) (ih e)
 | .eH o i e,_=>abu (ih o) (ih i) (ih e)
 | .unpack is e,_=>pB R (ih e)
 | .gF i op e,_=>zd (ih e)
 | .gY o i op e,_=>D1 (ih o) (ih i) (ih e)
 | .ret e,_=>uF (ih e)
 | .lQ,_=>tK
 | .ite c a b,h=>aN h λh1 h2=>mL (ih c) (o3 EO B ih il R a h1) (o3 EO B ih il R b h2)
 | .dD c b,h=>YN (λ_ _ ef=>ux R.frames ef) (λ_ _ ef=>z7 ef) (ih c) (o3 EO B ih il R b h)
 | .forL i e b,h=>qo R (λ_ _ ef=>ux R.frames ef) (λ_ _ ef=>z7 ef) (ih e) (o3 EO B ih il R b h)
 | .forR i e b,h=>wV B R (λ_ _ ef=>ux R.frames ef) (λ_ _ ef=>z7 ef) (ih e) (o3 EO B ih il R b h)
 | .raise es,_=>AI EO B R (il es)
 | .j8 b i w aQ,h=>nomatch h
 | .brk,_=>vv
 | .lb o i,_=>Of (ih o) (ih i)
theorem o3 (EO:ia J K) (B:cz U w J gl bl K) (ih:∀e,a7 U w J gl bl fl A C fu e) (il:∀es,fh U w J gl bl fl A C fu es) (R:bI n 10 fl A):∀ss:Ss,jr ss=true→ic U w J gl bl fl A C fu ss
 | .nil,_=>O0
 | .cons s ss,h=>aN h λh1 h2=>Uj (HB EO B ih il R s h1) (o3 EO B ih il R ss h2)
end
theorem D7 (EO:ia J K) (B:cz U w J gl bl K) (CO:js U w J n C) (R:bI n 10 fl A) (ss:Ss) (h:jr ss=true):ic U w J gl bl fl A C fu ss:=o3 EO B (d9 B CO R) (jt B CO R) R ss h
theorem Iz {g7:List Fn} (EO:ia J K) (B:cz U w J gl bl K) (D:∀f F,g7[f]?=some F→(oY J gl bl f F∧jr F.body=true)∨¬F.np≤F.nl):∀n,js U w J n (ay g7 fu n)
 |0=>λf vs O out h hn=>absurd h.symm hn
 |n+1=>λf vs O out h hn fl A Z s ws R S r=>fk h hn λF hf h=>(D f F hf).elim
      (λd=>Wm B d.1 (λfl A R=>D7 EO B (Iz EO B D n) R F.body d.2) R S h hn r)
      λno=>absurd (show xE (ay g7 fu n) fu F vs O=out from h) λh=>dc h hn λq _=>no q.2
noncomputable def yo:Ss→Bool
 | .nil=>false
 | .cons s ss=>s.Gb (Av s&&yo ss) λb aQ=>jr b&&(jr ss&&decide (aQ.length≤aq))
theorem J0 (EO:ia J K) (EA:EA K) (B:cz U w J gl bl K) (CO:js U w J n C) (R:bI n 10 fl A):∀ss:Ss,yo ss=true→rf U w J gl bl fl A C fu ss
 | .nil,h=>nomatch h
 | .cons s ss,h=>Xf (P:=λs=>rf U w J gl bl fl A C fu (.cons s ss)) h (λb i w aQ h=>aN h λh1 h=>aN h λh2 h3=>ZA EO EA B R (ado h3) (D7 EO B CO R b h1) (D7 EO B CO R ss h2))
      λh=>aN h λh1 h2=>VN (HB EO B (d9 B CO R) (jt B CO R) R _ h1) (J0 EO EA B CO R ss h2)
end
section
variable {U:Program} {w:World} {J:Heap} {gl bl:Addr} {K:Frag} {A:Around} {s:Shared} {C:Calls} {n fu:Nat}
theorem ZT {M:Model} {E:Value→Shared→Prop} {aa:Env} {s₀:Shared} {m cm:Str→Option Value} {x:Str} {v:Value} {Q:Unit→Shared→Prop} (z:InCallC s₀ aa.locals m aa.cells cm s) (hk:aa.scope.kind= .function) (hl:aa.kindOf x=some .local)
    (h:∀s',InCallC s₀ aa.locals (λy=>if y=x then some v else m y) aa.cells cm s'→s.toks+1≤s'.toks→Q () s'):wpAny M A (storeName aa x v) Q E s:=
 wpAny_storeName_local hl z.toInCall.ns (λh' YZ M3=>h _ ⟨⟨match z.toInCall.same with
  |⟨fG,tk,e⟩=>e▸⟨h',_,rfl⟩,YZ,λb o e=>M3.extBut b o (Nat.ne_of_lt (adl (Heap.lt_size e) z.toInCall.fresh)) (z.toInCall.keep b o e),z.toInCall.fresh⟩,
  λk c hc=>(z.cell k c hc).sameBut M3 (Nat.ne_of_gt (z.above k c (mem_of_lookup hc))),z.apart,z.above⟩ (adq _)) (by rw [hk];rfl)
theorem Wh {f:Nat} (XN:∀o fd,J.get? (bS f)=some o→o.data= .func fd→∀x,fd.scope.names.lookup x≠some .cell):vJ U w A J s f 1 (s.toks+1):=λo fd jZ ho hd hk dy hz Q E hQ=>match jZ,dy,hz,hQ with
 |[(x,v)],_,hz,hQ=>by
  have hl:fd.scope.names.lookup x=some .local:=(hz _ (.head _)).elim id λq=>absurd q.1 (XN o fd ho hd x)
  simp only [newFunctionEnv,Option.isSome_none,Bool.false_eq_true,if_false]
  refine wpAny_bind (wpAny_alloc ?_)
  refine wpAny_bind (wpAny_layCells _ (λname kind cells=>by cases O1:kind==NameKind.cell<;>simp [O1]) _ _ _ _ ?_)
  have ok:=cellsFrom_ok fd.scope.names (s.heap.push {cls:= .type "frame",data:= .dict #[]}) (s.heap.objs.size+1) [] ⟨λ_ _ hm=>(nomatch hm),List.Pairwise.nil⟩ (by rw [Heap.size_push];exact adq _)
  rw [Heap.size_push] at ok
  rw [show ({s with heap:=s.heap.push {cls:= .type "frame",data:= .dict #[]}}:Shared).heap.objs.size=s.heap.objs.size+1 from Heap.size_push ..]
  refine wpAny_bind ?_
  rw [List.forIn_cons]
  refine wpAny_bind (wpAny_bind (ZT (s₀:=s) (m:=λ_=>none) (cm:=λ_=>none) (aa:=callEnvC fd s.heap.objs.size (bS f)) ⟨⟨⟨_,_,rfl⟩,(Heap.Ns.new s.heap (.type "frame")).keeps (pushCells_keeps _ _),λb o e=>pushCells_keeps _ _ b o (Heap.get?_push_of_some _ e),adq _⟩,
      λn c hc=>(ok.empty n c (mem_of_lookup hc)).1,ok.apart,λn c hm=>(ok.empty n c hm).2⟩ hk hl λs' z ht=>wpAny_pure ?_))
  refine (show wpAny _ _ (forIn ([]:List (Str×Value)) PUnit.unit (λx __s=>(do storeName (callEnvC fd s.heap.objs.size (bS f)) x.1 x.2;pure (ForInStep.yield PUnit.unit):Sem (ForInStep PUnit)))) _ _ _ from ?_)
  rw [List.forIn_nil]
  refine wpAny_pure (wpAny_pure (hQ _ rfl s' ?_ ht))
  have eL:bindL (callEnvC fd s.heap.objs.size (bS f)).kindOf [(x,v)] (λ_=>none)=λy=>if y=x then some v else none:=if_pos hl
  have eC:bindC (callEnvC fd s.heap.objs.size (bS f)).kindOf [(x,v)] (λ_=>none)=λ_=>none:=if_pos hl
  rw [eL,eC]
  exact z
theorem PE (EO:ia J K) (EA:EA K) (B:cz U w J gl bl K) (CO:js U w J n C) {f:Nat} {F:Fn} (D:oY J gl bl f F) (hE:yo F.body=true) {vs:List V} {ws:List Value} {L':Locals} {af:ag} {g:Flow}
    (R:bI (n+1) 0 [] A) {k:Nat} (S:St U w J [] [] [] {s with toks:=k}) (r:aD J s.heap [] vs ws) (hl:vs.length=F.np) (st:vJ U w A J s f F.np k) (h:ah C fu F.body (vs.map some++List.replicate (F.nl-F.np) none) []= .ok (.ret (.bool true)) L' af):
  codeAny (model U w) A (.call (.ref (bS f)) ⟨ws,[]⟩) (λres s'=>res= .ok (.ret (.bool true))∧(∀b o,s.heap.get? b=some o→s'.heap.get? b=some o)∧s'.gens=s.gens∧s'.os=s.os) s:=
 GS B D R S r hl st λe1 nm body s2 r0=>wpAny_mono (J0 EO EA B CO r0.R _ hE r0.hm r0.eo r0.ef r0.H h) (λv s' p=>by
  obtain ⟨ai,X2,fv⟩:=p
  obtain ⟨x,hv,rv⟩:∃x,v= .ret x∧RV J s'.heap ai (.bool true) x:=fv
  refine ⟨by rw [hv,show x=Value.bool true from rv];rfl,λb o e=>?_,X2.gens.trans r0.X.gens,X2.os.trans r0.X.os⟩
  have nb:b≠e1.locals:=λq=>by rw [q,r0.dead] at e;cases e
  obtain ⟨sl,e3,e4⟩:=X2.keep b o (r0.X.keep b o e (λ⟨p,hp,_⟩=>nomatch hp) (λq=>q.elim)) (λ⟨p,hp,_⟩=>nomatch hp) (λq=>nb q)
  exact e3.trans (congrArg (λsl=>some {o with slots:=sl}) (e4 λq=>nb (by simpa [bb,r0.ef.frame] using q)))) λe s' p=>False.elim p
end
end Mine
namespace Mine.Q
noncomputable def xq:Fn:=⟨1,0,.nil⟩
noncomputable def aw:List Fn:=(g7.set 14 xq).set 38 xq
theorem qx {fu n f:Nat} {vs:List V} {O:ag} {F:Fn} (h:aw[f]?=some F) (h1:vs.length=F.np) (h2:F.np≤F.nl):
  ay aw fu (n+1) f vs O=fH (ah (ay aw fu n) fu F.body (vs.map some++List.replicate (F.nl-F.np) Option.none) O):=
 (congrArg (λo=>bK o Out.stuck λF=>xE (ay aw fu n) fu F vs O) h).trans (if_pos ⟨h1,h2⟩)
noncomputable def RE (c:Nat):Bool:=c==95||(c==36||(decide (48≤c)&&decide (c≤57)))||((decide (97≤c)&&decide (c≤122))||(decide (65≤c)&&decide (c≤90)))
noncomputable def du (p:List Nat→Bool):List Nat→Nat
 |[]=>0
 |c::r=>if p (c::r)=true then du p r+1 else 0
noncomputable def fJ:List Nat→Bool
 |c::_=>RE c
 |[]=>false
theorem Ae {α:Type} {b:Bool} {x y:α} (h:b=true):(if b=true then x else y)=x:=if_pos h
theorem zc {α:Type} {b:Bool} {x y:α} (h:b=false):(if b=true then x else y)=y:=by rw [h];rfl
theorem my (p:List Nat→Bool):∀s,du p s≤s.length
 |[]=>adq _
 |c::r=>match h:p (c::r) with
  |true=>adk (adt (Ae h)) (Nat.succ_le_succ (my p r))
  |false=>adk (adt (zc h)) (ads _)
theorem aci {α β:Type} (a:α) (O:ag) (f:α→ag→Out β):(Out.ok a O).bind f=f a O:=rfl
theorem cY {α β:Type} {o:Out α} {a:α} {O:ag} {f:α→ag→Out β} {r:Out β} (h:o= .ok a O) (k:f a O=r):o.bind f=r:=by rw [h];exact k
theorem M9 {o:Out V} {a:V} {O:ag} {L:Locals} {f:V→ag→aU} {r:aU} (h:o= .ok a O) (k:f a O=r):o.toS L f=r:=by rw [h];exact k
theorem Xu {o:aU} {g:Flow} {L:Locals} {O:ag} {f:Flow→Locals→ag→aU} {r:aU} (h:o= .ok g L O) (k:f g L O=r):o.bind f=r:=by rw [h];exact k
theorem kH {α β:Type} {o:Option β} {d r:α} {f:β→α} {x:β} (h:o=some x) (k:f x=r):bK o d f=r:=by rw [h];exact k
theorem nN {α:Type} {o:Option α} {v:α} {O:ag} (h:o=some v):gj o O= .ok v O:=by rw [h];rfl
theorem tH {t:List Nat} {p:List Nat→Bool} {cond:Locals→ag→Out V} {body:Locals→ag→aU} {mk:Nat→Locals} {O:ag} (hp:p []=false)
    (hc:∀k,k≤t.length→cond (mk k) O= .ok (.bool (p (t.drop k))) O) (hb:∀k,k<t.length→body (mk k) O= .ok .next (mk (k+1)) O):
  ∀iU k r,t.drop k=r→r.length<iU→k≤t.length→km cond body iU (mk k) O= .ok .next (mk (k+du p r)) O
 |0,k,_,_,h,_=>absurd h (Nat.not_lt_zero _)
 |iU+1,k,[],hd,h,hk=>M9 (hc k hk) (by rw [hd,hp];rfl)
 |iU+1,k,c::r,hd,h,hk=>M9 (hc k hk) (by
  have aK:k<t.length:=Nat.lt_of_not_le λq=>by rw [List.drop_eq_nil_of_le q] at hd;cases hd
  have hr:t.drop (k+1)=r:=by rw [←List.drop_drop,hd];rfl
  rw [hd]
  match hq:p (c::r) with
  |false=>rw [show du p (c::r)=0 from zc hq];rfl
  |true=>exact Xu (hb k aK) (by
   rw [show du p (c::r)=du p r+1 from Ae hq, ←Nat.add_assoc,Nat.add_right_comm]
   exact tH hp hc hb iU (k+1) r hr (Nat.lt_of_succ_lt_succ h) aK))
theorem Io {k:Nat} (h:k<16777300):(k:Int)<4294967296:=Int.lt_trans (Int.ofNat_lt.2 h) (by decide)
theorem ZX {k:Int} (h:0≤k∧k<4294967296):kL (.int k) true=some (some k.toNat):=if_pos h
theorem uR {k:Nat} (h:k<16777300):kL (.int (k:Int)) true=some (some k):=ZX ⟨Int.natCast_nonneg k,Io h⟩
theorem Jl {O:ag} {s:List Nat} {lo hi:V} {hl hh:Bool} {l h:Option Nat} (h1:kL lo hl=some l) (h2:kL hi hh=some h):jx O (.str s) lo hi hl hh= .ok (.str (kD s l h)) O:=
 kH h1 (kH h2 rfl)
theorem YW {O:ag} {t:List Nat} {a b:Nat} (h:b<16777300) (ha:a<16777300):jx O (.str t) (.int (a:Int)) (.int (b:Int)) true true= .ok (.str ((t.drop a).take (b-a))) O:=
  (Jl (uR ha) (uR h)).trans (congrArg (λl=>Out.ok (V.str l) O) (show kD t (some a) (some b)=_ from List.drop_take ..))
theorem Nv {O:ag} {t:List Nat} {k c:Nat} {r:List Nat} (h:t.drop k=c::r):dh O (.str t) (.int (k:Int))=some (.str [c]):=by
 have h1:t[k]?=some c:=(List.head?_drop ..).symm.trans (congrArg List.head? h)
 show (if (0:Int)≤k then (t[(k:Int).toNat]?).map λc=>V.str [c] else Option.none)=_
 rw [if_pos (Int.natCast_nonneg k),show t[(k:Int).toNat]?=some c from h1];rfl
theorem My (a b:Nat):decide (([a]:List Nat)<[b])=decide (a<b):=by
 rw [Bool.eq_iff_iff,decide_eq_true_eq,decide_eq_true_eq,List.cons_lt_cons_iff]
 simp
theorem Xk (a b:Nat):decide (([a]:List Nat)=[b])=(a==b):=by
 rw [Bool.eq_iff_iff,decide_eq_true_eq,beq_iff_eq]
 simp
theorem le_str {O:ag} (a b:Nat):ct .le O (.str [a]) (.str [b])=some (.bool (decide (a≤b))):=by
 show some (V.bool (!decide (([b]:List Nat)<[a])))=_
 rw [My, ←decide_not]
 congr 2;rw [decide_eq_decide];exact Nat.not_lt
inductive Wp {α:Type}:Out α→(α→ag→Prop)→(aX→ag→Prop)→Prop where
 |ok {Q:α→ag→Prop} {X:aX→ag→Prop} {v:α} {O:ag}:Q v O→Wp (.ok v O) Q X
 |exc {Q:α→ag→Prop} {X:aX→ag→Prop} {e:aX} {O:ag}:X e O→Wp (.exc e O) Q X
inductive Wq:aU→(Flow→Locals→ag→Prop)→(aX→ag→Prop)→Prop where
 |ok {Q:Flow→Locals→ag→Prop} {X:aX→ag→Prop} {f:Flow} {L:Locals} {O:ag}:Q f L O→Wq (.ok f L O) Q X
 |exc {Q:Flow→Locals→ag→Prop} {X:aX→ag→Prop} {e:aX} {L:Locals} {O:ag}:X e O→Wq (.exc e L O) Q X
inductive Ex {α:Type}:Option α→(α→Prop)→Prop where
 |mk {P:α→Prop} {v:α}:P v→Ex (some v) P
inductive pP:V→(Bool→Prop)→Prop where
 |mk {P:Bool→Prop} {b:Bool}:P b→pP (.bool b) P
inductive Br:Bool→Prop→Prop→Prop where
 |t {A B:Prop}:A→Br true A B
 |f {A B:Prop}:B→Br false A B
inductive bL (Q:V→ag→Prop):Flow→Locals→ag→Prop where
 |ret {v:V} {L:Locals} {O:ag}:Q v O→bL Q (.ret v) L O
 |next {L:Locals} {O:ag}:Q .none O→bL Q .next L O
inductive Nx (C:Calls) (fu:Nat) (ss:Ss) (Q:Flow→Locals→ag→Prop) (X:aX→ag→Prop):Flow→Locals→ag→Prop where
 |next {L:Locals} {O:ag}:Wq (ah C fu ss L O) Q X→Nx C fu ss Q X .next L O
 |ret {v:V} {L:Locals} {O:ag}:Q (.ret v) L O→Nx C fu ss Q X (.ret v) L O
 |brk {L:Locals} {O:ag}:Q .brk L O→Nx C fu ss Q X .brk L O
inductive Tu (x:V) (P:List V→Prop):Prop where
 |mk {vs:List V}:x= .tup vs→P vs→Tu x P
inductive Lp (C:Calls) (fu:Nat) (ss:Ss) (Q:Flow→Locals→ag→Prop) (X:aX→ag→Prop) (I:Locals→ag→Prop):Flow→Locals→ag→Prop where
 |next {L:Locals} {O:ag}:I L O→Lp C fu ss Q X I .next L O
 |brk {L:Locals} {O:ag}:Wq (ah C fu ss L O) Q X→Lp C fu ss Q X I .brk L O
 |ret {v:V} {L:Locals} {O:ag}:Q (.ret v) L O→Lp C fu ss Q X I (.ret v) L O
inductive Nm (M:Locals→ag→Prop):Flow→Locals→ag→Prop where
 |mk {L:Locals} {O:ag}:M L O→Nm M .next L O
inductive It (A:V→Prop) (B:Prop):Option V→Prop where
 |more {v:V}:A v→It A B (some v)
 |done:B→It A B Option.none
section
variable {α β:Type} {X:aX→ag→Prop} {C:Calls} {fu:Nat} {L:Locals} {O:ag}
theorem jm {Q:β→ag→Prop} {o:Out α} {k:α→ag→Out β} (h:Wp o (λv O=>Wp (k v O) Q X) X):Wp (o.bind k) Q X:=by
 cases h with
 |ok h=>exact h
 |exc h=>exact .exc h
theorem eB {Q:Flow→Locals→ag→Prop} {o:Out V} {k:V→ag→aU} (h:Wp o (λv O=>Wq (k v O) Q X) X):Wq (o.toS L k) Q X:=by
 cases h with
 |ok h=>exact h
 |exc h=>exact .exc h
theorem C8 {Q:Flow→Locals→ag→Prop} {o:aU} {k:Flow→Locals→ag→aU} (h:Wq o (λf L O=>Wq (k f L O) Q X) X):Wq (o.bind k) Q X:=by
 cases h with
 |ok h=>exact h
 |exc h=>exact .exc h
theorem Zn {Q Q':α→ag→Prop} {X':aX→ag→Prop} {o:Out α} (h:Wp o Q X) (hq:∀v O,Q v O→Q' v O) (hx:∀e O,X e O→X' e O):Wp o Q' X':=by
 cases h with
 |ok h=>exact .ok (hq _ _ h)
 |exc h=>exact .exc (hx _ _ h)
theorem dj {Q Q':α→ag→Prop} {o:Out α} (h:Wp o Q X) (hq:∀v O,Q v O→Q' v O):Wp o Q' X:=Zn h hq λ_ _ h=>h
theorem V9 {Q Q':Flow→Locals→ag→Prop} {X':aX→ag→Prop} {o:aU} (h:Wq o Q X) (hq:∀f L O,Q f L O→Q' f L O) (hx:∀e O,X e O→X' e O):Wq o Q' X':=by
 cases h with
 |ok h=>exact .ok (hq _ _ _ h)
 |exc h=>exact .exc (hx _ _ h)
theorem vU {Q Q':Flow→Locals→ag→Prop} {o:aU} (h:Wq o Q X) (hq:∀f L O,Q f L O→Q' f L O):Wq o Q' X:=V9 h hq λ_ _ h=>h
theorem H7 {o:Option α} {Q:α→ag→Prop} (h:Ex o λv=>Q v O):Wp (gj o O) Q X:=by
 cases h with
 |mk h=>exact .ok h
theorem aS {o:Out α} {v:α} {af:ag} {Q:α→ag→Prop} (e:o= .ok v af) (h:Q v af):Wp o Q X:=e▸ .ok h
theorem II {o:Out α} {v:α} {af:ag} (h:Wp o (λv' s'=>v'=v∧s'=af) (λ_ _=>False)):o= .ok v af:=by
 cases h with
 |ok h=>rw [h.1,h.2]
 |exc h=>exact h.elim
theorem bZ {o:Option α} {v:α} {P:α→Prop} (e:o=some v) (h:P v):Ex o P:=e▸ .mk h
theorem r6 {t:Bool} {A B:Prop} (h:t=true→A) (h2:t=false→B):Br t A B:=by cases t;exact .f (h2 rfl);exact .t (h rfl)
theorem Q6 {p:Prop} [d:Decidable p] {A B:Prop} (h:p→A) (h2:¬p→B):Br (decide p) A B:=r6 (λe=>h (ado e)) (λe=>h2 (adp e))
theorem Ug {v:V} {f:Bool→Out α} {Q:α→ag→Prop} {P:Bool→Prop} (h:pP v P) (hb:∀b,P b→Wp (f b) Q X):Wp (v.iB .stuck f) Q X:=by
 cases h with
 |mk h=>exact hb _ h
theorem GZ {v:V} {f:Bool→aU} {Q:Flow→Locals→ag→Prop} {P:Bool→Prop} (h:pP v P) (hb:∀b,P b→Wq (f b) Q X):Wq (v.iB .stuck f) Q X:=by
 cases h with
 |mk h=>exact hb _ h
theorem DD {o:Option α} {f:α→aU} {Q:Flow→Locals→ag→Prop} (h:Ex o λx=>Wq (f x) Q X):Wq (bK o .stuck f) Q X:=by
 cases h with
 |mk h=>exact h
end
section
variable {X:aX→ag→Prop} {C:Calls} {fu:Nat} {L:Locals} {O:ag} {Q:V→ag→Prop} {Qs:List V→ag→Prop} {a b c e lo hi:E} {es:Es}
theorem yL {k:V→V→ag→Option V} (h:Wp (ev C fu a L O) (λx O=>Wp (ev C fu b L O) (λy O=>Ex (k x y O) λv=>Q v O) X) X):Wp ((ev C fu a L O).bind λx O=>(ev C fu b L O).bind λy O=>gj (k x y O) O) Q X:=
 jm (dj h λ_ _ h=>jm (dj h λ_ _ h=>H7 h))
theorem Gh {op:BinOp} (h:Wp (ev C fu a L O) (λx O=>Wp (ev C fu b L O) (λy O=>Ex (eW op x y) λv=>Q v O) X) X):Wp (ev C fu (.bin op a b) L O) Q X:=yL (k:=λx y _=>eW op x y) h
theorem xA {op:mD} (h:Wp (ev C fu a L O) (λx O=>Wp (ev C fu b L O) (λy O=>Ex (ct op O x y) λv=>Q v O) X) X):Wp (ev C fu (.cmp op a b) L O) Q X:=yL (k:=λx y O=>ct op O x y) h
theorem lV (h:Wp (ev C fu a L O) (λx O=>Wp (ev C fu b L O) (λy O=>Ex (dh O x y) λv=>Q v O) X) X):Wp (ev C fu (.idx a b) L O) Q X:=yL (k:=λx y O=>dh O x y) h
theorem eE {f:Nat} (h:Wp (bw C fu es L O) (λvs O=>Wp (C f vs O) Q X) X):Wp (ev C fu (.call f es) L O) Q X:=jm h
theorem B0 {c:cj} (h:Wp (bw C fu es L O) (λvs O=>Wp (pW C c O vs) Q X) X):Wp (ev C fu (.new c es) L O) Q X:=jm h
theorem yq (h:Wp (bw C fu es L O) (λvs O=>Q (.tup vs) O) X):Wp (ev C fu (.tup es) L O) Q X:=jm (dj h λ_ _ h=> .ok h)
theorem NS (h:Wp (bw C fu es L O) (λvs O=>Q (.ref O.length) (O++[.list vs])) X):Wp (ev C fu (.list es) L O) Q X:=jm (dj h λ_ _ h=> .ok h)
theorem aaz (h:Wp (ev C fu c L O) (λx O=>pP x λt=>Br t (Wp (ev C fu a L O) Q X) (Wp (ev C fu b L O) Q X)) X):Wp (ev C fu (.ite c a b) L O) Q X:=
 jm (dj h λv O h=>Ug h λt h=>by
  cases h with
  |t h=>exact h
  |f h=>exact h)
theorem mJ (h:Qs [] O):Wp (bw C fu .nil L O) Qs X:= .ok h
theorem hV (h:Wp (ev C fu e L O) (λv O=>Wp (bw C fu es L O) (λvs O=>Qs (v::vs) O) X) X):Wp (bw C fu (.cons e es) L O) Qs X:=jm (dj h λ_ _ h=>jm (dj h λ_ _ h=> .ok h))
theorem Sb {m f n:Nat} {c:cj} {xs:List (Nat×V)} (h:Wp (ev C fu a L O) (λx O=>x= .ref n∧O[n]?=some (.inst c xs)∧Wp (bw C fu es L O) (λvs O=>Wp (C f (.ref n::vs) O) Q X) X) X) (hf:gk c m=some f):Wp (ev C fu (.own a m es) L O) Q X:=
 jm (dj h λx O h=>by
  obtain ⟨rfl,g,h⟩:=h
  show Wp (bK (gX O n Option.none λc=>c.lg Option.none λc _=>some c) .stuck λc=>bK (gk c m) .stuck λf=>(bw C fu es L O).bind λvs O=>C f (.ref n::vs) O) Q X
  unfold gX;rw [g]
  show Wp (bK (gk c m) .stuck λf=>(bw C fu es L O).bind λvs O=>C f (.ref n::vs) O) Q X
  rw [hf]
  exact jm h)
end
section
variable {X:aX→ag→Prop} {C:Calls} {fu:Nat} {L:Locals} {O:ag} {Q:Flow→Locals→ag→Prop} {e o i:E} {a b ss:Ss}
theorem bx (h:Q .next L O):Wq (ah C fu .nil L O) Q X:= .ok h
theorem fc {s:S} (h:Wq (ex C fu s L O) (Nx C fu ss Q X) X):Wq (ah C fu (.cons s ss) L O) Q X:=C8 (vU h λf L O h=>by
 cases h with
 |next h=>exact h
 |ret h=>exact .ok h
 |brk h=>exact .ok h)
theorem G0 {s:S}:ah C fu (.cons s .nil) L O=ex C fu s L O:=by
 show (ex C fu s L O).bind _=_
 cases ex C fu s L O with
 |stuck=>rfl
 |exc e L O=>rfl
 |ok f L O=>cases f<;>rfl
theorem acy {s:S} (M:Locals→ag→Prop) (h1:Wq (ah C fu (.cons s .nil) L O) (Nm M) X) (h2:∀L O,M L O→Wq (ah C fu ss L O) Q X):Wq (ah C fu (.cons s ss) L O) Q X:=
 fc (vU (G0▸h1) λf L O h=>by
  cases h with
  |mk h=>exact .next (h2 _ _ h))
theorem oa (h:Wp (ev C fu e L O) (λ_ O=>Wq (ah C fu ss L O) Q X) X):Wq (ah C fu (.cons (.expr e) ss) L O) Q X:=fc (eB (dj h λ_ _ h=> .ok (.next h)))
theorem e7 {n:Nat} (h:Wp (ev C fu e L O) (λv O=>Wq (ah C fu ss (L.put n v) O) Q X) X):Wq (ah C fu (.cons (.aA n e) ss) L O) Q X:=fc (eB (dj h λ_ _ h=> .ok (.next h)))
theorem ZR {n:Nat} (h:Wp (ev C fu e L O) (λv O=>Wq (ah C fu ss (L.put n v) O) Q X) X):Wq (ah C fu (.cons (.mC n e) ss) L O) Q X:=fc (eB (dj h λ_ _ h=> .ok (.next h)))
theorem uF (h:Wp (ev C fu e L O) (λv O=>Q (.ret v) L O) X):Wq (ah C fu (.cons (.ret e) ss) L O) Q X:=fc (eB (dj h λ_ _ h=> .ok (.ret h)))
theorem tK (h:Q (.ret .none) L O):Wq (ah C fu (.cons .lQ ss) L O) Q X:=fc (.ok (.ret h))
theorem vv (h:Q .brk L O):Wq (ah C fu (.cons .brk ss) L O) Q X:=fc (.ok (.brk h))
theorem mL (h:Wp (ev C fu e L O) (λv O=>pP v λt=>Br t (Wq (ah C fu a L O) (Nx C fu ss Q X) X) (Wq (ah C fu b L O) (Nx C fu ss Q X) X)) X):Wq (ah C fu (.cons (.ite e a b) ss) L O) Q X:=
 fc (eB (dj h λv O h=>GZ h λt h=>by
  cases h with
  |t h=>exact h
  |f h=>exact h))
theorem MG {f:Nat} (h:Wp (ev C fu e L O) (λv O=>Wp (ev C fu o L O) (λx O=>Ex (qU O x f v) λO=>Wq (ah C fu ss L O) Q X) X) X):Wq (ah C fu (.cons (.setAttr o f e) ss) L O) Q X:=
 fc (eB (dj h λv O h=>eB (dj h λx O h=>by
  generalize qU O x f v=o at h ⊢
  cases h with
  |mk h=>exact .ok (.next h))))
theorem Lo (h:Wp (ev C fu e L O) (λv O=>Wp (ev C fu o L O) (λx O=>Wp (ev C fu i L O) (λy O=>Ex (jU O x y v) λO=>Wq (ah C fu ss L O) Q X) X) X) X):Wq (ah C fu (.cons (.eH o i e) ss) L O) Q X:=
 fc (eB (dj h λv O h=>eB (dj h λx O h=>eB (dj h λy O h=>by
  generalize jU O x y v=o at h ⊢
  cases h with
  |mk h=>exact .ok (.next h)))))
theorem pB {is:List Nat} (h:Wp (ev C fu e L O) (λv O=>Tu v λvs=>Ex (putAll L is vs) λL'=>Wq (ah C fu ss L' O) Q X) X):Wq (ah C fu (.cons (.unpack is e) ss) L O) Q X:=
 fc (eB (dj h λv O h=>by
  obtain ⟨rfl,h⟩:=h
  exact DD (by
   generalize putAll L is _=o at h ⊢
   cases h with
   |mk h=>exact .mk (.ok (.next h)))))
theorem zd {n:Nat} {x:V} {op:BinOp} (hx:L.get n=some x) (h:Wp (ev C fu e L O) (λy O=>Wp (jf op O x y) (λz O=>Wq (ah C fu ss (L.put n z) O) Q X) X) X):Wq (ah C fu (.cons (.gF n op e) ss) L O) Q X:=
 fc (DD (bZ hx (eB (dj h λv O h=>eB (dj h λ_ _ h=> .ok (.next h))))))
theorem D1 {op:BinOp} (h:Wp (ev C fu o L O) (λx O=>Wp (ev C fu i L O) (λy O=>Ex (dh O x y) λold=>Wp (ev C fu e L O) (λv O=>Wp (jf op O old v) (λz O=>Ex (jU O x y z) λO=>Wq (ah C fu ss L O) Q X) X) X) X) X):Wq (ah C fu (.cons (.gY o i op e) ss) L O) Q X:=
 fc (eB (dj h λx O h=>eB (dj h λy O h=>eB (H7 (by
  generalize dh O x y=o0 at h ⊢
  cases h with
  |mk h=>
   exact .mk (eB (dj h λv O h=>eB (dj h λz O h=>by
    generalize jU O x y z=o at h ⊢
    cases h with
    |mk h=>exact .ok (.next h)))))))))
theorem aaJ (h:Wp (ev C fu o L O) (λx O=>Wp (ev C fu i L O) (λy O=>Ex (rE O x y) λO=>Wq (ah C fu ss L O) Q X) X) X):Wq (ah C fu (.cons (.lb o i) ss) L O) Q X:=
 fc (eB (dj h λv O h=>eB (dj h λx O h=>by
  generalize rE O v x=o at h ⊢
  cases h with
  |mk h=>exact .ok (.next h))))
theorem AI {es:Es} (h:Wp (bw C fu es L O) (λvs O=>Ex (oW vs) λe=>X e O) X):Wq (ah C fu (.cons (.raise es) ss) L O) Q X:=fc (by
 show Wq (qw (bw C fu es L O) L) _ X
 generalize bw C fu es L O=o at h ⊢
 cases h with
 |exc h=>exact .exc h
 |@ok _ _ vs af h=>exact DD (by
   generalize oW vs=o at h ⊢
   cases h with
   |mk h=>exact .mk (.exc h)))
theorem HW {c:E} (I:Nat→Locals→ag→Prop) (step:∀m L O,I m L O→Wp (ev C fu c L O) (λv af=>pP v λt=>Br t (Wq (ah C fu b L af) (Lp C fu ss Q X λL O=>∃m',m'<m∧I m' L O) X) (Wq (ah C fu ss L af) Q X)) X):
  ∀f m L O,I m L O→m<f→Wq (km (ev C fu c) (ah C fu b) f L O) (Nx C fu ss Q X) X
 |0,m,L,O,_,h=>absurd h (Nat.not_lt_zero _)
 |f+1,m,L,O,hI,h=>eB (dj (step m L O hI) λv af h1=>GZ h1 λt h1=>by
  cases h1 with
  |f h1=>exact .ok (.next h1)
  |t h1=>exact C8 (vU h1 λf' L' io h2=>by
    cases h2 with
    |brk h2=>exact .ok (.next h2)
    |ret h2=>exact .ok (.ret h2)
    |next h2=>
     obtain ⟨m',hm,Ql⟩:=h2
     exact HW I step f m' L' io Ql (adl hm (Nat.le_of_lt_succ h))))
theorem Pp {c:E} {m:Nat} (I:Nat→Locals→ag→Prop) (hI:I m L O) (hm:m<fu) (step:∀m L O (K:Locals→ag→Prop),(∀m' L O,m'<m→I m' L O→K L O)→I m L O→Wp (ev C fu c L O) (λv af=>pP v λt=>Br t (Wq (ah C fu b L af) (Lp C fu ss Q X K) X) (Wq (ah C fu ss L af) Q X)) X):
  Wq (ah C fu (.cons (.dD c b) ss) L O) Q X:=
 fc (HW I (λm L O h=>step m L O (λL O=>∃m',m'<m∧I m' L O) (λm' L O h1 h2=>⟨m',h1,h2⟩) h) fu m L O hI hm)
theorem aax {c:E} {L':Locals} {af:ag} (e:km (ev C fu c) (ah C fu b) fu L O= .ok .next L' af) (h:Wq (ah C fu ss L' af) Q X):Wq (ah C fu (.cons (.dD c b) ss) L O) Q X:=
 fc (by show Wq (km (ev C fu c) (ah C fu b) fu L O) _ _;rw [e];exact .ok (.next h))
theorem xN {item:Nat→ag→Option (Option V)} {x:Nat} (I:Nat→Locals→ag→Prop) (N:Nat) (step:∀k L O,I k L O→k≤N∧Ex (item k O) λo=>It (λv=>k<N∧Wq (ah C fu b (L.put x v) O) (Lp C fu ss Q X (I (k+1))) X) (Wq (ah C fu ss L O) Q X) o):
  ∀f k L O,I k L O→N<f+k→Wq (jd item x (ah C fu b) f k L O) (Nx C fu ss Q X) X
 |0,k,L,O,hI,h=>absurd (adl h (adt (Nat.zero_add k))) (Nat.not_lt.2 (step k L O hI).1)
 |f+1,k,L,O,hI,h=>by
  show Wq (bK (item k O) .stuck λo=>bK o (.ok .next L O) λv=>(ah C fu b (L.put x v) O).bind λf' L O=>f'.turn L O (jd item x (ah C fu b) f (k+1) L O)) _ _
  obtain ⟨hk,h1⟩:=step k L O hI
  generalize item k O=o at h1 ⊢
  cases h1 with
  |mk h1=>cases h1 with
   |done h1=>exact .ok (.next h1)
   |more h1=>exact C8 (vU h1.2 λf' L' io h2=>by
     cases h2 with
     |brk h2=>exact .ok (.next h2)
     |ret h2=>exact .ok (.ret h2)
     |next h2=>exact xN I N step f (k+1) L' io h2 (by rw [Nat.add_comm k, ←Nat.add_assoc];exact h))
theorem qo {x:Nat} (N:Nat) (I:Nat→Locals→ag→Prop) (hN:N<fu)
    (h:Wp (ev C fu e L O) (λv O=>∃n,v= .ref n∧I 0 L O∧∀k L O (K:Locals→ag→Prop),(∀L O,I (k+1) L O→K L O)→I k L O→k≤N∧Ex (kx n k O) λo=>It (λv=>k<N∧Wq (ah C fu b (L.put x v) O) (Lp C fu ss Q X K) X) (Wq (ah C fu ss L O) Q X) o) X):Wq (ah C fu (.cons (.forL x e b) ss) L O) Q X:=
 fc (eB (dj h λv O h=>by
  obtain ⟨n,rfl,h1,h2⟩:=h
  exact xN I N (λk L O h=>h2 k L O _ (λ_ _ h=>h) h) fu 0 L O h1 hN))
theorem Kv {k:Int} {f:Int→aU} (h:Wq (f k) Q X):Wq ((V.int k).cE .stuck f) Q X:=h
theorem yZ {N:Nat} (h:(N:Int)<2147483648):smallInt (N:Int)=true:=by
 unfold smallInt
 rw [Bool.and_eq_true,decide_eq_true_eq,decide_eq_true_eq]
 exact ⟨Int.lt_of_lt_of_le (by decide) (Int.natCast_nonneg N),h⟩
theorem Dn {k N:Nat} (h:k<N):gv (N:Int) k O=some (some (.int (k:Int))):=congrArg some (if_pos (Int.ofNat_lt.2 h))
theorem Ag {N:Nat}:gv (N:Int) N O=some Option.none:=congrArg some (if_neg (Int.lt_irrefl _))
theorem wV {x:Nat} (N:Nat) (I:Nat→Locals→ag→Prop) (hN:N<fu) (UN:(N:Int)<2147483648)
    (h:Wp (ev C fu e L O) (λv O=>v= .int (N:Int)∧I 0 L O) X)
    (step:∀k L O (K:Locals→ag→Prop),k<N→(∀L O,I (k+1) L O→K L O)→I k L O→Wq (ah C fu b (L.put x (.int (k:Int))) O) (Lp C fu ss Q X K) X) (fin:∀L O,I N L O→Wq (ah C fu ss L O) Q X):
  Wq (ah C fu (.cons (.forR x e b) ss) L O) Q X:=
 fc (eB (dj h λv O h=>by
  obtain ⟨rfl,h1⟩:=h
  refine Kv ?_
  rw [if_pos (yZ UN)]
  refine xN (λk L O=>k≤N∧I k L O) N (λk L O hI=>⟨hI.1,?_⟩) fu 0 L O ⟨ads _,h1⟩ hN
  exact (Nat.lt_or_eq_of_le hI.1).elim (λhk=>bZ (Dn hk) (.more ⟨hk,step k L O _ hk (λL O h=>⟨hk,h⟩) hI.2⟩)) λhk=>by
   subst hk;exact bZ Ag (.done (fin L O hI.2))))
theorem TS {n f:Nat} {vs:List V} {F:Fn} {Q:V→ag→Prop} (h:aw[f]?=some F) (h1:vs.length=F.np) (h2:F.np≤F.nl)
    (H:Wq (ah (ay aw fu n) fu F.body (vs.map some++List.replicate (F.nl-F.np) Option.none) O) (bL Q) X):Wp (ay aw fu (n+1) f vs O) Q X:=by
 rw [qx h h1 h2]
 generalize ah (ay aw fu n) fu F.body (vs.map some++List.replicate (F.nl-F.np) Option.none) O=o at H ⊢
 cases H with
 |exc h=>exact .exc h
 |ok h=>cases h with
  |ret h=>exact .ok h
  |next h=>exact .ok h
end
section
variable {C:Calls} {fu:Nat} {L:Locals} {O ae az cN eR:ag} {a b c e lo hi:E} {es:Es} {v x y z:V} {vs:List V}
theorem acX:ev C fu .none L O= .ok .none O:=rfl
theorem acJ {b:Bool}:ev C fu (.bool b) L O= .ok (.bool b) O:=rfl
theorem Mh {i:Int}:ev C fu (.int i) L O= .ok (.int i) O:=rfl
theorem ab6 {s:List Nat}:ev C fu (.str s) L O= .ok (.str s) O:=rfl
theorem adj {k:Nat}:ev C fu (.jS k) L O= .ok (.int (uW k)) O:=rfl
theorem dI {i:Nat} (h:L.get i=some v):ev C fu (.loc i) L O= .ok v O:=nN h
theorem bG {op:BinOp} (h1:ev C fu a L O= .ok x ae) (h2:ev C fu b L ae= .ok y az) (h3:eW op x y=some v):ev C fu (.bin op a b) L O= .ok v az:=cY h1 (cY h2 (nN h3))
theorem aO {op:mD} (h1:ev C fu a L O= .ok x ae) (h2:ev C fu b L ae= .ok y az) (h3:ct op az x y=some v):ev C fu (.cmp op a b) L O= .ok v az:=cY h1 (cY h2 (nN h3))
theorem bj (h1:ev C fu a L O= .ok x ae) (h2:ev C fu b L ae= .ok y az) (h3:dh az x y=some v):ev C fu (.idx a b) L O= .ok v az:=cY h1 (cY h2 (nN h3))
theorem cH {f:Nat} (h1:ev C fu a L O= .ok x ae) (h3:wW ae x f=some v):ev C fu (.attr a f) L O= .ok v ae:=cY h1 (nN h3)
theorem eZ {hl hh:Bool} (h1:ev C fu a L O= .ok x ae) (h2:ev C fu lo L ae= .ok y az) (h3:ev C fu hi L az= .ok z cN) (h4:jx cN x y z hl hh= .ok v eR):ev C fu (.slice a lo hi hl hh) L O= .ok v eR:=cY h1 (cY h2 (cY h3 h4))
theorem eg {f:Nat} (h1:bw C fu es L O= .ok vs ae) (h2:C f vs ae= .ok v az):ev C fu (.call f es) L O= .ok v az:=cY h1 h2
theorem N5 {c:cj} (h1:bw C fu es L O= .ok vs ae) (h2:pW C c ae vs= .ok v az):ev C fu (.new c es) L O= .ok v az:=cY h1 h2
theorem fq {b:Bi} (h1:bw C fu es L O= .ok vs ae) (h2:mI b ae vs= .ok v az):ev C fu (.bi b es) L O= .ok v az:=cY h1 h2
theorem og (h1:bw C fu es L O= .ok vs ae):ev C fu (.tup es) L O= .ok (.tup vs) ae:=cY h1 rfl
theorem CL (h1:bw C fu es L O= .ok vs ae):ev C fu (.list es) L O= .ok (.ref ae.length) (ae++[.list vs]):=cY h1 rfl
theorem Cb {ks:List (List Nat)} (h1:bw C fu es L O= .ok vs ae) (h2:vs.length=ks.length∧ks.Nodup):ev C fu (.dict ks es) L O= .ok (.ref ae.length) (ae++[.dict (ks.zip vs)]):=cY h1 (if_pos h2)
theorem ro {b:Bool} (h1:ev C fu a L O= .ok (.bool b) ae):ev C fu (.not a) L O= .ok (.bool (!b)) ae:=cY h1 rfl
theorem abQ {i:Int} (h1:ev C fu a L O= .ok (.int i) ae):ev C fu (.neg a) L O= .ok (.int (-i)) ae:=cY h1 rfl
theorem pL {t:Bool} (h1:ev C fu c L O= .ok (.bool t) ae) (h2:t=true→ev C fu a L ae= .ok v az) (h3:t=false→ev C fu b L ae= .ok v az):ev C fu (.ite c a b) L O= .ok v az:=cY h1 (match t,h2,h3 with
 |true,h2,_=>h2 rfl
 |false,_,h3=>h3 rfl)
theorem AW:bw C fu .nil L O= .ok [] O:=rfl
theorem aJ (h1:ev C fu e L O= .ok v ae) (h2:bw C fu es L ae= .ok vs az):bw C fu (.cons e es) L O= .ok (v::vs) az:=cY h1 (cY h2 rfl)
theorem ace {t p:Bool} (h1:ev C fu e L O= .ok (.bool p) ae):ea C fu t (.cons e .nil) L O= .ok (.bool p) ae:=cY h1 rfl
theorem fN {p:Bool} (h1:ev C fu e L O= .ok (.bool p) ae):ea C fu true (.cons e .nil) L O= .ok (.bool p) ae:=cY h1 rfl
theorem jT {p:Bool} (h1:ev C fu e L O= .ok (.bool p) ae):ea C fu false (.cons e .nil) L O= .ok (.bool p) ae:=cY h1 rfl
theorem zq {e2:E} {p q:Bool} (h1:ev C fu e L O= .ok (.bool p) ae) (h2:p=true→ea C fu true (.cons e2 es) L ae= .ok (.bool q) ae):ea C fu true (.cons e (.cons e2 es)) L O= .ok (.bool (p&&q)) ae:=cY h1 (match p,h2 with
 |true,h2=>h2 rfl
 |false,_=>rfl)
theorem QQ {e2:E} {p q:Bool} (h1:ev C fu e L O= .ok (.bool p) O) (h2:p=false→ea C fu false (.cons e2 es) L O= .ok (.bool q) O):ea C fu false (.cons e (.cons e2 es)) L O= .ok (.bool (p||q)) O:=cY h1 (match p,h2 with
 |false,h2=>h2 rfl
 |true,_=>rfl)
theorem fC {e2:E} {p q:Bool} (h1:ev C fu e L O= .ok (.bool p) ae) (h2:ea C fu true (.cons e2 es) L ae= .ok (.bool q) ae):ea C fu true (.cons e (.cons e2 es)) L O= .ok (.bool (p&&q)) ae:=zq h1 λ_=>h2
theorem jL {e2:E} {p q:Bool} (h1:ev C fu e L O= .ok (.bool p) O) (h2:ea C fu false (.cons e2 es) L O= .ok (.bool q) O):ea C fu false (.cons e (.cons e2 es)) L O= .ok (.bool (p||q)) O:=QQ h1 λ_=>h2
theorem ku (h:ea C fu true es L O= .ok v ae):ev C fu (.and es) L O= .ok v ae:=h
theorem oN (h:ea C fu false es L O= .ok v ae):ev C fu (.or es) L O= .ok v ae:=h
theorem g6 {α:Type} {n:Nat} {xs:List V} {d:α} {f:List V→α} (g:O[n]?=some (.list xs)):eX O n d f=f xs:=by unfold eX gX;rw [g];rfl
theorem rm {α:Type} {n:Nat} {xs:List (List Nat×V)} {d:α} {f:List (List Nat×V)→α} (g:O[n]?=some (.dict xs)):jo O n d f=f xs:=by unfold jo gX;rw [g];rfl
theorem CJ {α:Type} {n:Nat} {c:cj} {xs:List (Nat×V)} {d:α} {f:cj→List (Nat×V)→α} (g:O[n]?=some (.inst c xs)):lg O n d f=f c xs:=by unfold lg gX;rw [g];rfl
theorem D0 {m:Bm} (h1:ev C fu a L O= .ok x ae) (hk:pV m.kd ae x=true) (h2:bw C fu es L ae= .ok vs az) (h3:fM m az x vs= .ok v cN):ev C fu (.bt m a es) L O= .ok v cN:=cY h1 ((if_pos hk).trans (cY h2 h3))
theorem jz {m:Bm} {s:List Nat} (h1:ev C fu a L O= .ok (.str s) ae) (hm:m.kd= .s) (h2:bw C fu es L ae= .ok vs az) (h3:fM m az (.str s) vs= .ok v cN):ev C fu (.bt m a es) L O= .ok v cN:=D0 h1 (by rw [hm];rfl) h2 h3
theorem iw {m:Bm} {n:Nat} {xs:List V} (h1:ev C fu a L O= .ok (.ref n) ae) (g:ae[n]?=some (.list xs)) (hm:m.kd= .l) (h2:bw C fu es L ae= .ok vs az) (h3:fM m az (.ref n) vs= .ok v cN):ev C fu (.bt m a es) L O= .ok v cN:=D0 h1 (by rw [hm];exact g6 g) h2 h3
theorem abt {m:Bm} {n:Nat} {xs:List (List Nat×V)} (h1:ev C fu a L O= .ok (.ref n) ae) (g:ae[n]?=some (.dict xs)) (hm:m.kd= .d) (h2:bw C fu es L ae= .ok vs az) (h3:fM m az (.ref n) vs= .ok v cN):ev C fu (.bt m a es) L O= .ok v cN:=D0 h1 (by rw [hm];exact rm g) h2 h3
theorem ac8 {m n f:Nat} {c:cj} {xs:List (Nat×V)} (h1:ev C fu a L O= .ok (.ref n) ae) (g:ae[n]?=some (.inst c xs)) (hf:gk c m=some f) (h2:bw C fu es L ae= .ok vs az) (h3:C f (.ref n::vs) az= .ok v cN):ev C fu (.own a m es) L O= .ok v cN:=
 cY h1 (kH (CJ g) (kH hf (cY h2 h3)))
theorem HG {c d:Nat} {s:List Nat} (h1:ev C fu a L O= .ok (.str s) ae) (hl:s.length≤8000000):ev C fu (.j4 a c d) L O= .ok (.str (s.map λx=>if x=c then d else x)) ae:=cY h1 (if_pos hl)
end
section
variable {X:aX→ag→Prop} {C:Calls} {fu:Nat} {L:Locals} {O ae az cN:ag} {Q:Flow→Locals→ag→Prop} {e o i:E} {a b ss:Ss} {es:Es} {v x y z:V} {vs:List V}
theorem dR (h:ev C fu e L O= .ok v ae) (k:Wq (ah C fu ss L ae) Q X):Wq (ah C fu (.cons (.expr e) ss) L O) Q X:=oa (aS h k)
theorem dp (h:ev C fu e L O= .ok v ae) (k:Q (.ret v) L ae):Wq (ah C fu (.cons (.ret e) ss) L O) Q X:=uF (aS h k)
theorem fB {t:Bool} (h:ev C fu e L O= .ok (.bool t) ae) (k1:t=true→Wq (ah C fu a L ae) (Nx C fu ss Q X) X) (k2:t=false→Wq (ah C fu b L ae) (Nx C fu ss Q X) X):Wq (ah C fu (.cons (.ite e a b) ss) L O) Q X:=
 mL (aS h (.mk (r6 k1 k2)))
theorem eQ {p:Prop} [Decidable p] (h:ev C fu e L O= .ok (.bool (decide p)) ae) (k1:p→Wq (ah C fu a L ae) (Nx C fu ss Q X) X) (k2:¬p→Wq (ah C fu b L ae) (Nx C fu ss Q X) X):Wq (ah C fu (.cons (.ite e a b) ss) L O) Q X:=
 mL (aS h (.mk (Q6 k1 k2)))
theorem cO (h:ev C fu e L O= .ok (.bool true) ae) (k:Wq (ah C fu a L ae) (Nx C fu ss Q X) X):Wq (ah C fu (.cons (.ite e a b) ss) L O) Q X:=mL (aS h (.mk (.t k)))
theorem fz (h:ev C fu e L O= .ok (.bool false) ae) (k:Wq (ah C fu b L ae) (Nx C fu ss Q X) X):Wq (ah C fu (.cons (.ite e a b) ss) L O) Q X:=mL (aS h (.mk (.f k)))
theorem cg (h:ev C fu e L O= .ok (.bool false) ae) (k:Wq (ah C fu ss L ae) Q X):Wq (ah C fu (.cons (.ite e a .nil) ss) L O) Q X:=fz h (bx (.next k))
theorem jj {f:Nat} {eR:ag} (h:ev C fu e L O= .ok v ae) (h2:ev C fu o L ae= .ok x az) (h3:qU az x f v=some eR) (k:Wq (ah C fu ss L eR) Q X):Wq (ah C fu (.cons (.setAttr o f e) ss) L O) Q X:=
 MG (aS h (aS h2 (bZ h3 k)))
theorem oM {eR:ag} (h:ev C fu e L O= .ok v ae) (h2:ev C fu o L ae= .ok x az) (h3:ev C fu i L az= .ok y cN) (h4:jU cN x y v=some eR) (k:Wq (ah C fu ss L eR) Q X):Wq (ah C fu (.cons (.eH o i e) ss) L O) Q X:=
 Lo (aS h (aS h2 (aS h3 (bZ h4 k))))
theorem ww {is:List Nat} {L':Locals} (h:ev C fu e L O= .ok (.tup vs) ae) (h2:putAll L is vs=some L') (k:Wq (ah C fu ss L' ae) Q X):Wq (ah C fu (.cons (.unpack is e) ss) L O) Q X:=
 pB (aS h ⟨rfl,bZ h2 k⟩)
theorem kg {x:aX} (h:bw C fu es L O= .ok vs ae) (h2:oW vs=some x) (k:X x ae):Wq (ah C fu (.cons (.raise es) ss) L O) Q X:=AI (aS h (bZ h2 k))
theorem XW {eR:ag} (h2:ev C fu o L O= .ok x az) (h3:ev C fu i L az= .ok y cN) (h4:rE cN x y=some eR) (k:Wq (ah C fu ss L eR) Q X):Wq (ah C fu (.cons (.lb o i) ss) L O) Q X:=
 aaJ (aS h2 (aS h3 (bZ h4 k)))
theorem AO {op:BinOp} {old w:V} {eR lU AX:ag} (h:ev C fu o L O= .ok x ae) (h2:ev C fu i L ae= .ok y az) (h3:dh az x y=some old) (h4:ev C fu e L az= .ok v eR) (h5:jf op eR old v= .ok w lU) (h6:jU lU x y w=some AX) (k:Wq (ah C fu ss L AX) Q X):Wq (ah C fu (.cons (.gY o i op e) ss) L O) Q X:=
 D1 (aS h (aS h2 (bZ h3 (aS h4 (aS h5 (bZ h6 k))))))
theorem xw {n:Nat} {op:BinOp} {L':Locals} (hx:L.get n=some x) (h:ev C fu e L O= .ok y ae) (h2:jf op ae x y= .ok z az) (hL:L.put n z=L') (k:Wq (ah C fu ss L' az) Q X):Wq (ah C fu (.cons (.gF n op e) ss) L O) Q X:=
 zd hx (aS h (aS h2 (by rw [hL];exact k)))
theorem kI {f:Nat} (h:bw C fu es L O= .ok vs ae) (k:Wp (C f vs ae) (λv O=>Wq (ah C fu ss L O) Q X) X):Wq (ah C fu (.cons (.expr (.call f es)) ss) L O) Q X:=oa (eE (aS h k))
theorem oy {f n:Nat} (h:bw C fu es L O= .ok vs ae) (k:Wp (C f vs ae) (λv O=>Wq (ah C fu ss (L.put n v) O) Q X) X):Wq (ah C fu (.cons (.aA n (.call f es)) ss) L O) Q X:=e7 (eE (aS h k))
theorem zE {f:Nat} {is:List Nat} (h:bw C fu es L O= .ok vs ae) (k:Wp (C f vs ae) (λv O=>Tu v λvs=>Ex (putAll L is vs) λL'=>Wq (ah C fu ss L' O) Q X) X):Wq (ah C fu (.cons (.unpack is (.call f es)) ss) L O) Q X:=pB (eE (aS h k))
theorem rV {m n f:Nat} {c:cj} {xs:List (Nat×V)} {Q:V→ag→Prop} {a:E} (h1:ev C fu a L O= .ok (.ref n) ae) (g:ae[n]?=some (.inst c xs)) (hf:gk c m=some f) (h2:bw C fu es L ae= .ok vs az) (k:Wp (C f (.ref n::vs) az) Q X):Wp (ev C fu (.own a m es) L O) Q X:=
 Sb (aS h1 ⟨rfl,g,aS h2 k⟩) hf
theorem sS {m n f:Nat} {c:cj} {xs:List (Nat×V)} {a:E} (h1:ev C fu a L O= .ok (.ref n) ae) (g:ae[n]?=some (.inst c xs)) (hf:gk c m=some f) (h2:bw C fu es L ae= .ok vs az) (k:Wp (C f (.ref n::vs) az) (λv O=>Wq (ah C fu ss L O) Q X) X):Wq (ah C fu (.cons (.expr (.own a m es)) ss) L O) Q X:=oa (rV h1 g hf h2 k)
theorem JG {m n f i:Nat} {c:cj} {xs:List (Nat×V)} {a:E} (h1:ev C fu a L O= .ok (.ref n) ae) (g:ae[n]?=some (.inst c xs)) (hf:gk c m=some f) (h2:bw C fu es L ae= .ok vs az) (k:Wp (C f (.ref n::vs) az) (λv O=>Wq (ah C fu ss (L.put i v) O) Q X) X):Wq (ah C fu (.cons (.aA i (.own a m es)) ss) L O) Q X:=e7 (rV h1 g hf h2 k)
theorem pI {m n f:Nat} {is:List Nat} {c:cj} {xs:List (Nat×V)} {a:E} (h1:ev C fu a L O= .ok (.ref n) ae) (g:ae[n]?=some (.inst c xs)) (hf:gk c m=some f) (h2:bw C fu es L ae= .ok vs az) (k:Wp (C f (.ref n::vs) az) (λv O=>Tu v λvs=>Ex (putAll L is vs) λL'=>Wq (ah C fu ss L' O) Q X) X):Wq (ah C fu (.cons (.unpack is (.own a m es)) ss) L O) Q X:=pB (rV h1 g hf h2 k)
theorem Gp {m n f:Nat} {c:cj} {xs:List (Nat×V)} {a:E} (h1:ev C fu a L O= .ok (.ref n) ae) (g:ae[n]?=some (.inst c xs)) (hf:gk c m=some f) (h2:bw C fu es L ae= .ok vs az) (k:Wp (C f (.ref n::vs) az) (λv O=>Q (.ret v) L O) X):Wq (ah C fu (.cons (.ret (.own a m es)) ss) L O) Q X:=uF (rV h1 g hf h2 k)
theorem qz {c:E} {m:Nat} (I:Nat→Locals→ag→Prop) (hI:I m L O) (hm:m<fu) (step:∀m L O (K:Locals→ag→Prop),(∀m' L O,m'<m→I m' L O→K L O)→I m L O→
   ∃t,ev C fu c L O= .ok (.bool t) O∧(t=true→Wq (ah C fu b L O) (Lp C fu ss Q X K) X)∧(t=false→Wq (ah C fu ss L O) Q X)):
  Wq (ah C fu (.cons (.dD c b) ss) L O) Q X:=
 Pp I hI hm λm L O K hK hi=>by
  obtain ⟨t,h1,h2,h3⟩:=step m L O K hK hi
  exact aS h1 (.mk (r6 h2 h3))
theorem aV {n:Nat} (h:ev C fu e L O= .ok v ae) (k:Wq (ah C fu ss (L.put n v) ae) Q X):Wq (ah C fu (.cons (.aA n e) ss) L O) Q X:=e7 (aS h k)
theorem L9 {p q:Prop} [Decidable p] [Decidable q] {c d:E} (h1:ev C fu c L O= .ok (.bool (decide p)) O) (h2:ev C fu d L O= .ok (.bool (decide q)) O) (k1:p∨q→Wq (ah C fu a L O) (Nx C fu ss Q X) X) (k2:¬(p∨q)→Wq (ah C fu b L O) (Nx C fu ss Q X) X):Wq (ah C fu (.cons (.ite (.or (.cons c (.cons d .nil))) a b) ss) L O) Q X:=
 eQ ((jL h1 (jT h2)).trans (congrArg (λb=>Out.ok (V.bool b) O) (by rw [Bool.eq_iff_iff,Bool.or_eq_true,decide_eq_true_eq,decide_eq_true_eq,decide_eq_true_eq]))) k1 k2
theorem abn {p q:Prop} [Decidable p] [Decidable q] {c d:E} (h1:ev C fu c L O= .ok (.bool (decide p)) O) (h2:ev C fu d L O= .ok (.bool (decide q)) O) (k1:p∧q→Wq (ah C fu a L O) (Nx C fu ss Q X) X) (k2:¬(p∧q)→Wq (ah C fu b L O) (Nx C fu ss Q X) X):Wq (ah C fu (.cons (.ite (.and (.cons c (.cons d .nil))) a b) ss) L O) Q X:=
 eQ ((fC h1 (fN h2)).trans (congrArg (λb=>Out.ok (V.bool b) O) (by rw [Bool.eq_iff_iff,Bool.and_eq_true,decide_eq_true_eq,decide_eq_true_eq,decide_eq_true_eq]))) k1 k2
theorem n1 (h:Wq (ah C fu ss L O) Q X):Wq (ah C fu .nil L O) (Nx C fu ss Q X) X:=bx (.next h)
theorem n2 (h:Wq (ah C fu ss L O) Q X):Wq (ah C fu .nil L O) (Nx C fu .nil (Nx C fu ss Q X) X) X:=n1 (n1 h)
theorem n3 (h:Wq (ah C fu ss L O) Q X):Wq (ah C fu .nil L O) (Nx C fu .nil (Nx C fu .nil (Nx C fu ss Q X) X) X) X:=n1 (n2 h)
theorem uz {K:Locals→ag→Prop} (h:K L O):Wq (ah C fu .nil L O) (Lp C fu ss Q X K) X:=bx (.next h)
theorem jk {K:Locals→ag→Prop} (h:K L O):Wq (ah C fu .nil L O) (Nx C fu .nil (Lp C fu ss Q X K) X) X:=n1 (uz h)
theorem jh {K:Locals→ag→Prop} (h:K L O):Wq (ah C fu .nil L O) (Nx C fu .nil (Nx C fu .nil (Lp C fu ss Q X K) X) X) X:=n1 (jk h)
theorem OF {ι:Type} {c:E} (mk:ι→Locals) (sg:ι→ag) (I:ι→Prop) (m:ι→Nat) (step:∀i (K:Locals→ag→Prop),I i→(∀i',I i'→m i'<m i→K (mk i') (sg i'))→
   ∃t,ev C fu c (mk i) (sg i)= .ok (.bool t) (sg i)∧(t=true→Wq (ah C fu b (mk i) (sg i)) (Lp C fu ss Q X K) X)∧(t=false→Wq (ah C fu ss (mk i) (sg i)) Q X)) (i:ι) (hI:I i) (hm:m i<fu):
  Wq (ah C fu (.cons (.dD c b) ss) (mk i) (sg i)) Q X:=
 qz (m:=m i) (λk L s=>∃i,L=mk i∧s=sg i∧m i=k∧I i) ⟨i,rfl,rfl,rfl,hI⟩ hm λk L s K hK h=>by
  obtain ⟨i,rfl,rfl,rfl,hi⟩:=h
  exact step i K hi λi' h1 h2=>hK (m i') _ _ h2 ⟨i',rfl,rfl,rfl,h1⟩
end
section
variable {X:aX→ag→Prop} {C:Calls} {fu:Nat} {O ae:ag} {Q:Flow→Locals→ag→Prop} {e:E} {ss:Ss} {x0 x1 x2 x3 x4 x5 x6 x7 x8 x9 fD:Option V} {L:Locals} {v:V}
theorem acn:ev C fu (.loc 0) (some v::L) O= .ok v O:=dI rfl
theorem abP:ev C fu (.loc 1) (x0::some v::L) O= .ok v O:=dI rfl
theorem ab3:ev C fu (.loc 2) (x0::x1::some v::L) O= .ok v O:=dI rfl
theorem acT:ev C fu (.loc 3) (x0::x1::x2::some v::L) O= .ok v O:=dI rfl
theorem acz:ev C fu (.loc 4) (x0::x1::x2::x3::some v::L) O= .ok v O:=dI rfl
theorem acm:ev C fu (.loc 5) (x0::x1::x2::x3::x4::some v::L) O= .ok v O:=dI rfl
theorem acs:ev C fu (.loc 6) (x0::x1::x2::x3::x4::x5::some v::L) O= .ok v O:=dI rfl
theorem acw:ev C fu (.loc 7) (x0::x1::x2::x3::x4::x5::x6::some v::L) O= .ok v O:=dI rfl
theorem ac9:ev C fu (.loc 8) (x0::x1::x2::x3::x4::x5::x6::x7::some v::L) O= .ok v O:=dI rfl
theorem abS:ev C fu (.loc 9) (x0::x1::x2::x3::x4::x5::x6::x7::x8::some v::L) O= .ok v O:=dI rfl
theorem abz:ev C fu (.loc 10) (x0::x1::x2::x3::x4::x5::x6::x7::x8::x9::some v::L) O= .ok v O:=dI rfl
theorem abO:ev C fu (.loc 11) (x0::x1::x2::x3::x4::x5::x6::x7::x8::x9::fD::some v::L) O= .ok v O:=dI rfl
theorem abL {BK:Option V}:Locals.put (x0::x1::x2::x3::x4::x5::x6::x7::x8::x9::fD::BK::L) 11 v=x0::x1::x2::x3::x4::x5::x6::x7::x8::x9::fD::some v::L:=rfl
theorem acL:Locals.put (x0::L) 0 v=some v::L:=rfl
theorem ack:Locals.put (x0::x1::L) 1 v=x0::some v::L:=rfl
theorem acd:Locals.put (x0::x1::x2::L) 2 v=x0::x1::some v::L:=rfl
theorem acH:Locals.put (x0::x1::x2::x3::L) 3 v=x0::x1::x2::some v::L:=rfl
theorem acG:Locals.put (x0::x1::x2::x3::x4::L) 4 v=x0::x1::x2::x3::some v::L:=rfl
theorem acf:Locals.put (x0::x1::x2::x3::x4::x5::L) 5 v=x0::x1::x2::x3::x4::some v::L:=rfl
theorem acB:Locals.put (x0::x1::x2::x3::x4::x5::x6::L) 6 v=x0::x1::x2::x3::x4::x5::some v::L:=rfl
theorem abG:Locals.put (x0::x1::x2::x3::x4::x5::x6::x7::L) 7 v=x0::x1::x2::x3::x4::x5::x6::some v::L:=rfl
theorem abV:Locals.put (x0::x1::x2::x3::x4::x5::x6::x7::x8::L) 8 v=x0::x1::x2::x3::x4::x5::x6::x7::some v::L:=rfl
theorem ac2:Locals.put (x0::x1::x2::x3::x4::x5::x6::x7::x8::x9::L) 9 v=x0::x1::x2::x3::x4::x5::x6::x7::x8::some v::L:=rfl
theorem adi:Locals.put (x0::x1::x2::x3::x4::x5::x6::x7::x8::x9::fD::L) 10 v=x0::x1::x2::x3::x4::x5::x6::x7::x8::x9::some v::L:=rfl
theorem aco (h:ev C fu e (x0::L) O= .ok v ae) (k:Wq (ah C fu ss (some v::L) ae) Q X):Wq (ah C fu (.cons (.aA 0 e) ss) (x0::L) O) Q X:=e7 (aS h k)
theorem acO (h:ev C fu e (x0::x1::L) O= .ok v ae) (k:Wq (ah C fu ss (x0::some v::L) ae) Q X):Wq (ah C fu (.cons (.aA 1 e) ss) (x0::x1::L) O) Q X:=e7 (aS h k)
theorem acV (h:ev C fu e (x0::x1::x2::L) O= .ok v ae) (k:Wq (ah C fu ss (x0::x1::some v::L) ae) Q X):Wq (ah C fu (.cons (.aA 2 e) ss) (x0::x1::x2::L) O) Q X:=e7 (aS h k)
theorem acD (h:ev C fu e (x0::x1::x2::x3::L) O= .ok v ae) (k:Wq (ah C fu ss (x0::x1::x2::some v::L) ae) Q X):Wq (ah C fu (.cons (.aA 3 e) ss) (x0::x1::x2::x3::L) O) Q X:=e7 (aS h k)
theorem abC (h:ev C fu e (x0::x1::x2::x3::x4::L) O= .ok v ae) (k:Wq (ah C fu ss (x0::x1::x2::x3::some v::L) ae) Q X):Wq (ah C fu (.cons (.aA 4 e) ss) (x0::x1::x2::x3::x4::L) O) Q X:=e7 (aS h k)
theorem abI (h:ev C fu e (x0::x1::x2::x3::x4::x5::L) O= .ok v ae) (k:Wq (ah C fu ss (x0::x1::x2::x3::x4::some v::L) ae) Q X):Wq (ah C fu (.cons (.aA 5 e) ss) (x0::x1::x2::x3::x4::x5::L) O) Q X:=e7 (aS h k)
theorem ac4 (h:ev C fu e (x0::x1::x2::x3::x4::x5::x6::L) O= .ok v ae) (k:Wq (ah C fu ss (x0::x1::x2::x3::x4::x5::some v::L) ae) Q X):Wq (ah C fu (.cons (.aA 6 e) ss) (x0::x1::x2::x3::x4::x5::x6::L) O) Q X:=e7 (aS h k)
theorem abW (h:ev C fu e (x0::x1::x2::x3::x4::x5::x6::x7::L) O= .ok v ae) (k:Wq (ah C fu ss (x0::x1::x2::x3::x4::x5::x6::some v::L) ae) Q X):Wq (ah C fu (.cons (.aA 7 e) ss) (x0::x1::x2::x3::x4::x5::x6::x7::L) O) Q X:=e7 (aS h k)
theorem ac0 (h:ev C fu e (x0::x1::x2::x3::x4::x5::x6::x7::x8::L) O= .ok v ae) (k:Wq (ah C fu ss (x0::x1::x2::x3::x4::x5::x6::x7::some v::L) ae) Q X):Wq (ah C fu (.cons (.aA 8 e) ss) (x0::x1::x2::x3::x4::x5::x6::x7::x8::L) O) Q X:=e7 (aS h k)
theorem ac6 (h:ev C fu e (x0::x1::x2::x3::x4::x5::x6::x7::x8::x9::L) O= .ok v ae) (k:Wq (ah C fu ss (x0::x1::x2::x3::x4::x5::x6::x7::x8::some v::L) ae) Q X):Wq (ah C fu (.cons (.aA 9 e) ss) (x0::x1::x2::x3::x4::x5::x6::x7::x8::x9::L) O) Q X:=e7 (aS h k)
theorem ac3 (h:ev C fu e (x0::x1::x2::x3::x4::x5::x6::x7::x8::x9::fD::L) O= .ok v ae) (k:Wq (ah C fu ss (x0::x1::x2::x3::x4::x5::x6::x7::x8::x9::some v::L) ae) Q X):Wq (ah C fu (.cons (.aA 10 e) ss) (x0::x1::x2::x3::x4::x5::x6::x7::x8::x9::fD::L) O) Q X:=e7 (aS h k)
end
section
variable {O af:ag}
theorem Bv {a:Nat} (h:a≤aq+8):a<16777300:=by
 have hs:aq=16777216:=by unfold aq;exact Eq.refl _
 omega
theorem qj {a:Nat}:eW .add (.int (a:Int)) (.int 1)=some (.int ((a+1:Nat):Int)):=rfl
theorem aca {a:Nat}:eW .add (.int (a:Int)) (.int 2)=some (.int ((a+2:Nat):Int)):=rfl
theorem abF {a:Nat}:eW .add (.int (a:Int)) (.int 3)=some (.int ((a+3:Nat):Int)):=rfl
theorem zF {a b:Nat}:eW .add (.int (a:Int)) (.int (b:Int))=some (.int ((a+b:Nat):Int)):=rfl
theorem KC {a b:Int}:eW .add (.int a) (.int b)=some (.int (a+b)):=rfl
theorem vr {a b:Int}:eW .sub (.int a) (.int b)=some (.int (a-b)):=rfl
theorem pq {a b:List Nat}:ct .eq O (.str a) (.str b)=some (.bool (decide (a=b))):=rfl
theorem jH {a b:Nat}:ct .eq O (.str [a]) (.str [b])=some (.bool (decide (a=b))):=by
 show some (V.bool (decide ([a]=[b])))=_
 congr 2;rw [decide_eq_decide];simp
theorem vW {a b:Nat}:ct .ne O (.str [a]) (.str [b])=some (.bool (!decide (a=b))):=by
 show some (V.bool (!decide ([a]=[b])))=_
 congr 2;rw [Bool.not_eq_eq_eq_not,Bool.not_not,decide_eq_decide];simp
theorem m9 {a b:List Nat}:ct .ne O (.str a) (.str b)=some (.bool (!decide (a=b))):=rfl
theorem acu {a b:List Nat}:ct .le O (.str a) (.str b)=some (.bool (!decide (b<a))):=rfl
theorem nT {a b:Nat}:ct .lt O (.int (a:Int)) (.int (b:Int))=some (.bool (decide (a<b))):=by
 show some (V.bool (decide ((a:Int)<(b:Int))))=_
 congr 2;rw [decide_eq_decide];exact Int.ofNat_lt
theorem FL {a b:Nat}:ct .gt O (.int (a:Int)) (.int (b:Int))=some (.bool (decide (b<a))):=by
 show some (V.bool (decide ((b:Int)<(a:Int))))=_
 congr 2;rw [decide_eq_decide];exact Int.ofNat_lt
theorem kQ {a b:Nat}:ct .eq O (.int (a:Int)) (.int (b:Int))=some (.bool (decide (a=b))):=by
 show some (V.bool (decide ((a:Int)=(b:Int))))=_
 congr 2;rw [decide_eq_decide];exact Int.ofNat_inj
theorem oD {a b:Int}:ct .eq O (.int a) (.int b)=some (.bool (decide (a=b))):=rfl
theorem mi {a b:Int}:ct .lt O (.int a) (.int b)=some (.bool (decide (a<b))):=rfl
theorem lZ {a b:Int}:ct .gt O (.int a) (.int b)=some (.bool (decide (b<a))):=rfl
theorem Lm {a b:Int}:ct .ge O (.int a) (.int b)=some (.bool (decide (b≤a))):=rfl
theorem vO {c:Nat} {l:List Nat}:ct .isin O (.str [c]) (.str l)=some (.bool (decide (c∈l))):=rfl
theorem Ov {c:Nat} {l:List Nat}:ct .ix O (.str [c]) (.str l)=some (.bool (!decide (c∈l))):=rfl
theorem acx:ct .is O .none .none=some (.bool true):=rfl
theorem Ln:ct .iM O .none .none=some (.bool false):=rfl
theorem acQ {n:Nat}:ct .is O (.ref n) .none=some (.bool false):=rfl
theorem K4 {n:Nat}:ct .iM O (.ref n) .none=some (.bool true):=rfl
theorem ab7 {vs:List V}:ct .is O (.tup vs) .none=some (.bool false):=rfl
theorem abK {vs:List V}:ct .iM O (.tup vs) .none=some (.bool true):=rfl
theorem ab5 {s:List Nat}:ct .is O (.str s) .none=some (.bool false):=rfl
theorem tU {x:List Nat} {vs:List V} {l:List (List Nat)} (h1:hS vs=some l) (h2:vs.length≤100):lX O (.str x) (.tup vs)=some (decide (x∈l)):=by
 show ((hS vs).bind λl=>if vs.length≤100 then some (decide (x∈l)) else Option.none)=_
 rw [h1]
 show (if vs.length≤100 then some (decide (x∈l)) else Option.none)=_
 rw [if_pos h2]
theorem nM {x c:V} {b:Bool} (h:lX O x c=some b):ct .isin O x c=some (.bool b):=by show (lX O x c).map V.bool=_;rw [h];rfl
theorem BM {x c:V} {b:Bool} (h:lX O x c=some b):ct .ix O x c=some (.bool (!b)):=by show (lX O x c).map (λx=>V.bool (!x))=_;rw [h];rfl
theorem kX {t:List Nat} {a b:Nat} (ha:a<16777300) (hb:b<16777300):jx O (.str t) (.int (a:Int)) (.int (b:Int)) true true= .ok (.str ((t.drop a).take (b-a))) O:=YW hb ha
theorem pa {t:List Nat} {a e:Nat} (ha:a+e<16777300):jx O (.str t) (.int (a:Int)) (.int ((a+e:Nat):Int)) true true= .ok (.str ((t.drop a).take e)) O:=by
 rw [kX (by omega) ha,Nat.add_sub_cancel_left]
theorem oX {s:List Nat}:mI .len O [.str s]= .ok (.int (s.length:Int)) O:=rfl
theorem ZE {a b:Nat}:mI .min O [.int (a:Int),.int (b:Int)]= .ok (.int ((min a b:Nat):Int)) O:=by
 show Out.ok (V.int (if (b:Int)<a then (b:Int) else a)) O=_
 by_cases q:b<a
 ·rw [if_pos (Int.ofNat_lt.2 q),Nat.min_eq_right (Nat.le_of_lt q)]
 ·rw [if_neg (λh=>q (Int.ofNat_lt.1 h)),Nat.min_eq_left (Nat.le_of_not_lt q)]
theorem Jd {a b:Nat}:mI .max O [.int (a:Int),.int (b:Int)]= .ok (.int ((max a b:Nat):Int)) O:=by
 show Out.ok (V.int (if (a:Int)<b then (b:Int) else a)) O=_
 by_cases q:a<b
 ·rw [if_pos (Int.ofNat_lt.2 q),Nat.max_eq_right (Nat.le_of_lt q)]
 ·rw [if_neg (λh=>q (Int.ofNat_lt.1 h)),Nat.max_eq_left (Nat.le_of_not_lt q)]
theorem j6 {t:List Nat} {j c:Nat} {r:List Nat} (hd:t.drop j=c::r):j<t.length:=by
 by_cases q:j<t.length
 ·exact q
 ·rw [List.drop_eq_nil_of_le (Nat.le_of_not_lt q)] at hd;cases hd
theorem vx {t:List Nat} {j:Nat} {P:Prop} (h:j<t.length) (k:∀c r,t.drop j=c::r→P):P:=k _ _ (List.drop_eq_getElem_cons h)
theorem OH {t:List Nat} {j:Nat} (hd:t.drop j=[]):¬j<t.length:=λq=>by rw [List.drop_eq_getElem_cons q] at hd;cases hd
theorem dF {t r:List Nat} {k:Nat} (j:Nat) (h:t.drop k=r):t.drop (k+j)=r.drop j:=by rw [←h,List.drop_drop]
theorem mx {t:List Nat} {k:Nat} (h:k≤t.length):(t.drop k).length+k=t.length:=by rw [List.length_drop];exact Nat.sub_add_cancel h
theorem jK {t:List Nat} {k e:Nat} (h:k≤t.length) (ht:t.length≤aq) (he:e≤8):k+e<16777300:=Bv (Nat.add_le_add (adk h ht) he)
theorem fE {t:List Nat} {k:Nat} (h:k≤t.length) (ht:t.length≤aq):k<16777300:=jK (e:=0) h ht (by decide)
theorem dY {fu n f np nl:Nat} {b:Ss} {vs:List V} {L:Locals} {Q:V→ag→Prop} {X:aX→ag→Prop} (h:aw[f]?=some ⟨np,nl,b⟩) (h1:vs.length=np) (h2:np≤nl) (hL:vs.map some++List.replicate (nl-np) Option.none=L)
    (H:Wq (ah (ay aw fu n) fu b L O) (bL Q) X):Wp (ay aw fu (n+1) f vs O) Q X:=by
 subst hL
 exact TS h h1 h2 H
theorem ab1 {n j:Nat} (h:j<n):n-(j+1)<n-j:=by omega
theorem wk {n j w:Nat} (h:j<n) (hw:0<w):n-(j+w)<n-j:=by omega
end
section
variable {C:Calls} {fu n:Nat} {t:List Nat} {k:Nat} {L:Locals} {O ae:ag} {X:aX→ag→Prop} {ss:Ss} {Q:Flow→Locals→ag→Prop}
theorem OT {a b:Nat}:ct .eq O (.str [a]) (.str [b])=some (.bool (a==b)):=congrArg (λb=>some (V.bool b)) (Xk a b)
theorem Kl {e:E} {i:Nat} {v:V} (h:ev C fu e L O= .ok v ae):ah C fu (.cons (.aA i e) ss) L O=ah C fu ss (L.put i v) ae:=by
 show ((ev C fu e L O).toS L _).bind _=_
 rw [h];rfl
theorem xB {e:E} {v:V} (h:ev C fu e L O= .ok v ae):ah C fu (.cons (.ret e) ss) L O= .ok (.ret v) L ae:=by
 show ((ev C fu e L O).toS L _).bind _=_
 rw [h];rfl
theorem Aw {e:E} {a b:Ss} (h:ev C fu e L O= .ok (.bool true) ae):ah C fu (.cons (.ite e a b) ss) L O=(ah C fu a L ae).bind λf L O=>f.oV L O (ah C fu ss L O):=by
 show ((ev C fu e L O).toS L _).bind _=_
 rw [h];rfl
theorem zz {e:E} {a b:Ss} (h:ev C fu e L O= .ok (.bool false) ae):ah C fu (.cons (.ite e a b) ss) L O=(ah C fu b L ae).bind λf L O=>f.oV L O (ah C fu ss L O):=by
 show ((ev C fu e L O).toS L _).bind _=_
 rw [h];rfl
theorem ZK {c:E} {b:Ss} {L':Locals} (h:km (ev C fu c) (ah C fu b) fu L O= .ok .next L' ae):ah C fu (.cons (.dD c b) ss) L O=ah C fu ss L' ae:=by
 show (km (ev C fu c) (ah C fu b) fu L O).bind _=_
 rw [h];rfl
theorem YX {c e1 e2:E} {p q:Bool} (hc:ev C fu c L O= .ok (.bool p) O) (h1:ev C fu e1 L O= .ok (.bool true) O) (h2:ev C fu e2 L O= .ok (.bool q) O):fH (ah C fu (.cons (.ite c (.cons (.ret e1) .nil) .nil) (.cons (.ret e2) .nil)) L O)= .ok (.bool (p||q)) O:=by
 cases p with
 |true=>rw [Aw hc,xB h1];rfl
 |false=>rw [zz hc];exact congrArg fH (xB h2)
theorem Wu {s:List Nat} (hn:0<n) (hs:s.length≤1):ay aw fu n 0 [.str s] O= .ok (.bool (fJ s)) O:=match n,s,hn,hs with
 |_+1,[],_,_=>rfl
 |n+1,[c],_,_=>by
  have e1:∀d:Nat,ev (ay aw fu n) fu (.cmp .eq (.loc 0) (.str [d])) [some (.str [c])] O= .ok (.bool (c==d)) O:=λd=>aO rfl rfl OT
  have e4:∀d e:Nat,ev (ay aw fu n) fu (.and (.cons (.cmp .le (.str [d]) (.loc 0)) (.cons (.cmp .le (.loc 0) (.str [e])) .nil))) [some (.str [c])] O= .ok (.bool (decide (d≤c)&&decide (c≤e))) O:=λd e=>fC (aO rfl rfl (le_str d c)) (fN (aO rfl rfl (le_str c e)))
  exact (qx (F:=⟨1,1,IJ⟩) rfl rfl (by decide)).trans (YX (jL (e1 95) (jL (e1 36) (jT (e4 48 57)))) rfl (jL (e4 97 122) (jT (e4 65 90))))
 |_+1,_::_::_,_,h=>absurd h (Nat.not_le.2 (Nat.succ_lt_succ (Nat.succ_pos _)))
theorem WA (s:List Nat):fJ (s.take 1)=fJ s:=by cases s<;>rfl
theorem Zm (s:List Nat):(s.take 1).length≤1:=List.length_take_le 1 s
theorem NZ (a b:Nat):decide (([a]:List Nat)=[b])=decide (a=b):=by rw [decide_eq_decide];simp
theorem iP {r:List Nat} {j c:Nat} (hd:t.drop j=c::r):dh O (.str t) (.int (j:Int))=some (.str [c]):=Nv hd
theorem lG {t:List Nat} {fu:Nat} (ht:t.length≤aq) (hf:aq+100<fu):t.length<fu:=adm (adk ht (adn _ _)) hf
theorem lT:(t.drop k).length≤t.length:=by rw [List.length_drop];exact Nat.sub_le ..
theorem IV {i:Nat} (hn:0<n) (ht:t.length≤aq) (hL:L.get 0=some (.str t)) (hi:i≠0) (Xq:i<L.length) (hk:k≤t.length) (hf:aq+100<fu):
  km (ev (ay aw fu n) fu (.call 0 (.cons (.slice (.loc 0) (.loc i) (.bin .add (.loc i) (.int 1)) true true) .nil))) (ah (ay aw fu n) fu (.cons (.aA i (.bin .add (.loc i) (.int 1))) .nil)) fu (L.put i (.int k)) O
   = .ok .next (L.put i (.int ((k+du fJ (t.drop k):Nat):Int))) O:=by
 have g0:∀v,Locals.get (L.put i v) 0=some (.str t):=λv=>(congrArg Option.join (List.getElem?_set_ne hi)).trans hL
 have gi:∀v,Locals.get (L.put i v) i=some v:=λv=>congrArg Option.join (List.getElem?_set_self Xq)
 have hb:∀j:Nat,ah (ay aw fu n) fu (.cons (.aA i (.bin .add (.loc i) (.int 1))) .nil) (L.put i (.int (j:Int))) O= .ok .next (L.put i (.int ((j+1:Nat):Int))) O:=λj=>by
  rw [Kl (bG (dI (gi _)) Mh qj)]
  exact congrArg (λL=>aU.ok .next L O) (List.set_set ..)
 exact tH (mk:=λj=>L.put i (.int (j:Int))) (p:=fJ) rfl (λj hj=>eg (aJ (eZ (dI (g0 _)) (dI (gi _)) (bG (dI (gi _)) Mh qj) (pa (jK hj ht (by decide)))) AW) ((Wu hn (Zm _)).trans (by rw [WA])))
    (λj hj=>hb j) fu k _ rfl (adm lT (lG ht hf)) hk
noncomputable def Ih:List Nat→Bool
 |c::_=>decide (c=36)||(decide (48≤c)&&decide (c≤57))
 |[]=>false
noncomputable def aC (s:List Nat):Nat:=if Ih s then 0 else du fJ s
theorem Kx (a b:Nat):(!decide (([a]:List Nat)<[b]))=decide (b≤a):=by
 rw [My, ←decide_not,decide_eq_decide];exact Nat.not_lt
theorem Ma (s:List Nat):(decide (s.take 1=[36])||(!decide (s.take 1<[48])&& !decide (([57]:List Nat)<s.take 1)))=Ih s:=by
 cases s with
 |nil=>rfl
 |cons c r=>
  show (decide ([c]=[36])||(!decide ([c]<[48])&& !decide (([57]:List Nat)<[c])))=_
  rw [NZ,Kx,Kx];rfl
theorem tX {c e:E} {p:Bool} {o:Out V} (hc:ev C fu c L O= .ok (.bool p) O) (h1:p=true→ev C fu e L O=o) (h2:p=false→fH (ah C fu ss L O)=o):fH (ah C fu (.cons (.ite c (.cons (.ret e) .nil) .nil) ss) L O)=o:=by
 cases p with
 |true=>
  rw [Aw hc, ←h1 rfl]
  show fH ((((ev C fu e L O).toS L _).bind _).bind _)=_
  cases ev C fu e L O<;>rfl
 |false=>rw [zz hc];exact h2 rfl
theorem pM {e:E} {i:Nat} {v:V} {o:Out V} (hc:ev C fu e L O= .ok v ae) (h:fH (ah C fu ss (L.put i v) ae)=o):fH (ah C fu (.cons (.aA i e) ss) L O)=o:=(congrArg fH (Kl hc)).trans h
theorem wb {c:E} {b:Ss} {L':Locals} {o:Out V} (hc:km (ev C fu c) (ah C fu b) fu L O= .ok .next L' ae) (h:fH (ah C fu ss L' ae)=o):fH (ah C fu (.cons (.dD c b) ss) L O)=o:=(congrArg fH (ZK hc)).trans h
theorem ZC (hn:0<n) (ht:t.length≤aq) (hk:k≤t.length) (hf:aq+100<fu):ay aw fu (n+1) 1 [.str t,.int (k:Int)] O= .ok (.int ((k+aC (t.drop k):Nat):Int)) O:=by
 refine (qx (F:=⟨2,4,Hq⟩) rfl rfl (by decide)).trans (pM (eZ rfl rfl (bG rfl rfl qj) (pa (jK hk ht (by decide)))) (tX (jL rfl (jT (fC rfl (fN rfl)))) ?_ ?_))
 ·rw [Ma]
  exact λh=>by rw [aC,if_pos h];rfl
 ·rw [Ma]
  exact λh=>pM rfl (wb (IV (L:=[some (.str t),some (.int (k:Int)),some (.str ((t.drop k).take 1)),none]) (i:=3) hn ht rfl (by decide) (adu 3) hk hf) (by rw [aC,if_neg (by rw [h];decide)];rfl))
noncomputable def su:List Nat→Bool
 |c::_=> !decide (c=10)
 |[]=>false
noncomputable def Nb (s:List Nat):Nat:=du su s
noncomputable def Dp (l:List Nat):List Nat→Bool
 |c::_=>decide (c∈l)
 |[]=>false
noncomputable def A9 (l:List Nat):List Nat→Bool
 |c::_=> !decide (c∈l)
 |[]=>false
noncomputable def Cm (s:List Nat):Nat:=du (Dp [32,9,13]) s
noncomputable def dG (s:List Nat):Nat:=du (Dp [32,9,13,10,12,11]) s
noncomputable def uD (s:List Nat):Nat:=du (A9 [32,9,13,10,12,11]) s
theorem tw {es:Es} {e2:E} {ti i j:Nat} {p:List Nat→Bool} (hp:p []=false) (h0:L.get ti=some (.str t)) (hi:L.get i=some (.int (j:Int)))
    (h:∀(c:Nat) (r:List Nat),t.drop j=c::r→ea C fu true (.cons e2 es) L O= .ok (.bool (p (c::r))) O):
  ev C fu (.and (.cons (.cmp .lt (.loc i) (.bi .len (.cons (.loc ti) .nil))) (.cons e2 es))) L O= .ok (.bool (p (t.drop j))) O:=by
 have c1:ev C fu (.cmp .lt (.loc i) (.bi .len (.cons (.loc ti) .nil))) L O= .ok (.bool (decide (j<t.length))) O:=aO (dI hi) (fq (aJ (dI h0) AW) oX) nT
 cases hd:t.drop j with
 |nil=>
  rw [decide_eq_false (OH hd)] at c1
  exact hp.symm▸zq (q:=true) c1 nofun
 |cons c r=>
  rw [decide_eq_true (j6 hd)] at c1
  exact zq c1 λ_=>h c r hd
noncomputable def X9 (q:E):Ss:= .cons (.aA 2 (.loc 1)) (.cons (.dD (.and (.cons (.cmp .lt (.loc 2) (.bi .len (.cons (.loc 0) .nil))) (.cons q .nil))) (.cons (.aA 2 (.bin .add (.loc 2) (.int 1))) .nil)) (.cons (.ret (.loc 2)) .nil))
theorem v5 {f:Nat} {q:E} {p:List Nat→Bool} (hF:aw[f]?=some ⟨2,3,X9 q⟩) (hp:p []=false) (ht:t.length≤aq) (hk:k≤t.length) (hf:aq+100<fu)
    (hq:∀(j c:Nat) (r:List Nat),t.drop j=c::r→ev (ay aw fu n) fu q [some (.str t),some (.int (k:Int)),some (.int (j:Int))] O= .ok (.bool (p (c::r))) O):
  ay aw fu (n+1) f [.str t,.int (k:Int)] O= .ok (.int ((k+du p (t.drop k):Nat):Int)) O:=
 (qx hF rfl (Nat.le_succ 2)).trans (pM rfl (wb (tH (mk:=λj=>[some (.str t),some (.int (k:Int)),some (.int (j:Int))]) hp (λj hj=>tw hp rfl rfl λc r hd=>fN (hq j c r hd)) (λj hj=>rfl) fu k _ rfl (adm lT (lG ht hf)) hk) rfl))
theorem aa9 (ht:t.length≤aq) (hk:k≤t.length) (hf:aq+100<fu):ay aw fu (n+1) 2 [.str t,.int (k:Int)] O= .ok (.int ((k+Nb (t.drop k):Nat):Int)) O:=
 v5 rfl rfl ht hk hf λj c r hd=>aO (bj rfl rfl (iP hd)) rfl vW
theorem Yz (ht:t.length≤aq) (hk:k≤t.length) (hf:aq+100<fu):ay aw fu (n+1) 3 [.str t,.int (k:Int)] O= .ok (.int ((k+Cm (t.drop k):Nat):Int)) O:=
 v5 rfl rfl ht hk hf λj c r hd=>aO (bj rfl rfl (iP hd)) rfl vO
theorem RS (ht:t.length≤aq) (hk:k≤t.length) (hf:aq+100<fu):ay aw fu (n+1) 4 [.str t,.int (k:Int)] O= .ok (.int ((k+dG (t.drop k):Nat):Int)) O:=
 v5 rfl rfl ht hk hf λj c r hd=>aO (bj rfl rfl (iP hd)) rfl vO
theorem To (ht:t.length≤aq) (hk:k≤t.length) (hf:aq+100<fu):ay aw fu (n+1) 7 [.str t,.int (k:Int)] O= .ok (.int ((k+uD (t.drop k):Nat):Int)) O:=
 v5 rfl rfl ht hk hf λj c r hd=>aO (bj rfl rfl (iP hd)) rfl Ov
noncomputable def eu:Bool→List Nat→Nat
 |_,[]=>0
 |e,c::r=>if c=10 then 0 else if e then 1+eu false r else if c=34 then 1 else 1+eu (c==92) r
noncomputable def yF:List Nat→Nat
 |[]=>0
 |_::r=>1+eu false r
theorem AZ {a b:Nat} (h:a≤b):1+a≤b+1:=Nat.add_comm 1 a▸Nat.succ_le_succ h
theorem BD:∀(e:Bool) (s:List Nat),eu e s≤s.length
 |_,[]=>ads _
 |e,c::r=>by
  have h1:=BD false r
  have h2:=BD (c==92) r
  show (if c=10 then 0 else if e then 1+eu false r else if c=34 then 1 else 1+eu (c==92) r)≤r.length+1
  split
  ·exact ads _
  ·split
   ·exact AZ h1
   ·split
    ·exact Nat.succ_le_succ (ads _)
    ·exact AZ h2
theorem Uw:∀s:List Nat,yF s≤s.length
 |[]=>adq _
 |_::r=>AZ (BD false r)
theorem GI {c:Nat} {r:List Nat} (h1:c≠10) (h2:c≠34):eu false (c::r)=1+eu (c==92) r:=(if_neg h1).trans (if_neg h2)
theorem Kt (d:Nat) (s:List Nat):(!decide ((d::s).take 1∈[[],[10]]))= !decide (d=10):=by
 congr 1;rw [decide_eq_decide];simp
noncomputable def uP (c:Nat) (r:List Nat):Bool:=decide (c=92)&& !decide (r.take 1∈[[],[10]])
theorem RK {c:Nat} {r:List Nat} (h1:c≠10) (h2:c≠34) (h:uP c r=true):∃d u,r=d::u∧eu false (c::r)=2+eu false u:=by
 rw [uP,Bool.and_eq_true,decide_eq_true_eq] at h
 cases r with
 |nil=>cases h.2
 |cons d u=>
  have h4:=h.2
  rw [Kt,Bool.not_eq_true',decide_eq_false_iff_not] at h4
  refine ⟨d,u,rfl,?_⟩
  rw [GI h1 h2,h.1,show eu (92==92) (d::u)=1+eu false u from if_neg h4, ←Nat.add_assoc]
theorem SG {c:Nat} {r:List Nat} (h1:c≠10) (h2:c≠34) (h:uP c r=false):eu false (c::r)=1+eu false r:=by
 rw [GI h1 h2]
 by_cases h5:c=92
 ·rw [uP,decide_eq_true h5,Bool.true_and] at h
  cases r with
  |nil=>rfl
  |cons d u=>
   rw [Kt,Bool.not_eq_false',decide_eq_true_eq] at h
   exact congrArg (1+ ·) ((if_pos h).trans (if_pos h:eu false (d::u)=0).symm)
 ·rw [show (c==92)=false from beq_eq_false_iff_ne.2 h5]
theorem Gg {s:List Nat} {P:Prop} (h:su s=true) (k:∀c r,s=c::r→c≠10→P):P:=match s,h,k with
 |c::r,h,k=>k c r rfl (adp (Bool.not_eq_true' _▸h))
theorem OC {s:List Nat} (h:su s=false):eu false s=0:=match s,h with
 |[],_=>rfl
 |c::r,h=>if_pos (ado (Bool.not_eq_false' _▸h))
theorem aam {r0:List Nat} {c0:Nat} (eF:t.drop k=c0::r0) (ht:t.length≤aq) (hf:aq+100<fu):ay aw fu (n+1) 5 [.str t,.int (k:Int)] O= .ok (.int ((k+yF (t.drop k):Nat):Int)) O:=by
 refine II (dY rfl rfl (Nat.le_succ 2) rfl (aV rfl (OF (λj:Nat=>[some (.str t),some (.int (k:Int)),some (.int (j:Int))]) (λ_=>O) (λj=>j≤t.length∧j+eu false (t.drop j)=k+yF (t.drop k)) (λj=>t.length-j)
    (λj K hj hK=>⟨su (t.drop j),tw rfl rfl rfl λc r hd=>fN (aO (bj rfl rfl (iP hd)) rfl vW),λhr=>Gg hr λc r hd h1=>?_,λhr=>?_⟩) (k+1) ⟨j6 eF,?_⟩ (adm (Nat.sub_le _ _) (lG ht hf)))))
 ·have hs:=hj.2
  rw [hd] at hs
  have aK:=j6 hd
  have dw:t.drop (j+1)=r:=dF 1 hd
  refine eQ (aO (bj rfl rfl (iP hd)) rfl jH) (λh2=>dp rfl (.ret (.ret (.ret ⟨?_,rfl⟩)))) (λh2=>bx (.next (fB (t:=uP c r) (ku (fC (aO (bj rfl rfl (iP hd)) rfl jH) (fN (aO (eZ rfl rfl rfl ?_) rfl (BM (tU (l:=[[],[10]]) rfl (by decide))))))) (λh3=>?_) λh3=>?_)))
  ·rw [←hs,show eu false (c::r)=1 from (if_neg h1).trans (if_pos h2)];rfl
  ·rw [←dw];exact (kX (jK hj.1 ht (by decide)) (jK hj.1 ht (by decide))).trans (by rw [show j+2-(j+1)=1 from Nat.add_sub_cancel_left (j+1) 1])
  ·obtain ⟨d,u,rfl,e⟩:=RK h1 h2 h3
   have zQ:t.drop (j+1+1)=u:=dF 1 dw
   exact aV rfl (bx (.next (aV rfl (bx (.next (hK (j+2) ⟨j6 dw,by rw [zQ, ←hs,e,Nat.add_assoc]⟩ (Nat.sub_lt_sub_left aK (Nat.lt_add_of_pos_right (by decide)))))))))
  ·exact bx (.next (aV rfl (bx (.next (hK (j+1) ⟨aK,by rw [dw, ←hs,SG h1 h2 h3,Nat.add_assoc]⟩ (Nat.sub_lt_sub_left aK (adu _)))))))
 ·have hs:=hj.2
  rw [OC hr] at hs
  exact dp rfl (.ret ⟨by rw [←hs];rfl,rfl⟩)
 ·rw [dF 1 eF,eF]
  exact Nat.add_assoc k 1 _
end
section
variable {fu n:Nat} {t:List Nat} {k:Nat} {O:ag} {X:aX→ag→Prop}
noncomputable def ka:List Nat→Nat
 |[]=>0
 |c::r=>if c=42∧r.head?=some 47 then 2 else 1+ka r
noncomputable def cp (s:List Nat):Nat:=if s.take 2=[47,47] then Nb s else if s.take 2=[47,42] then 2+ka (s.drop 2) else 0
theorem MF:∀s,ka s≤s.length
 |[]=>adq _
 |c::r=>by
  rw [ka]
  split
  ·rename_i h
   cases r with
   |nil=>cases h.2
   |cons d r=>exact Nat.succ_le_succ (Nat.succ_le_succ (ads _))
  ·rw [Nat.add_comm];exact Nat.succ_le_succ (MF r)
theorem Ay {s:List Nat} {a b:Nat} (h:s.take 2=[a,b]):2+(s.drop 2).length=s.length:=by
 cases s with
 |nil=>cases h
 |cons c r=>cases r with
  |nil=>cases h
  |cons d r=>exact Nat.add_comm _ _
theorem G3 (s:List Nat):cp s≤s.length:=by
 unfold cp
 split
 ·exact my _ s
 ·split
  ·rename_i h
   rw [←Ay h]
   exact Nat.add_le_add_left (MF _) _
  ·exact ads _
theorem Ij (c:Nat) (r:List Nat):((c::r).take 2=[42,47])↔(c=42∧r.head?=some 47):=by
 cases r with
 |nil=>simp
 |cons d r=>simp
noncomputable def vN:List Nat→Bool
 |[]=>false
 |c::r=> !decide ((c::r).take 2=[42,47])
theorem MN:∀s,min (du vN s+2) s.length=ka s
 |[]=>rfl
 |c::r=>by
  show min ((if (!decide ((c::r).take 2=[42,47]))=true then du vN r+1 else 0)+2) (r.length+1)=if c=42∧r.head?=some 47 then 2 else 1+ka r
  by_cases h:(c::r).take 2=[42,47]
  ·rw [if_neg (by rw [decide_eq_true h];decide),if_pos ((Ij c r).1 h)]
   exact Nat.min_eq_left (adk (adn 2 _) (adt (Ay h)))
  ·rw [if_pos (by rw [decide_eq_false h];rfl),if_neg λq=>h ((Ij c r).2 q), ←MN r,Nat.add_comm 1,Nat.add_right_comm]
   exact Nat.succ_min_succ _ _
theorem J9 (hn:0<n) (ht:t.length≤aq) (hk:k≤t.length) (hf:aq+100<fu):ay aw fu (n+1) 6 [.str t,.int (k:Int)] O= .ok (.int ((k+cp (t.drop k):Nat):Int)) O:=match n,hn with
 |m+1,hn=>by
  refine (qx (F:=⟨2,4,MO⟩) rfl rfl (by decide)).trans (pM (eZ rfl rfl rfl (pa (e:=2) (jK hk ht (by decide)))) (tX (p:=decide ((t.drop k).take 2=[47,47])) rfl (λh=>?_) λh=>tX (p:= !decide ((t.drop k).take 2=[47,42])) rfl (λh2=>?_) λh2=>pM (v:= .int ((k+2:Nat):Int)) rfl ?_))
  ·rw [cp,if_pos (ado h)];exact aa9 ht hk hf
  ·rw [cp,if_neg (adp h),if_neg (adp (Bool.not_eq_true' _▸h2))];rfl
  ·have h3:=ado (Bool.not_eq_false' _▸h2)
   have hl:=Ay h3
   have vV:k+2≤t.length:=by
    rw [List.drop_drop] at hl
    have:=mx hk
    rw [←this,Nat.add_comm k, ←hl]
    exact Nat.add_le_add_right (adn _ _) k
   have e:min (k+2+du vN (t.drop (k+2))+2) t.length=k+cp (t.drop k):=by
    rw [cp,if_neg (adp h),if_pos h3,List.drop_drop, ←Nat.add_assoc, ←MN,Nat.add_assoc (k+2), ←Nat.add_min_add_left,Nat.add_comm (k+2) (List.length _),mx vV]
   refine wb (tH (mk:=λj=>[some (.str t),some (.int (k:Int)),some (.str ((t.drop k).take 2)),some (.int (j:Int))]) (p:=vN) rfl (λj hj=>tw rfl rfl rfl λc r hd=>fN (aO (eZ rfl rfl rfl (pa (e:=2) (jK hj ht (by decide)))) rfl (by rw [hd];exact m9))) (λj hj=>rfl) fu (k+2) _ rfl (adm lT (lG ht hf)) vV) ?_
   rw [←e]
   exact congrArg fH (xB (fq (aJ rfl (aJ rfl rfl)) ZE))
noncomputable def a8 (s:List Nat):Nat:=match s with
 |[]=>0
 |c::r=>if c=34 then 1+eu false r else if c=92 then uD s else if c=39 then 1+du fJ r else max (du fJ s) 1
theorem IW (s:List Nat):a8 s≤s.length:=by
 cases s with
 |nil=>exact adq _
 |cons c r=>
  show (if c=34 then yF (c::r) else if c=92 then uD (c::r) else if c=39 then 1+du fJ r else max (du fJ (c::r)) 1)≤_
  split
  ·exact Uw (c::r)
  ·split
   ·exact my _ _
   ·split
    ·rw [Nat.add_comm];exact Nat.succ_le_succ (my fJ r)
    ·exact Nat.max_le.2 ⟨my fJ (c::r),Nat.succ_le_succ (ads _)⟩
theorem tF (c:Nat) (r:List Nat):0<a8 (c::r):=by
 show 0<(if c=34 then 1+eu false r else if c=92 then uD (c::r) else if c=39 then 1+du fJ r else max (du fJ (c::r)) 1)
 split
 ·rw [Nat.add_comm];exact Nat.succ_pos _
 ·split
  ·rename_i h1 h2
   subst h2
   show 0<du (A9 [32,9,13,10,12,11]) (92::r)
   rw [du,if_pos (show A9 [32,9,13,10,12,11] (92::r)=true from rfl)];exact Nat.succ_pos _
  ·split
   ·rw [Nat.add_comm];exact Nat.succ_pos _
   ·exact adl Nat.one_pos (Nat.le_max_right _ _)
theorem vi {c:Nat} {r:List Nat} {j:Nat} (hd:t.drop j=c::r):j+a8 (c::r)≤t.length:=by
 rw [←mx (Nat.le_of_lt (j6 hd)),Nat.add_comm,hd]
 exact Nat.add_le_add_right (IW _) j
theorem Dq {j:Nat} (hj:j≤t.length):j+cp (t.drop j)≤t.length:=by
 rw [←mx hj,Nat.add_comm]
 exact Nat.add_le_add_right (G3 _) j
theorem KI {c j:Nat} {o:Out V} (hn:0<n) (ht:t.length≤aq) (hj:j≤t.length) (hf:aq+100<fu) (h:Out.ok (.int ((max (j+du fJ (t.drop j)) (k+1):Nat):Int)) O=o):
  fH (ah (ay aw fu n) fu (.cons (.dD (.call 0 (.cons (.slice (.loc 0) (.loc 3) (.bin .add (.loc 3) (.int 1)) true true) .nil)) (.cons (.aA 3 (.bin .add (.loc 3) (.int 1))) .nil)) (.cons (.ret (.bi .max (.cons (.loc 3) (.cons (.bin .add (.loc 1) (.int 1)) .nil)))) .nil)) [some (.str t),some (.int (k:Int)),some (.str [c]),some (.int (j:Int))] O)=o:=
 wb (IV (L:=[some (.str t),some (.int (k:Int)),some (.str [c]),none]) (i:=3) hn ht rfl (by decide) (adu 3) hj hf) ((congrArg fH (xB (fq (aJ rfl (aJ rfl rfl)) Jd))).trans h)
theorem EE {c:Nat} {r:List Nat} (hd:t.drop k=c::r) (hn:0<n) (ht:t.length≤aq) (hf:aq+100<fu):ay aw fu (n+1) 8 [.str t,.int (k:Int)] O= .ok (.int ((k+a8 (c::r):Nat):Int)) O:=match n,hn with
 |m+1,hn=>by
  have aK:=j6 hd
  refine (qx (F:=⟨2,4,ID⟩) rfl rfl (by decide)).trans (pM (bj rfl rfl (iP hd)) (tX (aO rfl rfl jH) (λh=>?_) λh=>tX (aO rfl rfl jH) (λh2=>?_) λh2=>pM rfl ?_))
  ·rw [show a8 (c::r)=1+eu false r from if_pos (ado h)]
   exact (aam hd ht hf).trans (by rw [hd];rfl)
  ·rw [show a8 (c::r)=uD (c::r) from (if_neg (adp h)).trans (if_pos (ado h2)), ←hd]
   exact To ht (Nat.le_of_lt aK) hf
  ·by_cases h3:c=39
   ·rw [Aw (ae:=O) ((aO rfl rfl jH).trans (by rw [decide_eq_true h3])),show a8 (c::r)=1+du fJ r from (if_neg (adp h)).trans ((if_neg (adp h2)).trans (if_pos h3))]
    exact KI (j:=k+1) hn ht aK hf (by rw [dF 1 hd,Nat.max_eq_left (adn _ _),Nat.add_assoc];rfl)
   ·rw [zz (ae:=O) ((aO rfl rfl jH).trans (by rw [decide_eq_false h3])),show a8 (c::r)=max (du fJ (c::r)) 1 from (if_neg (adp h)).trans ((if_neg (adp h2)).trans (if_neg h3))]
    exact KI (j:=k) hn ht (Nat.le_of_lt aK) hf (by rw [hd,Nat.add_max_add_left])
theorem Wf:ay aw fu (n+1) 9 [.str t] O= .ok (.int ((t.count 10:Nat):Int)) O:=rfl
end
noncomputable def aj (O af:ag):Prop:=O.length≤af.length∧∀i,i<O.length→af[i]?=O[i]?
section
variable {O af io:ag} {i j:Nat} {c d:Cell}
theorem dE (h:O[i]?=some c):i<O.length:=(List.getElem?_eq_some_iff.1 h).1
theorem aj.refl:aj O O:=⟨adq _,λ_ _=>rfl⟩
theorem aj.trans (h:aj O af) (h2:aj af io):aj O io:=⟨adk h.1 h2.1,λi hi=>(h2.2 i (adl hi h.1)).trans (h.2 i hi)⟩
theorem aj.get (h:aj O af) (g:O[i]?=some c):af[i]?=some c:=(h.2 i (dE g)).trans g
theorem mh (h:O[i]?=some c):(O++[d])[i]?=some c:=(List.getElem?_append_left (dE h)).trans h
theorem bH:(O++[d])[O.length]?=some d:=by rw [List.getElem?_append_right (adq _),Nat.sub_self];rfl
theorem de (h:O[i]?=some c):(O.set i d)[i]?=some d:=List.getElem?_set_self (dE h)
theorem fQ (h:O[j]?=some c) (ne:i≠j):(O.set i d)[j]?=some c:=(List.getElem?_set_ne ne).trans h
theorem kW:(O++[d]).length=O.length+1:=List.length_append
theorem aj.push (h:aj O af):aj O (af++[d]):=⟨kW▸Nat.le_succ_of_le h.1,λi hi=>(List.getElem?_append_left (adl hi h.1)).trans (h.2 i hi)⟩
theorem aj.set (h:aj O af) (hi:O.length≤i):aj O (af.set i d):=⟨List.length_set.symm▸h.1,λj hj=>(List.getElem?_set_ne (Nat.ne_of_gt (adl hj hi))).trans (h.2 j hj)⟩
end
section
variable {O:ag} {n:Nat}
theorem ip {xs:List V} {v:V} (h:O[n]?=some (.list xs)) (hl:xs.length<aq):fM .append O (.ref n) [v]= .ok .none (O.set n (.list (xs++[v]))):=
  (g6 (f:=λxs=>if xs.length<aq then Out.ok V.none (O.set n (.list (xs++[v]))) else .stuck) h).trans (if_pos hl)
theorem strs_map:∀l:List (List Nat),hS (l.map .str)=some l
 |[]=>rfl
 |s::r=>congrArg (Option.map (s:: ·)) (strs_map r)
theorem join_nil:∀l:List (List Nat),cv [] l=l.flatten
 |[]=>rfl
 |[x]=>(List.append_nil x).symm
 |x::y::r=>show x++[]++cv [] (y::r)=_ by rw [join_nil (y::r),List.append_nil];rfl
theorem qI {s:List Nat} {l:List (List Nat)} (h:O[n]?=some (.list (l.map .str))) (hl:(cv s l).length+s.length≤aq):fM .join O (.str s) [.ref n]= .ok (.str (cv s l)) O:=
  (g6 (d:=Out.stuck) (f:=λxs=>bK (hS xs) Out.stuck λl=>if (cv s l).length+s.length≤aq then Out.ok (V.str (cv s l)) O else .stuck) h).trans (kH (strs_map l) (if_pos hl))
theorem ud {l:List (List Nat)} (h:O[n]?=some (.list (l.map .str))) (hl:l.flatten.length≤aq):fM .join O (.str []) [.ref n]= .ok (.str l.flatten) O:=
  (qI h (join_nil l▸hl)).trans (by rw [join_nil])
theorem Ip {s:List Nat} (h:vP s=true):fM .strip O (.str s) []= .ok (.str (cZ s)) O:=if_pos h
theorem vQ (l:List (List Nat)) (s:List Nat):l.map V.str++[.str s]=(l++[s]).map V.str:=by rw [List.map_append];rfl
theorem nz (l:List (List Nat)) (s:List Nat):(l++[s]).flatten=l.flatten++s:=by rw [List.flatten_append,List.flatten_cons,List.flatten_nil,List.append_nil]
theorem Vt {l:List (List Nat)} {j:Nat} {t:List Nat} (h:l.length≤j) (hj:j≤t.length) (ht:t.length+1≤aq):(l.map V.str).length<aq:=List.length_map (as:=l) V.str▸adm (adk h hj) ht
theorem oe {α:Type} {l:List α} {s:α} {j e:Nat} (h:l.length≤j) (he:0<e):(l++[s]).length≤j+e:=List.length_append (as:=l) (bs:=[s])▸Nat.add_le_add h he
theorem lO {l:List (List Nat)} {s:List Nat} {t:List Nat} {j:Nat} (h:O[n]?=some (.list (l.map .str))) (hl:l.length≤j) (hj:j≤t.length) (ht:t.length+1≤aq):fM .append O (.ref n) [.str s]= .ok .none (O.set n (.list ((l++[s]).map .str))):=
  (ip h (Vt hl hj ht)).trans (by rw [vQ])
end
noncomputable def a9 (s:List Nat):Prop:=∀c∈s,c<128
theorem Hx {s:List Nat} (h:a9 s):vP s=true:=List.all_eq_true.2 λc hc=>decide_eq_true (h c hc)
theorem a9.append {a b:List Nat} (h:a9 a) (h2:a9 b):a9 (a++b):=λc hc=>(List.mem_append.1 hc).elim (h c) (h2 c)
theorem a9.drop {a:List Nat} (h:a9 a) (k:Nat):a9 (a.drop k):=λc hc=>h c (List.mem_of_mem_drop hc)
theorem a9.take {a:List Nat} (h:a9 a) (k:Nat):a9 (a.take k):=λc hc=>h c (List.mem_of_mem_take hc)
theorem Cu {p:Nat→Bool} {c:Nat}:∀{s:List Nat},c∈s.dropWhile p→c∈s
 |[],h=>h
 |d::r,h=>by
  rw [List.dropWhile_cons] at h
  split at h
  ·exact List.mem_cons_of_mem _ (Cu h)
  ·exact h
theorem a9.strip {s:List Nat} (h:a9 s):a9 (cZ s):=λc hc=>h c (Cu (List.mem_reverse.1 (Cu (List.mem_reverse.1 hc))))
noncomputable def iV (x:Nat):Nat:=if x=10 then 32 else x
theorem a9.iV {a:List Nat} (h:a9 a):a9 (a.map iV):=λc hc=>by
 obtain ⟨x,hx,rfl⟩:=List.mem_map.1 hc
 unfold Mine.Q.iV
 split
 ·decide
 ·exact h x hx
noncomputable def cS:Nat→Nat→List (List Nat)→List Nat→Nat→List Nat→Option (Option (List (List Nat)×Nat))
 |0,_,_,_,_,_=>none
 |_+1,_,_,_,_,[]=>some none
 |f+1,d,as,cf,k,c::r=>
  if 0<cp (c::r) then cS f d as (cf++[32]) (k+cp (c::r)) ((c::r).drop (cp (c::r)))
  else if d=0∧(c=44∨c=41) then
   if c=41 then some (some (as++[cZ cf],k+1)) else cS f 0 (as++[cZ cf]) [] (k+1) r
  else if c∈[40,91,123] then cS f (d+1) as (cf++((c::r).take (a8 (c::r))).map iV) (k+a8 (c::r)) ((c::r).drop (a8 (c::r)))
  else if c∈[41,93,125] then if d=0 then some none else cS f (d-1) as (cf++((c::r).take (a8 (c::r))).map iV) (k+a8 (c::r)) ((c::r).drop (a8 (c::r)))
  else cS f d as (cf++((c::r).take (a8 (c::r))).map iV) (k+a8 (c::r)) ((c::r).drop (a8 (c::r)))
noncomputable def ez (f k:Nat):List Nat→Option (Option (List (List Nat)×Nat))
 |[]=>some none
 |c::r=>if c=40 then cS f 0 [] [] (k+1) r else some none
noncomputable def Dg (O af:ag) (v:V):Option (List (List Nat)×Nat)→Prop
 |none=>v= .none
 |some (as,e)=>∃A,v= .tup [.ref A,.int (e:Int)]∧O.length≤A∧af[A]?=some (.list (as.map .str))∧∀s∈as,a9 s
@[elab_as_elim] theorem yN {O af:ag} {v:V} {as:List (List Nat)} {e:Nat} {P:V→Prop} (h:Dg O af v (some (as,e))) (k:∀A,O.length≤A→af[A]?=some (.list (as.map .str))→(∀s∈as,a9 s)→P (.tup [.ref A,.int (e:Int)])):P v:=match h with
 |⟨A,q,h1,h2,h3⟩=>q▸k A h1 h2 h3
theorem qs:a9 []:=λ_ h=>nomatch h
theorem t7:a9 [32]:=λc h=>by cases h with |head=>decide |tail _ h=>cases h
section
variable {fu n:Nat} {t:List Nat} {k:Nat} {O:ag} {X:aX→ag→Prop}
theorem dm:aq=16777216:=by unfold aq;exact Eq.refl _
theorem iu (h:t.length≤8000000):t.length+1≤aq:=adk (Nat.succ_le_succ h) (dm▸by decide)
theorem iQ {C:Calls} {L:Locals} {a e:E} {p:Nat} {s s':ag} {v:V} {xs:List V} (h1:ev C fu a L s= .ok (.ref p) s) (h:s[p]?=some (.list xs)) (h2:ev C fu e L s= .ok v s) (hl:fM .append s (.ref p) [v]= .ok .none s'):
  ev C fu (.bt .append a (.cons e .nil)) L s= .ok .none s':=iw h1 h rfl (aJ h2 AW) hl
theorem Qu {f:Nat}:∀{s:List Nat},s.take 1≠[40]→ez f k s=some none
 |[],_=>rfl
 |c::r,h=>if_neg λq=>h (by rw [q];rfl)
theorem aaR {P:Prop}:∀{s:List Nat},s.take 1=[40]→(∀r,s=40::r→P)→P
 |[],h,_=>nomatch h
 |c::r,h,k=>k r (by cases h;rfl)
section
variable {f d:Nat} {as:List (List Nat)} {cf:List Nat} {c:Nat} {r:List Nat} {res:Option (List (List Nat)×Nat)}
theorem QA {P:Prop} (h:cS f d as cf k (c::r)=some res) (kk:∀g,cS (g+1) d as cf k (c::r)=some res→P):P:=match f,h with
 |g+1,h=>kk g h
theorem Ys (h:cS f d as cf k []=some res):res=none:=match f,h with
 |g+1,h=>(Option.some.inj h).symm
theorem PJ (h:cS (f+1) d as cf k (c::r)=some res) (h1:0<cp (c::r)):cS f d as (cf++[32]) (k+cp (c::r)) ((c::r).drop (cp (c::r)))=some res:=(if_pos h1).symm.trans h
theorem Ny (h:cS (f+1) d as cf k (c::r)=some res) (h1:¬0<cp (c::r)):(if d=0∧(c=44∨c=41) then
   if c=41 then some (some (as++[cZ cf],k+1)) else cS f 0 (as++[cZ cf]) [] (k+1) r
  else if c∈[40,91,123] then cS f (d+1) as (cf++((c::r).take (a8 (c::r))).map iV) (k+a8 (c::r)) ((c::r).drop (a8 (c::r)))
  else if c∈[41,93,125] then if d=0 then some none else cS f (d-1) as (cf++((c::r).take (a8 (c::r))).map iV) (k+a8 (c::r)) ((c::r).drop (a8 (c::r)))
  else cS f d as (cf++((c::r).take (a8 (c::r))).map iV) (k+a8 (c::r)) ((c::r).drop (a8 (c::r))))=some res:=(if_neg h1).symm.trans h
end
structure uE (t:List Nat) (O:ag) (res:Option (List (List Nat)×Nat)) (j d p f:Nat) (as ps:List (List Nat)) (s:ag):Prop where
 hj:j≤t.length
 he:aj O s
 hp:O.length<p
 hA:s[O.length]?=some (.list (as.map .str))
 hP:s[p]?=some (.list (ps.map .str))
 l1:as.length≤j
 l2:ps.length≤j
 l3:ps.flatten.length≤j
 ha:a9 ps.flatten
 sR:∀s∈as,a9 s
 hg:cS f d as ps.flatten j (t.drop j)=some res
noncomputable def Dc (t:List Nat) (k A p d j:Nat) (x y:Option V):Locals:=[some (.str t),some (.int (k:Int)),some (.ref A),some (.ref p),some (.int (d:Int)),some (.int (j:Int)),x,y]
inductive AH (t:List Nat) (k:Nat) (O:ag) (res:Option (List (List Nat)×Nat)):Nat→Locals→ag→Prop where
 |mk {j d p f:Nat} {as ps:List (List Nat)} {x y:Option V} {s:ag}:uE t O res j d p f as ps s→AH t k O res (t.length-j) (Dc t k O.length p d j x y) s
theorem uE.more {res:Option (List (List Nat)×Nat)} {j d0 p f0:Nat} {as ps:List (List Nat)} {s:ag} (h:uE t O res j d0 p f0 as ps s) {e d f:Nat} {w:List Nat} (he:0<e) (hl:w.length≤e) (hw:a9 w) (hj:j+e≤t.length) (hg:cS f d as (ps.flatten++w) (j+e) (t.drop (j+e))=some res):
  uE t O res (j+e) d p f as (ps++[w]) (s.set p (.list ((ps++[w]).map .str))):=by
 have q:(ps++[w]).flatten=ps.flatten++w:=nz ..
 exact ⟨hj,h.he.set (Nat.le_of_lt h.hp),h.hp,fQ h.hA (Nat.ne_of_gt h.hp),de h.hP,adk h.l1 (adn _ _),oe h.l2 he,by rw [q,List.length_append];exact Nat.add_le_add h.l3 hl,q▸h.ha.append hw,h.sR,q▸hg⟩
theorem XQ {as:List (List Nat)} {w:List Nat} (h:∀s∈as,a9 s) (hw:a9 w):∀s∈as++[w],a9 s:=λq hq=>(List.mem_append.1 hq).elim (h q) λhq=>List.mem_singleton.1 hq▸hw
theorem Ut {m fu:Nat} {Q:Flow→Locals→ag→Prop} {ss:Ss} {K:Locals→ag→Prop} {res:Option (List (List Nat)×Nat)} (hm:0<m) (cJ:t.length≤8000000) (ha:a9 t) (hf:aq+100<fu) {j d p f c:Nat} {as ps:List (List Nat)} {s:ag} {r:List Nat} (hd:t.drop j=c::r) {f0:Nat} (hi:uE t O res j d p f0 as ps s) (qH:cS (f+1) d as ps.flatten j (c::r)=some res) (h1:¬0<cp (c::r)) (h2:¬(d=0∧(c=44∨c=41)))
    (hK:∀m' L s',m'<t.length-j→AH t k O res m' L s'→K L s') (hQ:∀L,res=none→Q (.ret .none) L s) {y:Option V}:
  Wq (ah (ay aw fu (m+1)) fu
      (.cons (.aA 7 (.call 8 (.cons (.loc 0) (.cons (.loc 5) .nil))))
      (.cons (.ite (.cmp .isin (.loc 6) (.str [40,91,123]))
       (.cons (.aA 4 (.bin .add (.loc 4) (.int 1))) .nil)
       (.cons (.ite (.cmp .isin (.loc 6) (.str [41,93,125]))
         (.cons (.aA 4 (.bin .sub (.loc 4) (.int 1))) .nil) .nil) .nil))
      (.cons (.ite (.cmp .lt (.loc 4) (.int 0))
       (.cons (.ret .none) .nil) .nil)
      (.cons (.expr (.bt .append (.loc 3) (.cons (.j4 (.slice (.loc 0) (.loc 5) (.loc 7) true true) 10 32) .nil))) .nil)))) (Dc t k O.length p d j (some (.str [c])) y) s) (Nx (ay aw fu (m+1)) fu .nil (Nx (ay aw fu (m+1)) fu (.cons (.aA 5 (.loc 7)) .nil) (Lp (ay aw fu (m+1)) fu ss Q X K) X) X) X:=by
 have f5:=iu cJ
 have ht:=Nat.le_of_succ_le f5
 have aK:=j6 hd
 have hw:=tF c r
 have jY:=vi hd
 have hg:=Ny qH h1
 rw [if_neg h2] at hg
 have fin:∀(d':Nat),cS f d' as (ps.flatten++((c::r).take (a8 (c::r))).map iV) (j+a8 (c::r)) ((c::r).drop (a8 (c::r)))=some res→Wq (ah (ay aw fu (m+1)) fu (.cons (.ite (.cmp .lt (.loc 4) (.int 0))
       (.cons (.ret .none) .nil) .nil)
      (.cons (.expr (.bt .append (.loc 3) (.cons (.j4 (.slice (.loc 0) (.loc 5) (.loc 7) true true) 10 32) .nil))) .nil)) (Dc t k O.length p d' j (some (.str [c])) (some (.int ((j+a8 (c::r):Nat):Int)))) s) (Nx (ay aw fu (m+1)) fu .nil (Nx (ay aw fu (m+1)) fu (.cons (.aA 5 (.loc 7)) .nil) (Lp (ay aw fu (m+1)) fu ss Q X K) X) X) X:=λd' hg=>by
  rw [←dF _ hd] at hg
  refine cg (aO rfl rfl (mi.trans (by rw [decide_eq_false (Int.not_lt.2 (Int.natCast_nonneg d'))]))) (dR (iQ rfl hi.hP (HG (eZ rfl rfl rfl ((kX (fE hi.hj ht) (fE jY ht)).trans (by rw [Nat.add_sub_cancel_left,hd]))) ?_) (lO hi.hP hi.l2 hi.hj f5)) (bx (.next (bx (.next (aV rfl (bx (.next (hK _ _ _ (Nat.sub_lt_sub_left aK (Nat.lt_add_of_pos_right hw)) (.mk (hi.more hw ?_ ?_ jY hg)))))))))))
  ·exact adk (List.length_take_le' ..) (adk (hd▸lT) cJ)
  ·rw [List.length_map];exact List.length_take_le _ _
  ·exact a9.iV (a9.take (hd▸ha.drop _) _)
 refine aV (eg (aJ rfl (aJ rfl rfl)) (EE hd hm ht hf)) (eQ (aO rfl rfl vO) (λh3=>aV (v:= .int ((d+1:Nat):Int)) rfl (bx (.next ?_))) λh3=>eQ (aO rfl rfl vO) (λh4=>?_) λh4=>bx (.next (bx (.next ?_))))
 ·rw [if_pos h3] at hg
  exact fin _ hg
 ·rw [if_neg h3,if_pos h4] at hg
  by_cases h5:d=0
  ·rw [if_pos h5] at hg
   exact aV rfl (n2 (cO ((aO rfl rfl mi).trans (congrArg (λb=>Out.ok (V.bool b) s) (decide_eq_true (by rw [h5];decide)))) (dp rfl (.ret (.ret (.ret (.ret (hQ _ (Option.some.inj hg).symm))))))))
  ·rw [if_neg h5] at hg
   exact aV (v:= .int ((d-1:Nat):Int)) (bG rfl rfl (vr.trans (congrArg (λi=>some (V.int i)) (Int.ofNat_sub (Nat.pos_of_ne_zero h5)).symm))) (n2 (fin _ hg))
 ·rw [if_neg h3,if_neg h4] at hg
  exact fin _ hg
theorem JH {Q:V→ag→Prop} {f:Nat} {res:Option (List (List Nat)×Nat)} (hn:1<n) (cJ:t.length≤8000000) (ha:a9 t) (hk:k≤t.length) (hf:aq+100<fu)
    (hp:ez f k (t.drop k)=some res) (H:∀v af,aj O af→Dg O af v res→Q v af):Wp (ay aw fu (n+1) 10 [.str t,.int (k:Int)] O) Q X:=match n,hn with
 |1,hn=>absurd hn (Nat.lt_irrefl _)
 |m0+2,_=>by
  have f5:=iu cJ
  have ht:=Nat.le_of_succ_le f5
  refine dY (L:=[some (.str t),some (.int (k:Int)),none,none,none,none,none,none]) rfl rfl (by decide) rfl (fB (t:= !decide ((t.drop k).take 1=[40])) (aO (eZ rfl rfl rfl (pa (e:=1) (jK hk ht (by decide)))) rfl m9) (λh0=>dp rfl (.ret (.ret (H _ _ .refl ?_)))) λh0=>bx (.next ?_))
  ·rw [Qu (adp (Bool.not_eq_true' _▸h0))] at hp
   exact Option.some.inj hp▸rfl
  ·refine aaR (ado (Bool.not_eq_false' _▸h0)) λr0 eF=>?_
   have qH:cS f 0 [] [] (k+1) (t.drop (k+1))=some res:=by rw [eF] at hp;rw [dF 1 eF];exact hp
   refine aV rfl (aV rfl (aV rfl (aV rfl (qz (AH t k O res) (.mk (as:=[]) (ps:=[]) ⟨j6 eF,aj.refl.push.push,kW (d:= .list [])▸adu _,mh bH,bH,ads _,ads _,ads _,qs,(λ_ h=>nomatch h),qH⟩) (adm (Nat.sub_le _ _) (lG ht hf)) (λm L s K hK h=>match m,L,s,h,hK with
   |_,_,_,.mk (j:=j) (d:=d) (p:=p) (f:=f) (as:=as) (ps:=ps) (x:=x) (y:=y) (s:=s) hi,hK=>⟨_,aO rfl rfl nT,λaK=>?_,λjX=>?_⟩)))))
   ·have aK:=ado aK
    refine vx aK λc r hd=>?_
    have tO:=Dq (t:=t) hi.hj
    have hg:=hi.hg
    rw [hd] at tO hg
    refine QA hg λg hg=>?_
    refine aV (bj rfl rfl (iP hd)) (aV ((eg (aJ rfl (aJ rfl rfl)) (J9 (Nat.succ_pos _) ht hi.hj hf)).trans (by rw [hd])) (eQ (aO rfl rfl FL) (λh1=>?_) λh1=>?_))
    ·have h1:=Nat.pos_of_lt_add_right h1
     have hg:=PJ hg h1
     rw [←dF _ hd] at hg
     exact dR (iQ rfl hi.hP rfl (lO hi.hP hi.l2 hi.hj f5)) (bx (.next (aV rfl (bx (.next (hK _ _ _ (Nat.sub_lt_sub_left aK (Nat.lt_add_of_pos_right h1)) (.mk (hi.more (w:=[32]) h1 h1 t7 tO hg))))))))
    ·have h1:¬0<cp (c::r):=λq=>h1 (Nat.lt_add_of_pos_right q)
     have IU:=hg
     have hg:=Ny IU h1
     refine fB (t:=decide (d=0)&&(decide (c=44)||decide (c=41))) (ku (fC (aO rfl rfl kQ) (fN (oN (jL (aO rfl rfl jH) (jT (aO rfl rfl jH))))))) (λh2=>?_) λh2=>?_
     ·rw [Bool.and_eq_true,Bool.or_eq_true,decide_eq_true_eq,decide_eq_true_eq,decide_eq_true_eq] at h2
      rw [if_pos h2] at hg
      have g1:(s.set O.length (Cell.list ((as++[cZ ps.flatten]).map .str)))[O.length]?=some (.list ((as++[cZ ps.flatten]).map .str)):=de hi.hA
      have pu:aj O (s.set O.length (Cell.list ((as++[cZ ps.flatten]).map .str))):=hi.he.set (adq _)
      have sR:=XQ hi.sR hi.ha.strip
      refine dR (iQ rfl hi.hA (jz (jz rfl rfl rfl (ud hi.hP (adk hi.l3 (adk hi.hj ht)))) rfl rfl (Ip (Hx hi.ha))) (lO hi.hA hi.l1 hi.hj f5)) (aV rfl (aV rfl (eQ (aO rfl rfl jH) (λh3=>?_) λh3=>?_)))
      ·rw [if_pos h3] at hg
       exact dp rfl (.ret (.ret (.ret (.ret (.ret (H _ _ pu.push (Option.some.inj hg▸⟨O.length,rfl,adq _,mh g1,sR⟩)))))))
      ·rw [if_neg h3, ←show t.drop (j+1)=r from dF 1 hd] at hg
       exact bx (.next (bx (.next (bx (.next (aV rfl (bx (.next (hK _ _ _ (Nat.sub_lt_sub_left aK (adu _)) (.mk (f:=g) (as:=as++[cZ ps.flatten]) (ps:=[]) (j:=j+1) (d:=d) ⟨aK,pu.push,by rw [List.length_set];exact dE hi.hA,mh g1,bH,oe hi.l1 Nat.one_pos,ads _,ads _,qs,sR,h2.1.symm▸hg⟩))))))))))
     ·refine Ut (Nat.succ_pos _) cJ ha hf hd hi IU h1 (λq=>?_) hK λL e=> .ret (H _ _ hi.he (e▸rfl))
      rw [decide_eq_true q.1,Bool.true_and,Bool.or_eq_false_iff,decide_eq_false_iff_not,decide_eq_false_iff_not] at h2
      exact q.2.elim h2.1 h2.2
   ·have hg:=hi.hg
    rw [List.drop_eq_nil_of_le (Nat.le_of_not_lt (adp jX))] at hg
    exact dp rfl (.ret (H _ _ hi.he (Ys hg▸rfl)))
end
section
variable {fu n:Nat} {t:List Nat} {k:Nat} {O:ag}
theorem sq {P:Nat→Prop} (hn:1<n) (h:∀m,0<m→P (m+1)):P n:=match n,hn with
 |m+2,_=>h (m+1) (Nat.succ_pos _)
theorem vM (hn:1<n) (ht:t.length≤aq) (hk:k≤t.length) (hf:aq+100<fu):ay aw fu n 1 [.str t,.int (k:Int)] O= .ok (.int ((k+aC (t.drop k):Nat):Int)) O:=sq (P:=λn=>ay aw fu n 1 _ O=_) hn λm hm=>ZC hm ht hk hf
theorem Ro (hn:1<n) (ht:t.length≤aq) (hk:k≤t.length) (hf:aq+100<fu):ay aw fu n 3 [.str t,.int (k:Int)] O= .ok (.int ((k+Cm (t.drop k):Nat):Int)) O:=sq (P:=λn=>ay aw fu n 3 _ O=_) hn λm hm=>Yz ht hk hf
theorem UA (hn:1<n) (ht:t.length≤aq) (hk:k≤t.length) (hf:aq+100<fu):ay aw fu n 4 [.str t,.int (k:Int)] O= .ok (.int ((k+dG (t.drop k):Nat):Int)) O:=sq (P:=λn=>ay aw fu n 4 _ O=_) hn λm hm=>RS ht hk hf
theorem D9 (hn:1<n) (ht:t.length≤aq) (hk:k≤t.length) (hf:aq+100<fu):ay aw fu n 6 [.str t,.int (k:Int)] O= .ok (.int ((k+cp (t.drop k):Nat):Int)) O:=sq (P:=λn=>ay aw fu n 6 _ O=_) hn λm hm=>J9 hm ht hk hf
theorem vy {c:Nat} {r:List Nat} (hd:t.drop k=c::r) (hn:1<n) (ht:t.length≤aq) (hf:aq+100<fu):ay aw fu n 8 [.str t,.int (k:Int)] O= .ok (.int ((k+a8 (c::r):Nat):Int)) O:=sq (P:=λn=>ay aw fu n 8 _ O=_) hn λm hm=>EE hd hm ht hf
theorem DP (hn:1<n):ay aw fu n 9 [.str t] O= .ok (.int ((t.count 10:Nat):Int)) O:=sq (P:=λn=>ay aw fu n 9 _ O=_) hn λm hm=>Wf
theorem wq {j c w:Nat} {r:List Nat} (hd:t.drop j=c::r) (hj:j<16777300) (hw:j+w<16777300):jx O (.str t) (.int (j:Int)) (.int ((j+w:Nat):Int)) true true= .ok (.str ((c::r).take w)) O:=(kX hj hw).trans (by rw [Nat.add_sub_cancel_left,hd])
end
noncomputable def n7 (ns as:List (List Nat)) (p:List Nat):Option (List Nat):=match gR p ns with
 |some i=>as[i]?
 |none=>some p
noncomputable def iy (ns as:List (List Nat)):Nat→List Nat→Option (List Nat)
 |0,_=>none
 |_+1,[]=>some []
 |f+1,c::r=>match n7 ns as ((c::r).take (a8 (c::r))),iy ns as f ((c::r).drop (a8 (c::r))) with
  |some q,some s=>some (q++s)
  |_,_=>none
noncomputable def df:Nat→Nat→List Nat→List Nat→Option (List Nat×Nat)
 |0,_,_,_=>none
 |_+1,k,acc,[]=>some (acc,k)
 |f+1,k,acc,c::r=>if c=10 then some (acc,k)
  else if 0<cp (c::r) then df f (k+cp (c::r)) (acc++[32]) ((c::r).drop (cp (c::r)))
  else if c=92∧r.take 1=[10] then df f (k+2) (acc++[32]) ((c::r).drop 2)
  else if (c::r).take 3=[92,13,10] then df f (k+3) (acc++[32]) ((c::r).drop 3)
  else df f (k+a8 (c::r)) (acc++(c::r).take (a8 (c::r))) ((c::r).drop (a8 (c::r)))
theorem aag {o o':Option (List Nat)} {res:List Nat} {P:Prop} (h:(match o,o' with |some q,some s=>some (q++s) |_,_=>none)=some res) (k:∀q s,o=some q→o'=some s→q++s=res→P):P:=match o,o',h with
 |some q,some s,h=>k q s rfl rfl (Option.some.inj h)
theorem Cj {x:List Nat}:∀{l:List (List Nat)},x∉l→gR x l=none
 |[],_=>rfl
 |y::r,h=>(if_neg λq=>h (by rw [q];exact List.mem_cons_self)).trans (congrArg (Option.map (· +1)) (Cj λq=>h (List.mem_cons_of_mem _ q)))
theorem M4 {x:List Nat} {P:Prop}:∀{l:List (List Nat)},x∈l→(∀i,gR x l=some i→P)→P
 |[],h,_=>nomatch h
 |y::r,h,k=>if q:y=x then k 0 (if_pos q) else M4 ((List.mem_cons.1 h).resolve_left λe=>q e.symm) λi hi=>k (i+1) ((if_neg q).trans (congrArg (Option.map (· +1)) hi))
theorem I6 {O:ag} {x:List Nat} {n:Nat} {l:List (List Nat)} (h:O[n]?=some (.list (l.map .str))):lX O (.str x) (.ref n)=some (decide (x∈l)):=by
 show gX O n Option.none (λc=>c.eX _ λvs=>(hS vs).map λl=>decide (x∈l))=_
 unfold gX
 rw [h]
 exact congrArg (Option.map λl=>decide (x∈l)) (strs_map l)
theorem abd {O:ag} {x:List Nat} {n i:Nat} {l:List (List Nat)} (h:O[n]?=some (.list (l.map .str))) (hi:gR x l=some i):fM .index O (.ref n) [.str x]= .ok (.int (i:Int)) O:=
  (g6 (d:=Out.stuck) (f:=λxs=>bK (hS xs) Out.stuck λl=>bK (gR x l) Out.stuck λi=>Out.ok (V.int (i:Int)) O) h).trans (kH (strs_map l) (kH hi rfl))
theorem eA {O:ag} {n i:Nat} {xs:List V} {v:V} (h:O[n]?=some (.list xs)) (hv:xs[i]?=some v):dh O (.ref n) (.int (i:Int))=some v:=
  (g6 (d:=Option.none) (f:=λvs=>if 0≤(i:Int) then vs[(i:Int).toNat]? else if (i:Int)= -1 then vs.getLast? else Option.none) h).trans ((if_pos (Int.natCast_nonneg i)).trans hv)
section
variable {fu n:Nat} {t:List Nat} {k:Nat} {O:ag} {X:aX→ag→Prop}
theorem Vp {ns as:List (List Nat)} {c:Nat} {r res:List Nat} {P:Prop} {f:Nat} (h:iy ns as f (c::r)=some res) (k:∀g q s1,n7 ns as ((c::r).take (a8 (c::r)))=some q→iy ns as g ((c::r).drop (a8 (c::r)))=some s1→q++s1=res→P):P:=match f,h with
 |f+1,h=>aag (o:=n7 ns as ((c::r).take (a8 (c::r)))) h (k f)
theorem Ul {ns as:List (List Nat)} {res:List Nat}:∀{f:Nat},iy ns as f []=some res→res=[]
 |_+1,h=>(Option.some.inj h).symm
inductive IQ (t:List Nat) (nn na:Nat) (ns as:List (List Nat)) (O:ag) (res:List Nat):Nat→Locals→ag→Prop where
 |mk {j f:Nat} {ps:List (List Nat)} {r:List Nat} {x y:Option V} {s:ag} (hj:j≤t.length) (he:aj O s) (hP:s[O.length]?=some (.list (ps.map .str))) (l2:ps.length≤j) (hg:iy ns as f (t.drop j)=some r) (hr:ps.flatten++r=res):
   IQ t nn na ns as O res (t.length-j) [some (.str t),some (.ref nn),some (.ref na),some (.ref O.length),some (.int (j:Int)),x,y] s
theorem Od {Q:V→ag→Prop} {f nn na:Nat} {ns as:List (List Nat)} {res:List Nat} (hn:1<n) (cJ:t.length≤8000000) (hf:aq+100<fu)
    (gN:O[nn]?=some (.list (ns.map .str))) (gA:O[na]?=some (.list (as.map .str))) (hp:iy ns as f t=some res) (hl:res.length≤aq) (H:∀af,aj O af→Q (.str res) af):
  Wp (ay aw fu (n+1) 11 [.str t,.ref nn,.ref na] O) Q X:=by
 have f5:=iu cJ
 have ht:=Nat.le_of_succ_le f5
 refine dY rfl rfl (by decide) rfl (aV rfl (aV rfl (qz (IQ t nn na ns as O res) (.mk (j:=0) (ps:=[]) (r:=res) (ads _) aj.refl.push bH (ads _) hp rfl) (lG ht hf) λm L s K hK h=>?_)))
 cases h with
 |@mk j f ps r0 x y s hj he hP l2 hg hr=>
  refine ⟨_,aO rfl rfl nT,λaK=>?_,λjX=>?_⟩
  ·have aK:=ado aK
   refine vx aK λc r hd=>?_
   have hw:=tF c r
   have jY:=vi hd
   rw [hd] at hg
   refine Vp hg λg q s1 hq hs S9=>?_
   rw [←dF _ hd] at hs
   have fin:∀{y},Wq (ah (ay aw fu n) fu (.cons (.expr (.bt .append (.loc 3) (.cons (.loc 6) .nil))) (.cons (.aA 4 (.loc 5)) .nil)) [some (.str t),some (.ref nn),some (.ref na),some (.ref O.length),some (.int (j:Int)),some (.int ((j+a8 (c::r):Nat):Int)),some (.str q)] s) (Lp (ay aw fu n) fu y (bL Q) X K) X:=
    dR (iQ rfl hP rfl (lO hP l2 hj f5)) (aV rfl (bx (.next (hK _ _ _ (wk aK hw) (.mk jY (he.set (adq _)) (de hP) (oe l2 hw) hs (by rw [nz,List.append_assoc,S9];exact hr))))))
   refine aV (eg (aJ rfl (aJ rfl rfl)) (vy hd hn ht hf)) (aV (eZ rfl rfl rfl (wq hd (fE hj ht) (fE jY ht))) (eQ (aO rfl rfl (nM (I6 (he.get gN)))) (λh1=>?_) λh1=>?_))
   ·refine M4 h1 λi hi=>?_
    rw [n7,hi] at hq
    exact aV (bj rfl (iw rfl (he.get gN) rfl rfl (abd (he.get gN) hi)) (eA (he.get gA) (by rw [List.getElem?_map,show as[i]?=some q from hq];rfl))) (bx (.next fin))
   ·rw [n7,Cj h1] at hq
    exact bx (.next (Option.some.inj hq▸fin))
  ·rw [List.drop_eq_nil_of_le (Nat.le_of_not_lt (adp jX))] at hg
   have hr:ps.flatten=res:=by rw [←hr,Ul hg,List.append_nil]
   exact dp (jz rfl rfl rfl (ud hP (hr▸hl))) (hr▸ .ret (H _ he))
section
variable {f e c:Nat} {r acc nR:List Nat}
theorem Sn {P:Prop} (h:df f k acc (c::r)=some (nR,e)) (tA:c≠10) (kk:∀g,(if 0<cp (c::r) then df g (k+cp (c::r)) (acc++[32]) ((c::r).drop (cp (c::r)))
  else if c=92∧r.take 1=[10] then df g (k+2) (acc++[32]) ((c::r).drop 2)
  else if (c::r).take 3=[92,13,10] then df g (k+3) (acc++[32]) ((c::r).drop 3)
  else df g (k+a8 (c::r)) (acc++(c::r).take (a8 (c::r))) ((c::r).drop (a8 (c::r))))=some (nR,e)→P):P:=match f,h with
 |g+1,h=>kk g ((if_neg tA).symm.trans h)
theorem U9 {s:List Nat} (hr:su s=false) (h:df f k acc s=some (nR,e)):(acc,k)=(nR,e):=match f,s,hr,h with
 |_+1,[],_,h=>Option.some.inj h
 |_+1,c::r,hr,h=>Option.some.inj ((if_pos (ado (Bool.not_eq_false' _▸hr))).symm.trans h)
end
structure Jw (t:List Nat) (O:ag) (acc:List Nat) (e j f:Nat) (ps:List (List Nat)) (s:ag):Prop where
 hj:j≤t.length
 he:aj O s
 hP:s[O.length]?=some (.list (ps.map .str))
 l2:ps.length≤j
 l3:ps.flatten.length≤j
 ha:a9 ps.flatten
 hg:df f j ps.flatten (t.drop j)=some (acc,e)
inductive RB (t:List Nat) (k:Nat) (O:ag) (acc:List Nat) (e:Nat):Nat→Locals→ag→Prop where
 |mk {j f:Nat} {ps:List (List Nat)} {x:Option V} {s:ag}:Jw t O acc e j f ps s→RB t k O acc e (t.length-j) [some (.str t),some (.int (k:Int)),some (.ref O.length),some (.int (j:Int)),x] s
theorem Je {j w:Nat} {l:List Nat} (hj:j≤t.length) (h:(t.drop j).take w=l):j+l.length≤t.length:=by
 rw [←h, ←mx hj,Nat.add_comm]
 exact Nat.add_le_add_right (by rw [List.length_take];exact Nat.min_le_right _ _) j
theorem yH {acc:List Nat} {e j g f w:Nat} {ps:List (List Nat)} {s:ag} {Q:Flow→Locals→ag→Prop} {ss:Ss} {K:Locals→ag→Prop} (h:Jw t O acc e j f ps s) (hK:∀m' L s',m'<t.length-j→RB t k O acc e m' L s'→K L s') {q:List Nat} (aK:j<t.length) (hw:0<w) (jY:j+w≤t.length) (hq:q.length≤w) (U2:a9 q) (hg:df g (j+w) (ps.flatten++q) (t.drop (j+w))=some (acc,e)):
  Wq (ah (ay aw fu n) fu (.cons (.aA 3 (.loc 4)) .nil) [some (.str t),some (.int (k:Int)),some (.ref O.length),some (.int (j:Int)),some (.int ((j+w:Nat):Int))] (s.set O.length (.list ((ps++[q]).map .str)))) (Lp (ay aw fu n) fu ss Q X K) X:=
 aV rfl (bx (.next (hK _ _ _ (wk aK hw) (.mk ⟨jY,h.he.set (adq _),de h.hP,oe h.l2 hw,by rw [nz,List.length_append];exact Nat.add_le_add h.l3 hq,nz .. ▸h.ha.append U2,nz .. ▸hg⟩))))
theorem EV {Q:V→ag→Prop} {f e:Nat} {acc:List Nat} (hn:1<n) (cJ:t.length≤8000000) (ha:a9 t) (hk:k≤t.length) (hf:aq+100<fu)
    (hp:df f k [] (t.drop k)=some (acc,e)) (H:∀af,aj O af→Q (.tup [.str (cZ acc),.int (e:Int)]) af):Wp (ay aw fu (n+1) 12 [.str t,.int (k:Int)] O) Q X:=by
 have f5:=iu cJ
 have ht:=Nat.le_of_succ_le f5
 refine dY rfl rfl (by decide) rfl (aV rfl (aV rfl (qz (RB t k O acc e) (.mk (j:=k) (ps:=[]) ⟨hk,aj.refl.push,bH,ads _,ads _,qs,hp⟩) (adm (Nat.sub_le _ _) (lG ht hf)) λm L s K hK h=>?_)))
 cases h with
 |@mk j f ps x s hi=>
  refine ⟨su (t.drop j),tw rfl rfl rfl λc r hd=>fN (aO (bj rfl rfl (iP hd)) rfl vW),λhr=>Gg hr λc r hd tA=>?_,λhr=>?_⟩
  ·have aK:=j6 hd
   have qH:=hi.hg
   rw [hd] at qH
   refine Sn qH tA λg hg=>?_
   refine aV ((eg (aJ rfl (aJ rfl rfl)) (D9 hn ht hi.hj hf)).trans (by rw [hd])) (eQ (aO rfl rfl FL) (λh1=>?_) λh1=>?_)
   ·have h1:=Nat.pos_of_lt_add_right h1
    rw [if_pos h1, ←dF _ hd] at hg
    exact dR (iQ rfl hi.hP rfl (lO hi.hP hi.l2 hi.hj f5)) (bx (.next (yH (q:=[32]) hi hK aK h1 (hd▸Dq hi.hj) h1 t7 hg)))
   ·rw [if_neg λq=>h1 (Nat.lt_add_of_pos_right q)] at hg
    have dw:t.drop (j+1)=r:=dF 1 hd
    refine fB (t:=decide (c=92)&&decide (r.take 1=[10])) (ku (fC (aO (bj rfl rfl (iP hd)) rfl jH) (fN (aO (eZ rfl rfl rfl (v:= .str (r.take 1)) ?_) rfl pq)))) (λh2=>?_) λh2=>?_
    ·exact (kX (jK hi.hj ht (by decide)) (jK hi.hj ht (by decide))).trans (by rw [show j+2-(j+1)=1 from Nat.add_sub_cancel_left (j+1) 1,dw])
    ·rw [Bool.and_eq_true,decide_eq_true_eq,decide_eq_true_eq] at h2
     rw [if_pos h2, ←dF _ hd] at hg
     exact dR (iQ rfl hi.hP rfl (lO hi.hP hi.l2 hi.hj f5)) (aV rfl (bx (.next (bx (.next (yH (q:=[32]) hi hK aK (Nat.succ_pos 1) (show j+1+[10].length≤t.length from Je (w:=1) aK (by rw [dw];exact h2.2)) (by decide) t7 hg))))))
    ·rw [if_neg λq=>by rw [decide_eq_true q.1,decide_eq_true q.2] at h2;cases h2] at hg
     refine eQ (p:=(c::r).take 3=[92,13,10]) (aO (eZ rfl rfl rfl (pa (e:=3) (jK hi.hj ht (by decide)))) rfl (by rw [hd];exact pq)) (λh3=>?_) λh3=>?_
     ·rw [if_pos h3, ←dF _ hd] at hg
      exact dR (iQ rfl hi.hP rfl (lO hi.hP hi.l2 hi.hj f5)) (aV rfl (bx (.next (bx (.next (bx (.next (yH (q:=[32]) hi hK aK (Nat.succ_pos 2) (show j+[92,13,10].length≤t.length from Je (w:=3) hi.hj (by rw [hd];exact h3)) (by decide) t7 hg))))))))
     ·rw [if_neg h3, ←dF _ hd] at hg
      have jY:=vi hd
      exact aV (eg (aJ rfl (aJ rfl rfl)) (vy hd hn ht hf)) (dR (iQ rfl hi.hP (eZ rfl rfl rfl (wq hd (fE hi.hj ht) (fE jY ht))) (lO hi.hP hi.l2 hi.hj f5)) (bx (.next (bx (.next (bx (.next (yH hi hK aK (tF c r) jY (List.length_take_le _ _) (a9.take (hd▸ha.drop _) _) hg))))))))
  ·have e1:=congrArg (λx:List Nat×Nat=>V.tup [.str (cZ x.1),.int (x.2:Int)]) (U9 hr hi.hg)
   exact dp (og (aJ (jz (jz rfl rfl rfl (ud hi.hP (adk hi.l3 (adk hi.hj ht)))) rfl rfl (Ip (Hx hi.ha))) (aJ rfl rfl))) (.ret (e1.symm▸H _ hi.he))
noncomputable def gL:List (List Nat):=[[100,101,102,105,110,101],[117,110,100,101,102],[105,102,100,101,102],[105,102,110,100,101,102],[101,108,115,105,102],[101,108,115,101],[101,110,100,105,102],[116,105,109,101,115,99,97,108,101],[100,101,102,97,117,108,116,95,110,101,116,116,121,112,101],[114,101,115,101,116,97,108,108],[99,101,108,108,100,101,102,105,110,101],[101,110,100,99,101,108,108,100,101,102,105,110,101],[105,110,99,108,117,100,101],[108,105,110,101],[117,110,99,111,110,110,101,99,116,101,100,95,100,114,105,118,101],[110,111,117,110,99,111,110,110,101,99,116,101,100,95,100,114,105,118,101]]
theorem YM:ay aw fu (n+1) 13 [] O= .ok (.tup (gL.map .str)) O:=rfl
end
section
variable {α:Type}
noncomputable def a6:List (List Nat×α)→List Nat→Option α
 |[],_=>none
 |(x,v)::r,k=>if x=k then some v else a6 r k
noncomputable def dZ:List (List Nat×α)→List Nat→α→List (List Nat×α)
 |[],k,v=>[(k,v)]
 |(x,u)::r,k,v=>if x=k then (x,v)::r else (x,u)::dZ r k v
noncomputable def fg:List (List Nat×α)→List Nat→List (List Nat×α)
 |[],_=>[]
 |(x,u)::r,k=>if x=k then r else (x,u)::fg r k
inductive bo (R:V→α→Prop):List (List Nat×V)→List (List Nat×α)→Prop where
 |nil:bo R [] []
 |cons {k:List Nat} {v:V} {a:α} {es:List (List Nat×V)} {l:List (List Nat×α)}:R v a→bo R es l→bo R ((k,v)::es) ((k,a)::l)
variable {R R':V→α→Prop} {es:List (List Nat×V)} {l:List (List Nat×α)} {k:List Nat} {a:α} {v:V}
theorem bo.get (h:bo R es l):match a6 l k with |some a=>∃v,dictGet es k=some v∧R v a |none=>dictGet es k=none:=by
 induction h with
 |nil=>exact rfl
 |@cons x v a es l r _ ih=>
  by_cases q:x=k
  ·rw [show a6 ((x,a)::l) k=some a from if_pos q];exact ⟨v,if_pos q,r⟩
  ·rw [show a6 ((x,a)::l) k=a6 l k from if_neg q,show dictGet ((x,v)::es) k=dictGet es k from if_neg q];exact ih
theorem bo.some (h:bo R es l) (g:a6 l k=some a):∃v,dictGet es k=some v∧R v a:=by
 have:=h.get (k:=k)
 rw [g] at this;exact this
theorem bo.none (h:bo R es l) (g:a6 l k=Option.none):dictGet es k=Option.none:=by
 have:=h.get (k:=k)
 rw [g] at this;exact this
theorem bo.isSome (h:bo R es l):(dictGet es k).isSome=(a6 l k).isSome:=by
 cases g:a6 l k with
 |none=>rw [h.none g];rfl
 |some a=>exact (h.some g).elim λv e=>by rw [e.1];rfl
theorem bo.put (h:bo R es l) (r:R v a):bo R (dictPut es k v) (dZ l k a):=by
 induction h with
 |nil=>exact .cons r .nil
 |@cons x u b es l r2 h ih=>
  by_cases q:x=k
  ·rw [show dZ ((x,b)::l) k a=(x,a)::l from if_pos q,show dictPut ((x,u)::es) k v=(x,v)::es from if_pos q];exact .cons r h
  ·rw [show dZ ((x,b)::l) k a=(x,b)::dZ l k a from if_neg q,show dictPut ((x,u)::es) k v=(x,u)::dictPut es k v from if_neg q];exact .cons r2 ih
theorem bo.del (h:bo R es l):bo R (dictDel es k) (fg l k):=by
 induction h with
 |nil=>exact .nil
 |@cons x u b es l r2 h ih=>
  by_cases q:x=k
  ·rw [show fg ((x,b)::l) k=l from if_pos q,show dictDel ((x,u)::es) k=es from if_pos q];exact h
  ·rw [show fg ((x,b)::l) k=(x,b)::fg l k from if_neg q,show dictDel ((x,u)::es) k=(x,u)::dictDel es k from if_neg q];exact .cons r2 ih
theorem bo.mono (h:bo R es l) (f:∀v a,R v a→R' v a):bo R' es l:=by
 induction h with
 |nil=>exact .nil
 |cons r2 h ih=>exact .cons (f _ _ r2) ih
theorem bo.length (h:bo R es l):es.length=l.length:=by
 induction h with
 |nil=>rfl
 |cons r2 h ih=>exact congrArg (· +1) ih
end
section
variable {O:ag} {n:Nat}
theorem wz {es:List (List Nat×V)} {x:List Nat} (h:O[n]?=some (.dict es)):lX O (.str x) (.ref n)=some (dictGet es x).isSome:=by
 show gX O n Option.none _=_
 unfold gX
 rw [h];rfl
theorem eM {es:List (List Nat×V)} {x:List Nat} {v:V} (h:O[n]?=some (.dict es)) (g:dictGet es x=some v):dh O (.ref n) (.str x)=some v:=(rm (d:=Option.none) (f:=λes=>dictGet es x) h).trans g
theorem cI {c:cj} {fs:List (Nat×V)} {f:Nat} {v:V} (h:O[n]?=some (.inst c fs)) (g:pG fs f=some v):wW O (.ref n) f=some v:=(CJ (d:=Option.none) (f:=λ_ fs=>pG fs f) h).trans g
theorem iK {c:cj} {fs:List (Nat×V)} {f:Nat} {v:V} (h:O[n]?=some (.inst c fs)):qU O (.ref n) f v=some (O.set n (.inst c (fe fs f v))):=CJ (d:=Option.none) (f:=λc fs=>some (O.set n (.inst c (fe fs f v)))) h
theorem mn {xs:List V} (h:O[n]?=some (.list xs)):mI .len O [.ref n]= .ok (.int (xs.length:Int)) O:=nN (g6 (d:=Option.none) (f:=λxs=>some (V.int xs.length)) h)
end
structure MV where
 names:Option (List (List Nat))
 body:List Nat
abbrev bz:=List (List Nat×MV)
noncomputable def gT:List Nat:=[98,97,100,95,100,105,114,101,99,116,105,118,101]
noncomputable def mz:List Nat:=[117,110,100,101,102,105,110,101,100,95,109,97,99,114,111]
noncomputable def kJ:List Nat:=[109,97,99,114,111,95,100,101,112,116,104]
noncomputable def gh:List Nat:=[109,97,99,114,111,95,97,114,103,117,109,101,110,116,115]
noncomputable def lF:List Nat:=[117,110,98,97,108,97,110,99,101,100,95,99,111,110,100,105,116,105,111,110]
noncomputable def gZ (b:List Nat):Prop:=b.length≤8000000∧a9 b
inductive UR where
 |ok (s:List Nat) (c u:Nat)
 |err (k:List Nat)
inductive PR where
 |ok (s:List Nat) (u:Nat)
 |err (k:List Nat)
noncomputable def PR.toU (c:Nat):PR→UR
 | .ok s u=> .ok s c u
 | .err k=> .err k
noncomputable def PR.pre (s:List Nat):PR→PR
 | .ok r u=> .ok (s++r) u
 | .err k=> .err k
noncomputable def dS (r:List Nat):Prop:=r.take (aC r)∈gL∨r.take (aC r)=[]
noncomputable def mG:PR→Prop
 | .ok s _=>s.length≤aq
 | .err _=>True
section
variable (M:bz) (d u:Nat) (r:List Nat)
inductive k6 (k:List Nat):Prop where
 |bad (h:dS r) (e:k=gT):k6 k
 |undef (h:¬dS r) (g:a6 M (r.take (aC r))=none) (e:k=mz):k6 k
 |ou (m:MV) (h:¬dS r) (g:a6 M (r.take (aC r))=some m) (hd:20≤d∨1000≤u) (e:k=kJ):k6 k
 |F8 (f:Nat) (b:List Nat) (ns:List (List Nat)) (h:¬dS r) (g:a6 M (r.take (aC r))=some ⟨some ns,b⟩) (hd:¬(20≤d∨1000≤u)) (ha:ez f (aC r+dG (r.drop (aC r))) (r.drop (aC r+dG (r.drop (aC r))))=some none) (e:k=gh):k6 k
 |count (f e:Nat) (b:List Nat) (ns as:List (List Nat)) (h:¬dS r) (g:a6 M (r.take (aC r))=some ⟨some ns,b⟩) (hd:¬(20≤d∨1000≤u)) (ha:ez f (aC r+dG (r.drop (aC r))) (r.drop (aC r+dG (r.drop (aC r))))=some (some (as,e)))
      (hn:ns≠[]) (hl:as.length≠ns.length) (e:k=gh):k6 k
inductive oh (b':List Nat) (e:Nat):Prop where
 |plain (h:¬dS r) (g:a6 M (r.take (aC r))=some ⟨none,b'⟩) (hd:¬(20≤d∨1000≤u)) (ee:e=aC r):oh b' e
 |args (f m:Nat) (b:List Nat) (ns as:List (List Nat)) (h:¬dS r) (g:a6 M (r.take (aC r))=some ⟨some ns,b⟩) (hd:¬(20≤d∨1000≤u)) (ha:ez f (aC r+dG (r.drop (aC r))) (r.drop (aC r+dG (r.drop (aC r))))=some (some (as,e)))
      (hn:ns≠[]) (hl:as.length=ns.length) (hb:gZ b) (hs:iy ns as m b=some b'):oh b' e
end
mutual
inductive Us (M:bz):Nat→Nat→List Nat→UR→Prop where
 |err {d u:Nat} {r k:List Nat}:k6 M d u r k→Us M d u r (.err k)
 |body {d u c:Nat} {r b:List Nat} {res:PR}:oh M d u r b c→gZ b→mG res→Pc M (d+1) (u+1) b res→Us M d u r (res.toU c)
inductive Pc (M:bz):Nat→Nat→List Nat→PR→Prop where
 |nil {d u:Nat}:Pc M d u [] (.ok [] u)
 |tok {d u c:Nat} {r:List Nat} {res:PR}:c≠96→Pc M d u ((c::r).drop (a8 (c::r))) res→Pc M d u (c::r) (res.pre ((c::r).take (a8 (c::r))))
 |use {d u c u':Nat} {r s:List Nat} {res:PR}:Us M d u r (.ok s c u')→Pc M d u' (r.drop c) res→Pc M d u (96::r) (res.pre s)
 |err {d u:Nat} {r k:List Nat}:Us M d u r (.err k)→Pc M d u (96::r) (.err k)
end
inductive rS (M:bz) (d u:Nat) (t:List Nat) (v:PR):Prop where
 |nil (e:t=[]) (ev:v= .ok [] u):rS M d u t v
 |tok (c:Nat) (r:List Nat) (res:PR) (e:t=c::r) (hc:c≠96) (h:Pc M d u ((c::r).drop (a8 (c::r))) res) (ev:v=res.pre ((c::r).take (a8 (c::r)))):rS M d u t v
 |use (r s:List Nat) (c u':Nat) (res:PR) (e:t=96::r) (h:Us M d u r (.ok s c u')) (h2:Pc M d u' (r.drop c) res) (ev:v=res.pre s):rS M d u t v
 |err (r k:List Nat) (e:t=96::r) (h:Us M d u r (.err k)) (ev:v= .err k):rS M d u t v
theorem Pc.view {M:bz} {d u:Nat} {t:List Nat} {v:PR} (h:Pc M d u t v):rS M d u t v:=Pc.casesOn (motive_2:=λd u t v _=>rS M d u t v) h (.nil rfl rfl) (λa b=> .tok _ _ _ rfl a b rfl) (λa b=> .use _ _ _ _ _ rfl a b rfl) λa=> .err _ _ rfl a rfl
inductive wj (M:bz) (d u:Nat) (r:List Nat) (res:UR):Prop where
 |err (k:List Nat) (h:k6 M d u r k) (e:res= .err k):wj M d u r res
 |body (c:Nat) (b:List Nat) (cG:PR) (h:oh M d u r b c) (h1:gZ b) (h2:mG cG) (h3:Pc M (d+1) (u+1) b cG) (e:res=cG.toU c):wj M d u r res
theorem Us.view {M:bz} {d u:Nat} {r:List Nat} {res:UR} (h:Us M d u r res):wj M d u r res:=Us.casesOn (motive_1:=λd u r res _=>wj M d u r res) h (λh=> .err _ h rfl) λa b c d=> .body _ _ _ a b c d rfl
noncomputable def t8 (a:Nat) (x:Option (Option (List (List Nat)×Nat))):Option (Option (List (List Nat)×Nat)):=x.map (Option.map λx=>(x.1,a+x.2))
theorem ky {α β:Type} {c:Prop} [Decidable c] {f:α→β} {x y:α} {x' y':β} (h1:x'=f x) (h2:y'=f y):(if c then x' else y')=f (if c then x else y):=by rw [h1,h2,apply_ite f]
theorem Mx (a:Nat):∀(f d:Nat) (as:List (List Nat)) (cf:List Nat) (k:Nat) (r:List Nat),cS f d as cf (a+k) r=t8 a (cS f d as cf k r)
 |0,_,_,_,_,_=>rfl
 |_+1,_,_,_,_,[]=>rfl
 |f+1,d,as,cf,k,c::r=>by
  have ih:∀d as cf e r,cS f d as cf (a+k+e) r=t8 a (cS f d as cf (k+e) r):=λd as cf e r=>Nat.add_assoc a k e▸Mx a f d as cf (k+e) r
  exact ky (f:=t8 a) (ih _ _ _ _ _) (ky (ky (congrArg (λn=>some (some (as++[cZ cf],n))) (Nat.add_assoc a k 1)) (ih _ _ _ _ _)) (ky (ih _ _ _ _ _) (ky (ky rfl (ih _ _ _ _ _)) (ih _ _ _ _ _))))
theorem Fx (a f k:Nat):∀r:List Nat,ez f (a+k) r=t8 a (ez f k r)
 |[]=>rfl
 |c::r=>ky (f:=t8 a) (Nat.add_assoc a k 1▸Mx a f 0 [] [] (k+1) r) rfl
theorem EX (a:Nat):∀(f k:Nat) (acc r:List Nat),df f (a+k) acc r=(df f k acc r).map λx=>(x.1,a+x.2)
 |0,_,_,_=>rfl
 |_+1,_,_,[]=>rfl
 |f+1,k,acc,c::r=>by
  have ih:∀e acc r,df f (a+k+e) acc r=(df f (k+e) acc r).map λx=>(x.1,a+x.2):=λe acc r=>Nat.add_assoc a k e▸EX a f (k+e) acc r
  exact ky (f:=Option.map λx:List Nat×Nat=>(x.1,a+x.2)) rfl (ky (ih _ _ _) (ky (ih _ _ _) (ky (ih _ _ _) (ih _ _ _))))
section
variable {M:bz} {d u:Nat} {r k:List Nat} {res:UR} {P:Prop}
theorem Us.inv (h:Us M d u r res) (k1:∀k,k6 M d u r k→res= .err k→P) (k2:∀c b cG,oh M d u r b c→gZ b→mG cG→Pc M (d+1) (u+1) b cG→res=cG.toU c→P):P:=match h.view with
 | .err k h e=>k1 k h e
 | .body _ _ _ a b c d e=>k2 _ _ _ a b c d e
theorem nX {α:Type} {o:Option α} {m:α} (h:o=some m) (g:o=none):P:=by rw [h] at g;cases g
theorem En {o:Option MV} {n n':Option (List (List Nat))} {b b':List Nat} (h:o=some ⟨n,b⟩) (g:o=some ⟨n',b'⟩) (k:n=n'→b=b'→P):P:=by rw [h] at g;cases g;exact k rfl rfl
theorem xW {o:Option MV} {n:List (List Nat)} {b b':List Nat} (h:o=some ⟨none,b⟩) (g:o=some ⟨some n,b'⟩):P:=by rw [h] at g;cases g
theorem k6.inv (h:k6 M d u r k) (k1:dS r→k=gT→P) (k2:¬dS r→a6 M (r.take (aC r))=none→k=mz→P) (k3:∀m,¬dS r→a6 M (r.take (aC r))=some m→20≤d∨1000≤u→k=kJ→P)
    (k4:∀f b ns,¬dS r→a6 M (r.take (aC r))=some ⟨some ns,b⟩→¬(20≤d∨1000≤u)→ez f (aC r+dG (r.drop (aC r))) (r.drop (aC r+dG (r.drop (aC r))))=some none→k=gh→P)
    (k5:∀f e b ns as,¬dS r→a6 M (r.take (aC r))=some ⟨some ns,b⟩→¬(20≤d∨1000≤u)→ez f (aC r+dG (r.drop (aC r))) (r.drop (aC r+dG (r.drop (aC r))))=some (some (as,e))→ns≠[]→as.length≠ns.length→k=gh→P):P:=match h with
 | .bad h e=>k1 h e
 | .undef h g e=>k2 h g e
 | .ou _ h g q e=>k3 _ h g q e
 | .F8 _ _ _ h g q x e=>k4 _ _ _ h g q x e
 | .count _ _ _ _ _ h g q x y z e=>k5 _ _ _ _ _ h g q x y z e
theorem oh.inv {b:List Nat} {c:Nat} (h:oh M d u r b c) (k1:¬dS r→a6 M (r.take (aC r))=some ⟨none,b⟩→¬(20≤d∨1000≤u)→c=aC r→P)
    (k2:∀f m b0 ns as,¬dS r→a6 M (r.take (aC r))=some ⟨some ns,b0⟩→¬(20≤d∨1000≤u)→ez f (aC r+dG (r.drop (aC r))) (r.drop (aC r+dG (r.drop (aC r))))=some (some (as,c))→ns≠[]→as.length=ns.length→gZ b0→iy ns as m b0=some b→P):P:=match h with
 | .plain h g q e=>k1 h g q e
 | .args _ _ _ _ _ h g q x y z w v=>k2 _ _ _ _ _ h g q x y z w v
theorem Yd (h:Us M d u r res) (b:dS r):res= .err gT:=h.inv (λk q e=>q.inv (λ_ e2=>e2▸e) (λq _ _=>absurd b q) (λ_ q _ _ _=>absurd b q) (λ_ _ _ q _ _ _ _=>absurd b q) λ_ _ _ _ _ q _ _ _ _ _ _=>absurd b q) λ_ _ _ q _ _ _ _=>q.inv (λq _ _ _=>absurd b q) λ_ _ _ _ _ q _ _ _ _ _ _ _=>absurd b q
theorem aaK (h:Us M d u r res) (b:¬dS r) (g:a6 M (r.take (aC r))=none):res= .err mz:=h.inv (λk q e=>q.inv (λq _=>absurd q b) (λ_ _ e2=>e2▸e) (λ_ _ q _ _=>nX q g) (λ_ _ _ _ q _ _ _=>nX q g) λ_ _ _ _ _ _ q _ _ _ _ _=>nX q g) λ_ _ _ q _ _ _ _=>q.inv (λ_ q _ _=>nX q g) λ_ _ _ _ _ _ q _ _ _ _ _ _=>nX q g
theorem WG (h:Us M d u r res) (b:¬dS r) {m:MV} (g:a6 M (r.take (aC r))=some m) (hd:20≤d∨1000≤u):res= .err kJ:=h.inv (λk q e=>q.inv (λq _=>absurd q b) (λ_ q _=>nX g q) (λ_ _ _ _ e2=>e2▸e) (λ_ _ _ _ _ q _ _=>absurd hd q) λ_ _ _ _ _ _ _ q _ _ _ _=>absurd hd q) λ_ _ _ q _ _ _ _=>q.inv (λ_ _ q _=>absurd hd q) λ_ _ _ _ _ _ _ q _ _ _ _ _=>absurd hd q
theorem SQ (h:Us M d u r res) (b:¬dS r) {m:List Nat} (g:a6 M (r.take (aC r))=some ⟨none,m⟩) (hd:¬(20≤d∨1000≤u)) (k:∀cG,gZ m→mG cG→Pc M (d+1) (u+1) m cG→res=cG.toU (aC r)→P):P:=h.inv (λ_ q e=>q.inv (λq _=>absurd q b) (λ_ q _=>nX g q) (λ_ _ _ q _=>absurd q hd) (λ_ _ _ _ q _ _ _=>xW g q) λ_ _ _ _ _ _ q _ _ _ _ _=>xW g q)
  λ_ _ cG q x y z e=>q.inv (λ_ q _ ec=>En g q λ_ eb=>k cG (eb▸x) y (eb▸z) (ec▸e)) λ_ _ _ _ _ _ q _ _ _ _ _ _=>xW g q
theorem UI (h:Us M d u r res) (b:¬dS r) {ns:List (List Nat)} {m:List Nat} (g:a6 M (r.take (aC r))=some ⟨some ns,m⟩) (hd:¬(20≤d∨1000≤u))
    (k1:∀f,ez f (aC r+dG (r.drop (aC r))) (r.drop (aC r+dG (r.drop (aC r))))=some none→res= .err gh→P)
    (k2:∀f as e,ez f (aC r+dG (r.drop (aC r))) (r.drop (aC r+dG (r.drop (aC r))))=some (some (as,e))→ns≠[]→as.length≠ns.length→res= .err gh→P)
    (k3:∀f as e w b' cG,ez f (aC r+dG (r.drop (aC r))) (r.drop (aC r+dG (r.drop (aC r))))=some (some (as,e))→ns≠[]→as.length=ns.length→gZ m→iy ns as w m=some b'→gZ b'→mG cG→Pc M (d+1) (u+1) b' cG→res=cG.toU e→P):P:=
 h.inv (λ_ q e=>q.inv (λq _=>absurd q b) (λ_ q _=>nX g q) (λ_ _ _ q _=>absurd q hd) (λ_ _ _ _ _ _ x e2=>k1 _ x (e2▸e)) λ_ _ _ _ _ _ q _ x y z e2=>En g q λen _=>k2 _ _ _ x (Option.some.inj en▸y) (Option.some.inj en▸z) (e2▸e))
 λ_ _ cG q x y z e=>q.inv (λ_ q _ _=>xW q g) λ_ _ _ _ _ _ q _ a1 a2 a3 a4 a5=>En g q λen eb=>k3 _ _ _ _ _ _ a1 (Option.some.inj en▸a2) (Option.some.inj en▸a3) (eb▸a4) (eb▸Option.some.inj en▸a5) x y z e
theorem Pc.inv {t:List Nat} {v:PR} (h:Pc M d u t v) (k0:t=[]→v= .ok [] u→P) (k1:∀c r res,t=c::r→c≠96→Pc M d u ((c::r).drop (a8 (c::r))) res→v=res.pre ((c::r).take (a8 (c::r)))→P)
    (k2:∀r s c u' res,t=96::r→Us M d u r (.ok s c u')→Pc M d u' (r.drop c) res→v=res.pre s→P) (k3:∀r k,t=96::r→Us M d u r (.err k)→v= .err k→P):P:=match h.view with
 | .nil e ev=>k0 e ev
 | .tok _ _ _ e a b ev=>k1 _ _ _ e a b ev
 | .use _ _ _ _ _ e a b ev=>k2 _ _ _ _ _ e a b ev
 | .err _ _ e a ev=>k3 _ _ e a ev
theorem pZ {α:Type} {a b:α} {r s:List α} (h:a::r=b::s) (k:a=b→r=s→P):P:=k (List.cons.inj h).1 (List.cons.inj h).2
theorem ly {α:Type} {b:α} {s:List α} (h:[]=b::s):P:=nomatch h
theorem W8 {v:PR} (h:Pc M d u [] v):v= .ok [] u:=h.inv (λ_ e=>e) (λ_ _ _ e _ _ _=>ly e) (λ_ _ _ _ _ e _ _ _=>ly e) λ_ _ e _ _=>ly e
theorem Rg {c:Nat} {v:PR} (h:Pc M d u (c::r) v) (hc:c≠96) (k:∀res,Pc M d u ((c::r).drop (a8 (c::r))) res→v=res.pre ((c::r).take (a8 (c::r)))→P):P:=
 h.inv (λe _=>ly e.symm) (λ_ _ _ e _ q ev=>k _ (e.symm▸q) (e.symm▸ev)) (λ_ _ _ _ _ e _ _ _=>pZ e λq _=>absurd q hc) λ_ _ e _ _=>pZ e λq _=>absurd q hc
theorem Pd {v:PR} (h:Pc M d u (96::r) v) (k1:∀s c u' res,Us M d u r (.ok s c u')→Pc M d u' (r.drop c) res→v=res.pre s→P) (k2:∀k,Us M d u r (.err k)→v= .err k→P):P:=
 h.inv (λe _=>ly e.symm) (λ_ _ _ e hc _ _=>pZ e λq _=>absurd q.symm hc) (λ_ _ _ _ _ e a b ev=>pZ e λ_ q=>k1 _ _ _ _ (q▸a) (q▸b) ev) λ_ _ e a ev=>pZ e λ_ q=>k2 _ (q▸a) ev
end
noncomputable def aT (tb:Nat) (O af:ag):Prop:=O.length≤af.length∧∀i,i<O.length→i≠tb→af[i]?=O[i]?
section
variable {O af io:ag} {tb i:Nat} {c d:Cell}
theorem aj.toT (h:aj O af):aT tb O af:=⟨h.1,λi hi _=>h.2 i hi⟩
theorem aT.refl:aT tb O O:=⟨adq _,λ_ _ _=>rfl⟩
theorem aT.trans (h:aT tb O af) (h2:aT tb af io):aT tb O io:=⟨adk h.1 h2.1,λi hi ne=>(h2.2 i (adl hi h.1) ne).trans (h.2 i hi ne)⟩
theorem aT.get (h:aT tb O af) (g:O[i]?=some c) (ne:i≠tb):af[i]?=some c:=(h.2 i (dE g) ne).trans g
theorem aT.set (h:aT tb O af):aT tb O (af.set tb d):=⟨List.length_set.symm▸h.1,λj hj ne=>(List.getElem?_set_ne (Ne.symm ne)).trans (h.2 j hj ne)⟩
theorem aT.qS (h:aT tb O af) (hi:O.length≤i):aT tb O (af.set i d):=⟨List.length_set.symm▸h.1,λj hj ne=>(List.getElem?_set_ne (Nat.ne_of_gt (adl hj hi))).trans (h.2 j hj ne)⟩
theorem LM (h1:O[tb]?=some c) (h2:O[i]?=some d) (h:c≠d):i≠tb:=λq=>h (Option.some.inj (h1.symm.trans (q▸h2)))
end
noncomputable def Hr (lo:Nat) (O:ag) (nv:V):Option (List (List Nat))→Prop
 |none=>nv= .none
 |some ns=>∃j,nv= .ref j∧lo<j∧O[j]?=some (.list (ns.map .str))
inductive mu (lo:Nat) (O:ag) (v:V) (m:MV):Prop where
 |mk (i:Nat) (nv:V) (hv:v= .ref i) (h1:O[i]?=some (.inst .macro [(0,nv),(1,.str m.body)])) (h2:Hr lo O nv m.names):mu lo O v m
noncomputable def iS (md u:Nat):Cell:= .inst .table [(2,.ref md),(3,.tup (gL.map .str)),(4,.int (u:Int))]
inductive TabAt (lo:Nat) (O:ag) (tb md u:Nat) (M:bz):Prop where
 |mk (es:List (List Nat×V)) (t:O[tb]?=some (iS md u)) (m:O[md]?=some (.dict es)) (q8:bo (mu lo O) es M):TabAt lo O tb md u M
section
variable {lo:Nat} {O af:ag} {tb md u u':Nat} {M:bz}
theorem mu.keep {v:V} {m:MV} (h:mu lo O v m) (k:∀(i:Nat) (c:Cell),O[i]?=some c→(∃fs,c= .inst .macro fs)∨(lo<i∧∃ss:List (List Nat),c= .list (ss.map .str))→af[i]?=some c):mu lo af v m:=match h with
 |⟨i,nv,hv,h1,h2⟩=>⟨i,nv,hv,k i _ h1 (.inl ⟨_,rfl⟩),match m.names,h2 with
  |none,h2=>h2
  |some ns,⟨j,e,lj,g⟩=>⟨j,e,lj,k j _ g (.inr ⟨lj,_,rfl⟩)⟩⟩
theorem TabAt.t (h:TabAt lo O tb md u M):O[tb]?=some (iS md u):=match h with
 |⟨_,t,_,_⟩=>t
theorem TabAt.ext (h:TabAt lo O tb md u M) (e:aj O af):TabAt lo af tb md u M:=match h with
 |⟨es,t,h1,h2⟩=>⟨es,e.get t,e.get h1,h2.mono λv a r=>r.keep λi c g _=>e.get g⟩
theorem TabAt.LG (h:TabAt lo O tb md u M) (e:aT tb O af) (t:af[tb]?=some (iS md u')):TabAt lo af tb md u' M:=match h with
 |⟨es,t0,h1,h2⟩=>⟨es,t,e.get h1 (LM t0 h1 nofun),h2.mono λv a r=>r.keep λi c g k=>e.get g (LM t0 g λq=>k.elim (λ⟨fs,k⟩=>by rw [←q] at k;cases k) λ⟨_,ss,k⟩=>by rw [←q] at k;cases k)⟩
theorem TabAt.tick (h:TabAt lo O tb md u M):TabAt lo (O.set tb (iS md u')) tb md u' M:=h.LG aT.refl.set (de h.t)
end
noncomputable def qt (lo tb md:Nat) (M:bz) (O:ag) (Pq:Nat) (cQ:V) (Q:V→ag→Prop) (X:aX→ag→Prop):UR→Prop
 | .ok s c u=>∀af,aT tb O af→TabAt lo af tb md u M→Q (.tup [.str s,.int ((Pq+c:Nat):Int)]) af
 | .err k=>∀af e,aT tb O af→e.k= .str k→e.a=cQ→X e af
noncomputable def CG (lo tb md:Nat) (M:bz) (O:ag) (cQ:V) (Q:V→ag→Prop) (X:aX→ag→Prop):PR→Prop
 | .ok s u=>∀af,aT tb O af→TabAt lo af tb md u M→Q (.str s) af
 | .err k=>∀af e,aT tb O af→e.k= .str k→e.a=cQ→X e af
noncomputable def oo (C:Calls) (d:Nat):Prop:=∀{M:bz} {t r:List Nat} {cF u lo tb md:Nat} {cQ:V} {O:ag} {res:UR} {Q:V→ag→Prop} {X:aX→ag→Prop},gZ t→TabAt lo O tb md u M→cF<t.length→t.drop (cF+1)=r→Us M d u r res→
 qt lo tb md M O (cF+1) cQ Q X res→Wp (C 17 [.ref tb,.str t,.int (cF:Int),.int ((cF+1+aC r:Nat):Int),cQ,.int (d:Int)] O) Q X
noncomputable def qG (C:Calls) (d:Nat):Prop:=∀{M:bz} {t:List Nat} {u lo tb md:Nat} {cQ:V} {O:ag} {res:PR} {Q:V→ag→Prop} {X:aX→ag→Prop},gZ t→TabAt lo O tb md u M→mG res→Pc M d u t res→
 CG lo tb md M O cQ Q X res→Wp (C 18 [.ref tb,.str t,cQ,.int (d:Int)] O) Q X
section
variable {fu n:Nat}
inductive PI (M:bz) (t:List Nat) (lo tb md d:Nat) (cQ:V) (O:ag) (res:PR):Nat→Locals→ag→Prop where
 |mk {j u:Nat} {ps:List (List Nat)} {B1:PR} {x y:Option V} {s:ag} (he:aT tb O s) (hT:s[tb]?=some (iS md u)) (hP:s[O.length]?=some (.list (ps.map .str))) (l2:ps.length≤j) (hg:Pc M d u (t.drop j) B1) (hr:B1.pre ps.flatten=res):
   PI M t lo tb md d cQ O res (t.length-j) [some (.ref tb),some (.str t),some cQ,some (.int (d:Int)),some (.ref O.length),some (.int (j:Int)),x,y] s
theorem Y0 (v:PR):v.pre []=v:=by cases v<;>rfl
theorem G2 {v:PR} {s:List Nat} {ps:List (List Nat)}:v.pre (ps++[s]).flatten=(v.pre s).pre ps.flatten:=by
 rw [nz]
 cases v with
 |ok r u=>exact congrArg (PR.ok · u) (List.append_assoc ..)
 |err k=>rfl
theorem Vy {d:Nat} (hn:1<n) (hf:aq+100<fu) (hU:oo (ay aw fu n) d):qG (ay aw fu (n+1)) d:=λ{M t u lo tb md cQ O res Q X} jR hT uc tE hE=>by
 have f5:=iu jR.1
 have ht:=Nat.le_of_succ_le f5
 have cx:O.length≠tb:=Nat.ne_of_gt (dE hT.t)
 refine dY rfl rfl (by decide) rfl (aV rfl (aV rfl (qz (PI M t lo tb md d cQ O res) (.mk (j:=0) (ps:=[]) aj.refl.push.toT (mh hT.t) bH (ads _) tE (Y0 _)) (lG ht hf) λm L s K hK h=>?_)))
 cases h with
 |@mk j u1 ps B1 x y s he se hP l2 hg hr=>
  have Ei:=hT.LG he se
  refine ⟨_,aO rfl rfl nT,λaK=>?_,λjX=>?_⟩
  ·have aK:=ado aK
   refine vx aK λc r hd=>?_
   have dw:t.drop (j+1)=r:=dF 1 hd
   rw [hd] at hg
   refine eQ (aO (bj rfl rfl (iP hd)) rfl jH) (λh1=>?_) (λh1=>?_)
   ·refine pI rfl se rfl (aJ rfl (aJ rfl (aJ ((eg (aJ rfl (aJ rfl rfl)) (vM hn ht aK hf)).trans (by rw [dw])) (aJ rfl (aJ rfl rfl))))) (Pd (h1▸hg) (λs1 c1 u2 cG hu mX hv=>hU jR Ei aK dw hu λaf e2 T2=>⟨rfl,bZ rfl ?_⟩) λk hu hv=>hU jR Ei aK dw hu λaf e e2 k1 k2=>?_)
    ·have gM:=e2.get hP cx
     exact dR (iQ rfl gM rfl (lO gM l2 (Nat.le_of_lt aK) f5)) (jk (hK _ _ _ (Nat.sub_lt_sub_left aK (adl (adu j) (adn _ _))) (.mk (j:=j+1+c1) ((he.trans e2).qS (adq _)) (fQ T2.t cx) (de gM)
            (Nat.add_assoc j 1 c1▸oe l2 (adl Nat.one_pos (adn _ _))) (by rw [←dF c1 dw] at mX;exact mX) (G2.trans ((congrArg (PR.pre ps.flatten) hv.symm).trans hr)))))
    ·rw [hv] at hr
     exact (show CG lo tb md M O cQ Q X (.err k) from (show PR.err k=res from hr)▸hE) _ _ (he.trans e2) k1 k2
   ·have jY:=vi hd
    have hw:=tF c r
    refine Rg hg h1 λcG mX hv=>?_
    rw [←dF _ hd] at mX
    exact aV (eg (aJ rfl (aJ rfl rfl)) (vy hd hn ht hf)) (dR (iQ rfl hP (eZ rfl rfl rfl (wq hd (fE (Nat.le_of_lt aK) ht) (fE jY ht))) (lO hP l2 (Nat.le_of_lt aK) f5)) (aV rfl (jk (hK _ _ _ (wk aK hw)
     (.mk (j:=j+a8 (c::r)) (he.qS (adq _)) (fQ se cx) (de hP) (oe l2 hw) mX (G2.trans ((congrArg (PR.pre ps.flatten) hv.symm).trans hr)))))))
  ·rw [List.drop_eq_nil_of_le (Nat.le_of_not_lt (adp jX))] at hg
   have e:PR.ok ps.flatten u1=res:=(congrArg (PR.ok · u1) (List.append_nil _).symm).trans ((congrArg (PR.pre ps.flatten) (W8 hg).symm).trans hr)
   exact dp (jz rfl rfl rfl (ud hP (show mG (.ok ps.flatten u1) from e▸uc))) (.ret ((show CG lo tb md M O cQ Q X (.ok ps.flatten u1) from e▸hE) _ he Ei))
noncomputable def dM (s:List Nat):PySem.PyData:= .str ⟨s.toArray⟩
theorem aat {O:ag} {s:List Nat}:∀d,V.py O d (.str s)=some (dM s)
 |0=>rfl
 |_+1=>rfl
theorem Np {O:ag} (d:Nat):∀l:List (List Nat),V.pS O d (l.map .str)=some (l.map dM)
 |[]=>rfl
 |s::r=>by
  show (V.py O d (.str s)).bind (λx=>(jv (V.py O d) (r.map .str)).bind λxs=>some (x::xs))=_
  rw [aat,show jv (V.py O d) (r.map .str)=_ from Np d r];rfl
theorem Gd {O:ag} {n d:Nat} {l:List (List Nat)} (h:O[n]?=some (.list (l.map .str))):V.py O (d+1) (.ref n)=some (.list (l.map dM)):=
  (g6 (d:=Option.none) (f:=λvs=>(jv (V.py O d) vs).bind λxs=>some (PySem.PyData.list xs)) h).trans (congrArg (λo=>o.bind λxs=>some (PySem.PyData.list xs)) (Np d l))
theorem I9 {s:List Nat} (h:a9 s):PySem.PyData.strOk ⟨s.toArray⟩=true:=by
 unfold PySem.PyData.strOk
 rw [Array.all_eq_true_iff_forall_mem]
 intro c hc
 have:c<128:=h c (by simpa using hc)
 rw [decide_eq_true_eq];omega
theorem FA:∀{l:List (List Nat)},(∀s∈l,a9 s)→PySem.PyData.canLayAll0 (l.map dM)=true
 |[],_=>rfl
 |s::r,h=>by
  rw [List.map_cons,PySem.PyData.canLayAll0,FA λx hx=>h x (List.mem_cons_of_mem _ hx),Bool.and_true]
  show PySem.PyData.strOk _=true
  exact I9 (h s List.mem_cons_self)
theorem Gu:∀l:List (List Nat),PySem.PyData.depthAll (l.map dM)=0
 |[]=>rfl
 |s::r=>by
  rw [List.map_cons,PySem.PyData.depthAll,Gu r];rfl
theorem I1 {l:List (List Nat)} (h:∀s∈l,a9 s):PySem.SeqAt.shaped (.list (l.map dM))=true:=by
 unfold PySem.SeqAt.shaped
 rw [show PySem.PyData.canLay0 (.list (l.map dM))=true from FA h]
 show decide (PySem.PyData.depthAll (l.map dM)+1≤64)=true
 rw [Gu];rfl
theorem Ht {O:ag} {a b:Nat} {l l':List (List Nat)} (h:O[a]?=some (.list (l.map .str))) (h':O[b]?=some (.list (l'.map .str))) (q:∀s∈l,a9 s) (q':∀s∈l',a9 s):
  ct .eq O (.ref a) (.ref b)=some (.bool (PySem.PyData.eqv (.list (l.map dM)) (.list (l'.map dM)))):=by
 show (jV O (.ref a) (.ref b)).map V.bool=_
 unfold jV
 rw [Gd h,Gd h']
 show (if (PySem.SeqAt.shaped (.list (l.map dM))&&PySem.SeqAt.shaped (.list (l'.map dM)))=true then some (PySem.PyData.eqv (.list (l.map dM)) (.list (l'.map dM))) else none).map V.bool=_
 rw [I1 q,I1 q'];rfl
theorem UE {O:ag} {a b:Nat}:ct .ne O (.int (a:Int)) (.int (b:Int))=some (.bool (!decide (a=b))):=by
 show some (V.bool (!decide ((a:Int)=(b:Int))))=_
 congr 3;rw [decide_eq_decide];exact Int.ofNat_inj
theorem ZM {O:ag} {d:Nat}:ct .ge O (.int (d:Int)) (.int (uW 0))=some (.bool (decide (20≤d))):=by
 show some (V.bool (decide ((20:Int)≤d)))=_
 congr 2;rw [decide_eq_decide];exact Int.ofNat_le
theorem PY {O:ag} {u:Nat}:ct .gt O (.int ((u+1:Nat):Int)) (.int (uW 1))=some (.bool (decide (1000≤u))):=by
 show some (V.bool (decide ((1000:Int)<((u+1:Nat):Int))))=_
 congr 2;rw [decide_eq_decide];omega
noncomputable def bf:Nat→Ss→Ss
 |0,s=>s
 |n+1,s=>match s with
  | .nil=> .nil
  | .cons _ r=>bf n r
noncomputable def fK (s:Ss):Ss:=match s with
 | .cons (.ite _ a _) _=>a
 | .cons (.dD _ a) _=>a
 | .cons (.forL _ _ a) _=>a
 | .cons (.forR _ _ a) _=>a
 |_=> .nil
noncomputable def tD (s:Ss):Ss:=match s with
 | .cons (.ite _ _ b) _=>b
 |_=> .nil
noncomputable def oR (tb:Nat) (t:List Nat) (cF e:Nat) (cQ:V) (d:Nat) (x6 x7 x8 x9 fD:Option V):Locals:=[some (.ref tb),some (.str t),some (.int (cF:Int)),some (.int (e:Int)),some cQ,some (.int (d:Int)),x6,x7,x8,x9,fD]
noncomputable def Kc:Ss:=fK (bf 7 qR)
section
variable {C:Calls} {fu n d u lo tb md cF e i:Nat} {M:bz} {t nm b:List Nat} {cQ:V} {O az:ag} {Q:V→ag→Prop} {X:aX→ag→Prop} {x6 x7 x9 fD:Option V}
theorem Hv (hP:qG C (d+1)) {cG:PR} (T:TabAt lo az tb md (u+1) M) (hb:gZ b) (uc:mG cG) (tE:Pc M (d+1) (u+1) b cG) (e2:aT tb O az) (hE:qt lo tb md M O (cF+1) cQ Q X (cG.toU e)):
  Wq (ah C fu (bf 8 qR) (oR tb t cF (cF+1+e) cQ d x6 x7 (some (.str b)) x9 fD) az) (bL Q) X:=
 uF (yq (hV (rV rfl T.t rfl (aJ rfl (aJ rfl (aJ (bG rfl rfl qj) rfl))) (hP hb T uc tE (match cG,hE with
  | .ok s u2,hE=>λcN e3 T3=>hV (aS rfl (mJ (.ret (hE _ (e2.trans e3) T3))))
  | .err k,hE=>λcN x e3 k1 k2=>hE _ _ (e2.trans e3) k1 k2)))))
theorem aa3 {C:Calls} {L:Locals} {e e2:E} {p:Bool} {O ae:ag} (h1:ev C fu e L O= .ok (.bool p) ae) (h2:ev C fu e2 L ae= .ok (.bool false) ae):ev C fu (.and (.cons e (.cons e2 .nil))) L O= .ok (.bool false) ae:=(fC h1 (fN h2)).trans (by rw [Bool.and_false])
theorem OA {ns:List (List Nat)} (h:ns≠[]):decide (((ns.map V.str).length:Int)=0)=false:=decide_eq_false λq=>h (List.eq_nil_of_length_eq_zero (by rw [←List.length_map (f:=V.str)];exact Int.ofNat_inj.1 q))
theorem FZ (hn:1<n) (hf:aq+100<fu) (hP:qG (ay aw fu (n+1)) (d+1)) {ns as:List (List Nat)} {nl A:Nat} (gi:az[i]?=some (.inst .macro [(0,.ref nl),(1,.str b)])) (gN:az[nl]?=some (.list (ns.map .str))) (gA:az[A]?=some (.list (as.map .str))) (hA:∀s∈as,a9 s)
    (T:TabAt lo az tb md (u+1) M) (e2:aT tb O az) (qn:ns≠[]) (k1:as.length≠ns.length→qt lo tb md M O (cF+1) cQ Q X (.err gh))
    (k2:as.length=ns.length→∃w b' cG,gZ b∧iy ns as w b=some b'∧gZ b'∧mG cG∧Pc M (d+1) (u+1) b' cG∧qt lo tb md M O (cF+1) cQ Q X (cG.toU e)):
  Wq (ah (ay aw fu (n+1)) fu (bf 3 Kc) (oR tb t cF (cF+1+e) cQ d (some (.str nm)) (some (.ref i)) (some (.str b)) x9 (some (.ref A))) az) (Nx (ay aw fu (n+1)) fu (bf 8 qR) (bL Q) X) X:=by
 have hx:=(aj.refl (O:=az)).push (d:= .list ([[]].map .str))
 have ln:=(fq (C:=ay aw fu (n+1)) (fu:=fu) (b:= .len) (es:= .cons (.attr (.loc 7) 0) .nil) (L:=oR tb t cF (cF+1+e) cQ d (some (.str nm)) (some (.ref i)) (some (.str b)) x9 (some (.ref A))) (aJ (cH (f:=0) (O:=az++[.list ([[]].map .str)]) rfl (cI (hx.get gi) rfl)) rfl) (mn (hx.get gN)))
 refine cg (aa3 (aO rfl (CL (aJ rfl rfl)) (Ht (hx.get gA) bH hA λs hs=>List.mem_singleton.1 hs▸qs)) ((aO ln rfl oD).trans (congrArg (λb=>Out.ok (V.bool b) _) (OA qn)))) (eQ (p:=as.length≠ns.length) ((aO (fq (aJ rfl rfl) (mn (hx.get gA))) ln UE).trans (by rw [List.length_map,List.length_map,decide_not])) (λql=>kg rfl rfl (k1 ql _ _ (e2.trans hx.toT) rfl rfl)) λql=>n1 ?_)
 obtain ⟨w,b',cG,q2,q3,q4,q5,q6,hE⟩:=k2 (Decidable.of_not_not ql)
 exact e7 (eE (aS (aJ rfl (aJ (cH (f:=0) rfl (cI (hx.get gi) rfl)) rfl)) (Od hn q2.1 hf (hx.get gN) (hx.get gA) q3 (Nat.le_of_succ_le (iu q4.1)) λeR e4=>n1 (Hv hP (T.ext (hx.trans e4)) q4 q5 q6 (e2.trans (hx.trans e4).toT) hE))))
theorem abg (hn:1<n) (hf:aq+100<fu) (hP:qG (ay aw fu (n+1)) (d+1)) {r:List Nat} {ns:List (List Nat)} {nl:Nat} {res:UR} (hu:Us M d u r res) (hb:¬dS r) (hg:a6 M (r.take (aC r))=some ⟨some ns,b⟩) (hd:¬(20≤d∨1000≤u)) (jR:gZ t) (hr:t.drop (cF+1)=r) (hH:cF+1+aC r≤t.length)
    (gi:az[i]?=some (.inst .macro [(0,.ref nl),(1,.str b)])) (gN:az[nl]?=some (.list (ns.map .str))) (T:TabAt lo az tb md (u+1) M) (e2:aT tb O az) (hE:qt lo tb md M O (cF+1) cQ Q X res):
  Wq (ah (ay aw fu (n+1)) fu Kc (oR tb t cF (cF+1+aC r) cQ d (some (.str nm)) (some (.ref i)) (some (.str b)) x9 fD) az) (Nx (ay aw fu (n+1)) fu (bf 8 qR) (bL Q) X) X:=by
 have ht:=Nat.le_of_succ_le (iu jR.1)
 have hl:cF+1+(aC r+dG (r.drop (aC r)))≤t.length:=by
  rw [←Nat.add_assoc, ←dF _ hr]
  have:=Nat.add_le_add_right (my (Dp [32,9,13,10,12,11]) (t.drop (cF+1+aC r))) (cF+1+aC r)
  rw [mx hH,Nat.add_comm] at this
  exact this
 have ra:∀{f:Nat} {cG:Option (List (List Nat)×Nat)} {Q:V→ag→Prop},ez f (aC r+dG (r.drop (aC r))) (r.drop (aC r+dG (r.drop (aC r))))=some cG→(∀v af,aj az af→Dg az af v (cG.map λx=>(x.1,cF+1+x.2))→Q v af)→Wp (ay aw fu (n+1) 10 [.str t,.int ((cF+1+(aC r+dG (r.drop (aC r))):Nat):Int)] az) Q X:=λ{f cG Q} h k=>
  JH (f:=f) hn jR.1 jR.2 hl hf (by rw [dF _ hr,Fx,h];rfl) k
 refine e7 (eE (aS (aJ rfl (aJ (eg (aJ rfl (aJ rfl rfl)) ((UA (Nat.lt_succ_of_lt hn) ht hH hf).trans (by rw [dF _ hr,Nat.add_assoc (cF+1)]))) rfl)) (UI hu hb hg hd (λf ha er=>ra ha λv af e3 hv=>?_) (λf as e ha qn ql er=>ra ha λv af e3 hv=>?_) λf as e w b' cG ha qn ql P4 hs O4 uc tE er=>ra ha λv af e3 hv=>?_)))
 ·rw [show v=V.none from hv]
  exact cO rfl (kg rfl rfl ((er▸hE) _ _ (e2.trans e3.toT) rfl rfl))
 ·refine yN hv λA _ gA hA=>?_
  exact fz rfl (n1 (ww rfl rfl (FZ hn hf hP (e3.get gi) (e3.get gN) gA hA (T.ext e3) (e2.trans e3.toT) qn (λ_=>er▸hE) λq=>absurd q ql)))
 ·refine yN hv λA _ gA hA=>?_
  exact fz rfl (n1 (ww rfl rfl (FZ hn hf hP (e3.get gi) (e3.get gN) gA hA (T.ext e3) (e2.trans e3.toT) qn (λq=>absurd ql q) λ_=>⟨w,b',cG,P4,hs,O4,uc,tE,er▸hE⟩)))
end
theorem B3 (r:List Nat):aC r≤r.length:=by
 unfold aC
 split
 ·exact ads _
 ·exact my fJ r
theorem Sv {d u lo tb md cF:Nat} {M:bz} {t:List Nat} {cQ:V} {O az:ag} {Q:V→ag→Prop} {X:aX→ag→Prop} (hn:1<n) (hf:aq+100<fu) (hP:qG (ay aw fu (n+1)) (d+1)) {r:List Nat} {mv:MV} {res:UR} (hu:Us M d u r res) (hb:¬dS r) (hg:a6 M (r.take (aC r))=some mv) (hd:¬(20≤d∨1000≤u)) (jR:gZ t) (hr:t.drop (cF+1)=r) (hH:cF+1+aC r≤t.length)
    (T:TabAt lo az tb md (u+1) M) (e2:aT tb O az) (hE:qt lo tb md M O (cF+1) cQ Q X res):
  Wq (ah (ay aw fu (n+1)) fu (bf 5 qR) (oR tb t cF (cF+1+aC r) cQ d (some (.str (r.take (aC r)))) none none none none) az) (bL Q) X:=by
 obtain ⟨es,k9,fb,q8⟩:=T
 have T:=TabAt.mk es k9 fb q8
 obtain ⟨v,hv,hm⟩:=q8.some hg
 obtain ⟨i,nv,CD,gi,cw⟩:=hm
 refine aV (v:= .ref i) (bj (cH rfl (cI k9 rfl)) rfl (eM fb (CD▸hv))) (aV (cH rfl (cI gi rfl)) ?_)
 match mv,cw,hg with
 |⟨none,b⟩,cw,hg=>exact SQ hu hb hg hd λcG q1 q2 q3 er=>cg (aO (cH rfl (cI ((show nv=V.none from cw)▸gi) rfl)) rfl Ln) (Hv hP T q1 q2 q3 e2 (er▸hE))
 |⟨some ns,b⟩,⟨nl,si,_,gN⟩,hg=>exact cO (aO (cH rfl (cI (si▸gi) rfl)) rfl K4) (abg hn hf hP hu hb hg hd jR hr hH (si▸gi) gN T e2 hE)
theorem Ki {d:Nat} (hn:1<n) (hf:aq+100<fu) (hP:d<20→qG (ay aw fu (n+1)) (d+1)):oo (ay aw fu (n+2)) d:=λ{M t r cF u lo tb md cQ O res Q X} jR hT yw hr hu hE=>by
 have ht:=Nat.le_of_succ_le (iu jR.1)
 have hH:cF+1+aC r≤t.length:=by
  rw [←mx (Nat.succ_le_of_lt yw),hr,Nat.add_comm]
  exact Nat.add_le_add_right (B3 r) _
 obtain ⟨es,k9,fb,q8⟩:=hT
 have hT:=TabAt.mk es k9 fb q8
 refine dY (L:=oR tb t cF (cF+1+aC r) cQ d none none none none none) rfl rfl (by decide) rfl (aV (v:= .str (r.take (aC r))) (eZ rfl rfl rfl ((kX (fE yw ht) (fE hH ht)).trans (by rw [Nat.add_sub_cancel_left,hr])))
    (L9 (aO rfl (cH rfl (cI k9 rfl)) (nM (tU (strs_map _) (by decide)))) (aO rfl rfl pq) (λh1=>kg rfl rfl ((Yd hu h1▸hE) _ _ .refl rfl rfl)) λh1=>n1 ?_))
 have c2:ev (ay aw fu (n+1)) fu (.cmp .ix (.loc 6) (.attr (.loc 0) 2)) (oR tb t cF (cF+1+aC r) cQ d (some (.str (r.take (aC r)))) none none none none) O= .ok (.bool (!(a6 M (r.take (aC r))).isSome)) O:=aO rfl (cH rfl (cI k9 rfl)) (BM ((wz fb).trans (by rw [q8.isSome])))
 cases hg:a6 M (r.take (aC r)) with
 |none=>
  rw [hg] at c2
  exact cO c2 (kg rfl rfl ((aaK hu h1 hg▸hE) _ _ .refl rfl rfl))
 |some mv=>
  rw [hg] at c2
  have se:TabAt lo (O.set tb (iS md (u+1))) tb md (u+1) M:=hT.tick
  have pu:aT tb O (O.set tb (iS md (u+1))):=aT.refl.set
  refine cg c2 (jj (bG (cH rfl (cI k9 rfl)) rfl qj) rfl (iK k9) (L9 (aO rfl rfl ZM) (aO (cH rfl (cI se.t rfl)) rfl PY) (λh2=>kg rfl rfl ((WG hu h1 hg h2▸hE) _ _ pu rfl rfl)) λh2=>n1 ?_))
  exact Sv hn hf (hP (Nat.lt_of_not_le λq=>h2 (.inl q))) hu h1 hg h2 jR hr hH se pu hE
end
structure PS where
 aL:bz
 bT:List (Nat×List Nat)
 out:List Nat
 bu:List (Nat×Bool×Bool×Bool)
 aM:Bool
 uses:Nat
structure Ix where
  (b p tb md nt pc cd:Nat)
noncomputable def g8 (x:Nat×List Nat):V:= .tup [.int (x.1:Int),.str x.2]
noncomputable def gz (c:Nat×Bool×Bool×Bool):Cell:= .list [.int (c.1:Int),.bool c.2.1,.bool c.2.2.1,.bool c.2.2.2]
noncomputable def dU (O:ag) (cs:List Nat) (l:List (Nat×Bool×Bool×Bool)):Prop:=cs.map (λi=>O[i]?)=l.map λc=>some (gz c)
structure g9 (cd:Nat) (O:ag) (cs:List Nat) (l:List (Nat×Bool×Bool×Bool)):Prop where
 g:O[cd]?=some (.list (cs.reverse.map .ref))
 r:dU O cs l
 nd:cs.Nodup
 lo:∀i∈cs,cd<i
noncomputable def n9 (I:Ix) (ln:Nat) (act:Bool):Cell:= .inst .et [(5,.ref I.tb),(6,.ref I.nt),(7,.ref I.pc),(8,.int (ln:Int)),(9,.ref I.cd),(10,.bool act)]
section
variable {c:cj} {fs gs:List (Nat×V)} {l:List V} {es:List (List Nat×V)}
theorem mw:Cell.inst c fs≠ .list l:=nofun
theorem pg:Cell.list l≠ .inst c fs:=nofun
theorem zO:Cell.list l≠ .dict es:=nofun
theorem Ku:Cell.dict es≠ .list l:=nofun
theorem CQ:Cell.inst c fs≠ .dict es:=nofun
theorem Yg:Cell.dict es≠ .inst c fs:=nofun
theorem HH:Cell.inst .et fs≠ .inst .table gs:=nofun
theorem acb:Cell.inst .table fs≠ .inst .et gs:=nofun
theorem acv:Cell.inst .table fs≠ .inst .macro gs:=nofun
theorem zm (f:Nat×Bool×Bool×Bool):Cell.inst c fs≠gz f:=mw
theorem Uc (f:Nat×Bool×Bool×Bool):Cell.dict es≠gz f:=Ku
end
structure Mg (I:Ix):Prop where
 o1:I.nt<I.pc
 o2:I.pc<I.cd
 o:I.b≤I.p∧I.b≤I.tb∧I.b≤I.md∧I.b≤I.nt
structure uI (k:Nat) (s:PS):Prop where
 k1:s.bT.length≤k
 k2:s.aL.length≤k+5
 k3:s.bu.length≤k
inductive aY (I:Ix) (k ln:Nat) (O:ag) (s:PS):Prop where
 |mk (ps:List (List Nat)) (cs:List Nat) (o:Mg I) (p:O[I.p]?=some (n9 I ln s.aM)) (T:TabAt I.cd O I.tb I.md s.uses s.aL) (n:O[I.nt]?=some (.list (s.bT.map g8)))
      (c1:O[I.pc]?=some (.list (ps.map .str))) (c2:ps.flatten=s.out) (c3:ps.length≤k) (d:g9 I.cd O cs s.bu) (kk:uI k s):aY I k ln O s
noncomputable def ck (b:Nat) (O af:ag):Prop:=O.length≤af.length∧∀i,i<b→i<O.length→af[i]?=O[i]?
section
variable {O af io:ag} {b x i:Nat} {c d:Cell}
theorem ck.refl:ck b O O:=⟨adq _,λ_ _ _=>rfl⟩
theorem ck.trans (h:ck b O af) (h2:ck b af io):ck b O io:=⟨adk h.1 h2.1,λi hb hi=>(h2.2 i hb (adl hi h.1)).trans (h.2 i hb hi)⟩
theorem aj.low (h:aj O af):ck b O af:=⟨h.1,λi _ hi=>h.2 i hi⟩
theorem aT.low (h:aT x O af) (hb:b≤x):ck b O af:=⟨h.1,λi h1 hi=>h.2 i hi (Nat.ne_of_lt (adl h1 hb))⟩
theorem ck.get (h:ck b O af) (g:O[i]?=some c) (hb:i<b):af[i]?=some c:=(h.2 i hb (dE g)).trans g
end
section
variable {O af:ag} {lo tb md u x cd:Nat} {M:bz}
noncomputable def MM (lo x:Nat):Cell→Prop
 | .inst .et _=>True
 | .inst .macro _ | .inst .table _=>False
 | .dict _=>False
 | .list l=>lo<x→∀ss:List (List Nat),l≠ss.map .str
theorem TabAt.keep {c:Cell} (h:TabAt lo O tb md u M) (e:aT x O af) (g:O[x]?=some c) (f:MM lo x c):TabAt lo af tb md u M:=match h with
 |⟨es,h0,h1,h2⟩=>
  have n1:∀{i:Nat} {d:Cell},O[i]?=some d→¬MM lo x d→af[i]?=some d:=λgi nf=>e.get gi λq=>nf (Option.some.inj (g.symm.trans (q▸gi))▸f)
  ⟨es,n1 h0 id,n1 h1 id,h2.mono λv a r=>r.keep λi c g2 k=>k.elim (λ⟨fs,q⟩=>n1 g2 (by rw [q];exact id)) λ⟨hl,ss,q⟩=>e.get g2 λqi=>by
   rw [qi,g] at g2;cases g2
   rw [q] at f
   exact f (qi▸hl) ss rfl⟩
theorem dU.isList {cs:List Nat} {l:List (Nat×Bool×Bool×Bool)} (h:dU O cs l) {i:Nat} (hi:i∈cs):∃c,O[i]?=some (gz c):=match List.mem_map.1 (h▸List.mem_map_of_mem (f:=λi=>O[i]?) hi) with
 |⟨c,_,e⟩=>⟨c,e.symm⟩
theorem dU.keep {cs:List Nat} {l:List (Nat×Bool×Bool×Bool)} (h:dU O cs l) (f:∀i∈cs,∀c,O[i]?=some c→af[i]?=some c):dU af cs l:=(List.map_congr_left λi hi=>(h.isList hi).elim λc e=>(f i hi _ e).trans e.symm).trans h
theorem dU.length {cs:List Nat} {l:List (Nat×Bool×Bool×Bool)} (h:dU O cs l):cs.length=l.length:=(List.length_map _).symm.trans ((congrArg List.length h).trans (List.length_map _))
theorem dU.cons {i:Nat} {c:Nat×Bool×Bool×Bool} {cs:List Nat} {l:List (Nat×Bool×Bool×Bool)} (g:O[i]?=some (gz c)) (h:dU O cs l):dU O (i::cs) (c::l):=by
 show O[i]?::cs.map (λi=>O[i]?)=some (gz c)::l.map λc=>some (gz c)
 rw [g,show cs.map (λi=>O[i]?)=_ from h]
theorem dU.top {i:Nat} {c:Nat×Bool×Bool×Bool} {cs:List Nat} {cl:List (Nat×Bool×Bool×Bool)} (h:dU O (i::cs) (c::cl)):O[i]?=some (gz c)∧dU O cs cl:=⟨(List.cons.inj h).1,(List.cons.inj h).2⟩
theorem dU.some {P:Prop} {c:Nat×Bool×Bool×Bool} {cl:List (Nat×Bool×Bool×Bool)}:∀{cs:List Nat},dU O cs (c::cl)→(∀i cs',cs=i::cs'→P)→P
 |[],h,_=>nomatch h
 |i::cs,_,k=>k i cs rfl
theorem g9.keep {cs:List Nat} {l:List (Nat×Bool×Bool×Bool)} (h:g9 cd O cs l) (e:aT x O af) (hx:x≠cd) (h2:x∉cs):g9 cd af cs l:=
 ⟨e.get h.g (Ne.symm hx),h.r.keep λi hi c g=>e.get g λq=>h2 (q▸hi),h.nd,h.lo⟩
theorem g9.out {cs:List Nat} {l:List (Nat×Bool×Bool×Bool)} (h:g9 cd O cs l) {c:Cell} (g:O[x]?=some c) (q:∀f,c≠gz f):x∉cs:=λm=>(h.r.isList m).elim λf g'=>q f (Option.some.inj (g.symm.trans g'))
end
section
variable {I:Ix} {k ln ln':Nat} {O af:ag} {s:PS}
theorem aY.p (h:aY I k ln O s):O[I.p]?=some (n9 I ln s.aM):=match h with
 |⟨_,_,_,p,_,_,_,_,_,_,_⟩=>p
theorem aY.T (h:aY I k ln O s):TabAt I.cd O I.tb I.md s.uses s.aL:=match h with
 |⟨_,_,_,_,T,_,_,_,_,_,_⟩=>T
theorem aY.n (h:aY I k ln O s):O[I.nt]?=some (.list (s.bT.map g8)):=match h with
 |⟨_,_,_,_,_,n,_,_,_,_,_⟩=>n
theorem aY.o (h:aY I k ln O s):Mg I:=match h with
 |⟨_,_,o,_,_,_,_,_,_,_,_⟩=>o
theorem aY.kk (h:aY I k ln O s):uI k s:=match h with
 |⟨_,_,_,_,_,_,_,_,_,_,kk⟩=>kk
theorem ei {i j:Nat} {c d:Cell} (g:O[i]?=some c) (g2:O[j]?=some d) (q:c≠d):i≠j:=λe=>q (Option.some.inj (g.symm.trans (e▸g2)))
theorem aY.ix {i:Nat} {cs:List Nat} (h:g9 I.cd O cs s.bu) (hi:i≤I.cd):i∉cs:=λq=>absurd (h.lo i q) (Nat.not_lt.2 hi)
theorem aY.ext (h:aY I k ln O s) (e:aj O af):aY I k ln af s:=match h with
 |⟨ps,cs,o,p,T,n,c1,c2,c3,d,kk⟩=>⟨ps,cs,o,e.get p,T.ext e,e.get n,e.get c1,c2,c3,⟨e.get d.g,d.r.keep λ_ _ _ g=>e.get g,d.nd,d.lo⟩,kk⟩
theorem uI.mono {k':Nat} (h:uI k s) (hk:k≤k'):uI k' s:=⟨adk h.k1 hk,adk h.k2 (Nat.add_le_add_right hk _),adk h.k3 hk⟩
theorem aY.mono {k':Nat} (h:aY I k ln O s) (hk:k≤k'):aY I k' ln O s:=match h with
 |⟨ps,cs,o,p,T,n,c1,c2,c3,d,kk⟩=>⟨ps,cs,o,p,T,n,c1,c2,adk c3 hk,d,kk.mono hk⟩
theorem aY.vD (h:aY I k ln O s) (act:Bool):aY I k ln' (O.set I.p (n9 I ln' act)) {s with aM:=act}∧ck I.b O (O.set I.p (n9 I ln' act)):=match h with
 |⟨ps,cs,o,p,T,n,c1,c2,c3,d,kk⟩=>
  have e:aT I.p O (O.set I.p (n9 I ln' act)):=aT.refl.set
  ⟨⟨ps,cs,o,de p,T.keep e p trivial,e.get n (ei n p pg),e.get c1 (ei c1 p pg),c2,c3,d.keep e (ei p d.g mw) (d.out p zm),⟨kk.k1,kk.k2,kk.k3⟩⟩,e.low o.o.1⟩
theorem aY.ZO (h:aY I k ln O s) {ps:List (List Nat)} {y:List Nat} (g:O[I.pc]?=some (.list (ps.map .str))) (c2:ps.flatten=s.out) (c3:ps.length≤k):
  aY I (k+1) ln (O.set I.pc (.list ((ps++[y]).map .str))) {s with out:=s.out++y}∧ck I.b O (O.set I.pc (.list ((ps++[y]).map .str))):=match h with
 |⟨_,cs,o,p,T,n,_,_,_,d,kk⟩=>
  have e:aT I.pc O (O.set I.pc (.list ((ps++[y]).map .str))):=aT.refl.set
  have k':=kk.mono (Nat.le_succ k)
  ⟨⟨ps++[y],cs,o,e.get p (ei p g mw),T.keep e g λq=>absurd q (Nat.not_lt.2 (Nat.le_of_lt o.o2)),e.get n (Nat.ne_of_lt o.o1),de g,c2▸nz ..,oe c3 Nat.one_pos,d.keep e (Nat.ne_of_lt o.o2) (aY.ix d (Nat.le_of_lt o.o2)),⟨k'.k1,k'.k2,k'.k3⟩⟩,e.low (adk o.o.2.2.2 (Nat.le_of_lt o.o1))⟩
theorem aY.Ii (h:aY I k ln O s) (y:Nat×List Nat):aY I (k+1) ln (O.set I.nt (.list ((s.bT++[y]).map g8))) {s with bT:=s.bT++[y]}∧ck I.b O (O.set I.nt (.list ((s.bT++[y]).map g8))):=match h with
 |⟨ps,cs,o,p,T,n,c1,c2,c3,d,kk⟩=>
  have e:aT I.nt O (O.set I.nt (.list ((s.bT++[y]).map g8))):=aT.refl.set
  have k':=kk.mono (Nat.le_succ k)
  have hl:=Nat.lt_trans o.o1 o.o2
  ⟨⟨ps,cs,o,e.get p (ei p n mw),T.keep e n λq=>absurd q (Nat.not_lt.2 (Nat.le_of_lt hl)),de n,e.get c1 (Nat.ne_of_gt o.o1),c2,Nat.le_succ_of_le c3,d.keep e (Nat.ne_of_lt hl) (aY.ix d (Nat.le_of_lt hl)),⟨oe kk.k1 Nat.one_pos,k'.k2,k'.k3⟩⟩,e.low o.o.2.2.2⟩
theorem aY.uses {u:Nat} (h:aY I k ln O s) (e:aT I.tb O af) (t:TabAt I.cd af I.tb I.md u s.aL):aY I k ln af {s with uses:=u}∧ck I.b O af:=match h with
 |⟨ps,cs,o,p,T,n,c1,c2,c3,d,kk⟩=>⟨⟨ps,cs,o,e.get p (ei p T.t HH),t,e.get n (ei n T.t pg),e.get c1 (ei c1 T.t pg),c2,c3,d.keep e (ei T.t d.g mw) (d.out T.t zm),⟨kk.k1,kk.k2,kk.k3⟩⟩,e.low o.o.2.1⟩
theorem aY.IL (h:aY I k ln O s) {es qy:List (List Nat×V)} {M:bz} (g:O[I.md]?=some (.dict es)) (r:bo (mu I.cd O) qy M) (hM:M.length≤k+5):
  aY I k ln (O.set I.md (.dict qy)) {s with aL:=M}∧ck I.b O (O.set I.md (.dict qy)):=match h with
 |⟨ps,cs,o,p,T,n,c1,c2,c3,d,kk⟩=>
  have e:aT I.md O (O.set I.md (.dict qy)):=aT.refl.set
  ⟨⟨ps,cs,o,e.get p (ei p g CQ),⟨_,e.get T.t (ei T.t g CQ),de g,r.mono λv a r=>r.keep λi c g2 kk=>e.get g2 (kk.elim (λ⟨fs,q⟩=>ei g2 g (q▸CQ)) λ⟨_,ss,q⟩=>ei g2 g (q▸zO))⟩,e.get n (ei n g zO),e.get c1 (ei c1 g zO),c2,c3,
   d.keep e (ei g d.g Ku) (d.out g Uc),⟨kk.k1,hM,kk.k3⟩⟩,e.low o.o.2.2.1⟩
theorem vB (cs:List Nat) (i:Nat):(i::cs).reverse.map V.ref=cs.reverse.map V.ref++[.ref i]:=by rw [List.reverse_cons,List.map_append];rfl
theorem aY.HF (h:aY I k ln O s) {l:List V} {k':Nat} {cs cs':List Nat} {bu:List (Nat×Bool×Bool×Bool)} (hd:g9 I.cd O cs s.bu) (hl:l=cs'.reverse.map .ref) (r:dU O cs' bu) (nd:cs'.Nodup) (lo:∀i∈cs',I.cd<i) (hk:k≤k') (h3:bu.length≤k'):
  aY I k' ln (O.set I.cd (.list l)) {s with bu:=bu}∧ck I.b O (O.set I.cd (.list l)):=match h with
 |⟨ps,_,o,p,T,n,c1,c2,c3,_,kk⟩=>
  have e:aT I.cd O (O.set I.cd (.list l)):=aT.refl.set
  have k':=kk.mono hk
  ⟨⟨ps,cs',o,e.get p (ei p hd.g mw),T.keep e hd.g λq=>absurd q (Nat.lt_irrefl _),e.get n (Nat.ne_of_lt (Nat.lt_trans o.o1 o.o2)),e.get c1 (Nat.ne_of_lt o.o2),c2,adk c3 hk,⟨hl▸de hd.g,r.keep λi hi c g=>e.get g (Nat.ne_of_gt (lo i hi)),nd,lo⟩,⟨k'.k1,k'.k2,h3⟩⟩,
   e.low (adk o.o.2.2.2 (Nat.le_of_lt (Nat.lt_trans o.o1 o.o2)))⟩
inductive Top (I:Ix) (k ln:Nat) (O af:ag) (s:PS) (cs:List Nat) (c:Nat×Bool×Bool×Bool) (cl:List (Nat×Bool×Bool×Bool)):Prop where
 |mk (h:aY I k ln af {s with bu:=c::cl}) (l:ck I.b O af) (d:g9 I.cd af cs (c::cl)):Top I k ln O af s cs c cl
theorem aY.Ha (h:aY I k ln O s) {i:Nat} {c:Nat×Bool×Bool×Bool} (c':Nat×Bool×Bool×Bool) {cs:List Nat} {cl:List (Nat×Bool×Bool×Bool)} (he:s.bu=c::cl) (hd:g9 I.cd O (i::cs) s.bu):Top I k ln O (O.set i (gz c')) s (i::cs) c' cl:=match h with
 |⟨ps,_,o,p,T,n,c1,c2,c3,_,kk⟩=>
  have e:aT i O (O.set i (gz c')):=aT.refl.set
  have hi:=hd.lo i List.mem_cons_self
  have hr:=(he▸hd.r:dU O (i::cs) (c::cl)).top
  have g:=hr.1
  have JM:g9 I.cd (O.set i (gz c')) (i::cs) (c'::cl):=⟨e.get hd.g (Nat.ne_of_lt hi),.cons (de g) (hr.2.keep λj hj _ g2=>e.get g2 λq=>(List.nodup_cons.1 hd.nd).1 (q▸hj)),hd.nd,hd.lo⟩
  ⟨⟨ps,i::cs,o,e.get p (ei p g mw),T.keep e g (λ_ ss q=>by cases ss<;>cases q),e.get n (Nat.ne_of_lt (Nat.lt_trans (Nat.lt_trans o.o1 o.o2) hi)),e.get c1 (Nat.ne_of_lt (Nat.lt_trans o.o2 hi)),c2,c3,JM,⟨kk.k1,kk.k2,(congrArg List.length he▸kk.k3:(c::cl).length≤k)⟩⟩,
   e.low (adk o.o.2.2.2 (Nat.le_of_lt (Nat.lt_trans (Nat.lt_trans o.o1 o.o2) hi))),JM⟩
end
section
variable {O:ag} {n:Nat}
theorem IM:∀m,iD [10] m=List.replicate m 10
 |0=>rfl
 |m+1=>congrArg (10:: ·) (IM m)
theorem sQ {m:Nat} (h:m≤aq):eW .mul (.str [10]) (.int (m:Int))=some (.str (List.replicate m 10)):=
  (if_pos (c:=0≤(m:Int)∧[10].length*(m:Int).toNat≤aq∧(m:Int)<4294967296) ⟨Int.natCast_nonneg m,adk (adt (Nat.one_mul m)) h,Io (Bv (Nat.le_add_right_of_le h))⟩).trans (congrArg (λl=>some (V.str l)) (IM m))
theorem nJ {a b:List Nat} (h:(a++b).length≤aq):eW .add (.str a) (.str b)=some (.str (a++b)):=if_pos h
theorem TA {a b:Bool}:ct .eq O (.bool a) (.bool b)=some (.bool (a==b)):=rfl
theorem I5 {xs:List V} {v:V} (h:O[n]?=some (.list xs)) (hv:xs.getLast?=some v):dh O (.ref n) (.int (-1))=some v:=(g6 (d:=Option.none) (f:=λvs=>if 0≤(-1:Int) then vs[(-1:Int).toNat]? else if (-1:Int)= -1 then vs.getLast? else Option.none) h).trans hv
theorem WC {xs:List V} {v:V} (h:O[n]?=some (.list xs)) (hv:xs.getLast?=some v):fM .pop O (.ref n) []= .ok v (O.set n (.list xs.dropLast)):=
  (g6 (d:=Out.stuck) (f:=λxs=>tJ O n xs) h).trans (by unfold tJ;rw [hv])
theorem uA {xs:List V} {v:V} {i:Nat} (h:O[n]?=some (.list xs)) (hi:i<xs.length):jU O (.ref n) (.int (i:Int)) v=some (O.set n (.list (xs.set i v))):=
  (g6 (d:=Option.none) (f:=λvs=>if 0≤(i:Int)∧(i:Int).toNat<vs.length then some (O.set n (.list (vs.set (i:Int).toNat v))) else Option.none) h).trans (if_pos ⟨Int.natCast_nonneg i,hi⟩)
theorem tu {es:List (List Nat×V)} {x:List Nat} {v:V} (h:O[n]?=some (.dict es)) (hl:es.length<1000000):jU O (.ref n) (.str x) v=some (O.set n (.dict (dictPut es x v))):=
  (rm (d:=Option.none) (f:=λes=>if es.length<1000000 then some (O.set n (.dict (dictPut es x v))) else Option.none) h).trans (if_pos hl)
end
noncomputable def PS.emit (s:PS) (x:List Nat):PS:={s with out:=s.out++if s.aM then x else List.replicate (x.count 10) 10}
theorem aY.pc {I:Ix} {k ln:Nat} {O:ag} {s:PS} {P:Prop} (h:aY I k ln O s) (kk:∀ps:List (List Nat),O[I.pc]?=some (.list (ps.map .str))→ps.flatten=s.out→ps.length≤k→P):P:=match h with
 |⟨ps,_,_,_,_,_,c1,c2,c3,_,_⟩=>kk ps c1 c2 c3
theorem aY.d {I:Ix} {k ln:Nat} {O:ag} {s:PS} {P:Prop} (h:aY I k ln O s) (kk:∀cs,g9 I.cd O cs s.bu→P):P:=match h with
 |⟨_,cs,_,_,_,_,_,_,_,d,_⟩=>kk cs d
section
variable {fu n:Nat} {t:List Nat} {O:ag} {X:aX→ag→Prop} {I:Ix} {k a:Nat} {s:PS} {Q:V→ag→Prop}
theorem Jh {C:Calls} {x y:List Nat} (ey:(if s.aM=true then x else List.replicate (x.count 10) 10)=y) (h:aY I k s.out.length O s) (hk:k<aq) (H:∀af,aY I (k+1) (s.emit x).out.length af (s.emit x)→ck I.b O af→Q .none af):
  Wq (ah C fu (bf 1 Jr) [some (.ref I.p),some (.str y)] O) (bL Q) X:=h.pc λps c1 c2 c3=>by
 rw [show s.emit x={s with out:=s.out++y} from congrArg (λy=>{s with out:=s.out++y}) ey] at H
 have p1:=h.ZO (y:=y) c1 c2 c3
 have p2:=p1.1.vD (ln':=s.out.length+y.length) s.aM
 exact dR (iQ (cH rfl (cI h.p rfl)) c1 rfl ((ip c1 (by rw [List.length_map];exact adm c3 hk)).trans (by rw [vQ]))) (jj (bG (cH rfl (cI p1.1.p rfl)) (fq rfl oX) zF) rfl (iK p1.1.p) (bx (.next (H _ (List.length_append (as:=s.out)▸p2.1) (p1.2.trans p2.2)))))
theorem z6 {x:List Nat} (hn:1<n) (h:aY I k s.out.length O s) (hk:k<aq) (hx:x.length≤aq) (H:∀af,aY I (k+1) (s.emit x).out.length af (s.emit x)→ck I.b O af→Q .none af):
  Wp (ay aw fu (n+1) 22 [.ref I.p,.str x] O) Q X:=by
 refine dY (L:=[some (.ref I.p),some (.str x)]) rfl rfl (by decide) rfl (fB (ro (cH rfl (cI h.p rfl))) (λq=>?_) λq=>n1 ?_)
 ·exact aV (bG rfl (eg (aJ rfl rfl) (DP hn)) (sQ (adk List.count_le_length hx))) (n1 (Jh (zc (Bool.not_eq_true' s.aM▸q)) h hk H))
 ·exact Jh (Ae (Bool.not_eq_false' s.aM▸q)) h hk H
noncomputable def cB (r:List Nat):Nat:=Cm r
noncomputable def bB (r:List Nat):Nat:=aC (r.drop (cB r))
noncomputable def eJ (r:List Nat):List Nat:=(r.drop (cB r)).take (bB r)
theorem within {e w:Nat} {r:List Nat} (he:e≤t.length) (hr:t.drop e=r) (h:w≤r.length):e+w≤t.length:=by
 rw [←mx he,hr,Nat.add_comm]
 exact Nat.add_le_add_right h e
theorem K6 {r:List Nat} {e:Nat} (he:e≤t.length) (hr:t.drop e=r):e+cB r≤t.length∧e+cB r+bB r≤t.length:=
 have h1:=within he hr (my _ r)
 ⟨h1,within h1 (dF _ hr) (B3 _)⟩
theorem sY {e:Nat} {r:List Nat} {x:V} (hn:1<n) (hf:aq+100<fu) (ht:t.length≤aq) (he:e≤t.length) (hr:t.drop e=r)
    (H1:0<bB r→Q (.tup [.str (eJ r),.int ((e+(cB r+bB r):Nat):Int)]) O) (H2:bB r=0→∀y:aX,y.k= .str gT→y.a= .int (a:Int)→X y O):
  Wp (ay aw fu (n+1) 24 [x,.str t,.int (a:Int),.int (e:Int)] O) Q X:=by
 have i1:=K6 he hr
 refine dY rfl rfl (by decide) rfl (aV (v:= .int ((e+cB r:Nat):Int)) (eg (aJ rfl (aJ rfl rfl)) ((Ro hn ht he hf).trans (by rw [hr];rfl))) (aV (v:= .int ((e+cB r+bB r:Nat):Int)) (eg (aJ rfl (aJ rfl rfl)) ((vM hn ht i1.1 hf).trans (by rw [dF _ hr];rfl)))
    (eQ (aO rfl rfl kQ) (λq=>kg rfl rfl (H2 (Nat.add_left_cancel (k:=0) q) _ rfl rfl)) λq=>n1 (dp (og (aJ (eZ rfl rfl rfl (kX (fE i1.1 ht) (fE i1.2 ht))) (aJ rfl rfl))) (.ret ?_)))))
 rw [Nat.add_sub_cancel_left,dF _ hr,Nat.add_assoc]
 exact H1 (Nat.pos_of_ne_zero λz=>q (by rw [z];rfl))
inductive DR where
 |ok (s:PS) (c:Nat)
 |err (k:List Nat)
noncomputable def gb:List Nat:=[105,102,100,101,102]
noncomputable def fZ:List Nat:=[105,102,110,100,101,102]
noncomputable def oF:List Nat:=[101,108,115,105,102]
noncomputable def ib:List Nat:=[101,108,115,101]
noncomputable def jD:List Nat:=[101,110,100,105,102]
inductive Cn (s:PS) (a:Nat) (r nm:List Nat) (res:DR):Prop where
 |yQ (w h:Bool) (hn:nm=(if w then gb else fZ)) (ho:0<bB r) (hh:h=((a6 s.aL (eJ r)).isSome==w)) (e:res= .ok {s with bu:=(a,s.aM,h,false)::s.bu,aM:=s.aM&&h} (cB r+bB r)):Cn s a r nm res
 |none (hn:nm=oF∨nm=ib∨nm=jD) (hc:s.bu=[]) (e:res= .err lF):Cn s a r nm res
 |Dm (b:Nat) (x y z:Bool) (cl:List (Nat×Bool×Bool×Bool)) (hn:nm=jD) (hc:s.bu=(b,x,y,z)::cl) (e:res= .ok {s with bu:=cl,aM:=x} 0):Cn s a r nm res
 |seen (b:Nat) (x y:Bool) (cl:List (Nat×Bool×Bool×Bool)) (hn:nm=ib) (hc:s.bu=(b,x,y,true)::cl) (e:res= .err lF):Cn s a r nm res
 |eP (b:Nat) (x y:Bool) (cl:List (Nat×Bool×Bool×Bool)) (hn:nm=ib) (hc:s.bu=(b,x,y,false)::cl) (e:res= .ok {s with bu:=(b,x,true,true)::cl,aM:=x&& !y} 0):Cn s a r nm res
 |E5 (b:Nat) (x y h:Bool) (cl:List (Nat×Bool×Bool×Bool)) (hn:nm=oF) (hc:s.bu=(b,x,y,false)::cl) (ho:0<bB r) (hh:h=(a6 s.aL (eJ r)).isSome) (e:res= .ok {s with bu:=(b,x,y||h,false)::cl,aM:=x&&(h&& !y)} (cB r+bB r)):Cn s a r nm res
noncomputable def iv (I:Ix) (k:Nat) (O:ag) (e a:Nat) (Q:V→ag→Prop) (X:aX→ag→Prop):DR→Prop
 | .ok s c=>∀af,aY I k s.out.length af s→ck I.b O af→Q (.int ((e+c:Nat):Int)) af
 | .err kk=>∀af y,ck I.b O af→y.k= .str kk→y.a= .int (a:Int)→X y af
theorem iv.of {I:Ix} {k:Nat} {O:ag} {e a:Nat} {Q:V→ag→Prop} {X:aX→ag→Prop} {r r':DR} (h:iv I k O e a Q X r) (q:r=r'):iv I k O e a Q X r':=q▸h
theorem zt {C:Calls} {L:Locals} {e:E} {w:List Nat} (h:aY I k s.out.length O s) (h0:L.get 0=some (.ref I.p)) (hw:ev C fu e L O= .ok (.str w) O):ev C fu (.cmp .isin e (.attr (.attr (.loc 0) 5) 2)) L O= .ok (.bool (a6 s.aL w).isSome) O:=match h.T with
 |⟨es,t,g,r⟩=>aO hw (cH (cH (dI h0) (cI h.p rfl)) (cI t rfl)) (nM ((wz g).trans (congrArg some r.isSome)))
noncomputable def iX (I:Ix) (nm t:List Nat) (a e:Nat) (x5 x6 x7:Option V):Locals:=[some (.ref I.p),some (.str nm),some (.str t),some (.int (a:Int)),some (.int (e:Int)),x5,x6,x7]
abbrev bC:Ss:=HM
theorem J4 {C:Calls} {nm:List Nat} {e i:Nat} {c:Nat×Bool×Bool×Bool} {hh:Bool} {cs:List Nat} {cl:List (Nat×Bool×Bool×Bool)} {x5:Option V} (p1:aY I k s.out.length O s) (hc:s.bu=c::cl) (hd:g9 I.cd O (i::cs) s.bu)
    (H:∀af,aY I k s.out.length af {s with bu:=(c.1,c.2.1,c.2.2.1||hh,c.2.2.2)::cl,aM:=c.2.1&&(hh&& !c.2.2.1)}→ck I.b O af→Q (.int (e:Int)) af):Wq (ah C fu (bf 6 bC) (iX I nm t a e x5 (some (.bool hh)) (some (.ref i))) O) (bL Q) X:=by
 have g:=(hc▸hd.r:dU O (i::cs) (c::cl)).top.1
 have p2:=p1.vD (ln':=s.out.length) (c.2.1&&(hh&& !c.2.2.1))
 have ne:I.p≠i:=ei p1.p g mw
 have g2:(O.set I.p (n9 I s.out.length (c.2.1&&(hh&& !c.2.2.1))))[i]?=some (gz c):=fQ g ne
 have zQ:g9 I.cd (O.set I.p (n9 I s.out.length (c.2.1&&(hh&& !c.2.2.1)))) (i::cs) s.bu:=hd.keep aT.refl.set (ei p1.p hd.g mw) (hd.out p1.p zm)
 have p3:=p2.1.Ha (c.1,c.2.1,c.2.2.1||hh,c.2.2.2) hc zQ
 exact jj (ku (fC (bj rfl rfl (eA (i:=1) g rfl)) (fC rfl (fN (ro (bj rfl rfl (eA (i:=2) g rfl))))))) rfl (iK p1.p)
    (oM (oN (jL (bj rfl rfl (eA (i:=2) g2 rfl)) (jT rfl))) rfl rfl (uA (i:=2) g2 (Nat.lt_succ_of_lt (adu 2))) (dp rfl (.ret (match p3 with
  |⟨p3,l3,_⟩=>H _ p3 (p2.2.trans l3)))))
theorem xQ {C:Calls} {nm:List Nat} {e:Nat} {c:Nat×Bool×Bool×Bool} {cl:List (Nat×Bool×Bool×Bool)} (h:aY I k s.out.length O s) (hc:s.bu=c::cl) (c0:ev C fu (.or (.cons (.cmp .eq (.loc 1) (.str gb)) (.cons (.cmp .eq (.loc 1) (.str fZ)) .nil))) (iX I nm t a e none none none) O= .ok (.bool false) O)
    (H:∀i cs,g9 I.cd O (i::cs) s.bu→O[i]?=some (gz c)→O[I.cd]?=some (.list (cs.reverse.map V.ref++[.ref i]))→Wq (ah C fu (bf 3 bC) (iX I nm t a e none none (some (.ref i))) O) (bL Q) X):Wq (ah C fu bC (iX I nm t a e none none none) O) (bL Q) X:=
 h.d λcs hd=>dU.some (hc▸hd.r:dU O cs (c::cl)) λi cs' ec=>by
  rw [ec] at hd
  have g:=(hc▸hd.r:dU O (i::cs') (c::cl)).top.1
  have hg:=hd.g
  have el:decide ((((i::cs').reverse.map V.ref).length:Int)=0)=false:=decide_eq_false λq=>by rw [vB,List.length_append] at q;exact absurd (Int.ofNat_inj.1 q) (Nat.succ_ne_zero _)
  have e0:=(aO (C:=C) (fu:=fu) (L:=iX I nm t a e none none none) (b:= .int 0) (op:= .eq) (fq (es:= .cons (.attr (.loc 0) 9) .nil) (b:= .len) (aJ (cH rfl (cI h.p (f:=9) rfl)) rfl) (mn hg)) rfl oD).trans (congrArg (λb=>Out.ok (V.bool b) O) el)
  rw [vB] at hg
  exact cg c0 (cg e0 (aV (bj (cH rfl (cI h.p rfl)) rfl (I5 hg (List.getLast?_concat ..))) (H i cs' hd g hg)))
theorem Z9 {e:Nat} {r nm:List Nat} {w hh:Bool} (hn:1<n) (hf:aq+100<fu) (ht:t.length≤aq) (he:e≤t.length) (hr:t.drop e=r) (hk:k<aq) (h:aY I k s.out.length O s) (eV:nm=(if w then gb else fZ)) (ho:0<bB r) (uO:hh=((a6 s.aL (eJ r)).isSome==w))
    (H:∀af,aY I (k+1) s.out.length af {s with bu:=(a,s.aM,hh,false)::s.bu,aM:=s.aM&&hh}→ck I.b O af→Q (.int ((e+(cB r+bB r):Nat):Int)) af):
  Wq (ah (ay aw fu (n+1)) fu bC (iX I nm t a e none none none) O) (bL Q) X:=h.d λcs hd=>by
 have c0:ev (ay aw fu (n+1)) fu (.or (.cons (.cmp .eq (.loc 1) (.str gb)) (.cons (.cmp .eq (.loc 1) (.str fZ)) .nil))) (iX I nm t a e none none none) O= .ok (.bool true) O:=by rw [eV];cases w<;>rfl
 have c2:∀x,ev (ay aw fu (n+1)) fu (.cmp .eq (.loc 1) (.str gb)) (iX I nm t a (e+(cB r+bB r)) x none none) O= .ok (.bool w) O:=λx=>by rw [eV];cases w<;>rfl
 have hx:=(aj.refl (O:=O)).push (d:=gz (a,s.aM,hh,false))
 have hp:=h.ext hx
 have hg:(O++[gz (a,s.aM,hh,false)])[I.cd]?=some (.list (cs.reverse.map .ref)):=hx.get hd.g
 have bQ:g9 I.cd (O++[gz (a,s.aM,hh,false)]) cs s.bu:=⟨hg,hd.r.keep λ_ _ _ g=>hx.get g,hd.nd,hd.lo⟩
 have p1:=hp.HF (k':=k+1) (cs':=O.length::cs) (bu:=(a,s.aM,hh,false)::s.bu) (l:=cs.reverse.map .ref++[.ref O.length]) bQ (vB _ _).symm (.cons bH bQ.r)
    (List.nodup_cons.2 ⟨λq=>(hd.r.isList q).elim λc g=>absurd (dE g) (Nat.lt_irrefl _),hd.nd⟩) (λi hi=>(List.mem_cons.1 hi).elim (λq=>q▸dE hd.g) (hd.lo i)) (Nat.le_succ _) (Nat.succ_le_succ h.kk.k3)
 have p2:=p1.1.vD (ln':=s.out.length) (s.aM&&hh)
 refine cO c0 (pI rfl h.p rfl rfl (sY hn hf ht he hr (λ_=>⟨rfl,bZ rfl ?_⟩) λq=>absurd ho (q▸Nat.lt_irrefl 0)))
 refine aV (v:= .bool hh) ((aO (zt h rfl rfl) (c2 _) TA).trans (by rw [uO])) (dR (iw (cH rfl (cI h.p rfl)) hd.g rfl (aJ (CL (aJ rfl (aJ (cH rfl (cI h.p rfl)) rfl))) rfl) (ip hg ?_)) (jj (ku (fC (cH rfl (cI p1.1.p rfl)) (fN rfl))) rfl (iK p1.1.p) (dp rfl (.ret (.ret (H _ p2.1 ((hx.low.trans p1.2).trans p2.2)))))))
 rw [List.length_map,List.length_reverse,hd.r.length]
 exact adm h.kk.k3 hk
theorem Tf {C:Calls} {nm:List Nat} {e:Nat} (h:aY I k s.out.length O s) (eV:nm=oF∨nm=ib∨nm=jD) (hc:s.bu=[]) (H:∀af y,ck I.b O af→y.k= .str lF→y.a= .int (a:Int)→X y af):Wq (ah C fu bC (iX I nm t a e none none none) O) (bL Q) X:=h.d λcs hd=>by
 have c0:ev C fu (.or (.cons (.cmp .eq (.loc 1) (.str gb)) (.cons (.cmp .eq (.loc 1) (.str fZ)) .nil))) (iX I nm t a e none none none) O= .ok (.bool false) O:=by rcases eV with rfl |rfl |rfl<;>rfl
 have hl:cs=[]:=List.eq_nil_of_length_eq_zero (hd.r.length.trans (congrArg List.length hc))
 have g:O[I.cd]?=some (.list []):=hd.g.trans (by rw [hl];rfl)
 exact cg c0 (cO (aO (fq (aJ (cH rfl (cI h.p rfl)) rfl) (mn g)) rfl oD) (kg rfl rfl (H _ _ .refl rfl rfl)))
theorem N9 {C:Calls} {e:Nat} {c:Nat×Bool×Bool×Bool} {cl:List (Nat×Bool×Bool×Bool)} (h:aY I k s.out.length O s) (hc:s.bu=c::cl) (H:∀af,aY I (k+1) s.out.length af {s with bu:=cl,aM:=c.2.1}→ck I.b O af→Q (.int ((e+0:Nat):Int)) af):Wq (ah C fu bC (iX I jD t a e none none none) O) (bL Q) X:=
 xQ h hc rfl λi cs hd g hg=>by
  have p1:=h.HF (k':=k+1) (cs':=cs) (bu:=cl) (l:=cs.reverse.map .ref) hd rfl (hc▸hd.r:dU O (i::cs) (c::cl)).top.2 (List.nodup_cons.1 hd.nd).2 (λj hj=>hd.lo j (List.mem_cons_of_mem _ hj)) (Nat.le_succ _) (Nat.le_succ_of_le (Nat.le_of_succ_le (congrArg List.length hc▸h.kk.k3:(c::cl).length≤k)))
  have g1:(O.set I.cd (.list (cs.reverse.map .ref)))[i]?=some (gz c):=fQ g (Nat.ne_of_lt (hd.lo i List.mem_cons_self))
  have p2:=p1.1.vD (ln':=s.out.length) c.2.1
  exact cO rfl (dR (iw (cH rfl (cI h.p rfl)) hg rfl rfl ((WC hg (List.getLast?_concat ..)).trans (by rw [List.dropLast_concat]))) (jj (bj rfl rfl (eA (i:=1) g1 rfl)) rfl (iK p1.1.p) (dp rfl (.ret (.ret (H _ p2.1 (p1.2.trans p2.2)))))))
theorem Pu {C:Calls} {e:Nat} {b:Nat} {x y:Bool} {cl:List (Nat×Bool×Bool×Bool)} (h:aY I k s.out.length O s) (hc:s.bu=(b,x,y,false)::cl) (H:∀af,aY I (k+1) s.out.length af {s with bu:=(b,x,true,true)::cl,aM:=x&& !y}→ck I.b O af→Q (.int ((e+0:Nat):Int)) af):Wq (ah C fu bC (iX I ib t a e none none none) O) (bL Q) X:=
 xQ h hc rfl λi cs hd g hg=>match h.Ha (b,x,y,true) hc hd with
  |⟨p1,l1,dw⟩=>cg rfl (cg (bj rfl rfl (eA (i:=3) g rfl)) (cO rfl (oM rfl rfl rfl (uA (i:=3) g (adu 3)) (aV rfl (n1 (J4 (hh:=true) (s:={s with bu:=(b,x,y,true)::cl}) p1 rfl dw λaf p3 l3=>by
   rw [Bool.or_true] at p3
   exact H _ (p3.mono (Nat.le_succ k)) (l1.trans l3)))))))
theorem W9 {e:Nat} {r nm:List Nat} {res:DR} (hn:1<n) (hf:aq+100<fu) (ht:t.length≤aq) (he:e≤t.length) (hr:t.drop e=r) (hk:k<aq) (h:aY I k s.out.length O s) (hc:Cn s a r nm res) (hE:iv I (k+1) O e a Q X res):
  Wp (ay aw fu (n+2) 26 [.ref I.p,.str nm,.str t,.int (a:Int),.int (e:Int)] O) Q X:=dY (L:=iX I nm t a e none none none) rfl rfl (by decide) rfl (match hc with
 | .yQ w hh eV ho uO e=>Z9 hn hf ht he hr hk h eV ho uO (hE.of e)
 | .none eV hc e=>Tf h eV hc (hE.of e)
 | .Dm b x y z cl eV hc e=>eV▸N9 h hc (hE.of e)
 | .seen b x y cl eV hc e=>eV▸xQ h hc rfl λi cs hd g hg=>cg rfl (cO (bj rfl rfl (eA (i:=3) g rfl)) (kg rfl rfl (hE.of e _ _ .refl rfl rfl)))
 | .eP b x y cl eV hc e=>eV▸Pu h hc (hE.of e)
 | .E5 b x y hh cl eV hc ho uO ee=>eV▸xQ h hc rfl λi cs hd g hg=>cg rfl (cg (bj rfl rfl (eA (i:=3) g rfl)) (fz rfl (pI rfl h.p rfl rfl (sY hn hf ht he hr (λ_=>⟨rfl,bZ rfl (aV (v:= .bool hh) ((zt h rfl rfl).trans (by rw [uO])) (n1 (J4 h hc hd λaf p3 l3=>hE.of ee _ (p3.mono (Nat.le_succ k)) l3)))⟩) λq=>absurd ho (q▸Nat.lt_irrefl 0))))))
end
section
variable {fu n:Nat} {O:ag}
theorem FX {c d:Cell}:(O++[c]).set O.length d=O++[d]:=by rw [List.set_append_right _ _ (adq _),Nat.sub_self];rfl
theorem IK {nv:V} {b:List Nat}:pW (ay aw fu (n+1)) .macro O [nv,.str b]= .ok (.ref O.length) (O++[.inst .macro [(0,nv),(1,.str b)]]):=by
 have e:ay aw fu (n+1) 15 [.ref O.length,nv,.str b] (O++[.inst .macro []])= .ok .none (O++[.inst .macro [(0,nv),(1,.str b)]]):=
  II (dY rfl rfl (by decide) rfl (jj (eR:=O++[.inst .macro [(0,nv)]]) rfl rfl ((iK bH).trans (by rw [FX];rfl)) (jj rfl rfl ((iK bH).trans (by rw [FX];rfl)) (bx (.next ⟨rfl,rfl⟩)))))
 show qf (ay aw fu (n+1) 15 [.ref O.length,nv,.str b] (O++[.inst .macro []])) Out.stuck _=_
 rw [e];rfl
theorem gc {α:Type} {c:Prop} [Decidable c] {x y:α} {P:α→Prop} (h1:c→P x) (h2:¬c→P y):P (if c then x else y):=if h:c then by rw [if_pos h];exact h1 h else by rw [if_neg h];exact h2 h
theorem hJ {α:Type} {c:Prop} [d:Decidable c] {x y:Option α} {z:α} {R:Prop} (h1:c→x=some z→R) (h2:¬c→y=some z→R) (h:(if c then x else y)=some z):R:=match d,h with
 | .isTrue q,h=>h1 q h
 | .isFalse q,h=>h2 q h
theorem xc {α:Type} {c:Prop} [d:Decidable c] {x y:Option α} {z:α} {R:Prop} (h:(if c then x else y)=some z) (h1:c→x=some z→R) (h2:¬c→y=some z→R):R:=hJ h1 h2 h
theorem zD {α:Type} (k:List Nat) (v:α):∀l:List (List Nat×α),(dZ l k v).length≤l.length+1
 |[]=>adq _
 |(x,u)::r=>gc (P:=λl:List (List Nat×α)=>l.length≤r.length+1+1) (λ_=>Nat.le_succ _) λ_=>Nat.succ_le_succ (zD k v r)
theorem DQ {α:Type} (k:List Nat):∀l:List (List Nat×α),(fg l k).length≤l.length
 |[]=>adq _
 |(x,u)::r=>gc (P:=λl:List (List Nat×α)=>l.length≤r.length+1) (λ_=>Nat.le_succ _) λ_=>Nat.succ_le_succ (DQ k r)
theorem NL:∀{as:List (List Nat)},as≠[[]]→PySem.PyData.eqv (.list (as.map dM)) (.list ([[]].map dM))=false
 |[],_=>rfl
 |s::u::r,_=>(Bool.and_false (PySem.PyData.eqv (dM s) (dM [])))
 |[[]],h=>absurd rfl h
 |[c::s],_=>rfl
end
noncomputable def gI:List Nat:=[100,101,102,105,110,101]
structure wt (as:List (List Nat)) (i:Nat) (s:List Nat):Prop where
 g:as[i]?=some s
 l:s.length≤aq
 n0:s≠[]
 n1:aC s=s.length
noncomputable def rM (as:List (List Nat)) (i:Nat):Prop:=∃s,wt as i s∧s∉as.take i
noncomputable def RG (as:List (List Nat)) (i:Nat):Prop:=∃s,wt as i s∧s∈as.take i
noncomputable def dW (m:Nat):List Nat:=List.replicate m 10
inductive Df (s:PS) (r:List Nat) (d:DR):Prop where
 |op (o:bB r=0) (q:d= .err gT):Df s r d
 |res (o:0<bB r) (h:eJ r∈gL) (q:d= .err gT):Df s r d
 |plain (f e:Nat) (acc:List Nat) (o:0<bB r) (h:eJ r∉gL) (h4:(r.drop (cB r+bB r)).take 1≠[40]) (hb:df f (cB r+bB r) [] (r.drop (cB r+bB r))=some (acc,e))
      (q:d= .ok ({s with aL:=dZ s.aL (eJ r) ⟨none,cZ acc⟩}.emit (dW ((r.take e).count 10))) e):Df s r d
 |args (f g e e2:Nat) (acc:List Nat) (as:List (List Nat)) (o:0<bB r) (h:eJ r∉gL) (h4:(r.drop (cB r+bB r)).take 1=[40]) (ha:ez f (cB r+bB r) (r.drop (cB r+bB r))=some (some (as,e))) (hn:as≠[[]])
      (hp:∀i,i<as.length→rM as i) (he:e≤r.length) (hb:df g e [] (r.drop e)=some (acc,e2)) (q:d= .ok ({s with aL:=dZ s.aL (eJ r) ⟨some as,cZ acc⟩}.emit (dW ((r.take e2).count 10))) e2):Df s r d
 |dup (f e i:Nat) (as:List (List Nat)) (o:0<bB r) (h:eJ r∉gL) (h4:(r.drop (cB r+bB r)).take 1=[40]) (ha:ez f (cB r+bB r) (r.drop (cB r+bB r))=some (some (as,e))) (hn:as≠[[]])
      (hi:i<as.length) (hp:RG as i) (hj:∀j,j<i→rM as j) (q:d= .err gh):Df s r d
section
variable {fu n:Nat} {t:List Nat} {O:ag} {X:aX→ag→Prop} {I:Ix} {k a:Nat} {s:PS} {Q:V→ag→Prop}
theorem LZ {w:Nat} {s l:List Nat} (h:s.take w=l):l.length≤s.length:=h▸List.length_take_le' ..
theorem HL:∀(f k:Nat) (acc r nR:List Nat) (e:Nat),df f k acc r=some (nR,e)→k≤e∧e≤k+r.length
 |0,_,_,_,_,_,h=>nomatch h
 |_+1,k,acc,[],_,_,h=>(Prod.mk.inj (Option.some.inj h)).2▸⟨adq _,adq _⟩
 |f+1,k,acc,c::r,nR,e,h=>by
  have hl:∀{w:Nat} {a2},w≤(c::r).length→df f (k+w) a2 ((c::r).drop w)=some (nR,e)→k≤e∧e≤k+(c::r).length:=λ{w a2} hw h=>by
   have:=HL f _ _ _ _ _ h
   rw [List.length_drop,Nat.add_assoc,Nat.add_sub_of_le hw] at this
   exact ⟨adk (adn k w) this.1,this.2⟩
  refine hJ (λ_ h=>?_) (λ_ h=>?_) h
  ·have e1:=(Prod.mk.inj (Option.some.inj h)).2
   rw [←e1];exact ⟨adq _,adn _ _⟩
  ·exact xc h (λ_=>hl (G3 _)) λ_ h=>xc h (λq=>hl (w:=2) (Nat.succ_le_succ (LZ q.2))) λ_ h=>xc h (λq=>hl (w:=3) (LZ q)) λ_=>hl (IW _)
theorem k_lt (hk:k≤400000):k+2<aq:=by rw [dm];exact adm (Nat.add_le_add_right hk 2) (by decide)
theorem Fd {b e2:Nat} {r:List Nat} (ij:a≤b) (hr:t.drop b=r) (hz:((t.drop a).take (b-a)).count 10=0):((t.drop a).take (b+e2-a)).count 10=(r.take e2).count 10:=by
 rw [Nat.sub_add_comm ij,List.take_add,List.count_append,hz,List.drop_drop,Nat.add_sub_of_le ij,hr,Nat.zero_add]
theorem lK {m:Nat} (h:m≤200000):m≤8000000:=adk h (by decide)
theorem wx {s:List Nat}:(s.count 10)≤s.length:=List.count_le_length
noncomputable def rt (I:Ix) (t:List Nat) (a b:Nat) (w:List Nat) (x5 x6 x7 x8 x9 fD BK:Option V):Locals:=[some (.ref I.p),some (.str t),some (.int (a:Int)),some (.int (b:Int)),some (.str w),x5,x6,x7,x8,x9,fD,BK]
abbrev bD:Ss:=IA
theorem J8 {b b1 e e2 g:Nat} {r acc:List Nat} {ns:Option (List (List Nat))} {nv:V} {w:List Nat} {y7 y8 y9 qZ VR:Option V} (hn:1<n) (hf:aq+100<fu) (cJ:t.length≤200000) (ha:a9 t) (ij:a≤b) (iZ:b≤t.length) (hr:t.drop b=r) (hz:((t.drop a).take (b-a)).count 10=0) (he:e≤r.length)
    (hk:k≤400000) (h:aY I k s.out.length O s) (hb:df g e [] (r.drop e)=some (acc,e2)) (si:Hr I.cd O nv ns)
    (H:∀af,aY I (k+2) ({s with aL:=dZ s.aL w ⟨ns,cZ acc⟩}.emit (dW ((r.take e2).count 10))).out.length af ({s with aL:=dZ s.aL w ⟨ns,cZ acc⟩}.emit (dW ((r.take e2).count 10)))→ck I.b O af→Q (.int ((b+e2:Nat):Int)) af):
  Wq (ah (ay aw fu (n+1)) fu (bf 5 bD) (rt I t a b1 w (some nv) (some (.int ((b+e:Nat):Int))) y7 y8 y9 qZ VR) O) (bL Q) X:=by
 have ht:=Nat.le_of_succ_le (iu (t:=t) (lK cJ))
 have uK:=HL _ _ _ _ _ _ hb
 rw [List.length_drop,Nat.add_sub_of_le he] at uK
 have zJ:b+e2≤t.length:=within iZ hr uK.2
 refine zE rfl (EV (f:=g) (acc:=acc) (e:=b+e2) hn (lK cJ) ha (within iZ hr he) hf (by rw [dF e hr,EX,hb];rfl) λae x1=>⟨rfl,bZ rfl ?_⟩)
 have h1:=h.ext x1
 obtain ⟨es,tt,fb,pE⟩:=h1.T
 have x2:=(aj.refl (O:=ae)).push (d:= .inst .macro [(0,nv),(1,.str (cZ acc))])
 have h2:=h1.ext x2
 have Vh:es.length≤k+5:=pE.length▸h1.kk.k2
 have Qn:bo (mu I.cd (ae++[Cell.inst .macro [(0,nv),(1,.str (cZ acc))]])) (dictPut es w (.ref ae.length)) (dZ s.aL w ⟨ns,cZ acc⟩):=(pE.mono λv a r=>r.keep λi c g _=>x2.get g).put ⟨_,nv,rfl,bH,match ns,si with
  |none,si=>si
  |some l,⟨j,e1,e2,e3⟩=>⟨j,e1,e2,x2.get (x1.get e3)⟩⟩
 have p3:=(h2.mono (Nat.le_succ k)).IL (M:=dZ s.aL w ⟨ns,cZ acc⟩) (x2.get fb) Qn (adk (zD _ _ _) (Nat.add_right_comm k 5 1▸Nat.succ_le_succ h1.kk.k2))
 have cl:((t.drop a).take (b+e2-a)).count 10≤aq:=adk wx (adk (List.length_take_le' _ _) (adk lT ht))
 refine oM (N5 rfl IK) (cH (cH rfl (cI h2.p rfl)) (cI (x2.get tt) rfl)) rfl (tu (x2.get fb) (adm Vh (adm (Nat.add_le_add_right hk 5) (by decide)))) (sS rfl p3.1.p rfl (aJ (v:= .str (dW ((r.take e2).count 10))) ?_ rfl) (z6 (s:={s with aL:=dZ s.aL w ⟨ns,cZ acc⟩}) hn p3.1 (Nat.lt_of_succ_lt (k_lt hk)) ?_ λeR p4 l4=>dp rfl (.ret (H _ p4 (((x1.low.trans x2.low).trans p3.2).trans l4)))))
 ·rw [←Fd ij hr hz]
  exact bG rfl (eg (aJ (eZ rfl rfl rfl (kX (fE (adk ij iZ) ht) (fE zJ ht))) rfl) (DP (Nat.lt_succ_of_lt hn))) (sQ cl)
 ·rw [dW,List.length_replicate, ←Fd ij hr hz];exact cl
theorem QH {A i:Nat} {lo hi:V} {hl hh:Bool} {xs:List V} (h1:kL lo hl=some Option.none) (h2:kL hi hh=some (some i)) (h:O[A]?=some (.list xs)):jx O (.ref A) lo hi hl hh= .ok (.ref O.length) (O++[.list (xs.take i)]):=kH h1 (kH h2 (g6 h))
theorem Vn {A i:Nat} {as:List (List Nat)} (hi:i<16777300) (h:O[A]?=some (.list (as.map .str))):jx O (.ref A) .none (.int (i:Int)) false true= .ok (.ref O.length) (O++[.list ((as.take i).map .str)]):=(QH rfl (uR hi) h).trans (by rw [List.map_take])
theorem Yb {C:Calls} {L:Locals} {e e2:E} {es:Es} {v:V} {O ae az:ag} (h1:ev C fu e L O= .ok (.bool false) ae) (h2:ea C fu false (.cons e2 es) L ae= .ok v az):ea C fu false (.cons e (.cons e2 es)) L O= .ok v az:=cY h1 h2
theorem RF {u:List Nat} (hn:1<n) (hu:u.length≤aq) (hf:aq+100<fu):ay aw fu n 1 [.str u,.int 0] O= .ok (.int ((aC u:Nat):Int)) O:=(vM (t:=u) (k:=0) (O:=O) hn hu (ads _) hf).trans (by rw [Nat.zero_add];rfl)
theorem o5 {α:Type} {x:α} {R:Prop} (h:none=some x):R:=nomatch h
theorem Ee:∀(f d:Nat) (as:List (List Nat)) (cf:List Nat) (k:Nat) (r:List Nat) (eU:List (List Nat)) (e:Nat),cS f d as cf k r=some (some (eU,e))→eU.length≤as.length+r.length
 |0,_,_,_,_,_,_,_,h=>nomatch h
 |_+1,_,_,_,_,[],_,_,h=>o5 (Option.some.inj h)
 |f+1,d,as,cf,k,c::r,eU,e,h=>by
  have hl:∀{w d c2 k2},cS f d as c2 k2 ((c::r).drop w)=some (some (eU,e))→eU.length≤as.length+(c::r).length:=λh=>adk (Ee f _ _ _ _ _ _ _ h) (Nat.add_le_add_left lT _)
  have h1:(as++[cZ cf]).length≤as.length+1:=adt List.length_append
  exact hJ (λ_=>hl)
      (λ_=>hJ (λ_=>hJ (λ_ h=>adk (adt (congrArg List.length (Prod.mk.inj (Option.some.inj (Option.some.inj h))).1.symm)) (adk h1 (Nat.add_le_add_left (Nat.succ_le_succ (ads _)) _))) λ_ h=>adk (Ee f _ _ _ _ _ _ _ h) (adk (Nat.add_le_add_right h1 _) (adt (Nat.add_right_comm as.length 1 r.length))))
        λ_=>hJ (λ_=>hl) λ_=>hJ (λ_=>hJ (λ_ h=>o5 (Option.some.inj h)) λ_=>hl) λ_=>hl) h
theorem Uy {f k e:Nat} {as:List (List Nat)}:∀{r:List Nat},ez f k r=some (some (as,e))→as.length≤r.length
 |[],h=>o5 (Option.some.inj h)
 |c::r,h=>hJ (λ_ h=>Nat.le_succ_of_le (adk (Ee _ _ _ _ _ _ _ _ h) (adt (Nat.zero_add _)))) (λ_ h=>o5 (Option.some.inj h)) h
inductive IE (I:Ix) (t:List Nat) (a b:Nat) (nm:List Nat) (A e:Nat) (as:List (List Nat)) (O:ag):Nat→Locals→ag→Prop where
 |mk {k:Nat} {x8 x9:Option V} {s:ag} (es:aj O s) (hp:∀j,j<k→rM as j):IE I t a b nm A e as O k (rt I t a b nm (some (.ref A)) (some (.int (e:Int))) (some (.tup [.ref A,.int (e:Int)])) x8 x9 none none) s
theorem Md {b e f:Nat} {as:List (List Nat)} {nm:List Nat} {R:Flow→Locals→ag→Prop} {x5 x6 x7 x8 x9:Option V} (hn:1<n) (hf:aq+100<fu) (cJ:t.length≤200000) (ha:a9 t) (iZ:b≤t.length)
    (hp:ez f b (t.drop b)=some (some (as,e))) (cx:as≠[[]])
    (Sz:∀i,i<as.length→(∀j,j<i→rM as j)→∃u,wt as i u∧(u∈as.take i→∀af y,aj O af→y.k= .str gh→y.a= .int (a:Int)→X y af))
    (H:∀(A:Nat) (af:ag) (x7 x8 x9:Option V),aj O af→O.length≤A→af[A]?=some (.list (as.map .str))→(∀i,i<as.length→rM as i)→R .next (rt I t a b nm (some (.ref A)) (some (.int (e:Int))) x7 x8 x9 none none) af):
  Wq (ah (ay aw fu (n+1)) fu (fK (bf 4 bD)) (rt I t a b nm x5 x6 x7 x8 x9 none none) O) R X:=by
 have zN:as.length≤200000:=adk (Uy hp) (adk lT cJ)
 refine oy rfl (JH hn (lK cJ) ha iZ hf hp λv ae e1 hv=>yN hv λA o9 uY BQ=>?_)
 have e2:=(aj.refl (O:=ae)).push (d:= .list ([[]].map .str))
 refine fz rfl (n1 (ww rfl rfl (cg (aO rfl (CL (aJ rfl rfl)) ((Ht (e2.get uY) bH BQ λs hs=>List.mem_singleton.1 hs▸qs).trans (by rw [NL cx]))) ?_)))
 have vm:=e2.get uY
 have Gn:=e1.trans e2
 refine wV as.length (IE I t a b nm A e as (ae++[.list ([[]].map .str)])) (adm zN (adm (dm▸by decide) hf)) (Int.ofNat_lt.2 (adm zN (by decide))) (aS (fq (aJ rfl rfl) (mn vm)) ⟨by rw [List.length_map],.mk .refl λj hj=>absurd hj (Nat.not_lt_zero _)⟩) (λi L s K hi hK h=>?_) λL s h=>?_
 ·cases h with
  |mk es iz=>
   have uh:=es.get vm
   obtain ⟨u,pn,hx⟩:=Sz i hi iz
   have gi:∀{s':ag},s'[A]?=some (.list (as.map .str))→dh s' (.ref A) (.int (i:Int))=some (.str u):=λg=>eA g (by rw [List.getElem?_map,pn.g];rfl)
   have Mr:=es.push (d:= .list ((as.take i).map .str))
   refine aV (v:= .bool true) (ku (fC (p:=true) (q:=true) (aO (bj rfl rfl (gi uh)) rfl (m9.trans (by rw [decide_eq_false pn.n0];rfl))) (fN (aO (eg (aJ (bj rfl rfl (gi uh)) rfl) (RF (Nat.lt_succ_of_lt hn) pn.l hf)) (fq (aJ (bj rfl rfl (gi uh)) rfl) oX) (kQ.trans (by rw [pn.n1,decide_eq_true rfl])))))) ?_
   refine eQ (oN (Yb rfl (jT (aO (bj rfl rfl (gi uh)) (eZ rfl rfl rfl (Vn (Bv (adk (Nat.le_of_lt hi) (adk zN (dm▸by decide)))) uh)) (nM (I6 bH)))))) (λq=>kg rfl rfl (hx q _ _ (Gn.trans Mr) rfl rfl)) λq=>jk (hK _ _ (.mk Mr λj hj=>(Nat.lt_succ_iff_lt_or_eq.1 hj).elim (iz j) λe=>e▸⟨u,pn,q⟩))
 ·cases h with
  |mk es iz=>exact bx (H A s _ _ _ (Gn.trans es) o9 (es.get vm) iz)
theorem VP {r:List Nat} {d:DR} (h:Df s r d) (o:bB r=0):d= .err gT:=match h with
 | .op _ q=>q
 | .res _ _ q=>q
 | .plain _ _ _ o' _ _ _ _ | .args _ _ _ _ _ _ o' _ _ _ _ _ _ _ _ | .dup _ _ _ _ o' _ _ _ _ _ _ _ _=>absurd (o▸o') (Nat.lt_irrefl 0)
theorem U7 {r:List Nat} {d:DR} (h:Df s r d) (o:0<bB r) (q:eJ r∈gL):d= .err gT:=match h with
 | .op _ q=>q
 | .res _ _ q=>q
 | .plain _ _ _ _ o' _ _ _ | .args _ _ _ _ _ _ _ o' _ _ _ _ _ _ _ | .dup _ _ _ _ _ o' _ _ _ _ _ _ _=>absurd q o'
theorem PD {b:Nat} {r:List Nat} {res:DR} (hn:1<n) (hf:aq+100<fu) (cJ:t.length≤200000) (ha:a9 t) (ij:a≤b) (iZ:b≤t.length) (hr:t.drop b=r) (hz:((t.drop a).take (b-a)).count 10=0)
    (hk:k≤400000) (h:aY I k s.out.length O s) (hc:Df s r res) (ho:0<bB r) (hq:eJ r∉gL) (hE:iv I (k+2) O b a Q X res) (i3:b+(cB r+bB r)≤t.length):
  Wq (ah (ay aw fu (n+1)) fu (bf 4 bD) (rt I t a (b+(cB r+bB r)) (eJ r) (some .none) (some (.int ((b+(cB r+bB r):Nat):Int))) none none none none none) O) (bL Q) X:=by
 have ht:=Nat.le_of_succ_le (iu (t:=t) (lK cJ))
 have kC:t.drop (b+(cB r+bB r))=r.drop (cB r+bB r):=dF _ hr
 have c2:ev (ay aw fu (n+1)) fu (.cmp .eq (.slice (.loc 1) (.loc 3) (.bin .add (.loc 3) (.int 1)) true true) (.str [40])) (rt I t a (b+(cB r+bB r)) (eJ r) (some .none) (some (.int ((b+(cB r+bB r):Nat):Int))) none none none none none) O= .ok (.bool (decide ((r.drop (cB r+bB r)).take 1=[40]))) O:=by
  rw [←kC]
  exact aO (eZ rfl rfl rfl (pa (e:=1) (jK i3 ht (by decide)))) rfl pq
 have hl:cB r+bB r≤r.length:=by
  rw [←mx iZ,hr,Nat.add_comm] at i3
  exact Nat.le_of_add_le_add_right i3
 have gj:∀{f as e},ez f (cB r+bB r) (r.drop (cB r+bB r))=some (some (as,e))→ez f (b+(cB r+bB r)) (t.drop (b+(cB r+bB r)))=some (some (as,b+e)):=λhp=>by rw [kC,Fx,hp];rfl
 match hc with
 | .op o _=>exact absurd (o▸ho) (Nat.lt_irrefl 0)
 | .res _ o _=>exact absurd o hq
 | .plain _ _ _ _ _ o hb q=>exact cg (c2.trans (by rw [decide_eq_false o])) (J8 (ns:=none) hn hf cJ ha ij iZ hr hz hl hk h hb rfl (hE.of q))
 | .args _ _ _ _ _ as _ _ o hp cx Zz pC hb q=>exact cO (c2.trans (by rw [decide_eq_true o])) (Md hn hf cJ ha i3 (gj hp) cx (λi hi _=>(Zz i hi).elim λu h=>⟨u,h.1,λq=>absurd q h.2⟩) λA af x7 x8 x9 x1 o9 uY _=> .next (J8 (ns:=some as) hn hf cJ ha ij iZ hr hz pC hk (h.ext x1) hb ⟨A,rfl,h.d λcs hd=>adl (dE hd.g) o9,uY⟩ λaz p' l'=>hE.of q az p' (x1.low.trans l')))
 | .dup _ _ i as _ _ o hp cx hi sA ik q=>
  have Jc:¬rM as i:=λ⟨u,h1,h5⟩=>sA.elim λu' g=>h5 (Option.some.inj (g.1.g.symm.trans h1.g)▸g.2)
  exact cO (c2.trans (by rw [decide_eq_true o])) (Md hn hf cJ ha i3 (gj hp) cx (λj hj iz=>(Nat.lt_trichotomy j i).elim (λq1=>(ik j q1).elim λu h=>⟨u,h.1,λq=>absurd q h.2⟩) λq1=>q1.elim (λq2=>sA.elim λu g=>⟨u,q2▸g.1,λ_ af y x1 y1 y2=>hE.of q _ _ x1.low y1 y2⟩) λq3=>absurd (iz i q3) Jc) λA af x7 x8 x9 x1 o9 uY ji=>absurd (ji i hi) Jc)
theorem TL {b:Nat} {r:List Nat} {res:DR} (hn:1<n) (hf:aq+100<fu) (cJ:t.length≤200000) (ha:a9 t) (ij:a≤b) (iZ:b≤t.length) (hr:t.drop b=r) (hz:((t.drop a).take (b-a)).count 10=0)
    (hk:k≤400000) (h:aY I k s.out.length O s) (hc:Df s r res) (hE:iv I (k+2) O b a Q X res):Wp (ay aw fu (n+2) 25 [.ref I.p,.str t,.int (a:Int),.int (b:Int)] O) Q X:=by
 have ht:=Nat.le_of_succ_le (iu (t:=t) (lK cJ))
 refine dY rfl rfl (by decide) rfl (pI rfl h.p rfl rfl (sY hn hf ht iZ hr (λho=>⟨rfl,bZ rfl ?_⟩) λho y y1 y2=>hE.of (VP hc ho) _ _ .refl y1 y2))
 exact eQ (aO rfl (cH (cH rfl (cI h.p rfl)) (cI h.T.t rfl)) (nM (tU (strs_map _) (by decide)))) (λq=>kg rfl rfl (hE.of (U7 hc ho q) _ _ .refl rfl rfl)) λq=>n1 (aV rfl (aV rfl (PD hn hf cJ ha ij iZ hr hz hk h hc ho q hE (Nat.add_assoc b _ _▸(K6 iZ hr).2))))
end
noncomputable def acE (s:String):List Nat:=s.toList.map Char.toNat
noncomputable def qW:List Nat:=[117,110,100,101,102]
noncomputable def tp:List Nat:=[100,101,102,97,117,108,116,95,110,101,116,116,121,112,101]
noncomputable def qD:List Nat:=[116,105,109,101,115,99,97,108,101]
noncomputable def uu:List Nat:=[114,101,115,101,116,97,108,108]
noncomputable def uj:List Nat:=[99,101,108,108,100,101,102,105,110,101]
noncomputable def P1:List Nat:=[101,110,100,99,101,108,108,100,101,102,105,110,101]
noncomputable def vE:List Nat:=[119,105,114,101]
noncomputable def dN:List (List Nat):=[gb,fZ,oF,ib,jD]
noncomputable def iY:List (List Nat):=[gI,qW,tp,qD,uu,uj,P1]
noncomputable def yW:List Nat→Bool
 |c::r=> !decide (c=10)&&decide (cp (c::r)=0)
 |[]=>false
noncomputable def DR.sh (j:Nat):DR→DR
 | .ok s c=> .ok s (j+c)
 | .err k=> .err k
inductive Dr (s:PS) (a:Nat) (r:List Nat) (d:DR):Prop where
 |cond (nm:List Nat) (res:DR) (h:r.take (aC r)=nm) (hm:nm∈dN) (hc:Cn s a (r.drop (aC r)) nm res) (q:d=res.sh (aC r)):Dr s a r d
 |off (hm:r.take (aC r)∉dN) (ha:s.aM=false) (q:d= .ok s (aC r)):Dr s a r d
 |sv (res:DR) (ha:s.aM=true) (h:r.take (aC r)=gI) (hc:Df s (r.drop (aC r)) res) (q:d=res.sh (aC r)):Dr s a r d
 |undef (r2:List Nat) (ha:s.aM=true) (h:r.take (aC r)=qW) (hr:r.drop (aC r)=r2) (ho:0<bB r2) (q:d= .ok {s with aL:=fg s.aL (eJ r2)} (aC r+(cB r2+bB r2))):Dr s a r d
 |GX (r2:List Nat) (ha:s.aM=true) (h:r.take (aC r)=tp) (hr:r.drop (aC r)=r2) (ho:0<bB r2) (q:d= .ok {s with bT:=s.bT++[(s.out.length,eJ r2)]} (aC r+(cB r2+bB r2))):Dr s a r d
 |time (r2:List Nat) (ha:s.aM=true) (h:r.take (aC r)=qD) (hr:r.drop (aC r)=r2) (q:d= .ok s (aC r+du yW r2)):Dr s a r d
 |reset (ha:s.aM=true) (h:r.take (aC r)=uu) (q:d= .ok {s with bT:=s.bT++[(s.out.length,vE)]} (aC r)):Dr s a r d
 |cell (ha:s.aM=true) (h:r.take (aC r)=uj) (q:d= .ok s (aC r)):Dr s a r d
 |use (x:List Nat) (c u:Nat) (ha:s.aM=true) (um:r.take (aC r)∉dN) (m5:r.take (aC r)∉iY) (hu:Us s.aL 0 s.uses r (.ok x c u)) (hc:c≤r.length) (hl:(x++dW ((r.take c).count 10)).length≤aq) (q:d= .ok ({s with uses:=u}.emit (x++dW ((r.take c).count 10))) c):Dr s a r d
 |qM (k:List Nat) (ha:s.aM=true) (um:r.take (aC r)∉dN) (m5:r.take (aC r)∉iY) (hu:Us s.aL 0 s.uses r (.err k)) (q:d= .err k):Dr s a r d
section
variable {fu n:Nat} {t:List Nat} {O:ag} {X:aX→ag→Prop} {I:Ix} {k a:Nat} {s:PS} {Q:V→ag→Prop}
theorem iv.sh {k j e:Nat}:∀{res:DR},iv I k O e a Q X (res.sh j)→iv I k O (e+j) a Q X res
 | .ok s c,h=>λaf p l=>Nat.add_assoc e j c▸h af p l
 | .err kk,h=>h
theorem iv.less {e:Nat}:∀{res:DR},iv I (k+2) O e a Q X res→iv I (k+1) O e a Q X res
 | .ok s c,h=>λaf p l=>h af (p.mono (Nat.le_succ _)) l
 | .err kk,h=>h
theorem AP {α:Type} {k:List Nat}:∀{l:List (List Nat×α)},a6 l k=none→fg l k=l
 |[],_=>rfl
 |(x,u)::r,h=>if q:x=k then o5 (h.symm.trans (if_pos q)) else (if_neg q).trans (congrArg ((x,u):: ·) (AP ((if_neg q).symm.trans h)))
theorem Tj {es:List (List Nat×V)} {x:List Nat} {n:Nat} (h:O[n]?=some (.dict es)) (q:(dictGet es x).isSome=true):rE O (.ref n) (.str x)=some (O.set n (.dict (dictDel es x))):=
  (rm (d:=Option.none) (f:=λes=>if (dictGet es x).isSome=true then some (O.set n (.dict (dictDel es x))) else Option.none) h).trans (if_pos q)
theorem Ga {C:Calls} {L:Locals} {e:E} {w:List Nat} (h:aY I k s.out.length O s) (hk:k<aq) (h0:L.get 0=some (.ref I.p)) (hw:ev C fu e L O= .ok (.str w) O):
  ev C fu (.bt .append (.attr (.loc 0) 6) (.cons (.tup (.cons (.attr (.loc 0) 8) (.cons e .nil))) .nil)) L O= .ok .none (O.set I.nt (.list ((s.bT++[(s.out.length,w)]).map g8))):=
 iw (cH (dI h0) (cI (f:=6) h.p rfl)) h.n rfl (aJ (og (aJ (cH (dI h0) (cI (f:=8) h.p rfl)) (aJ hw rfl))) rfl) ((ip h.n (by rw [List.length_map];exact adm h.kk.k1 hk)).trans (by rw [List.map_append];rfl))
noncomputable def gJ (I:Ix) (t:List Nat) (a e:Nat) (nm:List Nat) (x5 x6 x7 x8:Option V):Locals:=[some (.ref I.p),some (.str t),some (.int (a:Int)),some (.int (e:Int)),some (.str nm),x5,x6,x7,x8]
abbrev bR:Ss:=JR
theorem PC {C:Calls} {nm l:List Nat} {e:Nat} {x5 x6 x7 x8:Option V} (h:nm∉iY) (hl:l∈iY):ev C fu (.cmp .eq (.loc 4) (.str l)) (gJ I t a e nm x5 x6 x7 x8) O= .ok (.bool false) O:=
  (aO rfl rfl pq).trans (congrArg (λb=>Out.ok (V.bool b) O) (decide_eq_false λq=>h (q▸hl)))
section
variable {r:List Nat} {C:Calls} {e:Nat} {nm:List Nat}
theorem mc (hm:nm∉dN) (k1:Wq (ah C fu (bf 3 bR) (gJ I t a e nm none none none none) O) (bL Q) X):Wq (ah C fu (bf 2 bR) (gJ I t a e nm none none none none) O) (bL Q) X:=
 cg ((aO rfl rfl (nM (tU (l:=dN) rfl (by decide)))).trans (congrArg (λb=>Out.ok (V.bool b) O) (decide_eq_false hm))) k1
theorem nL (h:aY I k s.out.length O s) (ha:s.aM=true) (k1:Wq (ah C fu (bf 4 bR) (gJ I t a e nm none none none none) O) (bL Q) X):Wq (ah C fu (bf 3 bR) (gJ I t a e nm none none none none) O) (bL Q) X:=
 cg ((ro (cH rfl (cI h.p rfl))).trans (by rw [ha];rfl)) k1
theorem VY {res:DR} (hn:1<n) (hf:aq+100<fu) (ht:t.length≤aq) (he:e≤t.length) (hr:t.drop e=r) (hk:k<aq) (h:aY I k s.out.length O s) (hm:nm∈dN) (hc:Cn s a r nm res) (hE:iv I (k+1) O e a Q X res):
  Wq (ah (ay aw fu (n+2)) fu (bf 2 bR) (gJ I t a e nm none none none none) O) (bL Q) X:=
 cO ((aO rfl rfl (nM (tU (l:=dN) rfl (by decide)))).trans (congrArg (λb=>Out.ok (V.bool b) O) (decide_eq_true hm))) (Gp rfl h.p rfl rfl (dj (W9 hn hf ht he hr hk h hc hE) λ_ _ q=> .ret (.ret q)))
theorem Ru (Vr:a+1≤e) (h:aY I k s.out.length O s) (ha:s.aM=false) (H:∀af,aY I k s.out.length af s→ck I.b O af→Q (.int (e:Int)) af):Wq (ah C fu (bf 3 bR) (gJ I t a e nm none none none none) O) (bL Q) X:=
 cO ((ro (cH rfl (cI h.p rfl))).trans (by rw [ha];rfl)) (dp ((fq (aJ rfl (aJ rfl rfl)) Jd).trans (by rw [Nat.max_eq_left Vr])) (.ret (.ret (H _ h .refl))))
theorem Rb (hn:1<n) (hf:aq+100<fu) (ht:t.length≤aq) (he:e≤t.length) (hr:t.drop e=r) (h:aY I k s.out.length O s) (ho:0<bB r) (H:∀af,aY I k s.out.length af {s with aL:=fg s.aL (eJ r)}→ck I.b O af→Q (.int ((e+(cB r+bB r):Nat):Int)) af):
  Wq (ah (ay aw fu (n+1)) fu (bf 4 bR) (gJ I t a e qW none none none none) O) (bL Q) X:=match h.T with
 |⟨es,tt,fb,pE⟩=>by
  have p1:=h.IL (M:=fg s.aL (eJ r)) fb pE.del (adk (DQ _ _) h.kk.k2)
  refine cg rfl (cO rfl (pI rfl h.p rfl rfl (sY hn hf ht he hr (λ_=>⟨rfl,bZ rfl (fB (zt h rfl rfl) (λq=>?_) λq=>?_)⟩) λq=>absurd ho (q▸Nat.lt_irrefl 0))))
  ·exact XW (cH (cH rfl (cI h.p rfl)) (cI tt rfl)) rfl (Tj fb (pE.isSome.trans q)) (n1 (dp rfl (.ret (.ret (H _ p1.1 p1.2)))))
  ·rw [AP (Option.not_isSome_iff_eq_none.1 (by rw [q];decide))] at H
   exact n1 (dp rfl (.ret (.ret (H _ h .refl))))
theorem VS (hn:1<n) (hf:aq+100<fu) (ht:t.length≤aq) (he:e≤t.length) (hr:t.drop e=r) (hk:k<aq) (h:aY I k s.out.length O s) (ho:0<bB r) (H:∀af,aY I (k+1) s.out.length af {s with bT:=s.bT++[(s.out.length,eJ r)]}→ck I.b O af→Q (.int ((e+(cB r+bB r):Nat):Int)) af):
  Wq (ah (ay aw fu (n+1)) fu (bf 4 bR) (gJ I t a e tp none none none none) O) (bL Q) X:=
 have p1:=h.Ii (s.out.length,eJ r)
 cg rfl (cg rfl (cO rfl (pI rfl h.p rfl rfl (sY hn hf ht he hr (λ_=>⟨rfl,bZ rfl (dR (Ga h hk rfl rfl) (dp rfl (.ret (.ret (H _ p1.1 p1.2)))))⟩) λq=>absurd ho (q▸Nat.lt_irrefl 0)))))
theorem YG (hn:1<n) (hf:aq+100<fu) (ht:t.length≤aq) (he:e≤t.length) (hr:t.drop e=r) (h:aY I k s.out.length O s) (H:∀af,aY I k s.out.length af s→ck I.b O af→Q (.int ((e+du yW r:Nat):Int)) af):
  Wq (ah (ay aw fu (n+1)) fu (bf 4 bR) (gJ I t a e qD none none none none) O) (bL Q) X:=by
 refine cg rfl (cg rfl (cg rfl (cO rfl (aax (tH (p:=yW) (mk:=λj=>gJ I t a j qD none none none none) rfl (λj hj=>tw rfl rfl rfl λc r hd=>fC (aO (bj rfl rfl (iP hd)) rfl vW) (fN ((aO (eg (aJ rfl (aJ rfl rfl)) (D9 (Nat.lt_succ_of_lt hn) ht hj hf)) rfl kQ).trans ?_))) (λj hj=>rfl) fu e r hr (adm (hr▸lT) (lG ht hf)) he) (dp rfl (.ret (.ret (H _ h .refl))))))))
 rw [hd]
 exact congrArg (λb=>Out.ok (V.bool b) O) (by rw [decide_eq_decide];exact ⟨λq=>Nat.add_left_cancel (k:=0) q,λq=>by rw [q];rfl⟩)
theorem Tc (hk:k<aq) (h:aY I k s.out.length O s) (H:∀af,aY I (k+1) s.out.length af {s with bT:=s.bT++[(s.out.length,vE)]}→ck I.b O af→Q (.int (e:Int)) af):Wq (ah C fu (bf 4 bR) (gJ I t a e uu none none none none) O) (bL Q) X:=
 have p1:=h.Ii (s.out.length,vE)
 cg rfl (cg rfl (cg rfl (cg rfl (cO rfl (dR (Ga h hk rfl rfl) (dp rfl (.ret (.ret (H _ p1.1 p1.2)))))))))
theorem OX (h:aY I k s.out.length O s) (H:∀af,aY I k s.out.length af s→ck I.b O af→Q (.int (e:Int)) af):Wq (ah C fu (bf 4 bR) (gJ I t a e uj none none none none) O) (bL Q) X:=
 cg rfl (cg rfl (cg rfl (cg rfl (cg rfl (cO rfl (dp rfl (.ret (.ret (H _ h .refl)))))))))
theorem JB {ur:UR} (cJ:t.length≤8000000) (ha:a9 t) (aK:a<t.length) (dw:t.drop (a+1)=r) (hU:oo C 0) (h:aY I k s.out.length O s) (hm:nm∉iY) (hu:Us s.aL 0 s.uses r ur)
    (hE:qt I.cd I.tb I.md s.aL O (a+1) (.int (a:Int)) (λv O=>Tu v λvs=>Ex (putAll (gJ I t a (a+1+aC r) nm none none none none) [7,8] vs) λL'=>Wq (ah C fu (bf 11 bR) L' O) (bL Q) X) X ur):
  Wq (ah C fu (bf 4 bR) (gJ I t a (a+1+aC r) nm none none none none) O) (bL Q) X:=
 have nn:=λl hl=>PC (C:=C) (fu:=fu) (O:=O) (l:=l) (I:=I) (t:=t) (a:=a) (e:=a+1+aC r) (x5:=none) (x6:=none) (x7:=none) (x8:=none) hm hl
 cg (nn _ (by decide)) (cg (nn _ (by decide)) (cg (nn _ (by decide)) (cg (nn _ (by decide)) (cg (nn _ (by decide)) (cg (oN (jL (nn _ (by decide)) (jT (nn _ (by decide))))) (pI (cH rfl (cI h.p rfl)) h.T.t rfl rfl (hU ⟨cJ,ha⟩ h.T aK dw hu hE)))))))
end
theorem MQ {c:Nat} {r:List Nat} (hd:t.drop a=96::r):((t.drop a).take (a+1+c-a)).count 10=(r.take c).count 10:=by
 rw [hd,Nat.add_assoc,Nat.add_sub_cancel_left,Nat.add_comm 1,List.take_succ_cons];rfl
theorem MD {r:List Nat} {res:DR} (hn:1<n) (hf:aq+100<fu) (cJ:t.length≤200000) (ha:a9 t) (hd:t.drop a=96::r) (hk:k≤400000) (hU:oo (ay aw fu (n+2)) 0)
    (h:aY I k s.out.length O s) (hc:Dr s a r res) (hE:iv I (k+2) O (a+1) a Q X res):Wp (ay aw fu (n+3) 23 [.ref I.p,.str t,.int (a:Int)] O) Q X:=by
 have ht:=Nat.le_of_succ_le (iu (t:=t) (lK cJ))
 have aK:=j6 hd
 have dw:t.drop (a+1)=r:=dF 1 hd
 have hH:a+1+aC r≤t.length:=within aK dw (B3 r)
 have kC:t.drop (a+1+aC r)=r.drop (aC r):=dF _ dw
 have vC:k<aq:=Nat.lt_of_succ_lt (Nat.lt_of_succ_lt (k_lt hk))
 have jb:1<n+2:=adl hn (adn _ _)
 have h2:=h.mono (adn k 2)
 refine dY rfl rfl (by decide) rfl (aV (v:= .int ((a+1+aC r:Nat):Int)) (eg (aJ rfl (aJ rfl rfl)) ((vM jb ht aK hf).trans (by rw [dw]))) (aV (v:= .str (r.take (aC r))) (eZ rfl rfl rfl ((kX (fE aK ht) (fE hH ht)).trans (by rw [Nat.add_sub_cancel_left,dw]))) ?_))
 have nc:∀{l nm:List Nat},r.take (aC r)=nm→nm∉dN→r.take (aC r)∉dN:=λe q=>e▸q
 have go:∀{nm:List Nat},r.take (aC r)=nm→Wq (ah (ay aw fu (n+2)) fu (bf 2 bR) (gJ I t a (a+1+aC r) nm none none none none) O) (bL Q) X→Wq (ah (ay aw fu (n+2)) fu (bf 2 bR) (gJ I t a (a+1+aC r) (r.take (aC r)) none none none none) O) (bL Q) X:=λe h=>e.symm▸h
 match hc with
 | .cond nm cG e hm hc q=>exact go e (VY hn hf ht hH kC vC h hm hc (hE.of q).sh.less)
 | .off hm gK q=>exact mc hm (Ru (adn _ _) h gK λaf p l=>hE.of q _ (p.mono (adn _ _)) l)
 | .sv cG gK e hc q=>exact go e (mc (by decide) (nL h gK (cO rfl (Gp rfl h.p rfl rfl (dj (TL hn hf cJ ha (adk (Nat.le_succ a) (adn _ _)) hH kC (by rw [MQ hd,e];rfl) hk h hc (hE.of q).sh) λ_ _ q=> .ret (.ret q))))))
 | .undef r2 gK e hr ho q=>exact go e (mc (by decide) (nL h gK (Rb (Nat.lt_succ_of_lt hn) hf ht hH (kC.trans hr) h ho λaf p l=>Nat.add_assoc (a+1) _ _▸hE.of q _ (p.mono (adn _ _)) l)))
 | .GX r2 gK e hr ho q=>exact go e (mc (by decide) (nL h gK (VS (Nat.lt_succ_of_lt hn) hf ht hH (kC.trans hr) vC h ho λaf p l=>Nat.add_assoc (a+1) _ _▸hE.of q _ (p.mono (Nat.le_succ _)) l)))
 | .time r2 gK e hr q=>exact go e (mc (by decide) (nL h gK (YG (Nat.lt_succ_of_lt hn) hf ht hH (kC.trans hr) h λaf p l=>Nat.add_assoc (a+1) _ _▸hE.of q _ (p.mono (adn _ _)) l)))
 | .reset gK e q=>exact go e (mc (by decide) (nL h gK (Tc vC h λaf p l=>hE.of q _ (p.mono (Nat.le_succ _)) l)))
 | .cell gK e q=>exact go e (mc (by decide) (nL h gK (OX h λaf p l=>hE.of q _ (p.mono (adn _ _)) l)))
 | .qM k2 gK um m5 hu q=>exact mc um (nL h gK (JB (lK cJ) ha aK dw hU h m5 hu λaf y e2 y1 y2=>hE.of q _ _ (e2.low h.o.o.2.1) y1 y2))
 | .use x c u gK um m5 hu gO dy q=>
  have zJ:a+1+c≤t.length:=within aK dw gO
  exact mc um (nL h gK (JB (lK cJ) ha aK dw hU h m5 hu λaf e2 T2=>⟨rfl,bZ rfl (by
   have p1:=h.uses e2 T2
   exact sS rfl p1.1.p rfl (aJ (bG rfl (bG rfl (eg (aJ (eZ rfl rfl rfl (kX (fE (Nat.le_of_lt aK) ht) (fE zJ ht))) rfl) (DP jb)) (sQ (adk wx (adk (List.length_take_le' _ _) (adk lT ht))))) (by rw [MQ hd];exact nJ dy)) rfl)
        (z6 (s:={s with uses:=u}) (Nat.lt_succ_of_lt hn) p1.1 vC dy λeR p4 l4=>dp rfl (.ret (hE.of q _ (p4.mono (Nat.le_succ _)) (p1.2.trans l4)))))⟩))
inductive XR where
 |done (s:PS)
 |err (k:List Nat) (at':Nat)
inductive Xp:PS→Nat→List Nat→XR→Prop where
 |nil {s:PS} {a:Nat}:s.bu=[]→s.out.length≤aq→Xp s a [] (.done s)
 |open {s:PS} {a b:Nat} {x y z:Bool} {cl:List (Nat×Bool×Bool×Bool)}:s.bu=(b,x,y,z)::cl→Xp s a [] (.err lF b)
 |tok {s:PS} {a c w:Nat} {r:List Nat} {res:XR}:c≠96→w=(if 0<cp (c::r) then cp (c::r) else a8 (c::r))→Xp (s.emit ((c::r).take w)) (a+w) ((c::r).drop w) res→Xp s a (c::r) res
 |dir {s s':PS} {a c:Nat} {r:List Nat} {res:XR}:Dr s a r (.ok s' c)→Xp s' (a+1+c) (r.drop c) res→Xp s a (96::r) res
 |ii {s:PS} {a:Nat} {r k:List Nat}:Dr s a r (.err k)→Xp s a (96::r) (.err k a)
noncomputable def sk (I:Ix) (O:ag) (Q:V→ag→Prop) (X:aX→ag→Prop):XR→Prop
 | .done s=>∀af,ck I.b O af→af[I.p]?=some (n9 I s.out.length s.aM)→af[I.nt]?=some (.list (s.bT.map g8))→Q (.str s.out) af
 | .err kk b=>∀af y,ck I.b O af→y.k= .str kk→y.a= .int (b:Int)→X y af
inductive oZ (s:PS) (a:Nat) (t:List Nat) (res:XR):Prop where
 |nil (e:t=[]) (hc:s.bu=[]) (hl:s.out.length≤aq) (q:res= .done s):oZ s a t res
 |open (c:Nat×Bool×Bool×Bool) (cl:List (Nat×Bool×Bool×Bool)) (e:t=[]) (hc:s.bu=c::cl) (q:res= .err lF c.1):oZ s a t res
 |tok (c w:Nat) (r:List Nat) (e:t=c::r) (hc:c≠96) (hw:w=(if 0<cp (c::r) then cp (c::r) else a8 (c::r))) (h:Xp (s.emit ((c::r).take w)) (a+w) ((c::r).drop w) res):oZ s a t res
 |dir (s':PS) (c:Nat) (r:List Nat) (e:t=96::r) (hd:Dr s a r (.ok s' c)) (h:Xp s' (a+1+c) (r.drop c) res):oZ s a t res
 |ii (r k:List Nat) (e:t=96::r) (hd:Dr s a r (.err k)) (q:res= .err k a):oZ s a t res
theorem Xp.view {s:PS} {a:Nat} {t:List Nat} {res:XR} (h:Xp s a t res):oZ s a t res:=Xp.casesOn (motive:=λs a t res _=>oZ s a t res) h (λhc hl=> .nil rfl hc hl rfl) (λhc=> .open _ _ rfl hc rfl) (λhc hw h=> .tok _ _ _ rfl hc hw h) (λhd h=> .dir _ _ _ rfl hd h) λhd=> .ii _ _ rfl hd rfl
end
section
variable {fu n:Nat} {t:List Nat} {O:ag} {X:aX→ag→Prop} {k a:Nat} {s:PS} {Q:V→ag→Prop}
inductive Made (b p tb md:Nat) (O:ag) (M:bz):Prop where
 |mk (nt pc:V) (ln cd act:V) (u lo:Nat) (hp:O[p]?=some (.inst .et [(5,.ref tb),(6,nt),(7,pc),(8,ln),(9,cd),(10,act)])) (hT:TabAt lo O tb md u M) (nn:∀x∈M,x.2.names=none) (hl:M.length≤5) (ho:b≤p∧b≤tb∧b≤md∧b≤O.length):Made b p tb md O M
theorem aap {lo lo':Nat} {es:List (List Nat×V)} {M:bz} (h:bo (mu lo O) es M) (nn:∀x∈M,x.2.names=none):bo (mu lo' O) es M:=by
 induction h with
 |nil=>exact .nil
 |@cons k v m es l r _ ih=>
  refine .cons ?_ (ih λx hx=>nn x (List.mem_cons_of_mem _ hx))
  obtain ⟨i,nv,e,g,q⟩:=r
  have e2:m.names=none:=nn (k,m) List.mem_cons_self
  rw [e2] at q
  exact ⟨i,nv,e,g,by rw [e2];exact q⟩
theorem TabAt.bare {lo lo' tb md u:Nat} {M:bz} (h:TabAt lo O tb md u M) (nn:∀x∈M,x.2.names=none):TabAt lo' O tb md u M:=match h with
 |⟨es,h0,h1,h2⟩=>⟨es,h0,h1,aap h2 nn⟩
section
variable {C:Calls} {L:Locals} {p f:Nat} {fs:List (Nat×V)} {ss:Ss} {R:Flow→Locals→ag→Prop}
theorem yE (g:O[p]?=some (.inst .et fs)) (h0:L.get 0=some (.ref p)) (k:∀af,aT p O af→af[p]?=some (.inst .et (fe fs f (.ref O.length)))→af[O.length]?=some (.list [])→af.length=O.length+1→Wq (ah C fu ss L af) R X):
  Wq (ah C fu (.cons (.setAttr (.loc 0) f (.list .nil)) ss) L O) R X:=
 jj rfl (dI h0) (iK (mh g)) (k _ (aj.refl.push).toT.set (de (mh g)) (fQ bH (Nat.ne_of_lt (dE g))) (by rw [List.length_set,kW]))
theorem MH {e:E} {v:V} (g:O[p]?=some (.inst .et fs)) (h0:L.get 0=some (.ref p)) (he:ev C fu e L O= .ok v O) (k:∀af,aT p O af→af[p]?=some (.inst .et (fe fs f v))→af.length=O.length→Wq (ah C fu ss L af) R X):
  Wq (ah C fu (.cons (.setAttr (.loc 0) f e) ss) L O) R X:=jj he (dI h0) (iK g) (k _ aT.refl.set (de g) List.length_set)
end
theorem Gm {b p tb md u lo:Nat} {M:bz} {fs:List (Nat×V)} (hp:O[p]?=some (.inst .et fs)) (Qv:∀v6 v7 v8 v9 FN,fe (fe (fe (fe (fe fs 6 v6) 7 v7) 8 v8) 9 v9) 10 FN=[(5,.ref tb),(6,v6),(7,v7),(8,v8),(9,v9),(10,FN)])
    (hT:TabAt lo O tb md u M) (nn:∀x∈M,x.2.names=none) (hl:M.length≤5) (ho:b≤p∧b≤tb∧b≤md∧b≤O.length) (H:∀af,aY ⟨b,p,tb,md,O.length,O.length+1,O.length+2⟩ 0 0 af ⟨M,[],[],[],true,0⟩→ck b O af→Q .none af):
  Wp (ay aw fu (n+1) 20 [.ref p] O) Q X:=by
 have pO:=dE hp
 refine dY rfl rfl (by decide) rfl (yE hp rfl λae e1 p1 n1 l1=>yE p1 rfl λaz e2 p2 n2 l2=>MH p2 rfl rfl λcN e3 p3 l3=>yE p3 rfl λeR e4 p4 n4 l4=>MH p4 rfl rfl λlU e5 p5 l5=>?_)
 rw [Qv] at p5
 rw [l1] at n2 l2 p5
 rw [l3,l2] at n4 p5
 have ne:∀{i},O.length≤i→i≠p:=λh=>Nat.ne_of_gt (adl pO h)
 have m1:lU[O.length]?=some (.list []):=(e2.trans (e3.trans (e4.trans e5))).get n1 (ne (adq _))
 have m2:lU[O.length+1]?=some (.list []):=(e3.trans (e4.trans e5)).get n2 (ne (Nat.le_succ _))
 have m4:lU[O.length+2]?=some (.list []):=e5.get n4 (ne (adn _ _))
 have ee:=e1.trans (e2.trans (e3.trans (e4.trans e5)))
 have T5:=(hT.keep ee hp trivial).bare (lo':=O.length+2) nn
 have e6:aT tb lU (lU.set tb (iS md 0)):=aT.refl.set
 exact jj rfl (cH rfl (cI p5 rfl)) (iK T5.t) (bx (.next (H _ ⟨[],[],⟨adu _,adu _,ho⟩,e6.get p5 (ei p5 T5.t HH),T5.tick,e6.get m1 (ei m1 T5.t pg),e6.get m2 (ei m2 T5.t pg),rfl,adq _,⟨e6.get m4 (ei m4 T5.t pg),rfl,List.nodup_nil,λi hi=>nomatch hi⟩,⟨adq _,hl,adq _⟩⟩ ((ee.low ho.1).trans (e6.low ho.2.1)))))
theorem sk.of {I:Ix} {r r':XR} (h:sk I O Q X r) (q:r=r'):sk I O Q X r':=q▸h
inductive XI (I:Ix) (t:List Nat) (O:ag) (res:XR):Nat→Locals→ag→Prop where
 |mk {j k:Nat} {s:PS} {x:Option V} {af:ag} (hk:k≤2*j) (hP:aY I k s.out.length af s) (hL:ck I.b O af) (hx:Xp s j (t.drop j) res):XI I t O res (t.length-j) [some (.ref I.p),some (.str t),some (.int (j:Int)),x] af
abbrev bX:Ss:=Mn
theorem ET {j w k m:Nat} (hk:k≤2*j) (hm:m≤2*w):k+m≤2*(j+w):=Nat.mul_add 2 j w▸Nat.add_le_add hk hm
theorem aaq {C:Calls} {I:Ix} {j:Nat} {x:Option V} {af:ag} {res:XR} (hP:aY I k s.out.length af s) (hL:ck I.b O af) (hx:Xp s j [] res) (hE:sk I O Q X res):Wq (ah C fu (bf 3 bX) [some (.ref I.p),some (.str t),some (.int (j:Int)),x] af) (bL Q) X:=hP.d λcs kE=>by
 have e0:=aO (C:=C) (fu:=fu) (op:= .gt) (b:= .int 0) (L:=[some (.ref I.p),some (.str t),some (.int (j:Int)),x]) (fq (b:= .len) (es:= .cons (.attr (.loc 0) 9) .nil) (aJ (cH rfl (cI (f:=9) hP.p rfl)) rfl) (mn kE.g)) rfl lZ
 rw [List.length_map,List.length_reverse,kE.r.length] at e0
 exact match hx.view with
 | .nil _ pY P5 q=>cg (e0.trans (by rw [pY];rfl)) (hP.pc λps c1 c2 c3=>dp (jz rfl rfl (aJ (cH rfl (cI hP.p rfl)) rfl) (ud c1 (c2▸P5))) (.ret (c2▸hE.of q _ hL hP.p hP.n)))
 | .open c cl _ pY q=>cO (e0.trans (by rw [pY];exact congrArg (λb=>Out.ok (V.bool b) af) (decide_eq_true (Int.ofNat_lt.2 (Nat.succ_pos _))))) (dU.some (pY▸kE.r:dU af cs (c::cl)) λi cs' ec=>by
   have g:=(pY▸(ec▸kE.r:dU af (i::cs') s.bu):dU af (i::cs') (c::cl)).top.1
   have hg:=kE.g
   rw [ec,vB] at hg
   exact kg (aJ rfl (aJ (bj (bj (cH rfl (cI hP.p rfl)) rfl (I5 hg (List.getLast?_concat ..))) rfl (eA (i:=0) g rfl)) rfl)) rfl (hE.of q _ _ hL rfl rfl))
 | .tok _ _ _ e _ _ _=>ly e
 | .dir _ _ _ e _ _=>ly e
 | .ii _ _ e _ _=>ly e
theorem R8 {I:Ix} {j:Nat} {x:Option V} {af:ag} {res:XR} {c:Nat} {r:List Nat} {K:Locals→ag→Prop} {ss:Ss} (hn:1<n) (hf:aq+100<fu) (cJ:t.length≤200000) (ha:a9 t) (hU:oo (ay aw fu (n+2)) 0) (hd:t.drop j=c::r) (hk:k≤2*j) (hP:aY I k s.out.length af s) (hL:ck I.b O af) (hx:Xp s j (c::r) res) (hE:sk I O Q X res)
    (hK:∀m' L s',m'<t.length-j→XI I t O res m' L s'→K L s'):Wq (ah (ay aw fu (n+3)) fu (fK (bf 2 bX)) [some (.ref I.p),some (.str t),some (.int (j:Int)),x] af) (Lp (ay aw fu (n+3)) fu ss (bL Q) X K) X:=by
 have ht:=Nat.le_of_succ_le (iu (t:=t) (lK cJ))
 have aK:=j6 hd
 have hj:=Nat.le_of_lt aK
 have zK:k≤400000:=adk hk (Nat.mul_le_mul_left 2 (adk hj cJ))
 have dw:t.drop (j+1)=r:=dF 1 hd
 have FJ:1<n+3:=adl hn (adn _ _)
 refine aV (v:= .int ((j+cp (c::r):Nat):Int)) ((eg (aJ rfl (aJ rfl rfl)) (D9 FJ ht hj hf)).trans (by rw [hd])) ?_
 have cmp:∀y,ev (ay aw fu (n+3)) fu (.cmp .eq (.idx (.loc 1) (.loc 2)) (.str [96])) [some (.ref I.p),some (.str t),some (.int (j:Int)),y] af= .ok (.bool (decide (c=96))) af:=λy=>aO (bj rfl rfl (iP hd)) rfl jH
 exact match hx.view with
 | .nil e _ _ _=>ly e.symm
 | .open _ _ e _ _=>ly e.symm
 | .dir s' c2 r2 e DV mY=>pZ e λec er=>cO ((cmp _).trans (by rw [decide_eq_true ec])) (JG rfl hP.p rfl rfl (MD hn hf cJ ha (hd.trans e) zK hU hP DV λcN p3 l3=>n1 (aV rfl (uz (hK _ _ _ (Nat.sub_lt_sub_left aK (adl (adu j) (adn _ _)))
   (.mk (j:=j+1+c2) (Nat.add_assoc j 1 c2▸ET hk (Nat.mul_le_mul_left 2 (adn 1 c2))) p3 (hL.trans l3) (by rw [dF c2 dw,er];exact mY)))))))
 | .ii r2 k2 e DV q=>pZ e λec er=>cO ((cmp _).trans (by rw [decide_eq_true ec])) (JG rfl hP.p rfl rfl (MD hn hf cJ ha (hd.trans e) zK hU hP DV λcN y l3 y1 y2=>hE.of q _ _ (hL.trans l3) y1 y2))
 | .tok c2 w r2 e hc qv mY=>by
  have tO:=Dq (t:=t) hj
  rw [hd] at tO
  rw [←e] at qv mY
  have ec:c≠96:=λq=>hc ((List.cons.inj e).1▸q)
  have C7:0<w∧j+w≤t.length:=qv▸gc (P:=λw=>0<w∧j+w≤t.length) (λq=>⟨q,tO⟩) λ_=>⟨tF c r,vi hd⟩
  have fin:Wq (ah (ay aw fu (n+3)) fu (.cons (.expr (.own (.loc 0) 3 (.cons (.slice (.loc 1) (.loc 2) (.loc 3) true true) .nil))) .nil) [some (.ref I.p),some (.str t),some (.int (j:Int)),some (.int ((j+w:Nat):Int))] af) (Nx (ay aw fu (n+3)) fu (.cons (.aA 2 (.loc 3)) .nil) (Lp (ay aw fu (n+3)) fu ss (bL Q) X K) X) X:=
   sS rfl hP.p rfl (aJ (eZ rfl rfl rfl (wq hd (fE hj ht) (fE C7.2 ht))) rfl) (z6 (adl hn (adn _ _)) hP (Nat.lt_of_succ_lt (Nat.lt_of_succ_lt (k_lt zK))) (adk (List.length_take_le' _ _) (adk (hd▸lT) ht)) λcN p3 l3=>n1 (aV rfl (uz (hK _ _ _ (wk aK C7.1)
    (.mk (j:=j+w) (ET hk (adk (Nat.le_succ 1) (Nat.mul_le_mul_left 2 C7.1))) p3 (hL.trans l3) (by rw [dF w hd];exact mY))))))
  refine fz ((cmp _).trans (by rw [decide_eq_false ec])) (eQ (aO rfl rfl kQ) (λh2=>?_) λh2=>n1 ?_)
  ·rw [if_neg (by rw [Nat.add_left_cancel (k:=0) h2];decide)] at qv
   exact aV (eg (aJ rfl (aJ rfl rfl)) (vy hd FJ ht hf)) (n1 (qv▸fin))
  ·rw [if_pos (Nat.pos_of_ne_zero λz=>h2 (by rw [z];rfl))] at qv
   exact qv▸fin
theorem LI {b p tb md:Nat} {M:bz} {res:XR} (hn:1<n) (hf:aq+100<fu) (cJ:t.length≤200000) (ha:a9 t) (h:Made b p tb md O M) (hU:oo (ay aw fu (n+2)) 0) (hx:Xp ⟨M,[],[],[],true,0⟩ 0 t res)
    (hE:sk ⟨b,p,tb,md,O.length,O.length+1,O.length+2⟩ O Q X res):Wp (ay aw fu (n+4) 21 [.ref p,.str t] O) Q X:=match h with
 |⟨_,_,_,_,_,_,_,hp,k9,nn,hl,ho⟩=>dY (L:=[some (.ref p),some (.str t),none,none]) rfl rfl (by decide) rfl (sS rfl hp rfl rfl (Gm hp (λ_ _ _ _ _=>rfl) k9 nn hl ho λae P0 L0=>aV rfl (qz (XI ⟨b,p,tb,md,O.length,O.length+1,O.length+2⟩ t O res) (.mk (j:=0) (k:=0) (s:=⟨M,[],[],[],true,0⟩) (adq _) P0 L0 hx) (lG (Nat.le_of_succ_le (iu (t:=t) (lK cJ))) hf) λm L s K hK h=>by
   cases h with
   |@mk j k s x af hk hP hL hx=>
    refine ⟨_,aO rfl rfl nT,λaK=>?_,λjX=>?_⟩
    ·refine vx (ado aK) λc r hd=>?_
     rw [hd] at hx
     exact R8 hn hf cJ ha hU hd hk hP hL hx hE hK
    ·rw [List.drop_eq_nil_of_le (Nat.le_of_not_lt (adp jX))] at hx
     exact aaq hP hL hx hE)))
theorem KU {C:Calls} {c:cj} {vs:List V} (h:Wp (C (oK c) (.ref O.length::vs) (O++[.inst c []])) (λv af=>v= .none∧Q (.ref O.length) af) λ_ _=>False):Wp (pW C c O vs) Q X:=by
 show Wp (qf (C (oK c) (.ref O.length::vs) (O++[.inst c []])) Out.stuck _) Q X
 generalize C (oK c) (.ref O.length::vs) (O++[.inst c []])=o at h ⊢
 cases h with
 |exc h=>exact h.elim
 |ok h=>obtain ⟨rfl,h⟩:=h;exact .ok h
theorem WJ {od:Nat} {aQ:List Nat} {v:V} (h:O[od]?=some (.dict [(aQ,v)])) (hk:aQ.length≤aq):mI .sorted O [.ref od]= .ok (.ref O.length) (O++[Cell.list [.str aQ]]):=
  (rm (d:=Out.stuck) (f:=λes=>Hb O es) h).trans (if_pos ⟨rfl,hk⟩)
noncomputable def kB:List Nat:=[66]
noncomputable def iT:List Nat:=[32,55,32,96,67]
noncomputable def Ah:List Nat:=[55,32,96,67]
noncomputable def jP (O:ag) (v:V) (M:bz):Prop:=(v= .none∧M=[])∨∃od,v= .ref od∧O[od]?=some (.dict [(kB,.str iT)])∧M=[(kB,⟨none,Ah⟩)]
theorem jP.ext {v:V} {M:bz} {af:ag} (h:jP O v M) (e:aj O af):jP af v M:=h.imp_right λ⟨od,h1,h2,h3⟩=>⟨od,h1,e.get h2,h3⟩
theorem jP.nn {v:V} {M:bz} (h:jP O v M):(∀x∈M,x.2.names=none)∧M.length≤5:=h.elim (λh=>h.2▸⟨λx hx=>(nomatch hx),ads _⟩) λ⟨od,_,_,h⟩=>h▸⟨λx hx=>List.mem_singleton.1 hx▸rfl,Nat.succ_le_succ (ads _)⟩
theorem jJ {i m:Nat} {xs:List V} (h:O[m]?=some (.list xs)):kx m i O=some xs[i]?:=g6 (d:=Option.none) (f:=λvs=>some vs[i]?) h
inductive TI (tb md:Nat) (O az:ag) (od:Nat):Nat→Locals→ag→Prop where
 |zero:TI tb md O az od 0 [some (.ref tb),some (.ref od),none] (az++[.list [.str kB]])
 |one {L:Locals} {s:ag} (T:TabAt 0 s tb md 0 [(kB,⟨none,Ah⟩)]) (e:aT tb O s) (l:md<s.length) (g:s[az.length]?=some (.list [.str kB])):TI tb md O az od 1 L s
theorem Sg {tb md od:Nat} {az:ag} (hn:1<n) (hf:aq+100<fu) (xU:tb<md) (es:az[md]?=some (.dict [])) (t2:az[tb]?=some (iS md 0)) (e2:aT tb O az) (Gr:az[od]?=some (.dict [(kB,.str iT)])) (Wv:O.length≤md)
    (H:∀af,TabAt 0 af tb md 0 [(kB,⟨none,Ah⟩)]→aT tb O af→md<af.length→Q .none af):
  Wq (ah (ay aw fu (n+1)) fu (bf 3 Au) [some (.ref tb),some (.ref od),none] az) (bL Q) X:=by
 have l2:=dE es
 have x3:=(aj.refl (O:=az)).push (d:= .list [.str kB])
 refine cO (aO rfl rfl K4) (qo 1 (TI tb md O az od) (adm (dm▸by decide) hf) (aS (fq (aJ rfl rfl) (WJ Gr (by decide))) ⟨_,rfl,.zero,λk L s K hK h=>?_⟩))
 cases h with
 |zero=>
  refine ⟨ads _,bZ (jJ bH) (.more ⟨Nat.zero_lt_one,?_⟩)⟩
  refine Lo (B0 (hV (aS rfl (hV (lV (eE (aS (aJ (HG (s:=iT) (bj rfl rfl (eM (x3.get Gr) rfl)) (by decide)) (aJ rfl rfl)) (EV (t:=iT) (k:=0) (f:=20) (acc:=iT) (e:=5) hn (by decide) (by unfold a9 iT;decide) (by decide) hf rfl λcN x4=>?_))))))))
  refine aS rfl (bZ rfl (mJ (aS IK ?_)))
  have x5:=(aj.refl (O:=cN)).push (d:= .inst .macro [(0,.none),(1,.str (cZ iT))])
  have xx:=x3.trans (x4.trans x5)
  have fb:=xx.get es
  have ht:=xx.get t2
  exact aS (cH rfl (cI ht rfl)) (aS rfl (bZ (tu fb (by decide)) (uz (hK _ _ (.one ⟨_,fQ ht (Nat.ne_of_gt xU),de fb,.cons ⟨_,.none,rfl,fQ bH (Nat.ne_of_lt (adl l2 (x3.trans x4).1)),rfl⟩ .nil⟩ ((e2.trans xx.toT).qS Wv) (by rw [List.length_set];exact adl l2 xx.1) (fQ ((x4.trans x5).get bH) (Nat.ne_of_lt l2)))))))
 |one T e l g=>exact ⟨adq _,bZ (jJ g) (.done (n1 (bx (.next (H _ T e l)))))⟩
theorem Wl {tb:Nat} {d:V} {M:bz} (hn:1<n) (hf:aq+100<fu) (g:O[tb]?=some (.inst .table [])) (ho:jP O d M) (H:∀af,TabAt 0 af tb O.length 0 M→aT tb O af→O.length<af.length→Q .none af):
  Wp (ay aw fu (n+2) 16 [.ref tb,d] O) Q X:=by
 have xU:=dE g
 have gd:(O++[Cell.dict []])[O.length]?=some (.dict []):=bH
 have e1:aT tb O (O++[Cell.dict []]):=(aj.refl.push).toT
 have ln:(O++[Cell.dict []]).length=O.length+1:=kW
 have g1:=mh (d:= .dict []) g
 refine dY (L:=[some (.ref tb),some d,none]) rfl rfl (by decide) rfl (jj (Cb rfl ⟨rfl,List.nodup_nil⟩) rfl (iK g1) (jj (eg rfl YM) rfl (iK (de g1)) (jj rfl rfl (iK (de (de g1))) ?_)))
 show Wq (ah _ fu (bf 3 Au) _ (((O++[Cell.dict []]).set tb _).set tb _ |>.set tb (iS O.length 0))) _ _
 rw [List.set_set,List.set_set]
 have t2:=de (d:=iS O.length 0) g1
 have e2:aT tb O ((O++[Cell.dict []]).set tb (iS O.length 0)):=e1.set
 have m2:=fQ (d:=iS O.length 0) gd (Nat.ne_of_lt xU)
 exact ho.elim (λh=>by
  rw [h.1]
  exact cg (aO rfl rfl Ln) (bx (.next (H _ (h.2▸⟨_,t2,m2,.nil⟩) e2 (dE m2))))) λ⟨od,hd,EL,hM⟩=>by
  rw [hd]
  exact Sg hn hf xU m2 t2 e2 (e2.get EL (ei EL g Yg)) (adq _) λaf T e l=>H af (hM▸T) e l
theorem U5 {d:V} {M:bz} (hn:1<n) (hf:aq+100<fu) (ho:jP O d M) (H:∀af,Made O.length O.length (O.length+1) (O.length+2) af M→ck O.length O af→Q (.ref O.length) af):Wp (pW (ay aw fu (n+3)) .et O [d]) Q X:=by
 have x0:=(aj.refl (O:=O)).push (d:= .inst .et [])
 have x1:=(aj.refl (O:=O++[Cell.inst .et []])).push (d:= .inst .table [])
 have l0:(O++[Cell.inst .et []]).length=O.length+1:=kW
 have l1:((O++[Cell.inst .et []])++[Cell.inst .table []]).length=O.length+2:=kW.trans (by rw [l0])
 refine KU (dY (L:=[some (.ref O.length),some d]) rfl rfl (by decide) rfl (MG (B0 (aS rfl (KU (Wl hn hf bH (ho.ext (x0.trans x1)) λae T1 e1 l2=>⟨rfl,aS rfl ?_⟩))))))
 rw [l0] at e1 T1 ⊢
 rw [l1] at T1 l2
 have g1:ae[O.length]?=some (.inst .et []):=e1.get (x1.get bH) (Nat.ne_of_lt (adu _))
 have e2:aT O.length ae (ae.set O.length (.inst .et [(5,.ref (O.length+1))])):=aT.refl.set
 refine bZ (iK g1) (yE (de g1) rfl λeR e4 g4 n4 l4=>?_)
 have ee:=e2.trans e4
 have T4:=T1.keep ee g1 trivial
 have pK:ck O.length O eR:=(x0.trans x1).low.trans ((e1.low (Nat.le_succ _)).trans (ee.low (adq _)))
 exact sS rfl g4 rfl rfl (Gm (b:=O.length) g4 (λ_ _ _ _ _=>rfl) T4 ho.nn.1 ho.nn.2 ⟨adq _,Nat.le_succ _,adn _ _,pK.1⟩ λlU P L=>bx (.next ⟨rfl,H _ ⟨_,_,_,_,_,_,_,P.p,P.T,ho.nn.1,ho.nn.2,⟨adq _,Nat.le_succ _,adn _ _,adk pK.1 L.1⟩⟩ (pK.trans L)⟩))
end
inductive dA (O:ag):Prop where
 |mk (dO:List V) (i:Nat) (m:Int) (h0:O[0]?=some (.list dO)) (h1:∀v∈dO,∃x:Int,v= .int x) (h2:O[2]?=some (.list [.ref 0,.int (i:Int),.int m])) (hm:0≤m∧m<1009):dA O
section
variable {O af:ag}
theorem dA.ext (h:dA O) (e:aj O af):dA af:=match h with
 |⟨f,i,m,h1,h2,h3,h4⟩=>⟨f,i,m,e.get h1,h2,e.get h3,h4⟩
theorem dA.keep {x:Nat} (h:dA O) (e:aT x O af) (h0:x≠0) (hx:x≠2):dA af:=match h with
 |⟨f,i,m,h1,h2,h3,h4⟩=>⟨f,i,m,e.get h1 (Ne.symm h0),h2,e.get h3 (Ne.symm hx),h4⟩
end
section
variable {fu n:Nat} {O:ag} {X:aX→ag→Prop} {Q:V→ag→Prop}
theorem yh {a:Int} {b:Nat} (hb:0<b) (pA:b<2000):eW .mod (.int a) (.int (b:Int))=some (.int (a.fmod b)):=if_pos (c:=0<(b:Int)∧(b:Int)<1073741824) ⟨Int.ofNat_lt.2 hb,Int.lt_trans (Int.ofNat_lt.2 pA) (by decide)⟩
theorem Hu {x:Int} (h: -100000<x∧x<100000):smallInt x=true:=by
 unfold smallInt
 rw [Bool.and_eq_true,decide_eq_true_eq,decide_eq_true_eq]
 exact ⟨Int.lt_trans (by decide) h.1,Int.lt_trans h.2 (by decide)⟩
theorem BZ {a b:Int} (ha: -100000<a∧a<100000) (hb: -100000<b∧b<100000):eW .mul (.int a) (.int b)=some (.int (a*b)):=if_pos (c:=(smallInt a&&smallInt b)=true) (by rw [Hu ha,Hu hb];rfl)
theorem za {a:Int} {b:Nat} (hb:0<b):0≤a.fmod b∧a.fmod b<b:=⟨Int.fmod_nonneg_of_pos _ (Int.ofNat_lt.2 hb),Int.fmod_lt_of_pos _ (Int.ofNat_lt.2 hb)⟩
theorem PL {b:Nat} (hb:0<b) (pA:b<1000) (h:dA O) (H:∀(r:Nat) (af:ag),r<b→dA af→aT 2 O af→Q (.int (r:Int)) af):Wp (ay aw fu (n+1) 28 [.ref 2,.int (b:Int)] O) Q X:=match h with
 |⟨dO,i,m,h0,h1,h2,yG⟩=>by
  have i0:∀{s:ag} {j m:Int},s[2]?=some (.list [.ref 0,.int j,.int m])→dh s (.ref 2) (.int 0)=some (.ref 0):=λg=>eA (i:=0) g rfl
  have i1:∀{s:ag} {j m:Int},s[2]?=some (.list [.ref 0,.int j,.int m])→dh s (.ref 2) (.int 1)=some (.int j):=λg=>eA (i:=1) g rfl
  have i2:∀{s:ag} {j m:Int},s[2]?=some (.list [.ref 0,.int j,.int m])→dh s (.ref 2) (.int 2)=some (.int m):=λg=>eA (i:=2) g rfl
  have fin:∀(x:Int) (s:ag),dA s→aT 2 O s→Wq (ah (ay aw fu n) fu (bf 1 JV) [some (.ref 2),some (.int (b:Int)),some (.int x)] s) (bL Q) X:=λx s hP hE=>
   have hm:=za (a:=x) hb
   dp (v:= .int ((x.fmod b).toNat:Int)) (bG rfl rfl ((yh hb (Nat.lt_trans pA (by decide))).trans (by rw [Int.toNat_of_nonneg hm.1]))) (.ret (H _ _ ((Int.toNat_lt hm.1).2 hm.2) hP hE))
  refine dY (L:=[some (.ref 2),some (.int (b:Int)),none]) rfl rfl (by decide) rfl (eQ (aO (bj rfl rfl (i1 h2)) (fq (aJ (bj rfl rfl (i0 h2)) rfl) (mn h0)) nT) (λq=>?_) λq=>fB (aO (fq (aJ (bj rfl rfl (i0 h2)) rfl) (mn h0)) rfl mi) (λ_=>?_) λ_=>?_)
  ·exact (h1 _ (List.getElem_mem q)).elim λx hx=>aV (bj (bj rfl rfl (i0 h2)) (bj rfl rfl (i1 h2)) (eA h0 (v:= .int x) (by rw [List.getElem?_eq_getElem q,hx]))) (AO rfl rfl (i1 h2) rfl (show jf .add _ (.int (i:Int)) (.int 1)= .ok (.int ((i+1:Nat):Int)) O from rfl) (uA (i:=1) h2 (Nat.lt_succ_of_lt (adu 1)))
        (n1 (fin x _ ⟨dO,i+1,m,fQ h0 (by decide),h1,de h2,yG⟩ aT.refl.set)))
  ·exact aV rfl (n2 (fin 0 _ h .refl))
  ·have hm:=za (a:=m*37+11) (b:=1009) (by decide)
   have g2:(O.set 2 (.list [.ref 0,.int (i:Int),.int ((m*37+11).fmod (1009:Nat))]))[2]?=some (.list [.ref 0,.int (i:Int),.int ((m*37+11).fmod (1009:Nat))]):=de h2
   exact oM (bG (bG (bG (bj rfl rfl (i2 h2)) rfl (BZ ⟨Int.lt_of_lt_of_le (by decide) yG.1,Int.lt_trans yG.2 (by decide)⟩ (by decide))) rfl KC) rfl (yh (b:=1009) (by decide) (by decide))) rfl rfl (uA (i:=2) h2 (adu 2)) (aV (bj rfl rfl (i2 g2)) (n2 (fin _ _ ⟨dO,i,_,fQ h0 (by decide),h1,g2,hm⟩ aT.refl.set)))
end
noncomputable def qB:List Nat:=[116,101,120,116]
noncomputable def BH:List Nat:=[112,97,114,97,109]
noncomputable def lE:List Nat:=[117,115,101]
noncomputable def nA:List Nat:=[65]
noncomputable def nB:List Nat:=[66]
noncomputable def nC:List Nat:=[67]
noncomputable def nF:List Nat:=[70]
noncomputable def nG:List Nat:=[71]
noncomputable def nZ:List Nat:=[90]
inductive A0 where
 |txt (s:List Nat)
 |cW (i:Nat)
 |use (nm:List Nat)
inductive Pz where
 |a (x:A0)
 |call (nm:List Nat) (x:A0)
inductive RA (O:ag) (F:Nat→Prop):V→A0→Prop where
 |txt (s:List Nat):RA O F (.tup [.str qB,.str s]) (.txt s)
 |cW (i:Nat):RA O F (.tup [.str BH,.int (i:Int)]) (.cW i)
 |use (nm:List Nat) (r:Nat):F r→O[r]?=some (.list [])→RA O F (.tup [.str lE,.str nm,.ref r]) (.use nm)
inductive RP (O:ag) (F:Nat→Prop):V→Pz→Prop where
 |a (v:V) (x:A0):RA O F v x→RP O F v (.a x)
 |call (nm:List Nat) (x:A0) (r q:Nat) (w:V):F r→O[r]?=some (.list [.ref q])→F q→O[q]?=some (.list [w])→RA O F w x→RP O F (.tup [.str lE,.str nm,.ref r]) (.call nm x)
inductive RL {α:Type} (R:V→α→Prop):List V→List α→Prop where
 |nil:RL R [] []
 |cons {v:V} {a:α} {vs:List V} {l:List α}:R v a→RL R vs l→RL R (v::vs) (a::l)
section
variable {α:Type} {R R':V→α→Prop} {vs:List V} {l:List α} {O af:ag} {F F':Nat→Prop} {v:V}
theorem RL.mono (h:RL R vs l) (f:∀v a,R v a→R' v a):RL R' vs l:=by
 induction h with
 |nil=>exact .nil
 |cons r _ ih=>exact .cons (f _ _ r) ih
theorem RL.push {a:α} (h:RL R vs l) (r:R v a):RL R (vs++[v]) (l++[a]):=by
 induction h with
 |nil=>exact .cons r .nil
 |cons r2 _ ih=>exact .cons r2 ih
theorem RL.length (h:RL R vs l):vs.length=l.length:=by
 induction h with
 |nil=>rfl
 |cons _ _ ih=>exact congrArg (· +1) ih
theorem RL.get {i:Nat} (h:RL R vs l) (hi:i<l.length):∃v a,vs[i]?=some v∧l[i]?=some a∧R v a:=by
 induction h generalizing i with
 |nil=>exact absurd hi (Nat.not_lt_zero _)
 |cons r _ ih=>
  cases i with
  |zero=>exact ⟨_,_,rfl,rfl,r⟩
  |succ i=>exact ih (Nat.lt_of_succ_lt_succ hi)
@[elab_as_elim] theorem RA.el {P:V→A0→Prop} {x:A0} (h:RA O F v x) (h1:∀t,P (.tup [.str qB,.str t]) (.txt t)) (h2:∀i:Nat,P (.tup [.str BH,.int (i:Int)]) (.cW i)) (h3:∀nm r,F r→O[r]?=some (.list [])→P (.tup [.str lE,.str nm,.ref r]) (.use nm)):P v x:=RA.casesOn (motive:=λv x _=>P v x) h h1 h2 h3
@[elab_as_elim] theorem RP.el {P:V→Pz→Prop} {p:Pz} (h:RP O F v p) (h1:∀v x,RA O F v x→P v (.a x)) (h2:∀nm x r q w,F r→O[r]?=some (.list [.ref q])→F q→O[q]?=some (.list [w])→RA O F w x→P (.tup [.str lE,.str nm,.ref r]) (.call nm x)):P v p:=RP.casesOn (motive:=λv p _=>P v p) h h1 h2
theorem RA.keep {x:A0} (h:RA O F v x) (k:∀i c,F i→O[i]?=some c→af[i]?=some c) (f:∀i,F i→F' i):RA af F' v x:=h.el .txt .cW λnm r a b=> .use nm r (f _ a) (k _ _ a b)
theorem RP.keep {p:Pz} (h:RP O F v p) (k:∀i c,F i→O[i]?=some c→af[i]?=some c) (f:∀i,F i→F' i):RP af F' v p:=h.el (λv x h=> .a v x (h.keep k f)) λnm x r q w a b c d e=> .call nm x r q w (f _ a) (k _ _ a b) (f _ c) (k _ _ c d) (e.keep k f)
end
noncomputable def vn:List (List Nat):=[[120,49],[43,32,50],[56,39,104,53],[34,96,65,32,112,34],[91,114,93]]
inductive iF (c:Nat):Pz→Prop where
 |txt {s:List Nat}:s∈vn→iF c (.a (.txt s))
 |cW {i:Nat}:i<c→iF c (.a (.cW i))
 |use {nm:List Nat}:nm∈[nA,nB,nC]→iF c (.a (.use nm))
 |Iv:0<c→iF c (.call nF (.cW 0))
 |J1:c=0→iF c (.call nF (.txt [107]))
section
variable {fu n:Nat} {O:ag} {X:aX→ag→Prop} {Q:V→ag→Prop}
theorem eG {b:Nat} (hn:0<n) (hb:0<b) (pA:b<1000) (h:dA O) (H:∀(r:Nat) (af:ag),r<b→dA af→aT 2 O af→Q (.int (r:Int)) af):Wp (ay aw fu n 28 [.ref 2,.int (b:Int)] O) Q X:=match n,hn with
 |m+1,_=>PL hb pA h H
theorem u7 {α:Type} {f:α→V} {xs:List α} {r:Nat} (hr:r<xs.length):∃t,t∈xs∧(xs.map f)[r]?=some (f t):=
 ⟨xs[r],List.getElem_mem hr,by rw [List.getElem?_map,List.getElem?_eq_getElem hr];rfl⟩
theorem Oq {xs:List Nat} {r:Nat} (hr:r<xs.length):dh O (.str xs) (.int (r:Int))=some (.str [xs[r]]):=Nv (List.drop_eq_getElem_cons hr)
theorem D3 {C:Calls} {L:Locals} {e:E} {b ss:Ss} {R:Flow→Locals→ag→Prop} {x:Nat} (h:Wp (ev C fu e L O) (λv O=>∃N:Nat,v= .int (N:Int)∧N≤100000∧Wq (jd (gv (N:Int)) x (ah C fu b) fu 0 L O) (Nx C fu ss R X) X) X):Wq (ah C fu (.cons (.forR x e b) ss) L O) R X:=
 fc (eB (dj h λv O h=>by
  obtain ⟨N,rfl,hN,h⟩:=h
  refine Kv ?_
  rw [if_pos (yZ (Int.lt_of_le_of_lt (Int.ofNat_le.2 hN) (by decide)))]
  exact h))
theorem zw {C:Calls} {L:Locals} {b ss:Ss} {R:Flow→Locals→ag→Prop} {x N:Nat} (I:Nat→Locals→ag→Prop) (hf:aq+100<fu) (hN:N≤100000) (h0:I 0 L O) (step:∀k L O (K:Locals→ag→Prop),k<N→(∀L O,I (k+1) L O→K L O)→I k L O→Wq (ah C fu b (L.put x (.int (k:Int))) O) (Lp C fu ss R X K) X) (fin:∀L O,I N L O→Wq (ah C fu ss L O) R X):
  Wq (jd (gv (N:Int)) x (ah C fu b) fu 0 L O) (Nx C fu ss R X) X:=
 xN (λk L O=>k≤N∧I k L O) N (λk L O hI=>⟨hI.1,(Nat.lt_or_eq_of_le hI.1).elim (λhk=>bZ (Dn hk) (.more ⟨hk,step k L O _ hk (λL O h=>⟨hk,h⟩) hI.2⟩)) λhk=>by
  subst hk;exact bZ Ag (.done (fin L O hI.2))⟩) fu 0 L O ⟨ads _,h0⟩ (adm hN (Nat.lt_trans (dm▸by decide) hf))
theorem BA {C:Calls} {L:Locals} {m:Bm} {a:E} {es:Es} {n:Nat} {xs:List V} (h1:ev C fu a L O= .ok (.ref n) O) (g:O[n]?=some (.list xs)) (hm:m.kd= .l) (h:Wp (bw C fu es L O) (λvs O=>Wp (fM m O (.ref n) vs) Q X) X):Wp (ev C fu (.bt m a es) L O) Q X:=
 jm (aS h1 (by rw [hm,if_pos (show pV .l O (.ref n)=true from g6 g)];exact jm h))
inductive MI (O:ag) (w:V) (c:Nat):Nat→Locals→ag→Prop where
 |mk {k:Nat} {vs:List V} {ps:List Pz} {x4 x5 x6:Option V} {s:ag} (hq:s[O.length]?=some (.list vs)) (hR:RL (RP s (λi=>O.length<i)) vs ps) (ji:∀p∈ps,iF c p) (hl:ps.length≤k) (hP:dA s) (hE:aT 2 O s):
   MI O w c k [some (.ref 2),some w,some (.int (c:Int)),some (.ref O.length),x4,x5,x6] s
theorem MI.add {w:V} {c k:Nat} {vs:List V} {ps:List Pz} {x4 x5 x6:Option V} {s s':ag} {v:V} {p:Pz} (h2:2<O.length) (hR:RL (RP s (λi=>O.length<i)) vs ps) (ji:∀p∈ps,iF c p) (hl:ps.length≤k) (hE:aT 2 O s) (e:aT 2 s s') (hq:s'[O.length]?=some (.list vs)) (hp:RP s' (λi=>O.length<i) v p) (ik:iF c p) (hP:dA s'):
  MI O w c (k+1) [some (.ref 2),some w,some (.int (c:Int)),some (.ref O.length),x4,x5,x6] (s'.set O.length (.list (vs++[v]))):=by
 have kp:∀i c',O.length<i→s'[i]?=some c'→(s'.set O.length (.list (vs++[v])))[i]?=some c':=λi c' hi g=>fQ g (Nat.ne_of_lt hi)
 exact .mk (de hq) ((hR.mono λv a r=>(r.keep (λi c' hi g=>e.get g (Nat.ne_of_gt (Nat.lt_trans h2 hi))) λ_ h=>h).keep kp λ_ h=>h).push (hp.keep kp λ_ h=>h)) (λp' Bu=>(List.mem_append.1 Bu).elim (ji _) λBu=>List.mem_singleton.1 Bu▸ik) (by rw [List.length_append];exact Nat.succ_le_succ hl) (hP.keep aT.refl.set (Nat.ne_of_gt (Nat.lt_trans (by decide) h2)) (Nat.ne_of_gt h2)) ((hE.trans e).qS (adq _))
theorem Y9 {c:Nat} {C:Calls} {L:Locals} (h:L.get 2=some (.int (c:Int))):∃(x:A0) (v:V),iF c (.call nF x)∧(∀(s:ag) (F:Nat→Prop),RA s F v x)∧ev C fu (.ite (.cmp .gt (.loc 2) (.int 0)) (.tup (.cons (.str BH) (.cons (.int 0) .nil))) (.tup (.cons (.str qB) (.cons (.str [107]) .nil)))) L O= .ok v O:=
  (Nat.eq_zero_or_pos c).elim (λe=>⟨.txt [107],_,.J1 e,λ_ _=> .txt _,pL (t:=decide ((0:Int)<(c:Int))) (aO (dI h) rfl lZ) (λq=>absurd (ado q) (by rw [e];decide)) λ_=>rfl⟩)
    λe=>⟨.cW 0,_,.Iv e,λ_ _=> .cW _,pL (t:=decide ((0:Int)<(c:Int))) (aO (dI h) rfl lZ) (λ_=>rfl) λq=>absurd (Int.ofNat_lt.2 e) (adp q)⟩
theorem SW:∀{r:Nat} (hr:r<[65,66,67].length),[[65,66,67][r]]∈[nA,nB,nC]
 |0,_=> .head _
 |1,_=> .tail _ (.head _)
 |2,_=> .tail _ (.tail _ (.head _))
theorem Yu {c:Nat} {w:V} (hn:1<n) (hf:aq+100<fu) (hc:c<3) (h:dA O) (h2:2<O.length)
    (H:∀(r:Nat) (af:ag) (vs:List V) (ps:List Pz),O.length≤r→af[r]?=some (.list vs)→RL (RP af (λi=>O.length≤i)) vs ps→(∀p∈ps,iF c p)→ps.length≤3→dA af→aT 2 O af→Q (.ref r) af):
  Wp (ay aw fu (n+1) 29 [.ref 2,w,.int (c:Int)] O) Q X:=by
 have h0:=Nat.lt_of_succ_lt hn
 have x1:=(aj.refl (O:=O)).push (d:= .list [])
 have q2:O.length≠2:=Nat.ne_of_gt h2
 refine dY (L:=[some (.ref 2),some w,some (.int (c:Int)),none,none,none,none]) rfl rfl (by decide) rfl (aV rfl (D3 (eE (aS rfl (eG (b:=4) h0 (by decide) (by decide) (h.ext x1) λN s1 hN Sh e1=>⟨N,rfl,adk (Nat.le_of_lt hN) (by decide),zw (MI O w c) hf (adk (Nat.le_of_lt hN) (by decide)) (.mk (e1.get bH q2) .nil (λ_ h=>nomatch h) (adq _) Sh (x1.toT.trans e1)) (λk L s K hk hK h=>?_) λL s h=>?_⟩)))))
 ·cases h with
  |@mk vs ps x4 x5 x6 _ hq hR ji hl hP hE=>
   have dy:vs.length<aq:=adm (hR.length▸hl) (Nat.lt_trans hk (Nat.lt_trans hN (dm▸by decide)))
   refine oy rfl (eG (b:=7) h0 (by decide) (by decide) hP λkd s2 _ gM e2=>?_)
   have jG:=e2.get hq q2
   have N8:2<s2.length:=Nat.lt_trans h2 (dE jG)
   refine fB (aO rfl rfl mi) (λ_=>?_) λ_=>abn (aO rfl rfl mi) (aO rfl rfl lZ) (λpY=>?_) λ_=>fB (aO rfl rfl mi) (λ_=>?_) λ_=>?_
   ·have x3:=(aj.refl (O:=s2)).push (d:= .list (vn.map .str))
    refine oa (BA rfl jG rfl (hV (yq (hV (aS rfl (hV (lV (aS rfl (eE (aS rfl (eG (b:=5) h0 (by decide) (by decide) (gM.ext x3) λr s3 hr j9 e3=>(u7 (f:= .str) (xs:=vn) hr).elim λt ht=>?_)))))))))))
    have mU:=e3.get (x3.get jG) q2
    exact bZ (eA (e3.get bH (Nat.ne_of_gt N8)) ht.2) (mJ (mJ (aS (ip mU dy) (jk (hK _ _ (MI.add h2 hR ji hl hE (e2.trans (x3.toT.trans e3)) mU (.a _ _ (.txt t)) (.txt ht.1) j9))))))
   ·refine oa (BA rfl jG rfl (hV (yq (hV (aS rfl (hV (eE (aS rfl (eG (b:=c) h0 (Int.ofNat_lt.1 pY.2) (Nat.lt_trans hc (by decide)) gM λr s3 hr j9 e3=>?_)))))))))
    have mU:=e3.get jG q2
    exact mJ (mJ (aS (ip mU dy) (jh (hK _ _ (MI.add h2 hR ji hl hE (e2.trans e3) mU (.a _ _ (.cW r)) (.cW hr) j9)))))
   ·refine oa (BA rfl jG rfl (hV (yq (hV (aS rfl (hV (lV (aS rfl (eE (aS rfl (eG (b:=3) h0 (by decide) (by decide) gM λr s3 hr j9 e3=>?_)))))))))))
    have mU:=e3.get jG q2
    have x4:=(aj.refl (O:=s3)).push (d:= .list [])
    exact bZ (Oq (xs:=[65,66,67]) hr) (hV (aS rfl (mJ (mJ (aS (ip (x4.get mU) dy) (n1 (jh (hK _ _ (MI.add h2 hR ji hl hE (e2.trans (e3.trans x4.toT)) (x4.get mU) (.a _ _ (.use [[65,66,67][r]] s3.length (dE mU) bH)) (.use (SW hr)) (j9.ext x4))))))))))
   ·obtain ⟨x,v,hx,hv,XH⟩:=Y9 (fu:=fu) (O:=s2) (C:=ay aw fu n) (c:=c) (L:=[some (.ref 2),some w,some (.int (c:Int)),some (.ref O.length),some (.int (k:Int)),some (.int (kd:Int)),x6]) rfl
    have x7:=(aj.refl (O:=s2)).push (d:= .list [v])
    have x8:=(aj.refl (O:=s2++[.list [v]])).push (d:= .list [.ref s2.length])
    have x9:=x7.trans x8
    exact aV XH (dR (iw rfl jG rfl rfl (ip (x9.get jG) dy)) (n1 (jh (hK _ _ (MI.add h2 hR ji hl hE (e2.trans x9.toT) (x9.get jG) (.call nF x _ s2.length v (adl (dE jG) x7.1) bH (dE jG) (x8.get bH) (hv _ _)) hx (gM.ext x9))))))
 ·cases h with
  |@mk vs ps x4 x5 x6 _ hq hR ji hl hP hE=>exact dp rfl (.ret (H _ _ vs ps (adq _) hq (hR.mono λv a r=>r.keep (λ_ _ _ g=>g) λ_ h=>Nat.le_of_lt h) ji (adk hl (Nat.le_of_lt_succ hN)) hP hE))
end
noncomputable def wA:A0→List Nat
 | .txt s=>s
 | .cW i=>[if i=0 then 112 else 113]
 | .use nm=>96::nm
noncomputable def wP:Pz→List Nat
 | .a x=>wA x
 | .call nm x=>96::nm++([40]++wA x++[41])
noncomputable def bq (ps:List Pz):List Nat:=cv [32] (ps.map wP)
noncomputable def qu:A0→Prop
 | .cW i=>i<2
 | .txt s=>a9 s
 | .use nm=>a9 nm
noncomputable def yc:Pz→Prop
 | .a x=>qu x
 | .call nm x=>qu x∧a9 nm
section
variable {α:Type} {R:V→α→Prop} {vs:List V} {l:List α} {O:ag} {F:Nat→Prop} {v:V} {k:Nat}
@[elab_as_elim] theorem RL.item {P:Option V→Prop} (h:RL R vs l) (hk:k≤l.length) (h1:∀v a,l[k]?=some a→R v a→k<l.length→P (some v)) (h2:k=l.length→P none):P vs[k]?:=
  (Nat.lt_or_eq_of_le hk).elim (λq=>(h.get q).elim λv e=>e.elim λa e=>e.1▸h1 v a e.2.1 e.2.2 q) λq=>(List.getElem?_eq_none (adt (h.length.trans q.symm))).symm▸h2 q
end
section
variable {fu n:Nat} {O:ag} {X:aX→ag→Prop} {Q:V→ag→Prop}
theorem AE {α:Type} {o:Out α} {P:α→ag→Prop} (h:Wp o P λ_ _=>False):∃v s,o= .ok v s∧P v s:=by
 cases h with
 |ok h=>exact ⟨_,_,rfl,h⟩
 |exc h=>exact h.elim
theorem yx {item:Nat→ag→Option (Option V)} {f:V→ag→Out V} {m i:Nat} {acc:List V} {s s':ag} {x y:V} (h:item i s=some (some x)) (e:f x s= .ok y s') (hl:acc.length<aq):fy item f (m+1) i acc s=fy item f m (i+1) (acc++[y]) s':=by
 show ((item i s).bind λo=>bK o (some (acc,s)) λx=>qf (f x s) none λv af=>if acc.length<aq then fy item f m (i+1) (acc++[v]) af else none)=_
 rw [h]
 show qf (f x s) none _=_
 rw [e];exact if_pos hl
theorem xX {item:Nat→ag→Option (Option V)} {f:V→ag→Out V} {m i:Nat} {acc:List V} {s:ag} (h:item i s=some none):fy item f (m+1) i acc s=some (acc,s):=by
 show ((item i s).bind _)=_
 rw [h];rfl
theorem BX (hf:aq+100<fu):∃m,fu=m+3:=⟨fu-3,(Nat.sub_add_cancel (Nat.le_of_lt (adm (adk (by decide) (Nat.le_add_left 100 aq)) hf))).symm⟩
section
variable {C:Calls} {L:Locals} {bc it:E} {caps:List Nat} {r:Nat} {s s1 s2 s3:ag} {x y x2 y2:V}
theorem zL {ys:List V} (h1:ev C fu it L s= .ok (.ref r) s1) (h2:fy (kx r) (λv s=>ev C fu bc (some v::caps.map L.get) s) fu 0 [] s1=some (ys,s2)):ev C fu (.comp bc caps it) L s= .ok (.ref s2.length) (s2++[.list ys]):=cY h1 (congrArg nQ h2)
theorem HZ (hf:aq+100<fu) (h1:ev C fu it L s= .ok (.ref r) s1) (g:s1[r]?=some (.list [])):ev C fu (.comp bc caps it) L s= .ok (.ref s1.length) (s1++[.list []]):=zL h1 ((BX hf).elim λm e=>by
 conv=>lhs;arg 3;rw [e]
 exact xX (jJ g))
theorem BN (hf:aq+100<fu) (h1:ev C fu it L s= .ok (.ref r) s1) (g:s1[r]?=some (.list [x])) (e:ev C fu bc (some x::caps.map L.get) s1= .ok y s2) (e2:aj s1 s2):ev C fu (.comp bc caps it) L s= .ok (.ref s2.length) (s2++[.list [y]]):=zL h1 ((BX hf).elim λm e0=>by
 conv=>lhs;arg 3;rw [e0]
 exact (yx (jJ g) e (by decide)).trans (xX (jJ (e2.get g))))
theorem aak (hf:aq+100<fu) (h1:ev C fu it L s= .ok (.ref r) s1) (g:s1[r]?=some (.list [x,x2])) (e:ev C fu bc (some x::caps.map L.get) s1= .ok y s2) (e2:aj s1 s2) (e':ev C fu bc (some x2::caps.map L.get) s2= .ok y2 s3) (e3:aj s2 s3):ev C fu (.comp bc caps it) L s= .ok (.ref s3.length) (s3++[.list [y,y2]]):=zL h1 ((BX hf).elim λm e0=>by
 conv=>lhs;arg 3;rw [e0]
 exact (yx (jJ g) e (by decide)).trans ((yx (acc:=[y]) (jJ (e2.get g)) e' (show 1<aq by decide)).trans (xX (jJ (e3.get (e2.get g))))))
end
section
variable {s:ag} {a b d:Nat} {xs:List V} {ys:List PySem.PyData} {x:V} {y e:PySem.PyData}
theorem nS (h:s[a]?=some (.list xs)) (e:V.pS s d xs=some ys):V.py s (d+1) (.ref a)=some (.list ys):=(g6 (d:=Option.none) (f:=λvs=>(jv (V.py s d) vs).bind λxs=>some (PySem.PyData.list xs)) h).trans (by rw [show jv (V.py s d) xs=some ys from e];rfl)
theorem iJ (h:V.py s d x=some y) (h2:V.pS s d xs=some ys):V.pS s d (x::xs)=some (y::ys):=by
 show ((V.py s d x).bind λx=>(jv (V.py s d) xs).bind λxs=>some (x::xs))=_
 rw [h,show jv (V.py s d) xs=some ys from h2];rfl
theorem vh (h:V.pS s d xs=some ys):V.py s (d+1) (.tup xs)=some (.tuple ys):=by
 show ((jv (V.py s d) xs).bind λxs=>some (PySem.PyData.tuple xs))=_
 rw [show jv (V.py s d) xs=some ys from h];rfl
structure ml (d:PySem.PyData) (k:Nat):Prop where
 l:PySem.PyData.canLay0 d=true
 d:PySem.PyData.depth d≤k
inductive o7 (k:Nat):List PySem.PyData→Prop where
 |nil:o7 k []
 |cons {d:PySem.PyData} {ds:List PySem.PyData}:ml d k→o7 k ds→o7 k (d::ds)
theorem pJ {x:List Nat} {k:Nat} (h:a9 x):ml (dM x) k:=⟨I9 h,ads _⟩
theorem xG {k:Nat} {ds:List PySem.PyData} (h:o7 k ds):PySem.PyData.canLayAll0 ds=true∧PySem.PyData.depthAll ds≤k:=by
 induction h with
 |nil=>exact ⟨rfl,ads _⟩
 |cons a _ ih=>exact ⟨(congrArg (and · _) a.l).trans ih.1,Nat.max_le.2 ⟨a.d,ih.2⟩⟩
theorem nh {k:Nat} {ds:List PySem.PyData} (h:o7 k ds):ml (.list ds) (k+1):=⟨(xG h).1,Nat.succ_le_succ (xG h).2⟩
theorem vg {k:Nat} {ds:List PySem.PyData} (h:o7 k ds):ml (.tuple ds) (k+1):=⟨(xG h).1,Nat.succ_le_succ (xG h).2⟩
theorem K9 {k:Nat} (h:ml y k) (hk:k≤64):PySem.SeqAt.shaped y=true:=by
 unfold PySem.SeqAt.shaped
 rw [h.l,decide_eq_true (adk h.d hk)];rfl
theorem cy {x:List Nat} (h:x.all (λc=>decide (c<128))=true):a9 x:=λc hc=>ado (List.all_eq_true.1 h c hc)
theorem we {u v:V} {k j:Nat} (h1:V.py s 4 u=some y) (h2:V.py s 4 v=some e) (l1:ml y k) (l2:ml e j) (hk:k≤64) (hj:j≤64):jV s u v=some (PySem.PyData.eqv y e):=by
 unfold jV
 rw [h1,h2]
 exact if_pos (by rw [K9 l1 hk,K9 l2 hj];rfl)
theorem QG {F:Nat→Prop} {w:V} {x:A0} (h:RA s F w x):qu x→∃d,V.py s 2 w=some d∧ml d 2:=h.el (λt ho=>⟨_,vh (iJ rfl (iJ rfl rfl)),vg (.cons (pJ (cy rfl)) (.cons (pJ ho) .nil))⟩)
  (λi _=>⟨_,vh (iJ rfl (iJ rfl rfl)),vg (.cons (pJ (cy rfl)) (.cons ⟨rfl,ads _⟩ .nil))⟩)
  λnm r _ g ho=>⟨_,vh (iJ rfl (iJ rfl (iJ (nS g rfl) rfl))),vg (.cons (pJ (cy rfl)) (.cons (pJ ho) (.cons (nh .nil) .nil)))⟩
theorem Ke {t:Bool} {u v:Nat} (h:jV s (.ref u) (.ref v)=some t):ct .ne s (.ref u) (.ref v)=some (.bool (!t)):=congrArg (Option.map λx=>V.bool (!x)) h
theorem Ox (h1:s[a]?=some (.list [])) (h2:s[b]?=some (.list [])):ct .ne s (.ref a) (.ref b)=some (.bool false):=Ke (t:=true) (we (nS h1 rfl) (nS h2 rfl) (nh (k:=0) .nil) (nh (k:=0) .nil) (by decide) (by decide))
theorem aaW {F:Nat→Prop} {q:Nat} {w:V} {x:A0} (h1:s[a]?=some (.list [.ref q])) (hq:s[q]?=some (.list [w])) (hw:RA s F w x) (ho:qu x) (h2:s[b]?=some (.list [])):ct .ne s (.ref a) (.ref b)=some (.bool true):=(QG hw ho).elim λd h=>Ke (t:=false) (we (nS h1 (iJ (nS hq (iJ h.1 rfl)) rfl)) (nS h2 rfl) (nh (nh (k:=2) (.cons h.2 .nil)|>λl=> .cons l .nil)) (nh (k:=0) .nil) (by decide) (by decide))
end
theorem Am {m:Nat} (h:m≤100):m+8≤aq:=adk (Nat.add_le_add_right h 8) (dm▸by decide)
theorem LV {l:List (List Nat)} (h:l.length≤100):(l.map V.str).length<aq:=(List.length_map V.str).symm▸adm h (dm▸by decide)
theorem Sf {i:Nat} (h:i<2):dh O (.str [112,113]) (.int (i:Int))=some (.str [if i=0 then 112 else 113]):=(Nat.lt_succ_iff_lt_or_eq.1 h).elim (λh=>by rw [Nat.lt_one_iff.1 h];rfl) λh=>by rw [h];rfl
theorem Na {nm:List Nat} {x:A0} (h:(wP (.call nm x)).length≤100):(96::nm).length≤100∧([40]++wA x++[41]).length≤100:=by
 rw [show wP (.call nm x)=96::nm++([40]++wA x++[41]) from rfl,List.length_append] at h
 exact ⟨adk (adn _ _) h,adk (Nat.le_add_left _ _) h⟩
theorem EY {x:A0} (h:([40]++wA x++[41]).length≤100):([40]++wA x).length≤100∧(wA x).length≤100:=by
 rw [List.length_append] at h
 have h1:=adk (adn _ _) h
 exact ⟨h1,adk (Nat.le_add_left _ _) (List.length_append (as:=[40]) (bs:=wA x)▸h1)⟩
theorem pR {a b:List Nat} (h:(a++b).length≤100):eW .add (.str a) (.str b)=some (.str (a++b)):=nJ (adk h (adk (adn _ _) (Am (adq _))))
abbrev bW:Ss:=EP
noncomputable def zC (C:Calls) (F:Nat→Prop) (x:A0):Prop:=∀q w s,s[q]?=some (.list [w])→RA s F w x→∃s',C 30 [.ref q] s= .ok (.str (wA x)) s'∧aj s s'
noncomputable def yv (p:Pz) (P:A0→Prop):Prop:=match p with
 | .a _=>True
 | .call _ x=>P x
theorem T9 {C:Calls} {ss:Ss} {R:Flow→Locals→ag→Prop} {K:Locals→ag→Prop} {F:Nat→Prop} {r q:Nat} {l:List (List Nat)} {v:V} {p:Pz} {x3:Option V} (hf:aq+100<fu) (hl:l.length≤100) (hq:O[q]?=some (.list (l.map .str))) (hr:RP O F v p):yc p→(wP p).length≤100→yv p (zC C F)→
    (∀s' x3,aj O s'→s'[q]?=some (.list (l.map .str))→K [some (.ref r),some (.ref q),some v,x3] (s'.set q (.list ((l++[wP p]).map .str))))→Wq (ah C fu (fK (bf 1 bW)) [some (.ref r),some (.ref q),some v,x3] O) (Lp C fu ss R X K) X:=by
 have app:∀{s:ag} {w:List Nat},s[q]?=some (.list (l.map .str))→fM .append s (.ref q) [.str w]= .ok .none (s.set q (.list ((l++[w]).map .str))):=λg=>vQ l _▸ip g (LV hl)
 refine hr.el (λv x hr=>hr.el (λt _ _ _ hK=>cO rfl (dR (iw rfl hq rfl rfl (app hq)) (jk (hK _ _ .refl hq)))) (λi ik _ _ hK=>fz rfl (cO rfl (dR (iw rfl hq rfl (aJ (bj rfl rfl (Sf ik)) rfl) (app hq)) (jh (hK _ _ .refl hq))))) (λnm a hF ha ik j2 _ hK=>?_)) λnm x a q' w hF ha Za wM hx ik j2 Ab hK=>?_
 ·obtain ⟨s1,hc,z1⟩:=Ab q' w O wM hx
  have y1:=z1.push (d:= .list ([wA x].map .str))
  have y2:=y1.push (d:= .list [])
  have i1:=Na j2
  have i2:=EY i1.2
  exact fz rfl (fz rfl (aV (jz rfl rfl (aJ (BN hf rfl ha (eg rfl hc) z1) rfl) (qI (l:=[wA x]) bH (adk (Nat.add_le_add_right i2.2 2) (adk (by decide) (Am (adq _)))))) (dR (iw rfl (y1.get hq) rfl (aJ (bG (bG rfl rfl (pR (a:=[96]) (b:=nm) i1.1)) (pL (aO rfl rfl (aaW (y2.get ha) (y2.get wM) (hx.keep (λ_ _ _ g=>y2.get g) λ_ h=>h) ik.1 bH)) (λ_=>bG (bG rfl rfl (pR i2.1)) rfl (pR i1.2)) (λq=>nomatch q)) (pR j2)) rfl) (app (y2.get hq))) (jh (hK _ _ y2 (y2.get hq))))))
 ·have y1:=(aj.refl (O:=O)).push (d:= .list [])
  have y2:=y1.push (d:= .list [])
  exact fz rfl (fz rfl (aV (jz rfl rfl (aJ (HZ hf rfl ha) rfl) (qI (l:=[]) bH (by decide))) (dR (iw rfl (y1.get hq) rfl (aJ (bG (bG rfl rfl (pR (a:=[96]) (b:=nm) j2)) (pL (v:= .str []) (aO rfl rfl (Ox (y2.get ha) bH)) (λq=>nomatch q) λ_=>rfl) ((pR (by rw [List.append_nil];exact j2)).trans (by rw [List.append_nil];rfl))) rfl) (app (y2.get hq))) (jh (hK _ _ y2 (y2.get hq))))))
inductive WI (O:ag) (r:Nat) (ps:List Pz) (k:Nat):Locals→ag→Prop where
 |mk {x2 x3:Option V} {s:ag} (hk:k≤ps.length) (he:aj O s) (hq:s[O.length]?=some (.list (((ps.take k).map wP).map .str))):WI O r ps k [some (.ref r),some (.ref O.length),x2,x3] s
theorem JW {β:Type} {f:Pz→β} {ps:List Pz} {k:Nat} {p:Pz} (h:ps[k]?=some p):(ps.take k).map f++[f p]=(ps.take (k+1)).map f:=by rw [List.take_add_one,h,List.map_append];rfl
theorem JI {F:Nat→Prop} {r:Nat} {vs:List V} {ps:List Pz} (hf:aq+100<fu) (g:O[r]?=some (.list vs)) (hR:RL (RP O F) vs ps) (hl:ps.length≤100) (hP:∀p∈ps,yc p∧(wP p).length≤100∧yv p (zC (ay aw fu n) F)) (hw:(bq ps).length≤100000):
  ∃af,ay aw fu (n+1) 30 [.ref r] O= .ok (.str (bq ps)) af∧aj O af:=
 (AE (o:=ay aw fu (n+1) 30 [.ref r] O) (P:=λv s=>v= .str (bq ps)∧aj O s) (dY (L:=[some (.ref r),none,none,none]) rfl rfl (by decide) rfl (aV rfl (qo ps.length (WI O r ps) (adm hl (adm (Nat.le_add_left 100 aq) hf)) (aS rfl ⟨_,rfl,.mk (ads _) (aj.refl.push) bH,λk L s K hK h=>by
  cases h with
  |mk hk he hq=>exact ⟨hk,bZ (jJ (he.get g)) (hR.item hk (λv p hp hr aK=> .more ⟨aK,by
    have o:=hP p (List.mem_of_getElem? hp)
    exact T9 hf (adk (adt (List.length_map _)) (adk (List.length_take_le' _ _) hl)) hq (hr.keep (λ_ _ _ g=>he.get g) λ_ h=>h) o.1 o.2.1 o.2.2 λs' x3 e h=>hK _ _ (.mk aK ((he.trans e).set (adq _)) (JW hp▸de h))⟩)
    λe=> .done (dp (jz rfl rfl rfl (qI hq (by rw [e,List.take_length];exact adk (Nat.add_le_add_right hw 1) (dm▸by decide)))) (.ret ⟨by rw [e,List.take_length];rfl,he⟩)))⟩⟩))))).elim λv h=>h.elim λs h=>⟨s,h.2.1▸h.1,h.2.2⟩
theorem Lh (hn:0<n) (hf:aq+100<fu) {F:Nat→Prop} {x:A0} (ho:qu x) (hl:(wA x).length≤100):zC (ay aw fu n) F x:=match n,hn with
 |n+1,_=>λq w s g hw=>JI (ps:=[.a x]) hf g (.cons (.a _ _ hw) .nil) (by show 1≤100;decide) (λp hp=>List.mem_singleton.1 hp▸⟨ho,hl,trivial⟩) (adk hl (by decide))
theorem SE {F:Nat→Prop} {r:Nat} {vs:List V} {ps:List Pz} (hn:0<n) (hf:aq+100<fu) (g:O[r]?=some (.list vs)) (hR:RL (RP O F) vs ps) (hl:ps.length≤100) (hP:∀p∈ps,yc p∧(wP p).length≤100) (hw:(bq ps).length≤100000):
  ∃af,ay aw fu (n+1) 30 [.ref r] O= .ok (.str (bq ps)) af∧aj O af:=
 JI hf g hR hl (λp hp=>⟨(hP p hp).1,(hP p hp).2,match p,hP p hp with
  | .a _,_=>trivial
  | .call _ _,h=>Lh hn hf h.1.1 (EY (Na h.2).2).2⟩) hw
end
noncomputable def fA (as:List A0):A0→A0
 | .cW i=>as.getD i (.txt [])
 |x=>x
noncomputable def fP (as:List A0):Pz→Pz
 | .a x=> .a (fA as x)
 | .call nm x=> .call nm (fA as x)
noncomputable def wG (k:Nat):A0→Prop
 | .cW i=>i<k
 |_=>True
noncomputable def xV (k:Nat):Pz→Prop
 | .a x=>wG k x
 | .call _ x=>wG k x
inductive dP (O:ag) (F:Nat→Prop) (v:V) (x:A0):Prop where
 |mk (q:Nat) (w:V) (e:v= .ref q) (f:F q) (g:O[q]?=some (.list [w])) (r:RA O F w x):dP O F v x
section
variable {O af:ag} {F F':Nat→Prop} {v w:V} {x:A0} {p:Pz} {q:Nat}
theorem dP.keep (h:dP O F v x) (k:∀i c,F i→O[i]?=some c→af[i]?=some c) (f:∀i,F i→F' i):dP af F' v x:=match h with
 |⟨q,w,e,h1,h2,h3⟩=>⟨q,w,e,f _ h1,k _ _ h1 h2,h3.keep k f⟩
theorem RA.old (h:RA O F v x):RA O (λi=>F i∧i<O.length) v x:=h.el .txt .cW λnm r a b=> .use nm r ⟨a,dE b⟩ b
theorem RP.old (h:RP O F v p):RP O (λi=>F i∧i<O.length) v p:=h.el (λv x h=> .a v x h.old) λnm x r q w a b c d e=> .call nm x r q w ⟨a,dE b⟩ b ⟨c,dE d⟩ d e.old
theorem RP.inv (h:RP O F v (.a x)):RA O F v x:=by
 cases h with
 |a _ _ h=>exact h
theorem dP.old (h:dP O F v x):dP O (λi=>F i∧i<O.length) v x:=match h with
 |⟨q,w,e,h1,h2,h3⟩=>⟨q,w,e,⟨h1,dE h2⟩,h2,h3.old⟩
end
section
variable {fu n:Nat} {O:ag} {X:aX→ag→Prop} {Q:V→ag→Prop}
theorem JS {a b:Nat} {xs ys:List V} (h:O[a]?=some (.list xs)) (h2:O[b]?=some (.list ys)) (ne:a≠b) (hl:xs.length+ys.length≤aq):jf .add O (.ref a) (.ref b)= .ok (.ref a) (O.set a (.list (xs++ys))):=
  (g6 (d:=Out.stuck) (f:=λxs=>eX O b .stuck λys=>if a≠b∧xs.length+ys.length≤aq then Out.ok (V.ref a) (O.set a (.list (xs++ys))) else .stuck) h).trans ((g6 (d:=Out.stuck) (f:=λys=>if a≠b∧xs.length+ys.length≤aq then Out.ok (V.ref a) (O.set a (.list (xs++ys))) else .stuck) h2).trans (if_pos ⟨ne,hl⟩))
abbrev bF:Ss:=MW
noncomputable def Fo (F:Nat→Prop) (m i:Nat):Prop:=(F i∧i<m)∨m<i
inductive tI (C:Calls) (O:ag) (F:Nat→Prop) (r a:Nat) (ps:List Pz):Prop where
 |mk (af:ag) (vs:List V) (c:C 31 [.ref r,.ref a] O= .ok (.ref O.length) af) (e:aj O af) (g:af[O.length]?=some (.list vs)) (R:RL (RP af (Fo F O.length)) vs ps):tI C O F r a ps
noncomputable def Ep (C:Calls) (a:Nat) (cc:List V) (as:List A0) (x:A0):Prop:=∀(F:Nat→Prop) q w s,s[q]?=some (.list [w])→RA s F w x→s[a]?=some (.list cc)→RL (dP s F) cc as→tI C s F q a [.a (fA as x)]
theorem RL.one {α:Type} {R:V→α→Prop} {vs:List V} {y:α} {P:Prop} (h:RL R vs [y]) (k:∀v,vs=[v]→R v y→P):P:=by
 cases h with
 |cons r h=>cases h with
  |nil=>exact k _ rfl r
theorem acq {F:Nat→Prop} {m i:Nat} (h:Fo F m i):F i∨m≤i:=h.imp And.left Nat.le_of_lt
theorem QU {as:List A0} {i:Nat} {x:A0} (h:as[i]?=some x):fA as (.cW i)=x:=by
 show as.getD i (.txt [])=x
 rw [List.getD_eq_getElem?_getD,h];rfl
theorem Z1 {C:Calls} {ss:Ss} {R:Flow→Locals→ag→Prop} {K:Locals→ag→Prop} {F:Nat→Prop} {r a m:Nat} {xs cc:List V} {as:List A0} {v:V} {p:Pz} (hf:aq+100<fu) (hl:xs.length≤100) (hq:O[m]?=some (.list xs)) (ga:O[a]?=some (.list cc)) (hA:RL (dP O (λi=>F i∧i<m)) cc as) (hr:RP O (λi=>F i∧i<m) v p):xV as.length p→yv p (Ep C a cc as)→
    (∀s' y,aj O s'→s'[m]?=some (.list xs)→RP s' (Fo F m) y (fP as p)→K [some (.ref r),some (.ref a),some (.ref m),some v] (s'.set m (.list (xs++[y]))))→Wq (ah C fu (fK (bf 1 bF)) [some (.ref r),some (.ref a),some (.ref m),some v] O) (Lp C fu ss R X K) X:=by
 have lx:xs.length<aq:=adm hl (dm▸by decide)
 have hm:=dE hq
 refine hr.el (λv x hr=>hr.el (λt _ _ hK=>fz rfl (fz rfl (dR (iw rfl hq rfl rfl (ip hq lx)) (jh (hK _ _ .refl hq (.a _ _ (.txt t))))))) (λi hi _ hK=>(hA.get hi).elim λav h=>h.elim λax h=>?_) (λnm b hF hb _ _ hK=>?_)) λnm x b q w hF hb Za wM hx _ Ab hK=>?_
 ·cases Ab _ q w O wM hx ga hA with
  |mk s1 gm hc z1 XT hw=>
   refine hw.one λw' e hw=>?_
   have y1:=aj.refl (O:=s1) |>.push (d:= .list [.ref O.length])
   have z2:=z1.trans y1
   exact fz rfl (cO rfl (dR (iw rfl hq rfl (aJ (og (aJ rfl (aJ rfl (aJ (BN hf rfl hb (eg rfl hc) z1) rfl)))) rfl) (ip (z2.get hq) lx)) (jh (hK _ _ z2 (z2.get hq) (.call nm (fA as x) _ O.length w' (.inr (adl hm z1.1)) bH (.inr hm) (y1.get (e▸XT)) (hw.inv.keep (λi c _ g=>y1.get g) λi hi=>hi.elim (λh=> .inl h.1) λh=> .inr (Nat.lt_trans hm h)))))))
 ·cases h.2.2 with
  |mk q w e hF hg hr=>exact cO rfl (xw rfl (bj rfl rfl (eA ga (e▸h.1))) (JS hq hg (Nat.ne_of_gt hF.2) lx) rfl (jk (hK _ _ .refl hq (.a _ _ (QU h.2.1▸hr.keep (λ_ _ _ g=>g) λ_=> .inl)))))
 ·have y1:=(aj.refl (O:=O)).push (d:= .list [])
  exact fz rfl (cO rfl (dR (iw rfl hq rfl (aJ (og (aJ rfl (aJ rfl (aJ (HZ hf rfl hb) rfl)))) rfl) (ip (y1.get hq) lx)) (jh (hK _ _ y1 (y1.get hq) (.a _ _ (.use nm _ (.inr hm) bH))))))
inductive FI (O:ag) (F:Nat→Prop) (r a:Nat) (as:List A0) (ps:List Pz) (k:Nat):Locals→ag→Prop where
 |mk {xs:List V} {x3:Option V} {s:ag} (hk:k≤ps.length) (he:aj O s) (hq:s[O.length]?=some (.list xs)) (hR:RL (RP s (Fo F O.length)) xs ((ps.take k).map (fP as))):FI O F r a as ps k [some (.ref r),some (.ref a),some (.ref O.length),x3] s
theorem FI.next {F:Nat→Prop} {r a k:Nat} {as:List A0} {ps:List Pz} {xs:List V} {x3:Option V} {s s':ag} {y:V} {p:Pz} (aK:k<ps.length) (hp:ps[k]?=some p) (he:aj O s) (e:aj s s') (hq:s'[O.length]?=some (.list xs)) (hR:RL (RP s (Fo F O.length)) xs ((ps.take k).map (fP as))) (hy:RP s' (Fo F O.length) y (fP as p)):
  FI O F r a as ps (k+1) [some (.ref r),some (.ref a),some (.ref O.length),x3] (s'.set O.length (.list (xs++[y]))):=
 have kp:∀i c,Fo F O.length i→s'[i]?=some c→(s'.set O.length (.list (xs++[y])))[i]?=some c:=λi c hi g=>fQ g (hi.elim (λh=>Nat.ne_of_gt h.2) Nat.ne_of_lt)
 .mk aK ((he.trans e).set (adq _)) (de hq) (JW hp▸(hR.mono λv p h=>(h.keep (λi c _ g=>e.get g) λ_ h=>h).keep kp λ_ h=>h).push (hy.keep kp λ_ h=>h))
theorem FI.fin {F:Nat→Prop} {r a:Nat} {as:List A0} {ps:List Pz} {L:Locals} {s:ag} {C:Calls} (h:FI O F r a as ps ps.length L s) (c:C 31 [.ref r,.ref a] O= .ok (.ref O.length) s):tI C O F r a (ps.map (fP as)):=by
 cases h with
 |mk _ he hq hR=>exact ⟨s,_,c,he,hq,List.take_length (l:=ps)▸hR⟩
theorem Ib {F:Nat→Prop} {r a:Nat} {vs cc:List V} {ps:List Pz} {as:List A0} (hf:aq+100<fu) (g:O[r]?=some (.list vs)) (hR:RL (RP O F) vs ps) (ga:O[a]?=some (.list cc)) (hA:RL (dP O F) cc as) (hl:ps.length≤100) (hP:∀p∈ps,xV as.length p∧yv p (Ep (ay aw fu n) a cc as)):tI (ay aw fu (n+1)) O F r a (ps.map (fP as)):=
  (AE (o:=ay aw fu (n+1) 31 [.ref r,.ref a] O) (P:=λv s=>v= .ref O.length∧FI O F r a as ps ps.length [some (.ref r),some (.ref a),some (.ref O.length),none] s) (dY (L:=[some (.ref r),some (.ref a),none,none]) rfl rfl (by decide) rfl (aV rfl (qo ps.length (FI O F r a as ps) (adm hl (adm (Nat.le_add_left 100 aq) hf)) (aS rfl ⟨_,rfl,.mk (xs:=[]) (ads _) (aj.refl.push) bH .nil,λk L s K hK h=>by
  cases h with
  |mk hk he hq Du=>exact ⟨hk,bZ (jJ (he.get g)) (hR.item hk (λv p hp hr aK=> .more ⟨aK,by
    have o:=hP p (List.mem_of_getElem? hp)
    exact Z1 hf (adk (adt (Du.length.trans (List.length_map _))) (adk (List.length_take_le' _ _) hl)) hq (he.get ga) (hA.mono λv x h=>h.old.keep (λi c _ g=>he.get g) λ_ h=>h) (hr.old.keep (λi c _ g=>he.get g) λ_ h=>h) o.1 o.2 λs' y e h hy=>hK _ _ (.next aK hp he e h Du hy)⟩)
    λe=> .done (dp rfl (.ret ⟨rfl,e▸ .mk hk he hq Du⟩)))⟩⟩))))).elim λv h=>h.elim λs h=>h.2.2.fin (h.2.1▸h.1)
theorem RQ (hn:0<n) (hf:aq+100<fu) {a:Nat} {cc:List V} {as:List A0} {x:A0} (hx:wG as.length x):Ep (ay aw fu n) a cc as x:=match n,hn with
 |n+1,_=>λF q w s g hw ga hA=>Ib (ps:=[.a x]) hf g (.cons (.a _ _ hw) .nil) ga hA (by show 1≤100;decide) λp hp=>List.mem_singleton.1 hp▸⟨hx,trivial⟩
theorem RU {F:Nat→Prop} {r a:Nat} {vs cc:List V} {ps:List Pz} {as:List A0} (hn:0<n) (hf:aq+100<fu) (g:O[r]?=some (.list vs)) (hR:RL (RP O F) vs ps) (ga:O[a]?=some (.list cc)) (hA:RL (dP O F) cc as) (hl:ps.length≤100) (hP:∀p∈ps,xV as.length p):tI (ay aw fu (n+1)) O F r a (ps.map (fP as)):=
 Ib hf g hR ga hA hl λp hp=>⟨hP p hp,match p,hP p hp with
  | .a _,_=>trivial
  | .call _ _,h=>RQ hn hf h⟩
end
abbrev iW:=List (List Nat×List Pz)
structure LW where
 text:List Nat
 dT:List Nat
 aL:iW
 aM:Bool
 fault:Option (List Nat×Nat)
 bT:List (Nat×List Nat)
 room:Int
 uses:Nat
noncomputable def yn:Option (List Nat×Nat)→V
 |none=> .none
 |some (k,p)=> .tup [.str k,.int (p:Int)]
noncomputable def Ml:List Nat:=[116,101,120,116]
noncomputable def FG:List Nat:=[100,117,101]
noncomputable def yO:List Nat:=[109,97,99,114,111,115]
noncomputable def Eh:List Nat:=[97,99,116,105,118,101]
noncomputable def uk:List Nat:=[102,97,117,108,116]
noncomputable def Nw:List Nat:=[110,101,116,116,121,112,101,115]
noncomputable def zY:List Nat:=[114,111,111,109]
noncomputable def Dh:List Nat:=[117,115,101,115]
noncomputable def wD (W:LW):List (List Nat×V):=[(Ml,.str W.text),(FG,.str W.dT),(yO,.ref 3),(Eh,.bool W.aM),(uk,yn W.fault),(Nw,.ref 4),(zY,.int W.room),(Dh,.int (W.uses:Int))]
noncomputable def wC (W:LW):Cell:= .dict (wD W)
noncomputable def gC (i:Nat):Prop:=6≤i
noncomputable def j5 (O:ag) (v:V) (ps:List Pz):Prop:=∃r vs,v= .ref r∧6≤r∧O[r]?=some (.list vs)∧RL (RP O gC) vs ps
structure aZ (O:ag) (W:LW):Prop where
 w:O[5]?=some (wC W)
 m:∃es,O[3]?=some (.dict es)∧bo (j5 O) es W.aL
 n:O[4]?=some (.list (W.bT.map g8))
 p:dA O
 l:6≤O.length
noncomputable def Up (O af:ag):Prop:=O.length≤af.length∧∀i,i<O.length→6≤i→af[i]?=O[i]?
section
variable {O af io:ag} {W W':LW} {i x:Nat} {c d:Cell}
theorem Up.refl:Up O O:=⟨adq _,λ_ _ _=>rfl⟩
theorem Up.trans (h:Up O af) (h2:Up af io):Up O io:=⟨adk h.1 h2.1,λi hi h6=>(h2.2 i (adl hi h.1) h6).trans (h.2 i hi h6)⟩
theorem aj.up (h:aj O af):Up O af:=⟨h.1,λi hi _=>h.2 i hi⟩
theorem aT.up (h:aT x O af) (hx:x<6):Up O af:=⟨h.1,λi hi h6=>h.2 i hi (Nat.ne_of_gt (adl hx h6))⟩
theorem Up.get (h:Up O af) (g:O[i]?=some c) (h6:6≤i):af[i]?=some c:=(h.2 i (dE g) h6).trans g
theorem j5.up {v:V} {ps:List Pz} (h:j5 O v ps) (u:Up O af):j5 af v ps:=match h with
 |⟨r,vs,e,h1,h2,h3⟩=>⟨r,vs,e,h1,u.get h2 h1,h3.mono λv p h=>h.keep (λi c hi g=>u.get g hi) λ_ h=>h⟩
theorem aZ.move (h:aZ O W) (u:Up O af) (hw:af[5]?=some (wC W')) (h3:af[3]?=O[3]?) (h4:af[4]?=O[4]?) (p:dA af) (hm:W'.aL=W.aL) (hn:W'.bT=W.bT):aZ af W':=
 ⟨hw,h.m.elim λes e=>⟨es,h3.trans e.1,hm▸e.2.mono λv a r=>r.up u⟩,h4.trans (hn▸h.n),p,adk h.l u.1⟩
theorem rL {i:Nat} (h:aZ O W) (hi:i<6):i<O.length:=adl hi h.l
theorem aZ.ext (h:aZ O W) (e:aj O af):aZ af W:=h.move e.up (e.get h.w) (e.2 3 (rL h (by decide))) (e.2 4 (rL h (by decide))) (h.p.ext e) rfl rfl
theorem aZ.fV (h:aZ O W) (p:dA af) (e:aT 2 O af):aZ af W:=h.move (e.up (by decide)) (e.get h.w (by decide)) (e.2 3 (rL h (by decide)) (by decide)) (e.2 4 (rL h (by decide)) (by decide)) p rfl rfl
theorem aZ.wu (h:aZ O W) (e:aT 5 O af) (g:af[5]?=some (wC W')) (hm:W'.aL=W.aL) (hn:W'.bT=W.bT):aZ af W':=h.move (e.up (by decide)) g (e.2 3 (rL h (by decide)) (by decide)) (e.2 4 (rL h (by decide)) (by decide)) (h.p.keep e (by decide) (by decide)) hm hn
section
variable {C:Calls} {fu j:Nat} {L:Locals} {k:List Nat} {v old z:V} {op:BinOp} {e:E} {ss:Ss} {Q:Flow→Locals→ag→Prop} {X:aX→ag→Prop} {s:ag}
theorem w_get (h:O[5]?=some (wC W)) (hj:L.get j=some (.ref 5)) (g:dictGet (wD W) k=some v):ev C fu (.idx (.loc j) (.str k)) L O= .ok v O:=bj (dI hj) rfl (eM h g)
theorem D8 (h:aZ O W) (hp:dictPut (wD W) k z=wD W') (hm:W'.aL=W.aL) (hn:W'.bT=W.bT):jU O (.ref 5) (.str k) z=some (O.set 5 (wC W'))∧aT 5 O (O.set 5 (wC W'))∧aZ (O.set 5 (wC W')) W':=
 ⟨(tu h.w (by show 8<1000000;decide)).trans (congrArg (λl=>some (O.set 5 (.dict l))) hp),aT.refl.set,h.wu aT.refl.set (de h.w) hm hn⟩
theorem tT (h:aZ O W) (hj:L.get j=some (.ref 5)) (g:dictGet (wD W) k=some old) (he:ev C fu e L O= .ok v O) (ha:jf op O old v= .ok z O) (hp:dictPut (wD W) k z=wD W') (hm:W'.aL=W.aL) (hn:W'.bT=W.bT) (K:∀af,aT 5 O af→aZ af W'→Wq (ah C fu ss L af) Q X):
  Wq (ah C fu (.cons (.gY (.loc j) (.str k) op e) ss) L O) Q X:=have q:=D8 h hp hm hn
 AO (dI hj) rfl (eM h.w g) he ha q.1 (K _ q.2.1 q.2.2)
theorem uQ (h:aZ O W) (hj:L.get j=some (.ref 5)) (he:ev C fu e L s= .ok z O) (hp:dictPut (wD W) k z=wD W') (hm:W'.aL=W.aL) (hn:W'.bT=W.bT) (K:∀af,aT 5 O af→aZ af W'→Wq (ah C fu ss L af) Q X):
  Wq (ah C fu (.cons (.eH (.loc j) (.str k) e) ss) L s) Q X:=have q:=D8 h hp hm hn
 oM he (dI hj) rfl q.1 (K _ q.2.1 q.2.2)
end
end
noncomputable def LW.act (W:LW) (d:List Nat):List Nat:=if W.aM=true then d else List.replicate (d.count 10) 10
noncomputable def LW.emit (W:LW) (t d:List Nat):LW:={W with text:=W.text++t,dT:=W.dT++W.act d}
section
variable {fu n:Nat} {O:ag} {X:aX→ag→Prop} {Q:V→ag→Prop} {W:LW}
theorem tW {a b:List Nat} (h:(a++b).length≤aq):jf .add O (.str a) (.str b)= .ok (.str (a++b)) O:=nN (nJ h)
theorem vG (d:List Nat):(W.act d).length≤d.length:=gc (P:=λl:List Nat=>l.length≤d.length) (λ_=>adq _) λ_=>adk (adt List.length_replicate) wx
theorem AM {t d:List Nat} (h:aZ O W) (ht:(W.text++t).length≤aq) (hd:W.dT.length+d.length≤aq) (H:∀af,aZ af (W.emit t d)→Up O af→Q .none af):
  Wp (ay aw fu (n+1) 33 [.ref 5,.str t,.str d] O) Q X:=
 dY (L:=[some (.ref 5),some (.str t),some (.str d)]) rfl rfl (by decide) rfl (tT (W':={W with text:=W.text++t}) h rfl rfl rfl (tW ht) rfl rfl rfl λae e1 h1=>
  tT (W':=W.emit t d) (v:= .str (W.act d)) h1 rfl rfl (pL (t:=W.aM) (bj rfl rfl (eM h1.w rfl)) (λq=>congrArg (λl=>Out.ok (V.str l) ae) (if_pos q).symm) λq=>(bG rfl rfl (sQ (adk wx (adk (Nat.le_add_left _ _) hd)))).trans (congrArg (λl=>Out.ok (V.str l) ae) (if_neg (λc=>nomatch c.symm.trans q)).symm))
      (tW (adk (adt List.length_append) (adk (Nat.add_le_add_left (vG d) _) hd))) rfl rfl rfl λaz e2 h2=>bx (.next (H _ h2 ((e1.trans e2).up (by decide)))))
end
inductive EO (α:Type) where
 |ok (s:α) (u:Nat)
 |err (k:List Nat) (u:Nat)
abbrev ER:=EO (List Nat)
abbrev RR:=EO (List (List Nat))
noncomputable def EO.qb (f:List Nat→Nat→RR):ER→RR
 | .ok s u=>f s u
 | .err k u=> .err k u
noncomputable def EO.pre (l:List (List Nat)):RR→RR
 | .ok rows u=> .ok (l++rows) u
 | .err k u=> .err k u
noncomputable def EO.k7:RR→ER
 | .ok rows u=> .ok (cv [32] rows) u
 | .err k u=> .err k u
abbrev Go:=Nat→List Nat→List A0→ER
noncomputable def pN (go:Go) (u:Nat):Pz→ER
 | .a (.txt s)=> .ok s u
 | .a (.cW _)=> .ok [] u
 | .a (.use nm)=>go u nm []
 | .call nm x=>go u nm [x]
noncomputable def ft (go:Go):Nat→List Pz→RR
 |u,[]=> .ok [] u
 |u,p::r=>(pN go u p).qb λs u1=>(ft go u1 r).pre [s]
noncomputable def d7 (M:iW):Nat→Go
 |0,u,nm,_=>bK (a6 M nm) (.err mz u) λ_=> .err kJ (u+1)
 |f+1,u,nm,as=>bK (a6 M nm) (.err mz u) λps=>if 1000≤u then .err kJ (u+1) else (ft (d7 M f) (u+1) (ps.map (fP as))).k7
noncomputable def cnt (nm:List Nat):Nat:=if nm=nF then 1 else if nm=nG then 2 else 0
noncomputable def mB:List (List Nat):=vn++[[107],[55],[117],[34,41,44,32,34],[40,49,44,32,50,41]]
noncomputable def ja:List (List Nat):=[nA,nB,nC]
noncomputable def hZ:List (List Nat):=[nA,nB,nC,nF,nG]
noncomputable def ir:A0→Prop
 | .txt s=>s∈mB
 | .cW _=>False
 | .use nm=>nm∈ja
noncomputable def kj:Pz→Prop
 | .a x=>ir x
 | .call nm x=>nm=nF∧ir x
noncomputable def iA (c:Nat):A0→Prop
 | .cW i=>i<c
 |x=>ir x
noncomputable def l9 (c:Nat):Pz→Prop
 | .a x=>iA c x
 | .call nm x=>nm=nF∧iA c x
structure yX (nm:List Nat) (ps:List Pz):Prop where
 n:nm∈hZ
 l:ps.length≤3
 p:∀p∈ps,l9 (cnt nm) p
noncomputable def gH (M:iW):Prop:=∀x∈M,yX x.1 x.2
structure jl (nm:List Nat) (as:List A0):Prop where
 m:nm∈hZ
 g:∀x∈as,ir x
 l:as.length=cnt nm
theorem DZ {P:List Nat→Prop} (h1:P nA) (h2:P nB) (h3:P nC):∀nm∈ja,P nm:=List.forall_mem_cons.2 ⟨h1,List.forall_mem_cons.2 ⟨h2,List.forall_mem_cons.2 ⟨h3,λ_ h=>nomatch h⟩⟩⟩
theorem tj:∀nm∈ja,jl nm []:=DZ ⟨.head _,(λ_ h=>nomatch h),rfl⟩ ⟨.tail _ (.head _),(λ_ h=>nomatch h),rfl⟩ ⟨.tail _ (.tail _ (.head _)),(λ_ h=>nomatch h),rfl⟩
theorem uw {x:A0} (h:ir x):jl nF [x]:=⟨.tail _ (.tail _ (.tail _ (.head _))),λy hy=>List.mem_singleton.1 hy▸h,rfl⟩
theorem kj.el {P:Pz→Prop}:∀{p:Pz},kj p→(∀s,s∈mB→P (.a (.txt s)))→(∀nm,nm∈ja→P (.a (.use nm)))→(∀x,ir x→P (.call nF x))→P p
 | .a (.txt s),h,h1,_,_=>h1 s h
 | .a (.use nm),h,_,h1,_=>h1 nm h
 | .call nm x,h,_,_,h1=>h.1▸h1 x h.2
theorem r8 {α:Type} {k:List Nat} {v:α}:∀{l:List (List Nat×α)},a6 l k=some v→(k,v)∈l
 |(x,u)::r,h=>xc h (λq h=>q▸Option.some.inj h▸List.mem_cons_self) λ_ h=>List.mem_cons_of_mem _ (r8 h)
section
variable {as:List A0} (ha:∀x∈as,ir x)
include ha
theorem yJ:∀{x:A0},iA as.length x→ir (fA as x)∧wG as.length x
 | .cW i,h=>⟨by
   show ir (as.getD i (.txt []))
   rw [List.getD_eq_getElem?_getD,List.getElem?_eq_getElem h]
   exact ha _ (List.getElem_mem _),h⟩
 | .txt _,h | .use _,h=>⟨h,trivial⟩
theorem Mk:∀{p:Pz},l9 as.length p→kj (fP as p)∧xV as.length p
 | .a _,h=>yJ ha h
 | .call _ _,h=>⟨⟨h.1,(yJ ha h.2).1⟩,(yJ ha h.2).2⟩
theorem ye {ps:List Pz} (h:∀p∈ps,l9 as.length p):∀p∈ps.map (fP as),kj p:=λ_ hp=>match List.mem_map.1 hp with
 |⟨q,hq,e⟩=>e▸(Mk ha (h q hq)).1
end
theorem bp {a b:Bool} (h:(a&&b)=true):a=true:=by cases a;cases h;rfl
theorem aW {a b:Bool} (h:(a&&b)=true):b=true:=by cases a;cases h;exact h
theorem sd {s:List Nat} (h:s∈mB):s.length≤6∧a9 s:=
 have q:=List.all_eq_true.1 (show mB.all (λs=>decide (s.length≤6)&&s.all λc=>decide (c<128))=true by decide) s h
 ⟨ado (bp q),cy (aW q)⟩
section
variable {M:iW} {f u:Nat} {nm:List Nat} {as:List A0} {go:Go} {p:Pz} {r:List Pz}
@[elab_as_elim] theorem rJ {P:ER→Prop} (h1:a6 M nm=none→P (.err mz u)) (h2:∀ps,a6 M nm=some ps→f=0∨1000≤u→P (.err kJ (u+1))) (h3:∀ps g,a6 M nm=some ps→f=g+1→¬1000≤u→P (ft (d7 M g) (u+1) (ps.map (fP as))).k7):P (d7 M f u nm as):=match f,h2,h3 with
 |0,h2,_=>by
  show P (bK (a6 M nm) _ _)
  cases h:a6 M nm with
  |none=>exact h1 h
  |some ps=>exact h2 ps h (.inl rfl)
 |f+1,h2,h3=>by
  show P (bK (a6 M nm) _ λps=>if 1000≤u then .err kJ (u+1) else (ft (d7 M f) (u+1) (ps.map (fP as))).k7)
  cases h:a6 M nm with
  |none=>exact h1 h
  |some ps=>exact gc (λq=>h2 ps h (.inr q)) λq=>h3 ps f h rfl q
@[elab_as_elim] theorem G4 {P:RR→Prop} {o:ER} {k:List Nat→Nat→RR} (h1:∀e u1,o= .err e u1→P (.err e u1)) (h2:∀s u1,o= .ok s u1→P (k s u1)):P (o.qb k):=match o,h1,h2 with
 | .err e u1,h1,_=>h1 e u1 rfl
 | .ok s u1,_,h2=>h2 s u1 rfl
noncomputable def mN (u:Nat):ER→Prop
 | .ok s u1=>s.length+40*u+10≤40*u1∧u1≤1000
 | .err _ _=>True
noncomputable def qE (u n:Nat):RR→Prop
 | .ok rows u1=>rows.flatten.length+rows.length+40*u≤40*u1+8*n∧u≤u1∧u1≤1000
 | .err _ _=>True
theorem xd:∀rows:List (List Nat),(cv [32] rows).length≤rows.flatten.length+rows.length
 |[]=>ads _
 |[x]=>Nat.le_succ_of_le (adt (congrArg List.length (List.append_nil x).symm))
 |x::y::r=>by
  rw [show cv [32] (x::y::r)=x++[32]++cv [32] (y::r) from rfl,show (x::y::r).flatten=x++(y::r).flatten from rfl,List.append_assoc,List.length_append,List.length_append,List.length_append,Nat.add_assoc]
  exact Nat.add_le_add_left (adk (Nat.add_le_add_left (xd (y::r)) 1) (adt (Nat.add_comm 1 _))) _
theorem LH {n u1:Nat} {s:List Nat} (h1:s.length+40*u≤40*u1+7) (h2:u≤u1):∀{R:RR},qE u1 n R→qE u (n+1) (R.pre [s])
 | .ok rows u2,h=>⟨by
   have a:=h.1
   show (s++rows.flatten).length+(rows.length+1)+40*u≤40*u2+8*(n+1)
   rw [List.length_append];omega,adk h2 h.2.1,h.2.2⟩
 | .err _ _,_=>trivial
theorem B2 {s:List Nat} {u1:Nat} (h:mN u (.ok s u1)):s.length+40*u≤40*u1+7∧u≤u1:=⟨adk (adk (adn _ _) h.1) (adn _ _),Nat.le_of_mul_le_mul_left (adk (adk (Nat.le_add_left _ _) (adn _ _)) h.1) (by decide)⟩
noncomputable def Bk (go:Go):Prop:=∀u nm as,jl nm as→mN u (go u nm as)
theorem EZ (jI:Bk go):∀(ps:List Pz) (u:Nat),u≤1000→(∀p∈ps,kj p)→qE u ps.length (ft go u ps)
 |[],u,hu,_=>⟨adt (Nat.zero_add _),adq _,hu⟩
 |p::r,u,hu,hp=>
  have ih:=λu hu=>EZ jI r u hu λq hq=>hp q (.tail _ hq)
  have use:∀nm as,jl nm as→qE u (r.length+1) ((go u nm as).qb λs u1=>(ft go u1 r).pre [s]):=λnm as h=>G4 (λ_ _ _=>trivial) λs u1 e=>have l:mN u (.ok s u1):=e▸jI u nm as h;LH (B2 l).1 (B2 l).2 (ih u1 l.2)
  (hp p (.head _)).el (P:=λp=>qE u (r.length+1) (ft go u (p::r))) (λs hs=>LH (Nat.add_comm s.length _▸Nat.add_le_add_left (Nat.le_succ_of_le (sd hs).1) _) (adq _) (ih u hu)) (λnm h=>use nm [] (tj nm h)) λx h=>use nF [x] (uw h)
theorem aaG {n:Nat} (hn:n≤3):∀{R:RR},qE (u+1) n R→mN u R.k7
 | .ok rows u2,h=>⟨by
   have a:=h.1
   have j:=xd rows
   show (cv [32] rows).length+40*u+10≤40*u2
   omega,h.2.2⟩
 | .err _ _,_=>trivial
theorem rD (hM:gH M):∀f,Bk (d7 M f):=λf=>by
 induction f with
 |zero=>exact λu nm as h=>rJ (λ_=>trivial) (λ_ _ _=>trivial) λ_ _ _ e=>nomatch e
 |succ f ih=>exact λu nm as h=>rJ (λ_=>trivial) (λ_ _ _=>trivial) λps g hg e hu=>have m:=hM _ (r8 hg)
   Nat.succ.inj e▸aaG (adk (adt (List.length_map _)) m.l) (EZ ih _ _ (Nat.lt_of_not_le hu) (ye h.g (h.l.symm▸m.p)))
end
noncomputable def lh (O:ag) (W:LW) (Q:V→ag→Prop):ER→Prop
 | .ok s u=>∀af,aT 5 O af→af[5]?=some (wC {W with uses:=u})→Q (.tup [.str s,.str []]) af
 | .err k u=>k≠[]→∀af,aT 5 O af→af[5]?=some (wC {W with uses:=u})→Q (.tup [.none,.str k]) af
noncomputable def lN (C:Calls) (f:Nat):Prop:=∀(O:ag) (W:LW) (nm:List Nat) (a d:Nat) (cc:List V) (as:List A0) (Q:V→ag→Prop) (X:aX→ag→Prop),aZ O W→gH W.aL→O[a]?=some (.list cc)→6≤a→RL (dP O gC) cc as→jl nm as→f+d=20→
 lh O W Q (d7 W.aL f W.uses nm as)→Wp (C 32 [.ref 5,.str nm,.ref a,.int (d:Int)] O) Q X
noncomputable def vq (nm:List Nat) (a d m:Nat) (x5 x6 x7:Option V):Locals:=[some (.ref 5),some (.str nm),some (.ref a),some (.int (d:Int)),some (.ref m),x5,x6,x7]
noncomputable def Fe (m i:Nat):Prop:=6≤i∧i≠m
abbrev bE:Ss:=EQ
structure hO (go:Go) (O:ag) (W:LW) (Q:V→ag→Prop) (m:Nat) (gm:List V) (dC:List Pz) (k u:Nat) (rows:List (List Nat)) (s:ag):Prop where
 e:aT 5 O s
 w:s[5]?=some (wC {W with uses:=u})
 q:s[m]?=some (.list (rows.map .str))
 v:s[m+1]?=some (.list gm)
 R:RL (RP s (Fe m)) gm dC
 l:rows.length=k
 kl:k≤dC.length
 f:rows.flatten.length≤40000*k
 ul:u≤1000
 hE:lh O W Q ((ft go u (dC.drop k)).pre rows).k7
inductive EI (go:Go) (O:ag) (W:LW) (Q:V→ag→Prop) (nm:List Nat) (a d m:Nat) (gm:List V) (dC:List Pz) (k:Nat):Locals→ag→Prop where
 |mk {u:Nat} {rows:List (List Nat)} {x5 x6 x7:Option V} {s:ag} (h:hO go O W Q m gm dC k u rows s):EI go O W Q nm a d m gm dC k (vq nm a d m x5 x6 x7) s
theorem Qd {a b:List (List Nat)}:∀{R:RR},(R.pre b).pre a=R.pre (a++b)
 | .ok _ _=>congrArg (EO.ok · _) (List.append_assoc ..).symm
 | .err _ _=>rfl
section
variable {fu n:Nat} {X:aX→ag→Prop} {Q:V→ag→Prop} {go:Go} {O s s':ag} {W:LW} {m k u u1 a d:Nat} {nm:List Nat} {gm:List V} {dC:List Pz} {rows:List (List Nat)} {K:Locals→ag→Prop} {ss:Ss} {R:Flow→Locals→ag→Prop}
theorem hO.next {t:List Nat} (h:hO go O W Q m gm dC k u rows s) (hm:6≤m) (aK:k<dC.length) (pj:O.length≤m) (e:aT 5 s s') (w:s'[5]?=some (wC {W with uses:=u1})) (ht:t.length≤40000) (hu:u1≤1000) (hE:lh O W Q (((ft go u1 (dC.drop (k+1))).pre [t]).pre rows).k7):hO go O W Q m gm dC (k+1) u1 (rows++[t]) (s'.set m (.list ((rows++[t]).map .str))):=
 have n5:m≠5:=Nat.ne_of_gt (adl (by decide) hm)
 ⟨(h.e.trans e).qS pj,fQ w n5,de (e.get h.q n5),fQ (e.get h.v (Nat.ne_of_gt (adl (by decide) (Nat.le_succ_of_le hm)))) (Nat.ne_of_lt (adu m)),h.R.mono λv p r=>r.keep (λi c hi g=>fQ (e.get g (Nat.ne_of_gt (adl (by decide) hi.1))) (Ne.symm hi.2)) λ_ h=>h,
    (List.length_append.trans (congrArg (· +1) h.l)),aK,nz rows t▸List.length_append (as:=rows.flatten)▸Nat.mul_succ .. ▸Nat.add_le_add h.f ht,hu,Qd (a:=rows) (b:=[t])▸hE⟩
theorem E6 (h:hO go O W Q m gm dC k u rows s) (hl:dC.length≤3):(rows.map V.str).length<aq:=LV (adk (adt h.l) (adk h.kl (adk hl (by decide))))
theorem JC {t:List Nat} (g:s[m]?=some (.list (rows.map .str))) (hl:(rows.map V.str).length<aq):fM .append s (.ref m) [.str t]= .ok .none (s.set m (.list ((rows++[t]).map .str))):=vQ rows t▸ip g hl
theorem CA {b:Bool} (h:(!b)=false):b=true:=by cases b;cases h;rfl
theorem He {f b:Nat} {Cp:List V} {bs:List A0} {mm:List Nat} {x6 x7:Option V} (hC:lN (ay aw fu n) f) (hW:aZ O W) (hM:gH W.aL) (hm:6≤m) (pj:O.length≤m) (hl:dC.length≤3) (aK:k<dC.length) (gP:f+(d+1)=20) (h:hO (d7 W.aL f) O W Q m gm dC k u rows s)
    (hb:s[b]?=some (.list Cp)) (aas:6≤b) (hB:RL (dP s gC) Cp bs) (g:jl mm bs) (hE:lh O W Q ((((d7 W.aL f u mm bs).qb λt u1=>(ft (d7 W.aL f) u1 (dC.drop (k+1))).pre [t]).pre rows).k7)) (hK:∀L s,EI (d7 W.aL f) O W Q nm a d m gm dC (k+1) L s→K L s):
  Wq (ah (ay aw fu n) fu (fK (bf 4 bE)) (vq nm a d m (some (.tup [.str lE,.str mm,.ref b])) x6 x7) s) (Lp (ay aw fu n) fu ss (bL Q) X K) X:=by
 refine fz rfl (zE rfl (hC s {W with uses:=u} mm b (d+1) Cp bs _ X (hW.wu h.e h.w rfl rfl) hM hb aas hB g gP ?_))
 have le:=rD hM f u mm bs g
 show lh s _ _ (d7 W.aL f u mm bs)
 generalize d7 W.aL f u mm bs=o at hE le ⊢
 cases o with
 |ok t u1=>exact λs' e w=>⟨rfl,.mk (cg rfl (dR (iQ rfl (e.get h.q (Nat.ne_of_gt (adl (by decide) hm))) rfl (JC (e.get h.q (Nat.ne_of_gt (adl (by decide) hm))) (E6 h hl))) (jk (hK _ _ (.mk (h.next hm aK pj e w (adk (adk (adk (adn _ _) (adn _ _)) le.1) (Nat.mul_le_mul_left 40 le.2)) le.2 hE))))))⟩
 |err k2 u1=>exact λhk s' e w=>⟨rfl,.mk (fB (aO rfl rfl m9) (λ_=>dp rfl (.ret (.ret (.ret (.ret (hE hk _ (h.e.trans e) w)))))) λq=>absurd (ado (CA q)) hk)⟩
theorem aaD {f:Nat} {v:V} {p:Pz} {x6 x7:Option V} (hC:lN (ay aw fu n) f) (hW:aZ O W) (hM:gH W.aL) (hm:6≤m) (pj:O.length≤m) (hl:dC.length≤3) (aK:k<dC.length) (gP:f+(d+1)=20) (h:hO (d7 W.aL f) O W Q m gm dC k u rows s)
    (hK:∀L s,EI (d7 W.aL f) O W Q nm a d m gm dC (k+1) L s→K L s) (hr:RP s (Fe m) v p):kj p→lh O W Q (((ft (d7 W.aL f) u (p::dC.drop (k+1))).pre rows).k7)→
  Wq (ah (ay aw fu n) fu (fK (bf 4 bE)) (vq nm a d m (some v) x6 x7) s) (Lp (ay aw fu n) fu ss (bL Q) X K) X:=
 hr.el (λv x hr=>hr.el (λt ht hE=>cO rfl (dR (iQ rfl h.q rfl (JC h.q (E6 h hl))) (jk (hK _ _ (.mk (h.next hm aK pj .refl h.w (adk (sd ht).1 (by decide)) h.ul hE))))))
    (λ_ h=>h.elim) λmm b hb g hp hE=>He hC hW hM hm pj hl aK gP h g hb.1 .nil (tj mm hp) hE hK) λmm x b q w hb g hq gq hw hp hE=>
   He hC hW hM hm pj hl aK gP h g hb.1 (.cons ⟨q,w,rfl,hq.1,gq,hw.keep (λ_ _ _ g=>g) λ_ h=>h.1⟩ .nil) (hp.1▸uw hp.2) hE hK
theorem WX {α:Type} {l:List α} {k:Nat} {p:α} (h:l[k]?=some p):l.drop k=p::l.drop (k+1):=match List.getElem?_eq_some_iff.1 h with
 |⟨q,e⟩=>(List.drop_eq_getElem_cons q).trans (congrArg (· ::_) e)
theorem N7:∀{R:RR},R.pre []=R
 | .ok _ _=>rfl
 | .err _ _=>rfl
theorem SK (h:hO go O W Q m gm dC k u rows s) (e:k=dC.length):lh O W Q (.ok (cv [32] rows) u):=by
 have:=h.hE
 rw [e,List.drop_length] at this
 exact List.append_nil rows▸this
theorem Zk (h:hO go O W Q m gm dC k u rows s) (hl:dC.length≤3):(cv [32] rows).length+[32].length≤aq:=
 have hk:=adk h.kl hl
 adk (Nat.add_le_add_right (adk (xd rows) (Nat.add_le_add (adk h.f (Nat.mul_le_mul_left 40000 hk)) (h.l▸hk))) 1) (dm▸by decide)
theorem PM {g r:Nat} {vs cc:List V} {as:List A0} {ps:List Pz} {es:List (List Nat×V)} (hn:0<n) (hf:aq+100<fu) (hC:lN (ay aw fu (n+1)) g) (h:aZ O W) (hM:gH W.aL) (ga:O[a]?=some (.list cc)) (h6:6≤a) (hA:RL (dP O gC) cc as) (hG:jl nm as) (gP:g+1+d=20) (fb:O[3]?=some (.dict es)) (mj:dictGet es nm=some (.ref r)) (CY:6≤r) (oS:O[r]?=some (.list vs)) (hR:RL (RP O gC) vs ps) (m:yX nm ps) (hu:¬1000≤W.uses)
    (e2:aT 5 O s) (w2:s[5]?=some (wC {W with uses:=W.uses+1})) (q2:s[O.length]?=some (.list [])) (l2:s.length=O.length+1) (hE:lh O W Q (ft (d7 W.aL g) (W.uses+1) (ps.map (fP as))).k7):Wq (ah (ay aw fu (n+1)) fu (bf 4 bE) (vq nm a d O.length none none none) s) (bL Q) X:=by
 have F1:∀i c,(gC i∧i<O.length)→O[i]?=some c→s[i]?=some c:=λi c hi g=>e2.get g (Nat.ne_of_gt (adl (by decide:5<6) hi.1))
 cases RU (fu:=fu) (n:=n) (O:=s) (F:=λi=>gC i∧i<O.length) hn hf (F1 _ _ ⟨CY,dE oS⟩ oS) (hR.mono λv p h=>h.old.keep F1 λ_ h=>h) (F1 _ _ ⟨h6,dE ga⟩ ga) (hA.mono λv x h=>h.old.keep F1 λ_ h=>h) (adk m.l (by decide)) λp hp=>(Mk hG.g (hG.l.symm▸m.p p hp)).2 with
 |mk cN gm Mc x3 Lf EC=>
  rw [l2] at Mc Lf EC
  have hl:(ps.map (fP as)).length≤3:=(List.length_map (fP as)).symm▸m.l
  have KP:=ye hG.g (hG.l.symm▸m.p)
  generalize ps.map (fP as)=dC at EC hl KP hE
  exact qo dC.length (EI (d7 W.aL g) O W Q nm a d O.length gm dC) (adm hl (adm (adk (by decide) (Nat.le_add_left 100 aq)) hf)) (aS (eg (aJ (bj (bj rfl rfl (eM w2 rfl)) rfl (eM (e2.get fb (by decide)) mj)) (aJ rfl rfl)) Mc) ⟨_,rfl,.mk (u:=W.uses+1) (rows:=[]) ⟨e2.trans x3.toT,x3.get w2,x3.get q2,Lf,EC.mono λv p r=>r.keep (λ_ _ _ g=>g) λi hi=>hi.elim (λh=>⟨h.1.1,Nat.ne_of_lt h.1.2⟩) λq=>⟨adk h.l (Nat.le_of_lt (Nat.lt_of_succ_lt q)),Nat.ne_of_gt (Nat.lt_of_succ_lt q)⟩,rfl,ads _,adq _,Nat.lt_of_not_le hu,(N7 (R:=ft (d7 W.aL g) (W.uses+1) dC)).symm▸hE⟩,λk L s K hK hI=>by
   cases hI with
   |@mk u rows _ _ _ _ hx=>exact ⟨hx.kl,bZ (jJ hx.v) (hx.R.item hx.kl (λv p hp hr aK=> .more ⟨aK,aaD hC h hM h.l (adq _) hl aK ((Nat.add_right_comm g 1 d).symm.trans gP) hx hK hr (KP p (List.mem_of_getElem? hp)) (WX hp▸hx.hE)⟩) λe=> .done (dp (og (aJ (jz rfl rfl rfl (qI hx.q (Zk hx hl))) rfl)) (.ret (SK hx e _ hx.e hx.w))))⟩⟩)
theorem j5.el {O:ag} {v:V} {ps:List Pz} {P:Prop} (h:j5 O v ps) (k:∀r vs,v= .ref r→6≤r→O[r]?=some (.list vs)→RL (RP O gC) vs ps→P):P:=h.elim λr h=>h.elim λvs h=>k r vs h.1 h.2.1 h.2.2.1 h.2.2.2
theorem KD {d u:Nat}:(decide ((20:Int)≤(d:Int))||decide ((1000:Int)<((u+1:Nat):Int)))=decide (20≤d∨1000≤u):=by
 rw [Bool.eq_iff_iff,Bool.or_eq_true,decide_eq_true_eq,decide_eq_true_eq,decide_eq_true_eq]
 exact or_congr Int.ofNat_le (Int.ofNat_lt.trans Nat.lt_succ_iff)
theorem KS {x4 x5 x6 x7:Option V} {R:Flow→Locals→ag→Prop} {C:Calls} (h:aZ O W) (K:∀s,aT 5 O s→s[5]?=some (wC {W with uses:=W.uses+1})→s.length=O.length→Wq (ah C fu (fK (bf 2 bE)) [some (.ref 5),some (.str nm),some (.ref a),some (.int (d:Int)),x4,x5,x6,x7] s) (Nx C fu (bf 3 bE) R X) X∧(20≤d∨1000≤W.uses)∨Wq (ah C fu (bf 3 bE) [some (.ref 5),some (.str nm),some (.ref a),some (.int (d:Int)),x4,x5,x6,x7] s) R X∧¬(20≤d∨1000≤W.uses)):
  Wq (ah C fu (bf 1 bE) [some (.ref 5),some (.str nm),some (.ref a),some (.int (d:Int)),x4,x5,x6,x7] O) R X:=
 have q:=D8 (k:=Dh) (z:= .int ((W.uses+1:Nat):Int)) (W':={W with uses:=W.uses+1}) h rfl rfl rfl
 AO rfl rfl (eM h.w rfl) rfl rfl q.1 ((K _ q.2.1 q.2.2.w List.length_set).elim (λk=>cO ((oN (jL (aO rfl rfl Lm) (jT (aO (bj rfl rfl (eM q.2.2.w rfl)) rfl lZ)))).trans (congrArg (λb=>Out.ok (V.bool b) _) (KD.trans (decide_eq_true k.2)))) k.1)
    λk=>cg ((oN (jL (aO rfl rfl Lm) (jT (aO (bj rfl rfl (eM q.2.2.w rfl)) rfl lZ)))).trans (congrArg (λb=>Out.ok (V.bool b) _) (KD.trans (decide_eq_false k.2)))) k.1)
theorem Nr {g:Nat} (h:g+1+d=20) (q:20≤d):False:=Nat.not_succ_le_self d (adk (adk (adt (Nat.add_comm d 1)) (Nat.add_le_add_right (Nat.le_add_left 1 g) d)) (h▸q))
theorem Gw {f:Nat} (hn:0<n) (hf:aq+100<fu) (hC:∀g,f=g+1→lN (ay aw fu (n+1)) g):lN (ay aw fu (n+2)) f:=λO W nm a d cc as Q X h hM ga h6 hA hG gP hE=>h.m.elim λes hm=>by
 have cn:ev (ay aw fu (n+1)) fu (.cmp .ix (.loc 1) (.idx (.loc 0) (.str yO))) [some (.ref 5),some (.str nm),some (.ref a),some (.int (d:Int)),none,none,none,none] O= .ok (.bool (!(a6 W.aL nm).isSome)) O:=
  aO rfl (bj rfl rfl (eM h.w rfl)) (BM (by rw [wz hm.1,hm.2.isSome]))
 refine dY (L:=[some (.ref 5),some (.str nm),some (.ref a),some (.int (d:Int)),none,none,none,none]) rfl rfl (by decide) rfl ?_
 revert hE
 refine rJ (P:=λr=>lh O W Q r→_) (λg hE=>cO (cn.trans (by rw [g];rfl)) (dp rfl (.ret (.ret (hE (by decide) _ .refl h.w))))) (λps g hq hE=>cg (cn.trans (by rw [g];rfl)) (KS h λs e w _=> .inl ⟨dp rfl (.ret (.ret (hE (by decide) _ e w))),hq.imp_left λe=>?_⟩)) λps g hg ef hu hE=>?_
 ·rw [e,Nat.zero_add] at gP;exact adt gP.symm
 ·have hC:=hC g ef
  rw [ef] at gP
  exact (hm.2.some hg).elim λmv mj=>mj.2.el λr vs Yn CY oS hR=>cg (cn.trans (by rw [hg];rfl)) (KS h λs e w l=> .inr ⟨aV rfl (l.symm▸PM hn hf hC h hM ga h6 hA hG gP hm.1 (Yn▸mj.1) CY oS hR (hM _ (r8 hg)) hu (e.trans (aj.refl.push).toT) (mh w) (l▸bH) (kW.trans (congrArg (· +1) l)) hE),λq=>q.elim (Nr gP) hu⟩)
end
noncomputable def uL:List (List Nat):=[[117],[34,41,44,32,34],[40,49,44,32,50,41]]
noncomputable def gQ:A0→Prop
 | .txt s=>s∈uL
 | .cW _=>False
 | .use nm=>nm=nA
structure Ye (x:A0):Prop where
 g:ir x
 o:qu x
 l:(wA x).length≤6
theorem Bh:∀s∈uL,s∈mB:=List.forall_mem_cons.2 ⟨by decide,List.forall_mem_cons.2 ⟨by decide,List.forall_mem_cons.2 ⟨by decide,λ_ h=>nomatch h⟩⟩⟩
theorem gQ.nV:∀{x:A0},gQ x→Ye x
 | .use _,h=>h▸⟨.head _,cy rfl,by decide⟩
 | .txt s,h=>⟨Bh s h,(sd (Bh s h)).2,(sd (Bh s h)).1⟩
noncomputable def rI:List Nat:=[32,47,42,32,44,32,42,47,44]
noncomputable def uZ (wide:Bool):List Nat:=if wide=true then [32,10,40,32] else [40]
noncomputable def sW (as:List A0) (wide:Bool):List Nat:=uZ wide++cv rI (as.map wA)++[32,41]
noncomputable def kF (nm:List Nat):List A0→Bool→List Nat
 |[],_=>96::nm
 |x::r,wide=>96::nm++sW (x::r) wide
noncomputable def wN:Bool→Nat
 |true=>1
 |false=>0
inductive gw:List Nat→List A0→Bool→Prop where
 |none {nm:List Nat}:nm∈ja→gw nm [] false
 |one {x:A0} {wide:Bool}:gQ x→gw nF [x] wide
 |two {x y:A0} {wide:Bool}:gQ x→gQ y→gw nG [x,y] wide
noncomputable def jC (W:LW) (nm:List Nat) (as:List A0):ER:=if W.aM=true then d7 W.aL 20 W.uses nm as else .ok [] W.uses
noncomputable def vL (W:LW) (row:List Nat) (w:Nat):ER→LW
 | .ok s u=>({W with uses:=u}:LW).emit row (s++dW w)
 | .err k u=>({W with uses:=u,fault:=some (k,W.text.length)}:LW).emit row ([]++dW w)
noncomputable def td (W:LW) (nm:List Nat) (as:List A0) (wide:Bool):LW:=vL W (kF nm as wide) (wN wide) (jC W nm as)
theorem gw.good {nm:List Nat} {as:List A0} {wide:Bool} (h:gw nm as wide):jl nm as:=by
 cases h with
 |none h=>exact tj _ h
 |one h=>exact uw h.nV.g
 |two h h2=>exact ⟨.tail _ (.tail _ (.tail _ (.tail _ (.head _)))),List.forall_mem_cons.2 ⟨h.nV.g,λz hz=>List.mem_singleton.1 hz▸h2.nV.g⟩,rfl⟩
theorem JK:∀nm∈ja,nm.length=1:=DZ rfl rfl rfl
theorem Fm {nm a b:List Nat} {k j:Nat} (hn:nm.length=1) (ha:a.length≤k) (hb:b.length≤j) (h:k+j≤50):(96::nm++(a++b++[32,41])).length≤60:=by
 rw [List.length_append,List.length_append,List.length_append,List.length_cons,hn]
 exact adk (Nat.add_le_add_left (Nat.add_le_add_right (adk (Nat.add_le_add ha hb) h) 2) 2) (by decide)
theorem Kr:∀{w:Bool},(uZ w).length≤4
 |true=>by decide
 |false=>by decide
theorem DC {nm:List Nat} {as:List A0} {wide:Bool} (h:gw nm as wide):(kF nm as wide).length≤60:=by
 cases h with
 |none h=>exact adk (adt (congrArg (· +1) (JK _ h))) (by decide)
 |one h=>exact Fm (k:=4) rfl Kr h.nV.l (by decide)
 |@two x y w h h2=>exact Fm (k:=4) (j:=21) rfl Kr (by
   rw [show cv rI ([x,y].map wA)=wA x++rI++wA y from rfl,List.length_append,List.length_append]
   exact Nat.add_le_add (Nat.add_le_add_right h.nV.l 9) h2.nV.l) (by decide)
theorem RL.inv {α:Type} {R:V→α→Prop} {vs:List V} {a:α} {l:List α} {P:Prop} (h:RL R vs (a::l)) (k:∀v kN,vs=v::kN→R v a→RL R kN l→P):P:=by
 cases h with
 |cons r h=>exact k _ _ rfl r h
@[elab_as_elim] theorem Gv {α:Type} {P:List α→Prop} {l:List α} (e:l.length=1) (h:∀x,P [x]):P l:=match l,e with
 |[x],_=>h x
@[elab_as_elim] theorem Ji {α:Type} {P:List α→Prop} {l:List α} (e:l.length=2) (h:∀x y,P [x,y]):P l:=match l,e with
 |[x,y],_=>h x y
theorem cP {P:Nat→Prop} {n:Nat} (h:P n) (r:∀k,k<n→P k):∀k,k<n+1→P k:=λk q=>(Nat.lt_succ_iff_lt_or_eq.1 q).elim (r k) λe=>e▸h
theorem iE {P:Nat→Prop} (k:Nat) (h:k<0):P k:=absurd h (Nat.not_lt_zero k)
section
variable {fu n:Nat} {O s:ag} {X:aX→ag→Prop} {Q:V→ag→Prop} {W:LW}
theorem EH {N:Nat} {f:V→ag→Out V} (I:Nat→List V→ag→Prop) (hl:∀i ys s,I i ys s→ys.length≤1000) (step:∀i ys s,i<N→I i ys s→Wp (f (.int (i:Int)) s) (λy s'=>I (i+1) (ys++[y]) s') λ_ _=>False):
  ∀(m i:Nat) (ys:List V) (s:ag),N<m+i→i≤N→I i ys s→∃xj s',fy (gv (N:Int)) f m i ys s=some (xj,s')∧I N xj s'
 |0,i,_,_,h,hi,_=>absurd (adl h (adk (adt (Nat.zero_add i)) hi)) (Nat.lt_irrefl _)
 |m+1,i,ys,s,h,hi,hI=>(Nat.lt_or_eq_of_le hi).elim (λq=>(AE (step i ys s q hI)).elim λy e=>e.elim λs' e=>(EH I hl step m (i+1) _ s' (Nat.add_right_comm m 1 i▸h) q e.2).elim λxj r=>r.elim λs2 r=>
   ⟨xj,s2,(yx (Dn q) e.1 (adm (hl _ _ _ hI) (dm▸by decide))).trans r.1,r.2⟩) λq=>⟨ys,s,xX (show gv (N:Int) i s=some none from q▸Ag),(q▸hI:I N ys s)⟩
theorem Zj {α:Type} {k:Int} {d:α} {f:Int→α}:(V.int k).cE d f=f k:=rfl
theorem Zp {C:Calls} {L:Locals} {bc e:E} {caps:List Nat} {N:Nat} {s s':ag} {ys:List V} (h1:ev C fu e L O= .ok (.int (N:Int)) s) (hN:N≤1000) (h2:fy (gv (N:Int)) (λv s=>ev C fu bc (some v::caps.map L.get) s) fu 0 [] s=some (ys,s')):
  ev C fu (.jw bc caps e) L O= .ok (.ref s'.length) (s'++[Cell.list ys]):=
 have hs:smallInt (N:Int)=true:=yZ (Int.lt_of_le_of_lt (Int.ofNat_le.2 hN) (by decide))
 cY h1 (Zj.trans (by rw [if_pos hs,h2];rfl))
theorem Sx {F:Nat→Prop} {a:Nat} {cc:List V} {as:List A0} {L:Locals} {e:E} {caps:List Nat} (hf:aq+100<fu) (ga:s[a]?=some (.list cc)) (hA:RL (dP s F) cc as) (hg:∀x∈as,gQ x) (hl:as.length=1∨as.length=2) (he:ev (ay aw fu (n+1)) fu e L s= .ok (.ref a) s):
  ∃s',ev (ay aw fu (n+1)) fu (.comp (.call 30 (.cons (.loc 0) .nil)) caps e) L s= .ok (.ref s'.length) (s'++[Cell.list ((as.map wA).map .str)])∧aj s s':=by
 have one:∀{x v s1},gQ x→aj s s1→dP s F v x→∃s',ev (ay aw fu (n+1)) fu (.call 30 (.cons (.loc 0) .nil)) (some v::caps.map L.get) s1= .ok (.str (wA x)) s'∧aj s1 s':=λ{x v s1} hx e1 h=>by
  cases h with
  |mk q w e f g r=>
   exact (Lh (Nat.succ_pos n) hf hx.nV.o (adk hx.nV.l (by decide)) q w s1 (e1.get g) (r.keep (λi c _ g=>e1.get g) λ_ h=>h)).elim λs2 h=>⟨s2,eg (by rw [e];rfl) h.1,h.2⟩
 revert hA hg
 exact hl.elim (λe=>Gv (P:=λas=>RL (dP s F) cc as→(∀x∈as,gQ x)→∃s',ev (ay aw fu (n+1)) fu (.comp (.call 30 (.cons (.loc 0) .nil)) caps _) L s= .ok (.ref s'.length) (s'++[Cell.list ((as.map wA).map .str)])∧aj s s') e λx hA hg=>hA.one λv e hv=>(one (hg x (.head _)) .refl hv).elim λs' h=>⟨s',BN hf he (e▸ga) h.1 h.2,h.2⟩)
    λe=>Ji (P:=λas=>RL (dP s F) cc as→(∀x∈as,gQ x)→∃s',ev (ay aw fu (n+1)) fu (.comp (.call 30 (.cons (.loc 0) .nil)) caps _) L s= .ok (.ref s'.length) (s'++[Cell.list ((as.map wA).map .str)])∧aj s s') e λx y hA hg=>hA.inv λv vs e hv h=>h.one λv2 e2 CD=>have ga:s[a]?=some (.list [v,v2]):=e2▸e▸ga
      (one (hg x (.head _)) .refl hv).elim λs1 h1=>(one (hg y (.tail _ (.head _))) h1.2 CD).elim λs2 h2=>⟨s2,aak hf he ga h1.1 h1.2 h2.1 h2.2,h1.2.trans h2.2⟩
abbrev bU:Ss:=Ir
noncomputable def je (kd t:Nat) (nm:List Nat) (a w:Nat) (row:List Nat) (x8 x9 fD:Option V):Locals:=[some (.ref 2),some (.ref 5),some (.int (kd:Int)),some (.int (t:Int)),some (.str nm),some (.ref a),some (.int (w:Int)),some (.str row),x8,x9,fD]
section
variable {kd a w:Nat} {nm row:List Nat} {x8 fD:Option V}
theorem Jf {d:List Nat} {t9:V} {t:Nat} (h:aZ s W) (ht:W.text.length≤100000) (hd:W.dT.length≤200000) (hr:row.length≤60) (hw:w≤1) (Hl:d.length≤40000) (he:ev (ay aw fu (n+1)) fu (.ite (.cmp .is (.loc 9) .none) (.str []) (.loc 9)) (je kd t nm a w row x8 (some t9) fD) s= .ok (.str d) s)
    (H:∀af,aZ af (W.emit row (d++dW w))→Up s af→Q .none af):Wq (ah (ay aw fu (n+1)) fu (bf 10 bU) (je kd t nm a w row x8 (some t9) fD) s) (bL Q) X:=
 have dl:(d++dW w).length≤40001:=by rw [List.length_append,dW,List.length_replicate];exact Nat.add_le_add Hl hw
 kI (aJ rfl (aJ rfl (aJ (bG he (bG rfl rfl (sQ (adk hw (dm▸by decide)))) (nJ (adk dl (dm▸by decide)))) rfl))) (AM h (List.length_append▸adk (Nat.add_le_add ht hr) (dm▸by decide)) (adk (Nat.add_le_add hd dl) (dm▸by decide)) λaf h2 u=>bx (.next (H _ h2 u)))
variable (h:aZ s W) (ht:W.text.length≤100000) (hd:W.dT.length≤200000) (hr:row.length≤60) (hw:w≤1)
include h ht hd hr hw
theorem Gj {r:ER} (dy:mN W.uses r∨r= .ok [] W.uses) (K:(∀af,aZ af (vL W row w r)→Up s af→Q .none af)):lh s W (λv s'=>∀y9 qZ,v= .tup [y9,qZ]→Wq (ah (ay aw fu (n+1)) fu (bf 9 bU) (je kd W.text.length nm a w row x8 (some y9) (some qZ)) s') (bL Q) X) r:=match r,dy,K with
 | .ok t u,hl,K=>λs' e g y9 qZ ev=>by
  cases ev
  have h2:aZ s' {W with uses:=u}:=h.wu e g rfl rfl
  exact cg rfl (Jf h2 ht hd hr hw (hl.elim (λl=>adk (adk (adk (adn _ _) (adn _ _)) l.1) (Nat.mul_le_mul_left 40 l.2)) λe=>by cases e;exact ads _) rfl λaf h3 u3=>K af h3 ((e.up (by decide)).trans u3))
 | .err k u,_,K=>λhk s' e g y9 qZ ev=>by
  cases ev
  have h2:aZ s' {W with uses:=u}:=h.wu e g rfl rfl
  exact fB (aO rfl rfl m9) (λ_=>uQ (W':={W with uses:=u,fault:=some (k,W.text.length)}) h2 rfl rfl rfl rfl rfl λae e1 h3=>n1 (Jf (d:=[]) h3 ht hd hr hw (ads _) rfl λaf h4 u4=>K af h4 (((e.trans e1).up (by decide)).trans u4))) λq=>absurd (ado (CA q)) hk
theorem Td {as:List A0} {cc:List V} (hG:jl nm as) (hM:gH W.aL) (hE:lN (ay aw fu (n+1)) 20) (ga:s[a]?=some (.list cc)) (h6:6≤a) (hA:RL (dP s gC) cc as) (H:∀af,aZ af (vL W row w (jC W nm as))→Up s af→Q .none af):
  Wq (ah (ay aw fu (n+1)) fu (bf 7 bU) (je kd W.text.length nm a w row x8 none none) s) (bL Q) X:=
 ww rfl rfl (fB (w_get h.w rfl rfl) (λact=>zE rfl (hE s W nm a 0 cc as _ X h hM ga h6 hA hG rfl (by
   have e:jC W nm as=d7 W.aL 20 W.uses nm as:=if_pos act
   have T:=Gj (fu:=fu) (n:=n) (X:=X) (kd:=kd) (nm:=nm) (a:=a) (x8:=x8) h ht hd hr hw (.inl (rD hM 20 W.uses nm as hG)) (e▸H)
   revert T
   generalize d7 W.aL 20 W.uses nm as=r
   cases r with
   |ok t u=>exact λT s' e g=>⟨rfl,.mk (n1 (T s' e g _ _ rfl))⟩
   |err k u=>exact λT hk s' e g=>⟨rfl,.mk (n1 (T hk s' e g _ _ rfl))⟩))) λact=>n1 (Gj (r:= .ok [] W.uses) h ht hd hr hw (.inr rfl) (by
   have e:jC W nm as= .ok [] W.uses:=if_neg (λq=>nomatch q.symm.trans act)
   exact e▸H) s .refl h.w _ _ rfl))
end
end
structure rH (kd:Nat) (nm:List Nat):Prop where
 m:nm∈hZ
 l:nm.length=1
 k:(kd<3∧nm∈ja∧cnt nm=0)∨kd=cnt nm+2∧(cnt nm=1∧nm=nF∨cnt nm=2∧nm=nG)
noncomputable def Kd (kd:Nat):Prop:=∃nm,(∀s,dh s (.str [65,66,67,70,71]) (.int (kd:Int))=some (.str nm))∧rH kd nm
theorem LF:∀kd,kd<5→Kd kd:=cP ⟨nG,λ_=>rfl,.tail _ (.tail _ (.tail _ (.tail _ (.head _)))),rfl,.inr ⟨rfl,.inr ⟨rfl,rfl⟩⟩⟩ (cP ⟨nF,λ_=>rfl,.tail _ (.tail _ (.tail _ (.head _))),rfl,.inr ⟨rfl,.inl ⟨rfl,rfl⟩⟩⟩
  (cP ⟨nC,λ_=>rfl,.tail _ (.tail _ (.head _)),rfl,.inl ⟨by decide,.tail _ (.tail _ (.head _)),rfl⟩⟩ (cP ⟨nB,λ_=>rfl,.tail _ (.head _),rfl,.inl ⟨by decide,.tail _ (.head _),rfl⟩⟩ (cP ⟨nA,λ_=>rfl,.head _,rfl,.inl ⟨by decide,.head _,rfl⟩⟩ iE))))
theorem Wo {nm:List Nat} {as:List A0} {wide:Bool} (h:cnt nm=1∧nm=nF∨cnt nm=2∧nm=nG) (hl:as.length=cnt nm):(∀x∈as,gQ x)→gw nm as wide∧kF nm as wide=96::nm++sW as wide:=h.elim (λh=>Gv (hl.trans h.1) λx hg=>⟨h.2.symm▸ .one (hg x (.head _)),rfl⟩)
  λh=>Ji (hl.trans h.1) λx y hg=>⟨h.2.symm▸ .two (hg x (.head _)) (hg y (.tail _ (.head _))),rfl⟩
section
variable {fu n:Nat} {O s:ag} {X:aX→ag→Prop} {Q:V→ag→Prop} {W:LW} {R:Flow→Locals→ag→Prop} {ss:Ss}
noncomputable def Em (t:List Nat):V:= .tup [.str qB,.str t]
abbrev K5:E:= .list (.cons (.idx (.list (.cons (.tup (.cons (.str [116,101,120,116]) (.cons (.str [117]) .nil))) (.cons (.tup (.cons (.str [116,101,120,116]) (.cons (.str [34,41,44,32,34]) .nil))) (.cons (.tup (.cons (.str [116,101,120,116]) (.cons (.str [40,49,44,32,50,41]) .nil))) .nil)))) (.call 28 (.cons (.loc 1) (.cons (.int 3) .nil)))) .nil)
theorem Oa {L:Locals} (hn:0<n) (hP:dA s) (h6:6≤s.length) (l1:L.get 1=some (.ref 2)) (H:∀s' v x,gQ x→dP s' gC v x→dA s'→aT 2 s s'→Q v s'):Wp (ev (ay aw fu n) fu K5 L s) Q X:=by
 have x1:=(aj.refl (O:=s)).push (d:= .list (uL.map Em))
 have h2:2<s.length:=adl (by decide) h6
 refine NS (hV (lV (aS rfl (eE (aS (aJ (dI l1) rfl) (eG (b:=3) hn (by decide) (by decide) (hP.ext x1) λr s1 hr ew e1=>(u7 (f:=Em) (xs:=uL) hr).elim λt ht=>bZ (eA (e1.get bH (Nat.ne_of_gt h2)) ht.2) (mJ ?_)))))))
 have x2:=(aj.refl (O:=s1)).push (d:= .list [Em t])
 exact H _ _ (.txt t) ht.1 ⟨s1.length,_,rfl,adk h6 (adk x1.1 e1.1),bH,.txt t⟩ (ew.ext x2) ((x1.toT.trans e1).trans x2.toT)
structure Kk (O:ag) (N:Nat) (ys:List V) (as:List A0) (s:ag):Prop where
 P:dA s
 e:aT 2 O s
 R:RL (dP s gC) ys as
 l:as.length=N
 u:∀x∈as,gQ x
theorem RL.some {α:Type} {R:V→α→Prop} {vs:List V} {l:List α} (h:RL R vs l) (hl:l≠[]):∃v kN a l',vs=v::kN∧l=a::l'∧RL R kN l':=by
 cases h with
 |nil=>exact absurd rfl hl
 |cons _ h=>exact ⟨_,_,_,_,rfl,rfl,h⟩
theorem oi {i:Nat} (h:gC i):i≠2:=Nat.ne_of_gt (adl (by decide) h)
theorem Yp {N:Nat} {L:Locals} (hN:N≤2) (hf:aq+100<fu) (hn:0<n) (hP:dA s) (h6:6≤s.length) (l1:L.get 0=some (.ref 2)):∃ys s',fy (gv (N:Int)) (λv s=>ev (ay aw fu n) fu K5 (some v::[0].map L.get) s) fu 0 [] s=some (ys,s')∧∃as,Kk s N ys as s':=
 EH (λi ys s'=>i≤N∧∃as,Kk s i ys as s') (λi ys s' h=>h.2.elim λas a=>adk (adt (a.R.length.trans a.l)) (adk h.1 (adk hN (by decide)))) (λi ys s1 hi h=>h.2.elim λas a=>Oa hn a.P (adk h6 a.e.1) l1 λs' v x hx hv tB e=>⟨hi,as++[x],tB,a.e.trans e,(a.R.mono λv y hy=>hy.keep (λi c hi g=>e.get g (oi hi)) λ_ h=>h).push hv,List.length_append.trans (congrArg (· +1) a.l),λy hy=>(List.mem_append.1 hy).elim (a.u y) λhy=>List.mem_singleton.1 hy▸hx⟩) fu 0 [] s (adm hN (adm (adk (by decide) (Nat.le_add_left 100 aq)) hf)) (ads _) ⟨ads _,[],hP,.refl,.nil,rfl,λ_ h=>nomatch h⟩ |>.imp λys h=>h.imp λs' h=>⟨h.1,h.2.2⟩
theorem OM {nm:List Nat} {as:List A0} {wide:Bool} (h:(96::nm++sW as wide).length≤60):(sW as wide).length≤60∧(uZ wide++cv rI (as.map wA)).length≤60∧(cv rI (as.map wA)).length≤60:=by
 rw [List.length_append] at h
 have h1:=adk (Nat.le_add_left _ _) h
 have h2:=h1
 rw [sW,List.length_append] at h2
 have h3:=adk (adn _ _) h2
 exact ⟨h1,h3,adk (Nat.le_add_left _ _) (List.length_append (as:=uZ wide)▸h3)⟩
theorem CK {a b:List Nat} (h:(a++b).length≤60):(a++b).length≤aq:=adk h (dm▸by decide)
abbrev E9:Ss:=fK (bf 6 bU)
theorem G6 {kd t a:Nat} {nm:List Nat} {as:List A0} {cc:List V} (hf:aq+100<fu) (hP:dA s) (ga:s[a]?=some (.list cc)) (h6:6≤a) (hA:RL (dP s gC) cc as) (hc:cnt nm=1∧nm=nF∨cnt nm=2∧nm=nG) (hl:as.length=cnt nm) (hg:∀x∈as,gQ x)
    (K:∀s' wide x8,gw nm as wide→dA s'→aT 2 s s'→s'[a]?=some (.list cc)→RL (dP s' gC) cc as→R .next (je kd t nm a (wN wide) (kF nm as wide) x8 none none) s'):Wq (ah (ay aw fu (n+1)) fu (bf 2 E9) (je kd t nm a 0 (96::nm) none none none) s) R X:=by
 refine e7 (xA (eE (aS rfl (eG (b:=3) (Nat.succ_pos n) (by decide) (by decide) hP λr s1 _ ew e1=>aS rfl (bZ oD ?_)))))
 show Wq (ah _ fu _ (je kd t nm a 0 (96::nm) (some (.bool (decide ((r:Int)=2)))) none none) s1) R X
 generalize decide ((r:Int)=2)=wide
 have hu:=Wo (wide:=wide) hc hl hg
 have HJ:=hu.2▸DC hu.1
 have b:=OM HJ
 have Gl:=e1.get ga (oi h6)
 have o9:RL (dP s1 gC) cc as:=hA.mono λv x hx=>hx.keep (λi c hi g=>e1.get g (oi hi)) λ_ h=>h
 refine aV (v:= .int (wN wide:Int)) (match wide with
  |true=>rfl
  |false=>rfl) ?_
 exact (Sx (n:=n) (L:=je kd t nm a (wN wide) (96::nm) (some (.bool wide)) none none) (caps:=[]) (e:= .loc 5) hf Gl o9 hg (hc.imp (λh=>hl.trans h.1) λh=>hl.trans h.1) rfl).elim λs2 h2=>have x2:=h2.2.push (d:= .list ((as.map wA).map .str))
  xw rfl (bG (bG (y:= .str (cv rI (as.map wA))) (x:= .str (uZ wide)) (match wide with
  |true=>rfl
  |false=>rfl) (jz rfl rfl (aJ h2.1 rfl) (qI bH (adk (Nat.add_le_add_right b.2.2 9) (dm▸by decide)))) (nJ (CK b.2.1))) rfl (nJ (CK b.1))) (tW (CK HJ)) rfl (bx (hu.2▸K _ wide _ hu.1 (ew.ext x2) (e1.trans x2.toT) (x2.get Gl) (o9.mono λv x hx=>hx.keep (λi c _ g=>x2.get g) λ_ h=>h)))
theorem Vl {kd t a0:Nat} {nm:List Nat} (hf:aq+100<fu) (hP:dA s) (h6:6≤s.length) (hk:kd=cnt nm+2) (hc:cnt nm=1∧nm=nF∨cnt nm=2∧nm=nG)
    (K:∀s' a as cc wide x8,gw nm as wide→dA s'→aT 2 s s'→s'[a]?=some (.list cc)→6≤a→RL (dP s' gC) cc as→R .next (je kd t nm a (wN wide) (kF nm as wide) x8 none none) s'):Wq (ah (ay aw fu (n+1)) fu E9 (je kd t nm a0 0 (96::nm) none none none) s) R X:=by
 have xn:cnt nm≤2:=hc.elim (λh=>adk (adt h.1) (by decide)) λh=>adt h.1
 refine (Yp (n:=n+1) (L:=je kd t nm a0 0 (96::nm) none none none) xn hf (Nat.succ_pos n) hP h6 rfl).elim λys h=>h.elim λs1 h=>h.2.elim λas a=>ZR (aS (Zp (N:=cnt nm) (bG rfl rfl (vr.trans (by rw [hk,Int.natCast_add];exact congrArg (λi=>some (V.int i)) (Int.add_sub_cancel ..)))) (adk xn (by decide)) h.1) ?_)
 have x2:=(aj.refl (O:=s1)).push (d:= .list ys)
 have l6:=adk h6 a.e.1
 have ga:(s1++[Cell.list ys])[s1.length]?=some (.list ys):=bH
 have j2:(s1++[Cell.list ys]).length=s1.length+1:=kW
 have gM:=a.P.ext x2
 have e2:=a.e.trans x2.toT
 have hA:RL (dP (s1++[Cell.list ys]) (Fe s1.length)) ys as:=a.R.mono λv x hx=>hx.old.keep (λi c _ g=>x2.get g) λi hi=>⟨hi.1,Nat.ne_of_lt hi.2⟩
 show Wq (ah _ fu _ (je kd t nm s1.length 0 (96::nm) none none none) _) R X
 generalize s1++[Cell.list ys]=s2 at ga j2 gM e2 hA ⊢
 refine mL (xA (eE (aS rfl (eG (b:=3) (Nat.succ_pos n) (by decide) (by decide) gM λr s3 _ j9 e3=>aS rfl (bZ oD (.mk (r6 (λ_=>?_) λ_=>n1 (G6 hf j9 (e3.get ga (oi l6)) l6 (hA.mono λv x hx=>hx.keep (λi c hi g=>e3.get g (oi hi.1)) λ_ h=>h.1) hc a.l a.u λs' wide x8 hi tB e' g' By=>K s' _ as ys wide x8 hi tB ((e2.trans e3).trans e') g' l6 By))))))))
 have y1:=(aj.refl (O:=s3)).push (d:= .list [])
 have y2:=y1.push (d:= .list [.tup [.str lE,.str nA,.ref s3.length]])
 have Aj:=e3.get ga (oi l6)
 have l3:=dE Aj
 have BQ:RL (dP s3 (Fe s1.length)) ys as:=hA.mono λv x hx=>hx.keep (λi c hi g=>e3.get g (oi hi.1)) λ_ h=>h
 refine (RL.some BQ (List.ne_nil_of_length_pos (a.l▸hc.elim (λh=>h.1▸by decide) λh=>h.1▸by decide))).elim λv e=>e.elim λvs e=>e.elim λx e=>e.elim λr e=>?_
 have ev:=e.1
 have hr:=e.2.2
 have al:=e.2.1▸a.l
 have au:∀y∈x::r,gQ y:=e.2.1▸a.u
 subst ev
 have z:∀i c,Fe s1.length i→(s3++[Cell.list []]++[Cell.list [.tup [.str lE,.str nA,.ref s3.length]]])[i]?=some c→((s3++[Cell.list []]++[Cell.list [.tup [.str lE,.str nA,.ref s3.length]]]).set s1.length (.list (.ref (s3++[Cell.list []]).length::vs)))[i]?=some c:=λi c hi g=>fQ g (Ne.symm hi.2)
 have f0:Fe s1.length s3.length:=⟨adk l6 (Nat.le_of_lt l3),Nat.ne_of_gt l3⟩
 have f1:Fe s1.length (s3++[Cell.list []]).length:=kW.symm▸⟨Nat.le_succ_of_le f0.1,Nat.ne_of_gt (Nat.lt_succ_of_lt l3)⟩
 exact oM rfl rfl rfl (uA (i:=0) (y2.get Aj) (Nat.succ_pos _)) (n1 (G6 (as:= .use nA::r) hf ((j9.ext y2).keep aT.refl.set (Nat.ne_of_gt (adl (by decide) l6)) (oi l6)) (de (y2.get Aj)) l6 (.cons ⟨_,_,rfl,f1.1,z _ _ f1 bH,.use nA s3.length f0.1 (z _ _ f0 (mh bH))⟩ (hr.mono λv x hx=>hx.keep (λi c hi g=>z i c hi (y2.get g)) λ_ h=>h.1)) hc al (List.forall_mem_cons.2 ⟨rfl,λy hy=>au y (.tail _ hy)⟩)
    λs' wide x8 hi tB e' g' By=>K s' _ _ _ wide x8 hi tB ((((e2.trans e3).trans y2.toT).qS a.e.1).trans e') g' l6 By))
theorem Rm (hf:aq+100<fu) (h:aZ O W) (hM:gH W.aL) (hE:lN (ay aw fu (n+1)) 20) (ht:W.text.length≤100000) (hd:W.dT.length≤200000)
    (H:∀nm as wide af,gw nm as wide→aZ af (td W nm as wide)→Up O af→Q .none af):Wp (ay aw fu (n+2) 34 [.ref 2,.ref 5] O) Q X:=by
 refine dY (L:=[some (.ref 2),some (.ref 5),none,none,none,none,none,none,none,none,none]) rfl rfl (by decide) rfl (oy rfl (eG (b:=5) (Nat.succ_pos n) (by decide) (by decide) h.p λkd s1 uV ew e1=>(LF kd uV).elim λnm hn=>?_))
 have h1:=h.fV ew e1
 have x2:=(aj.refl (O:=s1)).push (d:= .list [])
 have fin:∀s' a as cc wide x8,gw nm as wide→dA s'→aT 2 (s1++[Cell.list []]) s'→s'[a]?=some (.list cc)→6≤a→RL (dP s' gC) cc as→Wq (ah (ay aw fu (n+1)) fu (bf 7 bU) (je kd W.text.length nm a (wN wide) (kF nm as wide) x8 none none) s') (bL Q) X:=λs' a as cc wide x8 hi hP e ga h6 hA=>
  have e:=(e1.trans x2.toT).trans e
  Td (h.fV hP e) ht hd (DC hi) (match wide with
  |true=>by decide
  |false=>by decide) hi.good hM hE ga h6 hA λaf h' u=>H nm as wide af hi h' ((e.up (by decide)).trans u)
 refine aV (fq (aJ (w_get h1.w rfl rfl) rfl) oX) (aV (bj rfl rfl (hn.1 _)) (aV rfl (aV rfl (aV (bG rfl rfl (nJ (a:=[96]) (b:=nm) (adk (adt (congrArg (· +1) hn.2.l)) (dm▸by decide)))) (hn.2.k.elim (λq=>fz ((aO rfl rfl lZ).trans (congrArg (λb=>Out.ok (V.bool b) _) (decide_eq_false (Int.not_lt.2 (Int.ofNat_le.2 (Nat.le_of_lt_succ q.1)))))) (n1 (fin _ _ [] [] false none (.none q.2.1) (ew.ext x2) .refl bH h1.l .nil))) λq=>
  cO ((aO rfl rfl lZ).trans (congrArg (λb=>Out.ok (V.bool b) _) (decide_eq_true (Int.ofNat_lt.2 (q.1▸Nat.lt_add_of_pos_left (q.2.elim (λh=>h.1▸by decide) λh=>h.1▸by decide)))))) (Vl hf (ew.ext x2) (adk h1.l x2.1) q.1 q.2 λs' a as cc wide x8 hi hP e ga h6 hA=> .next (fin s' a as cc wide x8 hi hP e ga h6 hA)))))))
end
noncomputable def xu:List (List Nat):=[[],[40,112,41],[40,32,112,32,44,32,113,32,41]]
noncomputable def oO (c:Nat):List Nat:=xu.getD c []
noncomputable def gB (nm:List Nat):List Nat:=[96,100,101,102,105,110,101,32]++nm++oO (cnt nm)++[32]
noncomputable def fw (way:Nat):List Nat:=if way=1 then [92,10] else if way=2 then [47,42,32,112,32,42,47] else []
noncomputable def qA (way:Nat):List Nat:=if way=1 then [32,47,47,32,96,65,10] else if way=2 then [32,92,10,32,10] else [10]
noncomputable def iR (way:Nat):List Nat:=if way=1 then [10,10] else if way=2 then [10,10] else [10]
noncomputable def fX (nm:List Nat) (ps:List Pz) (way:Nat):List Nat:=gB nm++fw way++bq ps++qA way
noncomputable def LW.qJ (W:LW) (nm:List Nat) (ps:List Pz):LW:={W with aL:=dZ W.aL nm ps}
noncomputable def sC (W:LW) (nm:List Nat) (ps:List Pz) (way:Nat):LW:=if W.aM=true then (W.emit (fX nm ps way) (iR way)).qJ nm ps else W.emit (fX nm ps way) (iR way)
structure O3 (c:Nat) (p:Pz):Prop where
 o:yc p
 l:(wP p).length≤6
 i:l9 c p
theorem V2:∀nm∈ja,a9 nm:=DZ (cy rfl) (cy rfl) (cy rfl)
theorem iF.facts {c:Nat} {p:Pz} (hc:c≤2) (h:iF c p):O3 c p:=by
 cases h with
 |txt hs=>exact have g:=List.mem_append_left _ hs;⟨(sd g).2,(sd g).1,g⟩
 |cW hi=>exact ⟨adl hi hc,by show 1≤6;decide,hi⟩
 |use hn=>exact ⟨V2 _ hn,adk (adt (congrArg (· +1) (JK _ hn))) (by decide),hn⟩
 |Iv h0=>exact ⟨⟨Nat.zero_lt_succ 1,cy rfl⟩,by decide,rfl,h0⟩
 |J1 h0=>exact ⟨⟨cy rfl,cy rfl⟩,by decide,rfl,show [107]∈mB by decide⟩
theorem JX {b:Nat}:∀{ps:List Pz},(∀p∈ps,(wP p).length≤b)→(ps.map wP).flatten.length≤b*ps.length
 |[],_=>ads _
 |p::r,h=>by
  rw [show ((p::r).map wP).flatten=wP p++(r.map wP).flatten from rfl,List.length_append,List.length_cons,Nat.mul_succ,Nat.add_comm]
  exact Nat.add_le_add (JX λq hq=>h q (.tail _ hq)) (h p (.head _))
theorem BS {b:Nat} {ps:List Pz} (h:∀p∈ps,(wP p).length≤b) (hl:ps.length≤3):(bq ps).length≤b*3+3:=adk (xd (ps.map wP)) (Nat.add_le_add (adk (JX h) (Nat.mul_le_mul_left b hl)) (adk (adt (List.length_map _)) hl))
section
variable {fu n:Nat} {O:ag} {X:aX→ag→Prop} {Q:V→ag→Prop} {W:LW} {kd:Nat} {nm:List Nat}
theorem aZ.qJ {ps:List Pz} {es:List (List Nat×V)} {v:V} (h:aZ O W) (fb:O[3]?=some (.dict es)) (pE:bo (j5 O) es W.aL) (hv:j5 O v ps):aZ (O.set 3 (.dict (dictPut es nm v))) (W.qJ nm ps)∧Up O (O.set 3 (.dict (dictPut es nm v))):=
 have e:aT 3 O (O.set 3 (.dict (dictPut es nm v))):=aT.refl.set
 have u:=e.up (by decide)
 ⟨⟨e.get h.w (by decide),⟨_,de fb,(pE.put hv).mono λv a r=>r.up u⟩,e.get h.n (by decide),h.p.keep e (by decide) (by decide),adk h.l e.1⟩,u⟩
theorem R6 {s:ag} (h:rH kd nm):mI .max s [.int 0,.int ((kd:Int)-2)]= .ok (.int (cnt nm:Int)) s:=congrArg (λi=>Out.ok (V.int i) s) (by
 have:=h.k
 show (if (0:Int)<(kd:Int)-2 then (kd:Int)-2 else 0)=_
 split<;>omega)
theorem Rx:∀c,c<3→(xu.map V.str)[c]?=some (.str (oO c)):=cP rfl (cP rfl (cP rfl iE))
theorem PB:∀c,c<3→(oO c).length≤9:=cP (by decide) (cP (by decide) (cP (by decide) iE))
theorem rH.c3 (h:rH kd nm):cnt nm<3:=h.k.elim (λh=>h.2.2▸by decide) λh=>h.2.elim (λh=>h.1▸by decide) λh=>h.1▸by decide
theorem Li (h:rH kd nm):(gB nm).length≤20:=by
 rw [gB,List.length_append,List.length_append,List.length_append,h.l]
 exact Nat.add_le_add_right (Nat.add_le_add_left (PB _ h.c3) 9) 1|>λq=>adk q (by decide)
theorem JL:∀way,way<3→(fw way).length≤7∧(qA way).length≤7∧(iR way).length≤2:=cP (by decide) (cP (by decide) (cP (by decide) iE))
structure LP (nm:List Nat) (ps:List Pz) (way:Nat):Prop where
 a:(gB nm++fw way).length≤100
 b:(gB nm++fw way++bq ps).length≤100
 c:(fX nm ps way).length≤100
theorem Og {ps:List Pz} {way:Nat} (h:rH kd nm) (hw:(bq ps).length≤24) (hy:way<3):LP nm ps way:=by
 have h1:=Li h
 have y:=JL way hy
 have a:(gB nm++fw way).length≤27:=List.length_append (as:=gB nm)▸Nat.add_le_add h1 y.1
 have b:(gB nm++fw way++bq ps).length≤51:=List.length_append (as:=gB nm++fw way)▸Nat.add_le_add a hw
 exact ⟨adk a (by decide),adk b (by decide),adk (List.length_append (as:=gB nm++fw way++bq ps)▸Nat.add_le_add b y.2.1) (by decide)⟩
noncomputable def C9 (kd:Nat) (nm:List Nat) (r:Nat) (ps:List Pz) (way:Nat):Locals:=[some (.ref 2),some (.ref 5),some (.int (kd:Int)),some (.int (cnt nm:Int)),some (.str nm),some (.ref r),some (.str (gB nm)),some (.str (bq ps)),some (.int (way:Int))]
abbrev zW:Ss:=LU
theorem kz {a b:List Nat} (h:(a++b).length≤100):eW .add (.str a) (.str b)=some (.str (a++b)):=pR h
theorem SM {r:Nat} {ps:List Pz} {way:Nat} {R:Flow→Locals→ag→Prop} (hy:way<3) (h:aZ O W) (hl:LP nm ps way) (ht:W.text.length≤100000) (hd:W.dT.length≤200000)
    (K:∀s,aZ s (W.emit (fX nm ps way) (iR way))→Up O s→Wq (ah (ay aw fu (n+1)) fu (bf 8 zW) (C9 kd nm r ps way) s) R X):Wq (ah (ay aw fu (n+1)) fu (bf 7 zW) (C9 kd nm r ps way) O) R X:=by
 have em:∀{L:Locals} {P:V→ag→Prop},(∀s,aZ s (W.emit (fX nm ps way) (iR way))→Up O s→P .none s)→Wp (ay aw fu (n+1) 33 [.ref 5,.str (fX nm ps way),.str (iR way)] O) P X:=λk=>AM h (List.length_append▸adk (Nat.add_le_add ht hl.c) (dm▸by decide)) (adk (Nat.add_le_add hd (JL way hy).2.2) (dm▸by decide)) k
 refine eQ (aO rfl rfl (kQ (b:=1))) (λe=>?_) λe=>eQ (aO rfl rfl (kQ (b:=2))) (λe=>?_) λe2=>?_
 ·subst e
  exact kI (aJ rfl (aJ (bG (bG (bG rfl rfl (kz hl.a)) rfl (kz hl.b)) rfl (kz hl.c)) rfl)) (em (L:=[]) λs w u=>n1 (K s w u))
 ·subst e
  exact kI (aJ rfl (aJ (bG (bG (bG rfl rfl (kz hl.a)) rfl (kz hl.b)) rfl (kz hl.c)) rfl)) (em (L:=[]) λs w u=>n2 (K s w u))
 ·have a:fw way=[]:=(if_neg e).trans (if_neg e2)
  have b:qA way=[10]:=(if_neg e).trans (if_neg e2)
  have c:iR way=[10]:=(if_neg e).trans (if_neg e2)
  have hb:=hl.b
  have hc:=hl.c
  have hd:fX nm ps way=gB nm++bq ps++[10]:=by rw [fX,a,b,List.append_nil]
  rw [a,List.append_nil] at hb
  rw [hd] at hc
  exact kI (aJ rfl (aJ (bG (bG rfl rfl (kz hb)) rfl (kz hc)) rfl)) (hd▸c▸em (L:=[]) λs w u=>n2 (K s w u))
theorem M1 {ps:List Pz} {way:Nat} (h:W.aM=true):sC W nm ps way=(W.emit (fX nm ps way) (iR way)).qJ nm ps:=if_pos h
theorem IC {ps:List Pz} {way:Nat} (h:W.aM=false):sC W nm ps way=W.emit (fX nm ps way) (iR way):=if_neg λc=>nomatch c.symm.trans h
theorem ZQ {r:Nat} {ps:List Pz} {way:Nat} (h:aZ O (W.emit (fX nm ps way) (iR way))) (tV:W.aL.length≤10000) (hM:j5 O (.ref r) ps) (H:∀af,aZ af (sC W nm ps way)→Up O af→Q .none af):Wq (ah (ay aw fu (n+1)) fu (bf 8 zW) (C9 kd nm r ps way) O) (bL Q) X:=
 fB (w_get h.w rfl rfl) (λq=>h.m.elim λes m=>have w2:=h.qJ (nm:=nm) m.1 m.2 hM
  oM rfl (bj rfl rfl (eM h.w rfl)) rfl (tu m.1 (adm (adk (adt m.2.length) tV) (by decide))) (n1 (bx (.next (H _ ((M1 (W:=W) q).symm▸w2.1) w2.2))))) λq=>n1 (bx (.next (H _ ((IC (W:=W) q).symm▸h) .refl)))
theorem Pj (hf:aq+100<fu) (h:aZ O W) (ht:W.text.length≤100000) (hd:W.dT.length≤200000) (tV:W.aL.length≤10000)
    (H:∀nm ps way af,nm∈hZ→(∀p∈ps,iF (cnt nm) p)→ps.length≤3→way<3→aZ af (sC W nm ps way)→Up O af→Q .none af):Wp (ay aw fu (n+4) 35 [.ref 2,.ref 5] O) Q X:=by
 refine dY (L:=[some (.ref 2),some (.ref 5),none,none,none,none,none,none,none]) rfl rfl (by decide) rfl (oy rfl (eG (b:=5) (Nat.succ_pos _) (by decide) (by decide) h.p λkd s1 uV ew e1=>(LF kd uV).elim λnm hn=>?_))
 have h1:=h.fV ew e1
 refine aV (fq (aJ rfl (aJ (bG rfl rfl vr) rfl)) (R6 hn.2)) (aV (bj rfl rfl (hn.1 _)) (oy rfl (Yu (Nat.le_add_left 2 n) hf hn.2.c3 h1.p (adl (by decide) h1.l) λr s2 vs ps hr oS hR ik pO gM e2=>?_)))
 have h2:=h1.fV gM e2
 have Be:=λp hp=>(ik p hp).facts (Nat.le_of_lt_succ hn.2.c3)
 have oL:(bq ps).length≤24:=adk (BS (b:=6) (λp hp=>(Be p hp).l) pO) (by decide)
 have eF:(gB nm).length≤100:=adk (Li hn.2) (by decide)
 have b1:([96,100,101,102,105,110,101,32]++nm++oO (cnt nm)).length≤100:=adk (adn _ _) (List.length_append (bs:=[32])▸eF)
 have b2:([96,100,101,102,105,110,101,32]++nm).length≤100:=adk (adn _ _) (List.length_append (bs:=oO (cnt nm))▸b1)
 have x3:=(aj.refl (O:=s2)).push (d:= .list (xu.map .str))
 have h3:=h2.ext x3
 have LN:=hR.mono (R':=RP (s2++[.list (xu.map .str)]) gC) λv p hp=>hp.keep (λi c _ g=>x3.get g) λi hi=>adk h1.l hi
 refine aV (v:= .str (gB nm)) (bG (bG (bG rfl rfl (kz b2)) (bj rfl rfl (eA bH (Rx _ hn.2.c3))) (kz b1)) rfl (kz eF)) ((SE (fu:=fu) (n:=n+2) (Nat.succ_pos _) hf (x3.get oS) LN (adk pO (by decide)) (λp hp=>⟨(Be p hp).o,adk (Be p hp).l (by decide)⟩) (adk oL (by decide))).elim λs4 h4=>aV (eg rfl h4.1) (oy rfl (eG (b:=3) (Nat.succ_pos _) (by decide) (by decide) (h3.ext h4.2).p λway s5 Dz xK e5=>?_)))
 have h5:=(h3.ext h4.2).fV xK e5
 have EU:=h4.2.up.trans (e5.up (by decide))
 exact SM (n:=n+2) Dz h5 (Og hn.2 oL Dz) ht hd λs6 h6 u6=>ZQ h6 tV (j5.up ⟨r,vs,rfl,adk h1.l hr,x3.get oS,LN⟩ (EU.trans u6)) λaf h' u'=>H nm ps way af hn.2.m ik pO Dz h' (((((e1.up (by decide)).trans (e2.up (by decide))).trans x3.up).trans (EU.trans u6)).trans u')
end
noncomputable def mV (s:List Nat):Nat:=if 0<cp s then cp s else a8 s
noncomputable def fO:List Nat→Nat
 |[]=>0
 |c::r=>if c=96 then 1+aC r else mV (c::r)
noncomputable def Loc (f:List Nat→Nat):Prop:=∀(t:List Nat) (d:Nat) (r:List Nat),t≠[]→f (t++[d])≤t.length→f (t++d::r)=f (t++[d])
section
variable {d:Nat} {r:List Nat}
theorem oU {a n:Nat} (h:1+a≤n+1):a≤n:=Nat.le_of_add_le_add_left (a:=1) (adk h (adt (Nat.add_comm n 1)))
theorem Ni {a:Nat} {P:Prop} (h:1+a≤0):P:=absurd (adl (adl Nat.zero_lt_one (adn 1 a)) h) (Nat.lt_irrefl 0)
theorem kY {c:Prop} [Decidable c] {x y y' n:Nat} (h:(if c then x else y)≤n) (k:¬c→y≤n→y'=y):(if c then x else y')=(if c then x else y):=if q:c then (if_pos q).trans (if_pos q).symm else (if_neg q).trans ((k q (adk (adt (if_neg q).symm) h)).trans (if_neg q).symm)
theorem l8 {c:Prop} [Decidable c] {x x' y y' n:Nat} (h:(if c then x else y)≤n) (k1:x≤n→x'=x) (k:y≤n→y'=y):(if c then x' else y')=(if c then x else y):=if q:c then (if_pos q).trans ((k1 (adk (adt (if_pos q).symm) h)).trans (if_pos q).symm) else (if_neg q).trans ((k (adk (adt (if_neg q).symm) h)).trans (if_neg q).symm)
theorem DU:∀(t:List Nat) (e:Bool),eu e (t++[d])≤t.length→eu e (t++d::r)=eu e (t++[d])
 |[],e,h=>kY h λ_ h=>match e,h with
  |true,h=>Ni h
  |false,h=>kY h λ_ h=>kY h λ_ h=>Ni h
 |c::t,e,h=>kY h λ_ h=>match e,h with
  |true,h=>congrArg (1+ ·) (DU t false (oU h))
  |false,h=>kY h λ_ h=>kY h λ_ h=>congrArg (1+ ·) (DU t _ (oU h))
theorem oz {p:List Nat→Bool} (hp:∀c x y,p (c::x)=p (c::y)):∀(t:List Nat),du p (t++[d])≤t.length→du p (t++d::r)=du p (t++[d])
 |[],h=>by
  show (if p (d::r)=true then _ else 0)=if p [d]=true then _ else 0
  rw [hp d r []]
  exact l8 h (λh=>absurd h (Nat.not_succ_le_zero _)) λ_=>rfl
 |c::t,h=>by
  show (if p (c::(t++d::r))=true then _ else 0)=if p (c::(t++[d]))=true then _ else 0
  rw [hp c (t++d::r) (t++[d])]
  exact l8 h (λh=>congrArg (· +1) (oz hp t (Nat.le_of_succ_le_succ h))) λ_=>rfl
theorem Lq:∀(t:List Nat),ka (t++[d])≤t.length→ka (t++d::r)=ka (t++[d])
 |[],h=>absurd (show ka [d]≤0 from h) (by
  show ¬(if d=42∧([]:List Nat).head?=some 47 then 2 else 1+0)≤0
  rw [if_neg (λq=>nomatch q.2)];decide)
 |c::t,h=>by
  have e:(t++d::r).head?=(t++[d]).head?:=by cases t<;>rfl
  show (if c=42∧(t++d::r).head?=some 47 then 2 else _)=if c=42∧(t++[d]).head?=some 47 then 2 else _
  rw [e]
  exact kY h λ_ h=>congrArg (1+ ·) (Lq t (oU h))
theorem wc (c:Nat) (x y:List Nat):fJ (c::x)=fJ (c::y):=rfl
theorem CV:∀t,t≠[]→aC (t++[d])≤t.length→aC (t++d::r)=aC (t++[d])
 |c::t,_,h=>kY h λ_ h=>oz wc (c::t) h
end
theorem u9:Loc a8:=λt d r ht h=>match t,ht,h with
 |c::t,_,h=>l8 h (λh=>congrArg (1+ ·) (DU t false (oU h))) λh=>l8 h (oz (λ_ _ _=>rfl) (c::t)) λh=>l8 h (λh=>congrArg (1+ ·) (oz wc t (oU h))) λh=>congrArg (max · 1) (oz wc (c::t) (adk (Nat.le_max_left ..) h))
theorem Lc:Loc cp:=λt d r ht h=>by
 have e:(t++d::r).take 2=(t++[d]).take 2:=match t,ht with
  |[c],_=>rfl
  |c::c2::t,_=>rfl
 unfold cp at h ⊢
 rw [e]
 exact l8 h (oz (λ_ _ _=>rfl) t) λh=>l8 h (λh=>match t,ht,h with
  |[c],_,h=>absurd h (by show ¬2+ka []≤1;decide)
  |c::c2::t,_,h=>congrArg (2+ ·) (Lq t (Nat.le_of_add_le_add_left (a:=2) (adk h (adt (Nat.add_comm t.length 2)))))) λ_=>rfl
theorem BV:Loc mV:=λt d r ht h=>by
 have hr:cp (t++[d])≤t.length:=adk (gc (P:=λx=>cp (t++[d])≤x) (λ_=>adq _) λq=>adk (Nat.le_of_not_lt q) (ads _)) h
 unfold mV at h ⊢
 rw [Lc t d r ht hr]
 exact kY h λ_ h=>u9 t d r ht h
theorem vp:Loc fO:=λt d r ht h=>match t,ht,h with
 |[c],_,h=>l8 h (λh=>have z:aC [d]=0:=Nat.le_zero.1 (oU (n:=0) h)
   congrArg (1+ ·) (show aC (d::r)=aC [d] from kY (n:=0) (adt z) λ_ h=>oz wc [] h)) (BV [c] d r (λq=>nomatch q))
 |c::c2::t,_,h=>l8 h (λh=>congrArg (1+ ·) (CV (c2::t) (λq=>nomatch q) (oU h))) (BV (c::c2::t) d r (λq=>nomatch q))
section
variable {f:List Nat→Nat} {ac:List Nat} {ts us:List (List Nat)}
inductive eN (f:List Nat→Nat) (ac:List Nat):List (List Nat)→Prop where
 |nil:eN f ac []
 |cons {c:Nat} {t:List Nat} {ts:List (List Nat)}:f (c::t++(ts.flatten++ac))=(c::t).length→eN f ac ts→eN f ac ((c::t)::ts)
theorem eN.append (h:eN f (us.flatten++ac) ts) (h2:eN f ac us):eN f ac (ts++us):=by
 induction h with
 |nil=>exact h2
 |@cons c t ts e _ ih=>exact .cons (ts:=ts++us) (by rw [List.flatten_append,List.append_assoc];exact e) ih
noncomputable def pX (f:List Nat→Nat) (d:List Nat):List (List Nat)→Bool
 |[]=>true
 |t::ts=>(!t.isEmpty&&f (t++(ts.flatten++d).take 1)==t.length)&&pX f d ts
theorem QI {a b:List Nat}:(a++b.take 1).take 1=(a++b).take 1:=by
 cases a with
 |nil=>cases b<;>rfl
 |cons c a=>rfl
theorem UC (hf:Loc f) {t:List Nat} (ht:t≠[]):∀{u:List Nat},f (t++u.take 1)=t.length→f (t++u)=t.length
 |[],h=>h
 |d::r,h=>(hf t d r ht (adt h)).trans h
theorem uM (hf:Loc f):∀{ts:List (List Nat)},pX f (ac.take 1) ts=true→eN f ac ts
 |[],_=> .nil
 |[]::ts,h=>nomatch bp (bp h)
 |(c::t)::ts,h=> .cons (UC hf (t:=c::t) (λq=>nomatch q) (QI▸eq_of_beq (aW (bp h)))) (uM hf (aW h))
end
noncomputable def xD:List (List Nat):=[[],[32],[10],[41]]
noncomputable def Sep (ac:List Nat):Prop:=ac.take 1∈xD
noncomputable def ff (f:List Nat→Nat):Nat→List Nat→List (List Nat)
 |0,_=>[]
 |_+1,[]=>[]
 |n+1,c::r=>(c::r).take (f (c::r))::ff f n ((c::r).drop (f (c::r)))
noncomputable def rp (f:List Nat→Nat) (w:List Nat):Bool:=xD.all (λd=>pX f d (ff f 30 w))&&(ff f 30 w).flatten==w
theorem Dy {a b:List Nat} (h:(a==b)=true):a=b:=eq_of_beq h
theorem tc {f:List Nat→Nat} {w ac:List Nat} (hf:Loc f) (hs:Sep ac) (h:rp f w=true):eN f ac (ff f 30 w):=uM hf (List.all_eq_true.1 (bp h) _ hs)
theorem qk {f:List Nat→Nat} {w:List Nat} (h:rp f w=true):(ff f 30 w).flatten=w:=Dy (aW h)
noncomputable def sD:List A0:=mB.map .txt++([.cW 0,.cW 1]++ja.map .use)
noncomputable def j0 (x:A0):Prop:=x∈sD
theorem j0.all {x:A0} {p:A0→Bool} (h:j0 x) (hp:sD.all p=true):p x=true:=List.all_eq_true.1 hp x h
theorem iA.full {c:Nat} (hc:c≤2):∀{x:A0},iA c x→j0 x
 | .txt s,h=>List.mem_append_left _ (List.mem_map_of_mem h)
 | .use nm,h=>List.mem_append_right _ (List.mem_append_right _ (List.mem_map_of_mem h))
 | .cW i,h=>List.mem_append_right _ (List.mem_append_left _ (cP (P:=λi=>A0.cW i∈[A0.cW 0,.cW 1]) (.tail _ (.head _)) (cP (.head _) iE) i (adl h hc)))
theorem ir.full:∀{x:A0},ir x→j0 x
 | .txt s,h=>iA.full (c:=0) (ads 2) (x:= .txt s) h
 | .use s,h=>iA.full (c:=0) (ads 2) (x:= .use s) h
noncomputable def jO:Pz→Prop
 | .a x=>j0 x
 | .call nm x=>nm=nF∧j0 x
theorem kj.full:∀{p:Pz},kj p→jO p
 | .a _,h=>ir.full h
 | .call _ _,h=>⟨h.1,h.2.full⟩
theorem l9.full {c:Nat} (hc:c≤2):∀{p:Pz},l9 c p→jO p
 | .a _,h=>iA.full hc h
 | .call _ _,h=>⟨h.1,h.2.full hc⟩
noncomputable def pb (t:List Nat):Bool:=t.head? !=some 10&&(t.head? !=some 92&&t.head? !=some 47)
noncomputable def mT (t:List Nat):Bool:=t.head? !=some 96||(decide (t.drop 1∉dN)&&t.count 10==0)
noncomputable def ends (w:List Nat):Bool:=(match w with |[]=>false |c::_=> !dH c)&&(match w.reverse with |[]=>false |c::_=> !dH c)
noncomputable def OB (x:A0):Bool:=(rp a8 (wA x)&&(ff a8 30 (wA x)).all pb)&&((rp fO (wA x)&&(ff fO 30 (wA x)).all mT)&&((wA x).all (λc=>decide (c<128))&&(decide ((wA x).length≤6)&&(ends (wA x)&&(wA x).count 10==0))))
theorem Zr:sD.all OB=true:=by decide +kernel
noncomputable def lR (x:A0):List (List Nat):=ff a8 30 (wA x)
noncomputable def Ci (x:A0):List (List Nat):=ff fO 30 (wA x)
structure Y5 (x:A0):Prop where
 w:rp a8 (wA x)=true
 h:(lR x).all pb=true
 o:rp fO (wA x)=true
 k:(Ci x).all mT=true
 a:a9 (wA x)
 l:(wA x).length≤6
 e:ends (wA x)=true
 c:(wA x).count 10=0
theorem j0.f {x:A0} (h:j0 x):Y5 x:=have q:=h.all Zr
 ⟨bp (bp q),aW (bp q),bp (bp (aW q)),aW (bp (aW q)),cy (bp (aW (aW q))),ado (bp (aW (aW (aW q)))),bp (aW (aW (aW (aW q)))),eq_of_beq (aW (aW (aW (aW (aW q)))))⟩
theorem rn {α:Type} {c:Prop} [Decidable c] {x y x' y' z:α} (k1:c→x=z→x'=z) (k2:¬c→y=z→y'=z) (h:(if c then x else y)=z):(if c then x' else y')=z:=if q:c then (if_pos q).trans (k1 q ((if_pos q).symm.trans h)) else (if_neg q).trans (k2 q ((if_neg q).symm.trans h))
theorem Bf:∀(f d:Nat) (as:List (List Nat)) (cf:List Nat) (k:Nat) (r:List Nat) (eU:List (List Nat)) (e:Nat),cS f d as cf k r=some (some (eU,e))→k<e
 |0,_,_,_,_,_,_,_,h=>nomatch h
 |_+1,_,_,_,_,[],_,_,h=>o5 (Option.some.inj h)
 |f+1,d,as,cf,k,c::r,eU,e,h=>
  have hl:∀{w d Xi c2 r2},cS f d Xi c2 (k+w) r2=some (some (eU,e))→k<e:=λh=>adm (adn _ _) (Bf f _ _ _ _ _ _ _ h)
  hJ (λ_=>hl) (λ_=>hJ (λ_=>hJ (λ_ h=>(Prod.mk.inj (Option.some.inj (Option.some.inj h))).2▸adu k) λ_=>hl) λ_=>hJ (λ_=>hl) λ_=>hJ (λ_=>hJ (λ_ h=>o5 (Option.some.inj h)) λ_=>hl) λ_=>hl) h
theorem IB {f:List Nat→Nat} (hf:Loc f) {t:List Nat} (ht:t≠[]):∀{u:List Nat},f (t++u.take 1)≤t.length→f (t++u)=f (t++u.take 1)
 |[],h=>rfl
 |d::r,h=>hf t d r ht h
theorem KV {u:List Nat}:∀(f d:Nat) (as:List (List Nat)) (cf:List Nat) (k:Nat) (s:List Nat) (eU:List (List Nat)) (e:Nat),cS f d as cf k (s++u.take 1)=some (some (eU,e))→e≤k+s.length→cS f d as cf k (s++u)=some (some (eU,e))
 |0,_,_,_,_,_,_,_,h,_=>nomatch h
 |f+1,d,as,cf,k,[],eU,e,h,he=>absurd (adl (Bf _ _ _ _ _ _ _ _ h) he) (Nat.lt_irrefl k)
 |f+1,d,as,cf,k,c::s,eU,e,h,he=>by
  have go:∀{n:Nat} {d:Nat} {as:List (List Nat)} {cf:List Nat},cS f d as cf (k+n) ((c::s++u.take 1).drop n)=some (some (eU,e))→n≤(c::s).length∧cS f d as cf (k+n) ((c::s++u).drop n)=some (some (eU,e)):=λ{n d as cf} h=>by
   have hn:n≤(c::s).length:=Nat.le_of_lt (Nat.lt_of_add_lt_add_left (adl (Bf _ _ _ _ _ _ _ _ h) he))
   rw [List.drop_append_of_le_length hn] at h ⊢
   exact ⟨hn,KV f _ _ _ _ _ _ _ h (adk he (adt (by rw [List.length_drop,Nat.add_assoc,Nat.add_sub_of_le hn])))⟩
  have wh:∀{d:Nat},cS f d as (cf++((c::s++u.take 1).take (a8 (c::s++u.take 1))).map iV) (k+a8 (c::s++u.take 1)) ((c::s++u.take 1).drop (a8 (c::s++u.take 1)))=some (some (eU,e))→
    cS f d as (cf++((c::s++u).take (a8 (c::s++u))).map iV) (k+a8 (c::s++u)) ((c::s++u).drop (a8 (c::s++u)))=some (some (eU,e)):=λ{d} h=>by
   have g:=go h
   rw [IB (t:=c::s) u9 (List.cons_ne_nil _ _) g.1,List.take_append_of_le_length g.1]
   rw [List.take_append_of_le_length g.1] at g
   exact g.2
  have K8:cp (c::s++u.take 1)≤(c::s).length→cp (c::s++u)=cp (c::s++u.take 1):=IB (t:=c::s) Lc (List.cons_ne_nil _ _)
  by_cases q:0<cp (c::s++u.take 1)
  ·have g:=go ((if_pos q).symm.trans h)
   have r:=K8 g.1
   exact (if_pos (r▸q)).trans (r.symm▸g.2)
  ·have r:=K8 (adk (Nat.le_of_not_lt q) (ads _))
   exact (if_neg (r▸q)).trans (rn (λ_=>rn (λ_ h=>h) λ_ h=>(go (n:=1) h).2) (λ_=>rn (λ_=>wh) λ_=>rn (λ_=>rn (λ_ h=>h) λ_=>wh) λ_=>wh) ((if_neg q).symm.trans h))
noncomputable def nK (r:List Nat):Nat:=1+dG (r.drop 1)
structure j3 (r nm:List Nat) (as:List A0) (e:Nat):Prop where
 n1:aC r=1
 n2:r.take 1=nm
 pl:cnt nm=0→e=1
 ar:cnt nm≠0→ez 60 (nK r) (r.drop (nK r))=some (some (as.map wA,e))
noncomputable def rR (d nm:List Nat) (as:List A0) (t:List Nat):Bool:=(!t.isEmpty&&aC (t++d)==1)&&(t.take 1==nm&&(if cnt nm=0 then t.length==1 else dG (t.drop 1++d)==dG (t.drop 1)&&(decide (nK t<t.length)&&ez 60 (nK t) (t.drop (nK t)++d)==some (some (as.map wA,t.length)))))
theorem abj {f k e:Nat} {u:List Nat} {eU:List (List Nat)}:∀{s:List Nat},s≠[]→ez f k (s++u.take 1)=some (some (eU,e))→e≤k+s.length→ez f k (s++u)=some (some (eU,e))
 |c::s,_,h,he=>rn (λ_ h=>KV f 0 [] [] (k+1) s eU e h (Nat.add_right_comm k s.length 1▸he)) (λ_ h=>h) h
theorem Po {u t:List Nat} (h:dG (t++u.take 1)≤t.length):dG (t++u)=dG (t++u.take 1):=match u,h with
 |[],_=>rfl
 |d::r,h=>oz (λ_ _ _=>rfl) t h
theorem zf {nm t ac:List Nat} {as:List A0} (h:rR (ac.take 1) nm as t=true):j3 (t++ac) nm as t.length:=by
 have h1:aC (t++ac.take 1)=1:=eq_of_beq (aW (bp h))
 have h2:t.take 1=nm:=eq_of_beq (bp (aW h))
 have h3:=aW (aW h)
 cases t with
 |nil=>exact nomatch bp (bp h)
 |cons c t=>
  refine ⟨?_,h2,λq=>?_,λq=>?_⟩
  ·cases ac with
   |nil=>exact h1
   |cons d r=>exact (CV (c::t) (λq=>nomatch q) (adk (adt h1) (Nat.succ_le_succ (ads _)))).trans h1
  ·rw [if_pos q] at h3;exact eq_of_beq h3
  ·rw [if_neg q] at h3
   have a:=eq_of_beq (bp h3)
   have b:nK (c::t)<(c::t).length:=ado (bp (aW h3))
   have l:nK (c::t++ac)=nK (c::t):=congrArg (1+ ·) ((Po (t:=t) (adk (adt a) (my _ _))).trans a)
   rw [l,List.drop_append_of_le_length (Nat.le_of_lt b)]
   exact abj (List.ne_nil_of_length_pos (by rw [List.length_drop];exact Nat.sub_pos_of_lt b)) (eq_of_beq (aW (aW h3))) (adt (by rw [List.length_drop,Nat.add_sub_of_le (Nat.le_of_lt b)]))
noncomputable def wg:List A0:=uL.map .txt++[.use nA]
theorem gQ.in4:∀{x:A0},gQ x→x∈wg
 | .txt s,h=>List.mem_append_left _ (List.mem_map_of_mem h)
 | .use _,h=>List.mem_append_right _ (List.mem_singleton.2 (congrArg A0.use h))
noncomputable def H9:List (List Nat×List A0×Bool):=ja.map (λnm=>(nm,[],false))++(wg.flatMap (λx=>[(nF,[x],true),(nF,[x],false)])++wg.flatMap λx=>wg.flatMap λy=>[(nG,[x,y],true),(nG,[x,y],false)])
theorem GN {α:Type} {g:Bool→α}:∀{w:Bool},g w∈[g true,g false]
 |true=> .head _
 |false=> .tail _ (.head _)
theorem gw.S7 {nm:List Nat} {as:List A0} {w:Bool} (h:gw nm as w):(nm,as,w)∈H9:=by
 cases h with
 |none h=>exact List.mem_append_left _ (List.mem_map.2 ⟨_,h,rfl⟩)
 |@one x w h=>exact List.mem_append_right _ (List.mem_append_left _ (List.mem_flatMap.2 ⟨x,h.in4,GN (g:=λw=>(nF,[x],w))⟩))
 |@two x y w h h2=>exact List.mem_append_right _ (List.mem_append_right _ (List.mem_flatMap.2 ⟨x,h.in4,List.mem_flatMap.2 ⟨y,h2.in4,GN (g:=λw=>(nG,[x,y],w))⟩⟩))
noncomputable def gE (u:List Nat×List A0×Bool):List Nat:=(kF u.1 u.2.1 u.2.2).drop 1
noncomputable def Xc (u:List Nat×List A0×Bool):Bool:=(kF u.1 u.2.1 u.2.2==96::gE u&&rR [32] u.1 u.2.1 (gE u))&&((pX fO [32] (ff fO 60 (96::gE u))&&((ff fO 60 (96::gE u)).flatten==96::gE u&&(ff fO 60 (96::gE u)).all mT))&&((gE u).all (λc=>decide (c<128))&&((gE u).count 10==wN u.2.2)))
theorem abo:H9.all Xc=true:=by decide +kernel
structure KL (nm:List Nat) (as:List A0) (w:Bool) (t:List Nat):Prop where
 r:kF nm as w=96::t
 u:rR [32] nm as t=true
 o:pX fO [32] (ff fO 60 (96::t))=true
 f:(ff fO 60 (96::t)).flatten=96::t
 k:(ff fO 60 (96::t)).all mT=true
 a:a9 t
 c:t.count 10=wN w
theorem gw.f {nm:List Nat} {as:List A0} {w:Bool} (h:gw nm as w):KL nm as w (gE (nm,as,w)):=have q:=List.all_eq_true.1 abo _ h.S7
 ⟨eq_of_beq (bp (bp q)),aW (bp q),bp (bp (aW q)),eq_of_beq (bp (aW (bp (aW q)))),aW (aW (bp (aW q))),cy (bp (aW (aW q))),eq_of_beq (aW (aW (aW q)))⟩
theorem ZG:sD.all (λx=>xD.all λd=>rR d nF [x] (nF++([40]++wA x++[41])))=true:=by decide +kernel
theorem aaI:ja.all (λnm=>xD.all λd=>rR d nm [] nm)=true:=by decide +kernel
theorem QS {x:A0} {ac:List Nat} (h:j0 x) (hs:Sep ac):j3 (nF++([40]++wA x++[41])++ac) nF [x] (nF++([40]++wA x++[41])).length:=zf (List.all_eq_true.1 (h.all ZG) _ hs)
theorem Ot {nm ac:List Nat} (h:nm∈ja) (hs:Sep ac):j3 (nm++ac) nm [] nm.length:=zf (List.all_eq_true.1 (List.all_eq_true.1 aaI nm h) _ hs)
section
variable {f:List Nat→Nat} {ac:List Nat} {p:Pz} {ps:List Pz} {g:Pz→List (List Nat)} {Q:List Nat→Prop}
theorem vT {r:List Nat}:Sep (32::r):= .tail _ (.head _)
theorem Uo {r:List Nat}:Sep (10::r):= .tail _ (.tail _ (.head _))
theorem I8 {r:List Nat}:Sep (41::r):= .tail _ (.tail _ (.tail _ (.head _)))
theorem G1:Sep []:= .head _
noncomputable def rN:Pz→List (List Nat)
 | .a x=>lR x
 | .call _ x=>[[96],[70],[40]]++(lR x++[[41]])
noncomputable def wB:Pz→List (List Nat)
 | .a x=>Ci x
 | .call _ x=>[[96,70],[40]]++(Ci x++[[41]])
theorem Vv {c:Nat} (h:∀r,f (c::r)=1):eN f ac [[c]]:= .cons (h _) .nil
theorem Fl {h0:List (List Nat)} {t:List (List Nat)} (h1:∀r,eN f r h0) (h2:eN f (41::ac) t) (h3:∀r,f (41::r)=1):eN f ac (h0++(t++[[41]])):=(h1 _).append (eN.append (us:=[[41]]) h2 (Vv h3))
theorem Mv {h0 t:List (List Nat)} {w:List Nat} (h:h0.flatten=[96,70,40]) (e:t.flatten=w):(h0++(t++[[41]])).flatten=96::nF++([40]++w++[41]):=by rw [List.flatten_append,List.flatten_append,h,e];rfl
structure Z0 (p:Pz):Prop where
 t:∀ac,Sep ac→eN a8 ac (rN p)
 tf:(rN p).flatten=wP p
 h:∀t∈rN p,pb t=true
 u:∀ac,Sep ac→eN fO ac (wB p)
 uf:(wB p).flatten=wP p
 k:∀t∈wB p,mT t=true
 a:a9 (wP p)
 l:(wP p).length≤10
 e:ends (wP p)=true
 c:(wP p).count 10=0
theorem mem_mid {h0 t:List (List Nat)} (h1:∀x∈h0,Q x) (h2:∀x∈t,Q x) (h3:Q [41]):∀x∈h0++(t++[[41]]),Q x:=λx hx=>(List.mem_append.1 hx).elim (h1 x) λhx=>(List.mem_append.1 hx).elim (h2 x) λhx=>List.mem_singleton.1 hx▸h3
theorem V4:sD.all (λx=>(wP (.call nF x)).all (λc=>decide (c<128))&&(decide ((wP (.call nF x)).length≤10)&&(ends (wP (.call nF x))&&(wP (.call nF x)).count 10==0)))=true:=by decide +kernel
theorem jO.pf:∀{p:Pz},jO p→Z0 p
 | .a x,h=>have a:=j0.f h
  ⟨λ_ hs=>tc u9 hs a.w,qk a.w,List.all_eq_true.1 a.h,λ_ hs=>tc vp hs a.o,qk a.o,List.all_eq_true.1 a.k,a.a,adk a.l (by decide),a.e,a.c⟩
 | .call _ x,⟨e,h⟩=>e▸have a:=j0.f h
  have q:=h.all V4
  ⟨λ_ _=>Fl (λ_=> .cons rfl (.cons rfl (.cons rfl .nil))) (tc u9 I8 a.w) λ_=>rfl,Mv rfl (qk a.w),mem_mid (by decide) (List.all_eq_true.1 a.h) (by decide),λ_ _=>Fl (λ_=> .cons rfl (.cons rfl .nil)) (tc vp I8 a.o) λ_=>rfl,Mv rfl (qk a.o),mem_mid (by decide) (List.all_eq_true.1 a.k) (by decide),
   cy (bp q),ado (bp (aW q)),bp (aW (aW q)),eq_of_beq (aW (aW (aW q)))⟩
noncomputable def jn (g:Pz→List (List Nat)):List Pz→List (List Nat)
 |[]=>[]
 |[p]=>g p
 |p::q::r=>g p++([32]::jn g (q::r))
theorem yS {q:Pz} {r:List Pz}:bq (p::q::r)=wP p++([32]++bq (q::r)):=List.append_assoc ..
theorem Bp {P:List Nat→Prop} (h0:P []) (h2:∀a b,P a→P b→P (a++([32]++b))):∀{ps:List Pz},(∀p∈ps,P (wP p))→P (bq ps)
 |[],_=>h0
 |[p],h=>h p (.head _)
 |p::q::r,h=>yS▸h2 _ _ (h p (.head _)) (Bp h0 h2 λx hx=>h x (.tail _ hx))
theorem wm {h:Pz→List Nat}:∀{ps:List Pz},(∀p∈ps,(g p).flatten=h p)→(jn g ps).flatten=cv [32] (ps.map h)
 |[],_=>rfl
 |[p],h=>h p (.head _)
 |p::q::r,k=>by
  rw [jn,List.flatten_append,List.flatten_cons,k p (.head _),wm (h:=h) λx hx=>k x (.tail _ hx)]
  exact (List.append_assoc ..).symm
theorem GO {F:List Nat→List Nat} (nu:F [32]=[32]):∀{ps:List Pz},(jn g ps).map F=jn (λp=>(g p).map F) ps
 |[]=>rfl
 |[p]=>rfl
 |p::q::r=>by
  rw [jn,jn,List.map_append,List.map_cons,nu,GO nu]
theorem xR (nu:∀r,f (32::r)=1) (hs:Sep ac):∀{ps:List Pz},(∀p∈ps,∀ac,Sep ac→eN f ac (g p))→eN f ac (jn g ps)
 |[],_=> .nil
 |[p],h=>h p (.head _) _ hs
 |p::q::r,h=>(h p (.head _) _ vT).append (.cons (nu _) (xR nu hs λx hx=>h x (.tail _ hx)))
theorem EB (nu:Q [32]):∀{ps:List Pz},(∀p∈ps,∀t∈g p,Q t)→∀t∈jn g ps,Q t
 |[],_,_,h=>nomatch h
 |[p],h,t,ht=>h p (.head _) t ht
 |p::q::r,h,t,ht=>(List.mem_append.1 ht).elim (h p (.head _) t) λht=>(List.mem_cons.1 ht).elim (λe=>e▸nu) (EB nu (λx hx=>h x (.tail _ hx)) t)
end
noncomputable def pk:List (List Nat):=[[112],[113]]
noncomputable def kA (c:Nat):List (List Nat):=pk.take c
noncomputable def iN (nm:List Nat):Option (List (List Nat)):=if cnt nm=0 then none else some (kA (cnt nm))
noncomputable def da (M:iW):bz:=M.map λx=>(x.1,⟨iN x.1,bq x.2⟩)
theorem rP {nm:List Nat}:∀{M:iW},a6 (da M) nm=(a6 M nm).map λps=>⟨iN nm,bq ps⟩
 |[]=>rfl
 |(x,ps)::r=>if q:x=nm then by
   show (if x=nm then some (⟨iN x,bq ps⟩:MV) else a6 (da r) nm)=Option.map _ (if x=nm then some ps else a6 r nm)
   rw [if_pos q,if_pos q,q];rfl
  else by
   show (if x=nm then some (⟨iN x,bq ps⟩:MV) else a6 (da r) nm)=Option.map _ (if x=nm then some ps else a6 r nm)
   rw [if_neg q,if_neg q];exact rP
noncomputable def nH (ns as:List (List Nat)) (t:List Nat):List Nat:=bK (gR t ns) t λi=>as.getD i []
section
variable {ns as:List (List Nat)} {t ac s:List Nat}
theorem CM:∀{l:List (List Nat)} {i:Nat},gR t l=some i→i<l.length
 |y::r,i,h=>hJ (λ_ h=>adm (adt (Option.some.inj h).symm) (Nat.succ_pos _)) (λ_ h=>match Option.map_eq_some_iff.1 h with
  |⟨j,h1,h2⟩=>h2▸Nat.succ_lt_succ (CM h1)) h
theorem Tx (hl:as.length=ns.length):n7 ns as t=some (nH ns as t):=by
 unfold n7 nH
 cases h:gR t ns with
 |none=>rfl
 |some i=>exact (List.getElem?_eq_getElem (hl▸CM h)).trans (congrArg some (by
   show _=as.getD i []
   rw [List.getD_eq_getElem?_getD,List.getElem?_eq_getElem (hl▸CM h)];rfl))
theorem Mu {c:Nat} {t ac:List Nat} {ts:List (List Nat)} {f:List Nat→Nat} (e:f (c::t++(ts.flatten++ac))=(c::t).length):(c::t++(ts.flatten++ac)).take (f (c::t++(ts.flatten++ac)))=c::t∧(c::t++(ts.flatten++ac)).drop (f (c::t++(ts.flatten++ac)))=ts.flatten++ac:=by
 rw [e];exact ⟨List.take_left,List.drop_left⟩
theorem ZF {f:Nat} (hl:as.length=ns.length) (h:iy ns as f ac=some s) {ts:List (List Nat)} (ht:eN a8 ac ts):iy ns as (f+ts.length) (ts.flatten++ac)=some ((ts.map (nH ns as)).flatten++s):=by
 induction ht with
 |nil=>exact h
 |@cons c t ts e _ ih=>
  have q:=Mu e
  show (match n7 ns as ((c::t++ts.flatten++ac).take (a8 (c::t++ts.flatten++ac))),iy ns as (f+ts.length) ((c::t++ts.flatten++ac).drop (a8 (c::t++ts.flatten++ac))) with |some q,some s=>some (q++s) |_,_=>none)=_
  rw [List.append_assoc,q.1,q.2,Tx hl,ih]
  exact congrArg some (List.append_assoc ..).symm
end
section
variable {c:Nat} {as:List A0}
theorem As (h:c≤2):(kA c).length=c:=List.length_take.trans (Nat.min_eq_left h)
theorem Aa:sD.all (λx=>(match x with | .cW i=>lR x==[pk.getD i []] |_=>(lR x).all λt=>decide (t∉pk)))=true:=by decide +kernel
theorem qm {ws:List (List Nat)} {t:List Nat} (h:t∉pk):nH (kA c) ws t=t:=by
 unfold nH
 rw [show gR t (kA c)=none from Cj λq=>h (List.mem_of_mem_take q)];rfl
theorem sj {α:Type} {F:α→α}:∀{l:List α},(∀x∈l,F x=x)→l.map F=l
 |[],_=>rfl
 |x::r,h=>by rw [List.map_cons,h x (.head _),sj λy hy=>h y (.tail _ hy)]
theorem N0:∀i,i<2→∀c,i<c→gR (pk.getD i []) (kA c)=some i:=cP (λc h=>match c,h with
 |c+2,_=>rfl
 |1,h=>absurd h (by decide)) (cP (λc h=>match c,h with
 |c+2,_=>rfl
 |1,_=>rfl) iE)
theorem aaF (l:List A0) (i:Nat):(l.map wA).getD i []=wA (l.getD i (.txt [])):=by
 rw [List.getD_eq_getElem?_getD,List.getD_eq_getElem?_getD,List.getElem?_map]
 cases l[i]?<;>rfl
theorem KO (hc:c≤2):∀{x:A0},iA c x→((lR x).map (nH (kA c) (as.map wA))).flatten=wA (fA as x)
 | .cW i,h=>by
  rw [show lR (.cW i)=[pk.getD i []] from eq_of_beq ((iA.full hc (x:= .cW i) h).all Aa)]
  show bK (gR (pk.getD i []) (kA c)) _ _++[]=_
  rw [N0 i (adl h hc) c h,List.append_nil]
  exact aaF as i
 | .txt s,h=>by
  rw [sj λt ht=>qm (ado (List.all_eq_true.1 ((iA.full hc (x:= .txt s) h).all Aa) t ht))]
  exact qk (iA.full hc (x:= .txt s) h).f.w
 | .use s,h=>by
  rw [sj λt ht=>qm (ado (List.all_eq_true.1 ((iA.full hc (x:= .use s) h).all Aa) t ht))]
  exact qk (iA.full hc (x:= .use s) h).f.w
theorem TH (hc:c≤2):∀{p:Pz},l9 c p→((rN p).map (nH (kA c) (as.map wA))).flatten=wP (fP as p)
 | .a x,h=>KO hc h
 | .call nm x,⟨e,h⟩=>by
  show (([[96],[70],[40]]++(lR x++[[41]])).map (nH (kA c) (as.map wA))).flatten=_
  rw [List.map_append,List.map_append,List.flatten_append,List.flatten_append,KO hc h,e,sj (l:=[[96],[70],[40]]) (List.forall_mem_cons.2 ⟨qm (by decide),List.forall_mem_cons.2 ⟨qm (by decide),List.forall_mem_cons.2 ⟨qm (by decide),λ_ h=>nomatch h⟩⟩⟩),sj (l:=[[41]]) (List.forall_mem_cons.2 ⟨qm (by decide),λ_ h=>nomatch h⟩)]
  rfl
theorem Si {ps:List Pz} (hc:c≤2) (hl:as.length=c) (h:∀p∈ps,l9 c p):∃g,iy (kA c) (as.map wA) g (bq ps)=some (bq (ps.map (fP as))):=by
 have hf:=λp hp=>((h p hp).full hc).pf
 have hn:(as.map wA).length=(kA c).length:=by rw [List.length_map,hl,As hc]
 have q:=ZF (ac:=[]) (s:=[]) (f:=1) hn rfl (xR (λ_=>rfl) G1 λp hp=>(hf p hp).t)
 rw [List.append_nil,List.append_nil,wm λp hp=>(hf p hp).tf,GO (qm (by decide)),wm (h:=λp=>wP (fP as p)) λp hp=>TH hc (h p hp)] at q
 exact ⟨_,q.trans (congrArg (λl=>some (cv [32] l)) (List.map_map (f:=fP as) (g:=wP)).symm)⟩
end
noncomputable def BY (M:bz) (d u:Nat) (r:List Nat) (e:Nat):ER→Prop
 | .ok s u1=>Us M d u r (.ok s e u1)
 | .err k _=>Us M d u r (.err k)
noncomputable def xH (M:bz) (d u n:Nat) (t:List Nat):RR→Prop
 | .ok rows u1=>rows.length=n∧Pc M d u t (.ok (cv [32] rows) u1)
 | .err k _=>Pc M d u t (.err k)
noncomputable def An (M:bz) (d u:Nat) (t ac:List Nat):ER→Prop
 | .ok s u1=>∀res,Pc M d u1 ac res→Pc M d u (t++ac) (res.pre s)
 | .err k _=>Pc M d u (t++ac) (.err k)
noncomputable def Bl (M:bz) (d:Nat) (go:Go):Prop:=∀u nm as r e,jl nm as→j3 r nm as e→BY M d u r e (go u nm as)
section
variable {M:bz} {d u:Nat} {ac:List Nat} {res:PR}
theorem Qt {a b:List Nat}:∀{r:PR},(r.pre b).pre a=r.pre (a++b)
 | .ok _ _=>congrArg (PR.ok · _) (List.append_assoc ..).symm
 | .err _=>rfl
theorem VU:∀{r:PR},r.pre []=r
 | .ok _ _=>rfl
 | .err _=>rfl
theorem Vj (h:Pc M d u ac res) {ts:List (List Nat)} (ht:eN a8 ac ts):(∀t∈ts,t.head?≠some 96)→Pc M d u (ts.flatten++ac) (res.pre ts.flatten):=by
 induction ht with
 |nil=>exact λ_=>VU.symm▸h
 |@cons c t ts e _ ih=>
   intro hf
   have q:=Mu e
   have r:=Pc.tok (M:=M) (d:=d) (u:=u) (c:=c) (r:=t++(ts.flatten++ac)) (res:=res.pre ts.flatten) (λq=>hf _ (.head _) (congrArg some q)) (show Pc M d u ((c::t++(ts.flatten++ac)).drop (a8 (c::t++(ts.flatten++ac)))) _ from q.2.symm▸ih λx hx=>hf x (.tail _ hx))
   rw [show (c::(t++(ts.flatten++ac))).take (a8 (c::(t++(ts.flatten++ac))))=c::t from q.1,Qt] at r
   exact (List.append_assoc (c::t) ts.flatten ac).symm▸r
theorem VW:mB.all (λs=>(lR (.txt s)).all λt=>decide (t.head?≠some 96))=true:=by decide +kernel
theorem Iw {go:Go} {nm t:List Nat} {as:List A0} (h:BY M d u (t++ac) t.length (go u nm as)):An M d u (96::t) ac (go u nm as):=by
 revert h
 generalize go u nm as=o
 cases o with
 |ok s u1=>exact λh res hr=> .use h (List.drop_left.symm▸hr)
 |err k u1=>exact λh=> .err h
theorem K7 {go:Go} (jI:Bl M d go) (hs:Sep ac) {p:Pz} (h:kj p):An M d u (wP p) ac (pN go u p):=h.el (P:=λp=>An M d u (wP p) ac (pN go u p))
  (λs JT res hr=>have f:=j0.f (ir.full (x:= .txt s) JT)
    (show (lR (.txt s)).flatten=s from qk f.w)▸Vj hr (tc u9 hs f.w) λt ht=>ado (List.all_eq_true.1 (List.all_eq_true.1 VW s JT) t ht))
 (λnm hn=>Iw (jI u nm [] _ _ (tj nm hn) (Ot hn hs))) λx hx=>Iw (jI u nF [x] _ _ (uw hx) (QS hx.full hs))
theorem abk {s:List Nat}:∀{rows:List (List Nat)},0<rows.length→cv [32] ([s]++rows)=s++([32]++cv [32] rows)
 |_::_,_=>List.append_assoc ..
theorem Ge {go:Go} (jI:Bl M d go):∀(ps:List Pz) (u:Nat),(∀p∈ps,kj p)→xH M d u ps.length (bq ps) (ft go u ps)
 |[],u,_=>⟨rfl,.nil⟩
 |[p],u,h=>by
  have q:=K7 (u:=u) jI G1 (h p (.head _))
  show xH M d u 1 (wP p) ((pN go u p).qb λs u1=> .ok [s] u1)
  generalize pN go u p=o at q ⊢
  cases o with
  |ok s u1=>exact ⟨rfl,List.append_nil (wP p)▸List.append_nil s▸q (.ok [] u1) .nil⟩
  |err k u1=>exact List.append_nil (wP p)▸q
 |p::q::r,u,h=>by
  have a:=K7 (u:=u) (ac:=[32]++bq (q::r)) jI vT (h p (.head _))
  have ih:=λu=>Ge jI (q::r) u λx hx=>h x (.tail _ hx)
  rw [yS]
  show xH M d u _ _ ((pN go u p).qb λs u1=>(ft go u1 (q::r)).pre [s])
  generalize pN go u p=o at a ⊢
  cases o with
  |err k u1=>exact a
  |ok s u1=>
   have b:=ih u1
   show xH M d u _ _ ((ft go u1 (q::r)).pre [s])
   generalize ft go u1 (q::r)=o at b ⊢
   have sp:∀{res:PR},Pc M d u1 (bq (q::r)) res→Pc M d u1 ([32]++bq (q::r)) (res.pre [32]):=λh=> .tok (by decide) h
   cases o with
   |err k u2=>exact a _ (sp b)
   |ok rows u2=>
    refine ⟨congrArg (· +1) b.1,?_⟩
    rw [abk (adl (Nat.succ_pos _) (adt b.1.symm))]
    exact a _ (sp b.2)
end
theorem yK {ps:List Pz} (hl:ps.length≤3) (h:∀p∈ps,jO p):gZ (bq ps):=
 ⟨adk (BS (b:=10) (λp hp=>(h p hp).pf.l) hl) (by decide),Bp qs (λa b ha hb=>ha.append (t7.append hb)) λp hp=>(h p hp).pf.a⟩
theorem aba:∀{p:Pz},l9 0 p→fP [] p=p
 | .a (.txt _),_ | .a (.use _),_ | .call _ (.txt _),_ | .call _ (.use _),_=>rfl
 | .a (.cW _),h=>absurd h (Nat.not_lt_zero _)
 | .call _ (.cW _),h=>absurd h.2 (Nat.not_lt_zero _)
theorem aaY:hZ.all (λx=>decide (x∉gL)&&(!x.isEmpty&&(decide (cnt x≤2)&&(decide (x∉dN)&&decide (x∉iY)))))=true:=by decide +kernel
structure uo (nm:List Nat):Prop where
 r:nm∉gL
 e:nm≠[]
 c:cnt nm≤2
 n1:nm∉dN
 n2:nm∉iY
theorem xI {nm:List Nat} (h:nm∈hZ):uo nm:=have q:=List.all_eq_true.1 aaY nm h
 ⟨ado (bp q),(λe=>nomatch (e▸bp (aW q):(!([]:List Nat).isEmpty)=true)),ado (bp (aW (aW q))),ado (bp (aW (aW (aW q)))),ado (aW (aW (aW (aW q))))⟩
section
variable {M:iW} {d u:Nat} {nm r:List Nat} {as:List A0} {e f:Nat} {ps:List Pz}
theorem w8 (h:uo nm) (t:j3 r nm as e):¬dS r:=by
 unfold dS
 rw [t.n1,t.n2]
 exact λq=>q.elim h.r h.e
theorem M5 (t:j3 r nm as e) (h:a6 M nm=some ps):a6 (da M) (r.take (aC r))=some ⟨iN nm,bq ps⟩:=by rw [t.n1,t.n2,rP,h];rfl
theorem Ta (h:uo nm) (t:j3 r nm as e) (hg:a6 M nm=some ps) (m:yX nm ps) (hG:jl nm as) (hd:¬(20≤d∨1000≤u)):oh (da M) d u r (bq (ps.map (fP as))) e:=by
 have g:=M5 t hg
 by_cases hc:cnt nm=0
 ·have ha:as=[]:=List.eq_nil_of_length_eq_zero (hG.l.trans hc)
  rw [ha,sj λp hp=>aba (hc▸m.p p hp)]
  rw [iN,if_pos hc] at g
  exact .plain (w8 h t) g hd ((t.pl hc).trans t.n1.symm)
 ·rw [iN,if_neg hc] at g
  exact (Si h.c hG.l m.p).elim λw hw=> .args 60 w _ _ _ (w8 h t) g hd (by rw [t.n1];exact t.ar hc) (λq=>hc (by
   have:=congrArg List.length q
   rw [As h.c] at this
   exact this)) (by rw [List.length_map,hG.l,As h.c]) (yK m.l λp hp=>(m.p p hp).full h.c) hw
theorem E4 (hM:gH M):∀(f d:Nat),f+d=20→Bl (da M) d (d7 M f)
 |f,d,gP=>λu nm as r e hG ht=>by
  have hn:=xI hG.m
  have pC:=rD hM f u nm as hG
  revert pC
  refine rJ (P:=λo=>mN u o→BY (da M) d u r e o) (λg _=> .err (.undef (w8 hn ht) (by rw [ht.n1,ht.n2,rP,g];rfl) rfl)) (λps g q _=> .err (.ou _ (w8 hn ht) (M5 ht g) (q.imp_left λe=>by rw [e,Nat.zero_add] at gP;exact adt gP.symm) rfl)) λps g hg ef hu pC=>?_
  have m:=hM _ (r8 hg)
  have gd:=ye hG.g (hG.l.symm▸m.p)
  have hr:=Ge (E4 hM g (d+1) (by rw [←gP,ef,Nat.add_right_comm,Nat.add_assoc])) (ps.map (fP as)) (u+1) gd
  have ub:=Ta hn ht hg m hG (λq=>q.elim (Nr (ef▸gP)) hu)
  have tx:=yK (ps:=ps.map (fP as)) (adk (adt (List.length_map _)) m.l) λp hp=>(gd p hp).full
  generalize ft (d7 M g) (u+1) (ps.map (fP as))=o at hr pC ⊢
  cases o with
  |err k u1=>exact .body (res:= .err k) ub tx trivial hr
  |ok rows u1=>exact .body (res:= .ok (cv [32] rows) u1) ub tx (adk (adk (adk (adn _ _) (adn _ _)) pC.1) (adk (Nat.mul_le_mul_left 40 pC.2) (dm▸by decide))) hr.2
termination_by f=>f
decreasing_by rw [ef];exact adu _
end
abbrev f6:=List (Nat×Bool×Bool×Bool)
noncomputable def St (s:PS) (a:Nat) (w:List Nat) (s':PS) (ac:List Nat):Prop:=∀res,Xp s' (a+w.length) ac res→Xp s a (w++ac) res
section
variable {s s' bY:PS} {a:Nat} {w v ac x y:List Nat} {ts:List (List Nat)}
theorem St.app (h:St s a w s' (v++ac)) (h2:St s' (a+w.length) v bY ac):St s a (w++v) bY ac:=λres hx=>List.append_assoc w v ac▸h _ (h2 _ (by rw [Nat.add_assoc, ←List.length_append];exact hx))
theorem St.to (h:St s a w s' ac) (e:s'=bY):St s a w bY ac:=e▸h
theorem lL:s.emit []=s:=by
 show ({s with out:=s.out++if s.aM=true then [] else []}:PS)=s
 rw [ite_self,List.append_nil]
theorem jF:(s.emit x).emit y=s.emit (x++y):=by
 show ({s with out:=(s.out++if s.aM=true then x else _)++if s.aM=true then y else _}:PS)={s with out:=s.out++if s.aM=true then x++y else _}
 rw [List.append_assoc]
 by_cases q:s.aM=true
 ·rw [if_pos q,if_pos q,if_pos q]
 ·rw [if_neg q,if_neg q,if_neg q,List.count_append,List.replicate_append_replicate]
theorem xk (ha:s.aM=false) (h:x.count 10=y.count 10):s.emit x=s.emit y:=by
 unfold PS.emit
 rw [ha,h];rfl
theorem Y6 (ha:s.aM=false) (h:x.count 10=0):s.emit x=s:=(xk (y:=[]) ha h).trans lL
theorem St.nil:St s a [] s ac:=λ_ h=>h
theorem sE {c:Nat} {t:List Nat} (hc:c≠96) (e:mV (c::t++ac)=(c::t).length):St s a (c::t) (s.emit (c::t)) ac:=λres hx=>by
 refine .tok (c:=c) (r:=t++ac) (w:=(c::t).length) hc e.symm ?_
 rw [show (c::(t++ac)).take (c::t).length=c::t from List.take_left (l₁:=c::t),show (c::(t++ac)).drop (c::t).length=ac from List.drop_left (l₁:=c::t)]
 exact hx
theorem St.dir {r:List Nat} {n:Nat} (hd:Dr s a r (.ok s' n)) (hr:r=w++ac) (hn:n=w.length):St s a (96::w) s' ac:=λres hx=>by
 subst hr hn
 refine .dir hd ?_
 rw [show (w.append ac).drop w.length=ac from List.drop_left,Nat.add_assoc,Nat.add_comm 1]
 exact hx
theorem St.toks (ht:eN mV ac ts):∀{s:PS} {a:Nat},(∀t∈ts,t.head?≠some 96)→St s a ts.flatten (s.emit ts.flatten) ac:=by
 induction ht with
 |nil=>exact λ_=>St.nil.to lL.symm
 |@cons c t ts e _ ih=>exact λh=>((sE (λq=>h _ (.head _) (congrArg some q)) e).app (ih λx hx=>h x (.tail _ hx))).to jF
theorem PG {c:Nat} {t:List Nat} (h:mT (c::t)=true) (q:c=96):t∉dN∧t.count 10=0:=by
 subst q
 have h:(decide (t∉dN)&&(96::t).count 10==0)=true:=h
 exact ⟨ado (bp h),(eq_of_beq (aW h):(96::t).count 10=0)⟩
theorem St.off (ht:eN fO ac ts):∀{s:PS} {a:Nat},s.aM=false→(∀t∈ts,mT t=true)→St s a ts.flatten (s.emit ts.flatten) ac:=by
 induction ht with
 |nil=>exact λ_ _=>St.nil.to lL.symm
 |@cons c t ts e _ ih=>
  intro s a ha h
  refine ((?_:St s a (c::t) (s.emit (c::t)) (ts.flatten++ac)).app (ih ha λx hx=>h x (.tail _ hx))).to jF
  by_cases q:c=96
  ·have o:=PG (h _ (.head _)) q
   have n:aC (t++(ts.flatten++ac))=t.length:=Nat.add_left_cancel (n:=1) ((if_pos q).symm.trans (e.trans (Nat.add_comm t.length 1)))
   rw [q]
   exact (St.dir (r:=t++(ts.flatten++ac)) (.off (by rw [n,List.take_left];exact o.1) ha rfl) rfl n).to (Y6 ha (show (96::t).count 10=0 from o.2)).symm
  ·exact sE q ((if_neg q).symm.trans e)
noncomputable def qF (d w:List Nat):Bool:=pX mV d (ff mV 60 w)&&((ff mV 60 w).flatten==w&&(ff mV 60 w).all λt=>decide (t.head?≠some 96))
theorem uU (h:qF (ac.take 1) w=true):St s a w (s.emit w) ac:=by
 have q:=St.toks (s:=s) (a:=a) (uM BV (bp h)) λt ht=>ado (List.all_eq_true.1 (aW (aW h)) t ht)
 rw [Dy (bp (aW h))] at q
 exact q
theorem jW:St s a [10] (s.emit [10]) ac:=sE (t:=[]) (by decide) rfl
theorem zg (h:qF [10] w=true):St s a (w++[10]) (s.emit (w++[10])) ac:=((uU (show qF (([10]++ac).take 1) w=true from h)).app jW).to jF
noncomputable def mQ (d w:List Nat):Bool:=pX fO d (ff fO 60 w)&&((ff fO 60 w).flatten==w&&(ff fO 60 w).all mT)
theorem MJ (ha:s.aM=false) (h:mQ (ac.take 1) w=true):St s a w (s.emit w) ac:=by
 have q:=St.off (uM vp (bp h)) (s:=s) (a:=a) ha (List.all_eq_true.1 (aW (aW h)))
 rw [Dy (bp (aW h))] at q
 exact q
theorem OS (ha:s.aM=false) (h:mQ [10] w=true):St s a (w++[10]) (s.emit (w++[10])) ac:=((MJ ha (show mQ (([10]++ac).take 1) w=true from h)).app jW).to jF
end
theorem RO:(dN++iY).all (λw=> !w.isEmpty&&(aC (w++[32])==w.length&&aC (w++[10])==w.length))=true:=by decide +kernel
theorem Xr {kw u:List Nat} (h:kw∈dN++iY) (hu:u.take 1=[32]∨u.take 1=[10]):aC (kw++u)=kw.length:=by
 have q:=List.all_eq_true.1 RO kw h
 have e:aC (kw++u.take 1)=kw.length:=hu.elim (λe=>e▸eq_of_beq (bp (aW q))) λe=>e▸eq_of_beq (aW (aW q))
 match u,kw,q,e with
 |[],_,_,e=>exact e
 |d::r,c::t,_,e=>exact (CV (c::t) (λq=>nomatch q) (adt e)).trans e
structure P6 (kw u:List Nat):Prop where
 n:aC (kw++u)=kw.length
 t:(kw++u).take (aC (kw++u))=kw
 d:(kw++u).drop (aC (kw++u))=u
theorem wH {kw u:List Nat} (h:kw∈dN++iY) (hu:u.take 1=[32]∨u.take 1=[10]):P6 kw u:=have n:=Xr h hu
 ⟨n,by rw [n];exact List.take_left,by rw [n];exact List.drop_left⟩
noncomputable def gS:List (List Nat):=[nA,nB,nC,nF,nZ]
structure WQ (nm:List Nat):Prop where
 l:nm.length=1
 b:∀r,cB (32::(nm++10::r))=1
 n:∀r,bB (32::(nm++10::r))=1
 w:∀r,eJ (32::(nm++10::r))=nm
theorem wR:∀nm∈gS,WQ nm:=List.forall_mem_cons.2 ⟨⟨rfl,λ_=>rfl,λ_=>rfl,λ_=>rfl⟩,List.forall_mem_cons.2 ⟨⟨rfl,λ_=>rfl,λ_=>rfl,λ_=>rfl⟩,List.forall_mem_cons.2 ⟨⟨rfl,λ_=>rfl,λ_=>rfl,λ_=>rfl⟩,List.forall_mem_cons.2 ⟨⟨rfl,λ_=>rfl,λ_=>rfl,λ_=>rfl⟩,List.forall_mem_cons.2 ⟨⟨rfl,λ_=>rfl,λ_=>rfl,λ_=>rfl⟩,λ_ h=>nomatch h⟩⟩⟩⟩⟩
noncomputable def cX (W:LW) (cs:f6):PS:=⟨da W.aL,W.bT,W.dT,cs,W.aM,W.uses⟩
noncomputable def s0 (M:bz):PS:=⟨M,[],[],[],true,0⟩
structure bV (M0:bz) (W:LW) (cs:f6):Prop where
 f:W.fault=none
 u:W.uses≤1000
 h:∀ac,St (s0 M0) 0 W.text (cX W cs) ac
inductive kR (M0:bz) (W:LW):Prop where
 |mk (k:List Nat) (p:Nat) (f:W.fault=some (k,p)) (a:a9 k) (h:Xp (s0 M0) 0 W.text (.err k p)):kR M0 W
section
variable {M0:bz} {W W':LW} {cs cs':f6} {w nm:List Nat} {o y:Bool} {a:Nat}
theorem bV.go (h:bV M0 W cs) (f:W'.fault=none) (u:W'.uses≤1000) (t:W'.text=W.text++w) (k:∀ac,St (cX W cs) W.text.length w (cX W' cs') ac):bV M0 W' cs':=⟨f,u,λac=>t▸(h.h _).app ((Nat.zero_add W.text.length).symm▸k ac)⟩
theorem bV.err (h:bV M0 W cs) {k:List Nat} {p:Nat} (f:W'.fault=some (k,p)) (ha:a9 k) (t:W'.text=W.text++w) (hx:Xp (cX W cs) W.text.length w (.err k p)):kR M0 W':=⟨_,_,f,ha,t▸h.h w _ ((Nat.zero_add W.text.length).symm▸hx)⟩
noncomputable def pF:List (List Nat):=[[97,32,60,61,32,98,59],[34,96,105,102,100,101,102,32,65,32,92,34,32,47,47,34],[92,96,66,32,120],[47,42,32,96,101,110,100,105,102,10,32,96,90,32,42,47],[47,47,32,96,101,108,115,101]]
noncomputable def Ar (W:LW) (row:List Nat):LW:=W.emit (row++[10]) (row++[10])
theorem Q7:pF.all (qF [10])=true:=by decide +kernel
theorem U4 {row:List Nat} (hr:row∈pF) (h:bV M0 W cs):bV M0 (Ar W row) cs:=h.go h.f h.u rfl λ_=>zg (List.all_eq_true.1 Q7 row hr)
noncomputable def sZ (word nm:List Nat):List Nat:=[96]++word++[32]++nm
noncomputable def ni (W:LW) (word nm:List Nat) (act:Bool):LW:=({(W.emit [32,32] [32,32]).emit (sZ word nm) [] with aM:=act}:LW).emit [10] [10]
theorem LS {word ac:List Nat}:word++(32::(nm++10::ac))=word++(32::nm)++(10::ac):=(List.append_assoc word (32::nm) (10::ac)).symm
theorem Dd {word:List Nat} (h:nm.length=1):word.length+(1+1)=(word++(32::nm)).length:=by rw [List.length_append,List.length_cons,h]
theorem Fg {s s1:PS} {word ac:List Nat} (hn:nm∈gS) (hw:word∈dN) (hC:∀r,eJ r=nm→0<bB r→Cn s a r word (.ok s1 (cB r+bB r))):St s a (96::(word++(32::nm))) s1 (10::ac):=
 have o:=wR nm hn
 have k:=wH (u:=32::(nm++10::ac)) (List.mem_append_left iY hw) (.inl rfl)
 St.dir (.cond word (.ok s1 (1+1)) k.t hw (by
  have c:=hC (32::(nm++10::ac)) (o.w ac) (o.n ac▸Nat.zero_lt_one)
  rw [o.n,o.b] at c
  rw [k.d];exact c) (by rw [k.n];rfl)) LS (Dd o.l)
theorem HU {word:List Nat} {act:Bool} (h:bV M0 W cs) (hn:nm∈gS) (hw:word∈dN) (hC:∀r,eJ r=nm→0<bB r→Cn ((cX W cs).emit [32,32]) (W.text.length+2) r word (.ok {(cX W cs).emit [32,32] with bu:=cs',aM:=act} (cB r+bB r))):bV M0 (ni W word nm act) cs':=
 h.go (w:=[32,32]++((96::(word++(32::nm)))++[10])) h.f h.u (by
  show ((W.text++[32,32])++([96]++word++[32]++nm))++[10]=_
  simp only [List.append_assoc,List.cons_append,List.nil_append]) λac=>((uU (show qF ((((96::(word++(32::nm)))++[10])++ac).take 1) [32,32]=true from rfl)).app ((Fg hn hw hC).app jW)).to (by
  show ({(cX W cs).emit [32,32] with bu:=cs',aM:=act}:PS).emit [10]=({((cX W cs).emit [32,32]).emit [] with bu:=cs',aM:=act}:PS).emit [10]
  rw [lL])
theorem MY {w:Bool} (h:bV M0 W cs) (hn:nm∈gS):bV M0 (ni W (if w then gb else fZ) nm (W.aM&&((a6 W.aL nm).isSome==w))) ((W.text.length+2,W.aM,(a6 W.aL nm).isSome==w,false)::cs):=
 HU h hn (match w with
  |true=> .head _
  |false=> .tail _ (.head _)) λr e ho=> .yQ w _ rfl ho (by
   rw [e]
   show _=((a6 (da W.aL) nm).isSome==w)
   rw [rP,Option.isSome_map]) rfl
theorem Vu (h:bV M0 W ((a,o,y,false)::cs)) (hn:nm∈gS):bV M0 (ni W oF nm (o&&((a6 W.aL nm).isSome&& !y))) ((a,o,y||(a6 W.aL nm).isSome,false)::cs):=
 HU h hn (.tail _ (.tail _ (.head _))) λr e ho=> .E5 a o y _ cs rfl rfl ho (by
   rw [e]
   show _=(a6 (da W.aL) nm).isSome
   rw [rP,Option.isSome_map]) rfl
noncomputable def xp:List Nat:=[32,47,47,96,101,110,100,105,102]
noncomputable def CC (W:LW) (act:Bool):LW:=({W.emit (96::ib) [] with aM:=act}:LW).emit (xp++[10]) (xp++[10])
noncomputable def M8 (W:LW) (act:Bool):LW:=({W.emit (96::jD) [] with aM:=act}:LW).emit [10] [10]
theorem Dt {s s1:PS} {word ac:List Nat} (hw:word∈dN) (hr:ac.take 1=[32]∨ac.take 1=[10]) (hC:Cn s a ac word (.ok s1 0)):St s a (96::word) s1 ac:=
 have k:=wH (u:=ac) (List.mem_append_left iY hw) hr
 St.dir (.cond word (.ok s1 0) k.t hw (k.d.symm▸hC) (by rw [k.n];rfl)) rfl (Nat.add_zero _)
theorem Qk (h:bV M0 W ((a,o,y,false)::cs)):bV M0 (CC W (o&& !y)) ((a,o,true,true)::cs):=
 h.go (w:=(96::ib)++(xp++[10])) h.f h.u (List.append_assoc ..) λac=>((Dt (s1:={cX W ((a,o,y,false)::cs) with bu:=(a,o,true,true)::cs,aM:=o&& !y}) (.tail _ (.tail _ (.tail _ (.head _)))) (.inl rfl) (.eP a o y cs rfl rfl rfl)).app (zg rfl)).to (by
  show _=({(cX W ((a,o,y,false)::cs)).emit [] with bu:=(a,o,true,true)::cs,aM:=o&& !y}:PS).emit (xp++[10])
  rw [lL])
theorem Vf {z:Bool} (h:bV M0 W ((a,o,y,z)::cs)):bV M0 (M8 W o) cs:=
 h.go (w:=(96::jD)++[10]) h.f h.u (List.append_assoc ..) λac=>((Dt (s1:={cX W ((a,o,y,z)::cs) with bu:=cs,aM:=o}) (.tail _ (.tail _ (.tail _ (.tail _ (.head _))))) (.inr rfl) (.Dm a o y z cs rfl rfl rfl)).app jW).to (by
  show _=({(cX W ((a,o,y,z)::cs)).emit [] with bu:=cs,aM:=o}:PS).emit [10]
  rw [lL])
end
theorem GC {nm:List Nat}:∀{M:iW},da (fg M nm)=fg (da M) nm
 |[]=>rfl
 |(x,ps)::r=>(apply_ite da _ _ _).trans (by
  show (if x=nm then da r else (x,_)::da (fg r nm))=if x=nm then da r else (x,_)::fg (da r) nm
  rw [GC])
theorem LB {nm:List Nat} {ps:List Pz}:∀{M:iW},da (dZ M nm ps)=dZ (da M) nm ⟨iN nm,bq ps⟩
 |[]=>rfl
 |(x,v)::r=>(apply_ite da _ _ _).trans (by
  show (if x=nm then (x,(⟨iN x,bq ps⟩:MV))::da r else (x,_)::da (dZ r nm ps))=if x=nm then (x,⟨iN nm,bq ps⟩)::da r else (x,_)::dZ (da r) nm ⟨iN nm,bq ps⟩
  rw [LB]
  by_cases q:x=nm
  ·rw [if_pos q,if_pos q,q]
  ·rw [if_neg q,if_neg q])
section
variable {M0:bz} {W W':LW} {cs cs':f6} {w nm:List Nat} {a:Nat}
theorem bV.off (h:bV M0 W cs) (ha:W.aM=false) (hw:(mQ [10] w&&w.count 10==0)=true) (f:W'.fault=none) (u:W'.uses≤1000) (t:W'.text=W.text++(w++[10])) (e:cX W' cs=(cX W cs).emit [10]):bV M0 W' cs:=
 h.go f u t λ_=>(OS ha (bp hw)).to ((xk ha (by rw [List.count_append,show w.count 10=0 from eq_of_beq (aW hw)];rfl)).trans e.symm)
noncomputable def nP (nm:List Nat):List Nat:=96::(qW++(32::nm))
noncomputable def ua (W:LW) (nm:List Nat):LW:=(W.emit (nP nm) []).emit [10] [10]
noncomputable def pd (W:LW) (nm:List Nat):LW:=if W.aM=true then {ua W nm with aL:=fg W.aL nm} else ua W nm
theorem ZS:gS.all (λnm=>mQ [10] (nP nm)&&(nP nm).count 10==0)=true:=by decide +kernel
theorem Ti {s:PS} {ac:List Nat} (hn:nm∈gS) (ha:s.aM=true):St s a (nP nm) {s with aL:=fg s.aL nm} (10::ac):=
 have o:=wR nm hn
 have k:=wH (kw:=qW) (u:=32::(nm++10::ac)) (List.mem_append_right dN (.tail _ (.head _))) (.inl rfl)
 St.dir (n:=qW.length+(1+1)) (.undef (32::(nm++10::ac)) ha k.t k.d (o.n ac▸Nat.zero_lt_one) (by rw [k.n,o.b,o.n,o.w])) LS (Dd o.l)
theorem Sd (h:bV M0 W cs) (hn:nm∈gS):bV M0 (pd W nm) cs:=by
 unfold pd
 by_cases ha:W.aM=true
 ·rw [if_pos ha]
  exact h.go (w:=nP nm++[10]) h.f h.u (List.append_assoc ..) λac=>((Ti hn ha).app jW).to (by
   show ({cX W cs with aL:=fg (da W.aL) nm}:PS).emit [10]=({((cX W cs).emit []) with aL:=da (fg W.aL nm)}:PS).emit [10]
   rw [lL,GC])
 ·rw [if_neg ha]
  exact h.off (Bool.eq_false_iff.2 ha) (List.all_eq_true.1 ZS nm hn) h.f h.u (List.append_assoc ..) (congrArg (PS.emit · [10]) (lL (s:=cX W cs)))
noncomputable def m8:List (List Nat×Nat×List Nat):=[([96,116,105,109,101,115,99,97,108,101,32,49,110,115,32,47,32,49,112,115],10,[]),([96,100,101,102,97,117,108,116,95,110,101,116,116,121,112,101,32,110,111,110,101],16,[110,111,110,101]),([96,114,101,115,101,116,97,108,108],9,[119,105,114,101]),([96,99,101,108,108,100,101,102,105,110,101],11,[])]
noncomputable def lz (W:LW) (word:List Nat):LW:=if W.aM=true∧word≠[] then {W with bT:=W.bT++[(W.dT.length,word)]} else W
noncomputable def rZ (W:LW) (x:List Nat×Nat×List Nat):LW:=((lz W x.2.2).emit (x.1.take x.2.1) []).emit (x.1.drop x.2.1++[10]) [10]
theorem Q0:m8.all (λx=>mQ [10] x.1&&x.1.count 10==0)=true:=by decide +kernel
theorem vX (h:¬W.aM=true∨w=[]):lz W w=W:=if_neg λq=>h.elim (λh=>h q.1) q.2
theorem BG (h:W.aM=true) (hw:w≠[]):lz W w={W with bT:=W.bT++[(W.dT.length,w)]}:=if_pos ⟨h,hw⟩
noncomputable def SP (x:List Nat×Nat×List Nat):Prop:=∀(W:LW) (cs:f6) (a:Nat) (ac:List Nat),W.aM=true→St (cX W cs) a x.1 (cX (lz W x.2.2) cs) (10::ac)
theorem Xb:∀x∈m8,SP x:=List.forall_mem_cons.2 ⟨λW cs a ac ha=>(St.dir (w:=qD++[32,49,110,115,32,47,32,49,112,115]) (ac:=10::ac) (n:=9+10) (r:=qD++([32,49,110,115,32,47,32,49,112,115]++10::ac)) (.time _ ha rfl rfl rfl) rfl rfl).to (congrArg (cX · cs) (vX (.inr rfl)).symm),List.forall_mem_cons.2 ⟨λW cs a ac ha=>(St.dir (w:=tp++[32,110,111,110,101]) (ac:=10::ac) (n:=15+5) (r:=tp++([32,110,111,110,101]++10::ac)) (.GX ([32,110,111,110,101]++10::ac) ha rfl rfl (Nat.lt_of_lt_of_eq (by decide:0<4) (show 4=bB ([32,110,111,110,101]++10::ac) from rfl)) rfl) rfl rfl).to (congrArg (cX · cs) (BG (w:=[110,111,110,101]) ha (by decide)).symm),
 List.forall_mem_cons.2 ⟨λW cs a ac ha=>(St.dir (w:=uu) (ac:=10::ac) (r:=uu++10::ac) (.reset ha rfl rfl) rfl rfl).to (congrArg (cX · cs) (BG (w:=vE) ha (by decide)).symm),List.forall_mem_cons.2 ⟨λW cs a ac ha=>(St.dir (w:=uj) (ac:=10::ac) (r:=uj++10::ac) (.cell ha rfl rfl) rfl rfl).to (congrArg (cX · cs) (vX (.inr rfl)).symm),λ_ h=>nomatch h⟩⟩⟩⟩
structure Hw (W W':LW):Prop where
 t:W'.text=W.text
 d:W'.dT=W.dT
 f:W'.fault=W.fault
 u:W'.uses=W.uses
 a:W'.aM=W.aM
theorem Gq:Hw W (lz W w):=gc (P:=Hw W) (λ_=>⟨rfl,rfl,rfl,rfl,rfl⟩) λ_=>⟨rfl,rfl,rfl,rfl,rfl⟩
theorem PZ {x:List Nat×Nat×List Nat} (h:bV M0 W cs) (hx:x∈m8):bV M0 (rZ W x) cs:=by
 have s:=Gq (W:=W) (w:=x.2.2)
 have t:(rZ W x).text=W.text++(x.1++[10]):=by
  show ((lz W x.2.2).text++x.1.take x.2.1)++(x.1.drop x.2.1++[10])=_
  rw [s.t,List.append_assoc, ←List.append_assoc (x.1.take x.2.1),List.take_append_drop]
 have e:cX (rZ W x) cs=(cX (lz W x.2.2) cs).emit [10]:=congrArg (·.emit [10]) (lL (s:=cX (lz W x.2.2) cs))
 have u:(rZ W x).uses≤1000:=s.u.symm▸h.u
 by_cases ha:W.aM=true
 ·exact h.go (s.f.trans h.f) u t λac=>((Xb x hx W cs W.text.length ac ha).app jW).to e.symm
 ·exact h.off (Bool.eq_false_iff.2 ha) (List.all_eq_true.1 Q0 x hx) (s.f.trans h.f) u t (by rw [e,vX (.inl ha)])
noncomputable def wT:List Nat:=[119,32]
noncomputable def cT:List Nat:=[32,59,10]
noncomputable def qO (W:LW) (nm:List Nat) (as:List A0) (wide:Bool):LW:=(td (W.emit wT wT) nm as wide).emit cT cT
theorem Pm (h:bV M0 W cs):bV M0 (W.emit wT wT) cs:=h.go h.f h.u rfl λac=>((uU (w:=[119]) (ac:=[32]++ac) rfl).app (sE (t:=[]) (by decide) rfl)).to jF
theorem FW {s:PS} {ac:List Nat}:St s a cT (s.emit cT) ac:=((uU (w:=[32,59]) (ac:=[10]++ac) rfl).app jW).to jF
noncomputable def jy {α:Type} (u:Nat):EO α→Prop
 | .ok _ _=>True
 | .err k u1=>a9 k∧u≤u1∧u1≤1001
noncomputable def Fj (go:Go):Prop:=∀u nm as,u≤1000→jl nm as→jy u (go u nm as)
theorem IH {u u1:Nat} {l:List (List Nat)} (h:u≤u1):∀{R:RR},jy u1 R→jy u (R.pre l)
 | .ok _ _,_=>trivial
 | .err _ _,q=>⟨q.1,adk h q.2.1,q.2.2⟩
theorem PA {u u1:Nat} (h:u≤u1):∀{R:RR},jy u1 R→jy u R.k7
 | .ok _ _,_=>trivial
 | .err _ _,q=>⟨q.1,adk h q.2.1,q.2.2⟩
theorem JO {go:Go} (hl:Bk go) (jI:Fj go):∀(ps:List Pz) (u:Nat),u≤1000→(∀p∈ps,kj p)→jy u (ft go u ps)
 |[],_,_,_=>trivial
 |p::r,u,hu,hp=>
  have ih:=λu hu=>JO hl jI r u hu λq hq=>hp q (.tail _ hq)
  have use:∀nm as,jl nm as→jy u ((go u nm as).qb λs u1=>(ft go u1 r).pre [s]):=λnm as g=>G4 (λk u1 e=>(show jy u (EO.err (α:=List Nat) k u1) from e▸jI u nm as hu g)) λs u1 e=>have l:mN u (.ok s u1):=e▸hl u nm as g;IH (B2 l).2 (ih u1 l.2)
  (hp p (.head _)).el (P:=λp=>jy u (ft go u (p::r))) (λs _=>IH (adq u) (ih u hu)) (λnm h=>use nm [] (tj nm h)) λx h=>use nF [x] (uw h)
theorem Jj {M:iW} (hM:gH M):∀f,Fj (d7 M f):=λf=>by
 have undef:∀u,u≤1000→jy u (EO.err (α:=List Nat) mz u):=λu hu=>⟨cy rfl,adq _,Nat.le_succ_of_le hu⟩
 have ou:∀u,u≤1000→jy u (EO.err (α:=List Nat) kJ (u+1)):=λu hu=>⟨cy rfl,Nat.le_succ _,Nat.succ_le_succ hu⟩
 induction f with
 |zero=>exact λu nm as hu h=>rJ (λ_=>undef u hu) (λ_ _ _=>ou u hu) λ_ _ _ e=>nomatch e
 |succ f ih=>exact λu nm as hu h=>rJ (λ_=>undef u hu) (λ_ _ _=>ou u hu) λps g hg e hu=>Nat.succ.inj e▸PA (Nat.le_succ u) (JO (rD hM f) ih _ _ (Nat.lt_of_not_le hu) (ye h.g (h.l.symm▸(hM _ (r8 hg)).p)))
theorem j3.kw {r:List Nat} {as:List A0} {e:Nat} (ut:j3 r nm as e) (n:uo nm):r.take (aC r)∉dN∧r.take (aC r)∉iY:=by
 rw [ut.n1,ut.n2];exact ⟨n.n1,n.n2⟩
theorem Zx {as:List A0} {wide:Bool} {t x:List Nat} {u:Nat} {ac:List Nat} (f:KL nm as wide t) (n:uo nm) (ut:j3 (t++ac) nm as t.length) (ha:W.aM=true) (hu:Us (da W.aL) 0 W.uses (t++ac) (.ok x t.length u)) (hl:x.length≤40000):St (cX W cs) a (96::t) (cX (({W with uses:=u}:LW).emit (96::t) (x++dW (wN wide))) cs) ac:=by
 have e:dW (((t++ac).take t.length).count 10)=dW (wN wide):=by rw [List.take_left,f.c]
 have d:=Dr.use (s:=cX W cs) (a:=a) (r:=t++ac) x t.length u ha (ut.kw n).1 (ut.kw n).2 hu (List.length_append▸adn _ _) (by
  rw [e,List.length_append,dW,List.length_replicate]
  exact adk (Nat.add_le_add hl (show wN wide≤1 by cases wide<;>decide)) (dm▸by decide)) rfl
 rw [e] at d
 exact St.dir d rfl rfl
theorem Qz {as:List A0} {wide:Bool} (h:bV M0 W cs) (hu:gw nm as wide) (hM:gH W.aL):bV M0 (qO W nm as wide) cs∨kR M0 (qO W nm as wide):=by
 have hY:=Pm h
 have vz:gH (W.emit wT wT).aL:=hM
 unfold qO
 generalize W.emit wT wT=Y at hY vz
 have f:=hu.f
 have hG:=hu.good
 have n:=xI hG.m
 have ut:∀ac,j3 (gE (nm,as,wide)++(cT++ac)) nm as (gE (nm,as,wide)).length:=λac=>zf (show rR ((cT++ac).take 1) nm as (gE (nm,as,wide))=true from f.u)
 unfold td
 rw [f.r]
 by_cases ha:Y.aM=true
 ·rw [show jC Y nm as=d7 Y.aL 20 Y.uses nm as from if_pos ha]
  have C4:=λac=>E4 vz 20 0 rfl Y.uses nm as _ _ hG (ut ac)
  have le:=rD vz 20 Y.uses nm as hG
  have er:=Jj vz 20 Y.uses nm as hY.u hG
  generalize d7 Y.aL 20 Y.uses nm as=r at C4 le er ⊢
  cases r with
  |ok x u=>exact .inl (hY.go (w:=(96::gE (nm,as,wide))++cT) hY.f le.2 (List.append_assoc ..) λac=>(Zx f n (ut ac) ha (C4 ac) (adk (adk (adk (adn _ _) (adn _ _)) le.1) (Nat.mul_le_mul_left 40 le.2))).app FW)
  |err k u=>exact .inr (hY.err (w:=(96::gE (nm,as,wide))++cT) rfl er.1 (List.append_assoc ..) (.ii (.qM k ha ((ut []).kw n).1 ((ut []).kw n).2 (C4 []) rfl)))
 ·rw [show jC Y nm as= .ok [] Y.uses from if_neg ha]
  exact .inl (hY.go (w:=(96::gE (nm,as,wide))++cT) hY.f hY.u (List.append_assoc ..) λac=>((St.to (f.f▸St.off (ac:=cT++ac) (uM vp f.o) (s:=cX Y cs) (Bool.eq_false_iff.2 ha) (List.all_eq_true.1 f.k)) (xk (Bool.eq_false_iff.2 ha) (by
   rw [show (96::gE (nm,as,wide)).count 10=(gE (nm,as,wide)).count 10 from rfl,f.c]
   exact List.count_replicate_self.symm))).app FW))
end
theorem Yi {c:Nat} {r:List Nat} (h:c≠47):cp (c::r)=0:=
 have e:∀d,(c::r).take 2≠[47,d]:=λd q=>h (List.cons.inj q).1
 (if_neg (e 47)).trans (if_neg (e 42))
theorem Zv {c:Nat} {t:List Nat} (h:pb (c::t)=true):c≠10∧c≠92∧c≠47:=
 have f:∀{n:Nat},((c::t).head? !=some n)=true→c≠n:=λh q=>nomatch (q▸h:(((c::t).head? !=some c)=true)).symm.trans (bne_self_eq_false (some c))
 ⟨f (bp h),f (bp (aW h)),f (aW (aW h))⟩
theorem Q4 {f k c:Nat} {acc t r:List Nat} (h:pb (c::t)=true) (e:a8 (c::t++r)=(c::t).length):df (f+1) k acc (c::t++r)=df f (k+(c::t).length) (acc++(c::t)) r:=by
 have q:=Zv h
 have r0:cp (c::t++r)=0:=Yi q.2.2
 refine (if_neg q.1).trans ((if_neg (λx:0<cp (c::t++r)=>Nat.lt_irrefl 0 (Nat.lt_of_lt_of_eq x r0))).trans ((if_neg (λx:c=92∧(t++r).take 1=[10]=>q.2.1 x.1)).trans ((if_neg λx=>q.2.1 (List.cons.inj x).1).trans ?_)))
 show df f (k+a8 (c::t++r)) (acc++(c::t++r).take (a8 (c::t++r))) ((c::t++r).drop (a8 (c::t++r)))=_
 rw [e,List.take_left,List.drop_left]
theorem Pg {f k:Nat} {acc r:List Nat}:df (f+1) k acc (32::r)=df f (k+1) (acc++[32]) r:=rfl
theorem Oy {ac:List Nat} {ts:List (List Nat)} (h:eN a8 ac ts):(∀t∈ts,pb t=true)→∀f k acc,df (f+ts.length) k acc (ts.flatten++ac)=df f (k+ts.flatten.length) (acc++ts.flatten) ac:=by
 induction h with
 |nil=>exact λ_ f k acc=>by rw [List.flatten_nil,List.append_nil];rfl
 |@cons c t ts e _ ih=>
  intro hh f k acc
  rw [List.flatten_cons,List.append_assoc,List.length_cons, ←Nat.add_assoc,Q4 (hh _ (.head _)) e,ih (λx hx=>hh x (.tail _ hx)),List.append_assoc,List.length_append,Nat.add_assoc]
noncomputable def eF (w:List Nat):Bool:=match w with
 |[]=>false
 |c::_=> !dH c
theorem ya {w:List Nat}:∀n:Nat,(List.replicate n 32++w).dropWhile dH=w.dropWhile dH
 |0=>rfl
 |n+1=>ya n
theorem Me {x:List Nat}:∀{w:List Nat},eF w=true→(w++x).dropWhile dH=w++x
 |c::w,h=>by
  rw [List.cons_append,List.dropWhile_cons,if_neg (λq=>by rw [show eF (c::w)= !dH c from rfl,q] at h;exact nomatch h)]
theorem Py {w:List Nat} (a b:Nat) (h:w=[]∨ends w=true):cZ (List.replicate a 32++(w++List.replicate b 32))=w:=by
 unfold cZ
 rw [ya]
 exact h.elim (λe=>by rw [e,List.nil_append, ←List.append_nil (List.replicate b 32),ya];rfl) λe=>by
  rw [Me (bp e),List.reverse_append,List.reverse_replicate,ya, ←List.append_nil w.reverse,Me (aW e),List.append_nil,List.reverse_reverse]
theorem MC {x:List Nat}:∀{w:List Nat},eF w=true→eF (w++x)=true
 |_::_,h=>h
theorem YV {a b:List Nat} (h:ends a=true) (h2:ends b=true):ends (a++([32]++b))=true:=(Bool.and_eq_true ..).mpr ⟨MC (bp h),by
 show eF (a++([32]++b)).reverse=true
 rw [List.reverse_append,List.reverse_append,List.append_assoc];exact MC (aW h2)⟩
theorem Hz:∀(p:Pz) (r:List Pz),(∀x∈p::r,jO x)→ends (bq (p::r))=true
 |p,[],h=>(h p (.head _)).pf.e
 |p,q::r,h=>yS▸YV (h p (.head _)).pf.e (Hz q r λx hx=>h x (.tail _ hx))
theorem Wt:∀{ps:List Pz},(∀p∈ps,jO p)→bq ps=[]∨ends (bq ps)=true
 |[],_=> .inl rfl
 |p::r,h=> .inr (Hz p r h)
noncomputable def jq (way:Nat):List Nat:=if way=1 then [32,47,47,32,96,65] else if way=2 then [32,92,10,32] else []
structure TN (way:Nat):Prop where
 b:qA way=jq way++[10]
 n:dW ((fw way).count 10+(jq way).count 10)++[10]=iR way
 p:∀ac,Sep (jq way++10::ac)
 a:∀(s:PS) (a:Nat) (ac:List Nat),St s a (fw way) (s.emit (fw way)) ac
 c:qF [10] (jq way)=true
 x:∃j u,∀f k acc r,df (f+j) k acc (fw way++r)=df f (k+(fw way).length) (acc++List.replicate u 32) r
 y:∃j u,∀f k acc r,df (f+j) k acc (jq way++10::r)=some (acc++List.replicate u 32,k+(jq way).length)
theorem FQ:∀way,way<3→TN way:=cP ⟨rfl,rfl,λ_=>vT,λs a ac=>sE (c:=47) (t:=[42,32,112,32,42,47]) (by decide) rfl,by decide +kernel,⟨1,1,λ_ _ _ _=>rfl⟩,⟨4,3,λf k acc r=>by
  show some (acc++[32]++[32]++[32],k+4)=_
  rw [List.append_assoc,List.append_assoc];rfl⟩⟩ (cP ⟨rfl,rfl,λ_=>vT,λs a ac=>((uU (w:=[92]) (ac:=[10]++ac) rfl).app jW).to jF,by decide +kernel,⟨1,1,λ_ _ _ _=>rfl⟩,⟨3,2,λf k acc r=>by
  show some (acc++[32]++[32],k+6)=_
  rw [List.append_assoc];rfl⟩⟩ (cP ⟨rfl,rfl,λ_=>Uo,λs a ac=>St.nil.to lL.symm,by decide +kernel,⟨0,0,λ_ _ acc _=>by rw [List.replicate_zero,List.append_nil];rfl⟩,⟨1,0,λf k acc r=>by
  show some (acc,k)=_
  rw [List.replicate_zero,List.append_nil];rfl⟩⟩ iE))
noncomputable def fF (way:Nat) (w:List Nat):List Nat:=fw way++(w++jq way)
noncomputable def gp (nm X:List Nat):List Nat:=32::(nm++(oO (cnt nm)++(32::X)))
noncomputable def w0 (nm:List Nat):Nat:=2+(oO (cnt nm)).length
theorem Ou {nm X Y:List Nat}:gp nm (X++Y)=gp nm X++Y:=by unfold gp;simp only [List.append_assoc,List.cons_append]
theorem IT {g:Pz→List (List Nat)} {ps:List Pz} (h:∀p∈ps,(g p).flatten=wP p):(jn g ps).flatten=bq ps:=wm h
theorem N2 {way:Nat} {ps:List Pz} (hw:way<3) (h:∀p∈ps,jO p):∃g acc,(∀k ac,df g k [] (32::(fF way (bq ps)++10::ac))=some (acc,k+1+(fF way (bq ps)).length))∧cZ acc=bq ps:=by
 have W:=FQ way hw
 obtain ⟨j,u,hx⟩:=W.x
 obtain ⟨i,v,hy⟩:=W.y
 have ht:=λac=>Oy (xR (f:=a8) (g:=rN) (λ_=>rfl) (W.p ac) λp hp=>(h p hp).pf.t) (EB (Q:=λt=>pb t=true) rfl λp hp=>(h p hp).pf.h)
 rw [IT λp hp=>(h p hp).pf.tf] at ht
 refine ⟨0+i+(jn rN ps).length+j+1,List.replicate (1+u) 32++(bq ps++List.replicate v 32),λk ac=>?_,Py _ _ (Wt h)⟩
 rw [Pg,fF,List.append_assoc,List.append_assoc,hx,ht,hy,List.length_append,List.length_append]
 refine congrArg some (Prod.mk.injEq .. ▸⟨?_,?_⟩)
 ·rw [←List.replicate_append_replicate,List.append_assoc,List.append_assoc,List.append_assoc];rfl
 ·simp only [Nat.add_assoc]
noncomputable def Vg (nm:List Nat):Prop:=∀(s:PS) (X:List Nat) (g:Nat) (acc:List Nat) (e:Nat),df g (w0 nm) [] (32::X)=some (acc,e)→w0 nm≤e→Df s (gp nm X) (.ok ({s with aL:=dZ s.aL nm ⟨iN nm,cZ acc⟩}.emit (dW (((gp nm X).take e).count 10))) e)
theorem rX {l:List (List Nat)} {i:Nat} {t:List Nat} (g:l[i]?=some t) (h:(decide (t.length≤10)&&(!t.isEmpty&&aC t==t.length))=true):wt l i t:=⟨g,adk (ado (bp h)) (adk (by decide) (Am (adq 100))),(λe=>nomatch (e▸bp (aW h):(!([]:List Nat).isEmpty)=true)),eq_of_beq (aW (aW h))⟩
theorem Rk:∀nm∈hZ,Vg nm:=List.forall_mem_cons.2 ⟨λs X g acc e hb _=> .plain g e acc Nat.one_pos (show nA∉gL by decide) (show [32]≠[40] by decide) hb rfl,List.forall_mem_cons.2 ⟨λs X g acc e hb _=> .plain g e acc Nat.one_pos (show nB∉gL by decide) (show [32]≠[40] by decide) hb rfl,List.forall_mem_cons.2 ⟨λs X g acc e hb _=> .plain g e acc Nat.one_pos (show nC∉gL by decide) (show [32]≠[40] by decide) hb rfl,
 List.forall_mem_cons.2 ⟨λs X g acc e hb he=> .args 2 g 5 e acc [[112]] Nat.one_pos (show nF∉gL by decide) rfl rfl (by decide) (cP ⟨_,rX rfl rfl,by decide⟩ iE) (Nat.le_add_left 5 _) hb rfl,List.forall_mem_cons.2 ⟨λs X g acc e hb he=> .args 8 g 11 e acc [[112],[113]] Nat.one_pos (show nG∉gL by decide) rfl rfl (by decide) (cP ⟨_,rX rfl rfl,by decide⟩ (cP ⟨_,rX rfl rfl,by decide⟩ iE)) (Nat.le_add_left 11 _) hb rfl,λ_ h=>nomatch h⟩⟩⟩⟩⟩
noncomputable def ng (nm:List Nat):List Nat:=96::(gI++(32::(nm++oO (cnt nm))))
theorem Hf:hZ.all (λnm=>mQ [32] (ng nm)&&(ng nm).count 10==0)=true:=by decide +kernel
theorem SH {nm:List Nat} {ps:List Pz} {way:Nat} (h:qA way=jq way++[10]):fX nm ps way=96::(gI++gp nm (fF way (bq ps)))++[10]∧fX nm ps way=ng nm++([32]++(fw way++(bq ps++(jq way++[10])))):=by
 unfold fX gB gp fF ng
 rw [h]
 exact ⟨by simp only [List.append_assoc,List.cons_append,List.nil_append];rfl,by simp only [List.append_assoc,List.cons_append,List.nil_append];rfl⟩
section
variable {M0:bz} {W W':LW} {cs cs':f6} {nm:List Nat} {ps:List Pz} {way a:Nat}
theorem J2 (hw:way<3) (hn:nm∈hZ) (hp:∀p∈ps,jO p):(gp nm (fF way (bq ps))).count 10=(fw way).count 10+(jq way).count 10:=by
 have c:(ng nm).count 10=0:=eq_of_beq (aW (List.all_eq_true.1 Hf nm hn))
 have c2:(96::(gI++gp nm (fF way (bq ps)))).count 10=(ng nm++(32::fF way (bq ps))).count 10:=by
  unfold gp ng;simp only [List.append_assoc,List.cons_append]
 have w:(bq ps).count 10=0:=Bp (P:=λl=>l.count 10=0) rfl (λa b ha hb=>by rw [List.count_append,List.count_append,ha,hb];rfl) λp h=>(hp p h).pf.c
 show (96::(gI++gp nm (fF way (bq ps)))).count 10=_
 rw [c2,List.count_append,c,show (32::fF way (bq ps)).count 10=(fF way (bq ps)).count 10 from rfl,fF,List.count_append,List.count_append,w,Nat.zero_add,Nat.zero_add]
theorem RH {s:PS} {ac:List Nat} (hw:way<3) (hn:nm∈hZ) (hp:∀p∈ps,jO p) (ha:s.aM=true):St s a (96::(gI++gp nm (fF way (bq ps)))) ({s with aL:=dZ s.aL nm ⟨iN nm,bq ps⟩}.emit (dW ((fw way).count 10+(jq way).count 10))) (10::ac):=by
 obtain ⟨g,acc,hg,he⟩:=N2 hw hp
 have d:=Rk nm hn s (fF way (bq ps)++10::ac) g acc _ (hg _ ac) (adk (adn _ 1) (adn _ _))
 have e:w0 nm+1+(fF way (bq ps)).length=(gp nm (fF way (bq ps))).length:=by
  have:=List.all_eq_true.1 (show hZ.all (λnm=>nm.length==1)=true by decide) nm hn
  unfold gp w0
  rw [List.length_cons,List.length_append,List.length_append,List.length_cons,show nm.length=1 from eq_of_beq this];omega
 rw [e,Ou,List.take_left,J2 hw hn hp,he] at d
 have k:=wH (kw:=gI) (u:=gp nm (fF way (bq ps))++10::ac) (List.mem_append_right dN (.head _)) (.inl rfl)
 exact St.dir (n:=gI.length+(gp nm (fF way (bq ps))).length) (.sv _ ha k.t (k.d.symm▸d) (by rw [k.n];rfl)) (List.append_assoc ..).symm List.length_append.symm
theorem QE {s:PS} {w ac:List Nat} (ha:s.aM=false) (h:mQ [32] w=true):St s a w (s.emit w) (32::ac):=MJ ha (show mQ ((32::ac).take 1) w=true from h)
theorem abc (h:bV M0 W cs) (hn:nm∈hZ) (hp:∀p∈ps,jO p) (hw:way<3):bV M0 (sC W nm ps way) cs:=by
 have F:=FQ way hw
 have T:=SH (nm:=nm) (ps:=ps) F.b
 by_cases ha:W.aM=true
 ·rw [M1 ha]
  exact h.go (w:=96::(gI++gp nm (fF way (bq ps)))++[10]) h.f h.u (congrArg (W.text++ ·) T.1) λac=>((RH hw hn hp ha).app jW).to (by
   rw [jF,F.n]
   show ({cX W cs with aL:=dZ (da W.aL) nm ⟨iN nm,bq ps⟩}:PS).emit (iR way)=_
   rw [←LB];rfl)
 ·have ha:=Bool.eq_false_iff.2 ha
  have c:=(List.count_append (a:=10) (l₁:=96::(gI++gp nm (fF way (bq ps)))) (l₂:=[10])).trans (congrArg (· +1) (J2 hw hn hp))
  rw [IC ha]
  have q:=λac (s:PS) (a:Nat) (hs:s.aM=false)=>St.off (s:=s) (a:=a) (xR (f:=fO) (g:=wB) (λ_=>rfl) (F.p ac) λp h=>(hp p h).pf.u) hs (EB (Q:=λt=>mT t=true) rfl λp h=>(hp p h).pf.k)
  rw [IT λp h=>(hp p h).pf.uf] at q
  exact h.go (w:=ng nm++([32]++(fw way++(bq ps++(jq way++[10]))))) h.f h.u (congrArg (W.text++ ·) T.2) λac=>((QE ha (bp (List.all_eq_true.1 Hf nm hn))).app ((sE (t:=[]) (by decide) rfl).app ((F.a _ _ _).app (((List.append_assoc (jq way) [10] ac).symm▸q ac _ _ ha).app (zg F.c))))).to (by
   rw [jF,jF,jF,jF]
   refine xk ha ?_
   rw [←T.2.symm.trans T.1] at c
   rw [c, ←F.n,List.count_append,dW,List.count_replicate_self];rfl)
end
abbrev FR:=List Nat×List Nat×Nat
noncomputable def ED:List FR:=[([96,101,110,100,105,102],lF,0),([96,105,102,100,101,102,32,65,10,96,105,102,100,101,102,32,66,10,96,101,110,100,105,102],lF,0),
  ([96,101,108,115,101],lF,0),([96,105,110,99,108,117,100,101,32,34,120,34],gT,0),([96,32,65],gT,0),
  ([96,100,101,102,105,110,101,10,65,32,49],gT,0),([96,81,57],mz,0),([96,100,101,102,105,110,101,32,101,108,115,101,32,120],gT,0),
  ([96,105,102,100,101,102,32,65,10,96,101,108,115,101,10,96,101,108,115,101,10],lF,15),([96,100,101,102,105,110,101,32,72,40,120,44,120,41,32,120],gh,0),
  ([96,100,101,102,105,110,101,32,72,40,120,41,32,120,10,96,72],gh,15),([96,100,101,102,105,110,101,32,72,40,120,41,32,120,10,96,72,40,49,44,50,41],gh,15)]
noncomputable def j7:List FR:=([],[],0)::ED
abbrev Nc (W:LW) (x:FR):Prop:=x.2.2=15∧x.2.1=gh∧1000≤W.uses
noncomputable def fW (W:LW) (x:FR):List Nat:=if Nc W x then kJ else x.2.1
noncomputable def mE (W:LW) (x:FR):LW:={W with text:=W.text++x.1,fault:=if fW W x=[] then W.fault else some (fW W x,W.text.length+x.2.2)}
theorem UY {M:iW} (h:gH M) {k:List Nat} (hk:k∉hZ):a6 (da M) k=none:=by
 rw [rP]
 cases e:a6 M k with
 |none=>rfl
 |some m=>exact absurd (h _ (r8 e)).n hk
theorem ym {α:Type} {k:List Nat} {v:α}:∀{l:List (List Nat×α)},a6 (dZ l k v) k=some v
 |[]=>if_pos rfl
 |(x,u)::r=>gc (P:=λl:List (List Nat×α)=>a6 l k=some v) (λq=>if_pos q) λq=>(if_neg q).trans ym
section
variable {s:PS} {a:Nat} {nm ac:List Nat} {res:XR}
theorem AV (hn:nm∈gS) (h:Xp (({s with bu:=(a,s.aM,(a6 s.aL nm).isSome==true,false)::s.bu,aM:=s.aM&&((a6 s.aL nm).isSome==true)}:PS).emit [10]) (a+(1+(5+(1+1)))+1) ac res):Xp s a (96::(gb++(32::nm))++([10]++ac)) res:=
 Fg (s1:={s with bu:=(a,s.aM,(a6 s.aL nm).isSome==true,false)::s.bu,aM:=s.aM&&((a6 s.aL nm).isSome==true)}) hn (.head _) (λr e ho=> .yQ true _ rfl ho (by rw [e]) rfl) _ (jW _ (by
  have l:=Dd (nm:=nm) (word:=gb) (wR nm hn).l
  rw [show (96::(gb++(32::nm))).length=(gb++(32::nm)).length+1 from rfl, ←l]
  exact h))
noncomputable def mH:MV:=⟨some [[120]],[120]⟩
theorem Z3 {ac:List Nat}:Df s ([32,72,40,120,41,32,120]++10::ac) (.ok ({s with aL:=dZ s.aL [72] mH}.emit (dW 0)) 7):= .args 2 3 5 7 [32,120] [[120]] Nat.one_pos (show [72]∉gL by decide) rfl rfl (by decide) (cP ⟨_,rX rfl rfl,by decide⟩ iE) (Nat.le_add_left 5 _) rfl rfl
theorem Gf {r k:List Nat} (ha:s.aM=true) (hr:r.take (aC r)=[72]) (hU:Us (dZ s.aL [72] mH) 0 s.uses r (.err k)):Xp s a (96::(gI++([32,72,40,120,41,32,120]++10::(96::r)))) (.err k (a+15)):=
 .dir (c:=13) (r:=gI++([32,72,40,120,41,32,120]++10::(96::r))) (.sv _ ha rfl (show Df s ([32,72,40,120,41,32,120]++10::(96::r)) _ from Z3) rfl) (jW _ (.ii (.qM k (s:=(({s with aL:=dZ s.aL [72] mH}:PS).emit (dW 0)).emit [10]) ha (hr▸by decide) (hr▸by decide) hU rfl)))
end
structure Eg (W:LW) (x:FR) (a:Nat):Prop where
 c:a9 (fW W x)
 n:fW W x≠[]
 h:Xp (cX W []) a x.1 (.err (fW W x) (a+x.2.2))
noncomputable def X7 (x:FR):Prop:=∀(W:LW) (a:Nat),W.aM=true→gH W.aL→Eg W x a
theorem fx {W:LW} {a d:Nat} {t kk:List Nat} (h0:fW W (t,kk,d)=kk) (ha:a9 kk) (hk:kk≠[]) (hx:Xp (cX W []) a t (.err kk (a+d))):Eg W (t,kk,d) a:=⟨h0.symm▸ha,h0.symm▸hk,by
 show Xp _ _ t (.err (fW W (t,kk,d)) (a+d))
 rw [h0];exact hx⟩
theorem Ua {s:PS} {a b:Nat} {x y:Bool} {cl:f6} (hc:s.bu=(b,x,y,false)::cl):Xp s a (96::ib++([10]++(96::ib++[10]))) (.err lF (a+6)):=
 Dt (s1:={s with bu:=(b,x,true,true)::cl,aM:=x&& !y}) (.tail _ (.tail _ (.tail _ (.head _)))) (.inr rfl) (.eP b x y cl rfl hc rfl) _ (jW _ (.ii (r:=ib++[10]) (.cond ib _ rfl (.tail _ (.tail _ (.tail _ (.head _)))) (.seen b x true cl rfl rfl rfl) rfl)))
theorem Fz {W:LW} {a:Nat} {r:List Nat} {t:List Nat} (ha:W.aM=true) (ht:t=96::(gI++([32,72,40,120,41,32,120]++10::(96::r)))) (hr:r.take (aC r)=[72]) (h:¬1000≤W.uses→Us (dZ (da W.aL) [72] mH) 0 W.uses r (.err gh)):Eg W (t,gh,15) a:=by
 have bn:¬dS r:=by unfold dS;rw [hr];decide
 by_cases q:1000≤W.uses
 ·have e:fW W (t,gh,15)=kJ:=if_pos ⟨rfl,rfl,q⟩
  refine ⟨e.symm▸cy rfl,e.symm▸by decide,?_⟩
  show Xp _ _ t (.err (fW W (t,gh,15)) (a+15))
  rw [e,ht]
  exact Gf ha hr (.err (.ou mH bn (hr.symm▸ym) (.inr q) rfl))
 ·exact fx (if_neg λx=>q x.2.2) (cy rfl) (by decide) (ht▸Gf ha hr (h q))
theorem UX:∀x∈ED,X7 x:=List.forall_mem_cons.2 ⟨λW a ha hM=>fx rfl (cy rfl) (by decide) (.ii (r:=jD) (.cond jD _ rfl (.tail _ (.tail _ (.tail _ (.tail _ (.head _))))) (.none (.inr (.inr rfl)) rfl rfl) rfl)),List.forall_mem_cons.2 ⟨λW a ha hM=>fx rfl (cy rfl) (by decide) (AV (nm:=nA) (.head _) (AV (nm:=nB) (.tail _ (.head _)) (.dir (r:=jD) (.cond jD (.ok _ 0) rfl (.tail _ (.tail _ (.tail _ (.tail _ (.head _))))) (.Dm _ _ _ _ _ rfl rfl rfl) rfl) (.open rfl)))),
 List.forall_mem_cons.2 ⟨λW a ha hM=>fx rfl (cy rfl) (by decide) (.ii (r:=ib) (.cond ib _ rfl (.tail _ (.tail _ (.tail _ (.head _)))) (.none (.inr (.inl rfl)) rfl rfl) rfl)),List.forall_mem_cons.2 ⟨λW a ha hM=>fx rfl (cy rfl) (by decide) (.ii (r:=[105,110,99,108,117,100,101,32,34,120,34]) (.qM gT ha (by decide) (by decide) (.err (.bad (.inl (by decide)) rfl)) rfl)),List.forall_mem_cons.2 ⟨λW a ha hM=>fx rfl (cy rfl) (by decide) (.ii (r:=[32,65]) (.qM gT ha (by decide) (by decide) (.err (.bad (.inr rfl) rfl)) rfl)),
 List.forall_mem_cons.2 ⟨λW a ha hM=>fx rfl (cy rfl) (by decide) (.ii (r:=gI++[10,65,32,49]) (.sv (.err gT) ha rfl (.op rfl rfl) rfl)),List.forall_mem_cons.2 ⟨λW a ha hM=>fx rfl (cy rfl) (by decide) (.ii (r:=[81,57]) (.qM mz ha (by decide) (by decide) (.err (.undef (by unfold dS;decide) (UY hM (by decide)) rfl)) rfl)),List.forall_mem_cons.2 ⟨λW a ha hM=>fx rfl (cy rfl) (by decide) (.ii (r:=gI++[32,101,108,115,101,32,120]) (.sv (.err gT) ha rfl (.res (by decide) (by decide) rfl) rfl)),
 List.forall_mem_cons.2 ⟨λW a ha hM=>fx rfl (cy rfl) (by decide) (AV (nm:=nA) (.head _) (Ua rfl)),List.forall_mem_cons.2 ⟨λW a ha hM=>fx rfl (cy rfl) (by decide) (.ii (r:=gI++[32,72,40,120,44,120,41,32,120]) (.sv (.err gh) ha rfl (.dup 4 7 1 [[120],[120]] (by decide) (by decide) rfl rfl (by decide) (by decide) ⟨_,rX rfl rfl,by decide⟩ (cP ⟨_,rX rfl rfl,by decide⟩ iE) rfl) rfl)),
 List.forall_mem_cons.2 ⟨λW a ha hM=>Fz (r:=[72]) ha rfl rfl λq=> .err (.F8 1 [120] [[120]] (by unfold dS;decide) ym (λx=>x.elim (by decide) q) rfl rfl),List.forall_mem_cons.2 ⟨λW a ha hM=>Fz (r:=[72,40,49,44,50,41]) ha rfl rfl λq=> .err (.count 4 6 [120] [[120]] [[49],[50]] (by unfold dS;decide) ym (λx=>x.elim (by decide) q) rfl (by decide) (by decide) rfl),λ_ h=>nomatch h⟩⟩⟩⟩⟩⟩⟩⟩⟩⟩⟩⟩
section
variable {M0:bz} {W:LW} {k j:Nat} {cs:f6}
theorem Ra {x:FR} (h:bV M0 W []) (hx:x∈j7) (ha:W.aM=true) (hM:gH W.aL):bV M0 (mE W x) []∨kR M0 (mE W x):=(List.mem_cons.1 hx).elim (λe=> .inl (e▸h.go (W':=mE W ([],[],0)) (w:=[]) h.f h.u rfl λ_=>St.nil)) λhx=>
 have q:=UX x hx W W.text.length ha hM
 .inr (h.err (if_neg q.n) q.c rfl q.h)
end
structure br (k:Nat) (W:LW):Prop where
 t:W.text.length+300*W.room.toNat+k≤7500
 d:W.dT.length+300*W.room.toNat+k≤7500+40*W.uses
 m:W.aL.length≤W.text.length+5
 n:W.bT.length≤W.text.length
 u:W.uses≤1001
 g:gH W.aL
 a:a9 W.text
 nw:∀x∈W.bT,a9 x.2
section
variable {k j:Nat} {W:LW} {t d nm:List Nat}
theorem DX {a x R k j B:Nat} (h:a+R+(k+j)≤B) (ht:x≤j):a+x+R+k≤B:=by
 rw [Nat.add_right_comm a x R,Nat.add_assoc (a+R) x k,Nat.add_comm x k]
 exact adk (Nat.add_le_add_left (Nat.add_le_add_left ht k) _) h
theorem br.emit (F:br (k+j) W) (ht:t.length≤j) (hd:d.length≤j) (ha:a9 t):br k (W.emit t d):=
 ⟨by
  show (W.text++t).length+_+k≤_
  rw [List.length_append];exact DX F.t ht,by
  show (W.dT++W.act d).length+_+k≤_
  rw [List.length_append];exact DX F.d (adk (vG d) hd),adk F.m (Nat.add_le_add_right (List.length_append (as:=W.text)▸adn _ _) 5),adk F.n (List.length_append (as:=W.text)▸adn _ _),F.u,F.g,F.a.append ha,F.nw⟩
theorem br.act {b:Bool} (F:br k W):br k {W with aM:=b}:=⟨F.t,F.d,F.m,F.n,F.u,F.g,F.a,F.nw⟩
theorem br.less (F:br (k+j) W):br k W:=⟨adk (Nat.add_le_add_left (adn k j) _) F.t,adk (Nat.add_le_add_left (adn k j) _) F.d,F.m,F.n,F.u,F.g,F.a,F.nw⟩
noncomputable def kO (n:Nat) (w:List Nat):Bool:=decide (w.length≤n)&&w.all λc=>decide (c<128)
theorem ki {n:Nat} {w:List Nat} (h:kO n w=true):w.length≤n∧a9 w:=⟨ado (bp h),cy (aW h)⟩
theorem V0 {row:List Nat} (hr:row∈pF) (F:br (k+300) W):br k (Ar W row):=
 have q:=ki (List.all_eq_true.1 (show pF.all (λr=>kO 300 (r++[10]))=true by decide +kernel) row hr)
 F.emit q.1 q.1 q.2
theorem JA {α:Type} {k:List Nat} {y:List Nat×α}:∀{l:List (List Nat×α)},y∈fg l k→y∈l
 |(x,u)::r,h=>gc (P:=λl=>y∈l→y∈(x,u)::r) (λ_ h=> .tail _ h) (λ_ h=>(List.mem_cons.1 h).elim (λe=>e.symm▸ .head _) λh=> .tail _ (JA h)) h
theorem M6 {α:Type} {k:List Nat} {v:α} {y:List Nat×α}:∀{l:List (List Nat×α)},y∈dZ l k v→y=(k,v)∨y∈l
 |[],h=> .inl (List.mem_singleton.1 h)
 |(x,u)::r,h=>gc (P:=λl=>y∈l→y=(k,v)∨y∈(x,u)::r) (λ(q:x=k) h=>(List.mem_cons.1 h).elim (λe=> .inl (q▸e)) λh=> .inr (.tail _ h)) (λ_ h=>(List.mem_cons.1 h).elim (λe=> .inr (e.symm▸ .head _)) λh=>(M6 h).imp_right (.tail _)) h
theorem Q3 (hn:nm∈gS) (F:br (k+150+150) W):br k (pd W nm):=
 have q:=ki (List.all_eq_true.1 (show gS.all (λnm=>kO 150 (nP nm))=true by decide +kernel) nm hn)
 have F2:br k (ua W nm):=(F.emit q.1 (ads _) q.2).emit (by decide) (by decide) (cy rfl)
 gc (P:=br k) (λ_=>⟨F2.t,F2.d,adk (DQ nm W.aL) F2.m,F2.n,F2.u,λx hx=>F.g x (JA hx),F2.a,F2.nw⟩) λ_=>F2
theorem Qj {x:List Nat×Nat×List Nat} (hx:x∈m8) (F:br (k+150+150) W):br k (rZ W x):=by
 have q:=List.all_eq_true.1 (show m8.all (λx=>(kO 150 (x.1.take x.2.1)&&decide (0<(x.1.take x.2.1).length))&&(kO 150 (x.1.drop x.2.1++[10])&&x.2.2.all λc=>decide (c<128)))=true by decide +kernel) x hx
 have q1:=ki (bp (bp q))
 have q2:=ki (bp (aW q))
 refine br.emit (j:=150) ?_ q2.1 (by decide) q2.2
 refine gc (P:=λY=>br (k+150) (LW.emit Y (x.1.take x.2.1) [])) (λ_=>?_) λ_=>F.emit q1.1 (ads _) q1.2
 have F1:=F.emit (t:=x.1.take x.2.1) (d:=[]) q1.1 (ads _) q1.2
 refine ⟨F1.t,F1.d,F1.m,?_,F1.u,F1.g,F1.a,λy hy=>(List.mem_append.1 hy).elim (F.nw y) λhy=>List.mem_singleton.1 hy▸cy (aW (aW q))⟩
 show (W.bT++[_]).length≤(W.text++x.1.take x.2.1).length
 rw [List.length_append,List.length_append]
 exact Nat.add_le_add F.n (ado (aW (bp q)))
theorem QZ {w:List Nat} {act:Bool} (hw:w∈dN) (hn:nm∈gS) (F:br (k+5+10+5) W):br k (ni W w nm act):=
 have q:=ki (List.all_eq_true.1 (List.all_eq_true.1 (show dN.all (λw=>gS.all λnm=>kO 10 (sZ w nm))=true by decide +kernel) w hw) nm hn)
 (((F.emit (by decide) (by decide) (cy rfl)).emit q.1 (ads _) q.2).act).emit (by decide) (by decide) (cy rfl)
theorem Xx {act:Bool} (F:br (k+10+10) W):br k (CC W act):=((F.emit (by decide) (by decide) (cy rfl)).act).emit (by decide) (by decide) (cy rfl)
theorem QJ {act:Bool} (F:br (k+10+10) W):br k (M8 W act):=((F.emit (by decide) (by decide) (cy rfl)).act).emit (by decide) (by decide) (cy rfl)
theorem YD {ps:List Pz} {way:Nat} (hn:nm∈hZ) (hp:∀p∈ps,iF (cnt nm) p) (hl:ps.length≤3) (hw:way<3) (F:br (k+300) W):br k (sC W nm ps way):=by
 have n:=xI hn
 have fa:=λp h=>(hp p h).facts n.c
 have pf:∀p∈ps,jO p:=λp h=>(fa p h).i.full n.c
 have h:=ki (List.all_eq_true.1 (show hZ.all (λnm=>kO 20 (gB nm))=true by decide +kernel) nm hn)
 have y:∀way,way<3→(kO 7 (fw way)&&(kO 7 (qA way)&&decide ((iR way).length≤2)))=true:=cP (by decide) (cP (by decide) (cP (by decide) iE))
 have y:=y way hw
 have a:=ki (bp y)
 have b:=ki (bp (aW y))
 have w:=BS (b:=6) (λp h=>(fa p h).l) hl
 have F1:br k (W.emit (fX nm ps way) (iR way)):=F.emit (by
  rw [fX,List.length_append,List.length_append,List.length_append]
  exact adk (Nat.add_le_add (Nat.add_le_add (Nat.add_le_add h.1 a.1) w) b.1) (by decide)) (adk (ado (aW (aW y))) (by decide)) (((h.2.append a.2).append (yK hl pf).2).append b.2)
 refine gc (P:=br k) (λ_=>⟨F1.t,F1.d,adk (zD nm ps W.aL) ?_,F1.n,F1.u,λx hx=>(M6 hx).elim (λe=>e▸⟨hn,hl,λp h=>(fa p h).i⟩) (F.g x),F1.a,F1.nw⟩) λ_=>F1
 show W.aL.length+1≤(W.text++fX nm ps way).length+5
 rw [List.length_append,Nat.add_right_comm]
 exact Nat.add_le_add F.m (show 1≤(fX nm ps way).length by
  rw [fX,List.length_append,List.length_append,List.length_append]
  exact adk (adk (show 1≤(gB nm).length by rw [gB,List.append_assoc,List.append_assoc,List.length_append];exact adk (by decide) (adn 8 _)) (adn _ _)) (adk (adn _ _) (adn _ _)))
theorem XG {a R k s u v B D:Nat} (h:a+R+(k+100)≤B+u) (hs:s+u≤v) (hd:D≤s+1):a+D+R+k≤B+v:=DX (j:=s+1) (by
 have q:=Nat.add_le_add (adk (Nat.add_le_add_left (Nat.add_le_add_left (show 1≤100 by decide) k) _) h) (adq s)
 rw [Nat.add_assoc B,Nat.add_comm u s,Nat.add_assoc (a+R),Nat.add_assoc k,Nat.add_comm 1 s] at q
 exact adk q (Nat.add_le_add_left hs B)) hd
theorem LX {as:List A0} {wide:Bool} (hu:gw nm as wide) (h1:W.uses≤1000) (F1:br (k+100+100) W):br (k+100) (td W nm as wide):=by
 have f:=hu.f
 have rl:=DC hu
 have ra:a9 (kF nm as wide):=f.r▸(cy (x:=[96]) rfl).append f.a
 have w1:wN wide≤1:=by cases wide<;>decide
 unfold td
 have le:mN W.uses (jC W nm as)∨jC W nm as= .ok [] W.uses:=gc (P:=λr=>mN W.uses r∨r= .ok [] W.uses) (λ_=> .inl (rD F1.g 20 W.uses nm as hu.good)) λ_=> .inr rfl
 have er:jy W.uses (jC W nm as):=gc (P:=jy W.uses) (λ_=>Jj F1.g 20 W.uses nm as h1 hu.good) λ_=>trivial
 generalize jC W nm as=r at le er ⊢
 cases r with
 |err e u=>
  have F2:br (k+100+100) {W with uses:=u,fault:=some (e,W.text.length)}:=⟨F1.t,adk F1.d (Nat.add_le_add_left (Nat.mul_le_mul_left 40 er.2.1) _),F1.m,F1.n,er.2.2,F1.g,F1.a,F1.nw⟩
  exact F2.emit (adk rl (by decide)) (by rw [List.nil_append,dW,List.length_replicate];exact adk w1 (by decide)) ra
 |ok s u=>
  have F2:=F1.emit (t:=kF nm as wide) (d:=[]) (adk rl (by decide)) (ads _) ra
  have b:s.length+40*W.uses≤40*u∧u≤1001:=le.elim (λl=>⟨adk (adn _ _) l.1,Nat.le_succ_of_le l.2⟩) λe=>by cases e;exact ⟨adt (Nat.zero_add _),Nat.le_succ_of_le h1⟩
  refine ⟨F2.t,?_,F2.m,F2.n,b.2,F1.g,F2.a,F1.nw⟩
  show (W.dT++W.act (s++dW (wN wide))).length+_+(k+100)≤7500+40*u
  have d:(W.act (s++dW (wN wide))).length≤s.length+wN wide:=adk (vG _) (adt (by rw [List.length_append,dW,List.length_replicate]))
  rw [List.length_append]
  exact XG F1.d b.1 (adk d (Nat.add_le_add_left w1 _))
theorem NQ {as:List A0} {wide:Bool} (hu:gw nm as wide) (h1:W.uses≤1000) (F:br (k+100+100+100) W):br k (qO W nm as wide):=
  (LX (W:=W.emit wT wT) hu h1 (F.emit (by decide) (by decide) (cy rfl))).emit (by decide) (by decide) (cy rfl)
end
noncomputable def pv (n:Nat) (W:LW):Prop:=W.text.length≤n∧W.dT.length≤n
section
variable {k m:Nat} {W:LW} {cs:f6} {M0:bz}
theorem br.slim (F:br k W):pv 50000 W:=⟨adk (adk (adk (adn _ _) (adn _ _)) F.t) (by decide),adk (adk (adk (adn _ _) (adn _ _)) F.d) (adk (Nat.add_le_add_left (Nat.mul_le_mul_left 40 F.u) 7500) (by decide))⟩
theorem pv.emit {t d:List Nat} (h:pv m W) (ht:t.length≤1000) (hd:d.length≤1000):pv (m+1000) (W.emit t d):=⟨List.length_append (as:=W.text)▸Nat.add_le_add h.1 ht,List.length_append (as:=W.dT)▸Nat.add_le_add h.2 (adk (vG d) hd)⟩
noncomputable def Told (M0:bz) (W:LW) (cs:f6) (act:Bool):Prop:=(bV M0 W cs∧W.aM=act)∨kR M0 W
noncomputable def Gz (M0:bz) (O:ag) (W:LW) (k:Nat) (cs:f6) (Q:V→ag→Prop):Prop:=∀af W',aZ af W'→br k W'→Told M0 W' cs W.aM→Up O af→Q .none af
noncomputable def tN (M0:bz) (C:Calls) (d:Nat):Prop:=∀(O:ag) (W:LW) (k:Nat) (cs:f6) (Q:V→ag→Prop) (X:aX→ag→Prop),aZ O W→br k W→bV M0 W cs→Gz M0 O W k cs Q→Wp (C 37 [.ref 2,.ref 5,.int (d:Int)] O) Q X
noncomputable def Cf (M0:bz) (C:Calls) (d:Nat):Prop:=∀(O:ag) (W:LW) (k:Nat) (cs:f6) (Q:V→ag→Prop) (X:aX→ag→Prop),aZ O W→br (k+300) W→bV M0 W cs→Gz M0 O W k cs Q→Wp (C 36 [.ref 2,.ref 5,.int (d:Int)] O) Q X
end
section
variable {fu n:Nat} {O s:ag} {X:aX→ag→Prop} {Q:V→ag→Prop} {W:LW} {cs:f6} {M0:bz} {k m:Nat} {R:Flow→Locals→ag→Prop} {ss:Ss} {C:Calls} {L:Locals}
theorem iq {e1 e2:E} {t d:List Nat} (h:aZ O W) (hs:pv m W) (hm:m≤100000) (ht:t.length≤1000) (hd:d.length≤1000) (l1:L.get 1=some (.ref 5)) (pu:ev (ay aw fu (n+1)) fu e1 L O= .ok (.str t) O) (Th:ev (ay aw fu (n+1)) fu e2 L O= .ok (.str d) O)
    (K:∀af,aZ af (W.emit t d)→pv (m+1000) (W.emit t d)→Up O af→Wq (ah (ay aw fu (n+1)) fu ss L af) R X):Wq (ah (ay aw fu (n+1)) fu (.cons (.expr (.call 33 (.cons (.loc 1) (.cons e1 (.cons e2 .nil))))) ss) L O) R X:=
 kI (aJ (dI l1) (aJ pu (aJ Th rfl))) (AM h (List.length_append▸adk (Nat.add_le_add (adk hs.1 hm) ht) (dm▸by decide)) (adk (Nat.add_le_add (adk hs.2 hm) hd) (dm▸by decide)) λaf h' u=>K af h' (hs.emit ht hd) u)
theorem wF:∀{f:Option (List Nat×Nat)},ct .is O (yn f) .none=some (.bool f.isNone)
 |none=>rfl
 |some _=>rfl
theorem Um:∀{f:Option (List Nat×Nat)},ct .iM O (yn f) .none=some (.bool f.isSome)
 |none=>rfl
 |some _=>rfl
theorem E8 (h:aZ O W) (l1:L.get 1=some (.ref 5)):ev C fu (.cmp .is (.idx (.loc 1) (.str uk)) .none) L O= .ok (.bool W.fault.isNone) O:=aO (w_get h.w l1 rfl) rfl wF
theorem DW (h:aZ O W) (l1:L.get 1=some (.ref 5)):ev C fu (.cmp .iM (.idx (.loc 1) (.str uk)) .none) L O= .ok (.bool W.fault.isSome) O:=aO (w_get h.w l1 rfl) rfl Um
theorem kR.some {M0:bz} (h:kR M0 W):W.fault.isNone=false∧W.fault.isSome=true:=match h with
 |⟨_,_,f,_,_⟩=>f▸⟨rfl,rfl⟩
theorem KN:∀r:Nat,r<5→∃nm,nm∈gS∧∀s,dh s (.str [65,66,67,70,90]) (.int (r:Int))=some (.str nm):=cP ⟨nZ,.tail _ (.tail _ (.tail _ (.tail _ (.head _)))),λ_=>rfl⟩ (cP ⟨nF,.tail _ (.tail _ (.tail _ (.head _))),λ_=>rfl⟩ (cP ⟨nC,.tail _ (.tail _ (.head _)),λ_=>rfl⟩ (cP ⟨nB,.tail _ (.head _),λ_=>rfl⟩ (cP ⟨nA,.head _,λ_=>rfl⟩ iE))))
noncomputable def pQ (d:Nat) (o y:Bool) (x5 x6 x7 x8:Option V):Locals:=[some (.ref 2),some (.ref 5),some (.int (d:Int)),some (.bool o),some (.bool y),x5,x6,x7,x8]
abbrev Cy:Ss:=Fp
structure CS (M0:bz) (o:Bool) (cs:f6) (y:Bool) (W:LW) (word:List Nat):Prop where
 m:word∈dN
 h:∀nm∈gS,∃a,bV M0 (ni W word nm (o&&(((a6 W.aL nm).isSome== !decide (word=fZ))&& !y))) ((a,o,y||((a6 W.aL nm).isSome== !decide (word=fZ)),false)::cs)
theorem TF (h:bV M0 W cs):∀w:Bool,CS M0 W.aM cs false W (if w then gb else fZ)
 |true=>⟨.head _,λnm hn=>⟨W.text.length+2,by
  show bV M0 (ni W gb nm (W.aM&&(((a6 W.aL nm).isSome==true)&&true))) ((W.text.length+2,W.aM,(a6 W.aL nm).isSome==true,false)::cs)
  rw [Bool.and_true];exact MY (w:=true) h hn⟩⟩
 |false=>⟨.tail _ (.head _),λnm hn=>⟨W.text.length+2,by
  show bV M0 (ni W fZ nm (W.aM&&(((a6 W.aL nm).isSome==false)&&true))) ((W.text.length+2,W.aM,(a6 W.aL nm).isSome==false,false)::cs)
  rw [Bool.and_true];exact MY (w:=false) h hn⟩⟩
theorem RX {a:Nat} {o y:Bool} (h:bV M0 W ((a,o,y,false)::cs)):CS M0 o cs y W oF:=⟨.tail _ (.tail _ (.head _)),λnm hn=>⟨a,by
 rw [show ((a6 W.aL nm).isSome== !decide (oF=fZ))=(a6 W.aL nm).isSome from beq_true _]
 exact Vu h hn⟩⟩
theorem YT:∀w∈dN,w.length≤6:=λw h=>ado (List.all_eq_true.1 (show dN.all (λw=>decide (w.length≤6))=true by decide) w h)
theorem ph {a b:List Nat} (h:(a++b).length≤1000):eW .add (.str a) (.str b)=some (.str (a++b)):=nJ (adk h (dm▸by decide))
theorem A1 {a b:List Nat} {m:Nat} (h:(a++b).length≤m):a.length≤m:=adk (adn _ _) (List.length_append (as:=a)▸h)
theorem Rd {a b:Bool}:ct .eq O (.bool a) (.bool b)=some (.bool (a==b)):=rfl
theorem jc (e:aT 2 O s):Up O s:=e.up (by decide)
theorem q9 (e:aT 5 O s):Up O s:=e.up (by decide)
theorem LO {d j:Nat} {o y:Bool} {x7 x8:Option V} {word:List Nat} {K:Locals→ag→Prop} (hR:tN M0 (ay aw fu (n+1)) (d+1)) (h:aZ O W) (F:br (k+5+10+5) W) (H:CS M0 o cs y W word)
    (hd:∀s W',aZ s W'→br k W'→kR M0 W'→Up O s→Q .none s)
    (hK:∀s W' a y x5 x6 x7 x8,aZ s W'→br k W'→bV M0 W' ((a,o,y,false)::cs)→Up O s→K (pQ d o y x5 x6 x7 x8) s):
  Wq (ah (ay aw fu (n+1)) fu (bf 1 (fK (bf 2 Cy))) (pQ d o y (some (.int (j:Int))) (some (.str word)) x7 x8) O) (Lp (ay aw fu (n+1)) fu ss (bL Q) X K) X:=by
 refine e7 (lV (aS rfl (eE (aS rfl (eG (b:=5) (Nat.succ_pos n) (by decide) (by decide) h.p λr s1 hr ew e1=>(KN r hr).elim λnm hn=>bZ (hn.2 _) ?_)))))
 have h1:=h.fV ew e1
 have hl:(sZ word nm).length≤1000:=by
  rw [sZ,List.length_append,List.length_append,List.length_append,(wR nm hn.1).l]
  exact adk (Nat.add_le_add_right (Nat.add_le_add_right (Nat.add_le_add_left (YT word H.m) 1) 1) 1) (by decide)
 refine iq h1 F.slim (by decide) (by decide) (by decide) rfl rfl rfl λs2 h2 S2 u2=>iq h2 S2 (by decide) hl (by decide) rfl (bG (bG (bG rfl rfl (ph (A1 (A1 hl)))) rfl (ph (A1 hl))) rfl (ph hl)) rfl λs3 h3 S3 u3=>h3.m.elim λes fb=>?_
 refine aV (aO (aO rfl (w_get h3.w rfl rfl) (nM (by rw [wz fb.1,fb.2.isSome]))) (aO rfl rfl m9) Rd) ?_
 obtain ⟨a,hL⟩:=H.h nm hn.1
 have F4:=QZ (act:=o&&(((a6 W.aL nm).isSome== !decide (word=fZ))&& !y)) H.m hn.1 F
 revert hL F4
 show _→_→Wq (ah _ fu _ (pQ d o y (some (.int (j:Int))) (some (.str word)) (some (.str nm)) (some (.bool ((a6 W.aL nm).isSome== !decide (word=fZ))))) s3) _ X
 generalize ((a6 W.aL nm).isSome== !decide (word=fZ))=hv
 exact λhL F4=>uQ (W':={(W.emit [32,32] [32,32]).emit (sZ word nm) [] with aM:=o&&(hv&& !y)}) h3 rfl (ku (fC rfl (fC rfl (fN (ro rfl))))) rfl rfl rfl λs4 e4 h4=>aV (v:= .bool (y||hv)) (oN (jL rfl (jT rfl))) (iq h4 S3 (by decide) (by decide) (by decide) rfl rfl rfl λs5 h5 _ u5=>
  have u:=((jc e1).trans (u2.trans u3)).trans ((q9 e4).trans u5)
  kI (aJ rfl (aJ rfl (aJ (bG rfl rfl qj) rfl))) (hR s5 (ni W word nm (o&&(hv&& !y))) k _ _ X h5 F4 hL λs6 W6 h6 F6 T6 u6=>T6.elim (λl=>fz ((DW h6 rfl).trans (by rw [l.1.f];rfl)) (jk (hK _ _ _ _ _ _ _ _ h6 F6 l.1 (u.trans u6)))) λD=>cO ((DW h6 rfl).trans (by rw [D.some.2])) (tK (.ret (.ret (.ret (hd s6 W6 h6 F6 D (u.trans u6))))))))
theorem br.le {j:Nat} (F:br k W) (h:j≤k):br j W:=br.less (j:=k-j) ((Nat.add_sub_of_le h).symm▸F)
theorem L8 {d:Nat} {o y0:Bool} {x5 x6 x7 x8:Option V} (h:aZ O W) (F:br (k+10+10) W) (T:(∃a y z,bV M0 W ((a,o,y,z)::cs))∨kR M0 W) (hE:∀s' W',aZ s' W'→br k W'→Told M0 W' cs o→Up O s'→Q .none s'):Wq (ah (ay aw fu (n+1)) fu (bf 4 Cy) (pQ d o y0 x5 x6 x7 x8) O) (bL Q) X:=
 T.elim (λT=>T.elim λa T=>T.elim λy T=>T.elim λz T=>cO ((E8 h rfl).trans (by rw [T.f];rfl)) (iq h F.slim (by decide) (by decide) (by decide) rfl rfl rfl λs1 h1 S1 u1=>uQ (W':={W.emit (96::jD) [] with aM:=o}) h1 rfl rfl rfl rfl rfl λs2 e2 h2=>iq h2 S1 (by decide) (by decide) (by decide) rfl rfl rfl λs3 h3 _ u3=>n1 (bx (.next (hE _ _ h3 (QJ F) (.inl ⟨Vf T,rfl⟩) (u1.trans ((q9 e2).trans u3)))))))
    λD=>fz ((E8 h rfl).trans (by rw [D.some.1])) (n1 (bx (.next (hE _ _ h F.less.less (.inr D) .refl))))
theorem aaC {d a:Nat} {o y:Bool} {x5 x6 x7 x8:Option V} (hR:tN M0 (ay aw fu (n+1)) (d+1)) (h:aZ O W) (F:br (k+10+10+10+10) W) (hL:bV M0 W ((a,o,y,false)::cs)) (hE:∀s' W',aZ s' W'→br k W'→Told M0 W' cs o→Up O s'→Q .none s'):Wq (ah (ay aw fu (n+1)) fu (bf 3 Cy) (pQ d o y x5 x6 x7 x8) O) (bL Q) X:=
 mL (xA (eE (aS rfl (eG (b:=2) (Nat.succ_pos n) (by decide) (by decide) h.p λr s1 _ ew e1=>aS rfl (bZ oD (.mk (r6 (λ_=>
  iq (h.fV ew e1) F.slim (by decide) (by decide) (by decide) rfl rfl rfl λs2 h2 S2 u2=>uQ (W':={W.emit (96::ib) [] with aM:=o&& !y}) h2 rfl (ku (fC rfl (fN (ro rfl)))) rfl rfl rfl λs3 e3 h3=>iq h3 S2 (by decide) (by decide) (by decide) rfl rfl rfl λs4 h4 _ u4=>
   kI (aJ rfl (aJ rfl (aJ (bG rfl rfl qj) rfl))) (hR s4 (CC W (o&& !y)) (k+10+10) _ _ X h4 (Xx F) (Qk hL) λs5 W5 h5 F5 T5 u5=>n1 (L8 h5 F5 (T5.imp_left λl=>⟨_,_,_,l.1⟩) λs' W' h' F' T' u'=>hE s' W' h' F' T' (((jc e1).trans (u2.trans (q9 e3))).trans ((u4.trans u5).trans u'))))) λ_=>
  n1 (L8 (h.fV ew e1) F.less.less (.inl ⟨_,_,_,hL⟩) λs' W' h' F' T' u'=>hE s' W' h' F' T' ((jc e1).trans u')))))))))
inductive CI (M0:bz) (O:ag) (W:LW) (cs:f6) (k d N j:Nat):Locals→ag→Prop where
 |zero {x5 x6 x7 x8:Option V} {s:ag} (hj:j=0) (h:aZ s W) (u:Up O s):CI M0 O W cs k d N j (pQ d W.aM false x5 x6 x7 x8) s
 |more {x5 x6 x7 x8:Option V} {s:ag} {W1:LW} {a i:Nat} {y:Bool} (hj:0<j) (hi:i+j=N) (h:aZ s W1) (F:br (k+40+20*i) W1) (hL:bV M0 W1 ((a,W.aM,y,false)::cs)) (u:Up O s):CI M0 O W cs k d N j (pQ d W.aM y x5 x6 x7 x8) s
theorem Uq {d:Nat} (hf:aq+100<fu) (hR:tN M0 (ay aw fu (n+1)) (d+1)):Cf M0 (ay aw fu (n+2)) d:=λO W k cs Q X h F hL hE=>by
 refine dY (L:=[some (.ref 2),some (.ref 5),some (.int (d:Int)),none,none,none,none,none,none]) rfl rfl (by decide) rfl (aV (w_get h.w rfl rfl) (aV rfl (D3 (Gh (aS rfl (eE (aS rfl (eG (b:=3) (Nat.succ_pos n) (by decide) (by decide) h.p λr s1 hr ew e1=>bZ (zF (a:=1)) ⟨1+r,rfl,adk (Nat.add_le_add_left (Nat.le_of_lt hr) 1) (by decide),zw (CI M0 O W cs k d (1+r)) hf (adk (Nat.add_le_add_left (Nat.le_of_lt hr) 1) (by decide)) (.zero rfl (h.fV ew e1) (jc e1)) (λj L s K hj hK hI=>?_) λL s hI=>?_⟩))))))))
 ·cases hI with
  |zero e h1 u=>
   subst e
   have x2:=(aj.refl (O:=s)).push (d:= .list ([gb,fZ].map .str))
   refine e7 (aaz (aS rfl (.mk (.t (lV (aS rfl (eE (aS rfl (eG (b:=2) (Nat.succ_pos n) (by decide) (by decide) (h1.p.ext x2) λw s2 hw gM e2=>?_)))))))))
   have g2:=e2.get (bH (O:=s) (d:= .list ([gb,fZ].map .str))) (Nat.ne_of_gt (adl (by decide:2<6) h1.l))
   have wd:∃b:Bool,dh s2 (.ref s.length) (.int (w:Int))=some (.str (if b then gb else fZ)):=cP (P:=λw=>∃b:Bool,dh s2 (.ref s.length) (.int (w:Int))=some (.str (if b then gb else fZ))) ⟨false,eA (i:=1) g2 rfl⟩ (cP ⟨true,eA (i:=0) g2 rfl⟩ iE) w hw
   exact wd.elim λb hb=>bZ hb (LO (k:=k+40+20*r) hR ((h1.ext x2).fV gM e2) (F.le (by omega)) (TF hL b) (λs' W' h' F' D u'=>hE s' W' h' (F'.le (by omega)) (.inr D) (u.trans ((x2.up.trans (jc e2)).trans u'))) λs' W' a y x5 x6 x7 x8 h' F' l u'=>hK _ _ (.more (i:=r) (Nat.succ_pos _) (Nat.add_comm r 1) h' F' l (u.trans ((x2.up.trans (jc e2)).trans u'))))
  |@more _ _ _ _ _ W1 a i y hp hi h1 F1 l u=>
   obtain ⟨i,rfl⟩:=Nat.exists_eq_succ_of_ne_zero (n:=i) (λe=>Nat.ne_of_lt hj (by rw [←hi,e,Nat.zero_add]))
   exact aV (v:= .str oF) (pL (t:=false) ((aO rfl rfl (kQ (b:=0))).trans (by rw [decide_eq_false (Nat.ne_of_gt hp)])) (λq=>nomatch q) λ_=>rfl) (LO (k:=k+40+20*i) hR h1 F1 (RX l) (λs' W' h' F' D u'=>hE s' W' h' (F'.le (by omega)) (.inr D) (u.trans u')) λs' W' a y x5 x6 x7 x8 h' F' l u'=>hK _ _ (.more (i:=i) (Nat.succ_pos _) (by omega) h' F' l (u.trans u')))
 ·cases hI with
  |zero e=>exact absurd e (by omega)
  |@more _ _ _ _ _ W1 a i y _ hi h1 F1 l u=>exact aaC hR h1 (F1.le (by omega)) l λs' W' h' F' T' u'=>hE s' W' h' F' T' (u.trans u')
end
section
variable {fu n:Nat} {O s:ag} {X:aX→ag→Prop} {Q:V→ag→Prop} {W:LW} {cs:f6} {M0:bz} {k d:Nat} {R:Flow→Locals→ag→Prop} {nm:List Nat}
theorem aZ.aa6 (h:aZ O W) (y:Nat×List Nat):aZ (O.set 4 (.list ((W.bT++[y]).map g8))) {W with bT:=W.bT++[y]}∧Up O (O.set 4 (.list ((W.bT++[y]).map g8))):=
 have e:aT 4 O (O.set 4 (.list ((W.bT++[y]).map g8))):=aT.refl.set
 have u:=e.up (by decide)
 ⟨⟨e.get h.w (by decide),h.m.elim λes q=>⟨es,e.get q.1 (by decide),q.2.mono λv a r=>r.up u⟩,de h.n,h.p.keep e (by decide) (by decide),adk h.l e.1⟩,u⟩
theorem aZ.Yv (h:aZ O W):∃es v af,O[3]?=some (.dict es)∧fM .mW O (.ref 3) [.str nm,.none]= .ok v af∧aZ af {W with aL:=fg W.aL nm}∧Up O af:=h.m.elim λes q=>by
 have e0:fM .mW O (.ref 3) [.str nm,.none]=sJ O 3 es nm .none:=rm (d:=Out.stuck) (f:=λes=>sJ O 3 es nm .none) q.1
 unfold sJ at e0
 cases hg:a6 W.aL nm with
 |none=>
  rw [q.2.none hg] at e0
  exact ⟨es,_,O,q.1,e0,(AP hg).symm▸h,.refl⟩
 |some ps=>
   refine (q.2.some hg).elim λv hv=>?_
   rw [hv.1] at e0
   have e:aT 3 O (O.set 3 (.dict (dictDel es nm))):=aT.refl.set
   have u:=e.up (by decide)
   exact ⟨es,_,_,q.1,e0,⟨e.get h.w (by decide),⟨_,de q.1,q.2.del.mono λv a r=>r.up u⟩,e.get h.n (by decide),h.p.keep e (by decide) (by decide),adk h.l e.1⟩,u⟩
theorem YF {s:List Nat} {c:Nat} (h:s.length<aq):fM .split O (.str s) [.str [c]]= .ok (.ref O.length) (O++[Cell.list ((di c s).map .str)]):=if_pos h
theorem SD {t:List Nat} {a:Nat} (ha:a<16777300):jx O (.str t) (.int (a:Int)) .none true false= .ok (.str (t.drop a)) O:=(Jl (uR ha) (show kL .none false=some Option.none from rfl)).trans rfl
theorem Wk {a:Bool} {p:Prop} [Decidable p] (h:(a&& !decide p)=false):¬a=true∨p:=if q:p then .inr q else .inl λe=>by rw [e,decide_eq_false q] at h;exact nomatch h
noncomputable def jN (d:Nat) (x3 x4 x5 x6 x7 x8:Option V):Locals:=[some (.ref 2),some (.ref 5),some (.int (d:Int)),x3,x4,x5,x6,x7,x8]
abbrev Yo:Ss:=fK FC
abbrev Ik:Ss:=bf 3 Yo
abbrev Gx:Ss:=tD Ik
abbrev Lw:Ss:=tD Gx
abbrev Jx:Ss:=tD Lw
abbrev yM:Ss:=tD Jx
abbrev Sp:Ss:=tD yM
noncomputable def Kw (M0:bz) (cs:f6) (act:Bool) (k d:Nat) (O:ag) (K:Locals→ag→Prop):Prop:=∀s' W' x3 x4 x5 x6 x7 x8,aZ s' W'→br k W'→Told M0 W' cs act→Up O s'→K (jN d x3 x4 x5 x6 x7 x8) s'
section
variable {x3 x4 x5 x6 x7 x8:Option V} (h:aZ O W) (F:br (k+300) W) (l:bV M0 W cs) (hK:Kw M0 cs W.aM k d O (R .next))
include h F l hK
theorem OG:Wq (ah (ay aw fu (n+1)) fu (fK Ik) (jN d x3 x4 x5 x6 x7 x8) O) R X:=by
 have x2:=(aj.refl (O:=O)).push (d:= .list (pF.map .str))
 refine e7 (lV (aS rfl (eE (aS rfl (eG (b:=5) (Nat.succ_pos n) (by decide) (by decide) (h.p.ext x2) λr s1 hr ew e1=>(u7 (f:= .str) (xs:=pF) hr).elim λrow hw=>bZ (eA (e1.get bH (Nat.ne_of_gt (adl (by decide:2<6) h.l))) hw.2) ?_)))))
 have rl:(row++[10]).length≤1000:=ado (List.all_eq_true.1 (show pF.all (λr=>decide ((r++[10]).length≤1000))=true by decide) row hw.1)
 exact iq ((h.ext x2).fV ew e1) F.slim (by decide) rl rl rfl (bG rfl rfl (ph rl)) (bG rfl rfl (ph rl)) λs2 h2 _ u2=>bx (hK s2 (Ar W row) _ _ _ _ _ _ h2 (V0 hw.1 F) (.inl ⟨U4 hw.1 l,rfl⟩) (x2.up.trans ((jc e1).trans u2)))
theorem Yc (hf:aq+100<fu):Wq (ah (ay aw fu (n+4)) fu (fK Gx) (jN d x3 x4 x5 x6 x7 x8) O) R X:=
 kI rfl (Pj hf h (adk F.slim.1 (by decide)) (adk F.slim.2 (by decide)) (adk F.m (adk (Nat.add_le_add_right (adk (adk (adn _ _) (adn _ _)) F.t) 5) (by decide))) λnm ps way s1 hn hp hl hw h1 u1=>have nF:=xI hn
  bx (hK s1 _ _ _ _ _ _ _ h1 (YD hn hp hl hw F) (.inl ⟨abc l hn (λp q=>((hp p q).facts nF.c).i.full nF.c) hw,gc (P:=λV:LW=>V.aM=W.aM) (λ_=>rfl) λ_=>rfl⟩) u1))
theorem XC (hf:aq+100<fu) (hE:lN (ay aw fu (n+1)) 20):Wq (ah (ay aw fu (n+2)) fu (fK Lw) (jN d x3 x4 x5 x6 x7 x8) O) R X:=
 iq h F.slim (by decide) (by decide) (by decide) rfl rfl rfl λs1 h1 S1 u1=>kI rfl (Rm hf h1 F.g hE (adk S1.1 (by decide)) (adk S1.2 (by decide)) λnm as wide s2 hu h2 u2=>
  have F2:=LX (W:=W.emit wT wT) hu l.u (br.emit (k:=k+100+100) (j:=100) F (by decide) (by decide) (cy rfl))
  iq h2 F2.slim (by decide) (by decide) (by decide) rfl rfl rfl λs3 h3 _ u3=>bx (hK s3 (qO W nm as wide) _ _ _ _ _ _ h3 (NQ hu l.u F) ((Qz l hu F.g).imp_left λl=>⟨l,VZ⟩) (u1.trans (u2.trans u3))))
where
 VZ {nm:List Nat} {as:List A0} {wide:Bool}:(qO W nm as wide).aM=W.aM:=by
  show (vL _ _ _ (jC (W.emit wT wT) nm as)).aM=W.aM
  cases jC (W.emit wT wT) nm as<;>rfl
theorem Uh:Wq (ah (ay aw fu (n+1)) fu (fK Jx) (jN d x3 x4 x5 x6 x7 x8) O) R X:=by
 refine e7 (lV (aS rfl (eE (aS rfl (eG (b:=5) (Nat.succ_pos n) (by decide) (by decide) h.p λr s1 hr ew e1=>(KN r hr).elim λnm hn=>bZ (hn.2 _) ?_)))))
 have ul:(nP nm).length≤1000:=adk (ki (List.all_eq_true.1 (show gS.all (λnm=>kO 150 (nP nm))=true by decide +kernel) nm hn.1)).1 (by decide)
 refine iq (h.fV ew e1) F.slim (by decide) ul (by decide) rfl (bG rfl rfl (ph (a:=[96,117,110,100,101,102,32]) ul)) rfl λs2 h2 S2 u2=>iq h2 S2 (by decide) (by decide) (by decide) rfl rfl rfl λs3 h3 _ u3=>?_
 have u:=(jc e1).trans (u2.trans u3)
 have f:=Q3 hn.1 F
 have lu:=Sd l hn.1
 exact fB (w_get h3.w rfl rfl) (λq=>(aZ.Yv (nm:=nm) h3).elim λes q2=>q2.elim λv q2=>q2.elim λs4 q2=>
   have e:pd W nm={ua W nm with aL:=fg W.aL nm}:=if_pos q
   dR (abt (bj rfl rfl (eM h3.w rfl)) q2.1 rfl rfl q2.2.1) (n1 (bx (hK s4 (pd W nm) _ _ _ _ _ _ (e▸q2.2.2.1) f (.inl ⟨lu,e▸rfl⟩) (u.trans q2.2.2.2)))))
  λq=>have e:pd W nm=ua W nm:=if_neg λc=>nomatch c.symm.trans q
   n1 (bx (hK s3 (pd W nm) _ _ _ _ _ _ (e▸h3) f (.inl ⟨lu,e▸rfl⟩) u))
theorem UP:Wq (ah (ay aw fu (n+1)) fu (fK yM) (jN d x3 x4 x5 x6 x7 x8) O) R X:=by
 have x2:=(aj.refl (O:=O)).push (d:= .list (m8.map λx=>V.tup [.str x.1,.str x.2.2]))
 refine pB (lV (aS rfl (eE (aS rfl (eG (b:=4) (Nat.succ_pos n) (by decide) (by decide) (h.p.ext x2) λr s1 hr ew e1=>(u7 (f:=λx:List Nat×Nat×List Nat=>V.tup [.str x.1,.str x.2.2]) (xs:=m8) hr).elim λx hx=>bZ (eA (e1.get bH (Nat.ne_of_gt (adl (by decide:2<6) h.l))) hx.2) ⟨rfl,bZ rfl ?_⟩)))))
 have h1:=(h.ext x2).fV ew e1
 have u1:=x2.up.trans (jc e1)
 have q:=List.all_eq_true.1 (show m8.all (λx=>((di 32 x.1).head?==some (x.1.take x.2.1)&&(x.1.take x.2.1).length==x.2.1)&&(decide (x.1.length≤40)&&decide ((x.1.drop x.2.1++[10]).length≤100)))=true by decide +kernel) x hx.1
 have sp:((di 32 x.1).map V.str)[0]?=some (.str (x.1.take x.2.1)):=by rw [List.getElem?_map, ←List.head?_eq_getElem?,show (di 32 x.1).head?=_ from eq_of_beq (bp (bp q))];rfl
 have ln:(x.1.take x.2.1).length=x.2.1:=eq_of_beq (aW (bp q))
 have JE:x.1.length≤40:=ado (bp (aW q))
 have t1:(x.1.take x.2.1).length≤1000:=adk (List.length_take_le' _ _) (adk JE (by decide))
 have t2:(x.1.drop x.2.1++[10]).length≤1000:=adk (ado (aW (aW q))) (by decide)
 have same:=Gq (W:=W) (w:=x.2.2)
 have S:pv 50000 (lz W x.2.2):=⟨same.t.symm▸F.slim.1,same.d.symm▸F.slim.2⟩
 have ac:∀s2,aZ s2 (lz W x.2.2)→Up s1 s2→Wq (ah (ay aw fu (n+1)) fu (bf 2 (fK yM)) (jN d x3 x4 (some (.str x.1)) x6 (some (.str x.2.2)) x8) s2) R X:=λs2 h2 u2=>by
  have y:=(aj.refl (O:=s2)).push (d:= .list ((di 32 x.1).map .str))
  have fst:∀{s:ag},s[s2.length]?=some (.list ((di 32 x.1).map .str))→dh s (.ref s2.length) (.int 0)=some (.str (x.1.take x.2.1)):=λg=>eA (i:=0) g sp
  refine aV (jz rfl rfl rfl (YF (adm JE (dm▸by decide)))) (iq (h2.ext y) S (by decide) t1 (by decide) rfl (bj rfl rfl (fst bH)) rfl λs3 h3 S3 u3=>iq h3 S3 (by decide) t2 (by decide) rfl (bG (eZ rfl (fq (aJ (bj rfl rfl (fst (u3.get bH h2.l))) rfl) oX) rfl (by
   rw [ln];exact SD (adm (adk (adt ln.symm) t1) (by decide)))) rfl (ph t2)) rfl λs4 h4 _ u4=>bx (hK s4 (rZ W x) _ _ _ _ _ _ h4 (Qj hx.1 F) (.inl ⟨PZ l hx.1,same.a⟩) (u1.trans (u2.trans (y.up.trans (u3.trans u4))))))
 have c:ev (ay aw fu (n+1)) fu (.and (.cons (.idx (.loc 1) (.str Eh)) (.cons (.cmp .ne (.loc 7) (.str [])) .nil))) (jN d x3 x4 (some (.str x.1)) x6 (some (.str x.2.2)) x8) s1= .ok (.bool (W.aM&& !decide (x.2.2=[]))) s1:=ku (fC (w_get h1.w rfl rfl) (fN (aO rfl rfl m9)))
 refine fB c (λg=>?_) λg=>n1 (ac s1 (by rw [vX (Wk g)];exact h1) .refl)
 ·have e:=BG (W:=W) (w:=x.2.2) (bp g) λe=>by rw [e] at g;exact nomatch (aW g)
  have a:=h1.aa6 (W.dT.length,x.2.2)
  exact dR (iw (w_get h1.w rfl rfl) h1.n rfl (aJ (og (aJ (fq (aJ (w_get h1.w rfl rfl) rfl) oX) rfl)) rfl) ((ip h1.n (by rw [List.length_map];exact adm (adk F.n F.slim.1) (dm▸by decide))).trans (by rw [show W.bT.map g8++[V.tup [.int (W.dT.length:Int),.str x.2.2]]=(W.bT++[(W.dT.length,x.2.2)]).map g8 from by rw [List.map_append];rfl]))) (n1 (ac _ (e.symm▸a.1) a.2))
theorem row_cond (hC:Cf M0 (ay aw fu (n+1)) d):Wq (ah (ay aw fu (n+1)) fu Sp (jN d x3 x4 x5 x6 x7 x8) O) R X:=kI rfl (hC O W k cs _ X h F l λs1 W1 h1 F1 T1 u1=>bx (hK s1 W1 _ _ _ _ _ _ h1 F1 T1 u1))
end
noncomputable def bk (d:Nat):Nat:=if d<3 then 10 else 8
inductive RI (M0:bz) (O:ag) (W:LW) (cs:f6) (k d j:Nat):Locals→ag→Prop where
 |mk {x3 x4 x5 x6 x7 x8:Option V} {s:ag} {W1:LW} (h:aZ s W1) (F:br k W1) (T:Told M0 W1 cs W.aM) (u:Up O s):RI M0 O W cs k d j (jN d x3 x4 x5 x6 x7 x8) s
theorem abw {C:Calls} {x3 x4 x5 x6 x7 x8:Option V}:ev C fu (.ite (.cmp .lt (.loc 2) (.int 3)) (.int 10) (.int 8)) (jN d x3 x4 x5 x6 x7 x8) O= .ok (.int (bk d:Int)) O:=pL (t:=decide (d<3)) (aO rfl rfl (nT (b:=3))) (λq=>congrArg (λb:Nat=>Out.ok (V.int (b:Int)) O) (if_pos (ado q)).symm) λq=>congrArg (λb:Nat=>Out.ok (V.int (b:Int)) O) (if_neg (adp q)).symm
theorem br.room (F:br k W) (h:¬W.room-1<0):br (k+300) {W with room:=W.room-1}:=⟨by
  show W.text.length+300*(W.room-1).toNat+(k+300)≤_
  have:=F.t;omega,by
  show W.dT.length+300*(W.room-1).toNat+(k+300)≤7500+40*W.uses
  have:=F.d;omega,F.m,F.n,F.u,F.g,F.a,F.nw⟩
theorem br.MA (F:br k W):br k {W with room:=W.room-1}:=⟨adk (Nat.add_le_add_right (Nat.add_le_add_left (Nat.mul_le_mul_left 300 Lg) _) k) F.t,adk (Nat.add_le_add_right (Nat.add_le_add_left (Nat.mul_le_mul_left 300 Lg) _) k) F.d,F.m,F.n,F.u,F.g,F.a,F.nw⟩
where Lg:(W.room-1).toNat≤W.room.toNat:=Int.toNat_le_toNat (Int.sub_le_self _ (by decide))
theorem KY {d:Nat} (hf:aq+100<fu) (hd:d≤3) (hC:d<3→Cf M0 (ay aw fu (n+4)) d) (hE:lN (ay aw fu (n+3)) 20):tN M0 (ay aw fu (n+5)) d:=λO W k cs Q X h F l zU=>by
 refine dY (L:=[some (.ref 2),some (.ref 5),some (.int (d:Int)),none,none,none,none,none,none]) rfl rfl (by decide) rfl (D3 (eE (aS (aJ rfl (aJ (bG (v:= .int ((6-d:Nat):Int)) rfl rfl (vr.trans (congrArg (λi=>some (V.int i)) (Int.ofNat_sub (adk hd (by decide))).symm))) rfl)) (eG (b:=6-d) (Nat.succ_pos _) (Nat.sub_pos_of_lt (adm hd (by decide))) (adm (Nat.sub_le 6 d) (by decide)) h.p λN s1 hN ew e1=>⟨N,rfl,adk (Nat.le_of_lt hN) (adk (Nat.sub_le 6 d) (by decide)),zw (RI M0 O W cs k d) hf (adk (Nat.le_of_lt hN) (adk (Nat.sub_le 6 d) (by decide))) (.mk (h.fV ew e1) F (.inl ⟨l,rfl⟩) (jc e1)) (λj L s K hj hK hI=>?_) λL s hI=>?_⟩))))
 ·cases hI with
  |@mk x3 x4 x5 x6 x7 x8 _ W1 h1 F1 T1 u1=>
   refine oy (aJ rfl (aJ abw rfl)) (eG (b:=bk d) (Nat.succ_pos _) (gc (P:=λb=>0<b) (λ_=>by decide) λ_=>by decide) (gc (P:=λb=>b<1000) (λ_=>by decide) λ_=>by decide) h1.p λkd s2 uV gM e2=>?_)
   refine tT (W':={W1 with room:=W1.room-1}) (h1.fV gM e2) rfl rfl rfl rfl rfl rfl rfl λs3 e3 h3=>?_
   have u3:=u1.trans ((jc e2).trans (q9 e3))
   have c:ev (ay aw fu (n+4)) fu (.or (.cons (.cmp .iM (.idx (.loc 1) (.str uk)) .none) (.cons (.cmp .lt (.idx (.loc 1) (.str zY)) (.int 0)) .nil))) (jN d (some (.int (j:Int))) (some (.int (kd:Int))) x5 x6 x7 x8) s3= .ok (.bool (W1.fault.isSome||decide (W1.room-1<0))) s3:=oN (jL (DW (W:={W1 with room:=W1.room-1}) h3 rfl) (jT (aO (w_get h3.w rfl rfl) rfl mi)))
   have out:Told M0 {W1 with room:=W1.room-1} cs W.aM:=T1.imp (λl=>⟨⟨l.1.f,l.1.u,l.1.h⟩,l.2⟩) λD=>match D with
    |⟨k,p,f,a,h⟩=>⟨k,p,f,a,h⟩
   refine T1.elim (λl1=>?_) λD=>cO (c.trans (by rw [D.some.2];rfl)) (tK (.ret (.ret (.ret (zU s3 _ h3 F1.MA out u3)))))
   by_cases hr:W1.room-1<0
   ·exact cO (c.trans (by rw [decide_eq_true hr,Bool.or_true])) (tK (.ret (.ret (.ret (zU s3 _ h3 F1.MA out u3)))))
   have F3:=F1.room hr
   have l3:bV M0 {W1 with room:=W1.room-1} cs:=⟨l1.1.f,l1.1.u,l1.1.h⟩
   have K3:∀{R:Flow→Locals→ag→Prop},(∀{L s},K L s→R .next L s)→Kw M0 cs ({W1 with room:=W1.room-1}:LW).aM k d s3 (R .next):=λf s' W' y3 y4 y5 y6 y7 y8 h' F' T' u'=>f (hK _ _ (.mk h' F' (l1.2▸T') (u3.trans u')))
   refine cg (c.trans (by rw [l1.1.f,decide_eq_false hr];rfl)) (fB (aO rfl rfl mi) (λ_=>OG h3 F3 l3 (K3 λk=> .next (uz k))) λ_=>fB (aO rfl rfl mi) (λ_=>Yc h3 F3 l3 (K3 λk=> .next (jk k)) hf) λ_=>eQ (aO rfl rfl (nT (b:=6))) (λ_=>XC h3 F3 l3 (K3 λk=> .next (jh k)) hf hE) λq5=>eQ (aO rfl rfl (kQ (b:=6))) (λ_=>Uh h3 F3 l3 (K3 λk=> .next (n1 (jh k)))) λq6=>eQ (aO rfl rfl (kQ (b:=7))) (λ_=>UP h3 F3 l3 (K3 λk=> .next (n2 (jh k)))) λq7=>row_cond h3 F3 l3 (K3 λk=> .next (n2 (jh k))) (hC ?_))
   exact Classical.byContradiction λCW=>by
    rw [bk,if_neg CW] at uV;omega
 ·cases hI with
  |mk h1 F1 T1 u1=>exact bx (.next (zU s _ h1 F1 T1 u1))
end
section
variable {fu n:Nat} {O:ag} {X:aX→ag→Prop} {Q:V→ag→Prop}
noncomputable def aan (v:V):Prop:=∃x:Int,v= .int x
noncomputable def m7 (vs:List V):Prop:=∀v∈vs,aan v
theorem m7.push {vs:List V} {x:Int} (h:m7 vs):m7 (vs++[.int x]):=λv hv=>(List.mem_append.1 hv).elim (h v) λhv=>⟨x,List.mem_singleton.1 hv⟩
theorem abb {a:Int} {b:Nat} (hb:0<b) (pA:b<2000):jf .fdiv O (.int a) (.int (b:Int))= .ok (.int (a.fdiv b)) O:=nN (if_pos (c:=0<(b:Int)∧(b:Int)<1073741824) ⟨Int.ofNat_lt.2 hb,Int.lt_trans (Int.ofNat_lt.2 pA) (by decide)⟩)
theorem QR {vs:List V}:jx O (.frozen vs) .none (.int 40) false true= .ok (.ref O.length) (O++[Cell.list (vs.take 40)]):=kH (show kL .none false=some Option.none from rfl) (kH (uR (k:=40) (by decide)) rfl)
abbrev bP:Ss:=F7
noncomputable def yi (vs:List V) (m:Int) (x3 x4 x5 x6:Option V):Locals:=[some (.frozen vs),some (.ref 0),some (.int m),x3,x4,x5,x6]
structure kT (ws:List V) (b:Nat) (s:ag) (dO:List V):Prop where
 g0:s[0]?=some (.list dO)
 i:m7 dO
 l:dO.length≤b
 g1:s[1]?=some (.list ws)
 n:s.length=2
inductive zR (vs ws:List V) (b:Nat) (m:Int) (x3 x4:Option V):Locals→ag→Prop where
 |mk {dO:List V} {r:Int} {x6:Option V} {s:ag} (h:kT ws b s dO):zR vs ws b m x3 x4 (yi vs m x3 x4 (some (.int r)) x6) s
theorem kT.push {ws:List V} {b:Nat} {s:ag} {dO:List V} {x:Int} (h:kT ws b s dO):kT ws (b+1) (s.set 0 (.list (dO++[.int x]))) (dO++[.int x]):=
 ⟨de h.g0,h.i.push,adk (adt List.length_append) (Nat.succ_le_succ h.l),fQ h.g1 (by decide),List.length_set.trans h.n⟩
theorem kT.le {ws:List V} {b b':Nat} {s:ag} {dO:List V} (h:kT ws b s dO) (hb:b≤b'):kT ws b' s dO:=⟨h.g0,h.i,adk h.l hb,h.g1,h.n⟩
theorem R0 {vs ws dO:List V} {k:Nat} {m c:Int} {x3 x4 x6:Option V} {ss:Ss} {R:Flow→Locals→ag→Prop} {C:Calls} (hf:aq+100<fu) (hk:k≤40) (h:kT ws (60*k) O dO) (K:∀L s,zR vs ws (60*(k+1)) m x3 x4 L s→Wq (ah C fu ss L s) R X):
  Wq (ah C fu (.cons (.forR 6 (.int 60) (fK (bf 3 (fK (bf 2 bP))))) ss) (yi vs m x3 x4 (some (.int c)) x6) O) R X:=
 wV 60 (λj=>zR vs ws (60*k+j) m x3 x4) (adm (adk (by decide) (Nat.le_add_left 100 aq)) hf) (by decide) (aS rfl ⟨rfl,.mk h⟩) (λj L s K2 hj VC hI=>by
  cases hI with
  |@mk dO r x6 _ h=>exact dR (iQ rfl h.g0 (bG rfl rfl (yh (b:=840) (by decide) (by decide))) (ip h.g0 (adm h.l (adl (Nat.add_lt_add_of_le_of_lt (Nat.mul_le_mul_left 60 hk) hj) (dm▸by decide))))) (xw rfl rfl (abb (b:=840) (by decide) (by decide)) rfl (fB (aO rfl rfl oD) (λ_=>vv (.brk (.brk (K _ _ (.mk (h.push.le (Nat.add_le_add_left hj (60*k)))))))) λ_=>jk (VC _ _ (.mk h.push))))) λL s hI=>K L s hI
inductive Mo (vs ws:List V) (k:Nat):Locals→ag→Prop where
 |mk {dO:List V} {m:Int} {x3 x4 x5 x6:Option V} {s:ag} (hk:k≤ws.length) (h:kT ws (60*k) s dO) (hm:0≤m∧m<1009):Mo vs ws k (yi vs m x3 x4 x5 x6) s
theorem J3 {vs ws dO:List V} {b:Nat} {m:Int} {x3 x4 x5 x6:Option V} {C:Calls} (h:kT ws b O dO) (hm:0≤m∧m<1009) (H:∀af,dA af→af.length=3→Q (.ref 2) af):Wq (ah C fu (bf 3 bP) (yi vs m x3 x4 x5 x6) O) (bL Q) X:=
 have x:=(aj.refl (O:=O)).push (d:= .list [V.ref 0,.int 0,.int m])
 dp rfl (.ret (by
  show Q (.ref O.length) _
  rw [h.n]
  exact H _ ⟨dO,0,m,x.get h.g0,h.i,(h.n▸bH (O:=O) (d:= .list [V.ref 0,.int 0,.int m])),hm⟩ (kW.trans (congrArg (· +1) h.n))))
theorem VJ {vs:List V} (hf:aq+100<fu) (hv:m7 vs) (H:∀af,dA af→af.length=3→Q (.ref 2) af):Wp (ay aw fu (n+1) 27 [.frozen vs] []) Q X:=by
 have Kj:m7 (vs.take 40):=λv h=>hv v (List.mem_of_mem_take h)
 have AU:(vs.take 40).length≤40:=List.length_take_le _ _
 have hs:jx [Cell.list []] (.frozen vs) .none (.int 40) false true= .ok (.ref 1) [.list [],.list (vs.take 40)]:=QR
 generalize vs.take 40=ws at Kj AU hs
 refine dY (L:=[some (.frozen vs),none,none,none,none,none,none]) rfl rfl (by decide) rfl (aV rfl (aV rfl (qo ws.length (Mo vs ws) (adm AU (adm (adk (by decide) (Nat.le_add_left 100 aq)) hf)) (aS (eZ rfl rfl rfl hs) ⟨_,rfl,.mk (dO:=[]) (m:=5) (ads _) ⟨rfl,λ_ h=>(nomatch h),adq _,rfl,rfl⟩ (by decide),λk L s K hK hI=>?_⟩))))
 cases hI with
 |@mk dO m x3 x4 x5 x6 _ hk h hm=>
  refine ⟨hk,bZ (jJ h.g1) ((Nat.lt_or_eq_of_le hk).elim (λq=>?_) λq=>?_)⟩
  ·rw [List.getElem?_eq_getElem q]
   refine (Kj _ (List.getElem_mem q)).elim λc hc=>?_
   rw [hc]
   have fm:=za (a:=m*31+c) (b:=1009) (by decide)
   exact .more ⟨q,aV rfl (aV (bG (bG (bG rfl rfl (BZ ⟨Int.lt_of_lt_of_le (by decide) hm.1,Int.lt_trans hm.2 (by decide)⟩ (by decide))) rfl KC) rfl (yh (b:=1009) (by decide) (by decide))) (aV rfl (R0 hf (adk hk AU) h λL s hI=>by
    cases hI with
    |@mk dO r x6 _ h=>exact fB (aO (fq (aJ rfl rfl) (mn h.g0)) rfl lZ) (λ_=>vv (.brk (.brk (J3 h fm H)))) λ_=>jk (hK _ _ (.mk q h fm)))))⟩
  ·rw [List.getElem?_eq_none (adt q.symm)]
   exact .done (J3 h hm H)
end
section
variable {fu n:Nat} {O:ag} {X:aX→ag→Prop} {M0:bz}
theorem Fb (hn:1<n) (hf:aq+100<fu):∀(k d:Nat),d+k=20→oo (ay aw fu (n+2*k+2)) d
 |0,d,hd=>Ki hn hf λh=>absurd ((show d=20 from hd)▸h) (Nat.lt_irrefl 20)
 |k+1,d,hd=>Ki (n:=n+2*k+2) (adl hn (adk (adn _ _) (adn _ _))) hf λ_=>Vy (adl hn (adk (adn _ _) (adn _ _))) hf (Fb hn hf k (d+1) (by rw [←hd,Nat.add_right_comm,Nat.add_assoc]))
theorem CE (hn:0<n) (hf:aq+100<fu):∀f,lN (ay aw fu (n+f+2)) f
 |0=>Gw hn hf λ_ h=>nomatch h
 |f+1=>Gw (n:=n+f+1) (Nat.succ_pos _) hf λg h=>Nat.succ.inj h▸CE hn hf f
theorem Fq (hf:aq+100<fu):∀(k d:Nat),d+k=3→tN M0 (ay aw fu (n+2*k+25)) d
 |0,d,hd=>KY (n:=n+20) hf (adt hd) (λh=>absurd ((show d=3 from hd)▸h) (Nat.lt_irrefl 3)) (CE (n:=n+1) (Nat.succ_pos n) hf 20)
 |k+1,d,hd=>KY (n:=n+2*k+22) hf (hd▸adn d _) (λ_=>Uq (n:=n+2*k+24) hf (Fq hf k (d+1) (by rw [←hd,Nat.add_right_comm,Nat.add_assoc]))) (CE (n:=n+2*k+3) (Nat.succ_pos _) hf 20)
inductive L6 (w:Nat) (aQ:List Nat) (L:Locals) (R:Flow→Locals→ag→Prop) (x:aX) (s:ag):Prop where
 |mk (wv y:V) (h1:L.get w=some wv) (h2:dh s wv (.str aQ)=some y) (h3:ju s (.tup [x.k,x.a]) y=some true) (h4:R (.ret (.bool true)) L s):L6 w aQ L R x s
theorem aaB {C:Calls} {i0 i w:Nat} {e:E} {aQ:List Nat} {ss:Ss} {L:Locals} {R:Flow→Locals→ag→Prop} (h:Wp (ev C fu e L O) (λv s=>Wq (ah C fu ss (L.put i0 v) s) R X) (L6 w aQ L R)):
  Wq (ah C fu (.cons (.j8 (.cons (.aA i0 e) .nil) i w aQ) ss) L O) R X:=fc (by
 show Wq (handled (ah C fu (.cons (.aA i0 e) .nil) L O) w aQ) _ X
 rw [G0]
 show Wq (handled ((ev C fu e L O).toS L λv O=> .ok .next (L.put i0 v) O) w aQ) _ X
 generalize ev C fu e L O=o at h ⊢
 cases h with
 |ok h=>exact .ok (.next h)
 |@exc _ _ x s h=>cases h with
  |mk wv y h1 h2 h3 h4=>
   show Wq (bK ((L.get w).bind λx=>dh s x (.str aQ)) .stuck λy=>bK (ju s (.tup [x.k,x.a]) y) .stuck λr=> .ok (.ret (.bool r)) L s) _ X
   rw [h1]
   show Wq (bK (dh s wv (.str aQ)) .stuck _) _ X
   rw [h2]
   show Wq (bK (ju s (.tup [x.k,x.a]) y) .stuck _) _ X
   rw [h3]
   exact .ok (.ret h4))
theorem Kp {x:List Nat}:PySem.PyData.eqv (dM x) (dM x)=true:=by simp [PySem.PyData.eqv,dM]
theorem I0 {x:Int}:PySem.PyData.eqv (.int x) (.int x)=true:=by simp [PySem.PyData.eqv]
theorem tC {x y:PySem.PyData} {xs ys:List PySem.PyData} (h:PySem.PyData.eqv x y=true) (h2:PySem.PyData.eqvAll xs ys=true):PySem.PyData.eqvAll (x::xs) (y::ys)=true:=by rw [PySem.PyData.eqvAll,h,h2];rfl
theorem XD {k:List Nat} {p:Nat} {s:ag} (hk:a9 k):ju s (.tup [.str k,.int (p:Int)]) (yn (some (k,p)))=some true:=
 have e:V.py s 4 (.tup [.str k,.int (p:Int)])=some (.tuple [dM k,.int (p:Int)]):=vh (iJ rfl (iJ rfl rfl))
 have l:ml (.tuple [dM k,.int (p:Int)]) 1:=vg (.cons (pJ hk) (.cons ⟨rfl,ads _⟩ .nil))
 (show jV s (.tup [.str k,.int (p:Int)]) (.tup [.str k,.int (p:Int)])=_ from we e e l l (by decide) (by decide)).trans (congrArg some (show PySem.PyData.eqvAll [dM k,.int (p:Int)] [dM k,.int (p:Int)]=true from tC Kp (tC I0 rfl)))
noncomputable def rj (x:Nat×List Nat):PySem.PyData:= .tuple [.int (x.1:Int),dM x.2]
theorem Eb {s:ag}:∀l:List (Nat×List Nat),V.pS s 3 (l.map g8)=some (l.map rj)
 |[]=>rfl
 |x::r=>iJ (vh (iJ rfl (iJ rfl rfl))) (Eb r)
theorem ML:∀l:List (Nat×List Nat),PySem.PyData.eqvAll (l.map rj) (l.map rj)=true
 |[]=>rfl
 |x::r=>tC (show PySem.PyData.eqvAll [.int (x.1:Int),dM x.2] [.int (x.1:Int),dM x.2]=true from tC I0 (tC Kp rfl)) (ML r)
theorem A3:∀l:List (Nat×List Nat),(∀x∈l,a9 x.2)→o7 1 (l.map rj)
 |[],_=> .nil
 |x::r,h=> .cons (vg (.cons ⟨rfl,ads _⟩ (.cons (pJ (h x (.head _))) .nil))) (A3 r λy hy=>h y (.tail _ hy))
theorem UQ {s:ag} {a b:Nat} {l:List (Nat×List Nat)} (h1:s[a]?=some (.list (l.map g8))) (h2:s[b]?=some (.list (l.map g8))) (hl:∀x∈l,a9 x.2):ct .eq s (.ref a) (.ref b)=some (.bool true):=
 congrArg (Option.map V.bool) ((show jV s (.ref a) (.ref b)=_ from we (nS h1 (Eb l)) (nS h2 (Eb l)) (nh (A3 l hl)) (nh (A3 l hl)) (by decide) (by decide)).trans (congrArg some (show PySem.PyData.eqvAll (l.map rj) (l.map rj)=true from ML l)))
noncomputable def RT:Flow→Locals→ag→Prop:=λf _ _=>f= .ret (.bool true)
theorem abi {d:V} {W:LW} {x0 x1 x4 x5 x6 x7 x8 x9 fD:Option V} (hf:aq+100<fu) (h:aZ O W) (T:bV M0 W []∨kR M0 W) (ha:a9 W.text) (hl:W.text.length≤200000) (hd:W.dT.length≤aq) (Z5:∀x∈W.bT,a9 x.2) (ho:jP O d M0):
  Wq (ah (ay aw fu (n+46)) fu (bf 6 jA) [x0,x1,some (.ref 5),some d,x4,x5,x6,x7,x8,x9,fD] O) RT (λ_ _=>False):=by
 refine e7 (B0 (aS rfl (U5 (n:=n+43) (by omega) hf ho λae hM pK=>?_)))
 have low:∀{s:ag} {i:Nat} {c:Cell},ck O.length O s→O[i]?=some c→s[i]?=some c:=λhl g=>hl.get g (dE g)
 have hU:oo (ay aw fu (n+44)) 0:=Fb (n:=n+2) (Nat.le_add_left 2 n) hf 20 0 rfl
 have w1:=low pK h.w
 cases hM with
 |mk nt pc ln cd act u lo hp hT nn TX mq=>
  have hM:Made O.length O.length (O.length+1) (O.length+2) ae M0:=⟨nt,pc,ln,cd,act,u,lo,hp,hT,nn,TX,mq⟩
  refine aaB (rV rfl hp rfl (aJ (bj rfl rfl (eM w1 rfl)) rfl) ?_)
  refine T.elim (λl=>?_) λD=>?_
  ·have hx:=l.h [] _ (Xp.nil (s:=cX W []) rfl hd)
   rw [List.append_nil] at hx
   refine LI (n:=n+42) (by omega) hf hl ha hM hU hx λs2 j2 mX jb=>dp (v:= .bool true) (ae:=s2) ?_ rfl
   have Ic:ck O.length O s2:=pK.trans j2
   have w2:=low Ic h.w
   exact (ku (fC (aO (bj rfl rfl (eM w2 rfl)) rfl wF) (fC (aO rfl (bj rfl rfl (eM w2 rfl)) pq) (fN (aO (cH rfl (cI mX rfl)) (bj rfl rfl (eM w2 rfl)) (UQ jb (low Ic h.n) Z5)))))).trans (congrArg (λb=>Out.ok (V.bool b) s2) (by
    rw [l.f]
    show (true&&(decide (W.dT=W.dT)&&true))=true
    rw [decide_eq_true rfl];rfl))
  ·cases D with
   |mk k p f ak hx=>exact LI (n:=n+42) (by omega) hf hl ha hM hU hx λs2 y j2 y1 y2=>⟨_,_,rfl,eM (low (pK.trans j2) h.w) rfl,by rw [y1,y2,f];exact XD ak,rfl⟩
end
section
variable {fu n:Nat} {O:ag} {X:aX→ag→Prop} {M0:bz} {W:LW} {R:Flow→Locals→ag→Prop}
abbrev Bo:Ss:=fK (bf 5 jA)
noncomputable def p0 (x:FR):V:= .tup [.str x.1,.str x.2.1,.int (x.2.2:Int)]
noncomputable def kr (x0 x3 x4 x5 x6 x7:Option V):Locals:=[x0,some (.ref 2),some (.ref 5),x3,x4,x5,x6,x7,none,none,none]
theorem vR {C:Calls} {J:ag} {e:E} {ss:Ss} {a:Nat} {xs ys:List V} {x0 x3:Option V} (hx:aj J O) (hb:J.length≤a) (g:O[a]?=some (.list xs)) (he:∀{s:ag},ev C fu e (kr x0 x3 (some (.ref a)) none none none) s= .ok (.ref s.length) (s++[Cell.list ys])) (hl:xs.length+ys.length≤1000)
    (k:∀af,aj J af→af[a]?=some (.list (xs++ys))→Wq (ah C fu ss (kr x0 x3 (some (.ref a)) none none none) af) R X):Wq (ah C fu (.cons (.gF 4 .add e) ss) (kr x0 x3 (some (.ref a)) none none none) O) R X:=
 have y:=(aj.refl (O:=O)).push (d:= .list ys)
 have ga:=y.get g
 xw rfl he (JS ga bH (Nat.ne_of_lt (dE g)) (adk hl (dm▸by decide))) rfl (k _ ((hx.trans y).set hb) (de ga))
theorem Rc {a b:Nat}:ct .ge O (.int (a:Int)) (.int (b:Int))=some (.bool (decide (b≤a))):=congrArg (λb=>some (V.bool b)) (decide_eq_decide.2 Int.ofNat_le)
theorem L5:∀x∈j7,kO 40 x.1=true:=List.all_eq_true.1 (by decide +kernel)
theorem RJ {x:FR} (h:fW W x=[]):mE W x={W with text:=W.text++x.1}:=by unfold mE;rw [if_pos h]
theorem Ob {x:FR} (h:fW W x≠[]):mE W x={W with text:=W.text++x.1,fault:=some (fW W x,W.text.length+x.2.2)}:=by unfold mE;rw [if_neg h]
theorem Yk {C:Calls} {x:FR} {x0 x3 x4:Option V} (h:aZ O W) (ht:W.text.length≤100000) (hx:x∈j7) (H:∀s,aZ s (mE W x)→Up O s→R .next (kr x0 x3 x4 (some (.str x.1)) (some (.str (fW W x))) (some (.int (x.2.2:Int)))) s):
  Wq (ah C fu (bf 7 Bo) (kr x0 x3 x4 (some (.str x.1)) (some (.str (fW W x))) (some (.int (x.2.2:Int)))) O) R X:=
 have tl:(W.text++x.1).length≤aq:=List.length_append (as:=W.text)▸adk (Nat.add_le_add ht (ki (L5 x hx)).1) (dm▸by decide)
 fB (aO rfl rfl m9) (λq=>uQ (W':={W with fault:=some (fW W x,W.text.length+x.2.2)}) h rfl (og (aJ rfl (aJ (bG (fq (aJ (bj rfl rfl (eM h.w rfl)) rfl) oX) rfl zF) rfl))) rfl rfl rfl λs1 e1 h1=>
   n1 (tT (W':={W with text:=W.text++x.1,fault:=some (fW W x,W.text.length+x.2.2)}) h1 rfl rfl rfl (tW tl) rfl rfl rfl λs2 e2 h2=>bx (H s2 (Ob (λe=>by rw [decide_eq_true e] at q;exact nomatch q)▸h2) (q9 (e1.trans e2)))))
  λq=>n1 (tT (W':={W with text:=W.text++x.1}) h rfl rfl rfl (tW tl) rfl rfl rfl λs2 e2 h2=>bx (H s2 (RJ (ado (CA q))▸h2) (q9 e2)))
theorem PK {x0 x3:Option V} (h:aZ O W) (ht:W.text.length≤100000) (H:∀(x:FR) s x4 x5 x6 x7,x∈j7→aZ s (mE W x)→Up O s→R .next (kr x0 x3 x4 x5 x6 x7) s):Wq (ah (ay aw fu (n+1)) fu Bo (kr x0 x3 none none none none) O) R X:=by
 have ne:O.length≠2:=Nat.ne_of_gt (adl (by decide) h.l)
 refine aV rfl (vR (ys:=((j7.drop 3).take 3).map p0) ((aj.refl (O:=O)).push (d:= .list ((j7.take 3).map p0))) (adq _) bH rfl (by decide) λs1 y1 g1=>vR (ys:=((j7.drop 6).take 3).map p0) y1 (adq _) g1 rfl (by decide) λs2 y2 g2=>vR (ys:=((j7.drop 9).take 2).map p0) y2 (adq _) g2 rfl (by decide) λs3 y3 g3=>vR (ys:=((j7.drop 11).take 2).map p0) y3 (adq _) g3 rfl (by decide) λs4 y4 g4=>?_)
 have g4:s4[O.length]?=some (.list (j7.map p0)):=g4
 have h4:=h.ext y4
 refine pB (lV (aS rfl (Gh (eE (aS rfl (eG (b:=2) (Nat.succ_pos n) (by decide) (by decide) h4.p λr1 s5 LK xK e5=>eE (aS rfl (eG (b:=13) (Nat.succ_pos n) (by decide) (by decide) xK λr2 s6 kC YA e6=>bZ (BZ ⟨Int.lt_of_lt_of_le (by decide) (Int.natCast_nonneg r1),Int.lt_trans (Int.ofNat_lt.2 LK) (by decide)⟩ ⟨Int.lt_of_lt_of_le (by decide) (Int.natCast_nonneg r2),Int.lt_trans (Int.ofNat_lt.2 kC) (by decide)⟩) ?_))))))))
 refine (u7 (f:=p0) (xs:=j7) (r:=r1*r2) (adm (Nat.mul_le_mul_right r2 (Nat.le_of_lt_succ LK)) ((Nat.one_mul r2).symm▸kC))).elim λx hx=>?_
 rw [←Int.natCast_mul]
 have h6:=(h4.fV xK e5).fV YA e6
 have u6:=y4.up.trans ((jc e5).trans (jc e6))
 have fin:∀{x4},Wq (ah (ay aw fu (n+1)) fu (bf 7 Bo) (kr x0 x3 x4 (some (.str x.1)) (some (.str (fW W x))) (some (.int (x.2.2:Int)))) s6) R X:=Yk h6 ht hx.1 λs h' u=>H x s _ _ _ _ hx.1 h' (u6.trans u)
 refine bZ (eA (e6.get (e5.get g4 ne) ne) hx.2) ⟨rfl,bZ rfl (eQ (p:=Nc W x) ((ku (fC (aO rfl rfl (kQ (b:=15))) (fC (aO rfl rfl pq) (fN (aO (bj rfl rfl (eM h6.w rfl)) rfl (Rc (b:=1000))))))).trans (congrArg (λb=>Out.ok (V.bool b) s6) (by rw [Bool.decide_and,Bool.decide_and];rfl))) (λq=>aV rfl (n1 ?_)) λq=>n1 ?_)⟩
 ·have f:=fin (x4:=some (.ref O.length))
  rw [show fW W x=kJ from if_pos q] at f
  exact f
 ·have f:=fin (x4:=some (.ref O.length))
  rw [show fW W x=x.2.1 from if_neg q] at f
  exact f
theorem jP.up {af:ag} {v:V} {M:bz} (h:jP O v M) (u:Up O af) (ho:∀od,v= .ref od→6≤od):jP af v M:=h.imp_right λ⟨od,h1,h2,h3⟩=>⟨od,h1,u.get h2 (ho od h1),h3⟩
theorem FF {vs:List V} {M:iW} {dv:V} (hf:aq+100<fu) (h:aZ O ⟨[],[],M,true,none,[],24,0⟩) (ho:jP O dv (da M)) (hM:gH M) (hl:M.length≤5) (e9:∀od,dv= .ref od→6≤od):Wq (ah (ay aw fu (n+46)) fu (bf 4 jA) (kr (some (.frozen vs)) (some dv) none none none none) O) RT (λ_ _=>False):=by
 refine kI rfl (Fq (n:=n+15) (M0:=da M) hf 3 0 rfl O _ 300 [] _ _ h ⟨by show 0+300*24+300≤7500;decide,by show 0+300*24+300≤7500+40*0;decide,adk hl (Nat.le_add_left 5 _),adq _,ads _,hM,qs,λy hy=>nomatch hy⟩ ⟨rfl,ads _,λac=>St.nil⟩ λs4 W4 h4 F4 T4 u4=>?_)
 have b4:=F4.slim
 have tail:∀{W:LW} {s:ag} {x4 x5 x6 x7:Option V},aZ s W→bV (da M) W []∨kR (da M) W→a9 W.text→W.text.length≤200000→W.dT=W4.dT→W.bT=W4.bT→Up s4 s→Wq (ah (ay aw fu (n+46)) fu (bf 6 jA) (kr (some (.frozen vs)) (some dv) x4 x5 x6 x7) s) RT (λ_ _=>False):=λh T ha hl hd hn u=>
  abi hf h T ha hl (hd▸adk b4.2 (dm▸by decide)) (hn▸F4.nw) (ho.up (u4.trans u) e9)
 refine T4.elim (λl=>cO ((aO (bj rfl rfl (eM h4.w rfl)) rfl wF).trans (by rw [l.1.f];rfl)) (PK h4 (adk b4.1 (by decide)) λx s x4 x5 x6 x7 hx h5 u5=> .next ?_)) λD=>fz ((aO (bj rfl rfl (eM h4.w rfl)) rfl wF).trans (by rw [D.some.1])) (n1 (tail h4 (.inr D) F4.a (adk b4.1 (by decide)) rfl rfl .refl))
 have q:=ki (L5 x hx)
 exact tail h5 (Ra l.1 hx l.2 F4.g) (F4.a.append q.2) (List.length_append (as:=W4.text)▸adk (Nat.add_le_add b4.1 q.1) (by decide)) rfl rfl u5
noncomputable def Ld:iW:=[(nB,[.a (.txt [55]),.a (.use nC)])]
theorem UT:gH Ld:=List.forall_mem_cons.2 ⟨⟨.tail _ (.head _),by decide,List.forall_mem_cons.2 ⟨show [55]∈mB by decide,List.forall_mem_cons.2 ⟨show nC∈ja by decide,λ_ h=>nomatch h⟩⟩⟩,λ_ h=>nomatch h⟩
theorem Wy {P:ag→Prop} (h:∀a b c,P [a,b,c]):∀{s:ag},s.length=3→P s
 |[a,b,c],_=>h a b c
theorem YU {vs:List V} (hf:aq+100<fu) (hv:m7 vs):Wq (ah (ay aw fu (n+46)) fu jA (kr (some (.frozen vs)) none none none none none |>.set 1 none |>.set 2 none) []) RT (λ_ _=>False):=
 oy rfl (VJ hf hv λae hP hl=>Wy (P:=λae=>dA ae→Wq (ah (ay aw fu (n+46)) fu (bf 1 jA) _ ae) RT _) (λa b c hP=>by
  have w:aZ [a,b,c,.dict [],.list [],wC ⟨[],[],[],true,none,[],24,0⟩] ⟨[],[],[],true,none,[],24,0⟩:=⟨rfl,⟨[],rfl,.nil⟩,rfl,hP.ext (((aj.refl.push (d:= .dict [])).push (d:= .list [])).push (d:=wC ⟨[],[],[],true,none,[],24,0⟩)),adq 6⟩
  refine aV (v:= .ref 5) (ae:=[a,b,c,.dict [],.list [],wC ⟨[],[],[],true,none,[],24,0⟩]) ?_ ?_
  ·exact Cb (ks:=[Ml,FG,yO,Eh,uk,Nw,zY,Dh]) (vs:=[.str [],.str [],.ref 3,.bool true,.none,.ref 4,.int 24,.int 0]) (ae:=[a,b,c,.dict [],.list []]) rfl ⟨rfl,by decide⟩
  generalize [a,b,c,Cell.dict [],.list [],wC ⟨[],[],[],true,none,[],24,0⟩]=az at w ⊢
  refine aV rfl (mL (xA (eE (aS rfl (eG (b:=3) (Nat.succ_pos _) (by decide) (by decide) w.p λr s3 _ j9 e3=>aS rfl (bZ oD (.mk (r6 (λ_=>?_) λ_=>n1 (FF hf (w.fV j9 e3) (.inl ⟨rfl,rfl⟩) (λ_ h=>nomatch h) (ads _) λ_ h=>nomatch h)))))))))
  have w3:=w.fV j9 e3
  have x1:=(aj.refl (O:=s3)).push (d:= .dict [(kB,.str iT)])
  refine aV (ae:=s3++[.dict [(kB,.str iT)]]) (v:= .ref s3.length) (Cb (ks:=[kB]) (vs:=[.str iT]) (ae:=s3) rfl ⟨rfl,by decide⟩) ?_
  have g1:(s3++[Cell.dict [(kB,.str iT)]])[s3.length]?=some (.dict [(kB,.str iT)]):=bH
  have w4:=w3.ext x1
  generalize s3++[Cell.dict [(kB,.str iT)]]=s4 at g1 w4 ⊢
  have x2:=(aj.refl (O:=s4)).push (d:= .list [])
  have x3:=(aj.refl (O:=s4++[.list []])).push (d:= .list [V.tup [.str qB,.str [55]],.tup [.str lE,.str nC,.ref s4.length]])
  have w5:=w4.ext (x2.trans x3)
  exact w5.m.elim λes m=>by
   have hM:j5 (s4++[.list []]++[.list [V.tup [.str qB,.str [55]],.tup [.str lE,.str nC,.ref s4.length]]]) (.ref (s4++[Cell.list []]).length) [.a (.txt [55]),.a (.use nC)]:=
    ⟨_,_,rfl,adk w4.l x2.1,bH,.cons (.a _ _ (.txt _)) (.cons (.a _ _ (.use nC s4.length w4.l (x3.get bH))) .nil)⟩
   have w6:=w5.qJ (nm:=nB) m.1 m.2 hM
   exact oM rfl (bj rfl rfl (eM w5.w rfl)) rfl (tu m.1 (by rw [m.2.length];decide)) (n1 (FF (M:=Ld) hf w6.1 (.inr ⟨s3.length,rfl,w6.2.get ((x2.trans x3).get g1) w3.l,rfl⟩) UT (by decide) λod e=>by cases e;exact w3.l))) hl hP)
end
end Mine.Q
namespace Mine
open PySem PySem.W PyProof.Rows PySem.Calls
noncomputable def fragOf (n:Nat) (h:Heap):Frag:=(List.range n).filterMap λa=>(h.get? a).map λo=>(a,o)
theorem KG {a:Addr} {o:Obj}:∀{l:List (Addr×Obj)},l.lookup a=some o→(a,o)∈l
 |[],h=>nomatch h
 |(b,x)::l,h=>by
  rw [List.lookup_cons] at h
  cases q:a==b with
  |true=>rw [q] at h;cases h;rw [beq_iff_eq.1 q];exact .head _
  |false=>rw [q] at h;exact .tail _ (KG h)
theorem SJ (n:Nat) (h:Heap):(fragOf n h).In h:=λa o e=>by
 obtain ⟨b,_,q⟩:=List.mem_filterMap.1 (show (a,o)∈fragOf n h from KG e)
 obtain ⟨o',g,q⟩:=Option.map_eq_some_iff.1 q
 cases q
 exact g
noncomputable def Bx (v:Option (Option Value)):Option Int:=v.bind λv=>v.bind λv=>match v with
 | .int i _=>some i
 |_=>none
theorem Mp {v:Option (Option Value)} {i:Int} (h:Bx v=some i):∃t,v=some (some (.int i t)):=by
 obtain ⟨x,e1,h⟩:=Option.bind_eq_some_iff.1 h
 obtain ⟨y,e2,h⟩:=Option.bind_eq_some_iff.1 h
 subst e2
 subst e1
 cases y<;>cases h
 exact ⟨_,rfl⟩
noncomputable def fdOf (K:Frag) (a:Addr):Option FuncData:=(K.lookup a).bind λo=>match o.data with
 | .func fd=>some fd
 |_=>none
theorem Z2 {K:Frag} {a:Addr} {fd:FuncData} (h:fdOf K a=some fd):∃o,K.lookup a=some o∧o.data= .func fd:=by
 obtain ⟨o,e,h⟩:=Option.bind_eq_some_iff.1 h
 refine ⟨o,e,?_⟩
 cases q:o.data<;>rw [q] at h<;>cases h
 rfl
noncomputable def lM (K:Frag) (a:Addr) (ws:List Value):Sem (List (Str×Value)):=match fdOf K a with
 |some fd=>bindArgs fd ⟨ws,[]⟩
 |none=>pure []
noncomputable def lS (f:Nat):Nat:=(g7[f]?.map (·.np)).getD 0
noncomputable def mF (f:Nat):List Str:=(Lr.getD f []).map Str.ofString
noncomputable def xl (fd:FuncData):List Stmt:=match fd.body with
 | .stmts b=>b
 |_=>[]
noncomputable def BI (fd:FuncData):Bool:=match fd.body with
 | .stmts _=>true
 |_=>false
theorem Vx {fd:FuncData} (h:BI fd=true):fd.body= .stmts (xl fd):=by
 unfold BI at h
 unfold xl
 cases q:fd.body<;>rw [q] at h<;>first |rfl |cases h
noncomputable def JD (K:Frag) (gl bl:Addr) (f:Nat) (F:Fn) (fd:FuncData):Bool:=
  (decide (fd.scope.kind= .function)&&(!fd.scope.isGenerator&&(!fd.scope.isCoroutine&&(decide (fd.globals=gl)&&(decide (fd.builtins=bl)&&fd.closure.isEmpty)))))&&
    ((BI fd&&eD fd.scope (mF f) F.body (xl fd))&&(codeIn K fd.code fd.qualname&&(decide ((mF f).length=F.nl)&&(decide (mF f).Nodup&&(decide (F.np≤F.nl)&&
    ((mF f).take F.np).all λx=>decide (fd.scope.names.lookup x=some .local)||decide (fd.scope.names.lookup x=some .cell))))))
noncomputable def G7 (K:Frag) (gl bl:Addr) (f:Nat):Bool:=iI (fdOf K (bS f)) λfd=>iI g7[f]? λF=>JD K gl bl f F fd
noncomputable def A8:List Nat:=(List.range 39).filter λf=>f !=14
noncomputable def Dl (n:Nat):List Nat:=A8.filter λf=>lS f==n
noncomputable def BB:List Nat:=(List.range 39).filter λf=>lm.getD f ""!=""
noncomputable def yR:List cj:=[.macro,.table,.et]
noncomputable def allB:List Bi:=[.len,.min,.max,.int,.abs,.sorted]
noncomputable def uX (K:Frag):=(BB.map λf=>nsIn K mainGlobals (Str.ofString (lm.getD f "")),allB.map λb=>nsIn K mainGlobals (Str.ofString (o8 b)),nsIn K mainGlobals (Str.ofString "range"),nsIn K mainGlobals (Str.ofString "SourceError"),
 Bx (nsIn K mainGlobals (Str.ofString "MOST_DEPTH")),Bx (nsIn K mainGlobals (Str.ofString "MOST_USES")))
noncomputable def vA:List (Option (Option Value))×List (Option (Option Value))×Option (Option Value)×Option (Option Value)×Option Int×Option Int:=
  (BB.map λf=>some (some (.ref (bS f))),allB.map λ_=>some none,some none,some (some (.ref bA)),some 20,some 1000)
noncomputable def Jv (K:Frag) (c:cj):=(nsIn K mainGlobals (Str.ofString (th c)),findIn K (.ref (cD c)) "__getattribute__",findIn K (.ref (cD c)) "__getattr__",findIn K (.ref (cD c)) "__setattr__",hasDictIn K (cD c),plainOver K (cD c),
  (List.range 14).map λf=>findIn K (.ref (cD c)) (aB f),(List.range 9).map λm=>(gk c m).map λ_=>findIn K (.ref (cD c)) (oH m),keepIn K (.ref (cD c)),makesIn K (cD c),findIn K (.ref (cD c)) "__init__")
noncomputable def uS (K:Frag):=yR.map (Jv K)
noncomputable def KJ (c:cj):(Option (Option Value)×Option (Option Value)×Option (Option Value)×Option (Option Value)×Bool×Bool×List (Option (Option Value))×List (Option (Option (Option Value)))×Bool×Bool×Option (Option Value)):=
  (some (some (.ref (cD c))),some (some (.builtin "object.__getattribute__")),some none,some (some (.builtin "object.__setattr__")),true,true,
  (List.range 14).map λ_=>some none,(List.range 9).map λm=>(gk c m).map λf=>some (some (.ref (bS f))),true,true,some (some (.ref (bS (oK c)))))
noncomputable def wa:=yR.map KJ
noncomputable def uT (K:Frag):=((List.range 39).map λf=>typeIn K (.ref (bS f)),(List.range 39).map λf=>keepIn K (.ref (bS f)),(clsIn K bA).map λcd=>(cd.mro,cd.hasDict),findIn K (.ref bA) "__setattr__",
 [11,12,13].map λf=>findIn K (.ref bA) (aB f),findIn K (.ref bA) "__init__",typeIn K (.ref 29),keepIn K (.ref bA),findIn K (.ref bA) "__getattribute__",findIn K (.ref bA) "__getattr__",hasDictIn K bA,K.lookup bA)
noncomputable def Nz:Obj:=excClassObj (Str.ofString "SourceError") (Str.ofString "SourceError") bA 44 [.ref 32] xT true [] [] false none none (some (.ref 36)) none (some (.str (Str.ofString "SourceError") 225)) (some (.str (Str.ofString "SourceError") 233)) (some (.bool true)) "Exception.__new__"
noncomputable def xF:List (Option Value)×List Bool×Option (List Value×Bool)×Option (Option Value)×List (Option (Option Value))×Option (Option Value)×Option Value×Bool×Option (Option Value)×Option (Option Value)×Bool×Option Obj:=
  ((List.range 39).map λ_=>some (.type "function"),(List.range 39).map λ_=>true,some (sT,true),some (some (.builtin "object.__setattr__")),[11,12,13].map λ_=>some none,some (some (.ref 29)),some (.type "function"),true,
 some (some (.builtin "BaseException.__getattribute__")),some none,true,some Nz)
noncomputable def Mt (K:Frag):Bool:=iI (fdOf K 29) λfd=>decide (fd.scope.kind= .function)&&(!fd.scope.isGenerator&&(!fd.scope.isCoroutine&&(codeIn K fd.code fd.qualname&&((fd.scope.names.all λx=>decide (x.2≠ .cell))&&(decide (fd.scope.names.lookup eS=some .local)&&
  [11,12,13].all λf=>decide (fd.scope.names.lookup (aB f)=some .local))))))
noncomputable def tm (K:Frag):=(A8.all λf=>G7 K mainGlobals builtinsNs f,Mt K,(fdOf K 29).map (·.body),(K.lookup sysModules).isSome,(fdOf K (bS 38)).map λfd=>fd.scope.names.all λx=>decide (x.2≠ .cell))
noncomputable def vo:Bool×Bool×Option FuncBody×Bool×Option Bool:=(true,true,some (.stmts [kq (aB 11) (aB 11) ⟨5,8,5,12⟩ ⟨5,8,5,17⟩ ⟨5,20,5,24⟩ ⟨5,8,5,24⟩,kq (aB 12) (aB 12) ⟨6,8,6,12⟩ ⟨6,8,6,15⟩ ⟨6,18,6,20⟩ ⟨6,8,6,20⟩,kq (aB 13) (aB 13) ⟨7,8,7,12⟩ ⟨7,8,7,19⟩ ⟨7,22,7,28⟩ ⟨7,8,7,28⟩]),true,some true)
abbrev Bd:=Setting→List Value→List (Option (List (Str×Value)))
noncomputable def lB (K:Frag) (n:Nat):Bd:=λS ws=>(Dl n).map λf=>peek K S (lM K (bS f) ws)
noncomputable def rB (n:Nat):Bd:=λ_ ws=>(Dl n).map λf=>some (((mF f).take (lS f)).zip ws)
abbrev B6:=Setting→Value→Value→Value→Value→Value→Value→List (List (Option (List (Str×Value))))
noncomputable def so (K:Frag):B6:=λS a b c d e f=>[lB K 0 S [],lB K 1 S [a],lB K 2 S [a,b],lB K 3 S [a,b,c],lB K 4 S [a,b,c,d],lB K 5 S [a,b,c,d,e],lB K 6 S [a,b,c,d,e,f],
 [peek K S (lM K 29 [a,b,c]),peek K S (lM K 29 [a,b,c,d])]]
noncomputable def uJ (t:Tok):B6:=λS a b c d e f=>[rB 0 S [],rB 1 S [a],rB 2 S [a,b],rB 3 S [a,b,c],rB 4 S [a,b,c,d],rB 5 S [a,b,c,d,e],rB 6 S [a,b,c,d,e,f],
 [some [(eS,a),(aB 11,b),(aB 12,c),(aB 13,.str ⟨#[]⟩ t)],some [(eS,a),(aB 11,b),(aB 12,c),(aB 13,d)]]]
theorem mO {α β:Type} {f g:α→β} {l:List α} (h:l.map f=l.map g) {a:α} (m:a∈l):f a=g a:=List.map_inj_left.1 h a m
theorem Rj:∀c:cj,c∈yR
 | .macro=> .head _
 | .table=> .tail _ (.head _)
 | .et=> .tail _ (.tail _ (.head _))
theorem Xm (b:Bi):b∈allB:=by cases b<;>simp [allB]
structure Fa (K:Frag):Prop where
 e1:uX K=vA
 e2:uS K=wa
 e3:uT K=xF
 e4:tm K=vo
 e5:so K=uJ 203
section
variable {K:Frag} (z:Fa K)
include z
theorem KQ {f:Nat} {s:String} (h:lm[f]?=some s) (hs:s≠""):nsIn K mainGlobals (Str.ofString s)=some (some (.ref (bS f))):=by
 have e:lm.getD f ""=s:=by rw [List.getD_eq_getElem?_getD,h];rfl
 have hf:f<39:=(List.getElem?_eq_some_iff.1 h).1
 have:=mO (f:=λf=>nsIn K mainGlobals (Str.ofString (lm.getD f ""))) (g:=λf=>some (some (.ref (bS f)))) (l:=BB) (congrArg Prod.fst z.e1) (a:=f) (List.mem_filter.2 ⟨List.mem_range.2 hf,by rw [e];simpa using hs⟩)
 rw [e] at this
 exact this
theorem TM (b:Bi):nsIn K mainGlobals (Str.ofString (o8 b))=some none:=mO (f:=λb=>nsIn K mainGlobals (Str.ofString (o8 b))) (g:=λ_=>some none) (congrArg (λx=>x.2.1) z.e1) (Xm b)
theorem O9:nsIn K mainGlobals (Str.ofString "range")=some none:=congrArg (λx=>x.2.2.1) z.e1
theorem TQ:nsIn K mainGlobals (Str.ofString "SourceError")=some (some (.ref bA)):=congrArg (λx=>x.2.2.2.1) z.e1
theorem Qe:∃t,nsIn K mainGlobals (Str.ofString "MOST_DEPTH")=some (some (.int 20 t)):=Mp (congrArg (λx=>x.2.2.2.2.1) z.e1)
theorem Uv:∃t,nsIn K mainGlobals (Str.ofString "MOST_USES")=some (some (.int 1000 t)):=Mp (congrArg (λx=>x.2.2.2.2.2) z.e1)
theorem kP (c:cj):Jv K c=KJ c:=mO z.e2 (Rj c)
theorem aaV (f:Nat) (h:f<39):typeIn K (.ref (bS f))=some (.type "function"):=mO (f:=λf=>typeIn K (.ref (bS f))) (g:=λ_=>some (.type "function")) (congrArg Prod.fst z.e3) (List.mem_range.2 h)
theorem X8 (f:Nat) (h:f<39):keepIn K (.ref (bS f))=true:=mO (f:=λf=>keepIn K (.ref (bS f))) (g:=λ_=>true) (congrArg (λx=>x.2.1) z.e3) (List.mem_range.2 h)
theorem Oz:KF K where
 ga:=λc=>congrArg (λx=>x.2.1) (kP z c)
 Ms:=λc=>congrArg (λx=>x.2.2.1) (kP z c)
 sa:=λc=>congrArg (λx=>x.2.2.2.1) (kP z c)
 hd:=λc=>congrArg (λx=>x.2.2.2.2.1) (kP z c)
 po:=λc=>congrArg (λx=>x.2.2.2.2.2.1) (kP z c)
 fld:=λc f hf=>mO (f:=λf=>findIn K (.ref (cD c)) (aB f)) (g:=λ_=>some none) (congrArg (λx=>x.2.2.2.2.2.2.1) (kP z c)) (List.mem_range.2 hf)
 GY:=λc m f h=>by
  have:=mO (f:=λm=>(gk c m).map λ_=>findIn K (.ref (cD c)) (oH m)) (g:=λm=>(gk c m).map λf=>some (some (.ref (bS f)))) (congrArg (λx=>x.2.2.2.2.2.2.2.1) (kP z c)) (List.mem_range.2 (CX h).2)
  rw [h] at this
  exact Option.some.inj this
 GR:=by decide +kernel
 isFn:=aaV z
 kp:=X8 z
 kc:=λc=>congrArg (λx=>x.2.2.2.2.2.2.2.2.1) (kP z c)
 MU:=λc=>congrArg (λx=>x.2.2.2.2.2.2.2.2.2.1) (kP z c)
 init:=λc=>congrArg (λx=>x.2.2.2.2.2.2.2.2.2.2) (kP z c)
theorem Qg:EK K where
 cd:=by
  obtain ⟨cd,e,q⟩:=Option.map_eq_some_iff.1 (congrArg (λx=>x.2.2.1) z.e3)
  exact ⟨cd,e,congrArg Prod.fst q,congrArg Prod.snd q⟩
 sa:=congrArg (λx=>x.2.2.2.1) z.e3
 Ca:=λf h1 h2=>mO (f:=λf=>findIn K (.ref bA) (aB f)) (g:=λ_=>some none) (l:=[11,12,13]) (congrArg (λx=>x.2.2.2.2.1) z.e3) (by
  rcases (show f=11∨f=12∨f=13 by omega) with rfl |rfl |rfl<;>simp)
 init:=congrArg (λx=>x.2.2.2.2.2.1) z.e3
 isFn:=congrArg (λx=>x.2.2.2.2.2.2.1) z.e3
 kp:=congrArg (λx=>x.2.2.2.2.2.2.2.1) z.e3
theorem NO:EA K:=⟨congrArg (λx=>x.2.2.2.2.2.2.2.2.1) z.e3,congrArg (λx=>x.2.2.2.2.2.2.2.2.2.1) z.e3,congrArg (λx=>x.2.2.2.2.2.2.2.2.2.2.1) z.e3⟩
theorem Pn:K.lookup bA=some Nz:=congrArg (λx=>x.2.2.2.2.2.2.2.2.2.2.2) z.e3
theorem XK (S:Setting) {f:Nat} (nr:f≠14) (hf:f<39):∀ws:List Value,ws.length=lS f→peek K S (lM K (bS f) ws)=some (((mF f).take (lS f)).zip ws):=by
 have hm:f∈A8:=List.mem_filter.2 ⟨List.mem_range.2 hf,by simpa using nr⟩
 have pD:∀{n:Nat} {ws:List Value},lB K n S ws=rB n S ws→n=lS f→peek K S (lM K (bS f) ws)=some (((mF f).take (lS f)).zip ws):=λ{n ws} h e=>mO (f:=λf=>peek K S (lM K (bS f) ws)) (g:=λf=>some (((mF f).take (lS f)).zip ws)) (l:=Dl n) h (List.mem_filter.2 ⟨hm,by simp [e]⟩)
 have aQ:∀a b c d e f,_:=λa b c d e f=>congrFun (congrFun (congrFun (congrFun (congrFun (congrFun (congrFun z.e5 S) a) b) c) d) e) f
 have lW:∀(i:Nat) (a b c d e f:Value),(so K S a b c d e f)[i]?=(uJ 203 S a b c d e f)[i]?:=λi a b c d e f=>congrArg (λl:List _=>l[i]?) (aQ a b c d e f)
 intro ws hl
 match ws,hl with
 |[],hl=>exact pD (Option.some.inj (lW 0 .none .none .none .none .none .none)) hl
 |[a],hl=>exact pD (Option.some.inj (lW 1 a .none .none .none .none .none)) hl
 |[a,b],hl=>exact pD (Option.some.inj (lW 2 a b .none .none .none .none)) hl
 |[a,b,c],hl=>exact pD (Option.some.inj (lW 3 a b c .none .none .none)) hl
 |[a,b,c,d],hl=>exact pD (Option.some.inj (lW 4 a b c d .none .none)) hl
 |[a,b,c,d,e],hl=>exact pD (Option.some.inj (lW 5 a b c d e .none)) hl
 |[a,b,c,d,e,f],hl=>exact pD (Option.some.inj (lW 6 a b c d e f)) hl
 |_::_::_::_::_::_::_::ws,hl=>
  have:∀f∈List.range 39,lS f<7:=by decide +kernel
  have:=this f (List.mem_range.2 hf)
  rw [←hl] at this
  exact absurd this (by simp)
end
section
variable {P:Params} {K:Frag} {h:Heap} {gl bl:Addr}
theorem Cd {fd:FuncData} {a:Addr} (X:K.In h) (e:fdOf K a=some fd):∃o,h.get? a=some o∧o.data= .func fd:=
 let ⟨o,q,d⟩:=Z2 e
 ⟨o,X _ _ q,d⟩
theorem xS {α:Type} {o:Option α} {f:α→Bool} (h:iI o f=true):∃x,o=some x∧f x=true:=by
 cases o with
 |none=>cases h
 |some x=>exact ⟨x,rfl,h⟩
theorem Mb (X:K.In h) (z:Fa K) {f:Nat} {F:Fn} (nr:f≠14) (hf:f<39) (hF:g7[f]?=some F):oY h mainGlobals builtinsNs f F:=by
 have hc:G7 K mainGlobals builtinsNs f=true:=List.all_eq_true.1 (congrArg Prod.fst z.e4) f (List.mem_filter.2 ⟨List.mem_range.2 hf,by simpa using nr⟩)
 obtain ⟨fd,e,hc⟩:=xS hc
 obtain ⟨F',e',hc⟩:=xS hc
 cases hF.symm.trans e'
 unfold JD at hc
 simp only [Bool.and_eq_true,decide_eq_true_eq,Bool.not_eq_true'] at hc
 obtain ⟨⟨c1,c2,c3,c4,c5,c6⟩,⟨c7,R9⟩,c8,c9,TY,WD,Tq⟩:=hc
 obtain ⟨o,ho,hd⟩:=Cd X e
 have oT:lS f=F.np:=by unfold lS;rw [hF];rfl
 refine ⟨o,fd,xl fd,mF f,ho,hd,c1,c2,c3,c4,c5,List.isEmpty_iff.1 c6,Vx c7,codeRec_of X c8,R9,c9,TY,WD,λx hx=>?_,λs ws st hl=>?_⟩
 ·have:=List.all_eq_true.1 Tq x hx
  simpa only [Bool.or_eq_true,decide_eq_true_eq] using this
 ·have aQ:lM K (bS f) ws=bindArgs fd ⟨ws,[]⟩:=by unfold lM;rw [e]
  intro M A E Q hq
  exact (Looks.of_peek (M:=M) (X.keeps st) (aQ▸oT▸XK z _ nr hf ws (hl.trans oT.symm))).here hq
theorem OR (X:K.In h) (z:Fa K):Jb h:=by
 obtain ⟨fd,e,hc⟩:=xS (show Mt K=true from congrArg (λx=>x.2.1) z.e4)
 obtain ⟨Qq,e',hb⟩:=Option.map_eq_some_iff.1 (congrArg (λx=>x.2.2.1) z.e4)
 cases e.symm.trans e'
 simp only [Bool.and_eq_true,decide_eq_true_eq,Bool.not_eq_true'] at hc
 obtain ⟨c1,c2,c3,c4,c5,c6,c7⟩:=hc
 obtain ⟨o,ho,hd⟩:=Cd X e
 have aQ:∀ws,lM K 29 ws=bindArgs fd ⟨ws,[]⟩:=λws=>by unfold lM;rw [e]
 have lW:∀(S:Setting) (a b c d:Value),_:=λS a b c d=>Option.some.inj (congrArg (λl:List (List (Option (List (Str×Value))))=>l[7]?) (congrFun (congrFun (congrFun (congrFun (congrFun (congrFun (congrFun z.e5 S) a) b) c) d) .none) .none))
 refine ⟨o,fd,_,_,_,_,_,_,_,_,_,_,_,_,ho,hd,c1,c2,c3,hb,codeRec_of X c4,λx hx=>by simpa using List.all_eq_true.1 c5 x hx,c6,λf h1 h2=>?_,λs x k a st=>⟨203,λM A E Q hq=>?_⟩,λs x k a d st M A E Q hq=>?_⟩
 ·exact ado (List.all_eq_true.1 c7 f (by rcases (show f=11∨f=12∨f=13 by omega) with rfl |rfl |rfl<;>simp))
 ·exact (Looks.of_peek (M:=M) (X.keeps st) (aQ _▸(List.cons.inj (lW ⟨M.prog,M.w.params⟩ x k a .none)).1)).here hq
 ·exact (Looks.of_peek (M:=M) (X.keeps st) (aQ _▸(List.cons.inj (List.cons.inj (lW ⟨M.prog,M.w.params⟩ x k a d)).2).1)).here hq
theorem UW (X:K.In h) (z:Fa K):ia h K:=⟨Qg z,OR X z,_,_,_,_,_,_,_,_,_,_,_,_,_,_,_,X _ _ (Pn z)⟩
theorem vj {U:Program} {w:World} {mg:Str→Option Value} {x:Str} {v:Value} (X:K.In h) (G:h.Ns mainGlobals mg) (e:nsIn K mainGlobals x=some (some v)):GL U w h mainGlobals builtinsNs x v:=by
 intro aa s A Q E hg hb st hq
 exact loadGlobal_global (hg▸G.keeps st) (mg_of X G e) hq
theorem G8 {U:Program} {w:World} {mg mb:Str→Option Value} {x:Str} {v:Value} (X:K.In h) (G:h.Ns mainGlobals mg) (B:h.Ns builtinsNs mb) (hB:∀x:Str,x≠"__name__"→mb x=bootBuiltins x) (e:nsIn K mainGlobals x=some none) (hx:x≠"__name__") (hv:bootBuiltins x=some v):GL U w h mainGlobals builtinsNs x v:=by
 intro aa s A Q E hg hb st hq
 exact loadGlobal_builtin (hg▸G.keeps st) (mg_none_of X G e) (hb▸B.keeps st) ((hB x hx).trans hv) hq
theorem GA {l:List String} {i:Nat} {x:Str} (h:gG l i x=true):∃s,l[i]?=some s∧x=Str.ofString s∧s≠"":=by
 obtain ⟨s,e,h⟩:=xS h
 simp only [Bool.and_eq_true,beq_iff_eq,bne_iff_ne] at h
 exact ⟨s,e,h.1,h.2⟩
theorem OI {U:Program} {w:World} {mg mb:Str→Option Value} (X:K.In h) (z:Fa K) (G:h.Ns mainGlobals mg) (B:h.Ns builtinsNs mb) (hB:∀x:Str,x≠"__name__"→mb x=bootBuiltins x):IG U w h mainGlobals builtinsNs where
 fn:=λf x hx=>let ⟨s,e,q,hs⟩:=GA hx
  q▸vj X G (KQ z e hs)
 cls:=λc=>vj X G (congrArg (λx=>x.1) (kP z c))
 bi:=λb=>G8 X G B hB (TM z b) (by cases b<;>decide) (by cases b<;>kernel_rfl)
 Ia:=G8 X G B hB (O9 z) (by decide) (by kernel_rfl)
 jS:=λk x hx=>by
  obtain ⟨s,e,rfl,hs⟩:=GA hx
  rcases (show k=0∨k=1 by have:k<2:=(List.getElem?_eq_some_iff.1 e).1;omega) with rfl |rfl
  ·cases e
   obtain ⟨t,ht⟩:=Qe z
   exact ⟨t,vj X G ht⟩
  ·cases e
   obtain ⟨t,ht⟩:=Uv z
   exact ⟨t,vj X G ht⟩
 err:=vj X G (TQ z)
end
theorem Zg {J h:Heap} {Z:aH} {vs:List Value} {ns:List Int} (x:IntsAre vs ns):aD J h Z (ns.map V.int) vs:=by
 induction x with
 |nil=>exact rfl
 |cons n t _ ih=>exact ⟨_,_,rfl,⟨t,rfl⟩,ih⟩
theorem Tz {h:Heap} {l:Addr} {vs:List Value} {ns:List Int} (hL:h.IsList l vs.toArray) (hI:IntsAre vs ns) (hz:ns.length≤63):aD h h [] [.frozen (ns.map V.int)] [.ref l]:=
 ⟨_,_,rfl,⟨l,hL.choose,vs.toArray,rfl,hL.choose_spec.1,hL,adk (by rw [List.size_toArray,IntsAre.length hI];exact hz) (by decide),Zg hI⟩,rfl⟩
theorem Ju {α β:Type} [BEq α] [LawfulBEq α] {a:α} {o:β}:∀{l:List (α×β)},l.lookup a=some o→(a,o)∈l
 |[],h=>nomatch h
 |(b,x)::l,h=>by
  rw [List.lookup_cons] at h
  cases q:a==b with
  |true=>rw [q] at h;cases h;rw [beq_iff_eq.1 q];exact .head _
  |false=>rw [q] at h;exact .tail _ (Ju h)
theorem Qh:(List.range 39).all (λf=>f==38||(iI g7[f]? λF=>jr F.body))=true:=by decide +kernel
theorem Pf:g7.length=39:=by decide +kernel
theorem FE:¬Q.xq.np≤Q.xq.nl:=by decide
theorem Z7 {h:Heap} {K:Frag} (X:K.In h) (z:Fa K) (f:Nat) (F:Fn) (hF:Q.aw[f]?=some F):(oY h mainGlobals builtinsNs f F∧jr F.body=true)∨¬F.np≤F.nl:=by
 have hl:f<39:=by
  have:=(List.getElem?_eq_some_iff.1 hF).1
  simpa [Q.aw,Pf] using this
 by_cases Cs:f=38
 ·subst Cs
  cases hF
  exact .inr FE
 ·by_cases nr:f=14
  ·subst nr
   cases hF
   exact .inr FE
  ·have hF:g7[f]?=some F:=by
    unfold Q.aw at hF
    rwa [List.getElem?_set_ne (Ne.symm Cs),List.getElem?_set_ne (Ne.symm nr)] at hF
   refine .inl ⟨Mb X z nr hl hF,?_⟩
   have:=List.all_eq_true.1 Qh f (List.mem_range.2 hl)
   rw [hF,beq_eq_false_iff_ne.2 Cs] at this
   exact this
theorem NI:bI 47 0 [] callerA:=⟨rfl,rfl,by decide,by decide⟩
theorem abR:bI 46 10 [] callerA:=⟨rfl,rfl,by decide,by decide⟩
theorem aao {h:Heap} {K:Frag} (X:K.In h) (z:Fa K):∀o fd,h.get? (bS 38)=some o→o.data= .func fd→∀x,fd.scope.names.lookup x≠some .cell:=λo fd ho hd x hx=>by
 obtain ⟨Qq,e,q⟩:=Option.map_eq_some_iff.1 (congrArg (λx=>x.2.2.2.2) z.e4)
 obtain ⟨o',d8,bQ⟩:=Cd X e
 rw [ho] at d8
 cases d8
 rw [hd] at bQ
 cases bQ
 have:=ado (List.all_eq_true.1 q _ (Ju hx))
 exact this rfl
theorem OP {vs:List V} (hv:Q.m7 vs):∃L O,ah (ay Q.aw (aq+101) 46) (aq+101) jA ([V.frozen vs].map some++List.replicate 10 none) []= .ok (.ret (.bool true)) L O:=by
 have h:=Q.YU (n:=0) (fu:=aq+101) (vs:=vs) (adu _) hv
 have h:Q.Wq (ah (ay Q.aw (aq+101) 46) (aq+101) jA ([V.frozen vs].map some++List.replicate 10 none) []) Q.RT (λ_ _=>False):=h
 generalize ah (ay Q.aw (aq+101) 46) (aq+101) jA ([V.frozen vs].map some++List.replicate 10 none) []=o at h ⊢
 cases h with
 |@ok _ _ f L O q=>exact ⟨L,O,by rw [show f= .ret (.bool true) from q]⟩
 |exc q=>exact q.elim
theorem Wx:g7[38]?=some ⟨1,11,jA⟩:=by rfl
theorem S8:yo jA=true:=by decide +kernel
theorem QB {U:Program} {w:World} {s:Shared} {K:Frag} {mg mb:Str→Option Value} {l:Addr} {vs:List Value} {ns:List Int} (X:K.In s.heap) (z:Fa K) (G:s.heap.Ns mainGlobals mg) (B:s.heap.Ns builtinsNs mb) (hB:∀x:Str,x≠"__name__"→mb x=bootBuiltins x) (hN:s.heap.NoLimit)
    (hL:s.heap.IsList l vs.toArray) (hI:IntsAre vs ns) (hz:ns.length≤63):
  codeAny (model U w) callerA (.call (.ref (bS 38)) ⟨[.ref l],[]⟩) (λres s'=>res= .ok (.ret (.bool true))∧(∀b o,s.heap.get? b=some o→s'.heap.get? b=some o)∧s'.gens=s.gens∧s'.os=s.os) s:=by
 have L4:cz U w s.heap mainGlobals builtinsNs K:=⟨X,Oz z,by
  obtain ⟨o,q⟩:=Option.isSome_iff_exists.1 (show (K.lookup sysModules).isSome=true from congrArg (λx=>x.2.2.2.1) z.e4)
  rw [X _ _ q];rfl,hN,OI X z G B hB⟩
 have E:=UW X z
 obtain ⟨L,O,h⟩:=OP (vs:=ns.map V.int) (λv hv=>by
  obtain ⟨i,_,rfl⟩:=List.mem_map.1 hv
  exact ⟨i,rfl⟩)
 exact PE (g:= .next) E (NO z) L4 (Iz E L4 (Z7 X z) 46) (Mb X z (by decide) (by decide) Wx) S8 NI (k:=s.toks+1) ⟨⟨rfl,λ_ _ _ h=>(nomatch h),λ_ _ _ _ h=>(nomatch h),λ_ h=>(nomatch h)⟩,λ_ _ e=>e,trivial,λ_ h=>(nomatch h),Nat.succ_pos _⟩ (Tz hL hI hz) rfl (Wh (aao X z)) h
end Mine
namespace Mine
open PySem PySem.W PyProof.Rows
theorem cM {a b:Bool} (x:a=true) (y:b=true):(a&&b)=true:=by rw [x,y];rfl
theorem YB:PySem.Challenge.rw_ok0094_01.wellSaid=true:=by
 refine (congrFun PySem.W.Fast.te9446332074065402090 _).trans ?_
 unfold PySem.W.Fast.tw9446332074065402090
 refine cM (cM (cM (cM (cM (cM (cM (cM (cM (cM (cM (cM (cM (cM (cM (cM (cM (cM ?_ ?_) ?_) ?_) ?_) ?_) ?_) ?_) ?_) ?_) ?_) ?_) ?_) ?_) ?_) ?_) ?_) ?_) ?_
 unfold PySem.W.Fast.tw17960256430627541270
 refine cM (cM ?_ ?_) ?_
 unfold PySem.W.Fast.tw2436336058641802641
 refine cM (cM (cM (cM (cM (cM (cM (cM (cM (cM (cM (cM (cM ?_ ?_) ?_) ?_) ?_) ?_) ?_) ?_) ?_) ?_) ?_) ?_) ?_) ?_
 unfold PySem.W.Fast.tw12908688711261696721
 refine cM (cM (cM (cM (cM ?_ ?_) ?_) ?_) ?_) ?_
 all_goals decide +kernel
abbrev dz:=PySem.Challenge.pw_ok0094_01
noncomputable def rT (st:SharedT→Thread→Option (SharedT×Thread)) (ok:Thread→Bool):Nat→SharedT→Thread→Option SharedT
 |0,_,_=>none
 |n+1,s,t=>match through t with
  |true=>some s
  |false=>match ok t with
   |false=>none
   |true=>match st s t with
    |some (s',t')=>rT st ok n s' t'
    |none=>none
theorem NA {tb:String→Option Builtin} {p:Program} {w:World} {n₀:Nat} {ann:Option Value}:∀{n:Nat} {s s':SharedT} {t:Thread},rT (PySem.W.stepT (PySem.denote tb) p w) (stepOk n₀ ann) n s t=some s'→topRun tb p w n₀ ann n s.abs t=some s'.abs
 |0,_,_,_,h=>by cases h
 |n+1,s,s',t,h=>by
  unfold rT at h
  unfold topRun
  cases he:through t with
  |true=>rw [he] at h;cases h;rfl
  |false=>
   rw [he] at h
   cases hk:stepOk n₀ ann t with
   |false=>rw [hk] at h;cases h
   |true=>
    rw [hk] at h
    cases hs:PySem.W.stepT (PySem.denote tb) p w s t with
    |none=>rw [hs] at h;cases h
    |some r=>obtain ⟨lH,abT⟩:=r;rw [hs] at h;rw [stepT_spec hs];exact NA h
theorem QY {p:Program} {w:World} {n₀:Nat} {ann:Option Value}:rT (PySem.W.stepT (PySem.denote treeTable) p w) (stepOk n₀ ann)=rT (PySem.W.Fast.tw10156331382660048174 (PySem.W.Fast.tw11892475500146522536 PySem.W.Fast.tw14364793385576792824) p w) (PySem.W.Fast.tw6613529449190102663 n₀ ann):=by
 rw [PySem.W.Fast.te10156331382660048174,PySem.W.Fast.te11892475500146522536,PySem.W.Fast.te14364793385576792824,PySem.W.Fast.te6613529449190102663]
theorem opened:∀w:World,(fencedOpening treeTable dz w 5000).map (λs=>(s.heap,s.gens,s.drawn,s.toks))=some (boot_heap w.params,Array.mk [],boot_drawn,boot_toks):=boot_open (by kernel_rfl) (by kernel_rfl) (λs=>by kernel_rfl)
noncomputable def Bw (o:List Obj):Nat→Nat→Nat→BT
 |0,_,_=> .nil
 |n+1,a,b=>match o[b]? with
  |some x=> .node x (Bw o n (2*a) (a+b)) (Bw o n (2*a) (2*a+b))
  |none=> .nil
noncomputable def T0 (P:Params):BT:=Bw (boot_heap P).objs.toList 10 1 0
theorem WZ (P:Params):((boot_heap P).isNs mainGlobals&&(Array.mk []:Array GenState).size==0,(boot_heap P).objs.size,(boot_heap P).nsMap mainGlobals "__annotations__")=(true,11,some (.ref 6)):=by kernel_rfl
theorem QL (P:Params):absHeap (T0 P) 11 {}=boot_heap P:=by kernel_rfl
section
variable (w:World) (os:OsState)
abbrev qT:=rT (PySem.W.Fast.tw10156331382660048174 (PySem.W.Fast.tw11892475500146522536 PySem.W.Fast.tw14364793385576792824) dz w) (PySem.W.Fast.tw6613529449190102663 11 (some (.ref 6)))
noncomputable abbrev Ko:SharedT:=⟨T0 w.params,11,{},Array.mk [],boot_drawn,boot_toks,os⟩
noncomputable abbrev lP:=qT w 5000 (Ko w os) (topStub dz)
abbrev qV:Program:=view dz [1,2,4,5,6,7,8,9,10,11,12,13,14,15,16,17,18,19,20,21,22,24,25,26,27,28,29,30,31,32,33,34,35]
abbrev lo:List Str:=[Str.ofString "GateloomError"]
abbrev Kq:=PySem.Challenge.rw_ok0094_01.row.toRowW
abbrev xt (s:Shared):Bool:=recOk Kq.records s
abbrev Ks (s:SharedT):Frag:=fragOf 351 s.abs.heap
theorem Jg:(lP w os).map (λs=>(staticsOk (importedModules dz.main.body) (boot_heap w.params) s.abs.heap,namesBound dz s.abs.heap,gensDone s.abs&&laidKept (boot_heap w.params) s.abs.heap,PySem.W.Fast.tw4187177175401517315 qV lo (PySem.W.Fast.tw5923862056798008813 dz.main.body) xt true s.abs))=some (true,true,true,openGood qV lo):=by kernel_rfl
theorem Qm:(lP w os).map (λs=>(uX (Ks s),uS (Ks s),uT (Ks s)))=some (vA,wa,xF):=by kernel_rfl
theorem Wd:(lP w os).map (λs=>(tm (Ks s),so (Ks s)))=some (vo,uJ 203):=by kernel_rfl
end
end Mine
namespace Mine
open PySem PySem.W PyProof.Rows PySem.Calls
noncomputable def Yf (s:Shared):=(uX (fragOf 351 s.heap),uS (fragOf 351 s.heap),uT (fragOf 351 s.heap),tm (fragOf 351 s.heap),so (fragOf 351 s.heap))
noncomputable def Ya (_:World):=(vA,wa,xF,vo,uJ 203)
noncomputable def YP (_:World) (h:Heap):Prop:=∃K:Frag,K.In h∧Fa K
theorem Qw (w:World) (s:Shared) (e:Yf s=Ya w):YP w s.heap:=⟨_,SJ 351 s.heap,congrArg (λx=>x.1) e,congrArg (λx=>x.2.1) e,congrArg (λx=>x.2.2.1) e,congrArg (λx=>x.2.2.2.1) e,congrArg (λx=>x.2.2.2.2) e⟩
theorem Q9 (w:World) (h h':Heap) (y:YP w h) (k:∀b o,h.get? b=some o→h'.get? b=some o):YP w h':=y.imp λ_ q=>⟨q.1.keeps k,q.2⟩
theorem Bq {α β:Type} {o:Option α} {x:α} {g:α→β} {c:β} (r:o=some x) (h:o.map g=some c):g x=c:=Option.some.inj ((congrArg (Option.map g) r).symm.trans h)
theorem Dk {w:World} {os:OsState} {s:SharedT} (r:lP w os=some s):(uX (Ks s),uS (Ks s),uT (Ks s))=(vA,wa,xF):=Bq (g:=λs=>(uX (Ks s),uS (Ks s),uT (Ks s))) r (Qm w os)
theorem JZ {w:World} {os:OsState} {s:SharedT} (r:lP w os=some s):(tm (Ks s),so (Ks s))=(vo,uJ 203):=Bq (g:=λs=>(tm (Ks s),so (Ks s))) r (Wd w os)
theorem LJ {w:World} {os:OsState} {s:SharedT} (r:lP w os=some s):(staticsOk (importedModules dz.main.body) (boot_heap w.params) s.abs.heap,namesBound dz s.abs.heap,gensDone s.abs&&laidKept (boot_heap w.params) s.abs.heap,PySem.W.Fast.tw4187177175401517315 qV lo (PySem.W.Fast.tw5923862056798008813 dz.main.body) xt true s.abs)=(true,true,true,openGood qV lo):=
 Bq (g:=λs=>(staticsOk (importedModules dz.main.body) (boot_heap w.params) s.abs.heap,namesBound dz s.abs.heap,gensDone s.abs&&laidKept (boot_heap w.params) s.abs.heap,PySem.W.Fast.tw4187177175401517315 qV lo (PySem.W.Fast.tw5923862056798008813 dz.main.body) xt true s.abs)) r (Jg w os)
theorem facts {w:World} {os:OsState} {s:SharedT} (r:lP w os=some s):Yf s.abs=Ya w:=
 looks_pair (Prod.mk.inj (Dk r)).1 (looks_pair (Prod.mk.inj (Prod.mk.inj (Dk r)).2).1 (looks_pair (Prod.mk.inj (Prod.mk.inj (Dk r)).2).2 (looks_pair (Prod.mk.inj (JZ r)).1 (Prod.mk.inj (JZ r)).2)))
theorem lA (w:World) (os:OsState) {s:SharedT} (r:lP w os=some s):topRun treeTable dz w 11 (some (.ref 6)) 5000 ⟨boot_heap w.params,Array.mk [],boot_drawn,boot_toks,os⟩ (topStub dz)=some s.abs:=by
  have:=NA (tb:=treeTable) (p:=dz) (w:=w) (n₀:=11) (ann:=some (.ref 6)) (n:=5000) (s:=Ko w os) (s':=s) (t:=topStub dz) (by rw [QY];exact r)
  rw [←QL w.params]
  exact this
theorem Ts (w:World) (os:OsState) {s:SharedT} (r:lP w os=some s):(staticsOk (importedModules dz.main.body) (boot_heap w.params) s.abs.heap&&namesBound dz s.abs.heap&&gensDone s.abs&&laidKept (boot_heap w.params) s.abs.heap)=true:=by
 have ⟨ra,q⟩:=Prod.mk.inj (LJ r)
 have ⟨rb,q⟩:=Prod.mk.inj q
 have ⟨rc,_⟩:=Prod.mk.inj q
 rw [Bool.and_assoc,rc,show (staticsOk (importedModules dz.main.body) (boot_heap w.params) s.abs.heap)=true from ra,show namesBound dz s.abs.heap=true from rb];rfl
theorem lC (w:World) (os:OsState) {s:SharedT} (r:lP w os=some s):openSeen qV lo (importedModules dz.main.body) xt true s.abs=openGood qV lo:=by
  rw [PySem.W.Fast.te4187177175401517315,PySem.W.Fast.te5923862056798008813]
  exact (Prod.mk.inj (Prod.mk.inj (Prod.mk.inj (LJ r)).2).2).2
theorem lD (w:World) (os:OsState) {s:Shared} (t:topRun treeTable dz w 11 (some (.ref 6)) 5000 ⟨boot_heap w.params,Array.mk [],boot_drawn,boot_toks,os⟩ (topStub dz)=some s)
  (b:(staticsOk (importedModules dz.main.body) (boot_heap w.params) s.heap&&namesBound dz s.heap&&gensDone s&&laidKept (boot_heap w.params) s.heap)=true):topFrom treeTable dz w 5000 ⟨boot_heap w.params,Array.mk [],boot_drawn,boot_toks,os⟩=some s:=by
  obtain ⟨z1,z2,z3⟩:_∧_∧_:=by simpa only [Prod.mk.injEq] using WZ w.params
  unfold topFrom
  dsimp only
  rw [z1,z2,z3,t]
  show (match staticsOk (importedModules dz.main.body) (boot_heap w.params) s.heap&&namesBound dz s.heap&&gensDone s&&laidKept (boot_heap w.params) s.heap with |true=>_ |false=>_)=_
  rw [b]
theorem left:LeftO dz qV lo xt Yf Ya 5000:=λw=>by
 obtain ⟨⟨h,gs,d,k,os⟩,e,e'⟩:=Option.map_eq_some_iff.mp (opened w)
 obtain ⟨rfl,rfl,rfl,rfl⟩:h=boot_heap w.params∧gs=Array.mk []∧d=boot_drawn∧k=boot_toks:=by simpa only [Prod.mk.injEq] using e'
 obtain ⟨s,r,_⟩:=Option.map_eq_some_iff.mp (Jg w os)
 have o:openEnds treeTable dz w 5000=some s.abs:=by
  unfold openEnds
  rw [e,Option.bind_some]
  exact lD w os (lA w os r) (Ts w os r)
 rw [o]
 exact congrArg some (looks_pair (lC w os r) (facts r))
theorem aa0:(defOf qV (Str.ofString "law")).isSome=true:=by kernel_rfl
noncomputable def dk:DefRec×List (Str×PySem.Expr):=(defOf qV (Str.ofString "law")).get aa0
theorem hd (walk:WalkO qV lo (λ_ _=>True) YP Kq dk.1 dk.2 λf vs=>PySem.call f vs):PySem.Challenge.rw_ok0094_01.Holds:=by
 refine holds_law YB λk1=>?_
 refine holds_open (q:=qV) (loose:=lo) (Xt:=xt) (XP:=λ_ _=>True) (Yf:=Yf) (Ya:=Ya) (YP:=YP) (N:=5000) left Qw Q9 (λ_ _=>trivial) (λ_ _ _ _ _=>trivial) (d:=dk.1) (kwd:=dk.2) ?h1 ?h2 ?h3 (λs e=>recFacts_of e) ?h4 k1 ?h5 ⟨rfl,rfl,rfl,rfl,rfl,?h6⟩ ?h7 walk
 case h1=>kernel_rfl
 case h2=>kernel_rfl
 case h3=>kernel_rfl
 case h4=>kernel_rfl
 case h5=>kernel_rfl
 case h6=>decide +kernel
 case h7=>w_witness2
theorem SV:dk.1.name=Str.ofString "law":=by kernel_rfl
theorem P7 {K:Frag} {h:Heap} {mg:Str→Option Value} {fa:Addr} (X:K.In h) (z:Fa K) (G:h.Ns mainGlobals mg) (hl:mg (Str.ofString "law")=some (.ref fa)):fa=bS 38:=by
 have:=mg_of X G (KQ z (f:=38) (s:="law") rfl (by decide))
 rw [hl] at this
 injection this with this
 injection this
theorem good {c:ClaimW} {cl:Str→Option Addr} {NJ:ExcName→Option Value} {args:List WData} {s s':Shared} {res:Result} (hr:res= .ok (.ret (.bool true))) (h1:∀cls,c.raises args cls=false) (h2:c.post args (.bool true) args=true) (hk:∀b o,s.heap.get? b=some o→s'.heap.get? b=some o) (ho:s'.os=s.os) (hg:s'.gens= #[]):GoodWG c cl NJ args s res s':=
 GoodW.toG ⟨.inl ⟨_,.bool true,[],hr,h1,ReadsW.bool true,h2,λ_=>⟨List.nodup_nil,λ_ hm=>(nomatch hm)⟩⟩,hk,ho,hg⟩
theorem C6:PySem.Challenge.rw_ok0094_01.Holds:=by
 refine hd ?_
 intro w s₀ bN mg mb G Y fa o pm cd ac7 dV kV ho YK kE hD I4 hg args aby as iz Tw Rq oL xZ
 obtain ⟨K,X,z⟩:=Y
 have T:=G.T
 have Y4:mg (Str.ofString "law")=some (.ref fa):=SV▸I4
 clear ho YK kE hD I4
 wrow_args iz Tw Rq oL xZ
 rename_i ns _ _ _ _ _ _ _ l abJ _ hL _ _ _ hI _ hn _
 obtain rfl:=P7 X z T.g Y4
 refine enter_call (codeAny_mono (QB X z T.g T.b T.builtins T.nolimit hL hI (by omega)) λres s' q=>?_)
 exact good q.1 (λ_=>rfl) (by wrow_post) q.2.1 q.2.2.2 (q.2.2.1.trans hg)
end Mine
theorem PySem.Challenge.cw_ok0094_01_holds : PySem.Challenge.rw_ok0094_01.Holds :=
 Mine.C6
