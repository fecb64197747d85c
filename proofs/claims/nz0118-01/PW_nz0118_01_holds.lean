import PyProof.Rows.All
import Wide.All
import OpenK.AllK
import Lean
import PySem.Challenge.RW_nz0118_01
set_option autoImplicit false
set_option linter.all false
set_option Elab.async false
set_option genCtorIdx false
set_option genSizeOf false
set_option bootstrap.genMatcherCode false
set_option genInjectivity false
set_option maxRecDepth 100000
set_option maxHeartbeats 0
namespace Mine
section
set_option genCtorIdx true in
set_option genInjectivity true in
inductive AV where
 |none |bool (b:Bool) |int (i:Int) |str (s:Nat) |tup (vs:List AV) |ref (i:Nat)
 deriving Inhabited
noncomputable def bz (v:AV):Option Int:=AV.casesOn v none (fun _=>none) some (fun _=>none) (fun _=>none) (fun _=>none)
noncomputable def jx (v:AV):Option Bool:=AV.casesOn v none some (fun _=>none) (fun _=>none) (fun _=>none) (fun _=>none)
noncomputable def tT (v:AV):Option Nat:=AV.casesOn v none (fun _=>none) (fun _=>none) some (fun _=>none) (fun _=>none)
noncomputable def dp (v:AV):Option (List AV):=AV.casesOn v none (fun _=>none) (fun _=>none) (fun _=>none) some (fun _=>none)
noncomputable def dE (v:AV):Option Nat:=AV.casesOn v none (fun _=>none) (fun _=>none) (fun _=>none) (fun _=>none) some
noncomputable def gB (v:AV):Bool:=AV.casesOn v true (fun _=>false) (fun _=>false) (fun _=>false) (fun _=>false) (fun _=>false)
noncomputable def one {α:Type}(l:List α):Option α:=List.casesOn l none fun a t=>List.casesOn t (some a) fun _ _=>none
noncomputable def two {α:Type}(l:List α):Option (α×α):=List.casesOn l none fun a t=>(one t).map fun b=>(a,b)
noncomputable def eU {α:Type}(o:Option α)(f:α→Bool):Bool:=Option.casesOn o false f
mutual
noncomputable def AV.beq:AV→AV→Bool
 |.none=>gB
 |.bool a=>fun v=>eU (jx v) (a== ·)
 |.int a=>fun v=>eU (bz v) (a== ·)
 |.str a=>fun v=>eU (tT v) (a== ·)
 |.tup a=>fun v=>eU (dp v) (AV.beqs a)
 |.ref a=>fun v=>eU (dE v) (a== ·)
noncomputable def AV.beqs:List AV→List AV→Bool
 | []=>List.isEmpty
 |a::x=>fun l=>List.casesOn l false fun b y=>AV.beq a b&&AV.beqs x y
end
set_option genCtorIdx true in
set_option genInjectivity true in
inductive ae where
 |list (vs:List AV) |dict (kvs:List (AV×AV)) |inst (c:Nat) (fs:List (Nat×AV)) |ext (vs:List AV)
 deriving Inhabited
noncomputable def qr {α:Type}(f:α→α→Bool):List α→List α→Bool
 | []=>List.isEmpty
 |a::x=>fun l=>List.casesOn l false fun b y=>f a b&&qr f x y
noncomputable def bX (o:ae):Option (List AV):=ae.casesOn o some (fun _=>none) (fun _ _=>none) (fun _=>none)
noncomputable def Bn (o:ae):Option (List AV):=ae.casesOn o (fun _=>none) (fun _=>none) (fun _ _=>none) some
noncomputable def fz (o:ae):Option (List (AV×AV)):=ae.casesOn o (fun _=>none) some (fun _ _=>none) (fun _=>none)
noncomputable def gQ (o:ae):Option (Nat×List (Nat×AV)):=ae.casesOn o (fun _=>none) (fun _=>none) (fun c f=>some (c,f)) (fun _=>none)
noncomputable def Dw:List (AV×AV)→List (AV×AV)→Bool:=qr fun a b=>a.1.beq b.1&&a.2.beq b.2
noncomputable def BS:List (Nat×AV)→List (Nat×AV)→Bool:=qr fun a b=>a.1==b.1&&a.2.beq b.2
noncomputable def ae.beq (a b:ae):Bool:=ae.casesOn a (fun l=>eU (bX b) (AV.beqs l)) (fun l=>eU (fz b) (Dw l)) (fun c f=>eU (gQ b) fun p=>c==p.1&&BS f p.2) (fun l=>eU (Bn b) (AV.beqs l))
noncomputable def ae.live:ae→Bool
 |.ext _=>false
 |_=>true
abbrev St:=List ae
noncomputable def FQ:St→St→Bool:=qr ae.beq
noncomputable def fg (σ:St)(v:AV):Option (List AV):=(dE v).bind fun r=>(σ[r]?).bind bX
theorem xB {α:Type}{a b:Nat}{x y:α}:(bif a==b then x else y)=if a=b then x else y:=by
 by_cases h:a=b
 ·subst h;simp
 ·have:(a==b)=false:=by simpa using h
  rw[this,if_neg h];rfl
abbrev ag:=Nat→Option AV
noncomputable def aF (ρ:ag)(x:Nat)(v:AV):ag:=fun y=>bif y==x then some v else ρ y
theorem cN (ρ:ag)(x:Nat)(v:AV)(y:Nat):aF ρ x v y=if y=x then some v else ρ y:=xB
abbrev Cf:=Nat→List AV→St→Option (AV×St)
set_option genCtorIdx true in
inductive gc where
 |add |sub |mul |fdiv |fmod |or |shl |pow
 deriving Inhabited
set_option genCtorIdx true in
inductive jq where
 |eq |ne |lt |le |gt |ge |isin |notin |is |isnot
 deriving Inhabited
set_option genCtorIdx true in
inductive BI where
 |len |min |sorted |listrange |tuple |dict |abs |int
 deriving Inhabited
set_option genCtorIdx true in
inductive dB where
 |seq |range |rev |enum
 deriving DecidableEq,Inhabited
inductive E where
 |cn |cb (b:Bool) |ci (i:Int) |cs (s:Nat)
 |v (x:Nat) |g (x:Nat)
 |bin (op:gc) (a b:E) |neg (a:E) |not (a:E)
 |and(a b:E) |or (a b:E)
 |cmp (op:jq) (a b:E) |chain (op₁ op₂:jq) (a b c:E)
 |ife (c a b:E)
 |call (f:Nat) (es:List E)
 |bi (f:BI) (es:List E)
 |meth (m:Nat) (o:E) (es:List E)
 |attr (o:E) (a:Nat)
 |idx (o i:E)
 |slc (o:E) (lo hi:E)
 |lst (es:List E) |tup (es:List E) |dct (kvs:List E)
 |lcomp (xs:List Nat) (one:Bool) (k:dB) (src:List E) (ifs:List E) (elt:E)
 |dfilt (y:Nat)
 deriving Inhabited
inductive Tg where
 |name (x:Nat) |names (xs:List Nat) |attr (o:E) (a:Nat) |idx (o i:E)
 deriving Inhabited
inductive S where
 |ret (e:E) |expr (e:E) |asg (t:Tg) (e:E)
 |iff (c:E) (a b:List S) |whl (c:E) (b:List S)
 |for (xs:List Nat) (one:Bool) (k:dB) (src:List E) (b:List S)
 |cont |pass
 deriving Inhabited
set_option genCtorIdx true in
inductive Fl where
 |next |cont |ret (v:AV)
 deriving Inhabited
noncomputable def aO {α β γ:Type}(x:Option (α×γ))(f:α→γ→Option β):Option β:=match x with
 |some (a,s)=>f a s
 |none=>none
noncomputable def yz (v:AV):Bool:=(bz v).isSome
noncomputable def truthy (σ:St)(v:AV):Option Bool:=AV.casesOn v (some false) some (fun i=>some (i !=0)) (fun _=>none) (fun _=>none) fun r=>((σ[r]?).bind bX).map fun vs=>!vs.isEmpty
noncomputable def jF:AV→AV→Option Bool
 |.none=>fun v=>bif gB v then some true else none
 |.bool a=>fun v=>(jx v).map (a== ·)
 |.int a=>fun v=>(bz v).map (a== ·)
 |.str a=>fun v=>(tT v).map (a== ·)
 |.tup _=>fun _=>none
 |.ref _=>fun _=>none
noncomputable def eA (f:AV→AV→Option Bool):List AV→List AV→Option Bool
 | []=>fun l=>bif l.isEmpty then some true else none
 |a::x=>fun l=>List.casesOn l none fun b y=>(f a b).bind fun r=>(eA f x y).map (r&&·)
noncomputable def ce:Nat→AV→AV→Option Bool
 |0=>jF
 |n+1=>fun a b=>Option.elim (dp a) (jF a b) fun x=>Option.elim (dp b) (jF a b) (eA (ce n) x)
noncomputable def gX (a b:List AV):Option Bool:=if a.length=b.length then eA (ce 3) a b else some false
noncomputable def fZ (x:AV):List AV→Option Bool
 | []=>some false
 |a::l=>(ce 3 a x).bind fun r=>(fZ x l).map (r||·)
noncomputable def lu {α:Type}(f:AV→Option α)(l:List AV):Option (α×α):=(two l).bind fun p=>(f p.1).bind fun a=>(f p.2).map fun b=>(a,b)
noncomputable def bx (v:AV):Nat:=AV.casesOn v 0 (fun _=>0) (fun _=>1) (fun _=>2) (fun l=>bif (lu bz l).isSome then 3 else bif (lu jx l).isSome then 4 else 0) (fun _=>0)
noncomputable def cR (kvs:List (AV×AV))(k:AV):Bool:=bx k !=0&&kvs.all fun p=>bx p.1==bx k
noncomputable def bc (kvs:List (AV×AV))(k:AV):Option AV:=match kvs with
 | []=>none
 |p::l=>if p.1.beq k then some p.2 else bc l k
noncomputable def bU (kvs:List (AV×AV))(k v:AV):List (AV×AV):=match kvs with
 | []=>[(k,v)]
 |p::l=>if p.1.beq k then(p.1,v)::l else p::bU l k v
noncomputable def ef (fs:List (Nat×AV))(a:Nat):Option AV:=match fs with
 | []=>none
 |p::l=>bif p.1==a then some p.2 else ef l a
noncomputable def eW (fs:List (Nat×AV))(a:Nat)(v:AV):List (Nat×AV):=match fs with
 | []=>[(a,v)]
 |p::l=>bif p.1==a then(a,v)::l else p::eW l a v
theorem I2 (p:Nat×AV)(l:List (Nat×AV))(a:Nat):ef (p::l) a=if p.1=a then some p.2 else ef l a:=xB
theorem FG (p:Nat×AV)(l:List (Nat×AV))(a:Nat)(v:AV):eW (p::l) a v=if p.1=a then(a,v)::l else p::eW l a v:=xB
noncomputable def gO {α:Type}(b:Bool)(x:Option α):Option α:=bif b then x else none
noncomputable def qp (σ:St)(a b:AV):Option Bool:=Option.elim (dp b) ((dE b).bind fun r=>(σ[r]?).bind fun o=>Option.elim (bX o) ((fz o).bind fun kvs=>gO (cR kvs a) (some (bc kvs a).isSome)) (fZ a)) (fZ a)
noncomputable def t6 (σ:St)(a b:AV):Option Bool:=bif (dE a).isSome&&(dE b).isSome then(fg σ a).bind fun x=>(fg σ b).bind fun y=>gX x y else ce 3 a b
noncomputable def fA (σ:St)(op:jq)(a b:AV):Option Bool:=jq.casesOn op (t6 σ a b) ((t6 σ a b).map (!·)) ((bz a).bind fun x=>(bz b).map fun y=>decide (x<y)) ((bz a).bind fun x=>(bz b).map fun y=>decide (x≤y))
 ((bz a).bind fun x=>(bz b).map fun y=>decide (x > y)) ((bz a).bind fun x=>(bz b).map fun y=>decide (x≥y)) (qp σ a b) ((qp σ a b).map (!·)) (bif gB b then some (gB a)else none) (bif gB b then some (!gB a)else none)
noncomputable def alloc (o:ae)(σ:St):Option (AV×St):=some (.ref σ.length,σ++[o])
noncomputable def AH (x:Int):Bool:=decide (0≤x∧x<1000)
noncomputable def xa (y:Int):Bool:=decide (0<y∧y<1000000000)
noncomputable def HM (op:gc)(x y:Int):Option Int:=gc.casesOn op (some (x+y)) (some (x - y)) (gO (decide (x.natAbs<1000000000)) (some (x*y))) (gO (xa y) (some (Int.fdiv x y))) (gO (xa y) (some (Int.fmod x y)))
 (some (PySem.Builtin.bitOr x y)) (gO (AH x&&AH y) (some (x*2 ^ y.toNat))) (gO (AH x&&AH y) (some (x ^ y.toNat)))
noncomputable def Sv (op:gc):Bool:=gc.casesOn op true false false false false false false false
noncomputable def fR (op:gc)(a b:AV)(σ:St):Option (AV×St):=Option.elim (bz a)
 (gO (Sv op) ((fg σ a).bind fun u=>(fg σ b).bind fun w=>gO (decide (u.length+w.length<1000000)) (alloc (.list (u++w)) σ)))
 fun x=>(bz b).bind fun y=>(HM op x y).map fun z=>(.int z,σ)
noncomputable def dK (i:Int)(n:Nat):Option Nat:=
 if 0≤i then(if i<n then some i.toNat else none)else if 0≤i+n then some (i+n).toNat else none
noncomputable def eh (σ:St)(o i:AV):Option AV:=Option.elim (dp o)
 ((dE o).bind fun r=>(σ[r]?).bind fun ob=>Option.elim (bX ob) ((fz ob).bind fun kvs=>gO (cR kvs i) (bc kvs i)) fun vs=>(bz i).bind fun k=>(dK k vs.length).bind fun j=>vs[j]?)
 fun vs=>(bz i).bind fun k=>gO (decide (vs.length≤3000000)) ((dK k vs.length).bind fun j=>vs[j]?)
noncomputable def bound (d:Nat)(v:AV):Option Nat:=bif gB v then some d else(bz v).bind fun k=>gO (decide (0≤k)) (some k.toNat)
noncomputable def HD (o:ae):Option (List AV):=Option.elim (bX o) (Bn o) some
noncomputable def lA (σ:St)(o lo hi:AV):Option (AV×St):=(dE o).bind fun r=>(σ[r]?).bind fun ob=>(HD ob).bind fun vs=>(bound 0 lo).bind fun a=>(bound vs.length hi).bind fun b=>alloc (.list ((vs.take b).drop a)) σ
noncomputable def uR:List AV:=[.str 127,.str 111,.str 174,.str 82,.str 216]
noncomputable def KE:List AV:=[.str 82,.str 111,.str 127,.str 174,.str 216]
noncomputable def pA (v:AV):Option (Int×Int):=(dp v).bind (lu bz)
noncomputable def uH (v:AV):Bool:=(pA v).isSome
noncomputable def jR (u v:AV):Bool:=eU (pA u) fun p=>eU (pA v) fun q=>decide (p.1<q.1)||(decide (p.1=q.1)&&decide (p.2<q.2))
noncomputable def ly:List AV→Bool
 | []=>true
 |a::l=>List.casesOn l true fun b _=>jR a b&&ly l
noncomputable def di (a b:Int):List AV:=(List.range (b - a).toNat).map fun(k:Nat)=>.int (a+(k:Int))
noncomputable def qx:Int→List AV→Option Int
 |m,[]=>some m
 |m,a::l=>(bz a).bind fun x=>qx (if x<m then x else m) l
noncomputable def lE:List AV→Option (List (AV×AV))
 | []=>some []
 |a::l=>(dp a).bind fun t=>(two t).bind fun p=>(lE l).map (p::·)
noncomputable def tq:List (AV×AV)→List (AV×AV)→List (AV×AV)
 |acc,[]=>acc
 |acc,p::l=>tq (bU acc p.1 p.2) l
noncomputable def tj:List AV→Option (List (AV×AV))
 | []=>some []
 | [_]=>none
 |k::v::l=>(tj l).map ((k,v)::·)
noncomputable def Ng (v:AV):Option Int:=Option.elim (jx v) (bz v) fun b=>some (if b then 1 else 0)
noncomputable def d9 (a:Int):Bool:=decide (a.natAbs≤1000000)
noncomputable def MI (σ:St)(o:ae):Option (AV×St):=Option.elim (bX o)
 ((fz o).bind fun kvs=>bif AV.beqs (kvs.map (·.1)) uR then alloc (.list KE) σ else gO (decide (kvs.length≤1)&&(kvs.map (·.1)).all yz) (alloc (.list (kvs.map (·.1))) σ))
 fun vs=>gO (vs.length<64&&vs.all uH&&ly vs) (alloc (.list vs) σ)
noncomputable def BF (σ:St)(vs:List AV):Option (AV×St):=(lE vs).bind fun kvs=>gO (kvs.all (fun p=>bx p.1==2)&&decide (vs.length≤1000)) (alloc (.dict (tq [] kvs)) σ)
noncomputable def dc (f:BI)(args:List AV)(σ:St):Option (AV×St):=BI.casesOn f
 ((one args).bind fun a=>(fg σ a).map fun vs=>(.int vs.length,σ))
 ((one args).bind fun a=>(fg σ a).bind fun vs=>vs.head?.bind fun x=>(bz x).bind fun x=>(qx x vs.tail).map fun m=>(.int m,σ))
 ((one args).bind fun a=>(dE a).bind fun r=>(σ[r]?).bind (MI σ))
 ((two args).bind fun p=>(bz p.1).bind fun a=>(bz p.2).bind fun b=>gO (d9 a&&d9 b) (alloc (.list (di a b)) σ))
 ((one args).bind fun a=>(fg σ a).map fun vs=>(.tup vs,σ))
 ((one args).bind fun a=>(fg σ a).bind (BF σ))
 ((one args).bind fun a=>(bz a).map fun x=>(.int x.natAbs,σ))
 ((one args).bind fun a=>(Ng a).map fun x=>(.int x,σ))
noncomputable def yI (σ:St)(f:List AV→List AV)(a:AV):Option (List AV×Option (Nat×ae)):=(dE a).bind fun r=>(fg σ a).map fun vs=>(f vs,some (r,.list vs))
noncomputable def Mp (a b:Int):Option (List AV×Option (Nat×ae)):=gO (d9 a&&d9 b) (some (di a b,none))
noncomputable def dz (k:dB)(args:List AV)(σ:St):Option (List AV×Option (Nat×ae)):=dB.casesOn k
 ((one args).bind fun a=>Option.elim (dp a) (yI σ id a) fun vs=>some (vs,none))
 (Option.elim (one args) ((two args).bind fun p=>(bz p.1).bind fun a=>(bz p.2).bind fun b=>Mp a b) fun a=>(bz a).bind fun b=>Mp 0 b)
 ((one args).bind (yI σ List.reverse))
 ((one args).bind (yI σ fun vs=>vs.zipIdx.map fun p=>.tup [.int p.2,p.1]))
noncomputable def b8 (gd:Option (Nat×ae))(σ:St):Bool:=Option.elim gd true fun p=>eU (σ[p.1]?) fun o=>o.beq p.2
noncomputable def HN (xs:List Nat)(v:AV)(ρ:ag):Option ag:=(two xs).bind fun p=>(dp v).bind fun l=>(two l).map fun q=>aF (aF ρ p.1 q.1) p.2 q.2
noncomputable def ed (xs:List Nat)(one':Bool)(v:AV)(ρ:ag):Option ag:=bif one' then(one xs).map fun x=>aF ρ x v else HN xs v ρ
noncomputable def Fp (o:Option AV)(l:List AV):List AV:=Option.elim o l (· ::l)
noncomputable def ca (gd:Option (Nat×ae))(xs:List Nat)(one:Bool)(turn:ag→St→Option (Option AV×St))(ρ:ag):List AV→St→Option (List AV×St)
 | [],σ=>gO (b8 gd σ) (some ([],σ))
 |v::vs,σ=>gO (b8 gd σ) ((ed xs one v ρ).bind fun ρ'=>aO (turn ρ' σ) fun o σ=>aO (ca gd xs one turn ρ vs σ) fun l σ=>some (Fp o l,σ))
noncomputable def Ap (σ:St)(x:AV):Option ae:=(dE x).bind fun r=>σ[r]?
noncomputable def BM (σ:St)(x:AV)(a:Nat):Option AV:=(Ap σ x).bind fun ob=>(gQ ob).bind fun p=>ef p.2 a
noncomputable def ml (m:Nat)(o:ae):Bool:=ae.casesOn o (fun _=>m==51||m==204||m==81) (fun _=>m==91) (fun _ _=>false) (fun _=>false)
noncomputable def xK (xs:List AV):Option (List (AV×AV)):=(tj xs).bind fun kvs=>gO (kvs.all (fun p=>bx p.1 !=0&&kvs.all fun q=>bx q.1==bx p.1)) (some (tq [] kvs))
noncomputable def yG (m r:Nat)(vs args:List AV)(σ:St):Option (AV×St):=
 bif m==51 then(one args).bind fun x=>gO (decide (vs.length<1000000)) (some (.none,σ.set r (.list (vs++[x]))))
 else bif m==204 then(one args).bind fun a=>(bz a).bind fun k=>gO (k==0) (List.casesOn vs none fun x l=>some (x,σ.set r (.list l)))
 else bif m==81 then(one args).bind fun a=>(dE a).bind fun q=>(fg σ a).bind fun ws=>gO (!(r==q)&&decide (vs.length+ws.length<1000000)) (some (.none,σ.set r (.list (vs++ws))))
 else none
noncomputable def xL (m:Nat)(kvs:List (AV×AV))(args:List AV)(σ:St):Option (AV×St):=gO (m==91) ((two args).bind fun p=>gO (cR kvs p.1) (some ((bc kvs p.1).getD p.2,σ)))
noncomputable def d6 (m:Nat)(o:AV)(args:List AV)(σ:St):Option (AV×St):=(dE o).bind fun r=>(σ[r]?).bind fun ob=>Option.elim (bX ob) ((fz ob).bind fun kvs=>xL m kvs args σ) fun vs=>yG m r vs args σ
section
variable {σ:St}{r q:Nat}{i x y:Int}{b:Bool}{a v:AV}{vs:List AV}
theorem FX:truthy σ (.bool b)=some b:=rfl
theorem M0:truthy σ (.ref r)=((σ[r]?).bind bX).map fun vs=>!vs.isEmpty:=rfl
theorem yr:eh σ (.ref r) v=(σ[r]?).bind fun ob=>Option.elim (bX ob) ((fz ob).bind fun kvs=>gO (cR kvs v) (bc kvs v)) fun vs=>(bz v).bind fun k=>(dK k vs.length).bind fun j=>vs[j]?:=rfl
theorem PG:t6 σ (.ref r) (.ref q)=((σ[r]?).bind bX).bind fun x=>((σ[q]?).bind bX).bind fun y=>gX x y:=rfl
theorem J1:qp σ a (.ref r)=(σ[r]?).bind fun o=>Option.elim (bX o) ((fz o).bind fun kvs=>gO (cR kvs a) (some (bc kvs a).isSome)) (fZ a):=rfl
theorem NI:fR .sub (.int x) (.int y) σ=some (.int (x - y),σ):=rfl
theorem NH:fR .add (.ref r) (.ref q) σ=((σ[r]?).bind bX).bind fun u=>((σ[q]?).bind bX).bind fun w=>gO (decide (u.length+w.length<1000000)) (alloc (.list (u++w)) σ):=rfl
theorem VZ:lA σ (.ref r) a v=(σ[r]?).bind fun ob=>(HD ob).bind fun vs=>(bound 0 a).bind fun a=>(bound vs.length v).bind fun b=>alloc (.list ((vs.take b).drop a)) σ:=rfl
theorem HL:dc .len [.ref r] σ=((σ[r]?).bind bX).map fun vs=>(.int vs.length,σ):=rfl
theorem MM:dz .seq [.ref r] σ=((σ[r]?).bind bX).map fun vs=>(vs,some (r,.list vs)):=rfl
theorem WU:dz .rev [.ref r] σ=((σ[r]?).bind bX).map fun vs=>(vs.reverse,some (r,.list vs)):=rfl
theorem ML:dz .enum [.ref r] σ=((σ[r]?).bind bX).map fun vs=>(vs.zipIdx.map fun p=>.tup [.int p.2,p.1],some (r,.list vs)):=rfl
theorem uP {m:Nat}{as:List AV}:d6 m (.ref r) as σ=(σ[r]?).bind fun ob=>Option.elim (bX ob) ((fz ob).bind fun kvs=>xL m kvs as σ) fun vs=>yG m r vs as σ:=rfl
end
structure Tb where
 glob:Nat→Option AV
 fld:Nat→Nat→Bool
 meth:Nat→Nat→Option Nat
section
variable (tb:Tb)(cf:Cf)
mutual
noncomputable def ev:E→ag→St→Option (AV×St)
 |.cn,_,σ=>some (.none,σ)
 |.cb b,_,σ=>some (.bool b,σ)
 |.ci i,_,σ=>some (.int i,σ)
 |.cs s,_,σ=>some (.str s,σ)
 |.v x,ρ,σ=>(ρ x).map fun v=>(v,σ)
 |.g x,_,σ=>(tb.glob x).map fun v=>(v,σ)
 |.bin op a b,ρ,σ=>aO (ev a ρ σ) fun x σ=>aO (ev b ρ σ) fun y σ=>fR op x y σ
 |.neg a,ρ,σ=>aO (ev a ρ σ) fun x σ=>(bz x).map fun i=>(.int (-i),σ)
 |.not a,ρ,σ=>aO (ev a ρ σ) fun x σ=>(truthy σ x).map fun b=>(.bool (!b),σ)
 |.and a b,ρ,σ=>aO (ev a ρ σ) fun x σ=>(truthy σ x).bind fun t=>bif t then ev b ρ σ else some (x,σ)
 |.or a b,ρ,σ=>aO (ev a ρ σ) fun x σ=>(truthy σ x).bind fun t=>bif t then some (x,σ)else ev b ρ σ
 |.cmp op a b,ρ,σ=>aO (ev a ρ σ) fun x σ=>aO (ev b ρ σ) fun y σ=>(fA σ op x y).map fun r=>(.bool r,σ)
 |.chain op₁ op₂ a b c,ρ,σ=>aO (ev a ρ σ) fun x σ=>aO (ev b ρ σ) fun y σ=>(fA σ op₁ x y).bind fun t=>bif t then aO (ev c ρ σ) fun z σ=>(fA σ op₂ y z).map fun r=>(.bool r,σ)else some (.bool false,σ)
 |.ife c a b,ρ,σ=>aO (ev c ρ σ) fun x σ=>(truthy σ x).bind fun t=>bif t then ev a ρ σ else ev b ρ σ
 |.call f es,ρ,σ=>aO (cP es ρ σ) fun xs σ=>cf f xs σ
 |.bi f es,ρ,σ=>aO (cP es ρ σ) fun xs σ=>dc f xs σ
 |.meth m o es,ρ,σ=>aO (ev o ρ σ) fun x σ=>(Ap σ x).bind fun ob=>Option.elim (gQ ob) (gO (ml m ob) (aO (cP es ρ σ) fun xs σ=>d6 m x xs σ)) fun p=>(tb.meth p.1 m).bind fun f=>aO (cP es ρ σ) fun xs σ=>cf f (x::xs) σ
 |.attr o a,ρ,σ=>aO (ev o ρ σ) fun x σ=>(BM σ x a).map fun v=>(v,σ)
 |.idx o i,ρ,σ=>aO (ev o ρ σ) fun x σ=>aO (ev i ρ σ) fun y σ=>(eh σ x y).map fun v=>(v,σ)
 |.slc o lo hi,ρ,σ=>aO (ev o ρ σ) fun x σ=>aO (ev lo ρ σ) fun y σ=>aO (ev hi ρ σ) fun z σ=>lA σ x y z
 |.lst es,ρ,σ=>aO (cP es ρ σ) fun xs σ=>alloc (.list xs) σ
 |.tup es,ρ,σ=>aO (cP es ρ σ) fun xs σ=>some (.tup xs,σ)
 |.dct es,ρ,σ=>aO (cP es ρ σ) fun xs σ=>(xK xs).bind fun d=>alloc (.dict d) σ
 |.lcomp xs one k src ifs elt,ρ,σ=>aO (cP src ρ σ) fun args σ=>(dz k args σ).bind fun p=>aO (ca p.2 xs one (fun ρ σ=>aO (lU ifs ρ σ) fun b σ=>bif b then aO (ev elt ρ σ) fun x σ=>some (some x,σ)else some (none,σ)) ρ p.1 σ) fun l σ=>gO (decide (l.length<1000000)) (alloc (.list l) σ)
 |.dfilt y,ρ,σ=>(ρ y).bind fun v=>(Ap σ v).bind fun ob=>(fz ob).bind fun kvs=>gO (decide (kvs.length<1000000)&&kvs.all (fun p=>bx p.1==1&&yz p.2)) (alloc (.dict (kvs.filter fun p=>!(p.2.beq (.int 0)))) σ)
noncomputable def cP:List E→ag→St→Option (List AV×St)
 | [],_,σ=>some ([],σ)
 |e::es,ρ,σ=>aO (ev e ρ σ) fun x σ=>aO (cP es ρ σ) fun xs σ=>some (x::xs,σ)
noncomputable def lU:List E→ag→St→Option (Bool×St)
 | [],_,σ=>some (true,σ)
 |e::es,ρ,σ=>aO (ev e ρ σ) fun x σ=>(truthy σ x).bind fun t=>bif t then lU es ρ σ else some (false,σ)
end
noncomputable def ie (σ:St)(o i v:AV):Option St:=(dE o).bind fun r=>(σ[r]?).bind fun ob=>Option.elim (bX ob) ((fz ob).bind fun kvs=>gO (cR kvs i&&decide (kvs.length<1000000)) (some (σ.set r (.dict (bU kvs i v))))) fun vs=>(bz i).bind fun k=>(dK k vs.length).map fun j=>σ.set r (.list (vs.set j v))
theorem w9 {σ:St}{r:Nat}{v k:AV}:ie σ (.ref r) k v=(σ[r]?).bind fun ob=>Option.elim (bX ob) ((fz ob).bind fun kvs=>gO (cR kvs k&&decide (kvs.length<1000000)) (some (σ.set r (.dict (bU kvs k v))))) fun vs=>(bz k).bind fun k=>(dK k vs.length).map fun j=>σ.set r (.list (vs.set j v)):=rfl
noncomputable def asg:Tg→AV→ag→St→Option (ag×St)
 |.name x,v,ρ,σ=>some (aF ρ x v,σ)
 |.names xs,v,ρ,σ=>(HN xs v ρ).map fun ρ=>(ρ,σ)
 |.attr o a,v,ρ,σ=>aO (ev tb cf o ρ σ) fun x σ=>(dE x).bind fun r=>(σ[r]?).bind fun ob=>(gQ ob).bind fun p=>gO (tb.fld p.1 a&&decide (p.2.length<900)) (some (ρ,σ.set r (.inst p.1 (eW p.2 a v))))
 |.idx o i,v,ρ,σ=>aO (ev tb cf o ρ σ) fun x σ=>aO (ev tb cf i ρ σ) fun y σ=>(ie σ x y v).map fun σ=>(ρ,σ)
noncomputable def jT (o:Option (Fl×ag×St))(f:ag→St→Option (Fl×ag×St)):Option (Fl×ag×St):=o.bind fun p=>Fl.casesOn p.1 (f p.2.1 p.2.2) (f p.2.1 p.2.2) fun _=>some p
noncomputable def FF (o:Option (Fl×ag×St))(f:ag→St→Option (Fl×ag×St)):Option (Fl×ag×St):=o.bind fun p=>Fl.casesOn p.1 (f p.2.1 p.2.2) (some p) fun _=>some p
noncomputable def dt (gd:Option (Nat×ae))(xs:List Nat)(one:Bool)(body:ag→St→Option (Fl×ag×St)):List AV→ag→St→Option (Fl×ag×St)
 | [],ρ,σ=>gO (b8 gd σ) (some (.next,ρ,σ))
 |v::vs,ρ,σ=>gO (b8 gd σ) ((ed xs one v ρ).bind fun ρ'=>jT (body ρ' σ) fun ρ σ=>dt gd xs one body vs ρ σ)
noncomputable def pK (test:ag→St→Option (AV×St))(body:ag→St→Option (Fl×ag×St)):Nat→ag→St→Option (Fl×ag×St)
 |0,_,_=>none
 |n+1,ρ,σ=>aO (test ρ σ) fun x σ=>(truthy σ x).bind fun t=>bif t then jT (body ρ σ) fun ρ σ=>pK test body n ρ σ else some (.next,ρ,σ)
mutual
noncomputable def ex:S→ag→St→Option (Fl×ag×St)
 |.ret e,ρ,σ=>aO (ev tb cf e ρ σ) fun v σ=>some (.ret v,ρ,σ)
 |.expr e,ρ,σ=>aO (ev tb cf e ρ σ) fun _ σ=>some (.next,ρ,σ)
 |.asg t e,ρ,σ=>aO (ev tb cf e ρ σ) fun v σ=>(asg tb cf t v ρ σ).map fun p=>(.next,p)
 |.iff c a b,ρ,σ=>aO (ev tb cf c ρ σ) fun x σ=>(truthy σ x).bind fun t=>bif t then bJ a ρ σ else bJ b ρ σ
 |.whl c b,ρ,σ=>pK (ev tb cf c) (fun ρ σ=>bJ b ρ σ) 100 ρ σ
 |.for xs one k src b,ρ,σ=>aO (cP tb cf src ρ σ) fun args σ=>(dz k args σ).bind fun p=>dt p.2 xs one (fun ρ σ=>bJ b ρ σ) p.1 ρ σ
 |.cont,ρ,σ=>some (.cont,ρ,σ)
 |.pass,ρ,σ=>some (.next,ρ,σ)
noncomputable def bJ:List S→ag→St→Option (Fl×ag×St)
 | [],ρ,σ=>some (.next,ρ,σ)
 |s::l,ρ,σ=>FF (ex s ρ σ) fun ρ σ=>bJ l ρ σ
end
end
section
variable {tb:Tb}{cf:Cf}{ρ:ag}{σ:St}{a b c o i e:E}{es src ifs:List E}{x n:Nat}{t:Bool}{xs:List Nat}{k:dB}{s:S}{l A B:List S}
theorem PO:lU tb cf (e::es) ρ σ=aO (ev tb cf e ρ σ) fun x σ=>(truthy σ x).bind fun t=>bif t then lU tb cf es ρ σ else some (false,σ):=rfl
end
theorem It {gd:Option (Nat×ae)}{xs:List Nat}{one:Bool}{turn:ag→St→Option (Option AV×St)}{ρ:ag}{σ:St}:ca gd xs one turn ρ [] σ=gO (b8 gd σ) (some ([],σ)):=rfl
theorem pU {gd:Option (Nat×ae)}{xs:List Nat}{one:Bool}{turn:ag→St→Option (Option AV×St)}{ρ:ag}{σ:St}{v:AV}{vs:List AV}:ca gd xs one turn ρ (v::vs) σ=gO (b8 gd σ) ((ed xs one v ρ).bind fun ρ'=>aO (turn ρ' σ) fun o σ=>aO (ca gd xs one turn ρ vs σ) fun l σ=>some (Fp o l,σ)):=rfl
theorem Qj {gd:Option (Nat×ae)}{xs:List Nat}{one:Bool}{body:ag→St→Option (Fl×ag×St)}{ρ:ag}{σ:St}:dt gd xs one body [] ρ σ=gO (b8 gd σ) (some (.next,ρ,σ)):=rfl
theorem Qi {gd:Option (Nat×ae)}{xs:List Nat}{one:Bool}{body:ag→St→Option (Fl×ag×St)}{ρ:ag}{σ:St}{v:AV}{vs:List AV}:dt gd xs one body (v::vs) ρ σ=gO (b8 gd σ) ((ed xs one v ρ).bind fun ρ'=>jT (body ρ' σ) fun ρ σ=>dt gd xs one body vs ρ σ):=rfl
structure Fn where
 params:List Nat
 dflts:List AV
 body:List S
 deriving Inhabited
structure Bf where
 tb:Tb
 fns:Nat→Option Fn
 cls:Nat→Option Nat
noncomputable def cX:List Nat→List AV→ag
 |x::xs,v::vs=>fun y=>bif y==x then some v else cX xs vs y
 |_,_=>fun _=>none
mutual
noncomputable def AV.under (n:Nat):AV→Bool
 |.tup vs=>AV.unders n vs
 |.ref i=>decide (i<n)
 |_=>true
noncomputable def AV.unders (n:Nat):List AV→Bool
 | []=>true
 |v::l=>AV.under n v&&AV.unders n l
end
noncomputable def bF (σ:St)(r:AV×St):AV×St:=if r.1.under σ.length&&FQ (r.2.take σ.length) σ then(r.1,σ)else r
noncomputable def ao (T:Bf):Nat→Cf
 |0,_,_,_=>none
 |d+1,f,args,σ=>match T.cls f with
  |some ini=>match T.fns ini with
   |some fn=>match bJ T.tb (ao T d) fn.body (cX fn.params (.ref σ.length::args++fn.dflts.drop (fn.dflts.length+args.length+1 - fn.params.length))) (σ++[.inst f []])with
    |some (.next,_,σ')=>if args.length+1≤fn.params.length∧fn.params.length≤args.length+1+fn.dflts.length then some (.ref σ.length,σ')else none
    |_=>none
   |none=>none
  |none=>match T.fns f with
   |some fn=>if args.length≤fn.params.length∧fn.params.length≤args.length+fn.dflts.length then
     match bJ T.tb (ao T d) fn.body (cX fn.params (args++fn.dflts.drop (fn.dflts.length+args.length - fn.params.length))) σ with
     |some (.ret v,_,σ')=>some (bF σ (v,σ'))
     |some (.next,_,σ')=>some (bF σ (.none,σ'))
     |_=>none
    else none
   |none=>none
theorem ah {p:Prop}(h:¬p→False):p:=Classical.byContradiction h
theorem aK {α:Type}{a:α}{p:Prop}(h:none=some a):p:=by cases h
theorem WN {α:Type}{a:α}{p:Prop}(h:some a=none):p:=by cases h
theorem cz {p:Prop}(h:false=true):p:=by cases h
theorem aR {α:Type}{a b:α}{p:Prop}(h:some a=some b)(k:a=b→p):p:=by cases h;exact k rfl
theorem dj {α β:Type}{a b:α}{c d:β}{p:Prop}(h:some (a,c)=some (b,d))(k:a=b→c=d→p):p:=by cases h;exact k rfl rfl
theorem tv {α β γ:Type}{a b:α}{c d:β}{e f:γ}{p:Prop}(h:some (a,c,e)=some (b,d,f))(k:a=b→c=d→e=f→p):p:=by cases h;exact k rfl rfl rfl
theorem iS {c:Prop}{i:Decidable c}{A B:Prop}(h:c)(q:A):@ite _ c i A B:=by rw[if_pos h];exact q
theorem iQ {c:Prop}{i:Decidable c}{A B:Prop}(h:¬c)(q:B):@ite _ c i A B:=by rw[if_neg h];exact q
theorem yA {c:Prop}{i:Decidable c}{α:Type}{a b r:α}{g:Prop}(h:@ite _ c i a b=r)(k:c→a=r→g)(l:¬c→b=r→g):g:=by
 by_cases q:c
 ·rw[if_pos q]at h;exact k q h
 ·rw[if_neg q]at h;exact l q h
theorem aS {α β γ:Type}{x:Option (α×γ)}{f:α→γ→Option β}{r:β}{g:Prop}(h:aO x f=some r)(k:∀a s,x=some (a,s)→f a s=some r→g):g:=by
 cases x with
 |none=>exact aK h
 |some p=>exact k _ _ rfl h
theorem az {α β:Type}{x:Option α}{f:α→Option β}{r:β}{g:Prop}(h:x.bind f=some r)(k:∀a,x=some a→f a=some r→g):g:=by
 cases x with
 |none=>exact aK h
 |some p=>exact k _ rfl h
@[elab_as_elim] theorem fE {α β:Type}{x:Option α}{f:α→β}{r:β}{P:β→Prop}(h:x.map f=some r)(k:∀a,x=some a→P (f a)):P r:=by
 cases x with
 |none=>cases h
 |some a=>cases h;exact k a rfl
theorem cw {α β:Type}{x:Option α}{f:α→β}{r:β}{g:Prop}(h:x.map f=some r)(k:∀a,x=some a→f a=r→g):g:=by
 cases x with
 |none=>exact aK h
 |some p=>exact k _ rfl (Option.some.inj h)
theorem eV {α β:Type}{a b:α}{s t:β}(h:some (a,s)=some (b,t)):b=a∧t=s:=by cases h;exact⟨rfl,rfl⟩
theorem fH {α β:Type}{a b:α}{s t:β}{g:Prop}(h:some (a,s)=some (b,t))(k:b=a→t=s→g):g:=by cases h;exact k rfl rfl
theorem gH {β:Type}{o:Option Bool}{A B:Option β}{r:β}{g:Prop}(h:(o.bind fun t=>bif t then A else B)=some r)(k:o=some true→A=some r→g)(l:o=some false→B=some r→g):g:=by
 cases o with
 |none=>exact aK h
 |some t=>cases t with
  |true=>exact k rfl h
  |false=>exact l rfl h
theorem lH {p0 p1:Prop}{g:Prop}(h:p0∧p1)(k:p0→p1→g):g:=by obtain⟨h0,h1⟩:=h;exact k h0 h1
theorem cJ {p0 p1 p2:Prop}{g:Prop}(h:p0∧p1∧p2)(k:p0→p1→p2→g):g:=by obtain⟨h0,h1,h2⟩:=h;exact k h0 h1 h2
theorem tK {p0 p1 p2 p3:Prop}{g:Prop}(h:p0∧p1∧p2∧p3)(k:p0→p1→p2→p3→g):g:=by obtain⟨h0,h1,h2,h3⟩:=h;exact k h0 h1 h2 h3
theorem F9 {p0 p1 p2 p3 p4:Prop}{g:Prop}(h:p0∧p1∧p2∧p3∧p4)(k:p0→p1→p2→p3→p4→g):g:=by obtain⟨h0,h1,h2,h3,h4⟩:=h;exact k h0 h1 h2 h3 h4
theorem xj {t0:Type}{p0:t0→Prop}{g:Prop}(h:∃a0,p0 a0)(k:∀a0,p0 a0→g):g:=by obtain⟨a0,h0⟩:=h;exact k a0 h0
theorem am {t0:Type}{p0 p1:t0→Prop}{g:Prop}(h:∃a0,p0 a0∧p1 a0)(k:∀a0,p0 a0→p1 a0→g):g:=by obtain⟨a0,h0,h1⟩:=h;exact k a0 h0 h1
theorem cW {t0:Type}{p0 p1 p2:t0→Prop}{g:Prop}(h:∃a0,p0 a0∧p1 a0∧p2 a0)(k:∀a0,p0 a0→p1 a0→p2 a0→g):g:=by obtain⟨a0,h0,h1,h2⟩:=h;exact k a0 h0 h1 h2
theorem pN {t0:Type}{p0 p1 p2 p3:t0→Prop}{g:Prop}(h:∃a0,p0 a0∧p1 a0∧p2 a0∧p3 a0)(k:∀a0,p0 a0→p1 a0→p2 a0→p3 a0→g):g:=by obtain⟨a0,h0,h1,h2,h3⟩:=h;exact k a0 h0 h1 h2 h3
theorem lI {t0:Type}{p0 p1 p2 p3 p4:t0→Prop}{g:Prop}(h:∃a0,p0 a0∧p1 a0∧p2 a0∧p3 a0∧p4 a0)(k:∀a0,p0 a0→p1 a0→p2 a0→p3 a0→p4 a0→g):g:=by obtain⟨a0,h0,h1,h2,h3,h4⟩:=h;exact k a0 h0 h1 h2 h3 h4
theorem Ga {t0:Type}{p0 p1 p2 p3 p4 p5:t0→Prop}{g:Prop}(h:∃a0,p0 a0∧p1 a0∧p2 a0∧p3 a0∧p4 a0∧p5 a0)(k:∀a0,p0 a0→p1 a0→p2 a0→p3 a0→p4 a0→p5 a0→g):g:=by obtain⟨a0,h0,h1,h2,h3,h4,h5⟩:=h;exact k a0 h0 h1 h2 h3 h4 h5
theorem Gb {t0:Type}{t1:Type}{p0:t0→t1→Prop}{g:Prop}(h:∃a0 a1,p0 a0 a1)(k:∀a0 a1,p0 a0 a1→g):g:=by obtain⟨a0,a1,h0⟩:=h;exact k a0 a1 h0
theorem eX {t0:Type}{t1:Type}{p0 p1:t0→t1→Prop}{g:Prop}(h:∃a0 a1,p0 a0 a1∧p1 a0 a1)(k:∀a0 a1,p0 a0 a1→p1 a0 a1→g):g:=by obtain⟨a0,a1,h0,h1⟩:=h;exact k a0 a1 h0 h1
theorem bH {t0:Type}{t1:Type}{p0 p1 p2:t0→t1→Prop}{g:Prop}(h:∃a0 a1,p0 a0 a1∧p1 a0 a1∧p2 a0 a1)(k:∀a0 a1,p0 a0 a1→p1 a0 a1→p2 a0 a1→g):g:=by obtain⟨a0,a1,h0,h1,h2⟩:=h;exact k a0 a1 h0 h1 h2
theorem lJ {t0:Type}{t1:Type}{p0 p1 p2 p3:t0→t1→Prop}{g:Prop}(h:∃a0 a1,p0 a0 a1∧p1 a0 a1∧p2 a0 a1∧p3 a0 a1)(k:∀a0 a1,p0 a0 a1→p1 a0 a1→p2 a0 a1→p3 a0 a1→g):g:=by obtain⟨a0,a1,h0,h1,h2,h3⟩:=h;exact k a0 a1 h0 h1 h2 h3
theorem lK {t0:Type}{t1:Type}{p0 p1 p2 p3 p4:t0→t1→Prop}{g:Prop}(h:∃a0 a1,p0 a0 a1∧p1 a0 a1∧p2 a0 a1∧p3 a0 a1∧p4 a0 a1)(k:∀a0 a1,p0 a0 a1→p1 a0 a1→p2 a0 a1→p3 a0 a1→p4 a0 a1→g):g:=by obtain⟨a0,a1,h0,h1,h2,h3,h4⟩:=h;exact k a0 a1 h0 h1 h2 h3 h4
theorem cq {t0:Type}{t1:Type}{p0 p1 p2 p3 p4 p5:t0→t1→Prop}{g:Prop}(h:∃a0 a1,p0 a0 a1∧p1 a0 a1∧p2 a0 a1∧p3 a0 a1∧p4 a0 a1∧p5 a0 a1)(k:∀a0 a1,p0 a0 a1→p1 a0 a1→p2 a0 a1→p3 a0 a1→p4 a0 a1→p5 a0 a1→g):g:=by obtain⟨a0,a1,h0,h1,h2,h3,h4,h5⟩:=h;exact k a0 a1 h0 h1 h2 h3 h4 h5
theorem jo {t0:Type}{t1:Type}{t2:Type}{p0:t0→t1→t2→Prop}{g:Prop}(h:∃a0 a1 a2,p0 a0 a1 a2)(k:∀a0 a1 a2,p0 a0 a1 a2→g):g:=by obtain⟨a0,a1,a2,h0⟩:=h;exact k a0 a1 a2 h0
theorem ir {t0:Type}{t1:Type}{t2:Type}{p0 p1:t0→t1→t2→Prop}{g:Prop}(h:∃a0 a1 a2,p0 a0 a1 a2∧p1 a0 a1 a2)(k:∀a0 a1 a2,p0 a0 a1 a2→p1 a0 a1 a2→g):g:=by obtain⟨a0,a1,a2,h0,h1⟩:=h;exact k a0 a1 a2 h0 h1
theorem jp {t0:Type}{t1:Type}{t2:Type}{p0 p1 p2:t0→t1→t2→Prop}{g:Prop}(h:∃a0 a1 a2,p0 a0 a1 a2∧p1 a0 a1 a2∧p2 a0 a1 a2)(k:∀a0 a1 a2,p0 a0 a1 a2→p1 a0 a1 a2→p2 a0 a1 a2→g):g:=by obtain⟨a0,a1,a2,h0,h1,h2⟩:=h;exact k a0 a1 a2 h0 h1 h2
theorem A0 {t0:Type}{t1:Type}{t2:Type}{p0 p1 p2 p3:t0→t1→t2→Prop}{g:Prop}(h:∃a0 a1 a2,p0 a0 a1 a2∧p1 a0 a1 a2∧p2 a0 a1 a2∧p3 a0 a1 a2)(k:∀a0 a1 a2,p0 a0 a1 a2→p1 a0 a1 a2→p2 a0 a1 a2→p3 a0 a1 a2→g):g:=by obtain⟨a0,a1,a2,h0,h1,h2,h3⟩:=h;exact k a0 a1 a2 h0 h1 h2 h3
theorem XM {t0:Type}{t1:Type}{t2:Type}{p0 p1 p2 p3 p4:t0→t1→t2→Prop}{g:Prop}(h:∃a0 a1 a2,p0 a0 a1 a2∧p1 a0 a1 a2∧p2 a0 a1 a2∧p3 a0 a1 a2∧p4 a0 a1 a2)(k:∀a0 a1 a2,p0 a0 a1 a2→p1 a0 a1 a2→p2 a0 a1 a2→p3 a0 a1 a2→p4 a0 a1 a2→g):g:=by obtain⟨a0,a1,a2,h0,h1,h2,h3,h4⟩:=h;exact k a0 a1 a2 h0 h1 h2 h3 h4
theorem iu {t0:Type}{t1:Type}{t2:Type}{p0 p1 p2 p3 p4 p5:t0→t1→t2→Prop}{g:Prop}(h:∃a0 a1 a2,p0 a0 a1 a2∧p1 a0 a1 a2∧p2 a0 a1 a2∧p3 a0 a1 a2∧p4 a0 a1 a2∧p5 a0 a1 a2)(k:∀a0 a1 a2,p0 a0 a1 a2→p1 a0 a1 a2→p2 a0 a1 a2→p3 a0 a1 a2→p4 a0 a1 a2→p5 a0 a1 a2→g):g:=by obtain⟨a0,a1,a2,h0,h1,h2,h3,h4,h5⟩:=h;exact k a0 a1 a2 h0 h1 h2 h3 h4 h5
theorem XN {t0:Type}{t1:Type}{t2:Type}{t3:Type}{p0:t0→t1→t2→t3→Prop}{g:Prop}(h:∃a0 a1 a2 a3,p0 a0 a1 a2 a3)(k:∀a0 a1 a2 a3,p0 a0 a1 a2 a3→g):g:=by obtain⟨a0,a1,a2,a3,h0⟩:=h;exact k a0 a1 a2 a3 h0
theorem XO {t0:Type}{t1:Type}{t2:Type}{t3:Type}{p0 p1 p2:t0→t1→t2→t3→Prop}{g:Prop}(h:∃a0 a1 a2 a3,p0 a0 a1 a2 a3∧p1 a0 a1 a2 a3∧p2 a0 a1 a2 a3)(k:∀a0 a1 a2 a3,p0 a0 a1 a2 a3→p1 a0 a1 a2 a3→p2 a0 a1 a2 a3→g):g:=by obtain⟨a0,a1,a2,a3,h0,h1,h2⟩:=h;exact k a0 a1 a2 a3 h0 h1 h2
theorem XQ {t0:Type}{t1:Type}{t2:Type}{t3:Type}{t4:Type}{p0 p1 p2 p3:t0→t1→t2→t3→t4→Prop}{g:Prop}(h:∃a0 a1 a2 a3 a4,p0 a0 a1 a2 a3 a4∧p1 a0 a1 a2 a3 a4∧p2 a0 a1 a2 a3 a4∧p3 a0 a1 a2 a3 a4)(k:∀a0 a1 a2 a3 a4,p0 a0 a1 a2 a3 a4→p1 a0 a1 a2 a3 a4→p2 a0 a1 a2 a3 a4→p3 a0 a1 a2 a3 a4→g):g:=by obtain⟨a0,a1,a2,a3,a4,h0,h1,h2,h3⟩:=h;exact k a0 a1 a2 a3 a4 h0 h1 h2 h3
end
section
open PySem (Str Scope NameKind)
noncomputable def Xi:List String:=["","Buffer","C","CONSONANTS","CharMap","D","DOTTED_CIRCLE","FORMS","H","HANGUL","I","Info","J","LEADS","LEAD_COUNT","M","MATRAS","MATRA_I","N","NUKTA","Normal","Plan","R","S","SIGNS","T","TAILS","TAIL_COUNT","TATWEEL","U","V","VIRAMA","VOWELS_normal","VOWELS_syllables","VOWEL_COUNT","ZWJ_hidden","ZWJ_joining","ZWJ_syllables","ZWNJ_hidden","ZWNJ_syllables","__init__","__name__","_law_draw","_law_forms","_law_joins","_law_pen","_law_pick","_law_sorts","_wall","abs","ahead","append","arab","at","begin","behind","bond","buffer","buffer_of","cell","charmap","circle","class_here","class_of","classes","cluster","clusters","code","codes","copied","count","default","defaults","deva","dflt","dict","digit","dual_ranges","due","end","enumerate","extend","fina","find","first","first_bit","form","form_of","forms","forms_of","found","get","glyph","glyph_of","glyphs","goal","had_parts","hang","hangul_parts","hangul_whole","has_before","has_behind","has_circle","has_kern","hebr","here","hidden","hidden_spans","in_ranges","info","infos","init","insert","int","is_backward","is_blocked","is_broken","is_closed","is_default","is_hidden_code","is_known","is_lone","is_one","is_open","is_selector","is_unsafe","is_within","isol","join","joined_pairs","joinedhand.buffer","joinedhand.charmap","joinedhand.hidden","joinedhand.joining","joinedhand.mirror","joinedhand.normal","joinedhand.plan","joinedhand.selectors","joinedhand.shaper","joinedhand.syllables","joining_type","joins_back","joins_on","k","kind","kind_at","kind_of_code","kinds","kinds_of","known","language","last","last_lig","last_split","later","latn","law","law_nz0118_01","lead","least_cluster","len","letters","lig_count","lig_id","lig_part","list","lone_pairs","many","mark_kinds","mark_runs","mask","masks","matra_goal","matras","medi","merge","met","min","mirror_pairs","mirror_row","mirror_table","move_matras","next_lig","next_split","normal","normalise","number","one","order_row","ordered_places","other","others","pair","parent","part","parts","parts_of","passed_ranges","past","past_viramas","pen","places","plain","plan","pop","positions","put_circle","put_together","range","ranges","read_letters","reorder","reversed","right_ranges","row","rows","rtlm","runs","script","second","selected","selector","self","set_cluster","set_tags","shape_letters","side_rows","solid","some","sort","sorted","spans","split_id","split_once","splits","spot","spots","stage","stages","start","stays_whole","stretch","syllable_end","syllables","table","tag","tail","take_apart","take_selectors","told","tuple","types","types_of","variations","vowel","whole","whole_here","whole_of","wholes","widened","x_advance","x_offset","y_advance","y_offset","zwj","zwnj"]
noncomputable def bf:List Str:=Xi.map PySem.Str.ofString
inductive NT where
 |nil
 |node (k i:Nat) (l r:NT)
noncomputable def NT.get:NT→Nat→Option Nat
 |.nil,_=>none
 |.node k i l r,n=>match Nat.beq n k with
  |true=>some i
  |false=>match Nat.ble n k with
   |true=>l.get n
   |false=>r.get n
noncomputable def Pg (x:Str):Nat:=x.cps.toList.foldr (fun c n=>Nat.add c (Nat.mul 128 n)) 0
noncomputable def t5:List Nat→List Nat→Bool
 | [],[]=>true
 |a::x,b::y=>match Nat.beq a b with
  |true=>t5 x y
  |false=>false
 |_,_=>false
theorem BH:∀{x y:List Nat},t5 x y=true→x=y
 | [],[],_=>rfl
 |a::x,b::y,h=>by
  unfold t5 at h
  split at h
  ·rename_i q
   rw[Nat.eq_of_beq_eq_true q,BH h]
  ·cases h
 | [],_::_,h=>by cases h
 |_::_,[],h=>by cases h
noncomputable def Sf:NT:=(.node 4015471243504 193 (.node 245149936 194 (.node 211317484 158 (.node 1668975 187 (.node 82 22 (.node 73 10 (.node 68 5 (.node 67 2 (.node 0 0 .nil .nil) .nil) (.node 72 8 .nil .nil)) (.node 77 15 (.node 74 12 .nil .nil) (.node 78 18 .nil .nil))) (.node 86 30 (.node 84 25 (.node 83 23 .nil .nil) (.node 85 29 .nil .nil)) (.node 14945 53 (.node 107 143 .nil .nil) (.node 1652581 79 .nil .nil)))) (.node 1913575 91 (.node 1815280 200 (.node 1752058 264 (.node 1700084 245 (.node 1669860 78 .nil .nil) .nil) (.node 1815276 160 .nil .nil)) (.node 1849328 204 (.node 1815789 177 .nil .nil) (.node 1896801 49 .nil .nil))) (.node 1964018 214 (.node 1914729 113 (.node 1913581 176 .nil .nil) (.node 1962220 156 .nil .nil)) (.node 205370084 73 (.node 205239526 82 .nil .nil) (.node 207124833 52 .nil .nil))))) (.node 230374002 216 (.node 217821416 97 (.node 213465059 67 (.node 211530987 144 (.node 211530982 83 (.node 211498996 249 .nil .nil) .nil) (.node 211531746 56 .nil .nil)) (.node 213693160 105 (.node 213612531 228 .nil .nil) (.node 215692019 222 .nil .nil))) (.node 228095975 95 (.node 224115706 265 (.node 221852397 174 .nil .nil) (.node 226291949 170 .nil .nil)) (.node 228274915 59 (.node 228225268 246 .nil .nil) (.node 228325865 127 .nil .nil)))) (.node 240693992 104 (.node 232421354 128 (.node 232289872 21 (.node 230471654 86 .nil .nil) (.node 232289904 203 .nil .nil)) (.node 234469193 11 (.node 232599788 155 .nil .nil) (.node 234469225 109 .nil .nil))) (.node 244905188 75 (.node 242989810 217 (.node 240808176 192 .nil .nil) (.node 243136498 215 .nil .nil)) (.node 245052260 74 (.node 245004137 111 .nil .nil) (.node 245102707 235 .nil .nil)))))) (.node 31104546665 110 (.node 27340091636 244 (.node 22442977222 7 (.node 255570157 167 (.node 245166320 198 (.node 245166316 151 (.node 245151731 229 .nil .nil) .nil) (.node 245167340 165 .nil .nil)) (.node 22423823052 13 (.node 17625705166 19 .nil .nil) (.node 22440730836 26 .nil .nil))) (.node 27076163558 90 (.node 27048637537 50 (.node 22444893395 24 .nil .nil) (.node 27065530355 227 .nil .nil)) (.node 27329802482 208 (.node 27329591923 237 .nil .nil) (.node 27329868525 175 .nil .nil)))) (.node 30815173231 190 (.node 29219126239 48 (.node 28154164839 92 (.node 27340323572 250 (.node 27340305527 255 .nil .nil) .nil) (.node 29204805622 254 .nil .nil)) (.node 29749801698 54 (.node 29749704304 202 .nil .nil) (.node 29779294059 149 .nil .nil))) (.node 31083740404 251 (.node 31081608427 147 (.node 30815367404 154 .nil .nil) (.node 31083542499 68 .nil .nil)) (.node 31100549094 88 (.node 31096369389 171 .nil .nil) (.node 31102367859 231 .nil .nil))))) (.node 3499534103779 61 (.node 2869479940301 16 (.node 31379192435 239 (.node 31360414948 76 (.node 31115227376 195 (.node 31115180147 236 .nil .nil) .nil) (.node 31371130851 70 .nil .nil)) (.node 2254190191830 31 (.node 31381566694 84 .nil .nil) (.node 2634307313864 9 .nil .nil))) (.node 3465715398753 51 (.node 3463330969587 230 (.node 3463307868131 69 .nil .nil) (.node 3464360490220 163 .nil .nil)) (.node 3465723654882 55 (.node 3465715465317 81 .nil .nil) (.node 3465736155891 219 .nil .nil)))) (.node 3977649139949 173 (.node 3806894568680 106 (.node 3737120454606 20 (.node 3500095830505 122 .nil .nil) (.node 3737120454638 184 .nil .nil)) (.node 3944337750722 1 (.node 3944329476846 186 .nil .nil) (.node 3944337750754 57 .nil .nil))) (.node 3978710217847 258 (.node 3978699504243 238 (.node 3978691114608 201 .nil .nil) (.node 3978699714802 209 .nil .nil)) (.node 3982185085551 191 (.node 3979524077159 94 .nil .nil) (.node 3982730410099 234 .nil .nil))))))) (.node 929675695578058062313 115 (.node 62415973316720618 142 (.node 513915859088100 71 (.node 487285748922857 123 (.node 443304726050039 259 (.node 324339192111309 17 (.node 4016545003369 112 (.node 4016016503283 218 .nil .nil) .nil) (.node 336641062674644 28 .nil .nil)) (.node 452440406931430 87 (.node 448012293241321 121 .nil .nil) (.node 460829803461235 241 .nil .nil))) (.node 504879017457251 65 (.node 495943604008035 60 (.node 495935014073411 4 .nil .nil) (.node 504874720293618 211 .nil .nil)) (.node 509719716115180 161 (.node 509276795205219 64 .nil .nil) (.node 513532002809067 145 .nil .nil)))) (.node 57912373668459755 148 (.node 56760085761439859 232 (.node 56743180225065714 212 (.node 53902074141372383 40 (.node 53901559791857631 41 .nil .nil) .nil) (.node 56743210558108403 220 .nil .nil)) (.node 57912369927156855 257 (.node 57314308605587692 150 .nil .nil) (.node 57912370741016167 93 .nil .nil))) (.node 57912373702078704 196 (.node 57912373687400422 89 (.node 57912373670591732 252 .nil .nil) (.node 57912373699704419 63 .nil .nil)) (.node 58449376684421870 182 (.node 58449376684339436 152 .nil .nil) (.node 62372571617195615 45 .nil .nil))))) (.node 7766360276373894751 46 (.node 65806935059461356 164 (.node 65244123660908131 66 (.node 64668490371117811 221 (.node 62451706095991273 120 (.node 62429371435905256 103 .nil .nil) .nil) (.node 65195607668372211 224 .nil .nil)) (.node 65750376260562936 261 (.node 65253160502538980 72 .nil .nil) (.node 65750376260562937 263 .nil .nil))) (.node 7335668484736023017 125 (.node 7334036193116975096 260 (.node 7263126967568300521 117 .nil .nil) (.node 7334036193116975097 262 .nil .nil)) (.node 7343549747291846501 80 (.node 7343021774478292974 185 .nil .nil) (.node 7412783795454720738 58 .nil .nil)))) (.node 8354106484706587891 226 (.node 8343959642201341171 243 (.node 7985906500284971497 126 (.node 7983667725184006633 116 .nil .nil) (.node 8343938064298014569 108 .nil .nil)) (.node 8349066323417673965 169 (.node 8349039631533930480 205 .nil .nil) (.node 8352430249421123816 96 .nil .nil))) (.node 8637845807635708271 188 (.node 8421123815424783596 162 (.node 8418224957623678182 85 .nil .nil) (.node 8629964675023926879 42 .nil .nil)) (.node 780431943950222254796 14 (.node 771636915628963768259 3 .nil .nil) (.node 780431943950239162580 27 .nil .nil)))))) (.node 15391103313442363261367533 180 (.node 1077538498802431619308 153 (.node 1003176710336069578989 172 (.node 939832460076304299127 256 (.node 939399032935668314344 102 (.node 938756693505661941875 233 (.node 930323109668437422312 101 .nil .nil) .nil) (.node 939399032935668333296 206 .nil .nil)) (.node 939838080985071415528 100 (.node 939832460080076846691 62 .nil .nil) (.node 994089550202533476330 141 .nil .nil))) (.node 1068673721178628060767 44 (.node 1067955933634071671021 168 (.node 1021905479487739571162 35 .nil .nil) (.node 1068606729996731971167 43 .nil .nil)) (.node 1068961890188249511916 166 (.node 1068677072834174693622 253 .nil .nil) (.node 1069111133601674065503 47 .nil .nil)))) (.node 122623136295453717605338 36 (.node 1105644263380084372717 179 (.node 1077759671718328662505 118 (.node 1077538498802431701742 183 .nil .nil) (.node 1078180824080778457332 247 .nil .nil)) (.node 119117683535627547048425 114 (.node 99895288825630604781526 34 .nil .nil) (.node 120243935338835058653811 240 .nil .nil))) (.node 136670983768373571991533 181 (.node 135527429275969333834483 223 (.node 130803901374430664960986 38 .nil .nil) (.node 135619653918770461145577 124 .nil .nil)) (.node 15242376286845263702342899 242 (.node 136707081245458666388196 77 .nil .nil) (.node 15381778616637021059003627 146 .nil .nil))))) (.node 2241771019101292015136568435 225 (.node 17513871608844726954669293 178 (.node 17498506399418711459624178 213 (.node 17347400329888454934346480 207 (.node 15396039174789463579195370 140 (.node 15391223723370645928259816 99 .nil .nil) .nil) (.node 17493838445950691901763824 199 .nil .nil)) (.node 17513836086728843865912050 210 (.node 17509076537938182747534568 107 .nil .nil) (.node 17513871608844243225442282 129 .nil .nil))) (.node 2103811785868715111822518230 32 (.node 955164073766981249384968428 157 (.node 17516315802434288899305704 98 .nil .nil) (.node 1346218761394326855912597444 6 .nil .nil)) (.node 2239808819125594516296102128 197 (.node 2220481401257481565573247724 159 .nil .nil) (.node 2239814611399913861249412058 37 .nil .nil)))) (.node 575281642078548889515810567363393514 132 (.node 286948201445442598462178390260 248 (.node 286694909138788198661995706735 189 (.node 252015060855551806272372734441 119 .nil .nil) (.node 286696270259188974239924595674 39 .nil .nil)) (.node 4697231691926552153947233238509526 33 (.node 35102657877912974157548313278442 136 .nil .nil) (.node 564737676077785207449874434105178090 135 .nil .nil))) (.node 69030688865900805630990480298626152426 133 (.node 596054625019168108893991441715066858 138 (.node 596051468520955534287452230290929642 130 .nil .nil) (.node 596460949144938710869223576576882666 134 .nil .nil)) (.node 1260903531159955545894918028023423338969066 139 (.node 74944878494755905611024423025840388074 131 .nil .nil) (.node 1262011536234696589909825668318934800693226 137 .nil .nil))))))))
noncomputable def aN (x:Str):Option Nat:=match Sf.get (Pg x)with
 |some i=>match bf[i]? with
  |some y=>match t5 y.cps.toList x.cps.toList with
   |true=>some i
   |false=>none
  |none=>none
 |none=>none
noncomputable def dw (sc:Scope)(x:Str):Bool:=match sc.names.lookup x with
 |some .local=>true
 |some .cell=>true
 |some .free=>true
 |_=>false
noncomputable def ei (sc:Scope)(x:Str):Bool:=sc.names.lookup x==some .globalImplicit
noncomputable def AQ (op:PySem.Operator):Option gc:=by
 cases op
 case Add=>exact some .add
 case Sub=>exact some .sub
 case Mult=>exact some .mul
 case FloorDiv=>exact some .fdiv
 case Mod=>exact some .fmod
 case BitOr=>exact some .or
 case LShift=>exact some .shl
 case Pow=>exact some .pow
 all_goals exact none
noncomputable def ik:PySem.CmpOp→jq
 |.Eq=>.eq
 |.NotEq=>.ne
 |.Lt=>.lt
 |.LtE=>.le
 |.Gt=>.gt
 |.GtE=>.ge
 |.Is=>.is
 |.IsNot=>.isnot
 |.In=>.isin
 |.NotIn=>.notin
noncomputable def xU:List Nat:=[3,6,7,9,13,14,16,17,19,24,26,27,28,31,32,33,34,35,36,37,38,39]
noncomputable def bO {α:Type}(b:Bool)(x:Option α):Option α:=bif b then x else none
theorem gZ {α:Type}{b:Bool}{x:Option α}{r:α}(h:bO b x=some r):b=true∧x=some r:=by
 cases b with
 |true=>exact⟨rfl,h⟩
 |false=>cases h
theorem dY {α:Type}{b:Bool}{x:Option α}{r:α}{P:Prop}(h:bO b x=some r)(k:b=true→x=some r→P):P:=(gZ h).elim k
theorem a5 {α β:Type}{x:Option α}{f:α→Option β}{r:β}(h:x.bind f=some r):∃a,x=some a∧f a=some r:=by
 cases x with
 |none=>cases h
 |some a=>exact⟨a,rfl,h⟩
theorem bY {α β:Type}{f:α→β}{x:Option α}{r:β}(h:x.map f=some r):∃a,x=some a∧r=f a:=by
 cases x with
 |none=>cases h
 |some a=>exact⟨a,rfl,(Option.some.inj h).symm⟩
noncomputable def dQ (e:PySem.Expr):Option (Str):=if h:e.ctorIdx=23 then PySem.Expr.Name.elim (motive_1:=fun _=>Option (Str)) e h fun x _p=>some x else none
noncomputable def xz (e:PySem.Expr):Option (List PySem.Expr):=if h:e.ctorIdx=25 then PySem.Expr.Tuple.elim (motive_1:=fun _=>Option (List PySem.Expr)) e h fun es _k _p=>some es else none
noncomputable def xy (e:PySem.Expr):Option (PySem.Expr×PySem.Expr):=if h:e.ctorIdx=21 then PySem.Expr.Subscript.elim (motive_1:=fun _=>Option (PySem.Expr×PySem.Expr)) e h fun o i _p=>some (o,i)else none
noncomputable def xr (e:PySem.Expr):Option (PySem.Expr×Str×PySem.Pos):=if h:e.ctorIdx=20 then PySem.Expr.Attribute.elim (motive_1:=fun _=>Option (PySem.Expr×Str×PySem.Pos)) e h fun o a p=>some (o,a,p)else none
noncomputable def Bl (e:PySem.Expr):Option (Option PySem.Expr×Option PySem.Expr×Option PySem.Expr):=if h:e.ctorIdx=26 then PySem.Expr.Slice.elim (motive_1:=fun _=>Option (Option PySem.Expr×Option PySem.Expr×Option PySem.Expr)) e h fun a b c _p=>some (a,b,c)else none
noncomputable def xt (e:PySem.Expr):Option (PySem.Expr×List PySem.Expr×List PySem.Keyword):=if h:e.ctorIdx=16 then PySem.Expr.Call.elim (motive_1:=fun _=>Option (PySem.Expr×List PySem.Expr×List PySem.Keyword)) e h fun f as ks _p=>some (f,as,ks)else none
noncomputable def HA (e:PySem.Expr):Option (PySem.Expr×List PySem.CmpOp×List PySem.Expr):=if h:e.ctorIdx=15 then PySem.Expr.Compare.elim (motive_1:=fun _=>Option (PySem.Expr×List PySem.CmpOp×List PySem.Expr)) e h fun a ops es _p=>some (a,ops,es)else none
noncomputable def HB (e:PySem.Expr):Option (PySem.Const):=if h:e.ctorIdx=19 then PySem.Expr.Constant.elim (motive_1:=fun _=>Option (PySem.Const)) e h fun c _k _p=>some c else none
noncomputable def HC:PySem.Const→Option Int
 |.int i=>some i
 |_=>none
section
open PySem
variable {e:PySem.Expr}
theorem lT {α:Type}{c:Prop}{i:Decidable c}{f:c→Option α}{x:α}{p:Prop}(h:dite c f (fun _=>none)=some x)(k:(q:c)→f q=some x→p):p:=by
 by_cases q:c
 ·rw[dif_pos q]at h;exact k q h
 ·rw[dif_neg q]at h;exact aK h
theorem eY {x:Str}(h:dQ e=some x):∃p,e=.Name x p:=lT h fun q h=>PySem.Expr.Name.elim (motive_1:=fun e=>(q:e.ctorIdx=23)→PySem.Expr.Name.elim (motive_1:=fun _=>Option (Str)) e q (fun x _p=>some x)=some x→∃p,e=.Name x p) e q (fun y p _ h=>aR (show some y=some x from h) fun e=>⟨p,e▸rfl⟩) q h
theorem Nv {x:List PySem.Expr}(h:xz e=some x):∃k p,e=.Tuple x k p:=lT h fun q h=>PySem.Expr.Tuple.elim (motive_1:=fun e=>(q:e.ctorIdx=25)→PySem.Expr.Tuple.elim (motive_1:=fun _=>Option (List PySem.Expr)) e q (fun es _k _p=>some es)=some x→∃k p,e=.Tuple x k p) e q (fun es k p _ h=>aR (show some es=some x from h) fun e=>⟨k,p,e▸rfl⟩) q h
theorem Bm {x:PySem.Expr×PySem.Expr}(h:xy e=some x):∃p,e=.Subscript x.1 x.2 p:=lT h fun q h=>PySem.Expr.Subscript.elim (motive_1:=fun e=>(q:e.ctorIdx=21)→PySem.Expr.Subscript.elim (motive_1:=fun _=>Option (PySem.Expr×PySem.Expr)) e q (fun o i _p=>some (o,i))=some x→∃p,e=.Subscript x.1 x.2 p) e q (fun o i p _ h=>aR (show some (o,i)=some x from h) fun e=>⟨p,e▸rfl⟩) q h
theorem Hy {x:PySem.Expr×Str×Pos}(h:xr e=some x):e=.Attribute x.1 x.2.1 x.2.2:=lT h fun q h=>PySem.Expr.Attribute.elim (motive_1:=fun e=>(q:e.ctorIdx=20)→PySem.Expr.Attribute.elim (motive_1:=fun _=>Option (PySem.Expr×Str×PySem.Pos)) e q (fun o a p=>some (o,a,p))=some x→e=.Attribute x.1 x.2.1 x.2.2) e q (fun o a p _ h=>aR (show some (o,a,p)=some x from h) fun e=>e▸rfl) q h
theorem Hz {x:PySem.Expr×List PySem.Expr×List Keyword}(h:xt e=some x):∃p,e=.Call x.1 x.2.1 x.2.2 p:=lT h fun q h=>PySem.Expr.Call.elim (motive_1:=fun e=>(q:e.ctorIdx=16)→PySem.Expr.Call.elim (motive_1:=fun _=>Option (PySem.Expr×List PySem.Expr×List PySem.Keyword)) e q (fun f as ks _p=>some (f,as,ks))=some x→∃p,e=.Call x.1 x.2.1 x.2.2 p) e q (fun f as ks p _ h=>aR (show some (f,as,ks)=some x from h) fun e=>⟨p,e▸rfl⟩) q h
theorem Np {x:PySem.Expr×List PySem.CmpOp×List PySem.Expr}(h:HA e=some x):∃p,e=.Compare x.1 x.2.1 x.2.2 p:=lT h fun q h=>PySem.Expr.Compare.elim (motive_1:=fun e=>(q:e.ctorIdx=15)→PySem.Expr.Compare.elim (motive_1:=fun _=>Option (PySem.Expr×List PySem.CmpOp×List PySem.Expr)) e q (fun a ops es _p=>some (a,ops,es))=some x→∃p,e=.Compare x.1 x.2.1 x.2.2 p) e q (fun a ops es p _ h=>aR (show some (a,ops,es)=some x from h) fun e=>⟨p,e▸rfl⟩) q h
theorem Nq {x:Const}(h:HB e=some x):∃k p,e=.Constant x k p:=lT h fun q h=>PySem.Expr.Constant.elim (motive_1:=fun e=>(q:e.ctorIdx=19)→PySem.Expr.Constant.elim (motive_1:=fun _=>Option (PySem.Const)) e q (fun c _k _p=>some c)=some x→∃k p,e=.Constant x k p) e q (fun c k p _ h=>aR (show some c=some x from h) fun e=>⟨k,p,e▸rfl⟩) q h
theorem Nr {c:Const}{x:Int}(h:HC c=some x):c=.int x:=by
 cases c<;>first |exact aK h |exact congrArg _ (Option.some.inj h)
theorem d8 {α:Type}{l:List α}{a:α}(h:one l=some a):l=[a]:=by
 cases l with
 |nil=>exact aK h
 |cons x m=>cases m with
  |nil=>exact congrArg (fun x=>[x]) (Option.some.inj h)
  |cons _ _=>exact aK h
theorem fL {α:Type}{l:List α}{a:α×α}(h:two l=some a):l=[a.1,a.2]:=by
 cases l with
 |nil=>exact aK h
 |cons x m=>
  obtain⟨b,h2,rfl⟩:=bY (f:=fun b=>(x,b)) (x:=one m) h
  exact congrArg (x::·) (d8 h2)
end
noncomputable def xw (e:PySem.Expr):Option (Str×Str):=(xz e).bind fun es=>(two es).bind fun p=>(dQ p.1).bind fun x=>(dQ p.2).map fun y=>(x,y)
theorem Nt {e:PySem.Expr}{z:Str×Str}(h:xw e=some z):∃p q k r,e=.Tuple [.Name z.1 p,.Name z.2 q] k r:=by
 refine az h fun es h1 h=>?_
 refine az h fun w h2 h=>?_
 refine az h fun x h3 h=>?_
 refine fE h fun y h4=>?_
 obtain⟨k,r,rfl⟩:=Nv h1
 obtain⟨p,e1⟩:=eY h3
 obtain⟨q,e2⟩:=eY h4
 rw[fL h2,e1,e2]
 exact⟨p,q,k,r,rfl⟩
noncomputable def ft (sc:Scope)(e:PySem.Expr):Option (List Nat×Bool):=match dQ e with
 |some x=>bO (dw sc x) ((aN x).map fun i=>([i],true))
 |none=>(xw e).bind fun p=>bO (dw sc p.1&&dw sc p.2) ((aN p.1).bind fun i=>(aN p.2).bind fun j=>bO (i !=j) (some ([i,j],false)))
noncomputable def xI (sc sc':Scope)(ts:List Str):Bool:=sc'.kind==.function&&sc'.names.all fun p=>p.2 !=.cell&&(p.2 !=.local||(sc'.names.lookup p.1==some .local&&(aN p.1==none||ts.contains p.1)))&&
 (p.2 !=.free||(sc.names.lookup p.1==some .cell||sc.names.lookup p.1==some .free))
noncomputable def yN (e:PySem.Expr):List Str:=match dQ e with
 |some x=>[x]
 |none=>match xw e with
  |some p=>[p.1,p.2]
  |none=>[]
noncomputable def tU (x:Nat):Option BI:=bif x==160 then some .len else bif x==177 then some .min else bif x==230 then some .sorted else bif x==250 then some .tuple else bif x==75 then some .dict else bif x==49 then some .abs else bif x==113 then some .int else none
noncomputable def Av (i:Nat):Option dB:=bif i==208 then some .range else bif i==212 then some .rev else bif i==80 then some .enum else none
noncomputable def hV {α:Type}:List α→Bool
 | []=>true
 |_::_=>false
noncomputable def fG (sc:Scope)(e:PySem.Expr):dB×List PySem.Expr:=match (xt e).bind fun c=>(dQ c.1).bind fun f=>bO (ei sc f&&hV c.2.2) ((aN f).bind fun i=>(Av i).map fun k=>(k,c.2.1))with
 |some r=>r
 |none=>(.seq,[e])
noncomputable def bw {α β:Type}(f:α→Option β):List α→Option (List β)
 | []=>some []
 |a::l=>match f a,bw f l with
  |some b,some r=>some (b::r)
  |_,_=>none
noncomputable def IA:PySem.Const→Option E
 |.none=>some .cn
 |.bool b=>some (.cb b)
 |.int i=>some (.ci i)
 |.str s=>(aN s).map .cs
 |_=>none
noncomputable def yM (sc:Scope)(x:Str):Option E:=bif dw sc x then(aN x).map .v else bO (ei sc x) ((aN x).bind fun i=>bO (xU.contains i) (some (.g i)))
noncomputable def M2 (op:PySem.UnaryOp)(x:Option E):Option E:=match op with
 |.USub=>x.map .neg
 |.Not=>x.map .not
 |_=>none
noncomputable def uJ (op:PySem.BoolOp)(x y:E):E:=match op with
 |.And=>.and x y
 |.Or=>.or x y
noncomputable def HT (f:PySem.Expr→Option E)(g:E→E→E):List PySem.Expr→Option E
 | []=>none
 |a::l=>match l with
  | []=>none
  |b::l=>match l with
   | []=>(f a).bind fun x=>(f b).map fun y=>g x y
   |c::l=>match l with
    | []=>(f a).bind fun x=>(f b).bind fun y=>(f c).map fun z=>g x (g y z)
    |_::_=>none
noncomputable def BA (f:PySem.Expr→Option E)(a:PySem.Expr)(ops:List PySem.CmpOp)(es:List PySem.Expr):Option E:=match one ops with
 |some o=>(one es).bind fun b=>(f a).bind fun x=>(f b).map fun y=>.cmp (ik o) x y
 |none=>(two ops).bind fun o=>(two es).bind fun b=>(f a).bind fun x=>(f b.1).bind fun y=>(f b.2).map fun z=>.chain (ik o.1) (ik o.2) x y z
noncomputable def Bw (i:Nat)(es:List E):E:=match tU i with
 |some b=>.bi b es
 |none=>.call i es
noncomputable def Ku (sc:Scope)(f:PySem.Expr→Option E)(args:List PySem.Expr):Option E:=(one args).bind fun c=>(xt c).bind fun c=>(dQ c.1).bind fun r=>bO (hV c.2.2&&(ei sc r&&aN r==some 208)) ((two c.2.1).bind fun p=>(f p.1).bind fun x=>(f p.2).map fun y=>.bi .listrange [x,y])
noncomputable def tW (sc:Scope)(f:PySem.Expr→Option E)(fn:PySem.Expr)(args:List PySem.Expr)(cp:PySem.Pos):Option E:=match dQ fn with
 |some x=>bO (ei sc x) ((aN x).bind fun i=>bif i==165 then Ku sc f args else(bw f args).map fun es=>Bw i es)
 |none=>(xr fn).bind fun q=>(f q.1).bind fun x=>(aN q.2.1).bind fun i=>(bw f args).bind fun es=>bO (decide (args.length<30)&&q.2.2.endLine==cp.line) (some (.meth i x es))
noncomputable def Ar (f:PySem.Expr→Option E):Option PySem.Expr→Option E
 |some l=>f l
 |none=>some .cn
noncomputable def FT (f:PySem.Expr→Option E)(o i:PySem.Expr):Option E:=match Bl i with
 |some q=>match q.2.2 with
  |none=>(f o).bind fun x=>(Ar f q.1).bind fun y=>(Ar f q.2.1).map fun z=>.slc x y z
  |some _=>none
 |none=>(f o).bind fun x=>(f i).map fun y=>.idx x y
noncomputable def yE (f f':PySem.Expr→Option E)(sc sc':Scope)(elt:PySem.Expr)(gens:List PySem.Comprehension):Option E:=(one gens).bind fun g=>(ft sc' g.target).bind fun p=>(bw f (fG sc g.iter).2).bind fun src=>(bw f' g.ifs).bind fun fs=>(f' elt).bind fun x=>
 bO (g.is_async==0&&(xI sc sc' (yN g.target)&&((yN g.target).all (fun y=>sc'.names.lookup y==some .local)&&(decide (g.ifs.length≤1)&&((fG sc g.iter).1 !=.enum||!p.2))))) (some (.lcomp p.1 p.2 (fG sc g.iter).1 src fs x))
noncomputable def MS (e:PySem.Expr):Option (Str×Str):=(xy e).bind fun s=>(dQ s.1).bind fun y=>(dQ s.2).map fun x=>(y,x)
noncomputable def T9 (e:PySem.Expr):Option PySem.Expr:=(HA e).bind fun c=>(one c.2.1).bind fun o=>(one c.2.2).bind fun r=>(HB r).bind fun k=>(HC k).bind fun i=>bO (decide (o=.NotEq)&&i==0) (some c.1)
noncomputable def ID (sc sc':Scope)(k v:PySem.Expr)(gens:List PySem.Comprehension):Option E:=(dQ k).bind fun x=>(MS v).bind fun s=>(one gens).bind fun g=>(dQ g.target).bind fun x2=>(dQ g.iter).bind fun y1=>(one g.ifs).bind fun c=>(T9 c).bind fun l=>(MS l).bind fun s'=>
 bO (g.is_async==0&&(x==s.2&&(x==x2&&(x==s'.2&&(s.1==y1&&(s.1==s'.1&&(xI sc sc' [x]&&(dw sc s.1&&(sc'.names.lookup s.1==some .free&&sc'.names.lookup x==some .local))))))))) ((aN x).bind fun _=>(aN s.1).map .dfilt)
noncomputable def aI:Nat→Scope→PySem.Expr→Option E
 |0,_,_=>none
 |n+1,sc,e=>match e with
  |.Constant c _ _=>IA c
  |.Name x _=>yM sc x
  |.BinOp a op b _=>(AQ op).bind fun o=>(aI n sc a).bind fun x=>(aI n sc b).map fun y=>.bin o x y
  |.UnaryOp op a _=>M2 op (aI n sc a)
  |.BoolOp op es _=>HT (aI n sc) (uJ op) es
  |.Compare a ops es _=>BA (aI n sc) a ops es
  |.IfExp c a b _=>(aI n sc c).bind fun x=>(aI n sc a).bind fun y=>(aI n sc b).map fun z=>.ife x y z
  |.Call f args ks cp=>bO (hV ks) (tW sc (aI n sc) f args cp)
  |.Attribute o a _=>(aI n sc o).bind fun x=>(aN a).map fun i=>.attr x i
  |.Subscript o i _=>FT (aI n sc) o i
  |.List es _=>bO (decide (es.length≤1000)) ((bw (aI n sc) es).map .lst)
  |.Tuple es _ _=>bO (decide (es.length≤1000)) ((bw (aI n sc) es).map .tup)
  |.Dict ks vs _=>(bw (fun k:Option PySem.Expr=>k.bind (aI n sc)) ks).bind fun xs=>(bw (aI n sc) vs).bind fun ys=>bO (decide (ks.length≤15)&&ks.length==vs.length) (some (.dct ((xs.zip ys).flatMap fun p=>[p.1,p.2])))
  |.ListComp elt gens sc' _=>yE (aI n sc) (aI n sc') sc sc' elt gens
  |.DictComp k v gens sc' _=>ID sc sc' k v gens
  |_=>none
noncomputable def AR (n:Nat)(sc:Scope)(t:PySem.Expr):Option Tg:=match dQ t with
 |some x=>bO (dw sc x) ((aN x).map .name)
 |none=>match xr t with
  |some q=>(aI n sc q.1).bind fun x=>(aN q.2.1).map fun i=>.attr x i
  |none=>match xy t with
   |some q=>bO (Bl q.2).isNone ((aI n sc q.1).bind fun x=>(aI n sc q.2).map fun y=>.idx x y)
   |none=>(ft sc t).map fun p=>.names p.1
noncomputable def uE (e:PySem.Expr):Bool:=by
 cases e
 case ListComp=>exact true
 case SetComp=>exact true
 case DictComp=>exact true
 all_goals exact false
noncomputable def Sw (e:PySem.Expr):Bool:=by
 cases e
 case DictComp=>exact true
 all_goals exact false
noncomputable def Bo (t e:PySem.Expr):Bool:=match dQ t with
 |some _=>!Sw e
 |none=>match xz t with
  |some _=>match xz e with
   |some vs=>!vs.all (PySem.constantsAlone 8)
   |none=>true
  |none=>true
noncomputable def gI:Nat→Scope→PySem.Stmt→Option S
 |0,_,_=>none
 |n+1,sc,s=>match s with
  |.Return e _=>(Ar (aI n sc) e).map .ret
  |.Expr e _=>bO (!uE e) ((aI n sc e).map .expr)
  |.Assign ts e _=>(one ts).bind fun t=>(AR n sc t).bind fun x=>(aI n sc e).bind fun y=>bO (Bo t e) (some (.asg x y))
  |.If c a b _=>(aI n sc c).bind fun x=>(bw (gI n sc) a).bind fun y=>(bw (gI n sc) b).map fun z=>.iff x y z
  |.While c a b _=>bO (hV b) ((aI n sc c).bind fun x=>(bw (gI n sc) a).map fun y=>.whl x y)
  |.For t it a b _=>bO (hV b) ((ft sc t).bind fun p=>(bw (aI n sc) (fG sc it).2).bind fun src=>(bw (gI n sc) a).bind fun q=>bO ((fG sc it).1 !=.enum||!p.2) (some (.for p.1 p.2 (fG sc it).1 src q)))
  |.Continue _=>some .cont
  |.Pass _=>some .pass
  |_=>none
noncomputable def pF (sc:Scope)(b:List PySem.Stmt):Option (List S):=bw (gI 30 sc) b
end
section
open PySem PySem.W PySem.Calls PyProof.Rows
noncomputable abbrev Th:=List (Addr×Addr)
noncomputable def own (θ:Th)(a:Addr):Prop:=∃l∈θ,a=l.1∨a=l.2
mutual
noncomputable def VR (h:Heap)(θ:Th):AV→Value→Prop
 |.none,v=>v=.none
 |.bool b,v=>v=.bool b
 |.int i,v=>∃t,v=.int i t
 |.str s,v=>∃x t,bf[s]?=some x∧v=.str x t
 |.tup vs,v=>∃a items,v=.ref a∧IsTup h a items∧aC h θ vs items.toList
 |.ref i,v=>∃l,θ[i]?=some l∧v=.ref l.1
noncomputable def aC (h:Heap)(θ:Th):List AV→List Value→Prop
 | [],[]=>True
 |a::as,v::vs=>VR h θ a v∧aC h θ as vs
 |_,_=>False
end
noncomputable def Pw {K:Type}(KR:K→AV→Prop)(h:Heap)(θ:Th):List (K×Value)→List (AV×AV)→Prop
 | [],[]=>True
 |p::l,q::m=>KR p.1 q.1∧VR h θ q.2 p.2∧Pw KR h θ l m
 |_,_=>False
noncomputable def bV {K:Type}(KR:K→AV→Prop)(h:Heap)(θ:Th):List (K×Addr×Value)→List (AV×AV)→Prop
 | [],[]=>True
 |p::l,q::m=>KR p.1 q.1∧VR h θ q.2 p.2.2∧bV KR h θ l m
 |_,_=>False
noncomputable def tM (i:Int)(k:AV):Prop:=k=.int i
noncomputable def Bd (x:Str)(k:AV):Prop:=∃s,k=.str s∧bf[s]?=some x
noncomputable def Bc (x:List Int)(k:AV):Prop:=k=.tup (x.map .int)
noncomputable def Bb (x:List Bool)(k:AV):Prop:=k=.tup (x.map .bool)
theorem XI {prog:Program}{w:World}{A:Around}{E:Value→Shared→Prop}{s:Shared}{b:Bool}{Q:Int→Shared→Prop}(h:Q (if b then 1 else 0) {s with toks:=s.toks+1}):
  wpAny (model prog w) A (pyHash (.bool b)) Q E s:=by
 obtain hT:s.TypeIs (.bool b) "bool":=rfl
 unfold pyHash
 obtain hv:[Value.bool b].any Value.onHeap=false:=rfl
 refine wpAny_bind ?_
 rw[cRoomFor,if_neg (by rw[hv];exact Bool.false_ne_true)];refine wpAny_pure ?_
 refine wpAny_bind (wpAny_specialOf hT F.slot_bool_hash.lookup ?_)
 show wpAny _ _ (if(some (Value.builtin "int.__hash__")==some Value.none)=true then _ else _) Q E s
 rw[if_neg (by rw[beq_builtin_none];exact Bool.false_ne_true)]
 refine wpAny_bind (wpAny_specialOf hT F.slot_bool_hash.lookup ?_)
 show wpAny _ _ (callSpecialIfBoundUnlessNone? (.bool b) "__hash__" _ >>= _) Q E s
 cases b<;>
  refine wpAny_bind (wpAny_callSpecialIfBoundUnlessNone?_slot hT F.slot_bool_hash
   (wpAny_call_entry F.slot_bool_hash hT entry_int_hash (wpAny_ret_mkInt (wpAny_pure h)) (args_int_hash _)))
theorem XF {prog:Program}{w:World}{A:Around}{E:Value→Shared→Prop}{s:Shared}{a b:Bool}{Q:Bool→Shared→Prop}(h:Q (decide (a=b)) s):
  wpAny (model prog w) A (eqBool (.bool a) (.bool b)) Q E s:=by
 unfold eqBool
 show wpAny _ _ (if(Value.bool a==Value.bool b)=true then _ else _) Q E s
 by_cases gs:(Value.bool a==Value.bool b)=true
 ·rw[if_pos gs]
  obtain e:a=b:=by have:=eq_of_beq gs;injection this
  subst e
  exact wpAny_bind (wpAny_rule (wpAny_pure (by simpa using h)))
 ·rw[if_neg gs]
  refine wpAny_bind (show wpAny _ _ (compareOp .Eq (.bool a) (.bool b)) _ _ _ from eq_bool (wpAny_truthy_bool ?_))
  obtain e:(a==b)=decide (a=b):=by cases a<;>cases b<;>rfl
  rw[e];exact h
noncomputable def xE (prog:Program)(w:World):KeyKind prog w Bool where
 is:=fun b v=>v==.bool b
 hash:=fun b=>if b then 1 else 0
 inj:=fun v a b ha hb=>by
  have h1:=eq_of_beq ha
  have h2:=eq_of_beq hb
  rw[h1]at h2
  injection h2
 byValue:=fun b v h=>by rw[eq_of_beq h];rfl
 pyHash:=fun{A E s k v Q} h hq=>by
  have e:=eq_of_beq h
  subst e
  exact XI hq
 eqBool:=fun{A E s a b u v Q} ha hb hq=>by
  have e1:=eq_of_beq ha
  have e2:=eq_of_beq hb
  subst e1 e2
  exact XF hq
 «strs»:=fun k x t v h=>by
  have:=eq_of_beq h
  cases this
section
structure Wd where
 prog:Program
 w:World
 K:Frag
 hB:Heap
 cls:Nat→Option Addr
 fv:Nat→Option Value
 T:Bf
section
variable (W:Wd)
noncomputable def DR (h:Heap)(θ:Th)(a:Addr)(kvs:List (AV×AV)):Prop:=
 (∃l:List (Int×Value),h.DictOf (intKind W.prog W.w) a l∧Pw tM h θ l kvs)∨
 (∃l:List (Str×Value),h.DictOf (strKind W.prog W.w) a l∧Pw Bd h θ l kvs)∨
 (∃l:List (List Int×Addr×Value),h.DictOfH (tupleKind (intKind W.prog W.w)) a l∧bV Bc h θ l kvs)∨
 (∃l:List (List Bool×Addr×Value),h.DictOfH (tupleKind (xE W.prog W.w)) a l∧bV Bb h θ l kvs)
noncomputable def cK (h:Heap)(θ:Th):List DictEntry→List (Nat×AV)→Prop
 | [],[]=>True
 |e::l,p::m=>(∃x t,bf[p.1]?=some x∧e.key=.str x t)∧VR h θ p.2 e.val∧cK h θ l m
 |_,_=>False
noncomputable def OR (h:Heap)(θ:Th)(l:Addr×Addr):ae→Prop
 |.list vs=>l.2=l.1∧∃items,h.PlainList l.1 items∧aC h θ vs items.toList∧vs.length≤3000000
 |.dict kvs=>l.2=l.1∧DR W h θ l.1 kvs
 |.ext vs=>l.2=l.1∧∃items,h.IsList l.1 items∧aC h θ vs items.toList∧vs.length≤3000000
 |.inst c fs=>l.1≠l.2∧∃C,W.cls c=some C∧h.get? l.1=some (instObj C l.2)∧∃es n,h.get? l.2=some (dictOf es n)∧cK h θ es fs∧es.length≤900∧∀p∈fs,W.T.tb.fld c p.1=true
structure aq (θ:Th)(σ:St)(h:Heap):Prop where
 base:∀a o,W.hB.get? a=some o→h.get? a=some o
 len:θ.length=σ.length
 objs:∀(i:Nat) (o:ae) (l:Addr×Addr),σ[i]?=some o→θ[i]?=some l→OR W h θ l o
 fresh:∀(i:Nat) (o:ae) (l:Addr×Addr),σ[i]?=some o→θ[i]?=some l→o.live=true→W.hB.get? l.1=none∧W.hB.get? l.2=none
 apart:∀(i j:Nat) (l m:Addr×Addr),θ[i]?=some l→θ[j]?=some m→i≠j→l.1≠m.1∧l.1≠m.2∧l.2≠m.1∧l.2≠m.2
end
structure aB (X:Addr→Prop)(θ:Th)(s:Shared)(θ':Th)(s':Shared):Prop where
 pre:θ <+:θ'
 new:∀l,l∈θ'→l∈θ∨(s.heap.get? l.1=none∧s.heap.get? l.2=none)
 keep:∀a o,s.heap.get? a=some o→¬own θ a→¬X a→s'.heap.get? a=some o
 live:∀a o,s.heap.get? a=some o→∃o',s'.heap.get? a=some o'
 gens:s'.gens=s.gens
 os:s'.os=s.os
theorem aB.own_old {X:Addr→Prop}{θ θ':Th}{s s':Shared}(x:aB X θ s θ' s'){a:Addr}{o:Obj}(ha:s.heap.get? a=some o)(ho:own θ' a):own θ a:=by
 refine am ho fun l hl e=>?_
 rcases x.new l hl with q |q
 ·exact⟨l,q,e⟩
 ·exfalso
  rcases e with e |e<;>rw[e]at ha<;>first | (rw[q.1]at ha;cases ha;done) | (rw[q.2]at ha;cases ha)
theorem aB.refl {X:Addr→Prop}{θ:Th}{s s':Shared}(h:s'.heap=s.heap)(g:s'.gens=s.gens)(o:s'.os=s.os):aB X θ s θ s':=
 ⟨List.prefix_refl _,fun _ h=>.inl h,fun a o e _ _=>by rw[h];exact e,fun a o e=>⟨o,by rw[h];exact e⟩,g,o⟩
theorem aB.id {X:Addr→Prop}{θ:Th}{s:Shared}:aB X θ s θ s:=.refl rfl rfl rfl
theorem jC {h h':Heap}(k:∀a o,h.get? a=some o→∃o',h'.get? a=some o'){a:Addr}(e:h'.get? a=none):h.get? a=none:=by
 cases q:h.get? a with
 |none=>rfl
 |some o=>obtain⟨o',e'⟩:=k a o q;rw[e]at e';cases e'
theorem aB.trans {X:Addr→Prop}{θ θ₁ θ₂:Th}{s s₁ s₂:Shared}(x:aB X θ s θ₁ s₁)(y:aB X θ₁ s₁ θ₂ s₂):aB X θ s θ₂ s₂:=
 ⟨x.pre.trans y.pre,fun l hl=>by
  rcases y.new l hl with q |q
  ·exact x.new l q
  ·exact .inr ⟨jC x.live q.1,jC x.live q.2⟩,
   fun a o e h1 h2=>y.keep a o (x.keep a o e h1 h2) (fun q=>h1 (x.own_old e q)) h2,
   fun a o e=>let⟨o',e'⟩:=x.live a o e;y.live a o' e',y.gens.trans x.gens,y.os.trans x.os⟩
theorem aB.mono {X Y:Addr→Prop}{θ θ':Th}{s s':Shared}(x:aB X θ s θ' s')(h:∀a,X a→Y a):aB Y θ s θ' s':=
 ⟨x.pre,x.new,fun a o e h1 h2=>x.keep a o e h1 fun q=>h2 (h a q),x.live,x.gens,x.os⟩
theorem aB.above {X Y:Addr→Prop}{θ θ':Th}{s s':Shared}(x:aB X θ s θ' s')(h:∀a,X a→s.heap.get? a=none∨Y a):aB Y θ s θ' s':=
 ⟨x.pre,x.new,fun a o e h1 h2=>x.keep a o e h1 fun q=>by
  rcases h a q with z |z
  ·rw[e]at z;cases z
  ·exact h2 z,x.live,x.gens,x.os⟩
noncomputable abbrev bZ:Addr→Prop:=fun _=>False
theorem Gf {prog:Program}{w:World}{K:Type}[DecidableEq K]{knd:KeyKind prog w K}{h:Heap}{a:Addr}{l:List (K×Value)}(x:h.DictOf knd a l):∃o,h.get? a=some o∧o.cls=.type "dict":=
 jo x fun o _ _ r=>⟨o,r.1,r.2.1.1⟩
theorem Gg {prog:Program}{w:World}{K:Type}[DecidableEq K]{knd:KeyKind prog w K}{h:Heap}{a:Addr}{l:List (K×Value)}(x:h.DictOf knd a l):(l.map (·.1)).Nodup:=jo x fun _ _ _ r=>r.2.2.2.2.2
theorem Nc {prog:Program}{w:World}{K:Type}[DecidableEq K]{knd:HeapKind prog w K}{h:Heap}{a:Addr}{l:List (K×Addr×Value)}(x:h.DictOfH knd a l):(l.map (·.1)).Nodup:=jo x fun _ _ _ r=>r.2.2.2.2.2
theorem Ge {prog:Program}{w:World}{K:Type}[DecidableEq K]{knd:HeapKind prog w K}{h:Heap}{a:Addr}{l:List (K×Addr×Value)}(x:h.DictOfH knd a l):∃o,h.get? a=some o∧o.cls=.type "dict":=
 jo x fun o _ _ r=>⟨o,r.1,r.2.1.1⟩
section
variable {W:Wd}
theorem DR.cls {h:Heap}{θ:Th}{a:Addr}{kvs:List (AV×AV)}(x:DR W h θ a kvs):∃o,h.get? a=some o∧o.cls=.type "dict":=by
 refine ah fun aa=>?_
 rcases x with⟨l,x,_⟩ | ⟨l,x,_⟩ | ⟨l,x,_⟩ | ⟨l,x,_⟩
 ·exact aa (Gf x)
 ·exact aa (Gf x)
 ·exact aa (Ge x)
 ·exact aa (Ge x)
theorem OR.cls {h:Heap}{θ:Th}{l:Addr×Addr}{o:ae}(x:OR W h θ l o):∀a,a=l.1∨a=l.2→∃o,h.get? a=some o∧o.cls≠.type "tuple":=by
 intro a ha
 refine ah fun aa=>?_
 cases o with
 |list vs=>
  obtain⟨e,items,⟨n,ho⟩,_⟩:=x
  have:a=l.1:=by rcases ha with q |q;exact q;exact q.trans e
  exact aa (⟨_,this▸ho,by show(Value.type "list")≠_;decide⟩)
 |dict kvs=>
  obtain⟨e,x⟩:=x
  have:a=l.1:=by rcases ha with q |q;exact q;exact q.trans e
  refine am x.cls fun o ho hc=>?_
  exact aa (⟨o,this▸ho,by rw[hc];decide⟩)
 |ext vs=>
  obtain⟨e,items,⟨o,ho,hc,_⟩,_⟩:=x
  have:a=l.1:=by rcases ha with q |q;exact q;exact q.trans e
  exact aa (⟨_,this▸ho,by rw[hc];decide⟩)
 |inst c fs=>
  obtain⟨_,C,_,h1,es,n,h2,_⟩:=x
  rcases ha with q |q
  ·exact aa (⟨_,q▸h1,fun z=>by cases z⟩)
  ·exact aa (⟨_,q▸h2,by show(Value.type "dict")≠_;decide⟩)
theorem aq.notTuple {θ:Th}{σ:St}{h:Heap}(R:aq W θ σ h){a:Addr}(ho:own θ a):∃o,h.get? a=some o∧o.cls≠.type "tuple":=by
 refine ah fun aa=>?_
 obtain⟨l,hl,e⟩:=ho
 obtain⟨i,hi,iI⟩:=List.getElem_of_mem hl
 have h1:θ[i]?=some l:=by rw[List.getElem?_eq_getElem hi,iI]
 have qg:i<σ.length:=R.len▸hi
 obtain h2:σ[i]?=some σ[i]:=List.getElem?_eq_getElem qg
 exact aa ((R.objs i _ l h2 h1).cls a e)
theorem aq.at {θ:Th}{σ:St}{h:Heap}(R:aq W θ σ h){i:Nat}{o:ae}(e:σ[i]?=some o):∃l,θ[i]?=some l∧OR W h θ l o:=by
 have hi:i<θ.length:=by rw[R.len];exact(List.getElem?_eq_some_iff.mp e).1
 exact⟨θ[i],List.getElem?_eq_getElem hi,R.objs i o _ e (List.getElem?_eq_getElem hi)⟩
end
noncomputable def bP (o:Obj):Prop:=o.cls=.type "tuple"∧∃items n,o.data=.seq items n
mutual
theorem VR.keep {h h':Heap}{θ θ':Th}(hp:θ <+:θ')(ht:∀a o,h.get? a=some o→bP o→h'.get? a=some o):∀(v:AV) (x:Value),VR h θ v x→VR h' θ' v x
 |.none,_,e=>e
 |.bool _,_,e=>e
 |.int _,_,e=>e
 |.str _,_,e=>e
 |.tup vs,x,q=>bH q fun a items e w hv=>⟨a,items,e,cW w fun o ho hc k=>⟨o,ht a o ho ⟨hc,_,k⟩,hc,k⟩,aC.keep hp ht vs _ hv⟩
 |.ref i,x,q=>am q fun l hl e=>⟨l,by
   obtain⟨t,rfl⟩:=hp
   rw[List.getElem?_append_left (List.getElem?_eq_some_iff.mp hl).1];exact hl,e⟩
theorem aC.keep {h h':Heap}{θ θ':Th}(hp:θ <+:θ')(ht:∀a o,h.get? a=some o→bP o→h'.get? a=some o):∀(vs:List AV) (xs:List Value),aC h θ vs xs→aC h' θ' vs xs
 | [],[],_=>trivial
 |v::vs,x::xs,⟨a,b⟩=>⟨VR.keep hp ht v x a,aC.keep hp ht vs xs b⟩
 | [],_::_,e=>e.elim
 |_::_,[],e=>e.elim
end
theorem aC.length {h:Heap}{θ:Th}:∀{vs:List AV} {xs:List Value},aC h θ vs xs→vs.length=xs.length
 | [],[],_=>rfl
 |_::_,_::_,⟨_,b⟩=>by rw[List.length_cons,List.length_cons,aC.length b]
 | [],_::_,e=>e.elim
 |_::_,[],e=>e.elim
theorem aC.get {h:Heap}{θ:Th}:∀{vs:List AV} {xs:List Value},aC h θ vs xs→∀{j:Nat} {v:AV},vs[j]?=some v→∃x,xs[j]?=some x∧VR h θ v x
 | [],[],_,j,v,e=>by simp at e
 |_::_,x::_,⟨a,b⟩,0,v,e=>by
  simp only[List.getElem?_cons_zero,Option.some.injEq]at e
  subst e
  exact⟨x,rfl,a⟩
 |_::_,_::_,⟨_,b⟩,j+1,v,e=>by
  simp only[List.getElem?_cons_succ]at e ⊢
  exact aC.get b e
 | [],_::_,e,_,_,_=>e.elim
 |_::_,[],e,_,_,_=>e.elim
theorem aC.append {h:Heap}{θ:Th}:∀{vs:List AV} {xs:List Value} {us:List AV} {ys:List Value},aC h θ vs xs→aC h θ us ys→aC h θ (vs++us) (xs++ys)
 | [],[],_,_,_,b=>b
 |_::_,_::_,_,_,⟨a,r⟩,b=>⟨a,aC.append r b⟩
 | [],_::_,_,_,e,_=>e.elim
 |_::_,[],_,_,e,_=>e.elim
theorem aC.set {h:Heap}{θ:Th}:∀{vs:List AV} {xs:List Value} {v:AV} {x:Value} (j:Nat),aC h θ vs xs→VR h θ v x→aC h θ (vs.set j v) (xs.set j x)
 | [],[],_,_,_,_,_=>trivial
 |_::_,_::_,_,_,0,⟨_,r⟩,b=>⟨b,r⟩
 |_::_,_::_,_,_,j+1,⟨a,r⟩,b=>⟨a,aC.set j r b⟩
 | [],_::_,_,_,_,e,_=>e.elim
 |_::_,[],_,_,_,e,_=>e.elim
theorem aC.take {h:Heap}{θ:Th}:∀{vs:List AV} {xs:List Value} (j:Nat),aC h θ vs xs→aC h θ (vs.take j) (xs.take j)
 | [],[],0,_=>trivial
 | [],[],_+1,_=>trivial
 |_::_,_::_,0,_=>trivial
 |_::_,_::_,j+1,⟨a,r⟩=>⟨a,aC.take j r⟩
 | [],_::_,_,e=>e.elim
 |_::_,[],_,e=>e.elim
theorem aC.drop {h:Heap}{θ:Th}:∀{vs:List AV} {xs:List Value} (j:Nat),aC h θ vs xs→aC h θ (vs.drop j) (xs.drop j)
 | [],[],0,_=>trivial
 | [],[],_+1,_=>trivial
 |_::_,_::_,0,e=>e
 |_::_,_::_,j+1,⟨_,r⟩=>aC.drop j r
 | [],_::_,_,e=>e.elim
 |_::_,[],_,e=>e.elim
theorem Pw.keep {K:Type}{KR:K→AV→Prop}{h h':Heap}{θ θ':Th}(hp:θ <+:θ')(ht:∀a o,h.get? a=some o→bP o→h'.get? a=some o):∀(l:List (K×Value)) (m:List (AV×AV)),Pw KR h θ l m→Pw KR h' θ' l m
 | [],[],_=>trivial
 |_::l,_::m,⟨a,b,c⟩=>⟨a,VR.keep hp ht _ _ b,Pw.keep hp ht l m c⟩
 | [],_::_,e=>e.elim
 |_::_,[],e=>e.elim
theorem bV.keep {K:Type}{KR:K→AV→Prop}{h h':Heap}{θ θ':Th}(hp:θ <+:θ')(ht:∀a o,h.get? a=some o→bP o→h'.get? a=some o):∀(l:List (K×Addr×Value)) (m:List (AV×AV)),bV KR h θ l m→bV KR h' θ' l m
 | [],[],_=>trivial
 |_::l,_::m,⟨a,b,c⟩=>⟨a,VR.keep hp ht _ _ b,bV.keep hp ht l m c⟩
 | [],_::_,e=>e.elim
 |_::_,[],e=>e.elim
theorem cK.keep {h h':Heap}{θ θ':Th}(hp:θ <+:θ')(ht:∀a o,h.get? a=some o→bP o→h'.get? a=some o):∀(l:List DictEntry) (m:List (Nat×AV)),cK h θ l m→cK h' θ' l m
 | [],[],_=>trivial
 |_::l,_::m,⟨a,b,c⟩=>⟨a,VR.keep hp ht _ _ b,cK.keep hp ht l m c⟩
 | [],_::_,e=>e.elim
 |_::_,[],e=>e.elim
theorem A4 {prog:Program}{w:World}{K:Type}[DecidableEq K]{knd:KeyKind prog w K}{h h':Heap}{a:Addr}{l:List (K×Value)}(x:h.DictOf knd a l)(e:h'.get? a=h.get? a):h'.DictOf knd a l:=
 jo x fun o es ep r=>⟨o,es,ep,e.trans r.1,r.2⟩
theorem Gd {prog:Program}{w:World}{K:Type}[DecidableEq K]{knd:KeyKind prog w K}{h h':Heap}{a:Addr}{l:List (List K×Addr×Value)}(x:h.DictOfH (tupleKind knd) a l)(e:h'.get? a=h.get? a)
  (ht:∀a o,h.get? a=some o→bP o→h'.get? a=some o):h'.DictOfH (tupleKind knd) a l:=
 jo x fun o es ep r=>⟨o,es,ep,e.trans r.1,r.2.1,r.2.2.1,r.2.2.2.1,fun y hy=>jp (r.2.2.2.2.1 y hy) fun o' it n q1 q2 q3=>⟨o',it,n,ht _ _ q1 ⟨q2,_,_,q3.1⟩,q2,q3⟩,r.2.2.2.2.2⟩
section
variable {W:Wd}
theorem DR.keep {h h':Heap}{θ θ':Th}{a:Addr}{kvs:List (AV×AV)}(x:DR W h θ a kvs)(hp:θ <+:θ')(ht:∀a o,h.get? a=some o→bP o→h'.get? a=some o)(e:h'.get? a=h.get? a):DR W h' θ' a kvs:=by
 rcases x with⟨l,x,y⟩ | ⟨l,x,y⟩ | ⟨l,x,y⟩ | ⟨l,x,y⟩
 ·exact .inl ⟨l,A4 x e,Pw.keep hp ht _ _ y⟩
 ·exact .inr (.inl ⟨l,A4 x e,Pw.keep hp ht _ _ y⟩)
 ·exact .inr (.inr (.inl ⟨l,Gd x e ht,bV.keep hp ht _ _ y⟩))
 ·exact .inr (.inr (.inr ⟨l,Gd x e ht,bV.keep hp ht _ _ y⟩))
theorem OR.keep {h h':Heap}{θ θ':Th}{l:Addr×Addr}{o:ae}(x:OR W h θ l o)(hp:θ <+:θ')(ht:∀a o,h.get? a=some o→bP o→h'.get? a=some o)
  (e1:h'.get? l.1=h.get? l.1)(e2:h'.get? l.2=h.get? l.2):OR W h' θ' l o:=by
 refine ah fun aa=>?_
 cases o with
 |list vs=>
  obtain⟨e,items,⟨n,ho⟩,hv,hl⟩:=x
  exact aa (⟨e,items,⟨n,e1.trans ho⟩,aC.keep hp ht _ _ hv,hl⟩)
 |dict kvs=>refine aa ?_;exact⟨x.1,x.2.keep hp ht e1⟩
 |ext vs=>
  obtain⟨e,items,⟨o,ho,r⟩,hv,hl⟩:=x
  exact aa (⟨e,items,⟨o,e1.trans ho,r⟩,aC.keep hp ht _ _ hv,hl⟩)
 |inst c fs=>
  obtain⟨aY,C,hC,h1,es,n,h2,hf,hz,ch⟩:=x
  exact aa (⟨aY,C,hC,e1.trans h1,es,n,e2.trans h2,cK.keep hp ht _ _ hf,hz,ch⟩)
theorem aq.step {θ:Th}{σ:St}{h h':Heap}(R:aq W θ σ h)(k:∀a o,h.get? a=some o→h'.get? a=some o):aq W θ σ h':=by
 refine⟨fun a o e=>k a o (R.base a o e),R.len,fun i o l hs hl=>?_,R.fresh,R.apart⟩
 have x:=R.objs i o l hs hl
 obtain⟨o1,e1,_⟩:=x.cls l.1 (.inl rfl)
 obtain⟨o2,e2,_⟩:=x.cls l.2 (.inr rfl)
 exact x.keep (List.prefix_refl _) (fun a o e _=>k a o e) ((k _ _ e1).trans e1.symm) ((k _ _ e2).trans e2.symm)
theorem aq.turn {θ:Th}{σ:St}{h h':Heap}(R:aq W θ σ h){i:Nat}{l:Addr×Addr}{o₀ o':ae}(hi:σ[i]?=some o₀)(yf:o₀.live=true)(hl:θ[i]?=some l){a:Addr}(ha:a=l.1∨a=l.2)(hs:Heap.SameBut a h h')
  (x:OR W h' θ l o'):aq W θ (σ.set i o') h':=by
 have yj:own θ a:=⟨l,List.mem_of_getElem? hl,ha⟩
 refine am (R.notTuple yj) fun oa CO Ch=>?_
 have ht:∀b o,h.get? b=some o→bP o→h'.get? b=some o:=fun b o e hc=>by
  rw[hs.2 b ?_];exact e
  rintro rfl
  rw[CO]at e
  refine aR e ?_
  clear e
  rintro rfl
  exact Ch hc.1
 refine⟨fun b o e=>?_,by rw[List.length_set];exact R.len,fun j o m hj hm=>?_,fun j o m hj hm hv=>?_,R.apart⟩
 ·rw[hs.2 b ?_];exact R.base b o e
  rintro rfl
  obtain h2:=R.fresh i _ l hi hl yf
  rcases ha with q |q<;>rw[q]at e<;>first | (rw[h2.1]at e;cases e;done) | (rw[h2.2]at e;cases e)
 ·refine ah fun aa=>?_
  by_cases eG:i=j
  ·subst eG
   have:o=o':=by
    rw[List.getElem?_set_self (by rw[←R.len];exact(List.getElem?_eq_some_iff.mp hl).1)]at hj
    exact(Option.some.inj hj).symm
   subst this
   rw[hl]at hm
   refine aR hm ?_
   clear hm
   rintro rfl
   exact aa x
  ·rw[List.getElem?_set_ne eG]at hj
   obtain y:=R.objs j o m hj hm
   obtain x8:=R.apart i j l m hl hm eG
   refine aa ?_
   refine y.keep (List.prefix_refl _) ht (hs.2 _ ?_) (hs.2 _ ?_)
   ·rcases ha with q |q<;>rw[q]<;>first |exact Ne.symm x8.1 |exact Ne.symm x8.2.2.1
   ·rcases ha with q |q<;>rw[q]<;>first |exact Ne.symm x8.2.1 |exact Ne.symm x8.2.2.2
 ·by_cases eG:i=j
  ·subst eG
   exact R.fresh i _ m hi hm yf
  ·rw[List.getElem?_set_ne eG]at hj
   exact R.fresh j o m hj hm hv
theorem aq.add {θ:Th}{σ:St}{h h':Heap}(R:aq W θ σ h)(k:∀a o,h.get? a=some o→h'.get? a=some o){l:Addr×Addr}{o:ae}(h1:h.get? l.1=none)(h2:h.get? l.2=none)
  (x:OR W h' (θ++[l]) l o):aq W (θ++[l]) (σ++[o]) h':=by
 have R':=R.step k
 obtain ne:∀{a b:Addr},own θ a→h.get? b=none→a≠b:=fun{a b} ho hb e=>by
  refine am (R.notTuple ho) fun o e' _=>?_
  rw[e,hb]at e';exact aK e'
 obtain bd:∀{a:Addr},h.get? a=none→W.hB.get? a=none:=fun e=>jC (fun a o e=>⟨o,R.base a o e⟩) e
 refine⟨R'.base,by simp[R.len],fun i o' m hi hm=>?_,fun i o' m hi hm hv=>?_,fun i j m n hm hn eG=>?_⟩
 ·refine ah fun aa=>?_
  by_cases q:i<θ.length
  ·rw[List.getElem?_append_left (R.len▸q)]at hi
   rw[List.getElem?_append_left q]at hm
   exact aa ((R'.objs i o' m hi hm).keep (List.prefix_append ..) (fun _ _ e _=>e) rfl rfl)
  ·have e:i=θ.length:=by
    have:=(List.getElem?_eq_some_iff.mp hm).1
    simp at this
    lia
   subst e
   simp at hm
   rw[R.len]at hi
   simp at hi
   subst hm hi
   exact aa x
 ·by_cases q:i<θ.length
  ·rw[List.getElem?_append_left (R.len▸q)]at hi
   rw[List.getElem?_append_left q]at hm
   exact R.fresh i o' m hi hm hv
  ·have e:i=θ.length:=by
    have:=(List.getElem?_eq_some_iff.mp hm).1
    simp at this
    lia
   subst e
   simp at hm
   subst hm
   exact⟨bd h1,bd h2⟩
 ·by_cases q:i<θ.length<;>by_cases r:j<θ.length
  ·rw[List.getElem?_append_left q]at hm
   rw[List.getElem?_append_left r]at hn
   exact R.apart i j m n hm hn eG
  ·rw[List.getElem?_append_left q]at hm
   have e:j=θ.length:=by
    have:=(List.getElem?_eq_some_iff.mp hn).1
    simp at this
    lia
   subst e
   simp at hn
   subst hn
   obtain o1:own θ m.1:=⟨m,List.mem_of_getElem? hm,.inl rfl⟩
   obtain o2:own θ m.2:=⟨m,List.mem_of_getElem? hm,.inr rfl⟩
   exact⟨ne o1 h1,ne o1 h2,ne o2 h1,ne o2 h2⟩
  ·rw[List.getElem?_append_left r]at hn
   have e:i=θ.length:=by
    have:=(List.getElem?_eq_some_iff.mp hm).1
    simp at this
    lia
   subst e
   simp at hm
   subst hm
   obtain o1:own θ n.1:=⟨n,List.mem_of_getElem? hn,.inl rfl⟩
   obtain o2:own θ n.2:=⟨n,List.mem_of_getElem? hn,.inr rfl⟩
   exact⟨(ne o1 h1).symm,(ne o2 h1).symm,(ne o1 h2).symm,(ne o2 h2).symm⟩
  ·have e:i=θ.length:=by
    have:=(List.getElem?_eq_some_iff.mp hm).1
    simp at this
    lia
   have e':j=θ.length:=by
    have:=(List.getElem?_eq_some_iff.mp hn).1
    simp at this
    lia
   lia
theorem aq.tup {θ θ':Th}{σ:St}{s s':Shared}{X:Addr→Prop}(R:aq W θ σ s.heap)(x:aB X θ s θ' s')(hX:∀a o,s.heap.get? a=some o→bP o→¬X a):
  ∀a o,s.heap.get? a=some o→bP o→s'.heap.get? a=some o:=fun a o e hc=>
 x.keep a o e (fun q=>by obtain⟨o',e',hn⟩:=R.notTuple q;rw[e]at e';cases e';exact hn hc.1) (hX a o e hc)
theorem aq.other {θ:Th}{σ:St}{h h':Heap}(R:aq W θ σ h){a:Addr}(hs:Heap.SameBut a h h')(ho:¬own θ a)(hb:W.hB.get? a=none)(ht:∀o,h.get? a=some o→¬bP o):aq W θ σ h':=by
 refine⟨fun b o e=>?_,R.len,fun i o l cB hl=>?_,R.fresh,R.apart⟩
 ·rw[hs.2 b ?_];exact R.base b o e
  rintro rfl
  rw[e]at hb;exact WN hb
 ·obtain hm:=List.mem_of_getElem? hl
  refine(R.objs i o l cB hl).keep (List.prefix_refl _) (fun b o e hc=>?_) (hs.2 _ ?_) (hs.2 _ ?_)
  ·rw[hs.2 b ?_];exact e
   intro e08
   clear hb hs
   subst e08
   exact ht _ e hc
  ·intro q;exact ho ⟨l,hm,.inl q.symm⟩
  ·intro q;exact ho ⟨l,hm,.inr q.symm⟩
theorem VR.aft {θ θ':Th}{σ:St}{s s':Shared}{v:AV}{x:Value}(h:VR s.heap θ v x)(R:aq W θ σ s.heap)(y:aB bZ θ s θ' s'):VR s'.heap θ' v x:=
 h.keep y.pre (R.tup y fun _ _ _ _ q=>q)
theorem aC.aft {θ θ':Th}{σ:St}{s s':Shared}{v:List AV}{x:List Value}(h:aC s.heap θ v x)(R:aq W θ σ s.heap)(y:aB bZ θ s θ' s'):aC s'.heap θ' v x:=
 h.keep y.pre (R.tup y fun _ _ _ _ q=>q)
end
end
theorem gA {x:Str}{i:Nat}(h:aN x=some i):bf[i]?=some x:=by
 unfold aN at h
 refine ah fun aa=>?_
 split at h
 ·split at h
  ·split at h
   ·rename_i y hy _ he
    refine aR h ?_
    clear h
    rintro rfl
    refine aa ?_
    refine(hy).symm▸?_
    obtain⟨⟨y⟩⟩:=y
    obtain⟨⟨x⟩⟩:=x
    have:=BH he
    simp only at this
    exact(this).symm▸rfl
   ·exact aK h
  ·exact aK h
 ·exact aK h
theorem mf {x y:Str}{i:Nat}(h:aN x=some i)(h':aN y=some i):x=y:=by
 have a:=gA h
 rw[gA h']at a
 exact(Option.some.inj a).symm
structure FR (W:Wd)(env:Env)(ρ:ag)(θ:Th)(h:Heap):Prop where
 kind:env.scope.kind=.function
 glob:env.globals=mainGlobals
 blt:env.builtins=builtinsNs
 ns:∃m,h.Ns env.locals m∧∀x i av,aN x=some i→env.kindOf x=some .local→ρ i=some av→∃v,m x=some v∧VR h θ av v
 cell:∀x i c av,aN x=some i→env.cells.lookup x=some c→ρ i=some av→(env.kindOf x=some .cell∨env.kindOf x=some .free)→∃v,h.IsCell c (some v)∧VR h θ av v
 cells:∀x,(env.kindOf x=some .cell∨env.kindOf x=some .free)→∃c,env.cells.lookup x=some c
 isc:∀x c,env.cells.lookup x=some c→∃ov,h.IsCell c ov
 apL:¬own θ env.locals
 apC:∀x c,env.cells.lookup x=some c→¬own θ c∧c≠env.locals
 uni:∀x y c,env.cells.lookup x=some c→env.cells.lookup y=some c→x=y
 lowL:W.hB.get? env.locals=none
 lowC:∀x c,env.cells.lookup x=some c→W.hB.get? c=none
noncomputable def cH (env:Env)(a:Addr):Prop:=a=env.locals∨∃x,env.cells.lookup x=some a
structure cF (sc:Scope)(env:Env):Prop where
 loc:∀x,sc.names.lookup x=some .local→env.kindOf x=some .local
 cel:∀x,sc.names.lookup x=some .cell→env.kindOf x=some .cell
 fre:∀x,sc.names.lookup x=some .free→env.kindOf x=some .cell∨env.kindOf x=some .free
 glo:∀x,sc.names.lookup x=some .globalImplicit→env.kindOf x=some .globalImplicit
theorem cF.var {sc:Scope}{env:Env}(h:cF sc env){x:Str}(hx:dw sc x=true):env.kindOf x=some .local∨(env.kindOf x=some .cell∨env.kindOf x=some .free):=by
 unfold dw at hx
 refine ah fun aa=>?_
 split at hx
 ·exact aa (.inl (h.loc _ (by assumption)))
 ·exact aa (.inr (.inl (h.cel _ (by assumption))))
 ·exact aa (.inr (h.fre _ (by assumption)))
 ·exact cz hx
theorem cF.glob {sc:Scope}{env:Env}(h:cF sc env){x:Str}(hx:ei sc x=true):env.kindOf x=some .globalImplicit:=h.glo x (eq_of_beq hx)
section
variable {W:Wd}{env:Env}{ρ:ag}{θ θ':Th}{σ:St}{s s':Shared}
theorem FR.notTup {h:Heap}(F:FR W env ρ θ h){a:Addr}(ha:cH env a){o:Obj}(e:h.get? a=some o):¬bP o:=by
 rintro⟨_,it,n,hd⟩
 rcases ha with rfl | ⟨x,hx⟩
 ·refine am F.ns fun m e19 _=>?_
  refine jp e19 fun o' es ep ho eE _=>?_
  rw[ho]at e
  refine aR e ?_
  clear e
  rintro rfl
  rw[hd]at eE
  cases eE
 ·refine eX (F.isc x a hx) fun ov o' ho eE=>?_
  rw[ho]at e
  refine aR e ?_
  clear e
  rintro rfl
  rw[hd]at eE
  cases eE
theorem FR.notOwn {h:Heap}(F:FR W env ρ θ h){a:Addr}(ha:cH env a):¬own θ a:=by
 rcases ha with rfl | ⟨x,hx⟩
 ·exact F.apL
 ·exact(F.apC x a hx).1
theorem FR.live {h:Heap}(F:FR W env ρ θ h){a:Addr}(ha:cH env a):∃o,h.get? a=some o:=by
 rcases ha with rfl | ⟨x,hx⟩
 ·refine ah fun aa=>?_
  refine am F.ns fun m e19 _=>?_
  refine ir e19 fun o _ _ ho _=>?_
  exact aa (⟨o,ho⟩)
 ·refine eX (F.isc x a hx) fun ov o ho _=>?_
  exact⟨o,ho⟩
theorem FR.aft (F:FR W env ρ θ s.heap)(R:aq W θ σ s.heap){X:Addr→Prop}(x:aB X θ s θ' s')(hX:∀a,X a→s.heap.get? a=none):FR W env ρ θ' s'.heap:=by
 have x':aB bZ θ s θ' s':=x.above fun a h=>.inl (hX a h)
 have kp:∀a o,cH env a→s.heap.get? a=some o→s'.heap.get? a=some o:=fun a o ha e=>x'.keep a o e (F.notOwn ha) (fun q=>q)
 have no:∀a,cH env a→¬own θ' a:=fun a ha q=>F.notOwn ha (let⟨_,e⟩:=F.live ha;x'.own_old e q)
 refine⟨F.kind,F.glob,F.blt,?_,?_,F.cells,?_,no _ (.inl rfl),fun y c hc=>⟨no _ (.inr ⟨y,hc⟩),(F.apC y c hc).2⟩,F.uni,F.lowL,F.lowC⟩
 ·refine ah fun aa=>?_
  refine am F.ns fun m e19 hv=>?_
  refine ir e19 fun o es ep ho r=>?_
  refine aa ?_
  exact⟨m,⟨o,es,ep,kp _ _ (.inl rfl) ho,r⟩,fun y i av h1 h2 h3=>by
   refine am (hv y i av h1 h2 h3) fun v a b=>?_
   exact⟨v,a,b.aft R x'⟩⟩
 ·intro y i c av h1 h2 h3 h4
  refine ah fun aa=>?_
  refine am (F.cell y i c av h1 h2 h3 h4) fun v e19 b=>?_
  refine am e19 fun o ho hd=>?_
  exact aa (⟨v,⟨o,kp _ _ (.inr ⟨y,h2⟩) ho,hd⟩,b.aft R x'⟩)
 ·intro y c hc
  refine ah fun aa=>?_
  refine eX (F.isc y c hc) fun ov o ho hd=>?_
  exact aa (⟨ov,o,kp _ _ (.inr ⟨y,hc⟩) ho,hd⟩)
theorem pV {x:Str}{i:Nat}(h:aN x=some i):(x==("__debug__":Str))=false:=by
 cases q:x==("__debug__":Str)with
 |false=>rfl
 |true=>
  rw[eq_of_beq q]at h
  have:aN ("__debug__":Str)=none:=by decide+kernel
  rw[this]at h
  cases h
theorem Ip {x:Str}{i:Nat}(h:aN x=some i):(x==("__classdict__":Str))=false:=by
 cases q:x==("__classdict__":Str)with
 |false=>rfl
 |true=>
  rw[eq_of_beq q]at h
  have:aN ("__classdict__":Str)=none:=by decide+kernel
  rw[this]at h
  cases h
variable {M:Model}{A:Around}{E:Value→Shared→Prop}{Q:Value→Shared→Prop}
theorem Mm (F:FR W env ρ θ s.heap){x:Str}{i:Nat}{av:AV}{pos:Pos}(hk:env.kindOf x=some .local∨(env.kindOf x=some .cell∨env.kindOf x=some .free))(hi:aN x=some i)(hv:ρ i=some av)
  (h:∀v,VR s.heap θ av v→Q v s):wpAny M A (eval (.Name x pos) env) Q E s:=by
 refine wpAny_Name ?_ (pV hi)
 refine ah fun aa=>?_
 rcases hk with hk |hk
 ·refine am F.ns fun m hn hm=>?_
  refine am (hm x i av hi hk hv) fun v a b=>?_
  exact aa (wpAny_loadName_local F.kind hk hn a (h v b))
 ·obtain⟨c,hc⟩:=F.cells x hk
  refine am (F.cell x i c av hi hc hv hk) fun v a b=>?_
  rcases hk with hk |hk
  ·exact aa (wpAny_loadName_cell F.kind hk hc a (h v b))
  ·exact aa (wpAny_loadName_free F.kind hk hc a (h v b) (Ip hi))
theorem xo {h':Heap}{a:Addr}{tk:Nat}{θ:Th}(hs:Heap.SameBut a s.heap h')(hl:∃o,h'.get? a=some o):aB (fun b=>b=a) θ s θ {s with heap:=h',toks:=tk}:=
 ⟨List.prefix_refl _,fun _ h=>.inl h,fun b o e _ hx=>(hs.2 b hx).trans e,fun b o e=>by
  by_cases q:b=a
  ·rw[q];exact hl
  ·exact⟨o,(hs.2 b q).trans e⟩,rfl,rfl⟩
theorem tH {Q:Unit→Shared→Prop}(F:FR W env ρ θ s.heap)(R:aq W θ σ s.heap){x:Str}{i:Nat}{av:AV}{v:Value}(hk:env.kindOf x=some .local∨(env.kindOf x=some .cell∨env.kindOf x=some .free))(hi:aN x=some i)
  (hv:VR s.heap θ av v)(h:∀s',FR W env (aF ρ i av) θ s'.heap→aq W θ σ s'.heap→aB (cH env) θ s θ s'→VR s'.heap θ av v→(∀u y,VR s.heap θ u y→VR s'.heap θ u y)→Q () s'):wpAny M A (storeName env x v) Q E s:=by
 obtain tup:∀{a:Addr} {h':Heap},cH env a→Heap.SameBut a s.heap h'→∀b o,s.heap.get? b=some o→bP o→h'.get? b=some o:=fun{a h'} ha hs b o e ht=>by
  rw[hs.2 b ?_];exact e
  rintro rfl
  exact F.notTup ha e ht
 rcases hk with hk |hk
 ·obtain⟨m,hn,hm⟩:=F.ns
  refine wpAny_storeName_local hk hn (fun h' hM hs=>?_) (by rw[F.kind];rfl)
  have T:=tup (.inl rfl) hs
  have up:∀u y,VR s.heap θ u y→VR h' θ u y:=fun u y z=>z.keep (List.prefix_refl _) T
  refine h _ ⟨F.kind,F.glob,F.blt,⟨_,hM,fun y j au h1 h2 h3=>?_⟩,fun y j c au h1 h2 h3 h4=>?_,F.cells,fun y c hc=>?_,F.apL,F.apC,F.uni,F.lowL,F.lowC⟩
   (R.other hs F.apL F.lowL fun o e=>F.notTup (.inl rfl) e) ((xo hs (let⟨o,_,_,ho,_⟩:=hM;⟨o,ho⟩)).mono fun a e=>.inl e) (up _ _ hv) up
  ·refine ah fun aa=>?_
   by_cases hy:y=x
   ·subst hy
    rw[hi]at h1
    refine aR h1 ?_
    clear h1
    rintro rfl
    simp only[cN,if_true,Option.some.injEq]at h3
    subst h3
    exact aa (⟨v,by simp,up _ _ hv⟩)
   ·have hj:j≠i:=by rintro rfl;exact hy (mf h1 hi)
    simp only[cN,hj,if_false]at h3
    refine am (hm y j au h1 h2 h3) fun u a b=>?_
    exact aa (⟨u,by simp[hy,a],up _ _ b⟩)
  ·obtain hj:j≠i:=by
    rintro rfl
    rw[mf h1 hi,hk]at h4
    rcases h4 with q |q<;>cases q
   simp only[cN,hj,if_false]at h3
   refine ah fun aa=>?_
   refine am (F.cell y j c au h1 h2 h3 h4) fun u a b=>?_
   exact aa (⟨u,a.sameBut hs (F.apC y c h2).2,up _ _ b⟩)
  ·refine ah fun aa=>?_
   obtain⟨ov,a⟩:=F.isc y c hc
   exact aa (⟨ov,a.sameBut hs (F.apC y c hc).2⟩)
 ·obtain⟨c,hc⟩:=F.cells x hk
  obtain⟨ov,lZ⟩:=F.isc x c hc
  have goal:∀h',h'.IsCell c (some v)→Heap.SameBut c s.heap h'→Q () {s with heap:=h'}:=fun h' hM hs=>by
   have T:=tup (.inr ⟨x,hc⟩) hs
   have up:∀u y,VR s.heap θ u y→VR h' θ u y:=fun u y z=>z.keep (List.prefix_refl _) T
   refine h _ ⟨F.kind,F.glob,F.blt,?_,fun y j d au h1 h2 h3 h4=>?_,F.cells,fun y d hd=>?_,F.apL,F.apC,F.uni,F.lowL,F.lowC⟩
    (R.other hs (F.apC x c hc).1 (F.lowC x c hc) fun o e=>F.notTup (.inr ⟨x,hc⟩) e) ((xo (tk:=s.toks) hs (let⟨o,ho,_⟩:=hM;⟨o,ho⟩)).mono fun a e=>.inr ⟨x,by rw[e];exact hc⟩) (up _ _ hv) up
   ·refine am F.ns fun m hn hm=>?_
    refine⟨m,hn.sameBut hs (Ne.symm (F.apC x c hc).2),fun y j au h1 h2 h3=>?_⟩
    obtain hj:j≠i:=by
     rintro rfl
     rw[mf h1 hi]at h2
     rw[h2]at hk
     rcases hk with q |q<;>cases q
    simp only[cN,hj,if_false]at h3
    refine am (hm y j au h1 h2 h3) fun u a b=>?_
    exact⟨u,a,up _ _ b⟩
   ·by_cases hy:y=x
    ·subst hy
     rw[hc]at h2
     refine aR h2 ?_
     clear h2
     rintro rfl
     rw[hi]at h1
     refine ah fun aa=>?_
     refine aR h1 ?_
     clear h1
     rintro rfl
     simp only[cN,if_true,Option.some.injEq]at h3
     subst h3
     exact aa (⟨v,hM,up _ _ hv⟩)
    ·obtain hj:j≠i:=by rintro rfl;exact hy (mf h1 hi)
     simp only[cN,hj,if_false]at h3
     refine am (F.cell y j d au h1 h2 h3 h4) fun u a b=>?_
     refine⟨u,a.sameBut hs ?_,up _ _ b⟩
     rintro rfl
     exact hy (F.uni y x d h2 hc)
   ·by_cases hy:d=c
    ·subst hy
     exact⟨_,hM⟩
    ·obtain⟨o',a⟩:=F.isc y d hd
     exact⟨o',a.sameBut hs hy⟩
  rcases hk with hk |hk
  ·exact wpAny_storeName_cell F.kind hk hc lZ goal
  ·unfold storeName
   simp only[hk]
   obtain e1:(if(some NameKind.free==some NameKind.globalImplicit&&env.blockKind !=.function)=true then none else some NameKind.free)=some NameKind.free:=by rfl
   simp only[e1,F.kind]
   exact wpAny_bind (wpAny_cellOf hc (wpAny_cellSet lZ goal))
theorem Ml (F:FR W env ρ θ s.heap){mg:Str→Option Value}{x:Str}{i:Nat}{v:Value}{pos:Pos}(hk:env.kindOf x=some .globalImplicit)(hi:aN x=some i)(hg:s.heap.Ns mainGlobals mg)(hv:mg x=some v)(h:Q v s):
  wpAny M A (eval (.Name x pos) env) Q E s:=by
 refine wpAny_Name (ks_loadName_global F.kind hk ?_) (pV hi)
 unfold loadGlobal
 rw[F.glob]
 refine wpAny_bind (wpAny_nsGet hg ?_)
 refine(hv).symm▸?_
 exact wpAny_pure h
theorem FA (F:FR W env ρ θ s.heap){mg mb:Str→Option Value}{x:Str}{i:Nat}{v:Value}{pos:Pos}(hk:env.kindOf x=some .globalImplicit)(hi:aN x=some i)(hg:s.heap.Ns mainGlobals mg)(ma:mg x=none)
  (hb:s.heap.Ns builtinsNs mb)(hv:mb x=some v)(h:Q v s):wpAny M A (eval (.Name x pos) env) Q E s:=by
 refine wpAny_Name (ks_loadName_global F.kind hk ?_) (pV hi)
 unfold loadGlobal
 refine(F.glob).symm▸?_
 refine(F.blt).symm▸?_
 refine wpAny_bind (wpAny_nsGet hg ?_)
 refine(ma).symm▸?_
 refine wpAny_bind (wpAny_nsGet hb ?_)
 refine(hv).symm▸?_
 exact wpAny_pure h
end
section
open PySem
noncomputable def tX (x:Str):Nat:=(x.cps.toList.foldl (fun(p:Nat×Nat) c=>(p.1 / 128,p.2+c*p.1)) (128 ^ 29,0)).2
noncomputable def yu:List Nat→Bool
 |a::b::l=>Nat.blt a b&&yu (b::l)
 |_=>true
theorem MV:yu (bf.map tX)=true:=by decide+kernel
theorem Dl:∀(l:List Nat),yu l=true→∀(i j:Nat) (a b:Nat),i<j→l[i]?=some a→l[j]?=some b→a<b
 | [],_,i,j,a,b,_,h,_=>by simp at h
 | [x],_,i,j,a,b,eG,_,h=>by
  have:j=0:=by
   rcases j with _ |j
   ·rfl
   ·simp at h
  lia
 |x::y::l,h,i,j,a,b,eG,hi,hj=>by
  simp only[yu,Bool.and_eq_true]at h
  have h1:x<y:=Nat.le_of_ble_eq_true h.1
  have ih:=Dl (y::l) h.2
  rcases j with _ |j
  ·lia
  ·simp only[List.getElem?_cons_succ]at hj
   rcases i with _ |i
   ·simp only[List.getElem?_cons_zero,Option.some.injEq]at hi
    subst hi
    rcases j with _ |j
    ·simp only[List.getElem?_cons_zero,Option.some.injEq]at hj
     lia
    ·have:=ih 0 (j+1) y b (by lia) rfl hj
     lia
   ·simp only[List.getElem?_cons_succ]at hi
    exact ih i j a b (by lia) hi hj
theorem xg {i j:Nat}{x:Str}(hi:bf[i]?=some x)(hj:bf[j]?=some x):i=j:=by
 have a:(bf.map tX)[i]?=some (tX x):=by rw[List.getElem?_map,hi];rfl
 have b:(bf.map tX)[j]?=some (tX x):=by rw[List.getElem?_map,hj];rfl
 rcases Nat.lt_trichotomy i j with q |q |q
 ·exact absurd (Dl _ MV i j _ _ q a b) (Nat.lt_irrefl _)
 ·exact q
 ·exact absurd (Dl _ MV j i _ _ q b a) (Nat.lt_irrefl _)
open PySem.W PySem.Calls PyProof.Rows
structure bp (A:Around)(d:Nat):Prop where
 h:A.handled=none
 dep:A.depth+4*d+4<990
 un:A.units+40*d+200<9900
theorem bp.in1 {A:Around}{d:Nat}(a:bp A d):A.in1.units+100<cLine:=by have:=a.un;show A.units+1+100<9900;lia
theorem bp.unit {A:Around}{d:Nat}(a:bp A d):A.units+100<cLine:=by have:=a.un;show A.units+100<9900;lia
theorem f8 {α:Type}{o:Option α}{f:α→Bool}(h:eU o f=true):∃a,o=some a∧f a=true:=by
 cases o with
 |none=>exact cz h
 |some a=>exact⟨a,rfl,h⟩
theorem cy {v:AV}{i:Int}(h:bz v=some i):v=.int i:=by
 cases v<;>first |exact aK h |exact congrArg _ (Option.some.inj h)
theorem pQ {v:AV}{i:Bool}(h:jx v=some i):v=.bool i:=by
 cases v<;>first |exact aK h |exact congrArg _ (Option.some.inj h)
theorem Bk {v:AV}{i:Nat}(h:tT v=some i):v=.str i:=by
 cases v<;>first |exact aK h |exact congrArg _ (Option.some.inj h)
theorem eZ {v:AV}{i:Nat}(h:dE v=some i):v=.ref i:=by
 cases v<;>first |exact aK h |exact congrArg _ (Option.some.inj h)
theorem fQ {v:AV}{l:List AV}(h:dp v=some l):v=.tup l:=by
 cases v<;>first |exact aK h |exact congrArg _ (Option.some.inj h)
theorem uF {v:AV}(h:gB v=true):v=.none:=by
 cases v<;>first |exact cz h |rfl
theorem gP {o:ae}{l:List AV}(h:bX o=some l):o=.list l:=by
 cases o<;>first |exact aK h |exact congrArg _ (Option.some.inj h)
theorem HE {o:ae}{l:List AV}(h:Bn o=some l):o=.ext l:=by
 cases o<;>first |exact aK h |exact congrArg _ (Option.some.inj h)
theorem jy {o:ae}{l:List (AV×AV)}(h:fz o=some l):o=.dict l:=by
 cases o<;>first |exact aK h |exact congrArg _ (Option.some.inj h)
theorem b7 {α:Type}{b:Bool}{x:Option α}{r:α}(h:gO b x=some r):b=true∧x=some r:=by
 cases b with
 |true=>exact⟨rfl,h⟩
 |false=>exact aK h
theorem hY {σ:St}{v:AV}{l:List AV}(h:fg σ v=some l):∃r,v=.ref r∧σ[r]?=some (.list l):=by
 obtain⟨r,h1,h⟩:=a5 h
 obtain⟨o,h2,h⟩:=a5 h
 exact⟨r,eZ h1,h2.trans (congrArg some (gP h))⟩
theorem xC {α:Type}{b:Bool}{x:α}{a:α}(h:(bif b then some x else none)=some a):b=true∧x=a:=by
 cases b with
 |true=>exact⟨rfl,Option.some.inj h⟩
 |false=>exact aK h
theorem IU {f:AV→AV→Option Bool}{a:AV}{x l:List AV}{r:Bool}(h:eA f (a::x) l=some r):∃b y p q,l=b::y∧f a b=some p∧eA f x y=some q∧r=(p&&q):=by
 cases l with
 |nil=>exact aK h
 |cons b y=>
  obtain⟨p,h1,h⟩:=a5 (show(f a b).bind (fun p=>(eA f x y).map (p&&·))=some r from h)
  obtain⟨q,h2,rfl⟩:=bY h
  exact⟨b,y,p,q,rfl,h1,h2,rfl⟩
theorem IV {f:AV→AV→Option Bool}{l:List AV}{r:Bool}(h:eA f [] l=some r):l=[]∧r=true:=by
 cases l with
 |nil=>exact⟨rfl,(Option.some.inj h).symm⟩
 |cons b y=>exact aK h
theorem PI {f:AV→AV→Option Bool}{xs:List AV}:∀{ys:List AV} {r:Bool},eA f xs ys=some r→
  xs.length=ys.length∧(∀(j:Nat) (a b:AV),xs[j]?=some a→ys[j]?=some b→∃q,f a b=some q)∧(List.range xs.length).all (fun j=>(f (xs.getD j .none) (ys.getD j .none)).getD false)=r:=by
 induction xs with
 |nil=>
  intro ys r h
  obtain⟨rfl,rfl⟩:=IV h
  exact⟨rfl,fun j a b h=>aK h,rfl⟩
 |cons a x ih=>
  intro ys r h
  obtain⟨b,y,p,q,rfl,h1,h2,rfl⟩:=IU h
  obtain⟨i1,i2,i3⟩:=ih h2
  refine⟨congrArg (· +1) i1,fun j c d hc hd=>?_,?_⟩
  ·cases j with
   |zero=>exact⟨p,Option.some.inj hc▸Option.some.inj hd▸h1⟩
   |succ j=>exact i2 j c d hc hd
  ·rw[List.length_cons,List.range_succ_eq_map,List.all_cons,List.all_map,←i3]
   exact congrArg (fun o=>Option.getD o false&&_) h1
section
variable {W:Wd}{θ:Th}{σ:St}{s:Shared}{A:Around}
open PySem.SeqAt
theorem FS {a b:Nat}{x y:Str}(ha:bf[a]?=some x)(hb:bf[b]?=some y):(x==y)=(a==b):=by
 by_cases h:a=b
 ·subst h
  rw[ha]at hb
  refine aR hb ?_
  clear hb
  rintro rfl
  simp
 ·have:x≠y:=by rintro rfl;exact h (xg ha hb)
  refine(beq_eq_false_iff_ne.mpr h).symm▸?_
  exact(beq_eq_false_iff_ne.mpr this).symm▸rfl
theorem IO {h:Heap}{a b:AV}{x y:Value}{r:Bool}(hx:VR h θ a x)(hy:VR h θ b y)(e:jF a b=some r):EqAt A s x y r∧RcAt A s x y r∧RcNeAt A s x y (!r):=by
 cases a with
 |none=>
  obtain⟨e1,rfl⟩:=xC e
  cases uF e1
  cases hx;cases hy
  exact⟨.same _,.none_none,.none_none⟩
 |bool i=>
  obtain⟨j,e1,rfl⟩:=bY e
  cases pQ e1
  cases hx;cases hy
  exact⟨.bool_bool _ _,.bool_bool _ _,.bool_bool _ _⟩
 |int i=>
  obtain⟨j,e1,rfl⟩:=bY e
  cases cy e1
  obtain⟨t,rfl⟩:=hx
  obtain⟨u,rfl⟩:=hy
  exact⟨.int_int _ _ _ _,.int_int _ _ _ _,.int_int _ _ _ _⟩
 |str i=>
  obtain⟨j,e1,rfl⟩:=bY e
  cases Bk e1
  obtain⟨p,t,h1,rfl⟩:=hx
  obtain⟨q,u,h2,rfl⟩:=hy
  rw[←FS h1 h2]
  exact⟨.str_str _ _ _ _,.str_str _ _ _ _,.str_str _ _ _ _⟩
 |tup l=>exact aK e
 |ref r=>exact aK e
theorem IP {h:Heap}{a b:AV}{x:Value}{r:Bool}(hx:VR h θ a x)(hy:VR h θ b x)(e:jF a b=some r):r=true:=by
 cases a with
 |none=>exact(xC e).2.symm
 |bool i=>
  obtain⟨j,e1,rfl⟩:=bY e
  cases pQ e1
  cases hx
  cases hy
  exact beq_self_eq_true _
 |int i=>
  obtain⟨j,e1,rfl⟩:=bY e
  cases cy e1
  obtain⟨t,rfl⟩:=hx
  obtain⟨u,q⟩:=hy
  cases q
  exact beq_self_eq_true _
 |str i=>
  obtain⟨j,e1,rfl⟩:=bY e
  cases Bk e1
  obtain⟨p,t,h1,rfl⟩:=hx
  obtain⟨q,u,h2,z⟩:=hy
  cases z
  cases xg h1 h2
  exact beq_self_eq_true _
 |tup l=>exact aK e
 |ref r=>exact aK e
theorem Ho {h:Heap}{a:Addr}{i j:Array Value}(x:IsTup h a i)(y:IsTup h a j):i=j:=by
 obtain⟨o,ho,_,n,hd⟩:=x
 obtain⟨o',fc,_,n',eE⟩:=y
 cases Option.some.inj (ho.symm.trans fc)
 cases hd.symm.trans eE
 rfl
theorem IS {n:Nat}{a b:AV}{r:Bool}(e:ce (n+1) a b=some r):(∃xs ys,a=.tup xs∧b=.tup ys∧eA (ce n) xs ys=some r)∨jF a b=some r:=by
 have e':Option.elim (dp a) (jF a b) (fun x=>Option.elim (dp b) (jF a b) (eA (ce n) x))=some r:=e
 cases h:dp a with
 |none=>rw[h]at e';exact .inr e'
 |some x=>
  rw[h]at e'
  cases h2:dp b with
  |none=>rw[h2]at e';exact .inr e'
  |some y=>rw[h2]at e';exact .inl ⟨x,y,fQ h,fQ h2,e'⟩
theorem PK {h:Heap}{n:Nat}(ih:∀(a b:AV)(x:Value)(r:Bool),VR h θ a x→VR h θ b x→ce n a b=some r→r=true){xs:List AV}:∀{ys:List AV} {vs:List Value} {r:Bool},aC h θ xs vs→aC h θ ys vs→eA (ce n) xs ys=some r→r=true:=by
 induction xs with
 |nil=>exact fun _ _ e=>(IV e).2
 |cons u xs ihx=>
  intro ys vs r a b e
  obtain⟨v,ys,p,q,rfl,h1,h2,rfl⟩:=IU e
  cases vs with
  |nil=>exact a.elim
  |cons w vs=>rw[ih u v w p a.1 b.1 h1,ihx a.2 b.2 h2];rfl
theorem PH {h:Heap}(n:Nat):∀(a b:AV) (x:Value) (r:Bool),VR h θ a x→VR h θ b x→ce n a b=some r→r=true:=by
 induction n with
 |zero=>exact fun a b x r hx hy e=>IP hx hy e
 |succ n ih=>
  intro a b x r hx hy e
  rcases IS e with⟨xs,ys,rfl,rfl,e⟩ |e
  ·obtain⟨p,i,rfl,h1,h2⟩:=hx
   obtain⟨q,j,e',h3,h4⟩:=hy
   cases e'
   exact PK ih (Ho h1 h3▸h2) h4 e
  ·exact IP hx hy e
theorem aC.at_ {h:Heap}{vs:List AV}{xs:List Value}(x:aC h θ vs xs){j:Nat}{v:Value}(e:xs[j]?=some v):∃a,vs[j]?=some a∧VR h θ a v:=by
 obtain hl:=x.length
 have hj:j<vs.length:=by rw[hl];exact(List.getElem?_eq_some_iff.mp e).1
 refine ah fun aa=>?_
 refine am (x.get (List.getElem?_eq_getElem hj)) fun y h1 h2=>?_
 rw[e]at h1
 refine aR h1 ?_
 clear h1
 rintro rfl
 exact aa (⟨_,List.getElem?_eq_getElem hj,h2⟩)
theorem L0 {n:Nat}{xs ys:List AV}{r:Bool}{i j:Array Value}
  (ih:∀(a b:AV)(x y:Value)(r:Bool),VR s.heap θ a x→VR s.heap θ b y→ce n a b=some r→EqAt A s x y r)
  (hx:aC s.heap θ xs i.toList)(hy:aC s.heap θ ys j.toList)(e:eA (ce n) xs ys=some r):
  i.size=j.size∧∃f:Nat→Bool,(∀k (h1:k<i.size) (h2:k<j.size),EqAt A s i[k] j[k] (f k))∧(List.range i.size).all f=r:=by
 refine ah fun aa=>?_
 refine cJ (PI e) fun h1 h2 h3=>?_
 have l1:xs.length=i.size:=by rw[hx.length,Array.length_toList]
 obtain l2:ys.length=j.size:=by rw[hy.length,Array.length_toList]
 refine aa ?_
 refine⟨by rw[←l1,←l2,h1],fun k=>(ce n (xs.getD k .none) (ys.getD k .none)).getD false,fun k q1 q2=>?_,by rw[←l1];exact h3⟩
 refine ah fun aa=>?_
 refine am (hx.at_ (j:=k) (v:=i[k]) (by rw[Array.getElem?_toList];simp[q1])) fun a ha va=>?_
 refine am (hy.at_ (j:=k) (v:=j[k]) (by rw[Array.getElem?_toList];simp[q2])) fun b hb vb=>?_
 obtain⟨q,hq⟩:=h2 k a b ha hb
 have e1:xs.getD k .none=a:=by rw[List.getD_eq_getElem?_getD,ha];rfl
 obtain e2:ys.getD k .none=b:=by rw[List.getD_eq_getElem?_getD,hb];rfl
 refine aa ?_
 show EqAt A s i[k] j[k] ((ce n (xs.getD k .none) (ys.getD k .none)).getD false)
 refine(e1).symm▸?_
 refine(e2).symm▸?_
 refine(hq).symm▸?_
 exact ih a b _ _ q va vb hq
theorem xN:∀(n:Nat) (A:Around) (a b:AV) (x y:Value) (r:Bool),VR s.heap θ a x→VR s.heap θ b y→ce n a b=some r→A.units+n<cLine→EqAt A s x y r∧RcAt A s x y r∧RcNeAt A s x y (!r)
 |0,A,a,b,x,y,r,hx,hy,e,_=>IO hx hy e
 |n+1,A,a,b,x,y,r,hx,hy,e,hu=>by
  refine ah fun aa=>?_
  rcases IS e with⟨xs,ys,rfl,rfl,e'⟩ |e
  ·have fD:=hx
   have qn:=hy
   refine bH hx fun p i e29 h1 h2=>?_
   subst e29
   refine bH hy fun q j e29 h3 h4=>?_
   subst e29
   have jP:A.units<cLine:=by lia
   obtain⟨hs,f,hf,hr⟩:=L0 (A:=A.in1) (fun a b x y r u v w=>(xN n A.in1 a b x y r u v w (by show A.units+1+n<cLine;lia)).1) h2 h4 e'
   have er:((List.range (min i.size j.size)).all f&&i.size==j.size)=r:=by rw[hs,Nat.min_self,←hs,hr];simp
   have k1:RcAt A s (.ref p) (.ref q) r:=er▸RcAt.tuples h1 h3 jP hf
   have k2:RcNeAt A s (.ref p) (.ref q) (!r):=er▸RcNeAt.tuples h1 h3 jP hf
   refine aa ?_
   refine⟨?_,k1,k2⟩
   by_cases jN:p=q
   ·clear k2 h3 h1
    subst jN
    have:=PH _ _ _ _ _ fD qn e
    clear er hr e'
    subst this
    exact .same _
   ·exact .of_refs jN k1
  ·exact aa (IO hx hy e)
theorem IR {d:Nat}(ok:bp A d)(R:aq W θ σ s.heap){a b:AV}{x y:Value}{r:Bool}(hx:VR s.heap θ a x)(hy:VR s.heap θ b y)(e:t6 σ a b=some r):RcAt A s x y r∧RcNeAt A s x y (!r):=by
 have hu:A.units+100<cLine:=ok.unit
 have e':(bif (dE a).isSome&&(dE b).isSome then(fg σ a).bind fun x=>(fg σ b).bind fun y=>gX x y else ce 3 a b)=some r:=e
 cases hc:(dE a).isSome&&(dE b).isSome with
 |false=>rw[hc]at e';exact(xN 3 A a b x y r hx hy e' (by lia)).2
 |true=>
  rw[hc]at e'
  obtain⟨us,h1,e'⟩:=a5 e'
  obtain⟨ws,h2,eF⟩:=a5 e'
  clear e
  obtain⟨p,rfl,hp⟩:=hY h1
  obtain⟨q,rfl,hq⟩:=hY h2
  obtain⟨l,hl,e1,i,li,vi,_⟩:=R.at hp
  obtain⟨m,hm,e2,j,lj,vj,_⟩:=R.at hq
  obtain⟨l',cQ,rfl⟩:=hx
  obtain⟨m',CF,rfl⟩:=hy
  cases Option.some.inj (hl.symm.trans cQ)
  cases Option.some.inj (hm.symm.trans CF)
  obtain q1:us.length=i.size:=by rw[vi.length,Array.length_toList]
  obtain q2:ws.length=j.size:=by rw[vj.length,Array.length_toList]
  refine yA (r:=some r) eF (fun _ e=>?_) fun aY e=>?_
  ·obtain⟨hs,f,hf,hr⟩:=L0 (A:=A.in1) (fun a b x y r u v w=>(xN 3 A.in1 a b x y r u v w (by show A.units+1+3<cLine;lia)).1) vi vj e
   rw[←hr]
   exact⟨RcAt.lists li.isList lj.isList hs (by lia) hf,RcNeAt.lists li.isList lj.isList hs (by lia) hf⟩
  ·cases e
   have:(i.size !=j.size)=true:=bne_iff_ne.mpr (by rw[←q1,←q2];exact aY)
   exact⟨RcAt.lists_lengths li.isList lj.isList this (by lia),RcNeAt.lists_lengths li.isList lj.isList this (by lia)⟩
mutual
theorem VR.uniq {θ:Th}{σ:St}{h:Heap}(R:aq W θ σ h):∀(a b:AV) (x:Value),VR h θ a x→VR h θ b x→a=b
 |.none,b,x,hx,hy=>by
  subst hx
  cases b<;>simp[VR]at hy
  rfl
 |.bool c,b,x,hx,hy=>by
  subst hx
  cases b<;>simp[VR]at hy
  exact(hy).symm▸rfl
 |.int i,b,x,hx,hy=>by
  obtain⟨t,rfl⟩:=hx
  cases b<;>simp[VR]at hy
  rw[hy]
 |.str i,b,x,hx,hy=>by
  refine eX hx fun y t h1 e39=>?_
  subst e39
  cases b<;>simp[VR]at hy
  exact(xg h1 hy).symm▸rfl
 |.tup vs,b,x,hx,hy=>by
  refine bH hx fun p i e29 h1 h2=>?_
  subst e29
  cases b<;>try (simp[VR]at hy;done)
  ·refine bH hy fun q j e h3 h4=>?_
   cases e
   rw[Ho h1 h3]at h2
   exact(aC.uniq R vs _ _ h2 h4).symm▸rfl
  ·refine ah fun aa=>?_
   refine am hy fun l hl e=>?_
   refine ah fun aa=>?_
   cases e
   obtain⟨o,ho,hn⟩:=R.notTuple ⟨l,List.mem_of_getElem? hl,.inl rfl⟩
   refine aa ?_
   refine cW h1 fun o' fc hc _=>?_
   rw[ho]at fc
   refine aR fc ?_
   clear fc
   rintro rfl
   exact aa (absurd hc hn)
 |.ref i,b,x,hx,hy=>by
  refine ah fun aa=>?_
  refine am hx fun l hl e29=>?_
  subst e29
  cases b<;>try (simp[VR]at hy;done)
  ·refine bH hy fun q j e h3 h4=>?_
   cases e
   refine am (R.notTuple ⟨l,List.mem_of_getElem? hl,.inl rfl⟩) fun o ho hn=>?_
   refine cW h3 fun o' fc hc _=>?_
   rw[ho]at fc
   refine aR fc ?_
   clear fc
   rintro rfl
   exact aa (absurd hc hn)
  ·rename_i j
   refine am hy fun m hm e=>?_
   injection e with e
   by_cases q:i=j
   ·refine aa ?_
    rw[q]
   ·exact aa (absurd e (R.apart i j l m hl hm q).1)
theorem aC.uniq {θ:Th}{σ:St}{h:Heap}(R:aq W θ σ h):∀(a b:List AV) (x:List Value),aC h θ a x→aC h θ b x→a=b
 | [],[],[],_,_=>rfl
 |a::l,b::m,x::r,hx,hy=>by rw[VR.uniq R a b x hx.1 hy.1,aC.uniq R l m r hx.2 hy.2]
 | [],_::_,[],_,q=>q.elim
 | [],_,_::_,q,_=>q.elim
 |_::_,_,[],q,_=>q.elim
 |_::_,[],_::_,_,q=>q.elim
end
theorem Kz (R:aq W θ σ s.heap){a:AV}{x:Value}(hx:VR s.heap θ a x)(hu:A.units+3<cLine){vs:List AV}{xs:List Value}{r:Bool}(hv:aC s.heap θ vs xs)(e:fZ a vs=some r):
  ∃f:Value→Bool,(∀y,y∈xs→EqAt A s y x (f y))∧xs.any f=r:=by
 classical
 obtain key:∀(vs:List AV) (xs:List Value) (r:Bool),aC s.heap θ vs xs→fZ a vs=some r→
   (∀y,y∈xs→EqAt A s y x (decide (∃b,VR s.heap θ b y∧ce 3 b a=some true)))∧xs.any (fun y=>decide (∃b,VR s.heap θ b y∧ce 3 b a=some true))=r:=by
  intro vs
  induction vs with
  |nil=>
   intro xs r hv e
   cases xs with
   |nil=>exact⟨fun y h=>by simp at h,Option.some.inj e⟩
   |cons _ _=>exact hv.elim
  |cons b vs ih=>
   intro xs r hv e
   cases xs with
   |nil=>exact hv.elim
   |cons y ys=>
     obtain⟨r1,e1,e⟩:=a5 (show(ce 3 b a).bind (fun r=>(fZ a vs).map (r||·))=some r from e)
     obtain⟨q,e2,e⟩:=bY e
     obtain⟨i1,i2⟩:=ih ys q hv.2 e2
     have hd:decide (∃b,VR s.heap θ b y∧ce 3 b a=some true)=r1:=by
      cases r1 with
      |true=>exact decide_eq_true ⟨b,hv.1,e1⟩
      |false=>
       refine decide_eq_false fun⟨c,hc,q⟩=>?_
       rw[VR.uniq R c b y hc hv.1,e1]at q
       cases q
     refine⟨fun z hz=>?_,?_⟩
     ·rcases List.mem_cons.mp hz with rfl |hz
      ·rw[hd]
       exact(xN 3 A b a z x r1 hv.1 hx e1 hu).1
      ·exact i1 z hz
     ·rw[List.any_cons,hd,i2,e]
 exact⟨_,key vs xs r hv e⟩
end
end
section
theorem bo {a b:Bool}(h:(a&&b)=true):a=true∧b=true:=by
 cases a with
 |true=>exact⟨rfl,h⟩
 |false=>exact cz h
theorem gh {a b:Bool}(h:a=true)(k:b=true):(a&&b)=true:=by subst h;exact k
mutual
theorem AV.beq_iff:∀(a b:AV),a.beq b=true↔a=b
 |.none,b=>⟨fun h=>(uF h).symm,fun h=>h▸rfl⟩
 |.bool x,b=>⟨fun h=>let⟨_,h1,h2⟩:=f8 h;(congrArg AV.bool (eq_of_beq h2)).trans (pQ h1).symm,fun h=>h▸beq_self_eq_true x⟩
 |.int x,b=>⟨fun h=>let⟨_,h1,h2⟩:=f8 h;(congrArg AV.int (eq_of_beq h2)).trans (cy h1).symm,fun h=>h▸beq_self_eq_true x⟩
 |.str x,b=>⟨fun h=>let⟨_,h1,h2⟩:=f8 h;(congrArg AV.str (eq_of_beq h2)).trans (Bk h1).symm,fun h=>h▸beq_self_eq_true x⟩
 |.ref x,b=>⟨fun h=>let⟨_,h1,h2⟩:=f8 h;(congrArg AV.ref (eq_of_beq h2)).trans (eZ h1).symm,fun h=>h▸beq_self_eq_true x⟩
 |.tup x,b=>⟨fun h=>let⟨y,h1,h2⟩:=f8 h;(congrArg AV.tup ((AV.beqs_iff x y).mp h2)).trans (fQ h1).symm,fun h=>h▸(AV.beqs_iff x x).mpr rfl⟩
theorem AV.beqs_iff:∀(a b:List AV),AV.beqs a b=true↔a=b
 | [],b=>⟨fun h=>by cases b<;>first |rfl |exact cz h,fun h=>h▸rfl⟩
 |x::l,b=>⟨fun h=>by
   cases b with
   |nil=>exact cz h
   |cons y m=>rw[(AV.beq_iff x y).mp (bo h).1,(AV.beqs_iff l m).mp (bo h).2],fun h=>h▸gh ((AV.beq_iff x x).mpr rfl) ((AV.beqs_iff l l).mpr rfl)⟩
end
theorem Dx {α:Type}{f:α→α→Bool}(hf:∀a b,f a b=true→a=b){a:List α}:∀{b:List α},qr f a b=true→a=b:=by
 induction a with
 |nil=>intro b h;cases b<;>first |rfl |exact cz h
 |cons x l ih=>
  intro b h
  cases b with
  |nil=>exact cz h
  |cons y m=>rw[hf x y (bo h).1,ih (bo h).2]
theorem Dy {α:Type}{f:α→α→Bool}(hf:∀a,f a a=true)(l:List α):qr f l l=true:=by
 induction l with
 |nil=>rfl
 |cons x l ih=>exact gh (hf x) ih
section
variable {W:Wd}{θ:Th}{σ:St}{s:Shared}{A:Around}
section
variable {K:Type}[DecidableEq K]{KR:K→AV→Prop}{h:Heap}{k0:K}{k:AV}
theorem Pw.find (hf:∀x q,KR x q→(q.beq k=true↔x=k0)):∀{l:List (K×Value)} {m:List (AV×AV)},Pw KR h θ l m→(∀av,bc m k=some av→∃v,valueAt l k0=some v∧VR h θ av v)∧(bc m k=none→valueAt l k0=none)
 | [],[],_=>⟨fun av e=>by simp[bc]at e,fun _=>rfl⟩
 | [],_::_,e=>e.elim
 |_::_,[],e=>e.elim
 |p::l,q::m,⟨a,b,c⟩=>by
  obtain ih:=Pw.find hf c
  obtain hq:=hf _ _ a
  unfold bc
  by_cases e:p.1=k0
  ·rw[if_pos (hq.mpr e)]
   refine⟨fun av h=>⟨p.2,by simp[valueAt,List.find?_cons,e],?_⟩,fun h=>by cases h⟩
   refine aR h ?_
   clear h
   rintro rfl
   exact b
  ·rw[if_neg fun z=>e (hq.mp z)]
   have:valueAt (p::l) k0=valueAt l k0:=by simp[valueAt,List.find?_cons,e]
   refine(this).symm▸?_
   exact ih
theorem bV.find (hf:∀x q,KR x q→(q.beq k=true↔x=k0)):∀{l:List (K×Addr×Value)} {m:List (AV×AV)},bV KR h θ l m→(∀av,bc m k=some av→∃v,atKey l k0=some v∧VR h θ av v.2)∧(bc m k=none→atKey l k0=none)
 | [],[],_=>⟨fun av e=>by simp[bc]at e,fun _=>rfl⟩
 | [],_::_,e=>e.elim
 |_::_,[],e=>e.elim
 |p::l,q::m,⟨a,b,c⟩=>by
  obtain ih:=bV.find hf c
  obtain hq:=hf _ _ a
  unfold bc
  by_cases e:p.1=k0
  ·rw[if_pos (hq.mpr e)]
   refine⟨fun av h=>⟨p.2,by simp[atKey,List.find?_cons,e],?_⟩,fun h=>by cases h⟩
   refine aR h ?_
   clear h
   rintro rfl
   exact b
  ·rw[if_neg fun z=>e (hq.mp z)]
   have:atKey (p::l) k0=atKey l k0:=by simp[atKey,List.find?_cons,e]
   refine(this).symm▸?_
   exact ih
theorem W7 {p:K×Value}{l:List (K×Value)}{v:Value}(e:p.1≠k0):stored (p::l) k0 v=p::stored l k0 v:=by
 unfold stored
 simp only[List.any_cons,e,decide_false,Bool.false_or,List.map_cons,if_false]
 split<;>rfl
theorem W6 {p:K×Value}{l:List (K×Value)}{v:Value}(e:p.1=k0)(hn:((p::l).map (·.1)).Nodup):stored (p::l) k0 v=(p.1,v)::l:=by
 unfold stored
 rw[if_pos (by simp[e]),List.map_cons,if_pos e]
 congr 1
 rw[List.map_cons,List.nodup_cons]at hn
 refine(List.map_congr_left fun q hq=>?_).trans (List.map_id l)
 have:q.1≠k0:=fun z=>hn.1 (List.mem_map.mpr ⟨q,hq,by rw[z,e]⟩)
 rw[if_neg this];rfl
theorem W4 {p:K×Addr×Value}{l:List (K×Addr×Value)}{a:Addr}{v:Value}(e:p.1≠k0):storedH (p::l) k0 a v=p::storedH l k0 a v:=by
 have:atKey (p::l) k0=atKey l k0:=by simp[atKey,List.find?_cons,e]
 unfold storedH
 refine(this).symm▸?_
 split
 ·simp[putAt,e]
 ·rfl
theorem W3 {p:K×Addr×Value}{l:List (K×Addr×Value)}{a:Addr}{v:Value}(e:p.1=k0)(hn:((p::l).map (·.1)).Nodup):storedH (p::l) k0 a v=(p.1,p.2.1,v)::l:=by
 have:atKey (p::l) k0=some p.2:=by simp[atKey,List.find?_cons,e]
 unfold storedH
 rw[this,if_pos (show(some p.2).isSome=true from rfl),List.map_cons]
 obtain h1:putAt k0 v p=(p.1,p.2.1,v):=by simp[putAt,e]
 rw[h1]
 congr 1
 rw[List.map_cons,List.nodup_cons]at hn
 refine(List.map_congr_left fun q hq=>?_).trans (List.map_id l)
 have:q.1≠k0:=fun z=>hn.1 (List.mem_map.mpr ⟨q,hq,by rw[z,e]⟩)
 simp[putAt,this]
theorem Pw.store (hf:∀x q,KR x q→(q.beq k=true↔x=k0))(hk:KR k0 k){av:AV}{v:Value}(hv:VR h θ av v):∀{l:List (K×Value)} {m:List (AV×AV)},Pw KR h θ l m→(l.map (·.1)).Nodup→Pw KR h θ (stored l k0 v) (bU m k av)
 | [],[],_,_=>⟨hk,hv,trivial⟩
 | [],_::_,e,_=>e.elim
 |_::_,[],e,_=>e.elim
 |p::l,q::m,⟨a,b,c⟩,hn=>by
  obtain hq:=hf _ _ a
  unfold bU
  by_cases e:p.1=k0
  ·rw[if_pos (hq.mpr e),W6 e hn]
   exact⟨a,hv,c⟩
  ·rw[if_neg fun z=>e (hq.mp z),W7 e]
   exact⟨a,b,Pw.store hf hk hv c (List.nodup_cons.mp hn).2⟩
theorem bV.store (hf:∀x q,KR x q→(q.beq k=true↔x=k0))(hk:KR k0 k){av:AV}{v:Value}{ad:Addr}(hv:VR h θ av v):∀{l:List (K×Addr×Value)} {m:List (AV×AV)},bV KR h θ l m→(l.map (·.1)).Nodup→bV KR h θ (storedH l k0 ad v) (bU m k av)
 | [],[],_,_=>⟨hk,hv,trivial⟩
 | [],_::_,e,_=>e.elim
 |_::_,[],e,_=>e.elim
 |p::l,q::m,⟨a,b,c⟩,hn=>by
  obtain hq:=hf _ _ a
  unfold bU
  by_cases e:p.1=k0
  ·rw[if_pos (hq.mpr e),W3 e hn]
   exact⟨a,hv,c⟩
  ·rw[if_neg fun z=>e (hq.mp z),W4 e]
   exact⟨a,b,bV.store hf hk hv c (List.nodup_cons.mp hn).2⟩
theorem Pw.len:∀{l:List (K×Value)} {m:List (AV×AV)},Pw KR h θ l m→l.length=m.length
 | [],[],_=>rfl
 | [],_::_,e=>e.elim
 |_::_,[],e=>e.elim
 |_::_,_::_,⟨_,_,c⟩=>by simp[Pw.len c]
theorem bV.len:∀{l:List (K×Addr×Value)} {m:List (AV×AV)},bV KR h θ l m→l.length=m.length
 | [],[],_=>rfl
 | [],_::_,e=>e.elim
 |_::_,[],e=>e.elim
 |_::_,_::_,⟨_,_,c⟩=>by simp[bV.len c]
end
structure A3 (W:Wd)(θ:Th)(s:Shared)(A:Around)(a:Addr)(kvs:List (AV×AV))(key:Value)(k:AV):Prop where
 isin:∀{E:Value→Shared→Prop} {Q:Value→Shared→Prop},(∀n,Q (.bool (bc kvs k).isSome) {s with toks:=n})→wpAny (model W.prog W.w) A (compareOp .In key (.ref a)) Q E s
 notin:∀{E:Value→Shared→Prop} {Q:Value→Shared→Prop},(∀n,Q (.bool (!(bc kvs k).isSome)) {s with toks:=n})→wpAny (model W.prog W.w) A (compareOp .NotIn key (.ref a)) Q E s
 item:∀{E:Value→Shared→Prop} {Q:Value→Shared→Prop} {av:AV},bc kvs k=some av→(∀v n,VR s.heap θ av v→Q v {s with toks:=n})→wpAny (model W.prog W.w) A (getItem (.ref a) key) Q E s
 get:∀{E:Value→Shared→Prop} {Q:Value→Shared→Prop} {dflt:Value},(∀v n,(∀av,bc kvs k=some av→VR s.heap θ av v)→(bc kvs k=none→v=dflt)→Q v {s with toks:=n})→
  ∃S,MeetsIn W.prog W.w (Builtin.«dict.get» ⟨[.ref a,key,dflt],[]⟩) S∧S A (wants Q E) s
 set:∀{E:Value→Shared→Prop} {Q:Unit→Shared→Prop} {v:Value} {av:AV},VR s.heap θ av v→kvs.length≤1000000→(∀h' n,DR W h' θ a (bU kvs k av)→Heap.SameBut a s.heap h'→Q () {s with heap:=h',toks:=n})→
  wpAny (model W.prog W.w) A (setItem (.ref a) key v) Q E s
theorem mr {n:Nat}(h:n≤1000000):n≤sizeLine:=Nat.le_trans h (by decide)
theorem yF {n:Nat}(h:n≤3000000):n≤sizeLine:=Nat.le_trans h (by decide)
theorem DR.at {h:Heap}{a:Addr}{kvs:List (AV×AV)}(x:DR W h θ a kvs):∀o,h.get? a=some o→¬bP o:=fun o e=>by
 obtain⟨o',e',hc⟩:=x.cls
 rw[e]at e'
 refine aR e' ?_
 clear e'
 rintro rfl
 rintro⟨qe,_⟩
 rw[hc]at qe
 exact absurd qe (by decide)
theorem im {h h':Heap}{a:Addr}(hs:Heap.SameBut a h h')(ha:∀o,h.get? a=some o→¬bP o):∀b o,h.get? b=some o→bP o→h'.get? b=some o:=fun b o e t=>by
 rw[hs.2 b ?_];exact e
 rintro rfl
 exact ha o e t
theorem Kr {K:Type}[DecidableEq K]{knd:KeyKind W.prog W.w K}{KR:K→AV→Prop}{a:Addr}{l:List (K×Value)}{kvs:List (AV×AV)}{k0:K}{k:AV}{key:Value}
  (c6:(a==sysModules)=false)(D:s.heap.DictOf knd a l)(P:Pw KR s.heap θ l kvs)(dS:knd.is k0 key=true)(hk:KR k0 k)(hf:∀x q,KR x q→(q.beq k=true↔x=k0))
  (mk:∀h' l',h'.DictOf knd a l'→Pw KR h' θ l' (bU kvs k (.none))∨True→(∀m,Pw KR h' θ l' m→DR W h' θ a m)):A3 W θ s A a kvs key k:=by
 obtain eQ:=P.find hf
 obtain ux:(valueAt l k0).isSome=(bc kvs k).isSome:=by
  cases hg:bc kvs k with
  |none=>rw[eQ.2 hg];rfl
  |some av=>obtain⟨v,e,_⟩:=eQ.1 av hg;rw[e];rfl
 refine⟨fun h=>?_,fun h=>?_,fun{E Q av} hg h=>?_,fun{E Q dflt} h=>?_,fun{E Q v av} hv hl h=>?_⟩
 ·exact wpAny_in_of dS c6 D.mapOf (by rw[ux];exact h _)
 ·exact wpAny_notIn_of dS c6 D.mapOf (by rw[ux];exact h _)
 ·refine ah fun aa=>?_
  refine am (eQ.1 av hg) fun v e hv=>?_
  exact aa (wpAny_getItem_of dS D.mapOf e (h v _ hv))
 ·refine⟨_,meets_dict_get_default knd a dS c6 dflt,_,D.mapOf,?_⟩
  show Q _ _
  refine h _ _ (fun av e=>?_) fun e=>?_
  ·refine am (eQ.1 av e) fun v e' hv=>?_
   rw[e'];exact hv
  ·rw[eQ.2 e];rfl
 ·obtain hD:DR W s.heap θ a kvs:=mk _ _ D (.inr trivial) _ P
  refine ah fun aa=>?_
  refine iu D fun o es ep q1 q2 q3 q4 q5 hn=>?_
  refine aa ?_
  refine wpAny_setItem_pairs (kvs:=l) dS ⟨o,es,ep,q1,q2,q3,q4,q5,hn⟩ (fun h' D' hs=>h h' _ (mk _ _ D' (.inr trivial) _ ?_) hs) (mr (P.len▸hl))
  obtain T:=im hs hD.at
  exact Pw.store hf hk (hv.keep (List.prefix_refl _) T) (P.keep (List.prefix_refl _) T) hn
theorem XH {K:Type}[DecidableEq K]{knd:HeapKind W.prog W.w K}{E:Value→Shared→Prop}{d a:Addr}{k:K}{xs:List (K×Addr×Value)}{Q:Value→Shared→Prop}(hu:knd.room A.in1)(dS:knd.is s.heap k a)(hd:(d==sysModules)=false)(hm:s.heap.DictOfH knd d xs)
  (h:Q (.bool (!(atKey xs k).isSome)) {s with toks:=s.toks+knd.draws k}):wpAny (model W.prog W.w) A (compareOp .NotIn (.ref a) (.ref d)) Q E s:=by
 show wpAny _ _ (do return .bool (!(←contains (.ref d) (.ref a)))) Q E s
 refine wpAny_bind ?_
 unfold contains
 try with_reducible refine wpAny_holding ?_
 refine wpAny_bind (wpAny_specialOf hm.typeIs slot_dict_contains.lookup ?_)
 show wpAny _ _ (if(some (Value.builtin "dict.__contains__")==some Value.none)=true then _ else _) _ E s
 rw[if_neg (by rw[beq_builtin_none];exact Bool.false_ne_true)]
 refine wpAny_bind (wpAny_callSpecialUnlessNone?_slot (name:=Str.ofString "__contains__") hm.typeIs slot_dict_contains
  (wpAny_call_entry slot_dict_contains hm.typeIs entry_dict_contains ?_ (args_dict_contains _ _)))
 show wpAny _ _ (dictGet d (.ref a) >>= _) _ _ s
 refine wpAny_bind (wpAny_dictGet_heap hu dS hm ?_)
 cases hf:atKey xs k with
 |some p=>
  rw[hf]at h
  show wpAny _ _ (ret (.bool true)) _ _ _
  exact wpAny_pure ⟨_,rfl,wpAny_truthy_bool (wpAny_pure h)⟩
 |none=>
  rw[hf]at h
  show wpAny _ _ (Builtin.Dict.pendingKey? d (.ref a) >>= _) _ _ _
  exact wpAny_bind (wpAny_pendingKey_other hd (wpAny_pure ⟨_,rfl,wpAny_truthy_bool (wpAny_pure h)⟩))
theorem Kq {K:Type}[DecidableEq K]{knd:HeapKind W.prog W.w K}{KR:K→AV→Prop}{a:Addr}{l:List (K×Addr×Value)}{kvs:List (AV×AV)}{k0:K}{k:AV}{p:Addr}
  (hu:knd.room A.in1)(c6:(a==sysModules)=false)(D:s.heap.DictOfH knd a l)(P:bV KR s.heap θ l kvs)(dS:knd.is s.heap k0 p)(hk:KR k0 k)(hf:∀x q,KR x q→(q.beq k=true↔x=k0))
  (mk:∀h' l',h'.DictOfH knd a l'→(∀m,bV KR h' θ l' m→DR W h' θ a m)):A3 W θ s A a kvs (.ref p) k:=by
 obtain eQ:=P.find hf
 obtain ux:(atKey l k0).isSome=(bc kvs k).isSome:=by
  cases hg:bc kvs k with
  |none=>rw[eQ.2 hg];rfl
  |some av=>obtain⟨v,e,_⟩:=eQ.1 av hg;rw[e];rfl
 refine⟨fun h=>?_,fun h=>?_,fun{E Q av} hg h=>?_,fun{E Q dflt} h=>?_,fun{E Q v av} hv hl h=>?_⟩
 ·exact wpAny_in_heap hu dS c6 D (by rw[ux];exact h _)
 ·refine XH hu dS c6 D (by rw[ux];exact h _)
 ·refine ah fun aa=>?_
  refine am (eQ.1 av hg) fun v e hv=>?_
  exact aa (wpAny_getItem_heap hu dS D e (h v.2 _ hv))
 ·refine⟨_,meetsH_dict_get_default knd a p c6 dflt,hu,_,_,dS,D,?_⟩
  show Q _ _
  refine h _ _ (fun av e=>?_) fun e=>?_
  ·refine am (eQ.1 av e) fun v e' hv=>?_
   rw[e'];exact hv
  ·rw[eQ.2 e];rfl
 ·obtain hD:DR W s.heap θ a kvs:=mk _ _ D _ P
  refine ah fun aa=>?_
  refine iu D fun o es ep q1 q2 q3 q4 q5 hn=>?_
  refine aa ?_
  refine wpAny_setItem_heap (xs:=l) hu dS ⟨o,es,ep,q1,q2,q3,q4,q5,hn⟩ (fun h' D' hs=>h h' _ (mk _ _ D' _ ?_) hs) (mr (P.len▸hl))
  obtain T:=im hs hD.at
  exact bV.store hf hk (hv.keep (List.prefix_refl _) T) (P.keep (List.prefix_refl _) T) hn
theorem Gh {K K':Type}[DecidableEq K][DecidableEq K']{knd:KeyKind W.prog W.w K}{knd':KeyKind W.prog W.w K'}{h:Heap}{a:Addr}(x:h.DictOf knd a []):h.DictOf knd' a []:=by
 refine ah fun aa=>?_
 refine iu x fun o es ep h1 h2 h3 h4 h5 _=>?_
 have he:es.toList=[]:=by generalize es.toList=z at h5;cases h5;rfl
 have:es=#[]:=Array.toList_inj.mp he
 clear h5 h4
 subst this
 exact aa (⟨o,_,ep,h1,h2,h3,fun e he=>by simp at he,.nil,List.nodup_nil⟩)
theorem xk {K K':Type}[DecidableEq K][DecidableEq K']{knd:KeyKind W.prog W.w K}{knd':HeapKind W.prog W.w K'}{h:Heap}{a:Addr}:h.DictOf knd a []↔h.DictOfH knd' a []:=by
 constructor
 ·intro q09
  refine ah fun aa=>?_
  refine iu q09 fun o es ep h1 h2 h3 h4 h5 _=>?_
  have he:es.toList=[]:=by generalize es.toList=z at h5;cases h5;rfl
  have:es=#[]:=Array.toList_inj.mp he
  clear h5
  subst this
  exact aa (⟨o,_,ep,h1,h2,h3,rfl,fun e he=>by simp at he,List.nodup_nil⟩)
 ·intro q09
  refine ah fun aa=>?_
  refine iu q09 fun o es ep h1 h2 h3 h4 _ _=>?_
  have he:es.toList=[]:=h4
  have:es=#[]:=Array.toList_inj.mp he
  clear h4
  subst this
  exact aa (⟨o,_,ep,h1,h2,h3,fun e he=>by simp at he,.nil,List.nodup_nil⟩)
theorem DR.nil {h:Heap}{a:Addr}(x:DR W h θ a []):h.DictOf (intKind W.prog W.w) a []:=by
 refine ah fun aa=>?_
 rcases x with⟨l,x,y⟩ | ⟨l,x,y⟩ | ⟨l,x,y⟩ | ⟨l,x,y⟩<;>cases l<;>first |exact y.elim |skip
 ·exact aa x
 ·exact aa (Gh x)
 ·exact aa (xk.mpr x)
 ·exact aa (xk.mpr x)
theorem SV {x:Int}{k:AV}(h:tM x k):bx k=1:=by rw[h];rfl
theorem SX {x:Str}{k:AV}(h:Bd x k):bx k=2:=by obtain⟨s,rfl,_⟩:=h;rfl
theorem SW {x:List Int}{k:AV}(h:Bc x k):bx k=0∨bx k=3:=by
 refine(h).symm▸?_
 match x with
 | []=>exact .inl rfl
 | [_]=>exact .inl rfl
 | [_,_]=>exact .inr rfl
 |_::_::_::_=>exact .inl rfl
theorem SU {x:List Bool}{k:AV}(h:Bb x k):bx k=0∨bx k=4:=by
 rw[h]
 match x with
 | []=>exact .inl rfl
 | [_]=>exact .inl rfl
 | [_,_]=>exact .inr rfl
 |_::_::_::_=>exact .inl rfl
theorem Pw.head {K:Type}{KR:K→AV→Prop}{h:Heap}{l:List (K×Value)}{q:AV×AV}{m:List (AV×AV)}(x:Pw KR h θ l (q::m)):∃k,KR k q.1:=by
 cases l with
 |nil=>exact x.elim
 |cons p l=>exact⟨_,x.1⟩
theorem bV.head {K:Type}{KR:K→AV→Prop}{h:Heap}{l:List (K×Addr×Value)}{q:AV×AV}{m:List (AV×AV)}(x:bV KR h θ l (q::m)):∃k,KR k q.1:=by
 cases l with
 |nil=>exact x.elim
 |cons p l=>exact⟨_,x.1⟩
theorem DR.kind {h:Heap}{a:Addr}{kvs:List (AV×AV)}(D:DR W h θ a kvs){n:Nat}(hn:n≠0)(eP:∀p∈kvs,bx p.1=n):
  (n=1→∃l:List (Int×Value),h.DictOf (intKind W.prog W.w) a l∧Pw tM h θ l kvs)∧
  (n=2→∃l:List (Str×Value),h.DictOf (strKind W.prog W.w) a l∧Pw Bd h θ l kvs)∧
  (n=3→∃l:List (List Int×Addr×Value),h.DictOfH (tupleKind (intKind W.prog W.w)) a l∧bV Bc h θ l kvs)∧
  (n=4→∃l:List (List Bool×Addr×Value),h.DictOfH (tupleKind (xE W.prog W.w)) a l∧bV Bb h θ l kvs):=by
 refine ah fun aa=>?_
 cases kvs with
 |nil=>
  have x:=D.nil
  exact aa (⟨fun _=>⟨[],x,trivial⟩,fun _=>⟨[],Gh x,trivial⟩,fun _=>⟨[],xk.mp x,trivial⟩,fun _=>⟨[],xk.mp x,trivial⟩⟩)
 |cons q m=>
  obtain hq:=eP q (List.mem_cons_self ..)
  rcases D with⟨l,x,y⟩ | ⟨l,x,y⟩ | ⟨l,x,y⟩ | ⟨l,x,y⟩<;>obtain⟨k,hk⟩:=y.head
  ·have:=SV hk
   exact aa (⟨fun _=>⟨l,x,y⟩,fun e=>by lia,fun e=>by lia,fun e=>by lia⟩)
  ·have:=SX hk
   exact aa (⟨fun e=>by lia,fun _=>⟨l,x,y⟩,fun e=>by lia,fun e=>by lia⟩)
  ·have:=SW hk
   exact aa (⟨fun e=>by lia,fun e=>by lia,fun _=>⟨l,x,y⟩,fun e=>by lia⟩)
  ·have:=SU hk
   exact aa (⟨fun e=>by lia,fun e=>by lia,fun e=>by lia,fun _=>⟨l,x,y⟩⟩)
theorem Ky {x y:List Int}(h:x.map AV.int=y.map AV.int):x=y:=List.map_inj_right (fun a b e=>by injection e) |>.mp h
theorem Kx {x y:List Bool}(h:x.map AV.bool=y.map AV.bool):x=y:=List.map_inj_right (fun a b e=>by injection e) |>.mp h
theorem Fv {α:Type}{f:AV→Option α}{l:List AV}{p:α×α}(h:lu f l=some p):∃x y,l=[x,y]∧f x=some p.1∧f y=some p.2:=by
 refine am (a5 h) fun z h1 h=>?_
 refine am (a5 h) fun a h2 h=>?_
 refine am (bY h) fun b h3 e29=>?_
 subst e29
 exact⟨z.1,z.2,fL h1,h2,h3⟩
theorem Dv {v:AV}(h:bx v≠0):(∃i,v=.int i)∨(∃i,v=.str i)∨(∃i j,v=.tup [.int i,.int j])∨∃i j,v=.tup [.bool i,.bool j]:=by
 cases v with
 |int i=>exact .inl ⟨i,rfl⟩
 |str i=>exact .inr (.inl ⟨i,rfl⟩)
 |tup l=>
  have h':(bif (lu bz l).isSome then 3 else bif (lu jx l).isSome then 4 else 0:Nat)≠0:=h
  cases e1:lu bz l with
  |some p=>
   refine bH (Fv e1) fun x y e29 h1 h2=>?_
   subst e29
   exact .inr (.inr (.inl ⟨p.1,p.2,by rw[cy h1,cy h2]⟩))
  |none=>cases e2:lu jx l with
   |some p=>
    refine bH (Fv e2) fun x y e29 h1 h2=>?_
    subst e29
    exact .inr (.inr (.inr ⟨p.1,p.2,by rw[pQ h1,pQ h2]⟩))
   |none=>rw[e1,e2]at h';exact absurd rfl h'
 |none=>exact absurd rfl h
 |bool _=>exact absurd rfl h
 |ref _=>exact absurd rfl h
theorem aC.two {h:Heap}{a b:AV}{xs:List Value}(x:aC h θ [a,b] xs):∃u w,xs=[u,w]∧VR h θ a u∧VR h θ b w:=by
 cases xs with
 |nil=>exact x.elim
 |cons u xs=>cases xs with
  |nil=>exact x.2.elim
  |cons w xs=>cases xs with
   |nil=>exact⟨u,w,rfl,x.1,x.2.1⟩
   |cons _ _=>exact x.2.2.elim
theorem DR.look {d:Nat}(ok:bp A d){a:Addr}(c6:(a==sysModules)=false){kvs:List (AV×AV)}(D:DR W s.heap θ a kvs){k:AV}{key:Value}(hk:VR s.heap θ k key)(ko:cR kvs k=true):A3 W θ s A a kvs key k:=by
 have eP:∀p∈kvs,bx p.1=bx k:=fun p hp=>eq_of_beq (List.all_eq_true.mp (bo ko).2 p hp)
 have hn:bx k≠0:=bne_iff_ne.mp (bo ko).1
 refine tK (D.kind hn eP) fun d1 d2 d3 d4=>?_
 have hu:A.in1.units<cLine:=Nat.lt_of_le_of_lt (Nat.le_add_right _ _) ok.in1
 refine ah fun aa=>?_
 rcases Dv hn with⟨i,rfl⟩ | ⟨i,rfl⟩ | ⟨i,j,rfl⟩ | ⟨i,j,rfl⟩
 ·refine aa ?_
  refine am (d1 rfl) fun l x y=>?_
  obtain⟨t,rfl⟩:=hk
  exact Kr (knd:=intKind W.prog W.w) (k0:=i) c6 x y (beq_self_eq_true i) rfl (fun x q e=>by rw[e,AV.beq_iff];exact⟨fun e=>AV.int.inj e,fun e=>congrArg _ e⟩) fun h' l' x _ m y=>.inl ⟨l',x,y⟩
 ·refine aa ?_
  refine am (d2 rfl) fun l x y=>?_
  refine eX hk fun st t ht e39=>?_
  subst e39
  refine Kr (knd:=strKind W.prog W.w) (k0:=st) c6 x y (beq_self_eq_true st) ⟨i,rfl,ht⟩ (fun x q e=>?_) fun h' l' x _ m y=>.inr (.inl ⟨l',x,y⟩)
  obtain⟨j,rfl,hj⟩:=e
  rw[AV.beq_iff]
  exact⟨fun e=>Option.some.inj (hj.symm.trans (AV.str.inj e▸ht)),fun e=>congrArg _ (xg hj (e▸ht))⟩
 ·obtain⟨l,x,y⟩:=d3 rfl
  obtain⟨p,items,rfl,⟨o,ho,hc,n,hd⟩,hv⟩:=hk
  refine aa ?_
  refine Kq (knd:=tupleKind (intKind W.prog W.w)) (k0:=[i,j]) hu c6 x y ⟨o,items,n,ho,hc,hd,?_⟩ rfl (fun x q e=>?_) fun h' l' x m y=>.inr (.inr (.inl ⟨l',x,y⟩))
  ·refine bH (aC.two hv) fun u v e e39 e49=>?_
   refine ah fun aa=>?_
   obtain⟨t1,rfl⟩:=e39
   obtain⟨t2,rfl⟩:=e49
   refine aa ?_
   rw[e]
   exact .cons (beq_self_eq_true i) (.cons (beq_self_eq_true j) .nil)
  ·rw[e,AV.beq_iff]
   exact⟨fun e=>Ky (AV.tup.inj e),fun e=>e▸rfl⟩
 ·obtain⟨l,x,y⟩:=d4 rfl
  obtain⟨p,items,rfl,⟨o,ho,hc,n,hd⟩,hv⟩:=hk
  refine aa ?_
  refine Kq (knd:=tupleKind (xE W.prog W.w)) (k0:=[i,j]) hu c6 x y ⟨o,items,n,ho,hc,hd,?_⟩ rfl (fun x q e=>?_) fun h' l' x m y=>.inr (.inr (.inr ⟨l',x,y⟩))
  ·refine bH (aC.two hv) fun u v e e1 e2=>?_
   refine ah fun aa=>?_
   cases e1;subst e2
   refine aa ?_
   rw[e]
   exact .cons (beq_self_eq_true _) (.cons (beq_self_eq_true _) .nil)
  ·rw[e,AV.beq_iff]
   exact⟨fun e=>Kx (AV.tup.inj e),fun e=>e▸rfl⟩
end
end
section
variable {W:Wd}{θ θ':Th}{σ σ':St}{s s':Shared}{A:Around}{E:Value→Shared→Prop}{Q:Value→Shared→Prop}{d:Nat}
noncomputable def Po (W:Wd)(θ:Th)(s:Shared)(av:AV)(σ':St)(Q:Value→Shared→Prop):Prop:=∀v θ' s',aB bZ θ s θ' s'→aq W θ' σ' s'.heap→VR s'.heap θ' av v→Q v s'
theorem Po.from {av:AV}(h:Po W θ s av σ' Q)(x:aB bZ θ s θ' s'):Po W θ' s' av σ' Q:=fun v θ'' s'' y=>h v θ'' s'' (x.trans y)
theorem aB.ext {X:Addr→Prop}{h':Heap}{n:Nat}(k:∀a o,s.heap.get? a=some o→h'.get? a=some o):aB X θ s θ {s with heap:=h',toks:=n}:=
 ⟨List.prefix_refl _,fun _ h=>.inl h,fun a o e _ _=>k a o e,fun a o e=>⟨o,k a o e⟩,rfl,rfl⟩
theorem Po.same {av:AV}{v:Value}(h:Po W θ s av σ Q)(R:aq W θ σ s.heap)(hv:VR s.heap θ av v){n:Nat}:Q v {s with toks:=n}:=h v θ _ (.refl rfl rfl rfl) R hv
theorem Po.at {av:AV}{v:Value}(h:Po W θ s av σ Q)(R:aq W θ σ s.heap)(hv:VR s.heap θ av v):Q v s:=h v θ _ .id R hv
theorem Po.ext {av:AV}{v:Value}{h':Heap}{n:Nat}(h:Po W θ s av σ Q)(R:aq W θ σ s.heap)(k:∀a o,s.heap.get? a=some o→h'.get? a=some o)(hv:VR h' θ av v):Q v {s with heap:=h',toks:=n}:=
 h v θ _ (aB.ext k) (R.step k) hv
theorem cT (h:Heap)(o:Obj):∀a o',h.get? a=some o'→(h.push o).get? a=some o':=fun a o' e=>Heap.get?_push_of_some o e
theorem Po.new {h':Heap}{n:Nat}{o:ae}{a:Addr}(h:Po W θ s (.ref σ.length) (σ++[o]) Q)(R:aq W θ σ s.heap)(k:∀a o,s.heap.get? a=some o→h'.get? a=some o)(dd:s.heap.get? a=none)
  (x:∀θ',θ <+:θ'→OR W h' θ' (a,a) o):Q (.ref a) {s with heap:=h',toks:=n}:=by
 refine h _ (θ++[(a,a)]) _ ⟨List.prefix_append ..,fun l hl=>?_,fun a o e _ _=>k a o e,fun a o e=>⟨o,k a o e⟩,rfl,rfl⟩ (R.add k dd dd (x _ (List.prefix_append ..))) ⟨(a,a),?_,rfl⟩
 ·rcases List.mem_append.mp hl with q |q
  ·exact .inl q
  ·simp only[List.mem_singleton]at q
   clear hl
   subst q
   exact .inr ⟨dd,dd⟩
 ·rw[←R.len];simp
theorem Pt {h h₁:Heap}(k:∀a o,h.get? a=some o→h₁.get? a=some o):h.get? h₁.objs.size=none:=jC (fun a o e=>⟨o,k a o e⟩) (Heap.get?_none_of_le (Nat.le_refl _))
theorem Po.alloc {h₁:Heap}{n:Nat}{o:ae}{ob:Obj}(h:Po W θ s (.ref σ.length) (σ++[o]) Q)(R:aq W θ σ s.heap)(k:∀a o,s.heap.get? a=some o→h₁.get? a=some o)
  (dT:ob.isFreed=false)(x:∀θ',θ <+:θ'→OR W (h₁.push ob) θ' (h₁.objs.size,h₁.objs.size) o):Q (.ref h₁.objs.size) {s with heap:=h₁.push ob,toks:=n}:=
 h.new R (fun a o e=>cT _ _ _ _ (k a o e)) (Pt k) x
theorem uM {h h':Heap}(k:∀a o,h.get? a=some o→h'.get? a=some o):∀a o,h.get? a=some o→bP o→h'.get? a=some o:=fun a o e _=>k a o e
theorem Po.list {h₁:Heap}{n:Nat}{vs:List AV}{items:Array Value}(h:Po W θ s (.ref σ.length) (σ++[.list vs]) Q)(R:aq W θ σ s.heap)(k:∀a o,s.heap.get? a=some o→h₁.get? a=some o)
  (hv:aC s.heap θ vs items.toList)(hl:vs.length≤3000000):Q (.ref h₁.objs.size) {s with heap:=h₁.push {cls:=.type "list",data:=.seq items},toks:=n}:=
 h.alloc (o:=.list vs) R k rfl fun θ' hp=>⟨rfl,items,⟨_,Heap.get?_push_size _ rfl⟩,hv.keep hp (uM fun a o e=>cT _ _ _ _ (k a o e)),hl⟩
theorem yQ {k:Int}{n j:Nat}(e:dK k n=some j):j<n∧k<n∧-(n:Int)≤k∧((0≤k∧j=k.toNat)∨(k<0∧j=(k+n).toNat)):=
 yA e (fun h e=>yA e (fun h' e=>by cases e;exact⟨(Int.toNat_lt h).mpr h',h',Int.le_trans (Int.neg_nonpos_of_nonneg (Int.natCast_nonneg n)) h,.inl ⟨h,rfl⟩⟩) fun _ e=>aK e)
  fun h e=>yA e (fun h' e=>by cases e;exact⟨(Int.toNat_lt h').mpr (by have:=Int.add_lt_add_right (Int.not_le.mp h) (n:Int);rwa [Int.zero_add]at this),Int.lt_of_lt_of_le (Int.not_le.mp h) (Int.natCast_nonneg n),Int.le_of_sub_nonneg (by rw[Int.sub_neg];exact h'),.inr ⟨Int.not_le.mp h,rfl⟩⟩) fun _ e=>aK e
theorem Mu {k:Int}{n j:Nat}(e:dK k n=some j):seqIndex? k n=some j:=by
 obtain⟨h1,h2,h3,⟨h4,rfl⟩ | ⟨h4,rfl⟩⟩:=yQ e
 ·unfold seqIndex?
  rw[if_neg (Int.not_lt.mpr h4)]
  exact if_pos (by simp;lia)
 ·unfold seqIndex?
  rw[if_pos h4]
  exact if_pos (by simp;lia)
theorem At (R:aq W θ σ s.heap){r:Nat}{o:ae}(e:σ[r]?=some o){v:Value}(hv:VR s.heap θ (.ref r) v):∃l,v=.ref l.1∧θ[r]?=some l∧OR W s.heap θ l o:=by
 refine am (R.at e) fun l hl h=>?_
 refine am hv fun l' cQ e29=>?_
 clear hv
 subst e29
 cases Option.some.inj (hl.symm.trans cQ)
 exact⟨l,rfl,hl,h⟩
theorem dM (R:aq W θ σ s.heap){r:Nat}{vs:List AV}(e:σ[r]?=some (.list vs)){v:Value}(hv:VR s.heap θ (.ref r) v):∃a items,v=.ref a∧θ[r]?=some (a,a)∧s.heap.IsList a items∧aC s.heap θ vs items.toList∧items.size=vs.length∧vs.length≤3000000:=by
 refine ah fun aa=>?_
 obtain⟨l,e18,hl,e1,i,li,vi,hn⟩:=At R e hv
 clear hv
 subst e18
 exact aa (⟨l.1,i,rfl,hl.trans (congrArg some (Prod.ext rfl e1)),li.isList,vi,by rw[vi.length,Array.length_toList],hn⟩)
theorem Uo (R:aq W θ σ s.heap){r:Nat}{vs:List AV}(e:σ[r]?=some (.ext vs)){v:Value}(hv:VR s.heap θ (.ref r) v):∃a items,v=.ref a∧θ[r]?=some (a,a)∧s.heap.IsList a items∧aC s.heap θ vs items.toList∧items.size=vs.length∧vs.length≤3000000:=by
 refine ah fun aa=>?_
 obtain⟨l,e18,hl,e1,i,li,vi,hn⟩:=At R e hv
 clear hv
 subst e18
 exact aa (⟨l.1,i,rfl,hl.trans (congrArg some (Prod.ext rfl e1)),li,vi,by rw[vi.length,Array.length_toList],hn⟩)
theorem ti (R:aq W θ σ s.heap){r:Nat}{vs:List AV}(e:σ[r]?=some (.list vs)){v:Value}(hv:VR s.heap θ (.ref r) v):∃a items n,v=.ref a∧θ[r]?=some (a,a)∧s.heap.get? a=some {cls:=.type "list",data:=.seq items n}∧aC s.heap θ vs items.toList∧items.size=vs.length∧vs.length≤3000000:=by
 refine ah fun aa=>?_
 obtain⟨l,e18,hl,e1,i,⟨n,li⟩,vi,hn⟩:=At R e hv
 clear hv
 subst e18
 exact aa (⟨l.1,i,n,rfl,hl.trans (congrArg some (Prod.ext rfl e1)),li,vi,by rw[vi.length,Array.length_toList],hn⟩)
theorem lr (R:aq W θ σ s.heap){r:Nat}{kvs:List (AV×AV)}(e:σ[r]?=some (.dict kvs)){v:Value}(hv:VR s.heap θ (.ref r) v):∃a,v=.ref a∧θ[r]?=some (a,a)∧DR W s.heap θ a kvs:=by
 refine pN (At R e hv) fun l e19 hl e1 D=>?_
 clear hv
 subst e19
 exact⟨l.1,rfl,hl.trans (congrArg some (Prod.ext rfl e1)),D⟩
theorem eN {α β:Type}{o:Option α}{b:Option β}{f:α→Option β}{r:β}{g:Prop}(h:Option.elim o b f=some r)(k1:∀a,o=some a→f a=some r→g)(k2:o=none→b=some r→g):g:=by
 cases o with
 |none=>exact k2 rfl h
 |some a=>exact k1 a rfl h
theorem lR {o:ae}{v:AV}(e:alloc o σ=some (v,σ')):v=.ref σ.length∧σ'=σ++[o]:=by
 cases Option.some.inj e
 exact⟨rfl,rfl⟩
theorem cL {p:Prop}{i:Decidable p}(h:@decide p i=true):p:=of_decide_eq_true h
theorem KH {i:Int}(h:0≤i)(h':i<1000):i.natAbs<1000:=Int.ofNat_lt.mp (by rw[Int.natAbs_of_nonneg h];exact h')
theorem NJ {op:Operator}{o:gc}(ho:AQ op=some o)(R:aq W θ σ s.heap){a b:AV}{x y:Value}(hx:VR s.heap θ a x)(hy:VR s.heap θ b y){v:AV}(e0:fR o a b σ=some (v,σ'))(h:Po W θ s v σ' Q):
  wpAny (model W.prog W.w) A (binaryOp op x y) Q E s:=by
 refine eN (o:=bz a) e0 (fun i h1 e1=>?_) fun _ e1=>?_
 ·cases cy h1
  refine am (a5 e1) fun j h2 e2=>?_
  cases cy h2
  refine am (bY e2) fun r e3 hr=>?_
  cases hr
  obtain⟨t,rfl⟩:=hx
  obtain⟨u,rfl⟩:=hy
  have fin:∀{n:Nat},Q (.int r s.toks) {s with toks:=n}:=h.same R ⟨_,rfl⟩
  have e':HM o i j=some r:=e3
  cases op<;>first |exact aK ho |cases Option.some.inj ho
  ·cases Option.some.inj e'
   exact PySem.P.add_int fin
  ·cases Option.some.inj e'
   exact PySem.P.sub_int fin
  ·obtain⟨q,e⟩:=b7 e'
   cases Option.some.inj e
   exact PySem.P.mul_int fin (IntMulOk.of_left (intBits_le (Nat.lt_trans (cL q) (by decide))))
  ·obtain⟨q,e⟩:=b7 e'
   cases Option.some.inj e
   exact mod_int' (Int.ne_of_gt (cL q).1) fin
  ·obtain⟨q,e⟩:=b7 e'
   obtain⟨q1,q2⟩:=bo q
   cases Option.some.inj e
   obtain⟨q1,q1'⟩:=cL q1
   obtain⟨q2,q2'⟩:=cL q2
   refine pow_int_small q2 (Int.le_of_lt (Int.lt_trans q2' (by decide))) ?_ fin
   exact Nat.lt_trans (KH q1 q1') (by decide)
  ·obtain⟨q,e⟩:=b7 e'
   obtain⟨q1,q2⟩:=bo q
   cases Option.some.inj e
   obtain⟨q1,q1'⟩:=cL q1
   obtain⟨q2,q2'⟩:=cL q2
   refine lshift_int_small q2 (Int.le_of_lt (Int.lt_trans q2' (by decide))) ?_ fin
   exact Nat.lt_trans (KH q1 q1') (by decide)
  ·cases Option.some.inj e'
   exact or_int fin
  ·obtain⟨q,e⟩:=b7 e'
   obtain⟨q1,q2⟩:=cL q
   cases Option.some.inj e
   exact floordiv_int (Int.ne_of_gt q1) fin (.inl (PyProof.noPylong_small (by lia)))
 ·obtain⟨CP,e2⟩:=b7 e1
  obtain⟨us,g1,e3⟩:=a5 e2
  obtain⟨ws,g2,e4⟩:=a5 e3
  obtain⟨q,e5⟩:=b7 e4
  obtain⟨i,rfl,h1⟩:=hY g1
  obtain⟨j,rfl,h2⟩:=hY g2
  obtain⟨p,it,rfl,_,⟨o1,iN,hK,n1,Q0⟩,v1,s1,_⟩:=dM R h1 hx
  obtain⟨p2,it2,rfl,_,⟨o2,qj,uh,n2,uj⟩,v2,s2,_⟩:=dM R h2 hy
  have CP:op=.Add:=by cases op<;>first |rfl |exact aK ho | (cases Option.some.inj ho;exact cz CP)
  subst CP
  obtain⟨rfl,rfl⟩:=lR e5
  have q':=cL q
  refine concat_meets ⟨_,iN,hK⟩ ⟨_,qj,uh⟩ noFill_list_add seq_list_add F.slot_list_add F.entry_list_add (F.args_list_add_2 _ _) (list_addW p p2 it it2 n1 n2 o1.dict o2.dict o1.slots o2.slots (Nat.le_trans (by lia) (mr (Nat.le_refl _)))) ⟨?_,?_,?_⟩
  ·rw[iN,←hK,←Q0]
  ·rw[qj,←uh,←uj]
  ·exact h.list R (fun a o e=>e) (by rw[Array.toList_append];exact v1.append v2) (by rw[List.length_append];lia)
theorem tC (R:aq W θ σ s.heap){a:AV}{x:Value}(hx:VR s.heap θ a x){b:Bool}(e:truthy σ a=some b){Q:Bool→Shared→Prop}(h:∀n,Q b {s with toks:=n}):wpAny (model W.prog W.w) A (PySem.truthy x) Q E s:=by
 obtain h':Q b s:=h s.toks
 cases a with
 |none=>cases hx;cases Option.some.inj e;exact fun _ _ _=>h'
 |bool i=>cases hx;cases Option.some.inj e;exact wpAny_truthy_bool h'
 |int i=>obtain⟨t,rfl⟩:=hx;cases Option.some.inj e;exact PySem.P.truthy_int h'
 |str _=>exact aK e
 |tup _=>exact aK e
 |ref r=>
  refine am (bY e) fun vs g e29=>?_
  clear e h'
  subst e29
  refine am (a5 g) fun o hs g2=>?_
  cases gP g2
  refine cq (dM R hs hx) fun p it e29 _ l1 v1 s1 hn=>?_
  clear hx
  subst e29
  refine wpAny_truthy_list l1 (by have:(2:Int)^63=9223372036854775808:=(by decide);lia) ?_
  obtain e1:it.isEmpty=vs.isEmpty:=by
   cases vs with
   |nil=>exact congrArg (fun n=>decide (n=0)) s1
   |cons _ _=>exact congrArg (fun n=>decide (n=0)) s1
  rw[e1]
  exact h _
theorem Ir (ok:bp A d)(R:aq W θ σ s.heap){a b:AV}{x y:Value}(hx:VR s.heap θ a x)(hy:VR s.heap θ b y)(sys:∀a,W.hB.get? a=none→(a==sysModules)=false){r:Bool}(e0:qp σ a b=some r):
  ((∀n,Q (.bool r) {s with toks:=n})→wpAny (model W.prog W.w) A (compareOp .In x y) Q E s)∧((∀n,Q (.bool (!r)) {s with toks:=n})→wpAny (model W.prog W.w) A (compareOp .NotIn x y) Q E s):=by
 obtain hu:A.in1.units+3<cLine:=Nat.lt_of_le_of_lt (Nat.add_le_add_left (by decide) _) ok.in1
 refine eN (o:=dp b) e0 (fun l h1 e=>?_) fun _ e1=>?_
 ·cases fQ h1
  refine bH hy fun p it e29 ht v1=>?_
  subst e29
  refine am (Kz (A:=A.in1) R hx hu v1 e) fun f hf hr=>?_
  obtain iH:∀y,y∈it→SeqAt.EqAt A.in1 s y x (f y):=fun y hy=>hf y (Array.mem_toList_iff.mpr hy)
  obtain gy:it.any f=r:=by rw[←hr,Array.any_toList]
  exact⟨fun h=>SeqAt.in_tupleAt f ht iH (by rw[gy];exact h s.toks),fun h=>SeqAt.notIn_tupleAt f ht iH (by rw[gy];exact h s.toks)⟩
 ·refine am (a5 e1) fun q h1 e2=>?_
  cases eZ h1
  refine am (a5 e2) fun ob hs e3=>?_
  refine eN (o:=bX ob) e3 (fun vs h1 e=>?_) fun _ e4=>?_
  ·cases gP h1
   refine cq (dM R hs hy) fun p it e29 _ l1 v1 s1 hn=>?_
   subst e29
   refine am (Kz (A:=A.in1) R hx hu v1 e) fun f hf hr=>?_
   obtain iH:∀y,y∈it→SeqAt.EqAt A.in1 s y x (f y):=fun y hy=>hf y (Array.mem_toList_iff.mpr hy)
   have gy:it.any f=r:=by rw[←hr,Array.any_toList]
   exact⟨fun h=>SeqAt.in_listAt f l1 iH (by rw[gy];exact h s.toks),fun h=>SeqAt.notIn_listAt f l1 iH (by rw[gy];exact h s.toks)⟩
  ·refine am (a5 e4) fun kvs h1 e5=>?_
   cases jy h1
   obtain⟨ko,e6⟩:=b7 e5
   cases Option.some.inj e6
   refine cW (lr R hs hy) fun p e19 hl D=>?_
   clear hy
   subst e19
   have L:=D.look ok (sys _ (R.fresh _ _ _ hs hl rfl).1) hx ko
   exact⟨fun h=>L.isin h,fun h=>L.notin h⟩
theorem KL {h:Heap}{a:AV}{x:Value}(hx:VR h θ a x):(x==Value.none)=gB a:=by
 cases a
 ·cases hx;rfl
 ·cases hx;rfl
 ·obtain⟨t,rfl⟩:=hx;rfl
 ·obtain⟨_,_,_,rfl⟩:=hx;rfl
 ·obtain⟨_,_,rfl,_⟩:=hx;rfl
 ·obtain⟨_,_,rfl⟩:=hx;rfl
theorem yw {h:Heap}{a b:AV}{x y:Value}(hx:VR h θ a x)(hy:VR h θ b y){f:Int→Int→Bool}{r:Bool}(e:((bz a).bind fun x=>(bz b).map fun y=>f x y)=some r):∃i j t u,x=.int i t∧y=.int j u∧r=f i j:=by
 refine am (a5 e) fun i h1 e2=>?_
 refine am (bY e2) fun j h2 e29=>?_
 clear e2 e
 subst e29
 refine ah fun aa=>?_
 cases cy h1
 cases cy h2
 obtain⟨t,rfl⟩:=hx
 obtain⟨u,rfl⟩:=hy
 exact aa (⟨i,j,t,u,rfl,rfl,rfl⟩)
theorem jB (ok:bp A d)(R:aq W θ σ s.heap)(sys:∀a,W.hB.get? a=none→(a==sysModules)=false){op:CmpOp}{a b:AV}{x y:Value}(hx:VR s.heap θ a x)(hy:VR s.heap θ b y){r:Bool}(e:fA σ (ik op) a b=some r)
  (h:∀n,Q (.bool r) {s with toks:=n}):wpAny (model W.prog W.w) A (compareOp op x y) Q E s:=by
 obtain hs:Q (.bool r) s:=h s.toks
 cases op with
 |Eq=>exact(IR ok R hx hy e).1 _ _ _ _ hs
 |NotEq=>
  refine am (bY e) fun q e1 e29=>?_
  subst e29
  exact(IR ok R hx hy e1).2 _ _ _ _ hs
 |Lt=>obtain⟨i,j,t,u,rfl,rfl,rfl⟩:=yw hx hy e;exact PySem.P.lt_int hs
 |LtE=>obtain⟨i,j,t,u,rfl,rfl,rfl⟩:=yw hx hy e;exact PySem.P.le_int hs
 |Gt=>obtain⟨i,j,t,u,rfl,rfl,rfl⟩:=yw hx hy e;exact PySem.P.gt_int hs
 |GtE=>obtain⟨i,j,t,u,rfl,rfl,rfl⟩:=yw hx hy e;exact PySem.P.ge_int hs
 |Is=>
  obtain⟨q,rfl⟩:=xC e
  cases uF q
  subst hy
  exact is_none (by rw[KL hx];exact hs)
 |IsNot=>
  obtain⟨q,rfl⟩:=xC e
  cases uF q
  subst hy
  exact isNot_none (by rw[KL hx];exact hs)
 |In=>exact(Ir ok R hx hy sys e).1 h
 |NotIn=>
  refine am (bY e) fun q e1 e29=>?_
  clear e hs
  subst e29
  exact(Ir ok R hx hy sys e1).2 h
theorem Sg (ok:bp A d)(R:aq W θ σ s.heap)(sys:∀a,W.hB.get? a=none→(a==sysModules)=false){a b:AV}{x y:Value}(hx:VR s.heap θ a x)(hy:VR s.heap θ b y){v:AV}(e0:eh σ a b=some v)(h:Po W θ s v σ Q):
  wpAny (model W.prog W.w) A (getItem x y) Q E s:=by
 obtain big:(2:Int)^63=9223372036854775808:=by decide
 refine eN (o:=dp a) e0 (fun vs h1 e1=>?_) fun _ e1=>?_
 ·cases fQ h1
  refine bH hx fun p it e29 ht v1=>?_
  subst e29
  refine am (a5 e1) fun k h1 e3=>?_
  cases cy h1
  obtain⟨u,rfl⟩:=hy
  obtain⟨q,e4⟩:=b7 e3
  refine am (a5 e4) fun j e1 e2=>?_
  refine am (v1.get e2) fun z hz vz=>?_
  have hl:vs.length=it.size:=by rw[v1.length,Array.length_toList]
  refine tK (yQ e1) fun n1 n2 n3 _=>?_
  obtain q':=cL q
  exact PyProof.Rows.getItem_tuple ht (by lia) (by lia) (by rw[←hl];exact Mu e1) (by rw[←Array.getElem?_toList];exact hz) (h.at R vz)
 ·refine am (a5 e1) fun r h1 e2=>?_
  cases eZ h1
  refine am (a5 e2) fun ob hs e3=>?_
  refine eN (o:=bX ob) e3 (fun vs h1 e4=>?_) fun _ e4=>?_
  ·cases gP h1
   refine cq (dM R hs hx) fun p it e29 _ l1 v1 s1 hn=>?_
   subst e29
   refine am (a5 e4) fun k h1 e5=>?_
   cases cy h1
   obtain⟨u,rfl⟩:=hy
   refine am (a5 e5) fun j e1 e2=>?_
   refine am (v1.get e2) fun z hz vz=>?_
   obtain⟨n1,n2,n3,n4 |n4⟩:=yQ e1
   ·exact wpAny_getItem_list l1 n4.1 (by lia) (by rw[←n4.2,←Array.getElem?_toList];exact hz) (h.at R vz)
   ·exact wpAny_getItem_list_neg l1 n4.1 (by lia) (by lia) (by rw[s1,←n4.2,←Array.getElem?_toList];exact hz) (h.at R vz)
  ·refine am (a5 e4) fun kvs h1 e5=>?_
   cases jy h1
   obtain⟨ko,e⟩:=b7 e5
   refine cW (lr R hs hx) fun p e19 hl D=>?_
   clear hx
   subst e19
   exact(D.look ok (sys _ (R.fresh _ _ _ hs hl rfl).1) hy ko).item e fun z n vz=>h.same R vz
theorem V1 {l:List Value}{lo hi:Option Int}{a b:Nat}(h1:lo.elim 0 (clipAt l.length)=min a l.length)(h2:hi.elim l.length (clipAt l.length)=min b l.length):
  (l.drop (lo.elim 0 (clipAt l.length))).take (hi.elim l.length (clipAt l.length) - lo.elim 0 (clipAt l.length))=(l.take b).drop a:=by
 rw[h1,h2,←List.drop_take]
 by_cases hb:b≤l.length
 ·rw[Nat.min_eq_left hb]
  by_cases ha:a≤l.length
  ·rw[Nat.min_eq_left ha]
  ·rw[List.drop_eq_nil_of_le,List.drop_eq_nil_of_le]
   ·exact Nat.le_trans (List.length_take_le _ _) (Nat.le_trans hb (Nat.le_of_not_le ha))
   ·rw[Nat.min_eq_right (Nat.le_of_not_le ha)];exact List.length_take_le' _ _
 ·rw[Nat.min_eq_right (Nat.le_of_not_le hb),List.take_length,List.take_of_length_le (Nat.le_of_not_le hb)]
  by_cases ha:a≤l.length
  ·rw[Nat.min_eq_left ha]
  ·rw[Nat.min_eq_right (Nat.le_of_not_le ha),List.drop_length,List.drop_eq_nil_of_le (Nat.le_of_not_le ha)]
theorem Pe {n:Nat}{k:Int}(h:0≤k):clipAt n k=min k.toNat n:=by
 refine xj (Int.eq_ofNat_of_zero_le h) fun m e19=>?_
 subst e19
 unfold clipAt
 rw[if_neg (Int.not_lt.mpr h)]
 show(max 0 (min (m:Int) n)).toNat=min m n
 rw[show(min (m:Int) n)=((min m n:Nat):Int)from(Lean.Omega.Int.ofNat_min m n).symm,Int.max_eq_right (Int.natCast_nonneg _)]
 rfl
theorem L9 {h:Heap}{n:Nat}{a:AV}{x:Value}(hx:VR h θ a x){k:Nat}(dn:Nat)(hd:dn=0∨n≤dn)(e:bound dn a=some k):∃p,IsPart x p∧p.elim (min dn n) (clipAt n)=min k n:=by
 have e':(bif gB a then some dn else(bz a).bind fun k=>gO (decide (0≤k)) (some k.toNat))=some k:=e
 cases q:gB a with
 |true=>rw[q]at e';cases uF q;cases hx;cases Option.some.inj e';exact⟨none,.none,rfl⟩
 |false=>
  rw[q]at e'
  refine am (a5 e') fun i h1 e2=>?_
  cases cy h1
  obtain⟨t,rfl⟩:=hx
  obtain⟨q,e3⟩:=b7 e2
  cases Option.some.inj e3
  exact⟨some i,.int i t,Pe (cL q)⟩
theorem Mz (R:aq W θ σ s.heap){lo hi:AV}{y z:Value}{vs:List AV}{p:Addr}{it:Array Value}(l1:s.heap.IsList p it)(v1:aC s.heap θ vs it.toList)(s1:it.size=vs.length)(hn:vs.length≤3000000)
  (hy:VR s.heap θ lo y)(hz:VR s.heap θ hi z){a b:Nat}(ea:bound 0 lo=some a)(eb:bound vs.length hi=some b){v:AV}(e:alloc (.list ((vs.take b).drop a)) σ=some (v,σ'))(h:Po W θ s v σ' Q):
  ∃l items lo hi,Value.ref p=.ref l∧s.heap.IsList l items∧items.size≤sizeLine∧IsPart y lo∧IsPart z hi∧
    Q (.ref (s.heap.objs.size+1)) {s with heap:=(s.heap.push {cls:=.type "slice",data:=.fields #[y,z,.none]}).push {cls:=.type "list",data:=.seq (slicePick items lo hi none)}}:=by
 refine ah fun aa=>?_
 refine am (L9 (n:=it.size) hy 0 (.inl rfl) ea) fun pl i1 c1=>?_
 refine am (L9 (n:=it.size) hz vs.length (.inr (Nat.le_of_eq s1)) eb) fun pu i2 c2=>?_
 refine aa ?_
 refine⟨p,it,pl,pu,rfl,l1,by rw[s1];exact yF hn,i1,i2,?_⟩
 simp only[alloc,Option.some.injEq,Prod.mk.injEq]at e
 refine ah fun aa=>?_
 obtain⟨rfl,rfl⟩:=e
 obtain e1:slicePick it pl pu none=((it.toList.take b).drop a).toArray:=by
  rw[slicePick_plain]
  congr 1
  obtain hl:it.size=it.toList.length:=Array.length_toList.symm
  refine(hl).symm▸?_
  rw[hl]at c1 c2
  rw[Nat.zero_min]at c1
  rw[←s1,hl,Nat.min_self]at c2
  exact V1 c1 c2
 refine aa ?_
 refine(e1).symm▸?_
 have:=h.list (h₁:=s.heap.push {cls:=.type "slice",data:=.fields #[y,z,.none]}) (n:=s.toks) (items:=((it.toList.take b).drop a).toArray) R (cT _ _) (by
  simpa using(v1.take b).drop a) (by rw[List.length_drop,List.length_take];exact Nat.le_trans (Nat.sub_le ..) (Nat.le_trans (Nat.min_le_right ..) hn))
 rw[Heap.size_push]at this
 exact this
theorem V0 (R:aq W θ σ s.heap){o lo hi:AV}{x y z:Value}(hx:VR s.heap θ o x)(hy:VR s.heap θ lo y)(hz:VR s.heap θ hi z){v:AV}(e0:lA σ o lo hi=some (v,σ'))(h:Po W θ s v σ' Q):
  ∃l items lo hi,x=.ref l∧s.heap.IsList l items∧items.size≤sizeLine∧IsPart y lo∧IsPart z hi∧
    Q (.ref (s.heap.objs.size+1)) {s with heap:=(s.heap.push {cls:=.type "slice",data:=.fields #[y,z,.none]}).push {cls:=.type "list",data:=.seq (slicePick items lo hi none)}}:=by
 refine am (a5 e0) fun r h1 e1=>?_
 cases eZ h1
 refine am (a5 e1) fun ob hs e2=>?_
 refine am (a5 e2) fun vs h1 e3=>?_
 refine am (a5 e3) fun a ea e4=>?_
 refine am (a5 e4) fun b eb e=>?_
 refine eN (o:=bX ob) h1 (fun l h1 h2=>?_) fun _ h2=>?_
 ·refine ah fun aa=>?_
  cases Option.some.inj h2
  cases gP h1
  refine aa ?_
  refine cq (dM R hs hx) fun p it e29 _ l1 v1 s1 hn=>?_
  clear aa
  subst e29
  exact Mz R l1 v1 s1 hn hy hz ea eb e h
 ·cases HE h2
  refine cq (Uo R hs hx) fun p it e29 _ l1 v1 s1 hn=>?_
  clear hx
  subst e29
  exact Mz R l1 v1 s1 hn hy hz ea eb e h
theorem Po.turnList {av:AV}{v:Value}{n:Nat}{r:Nat}{a:Addr}{vs:List AV}{items:Array Value}{h':Heap}{o₀:ae}(h:Po W θ s av (σ.set r (.list vs)) Q)(R:aq W θ σ s.heap)(hi:σ[r]?=some o₀)(yf:o₀.live=true)(hl:θ[r]?=some (a,a))(hs:Heap.SameBut a s.heap h')
  (he:h'.PlainList a items)(hv:aC s.heap θ vs items.toList)(hn:vs.length≤3000000)(hx:VR s.heap θ av v):Q v {s with heap:=h',toks:=n}:=by
 have yj:own θ a:=⟨(a,a),List.mem_of_getElem? hl,.inl rfl⟩
 refine ah fun aa=>?_
 refine am (R.notTuple yj) fun oa CO Ch=>?_
 obtain ht:∀b o,s.heap.get? b=some o→bP o→h'.get? b=some o:=fun b o e hc=>by
  rw[hs.2 b ?_];exact e
  rintro rfl
  rw[CO]at e
  refine aR e ?_
  clear e
  rintro rfl
  exact Ch hc.1
 refine aa ?_
 refine h v θ _ ⟨List.prefix_refl _,fun _ h=>.inl h,fun b o e ho _=>?_,fun b o e=>?_,rfl,rfl⟩ (R.turn hi yf hl (.inl rfl) hs ⟨rfl,items,he,hv.keep (List.prefix_refl _) ht,hn⟩) (hx.keep (List.prefix_refl _) ht)
 ·rw[←e];exact hs.2 b fun q=>ho (q▸yj)
 ·refine ah fun aa=>?_
  by_cases q:b=a
  ·refine xj he fun n e'=>?_
   exact aa (⟨_,q▸e'⟩)
  ·exact aa (⟨o,(hs.2 b q).trans e⟩)
theorem TA (f:Array Value→Array Value)(items:Array Value)(n:Nat):∃n',Obj.mapSeq f {cls:=.type "list",data:=.seq items n}={cls:=.type "list",data:=.seq (f items) n'}:=⟨_,by simp[Obj.mapSeq];rfl⟩
theorem AB {h:Heap}{a:Addr}{items:Array Value}{n:Nat}(f:Array Value→Array Value)(e:h.get? a=some {cls:=.type "list",data:=.seq items n}):(h.update a (Obj.mapSeq f)).PlainList a (f items):=by
 obtain⟨n',q⟩:=TA f items n
 exact⟨n',by rw[Heap.get?_update_self _ e (by rw[q];rfl),q]⟩
end
noncomputable def gT:BI→Value
 |.len=>.builtin "len"
 |.min=>.builtin "min"
 |.sorted=>.builtin "sorted"
 |.listrange=>.type "list"
 |.tuple=>.type "tuple"
 |.dict=>.type "dict"
 |.abs=>.builtin "abs"
 |.int=>.type "int"
section
variable {W:Wd}{θ θ':Th}{σ σ':St}{s s':Shared}{A:Around}{E:Value→Shared→Prop}{Q:Value→Shared→Prop}{d:Nat}
theorem aC.one {h:Heap}{a:AV}{vs:List Value}(x:aC h θ [a] vs):∃v,vs=[v]∧VR h θ a v:=by
 cases vs with
 |nil=>exact x.elim
 |cons v vs=>cases vs with
  |nil=>exact⟨v,rfl,x.1⟩
  |cons _ _=>exact x.2.elim
theorem TO {l:List AV}:∀{m r:Int},qx m l=some r→∃ns:List Int,l=ns.map .int∧r=ns.foldl (fun m x=>if x<m then x else m) m:=by
 induction l with
 |nil=>exact fun h=>⟨[],rfl,(Option.some.inj h).symm⟩
 |cons a l ih=>
  intro m r h
  refine am (a5 (show(bz a).bind (fun x=>qx (if x<m then x else m) l)=some r from h)) fun x h1 h2=>?_
  refine am (ih h2) fun ns e h3=>?_
  exact⟨x::ns,by rw[e,cy h1];rfl,h3⟩
theorem J4 {h:Heap}:∀{ns:List Int} {vs:List Value},aC h θ (ns.map .int) vs→∃ts:List (Int×Tok),vs=ts.map (fun p=>Value.int p.1 p.2)∧ts.map (·.1)=ns
 | [],[],_=>⟨[],rfl,rfl⟩
 |n::ns,v::vs,x=>by
  refine ah fun aa=>?_
  refine am (J4 (ns:=ns) x.2) fun ts e1 e2=>?_
  obtain⟨t,e⟩:=x.1
  exact aa (⟨(n,t)::ts,by rw[e,e1];rfl,by rw[List.map_cons,e2]⟩)
 | [],_::_,x=>x.elim
 |_::_,[],x=>x.elim
theorem Hx (f:Nat→Int):∀n,f (argBest (fun i j=>decide (f i<f j)) n)=((List.range n).map fun i=>f (i+1)).foldl (fun m x=>if x<m then x else m) (f 0)
 |0=>rfl
 |n+1=>by
  obtain ih:=Hx f n
  rw[List.range_succ,List.map_append,List.foldl_append,←ih]
  simp only[List.map_cons,List.map_nil,List.foldl_cons,List.foldl_nil]
  show f (if decide (f (n+1)<f (argBest (fun i j=>decide (f i<f j)) n))=true then n+1 else argBest (fun i j=>decide (f i<f j)) n)=_
  by_cases q:f (n+1)<f (argBest (fun i j=>decide (f i<f j)) n)
  ·rw[if_pos (decide_eq_true q),if_pos q]
  ·rw[if_neg (by simpa using q),if_neg q]
theorem Ti (R:aq W θ σ s.heap){r:Nat}{vs:List AV}(hs:σ[r]?=some (.list vs)){x:Value}(hx:VR s.heap θ (.ref r) x)(h:Po W θ s (.int vs.length) σ Q):wpAny (model W.prog W.w) A (call (.builtin "len") [x]) Q E s:=by
 refine ah fun aa=>?_
 refine cq (dM R hs hx) fun p it e29 _ l1 v1 s1 hn=>?_
 clear hx
 subst e29
 obtain big:(2:Int)^63=9223372036854775808:=by decide
 exact aa (call_len_list l1 (by lia) (h.same R ⟨_,by rw[s1]⟩))
theorem TN (ok:bp A d)(R:aq W θ σ s.heap){r:Nat}{vs:List AV}{a m:Int}(hs:σ[r]?=some (.list (.int a::vs)))(hm:qx a vs=some m){x:Value}(hx:VR s.heap θ (.ref r) x)(h:Po W θ s (.int m) σ Q):
  wpAny (model W.prog W.w) A (call (.builtin "min") [x]) Q E s:=by
 refine ah fun aa=>?_
 refine cq (dM R hs hx) fun p it e29 _ l1 v1 s1 hn=>?_
 clear hx
 subst e29
 refine am (TO hm) fun ns e19 e29=>?_
 clear hn s1 hm hs
 subst e19
 subst e29
 refine am (J4 (ns:=a::ns) v1) fun ts e1 e2=>?_
 obtain eit:it=intItems ts.toArray:=by
  unfold intItems
  rw[←Array.toList_inj,e1];simp
 clear e1 v1
 subst eit
 have hsz:ts.toArray.size=ns.length+1:=by rw[List.size_toArray,←List.length_map (f:=(·.1)),e2];rfl
 have JE:∀i,i<ns.length+1→numAt ts.toArray i=(a::ns).getD i 0:=fun i hi=>by
  unfold numAt
  refine(List.getElem?_toArray).symm▸?_
  refine(e2)▸?_
  refine(List.getD_eq_getElem?_getD).symm▸?_
  exact(List.getElem?_map).symm▸rfl
 refine aa ?_
 refine min_intList ok.h l1 (by lia) fun v h' tk hv hk=>?_
 obtain⟨t,e18⟩:=intItems_at hv
 clear hv
 subst e18
 refine h.ext R hk ⟨t,?_⟩
 congr 1
 rw[hsz,Nat.add_sub_cancel,Hx (numAt ts.toArray)]
 obtain l:(List.range ns.length).map (fun i=>numAt ts.toArray (i+1))=ns:=by
  apply List.ext_getElem (by simp)
  intro i h1 h2
  simp only[List.getElem_map,List.getElem_range]
  rw[JE _ (by lia),List.getD_cons_succ,List.getD_eq_getElem?_getD,List.getElem?_eq_getElem h2];rfl
 rw[l,JE 0 (by lia)];rfl
theorem Xr (R:aq W θ σ s.heap){r:Nat}{vs:List AV}(hs:σ[r]?=some (.list vs)){x:Value}(hx:VR s.heap θ (.ref r) x)(h:Po W θ s (.tup vs) σ Q):wpAny (model W.prog W.w) A (call (.type "tuple") [x]) Q E s:=by
 refine ah fun aa=>?_
 refine cq (dM R hs hx) fun p it e29 _ l1 v1 s1 hn=>?_
 clear hx
 subst e29
 refine aa ?_
 refine call_tuple_list l1 (fun h' hk=>?_) (by rw[s1];exact yF hn)
 obtain k:∀a o,s.heap.get? a=some o→(h'.push {cls:=.type "tuple",data:=.seq it}).get? a=some o:=fun a o e=>cT _ _ _ _ (hk a o e)
 exact h.ext (n:=s.toks) R k ⟨_,it,rfl,⟨_,Heap.get?_push_size _ rfl,rfl,_,rfl⟩,v1.keep (List.prefix_refl _) (uM k)⟩
theorem Nh (R:aq W θ σ s.heap){i:Int}{x:Value}(hx:VR s.heap θ (.int i) x)(h:Po W θ s (.int i.natAbs) σ Q):wpAny (model W.prog W.w) A (call (.builtin "abs") [x]) Q E s:=by
 obtain⟨t,rfl⟩:=hx
 refine call_abs_int fun u tk=>h.same R ⟨u,?_⟩
 congr 1
 split
 ·exact(Int.ofNat_natAbs_of_nonpos (Int.le_of_lt ‹_›)).symm
 ·exact(Int.natAbs_of_nonneg (Int.not_lt.mp ‹_›)).symm
theorem Sl (R:aq W θ σ s.heap){i:Int}{x:Value}(hx:VR s.heap θ (.int i) x)(h:Po W θ s (.int i) σ Q):wpAny (model W.prog W.w) A (call (.type "int") [x]) Q E s:=by
 obtain⟨t,rfl⟩:=hx
 exact call_int_int (h.at R ⟨t,rfl⟩)
theorem Sn (R:aq W θ σ s.heap){b:Bool}{x:Value}(hx:VR s.heap θ (.bool b) x)(h:Po W θ s (.int (if b then 1 else 0)) σ Q):wpAny (model W.prog W.w) A (call (.type "int") [x]) Q E s:=by
 cases hx
 exact call_int_bool (h.same R ⟨_,rfl⟩)
theorem U1 {h:Heap}{a:Int}{acc:Array Value}:∀{n:Nat},ItemsOf (fun i v=>∃t,v=Value.int (a+(i:Int)*1) t) acc n→aC h θ ((List.range n).map fun(k:Nat)=>AV.int (a+(k:Int))) acc.toList:=by
 intro n ⟨h1,h2⟩
 obtain key:∀(m:Nat) (l:List Value),l.length=m→(∀(j:Nat) (v:Value),l[j]?=some v→∃t,v=Value.int (a+(j:Int)) t)→aC h θ ((List.range m).map fun(k:Nat)=>AV.int (a+(k:Int))) l:=by
  intro m
  induction m with
  |zero=>intro l hl _;cases l with
   |nil=>trivial
   |cons _ _=>cases hl
  |succ m ih=>
   intro l hl hv
   obtain hm:l=l.take m++[l[m]'(by lia)]:=by
    rw[List.take_append_getElem]
    rw[List.take_of_length_le (by lia)]
   rw[hm,List.range_succ,List.map_append]
   refine aC.append (ih _ (by rw[List.length_take];lia) fun j v e=>?_) ⟨?_,trivial⟩
   ·obtain hj:j<m:=by
     have:=(List.getElem?_eq_some_iff.mp e).1
     rw[List.length_take]at this
     lia
    rw[List.getElem?_take_of_lt hj]at e
    exact hv j v e
   ·exact hv m _ (List.getElem?_eq_getElem (by lia))
 exact key n acc.toList (by rw[Array.length_toList];exact h1) fun j v e=>by
  obtain⟨t,e'⟩:=h2 j v (by rw[←Array.getElem?_toList];exact e)
  exact⟨t,by rw[e',Int.mul_one]⟩
theorem Mr {a b:Int}:Builtin.Range.rangeSize a b 1=((b - a).toNat:Nat):=by
 unfold Builtin.Range.rangeSize
 rw[if_pos (by decide)]
 split
 ·rw[Int.ediv_one,Int.sub_add_cancel,Int.toNat_of_nonneg (Int.sub_nonneg_of_le (Int.le_of_lt ‹_›))]
 ·rw[Int.toNat_of_nonpos (Int.sub_nonpos_of_le (Int.not_lt.mp ‹_›))];rfl
theorem xq {a:Int}(h:a.natAbs≤1000000): -1000000≤a∧a≤1000000:=
 ⟨Int.neg_le_of_neg_le (Int.le_trans (Int.natAbs_neg a▸Int.le_natAbs) (Int.ofNat_le.mpr h)),Int.le_trans Int.le_natAbs (Int.ofNat_le.mpr h)⟩
theorem Tq (ok:bp A d)(R:aq W θ σ s.heap){a b:Int}{t u v:Tok}{r:Addr}(hr:IsRange s.heap r a b 1 t u v)(ha:a.natAbs≤1000000)(hb:b.natAbs≤1000000)(h:Po W θ s (.ref σ.length) (σ++[.list (di a b)]) Q):
  wpAny (model W.prog W.w) A (call (.type "list") [.ref r]) Q E s:=by
 have⟨a1,a2⟩:=xq ha
 have⟨b1,b2⟩:=xq hb
 refine call_list_range ok.h hr (small_one (Int.le_trans (by decide) a1) (Int.lt_of_le_of_lt a2 (by decide)) (Int.le_trans (by decide) b1) (Int.lt_of_le_of_lt b2 (by decide))) Mr (Int.toNat_le.mpr (Int.le_trans (Int.sub_le_sub b2 a1) (by decide))) fun h' tk acc c hk hl hi=>?_
 refine h.new R hk (Heap.get?_none_of_le (Nat.le_refl _)) fun θ' hp=>⟨rfl,acc,⟨_,hl⟩,U1 hi,?_⟩
 unfold di
 rw[List.length_map,List.length_range]
 exact Nat.le_trans (Int.toNat_le.mpr (Int.le_trans (Int.sub_le_sub b2 a1) (show(1000000:Int) - -1000000≤(2000000:Nat) by decide))) (by decide)
end
section
variable {σ σ':St}{r:Nat}{args:List AV}{v:AV}
theorem yJ {m:Nat}{z:AV×St}(e:d6 m (.ref r) args σ=some z):(∃us,σ[r]?=some (.list us)∧yG m r us args σ=some z)∨∃kvs,σ[r]?=some (.dict kvs)∧xL m kvs args σ=some z:=by
 refine am (a5 (show((σ[r]?).bind fun ob=>Option.elim (bX ob) ((fz ob).bind fun kvs=>xL m kvs args σ) fun vs=>yG m r vs args σ)=some z from e)) fun o h1 h2=>?_
 refine eN (o:=bX o) h2 (fun us h3 h4=>.inl ⟨us,h1.trans (congrArg some (gP h3)),h4⟩) fun _ h3=>?_
 refine am (a5 h3) fun kvs h4 h5=>?_
 exact .inr ⟨kvs,h1.trans (congrArg some (jy h4)),h5⟩
theorem Sp (e:d6 51 (.ref r) args σ=some (v,σ')):∃us x,σ[r]?=some (.list us)∧args=[x]∧us.length<1000000∧v=.none∧σ'=σ.set r (.list (us++[x])):=by
 refine ah fun aa=>?_
 rcases yJ e with⟨us,hs,h⟩ | ⟨_,_,h⟩
 ·refine aa ?_
  refine am (a5 h) fun x h1 h2=>?_
  obtain⟨h3,h4⟩:=b7 h2
  exact⟨us,x,hs,d8 h1,cL h3,eV h4⟩
 ·exact aa (aK h)
theorem Su (e:d6 204 (.ref r) args σ=some (v,σ')):∃x l,σ[r]?=some (.list (x::l))∧args=[.int 0]∧v=x∧σ'=σ.set r (.list l):=by
 refine ah fun aa=>?_
 rcases yJ e with⟨us,hs,h⟩ | ⟨_,_,h⟩
 ·refine aa ?_
  refine am (a5 h) fun x h1 h2=>?_
  refine am (a5 h2) fun k h3 h4=>?_
  refine lH (b7 h4) fun h5 h6=>?_
  refine ah fun aa=>?_
  cases us with
  |nil=>refine aa ?_;exact aK h6
  |cons x l=>refine aa ?_;exact⟨x,l,hs,by rw[d8 h1,cy h3,eq_of_beq h5],eV h6⟩
 ·exact aa (aK h)
theorem Sq (e:d6 81 (.ref r) args σ=some (v,σ')):∃us q ws,σ[r]?=some (.list us)∧args=[.ref q]∧σ[q]?=some (.list ws)∧r≠q∧us.length+ws.length<1000000∧v=.none∧σ'=σ.set r (.list (us++ws)):=by
 refine ah fun aa=>?_
 rcases yJ e with⟨us,hs,h⟩ | ⟨_,_,h⟩
 ·refine aa ?_
  refine am (a5 h) fun x h1 h2=>?_
  refine am (a5 h2) fun q h3 h4=>?_
  refine am (a5 h4) fun ws h5 h6=>?_
  obtain⟨h7,h8⟩:=b7 h6
  refine am (hY h5) fun q' h9 hw=>?_
  refine ah fun aa=>?_
  cases(eZ h3).symm.trans h9
  exact aa (⟨us,q,ws,hs,by rw[d8 h1,eZ h3],hw,fun z=>by rw[z,beq_self_eq_true]at h7;exact cz (bo h7).1,cL (bo h7).2,eV h8⟩)
 ·exact aa (aK h)
theorem Sr (e:d6 91 (.ref r) args σ=some (v,σ')):∃kvs k dv,σ[r]?=some (.dict kvs)∧args=[k,dv]∧cR kvs k=true∧v=(bc kvs k).getD dv∧σ'=σ:=by
 refine ah fun aa=>?_
 rcases yJ e with⟨_,_,h⟩ | ⟨kvs,hs,h⟩
 ·exact aa (aK h)
 ·refine aa ?_
  refine am (a5 h) fun p h1 h2=>?_
  obtain⟨h3,h4⟩:=b7 h2
  exact⟨kvs,p.1,p.2,hs,fL h1,h3,eV h4⟩
end
section
variable {W:Wd}
noncomputable def tP (W:Wd)(T id:String)(B:Builtin)(m:Nat):Prop:=
 ∀{θ:Th} {σ σ':St} {s:Shared} {A:Around} {E Q:Value→Shared→Prop} {d r:Nat} {args:List AV} {v:AV} {ov:Value} {vs:List Value},bp A d→aq W θ σ s.heap→VR s.heap θ (.ref r) ov→aC s.heap θ args vs→
  d6 m (.ref r) args σ=some (v,σ')→Po W θ s v σ' Q→s.TypeIs ov T∧argsOk id ⟨ov::vs,[]⟩∧∃S,MeetsIn W.prog W.w (B ⟨ov::vs,[]⟩) S∧S A (wants Q E) s
theorem VE {n:Nat}(h:0<n):seqIndex? 0 n=some 0:=by
 unfold seqIndex?
 simp[h]
theorem Nl:tP W "list" "list.append" Builtin.«list.append» 51:=by
 intro θ σ σ' s A E Q d r args v ov vs ok R ho hv e h
 refine ah fun aa=>?_
 refine lK (Sp e) fun us x hs e39 hb e59 e69=>?_
 clear e
 subst e39
 subst e59
 subst e69
 refine iu (ti R hs ho) fun a it n e39 hl dT v1 s1 hn=>?_
 clear ho
 subst e39
 refine am hv.one fun y e19 hx=>?_
 clear hv
 subst e19
 refine aa ?_
 refine⟨⟨_,dT,rfl⟩,PySem.F.args_list_append_2 _ _,_,(list_append a it n y (by rw[s1];exact yF hn)).inModel _ _,dT,?_⟩
 exact show Q _ _ from h.turnList (n:=s.toks) R hs rfl hl (Heap.SameBut.update ..) (AB (fun xs=>xs.push y) dT) (by rw[Array.toList_push];exact v1.append ⟨hx,trivial⟩) (by rw[List.length_append];simp;lia) rfl
theorem UN:tP W "list" "list.pop" Builtin.«list.pop» 204:=by
 intro θ σ σ' s A E Q d r args v ov vs ok R ho hv e h
 refine ah fun aa=>?_
 refine lJ (Su e) fun x l hs e39 e49 e59=>?_
 clear e
 subst e39
 subst e49
 subst e59
 refine iu (ti R hs ho) fun a it n e39 hl dT v1 s1 hn=>?_
 clear ho
 subst e39
 refine am hv.one fun y e19 hx=>?_
 clear hv
 subst e19
 obtain⟨u,rfl⟩:=hx
 have mc:0<it.size:=by rw[s1];simp
 obtain⟨z,zs,ez⟩:∃z zs,it.toList=z::zs:=by
  cases q:it.toList with
  |nil=>rw[←Array.length_toList,q]at mc;simp at mc
  |cons z zs=>exact⟨z,zs,rfl⟩
 obtain h0:it[0]?=some z:=by rw[←Array.getElem?_toList,ez];rfl
 rw[ez]at v1
 refine aa ?_
 refine⟨⟨_,dT,rfl⟩,PySem.F.args_list_pop_2 _ _,_,(MeetsSeq.list_pop_at a it n 0 u 0 z (by decide) (VE mc) h0 (by rw[s1];exact yF hn)).inModel _ _,dT,?_⟩
 refine show Q _ _ from h.turnList (n:=s.toks) R hs rfl hl (Heap.SameBut.update ..) (AB (fun xs=>xs.eraseIdxIfInBounds 0) dT) ?_ (by simp at hn;lia) v1.1
 have:(it.eraseIdxIfInBounds 0).toList=zs:=by
  rw[Array.eraseIdxIfInBounds,dif_pos mc,Array.toList_eraseIdx,ez];rfl
 rw[this]
 exact v1.2
theorem PQ:tP W "list" "list.extend" Builtin.«list.extend» 81:=by
 intro θ σ σ' s A E Q d r args v ov vs ok R ho hv e h
 refine ah fun aa=>?_
 obtain⟨us,q,ws,hs,e48,hw,aY,hb,e88,e98⟩:=Sq e
 clear e
 subst e48
 subst e88
 subst e98
 refine iu (ti R hs ho) fun a it n e39 hl dT v1 s1 hn=>?_
 clear ho
 subst e39
 refine am hv.one fun y e19 hx=>?_
 clear hv
 subst e19
 refine iu (ti R hw hx) fun a2 it2 n2 e39 eH RC v2 s2 JD=>?_
 clear hx
 subst e39
 obtain hsz:it.size+it2.size≤sizeLine:=Nat.le_trans (by rw[s1,s2];lia) (mr (Nat.le_refl _))
 refine aa ?_
 refine⟨⟨_,dT,rfl⟩,PySem.F.args_list_extend_2 _ _,_,(AutoSeq1.list_extend_list_list_0 a it n a2 it2 n2 ?_ (Nat.le_trans (Nat.le_add_right _ _) hsz) (Nat.le_succ_of_le hsz)).inModel _ _,dT,RC,?_⟩
 ·unfold Builtin.List.listTooLong
  have:¬it.size+it2.size > sizeLine:=by lia
  simp[this]
 exact show Q _ _ from h.turnList (n:=s.toks) R hs rfl hl (Heap.SameBut.update ..) (AB (fun xs=>xs++it2) dT) (by rw[Array.toList_append];exact v1.append v2) (by rw[List.length_append];lia) rfl
theorem Qt (sys:∀a,W.hB.get? a=none→(a==sysModules)=false):tP W "dict" "dict.get" Builtin.«dict.get» 91:=by
 intro θ σ σ' s A E Q d r args v ov vs ok R ho hv e h
 refine ah fun aa=>?_
 refine XM (Sr e) fun kvs k dv hs e49 ko e69 e79=>?_
 clear e
 subst e49
 subst e69
 subst e79
 refine cW (lr R hs ho) fun a e19 hl D=>?_
 subst e19
 refine bH hv.two fun key dflt e29 hk hd=>?_
 clear hv
 subst e29
 obtain L:=D.look ok (sys _ (R.fresh _ _ _ hs hl rfl).1) hk ko
 refine am D.cls fun o fc hc=>?_
 refine aa ?_
 refine⟨⟨o,fc,hc⟩,PySem.F.args_dict_get_3 _ _ _,L.get fun z n h1 h2=>?_⟩
 cases q:bc kvs k with
 |none=>rw[q]at h;rw[h2 q];exact h.same R hd
 |some av=>rw[q]at h;exact h.same R (h1 av q)
structure Be (W:Wd)(T:String)(name:Str)(m:Nat):Prop where
 pa:PlainAttrs T
 go:∃id B,Slot T name id∧typeOf (.builtin id)=pure (.type "method_descriptor")∧entryFor table id=some B∧tP W T id B m
theorem LW {a b:Bool}(h:(a||b)=true):a=true∨b=true:=by
 cases a with
 |true=>exact .inl rfl
 |false=>exact .inr h
theorem TK {m:Nat}(hm:(m==51||m==204||m==81)=true){name:Str}(hn:bf[m]?=some name):Be W "list" name m:=by
 obtain hm:m=51∨m=204∨m=81:=(LW hm).elim (fun h=>(LW h).elim (fun h=>.inl (eq_of_beq h)) fun h=>.inr (.inl (eq_of_beq h))) fun h=>.inr (.inr (eq_of_beq h))
 rcases hm with rfl |rfl |rfl
 ·have:bf[51]?=some (Str.ofString "append"):=by decide+kernel
  rw[this]at hn;refine aR hn ?_;clear hn;rintro rfl
  exact⟨PySem.F.plainAttrs_list,_,_,PySem.F.slot_list_append,PySem.F.type_list_append,PySem.F.entry_list_append,Nl⟩
 ·have:bf[204]?=some (Str.ofString "pop"):=by decide+kernel
  rw[this]at hn;refine aR hn ?_;clear hn;rintro rfl
  exact⟨PySem.F.plainAttrs_list,_,_,PySem.F.slot_list_pop,PySem.F.type_list_pop,PySem.F.entry_list_pop,UN⟩
 ·have:bf[81]?=some (Str.ofString "extend"):=by decide+kernel
  rw[this]at hn;refine aR hn ?_;clear hn;rintro rfl
  exact⟨PySem.F.plainAttrs_list,_,_,PySem.F.slot_list_extend,PySem.F.type_list_extend,PySem.F.entry_list_extend,PQ⟩
theorem TJ (sys:∀a,W.hB.get? a=none→(a==sysModules)=false){name:Str}(hn:bf[91]?=some name):Be W "dict" name 91:=by
 have:bf[91]?=some (Str.ofString "get"):=by decide+kernel
 rw[this]at hn;refine aR hn ?_;clear hn;rintro rfl
 exact⟨PySem.F.plainAttrs_dict,_,_,PySem.F.slot_dict_get,PySem.F.type_dict_get,PySem.F.entry_dict_get,Qt sys⟩
end
noncomputable def LX (i:Nat):Option String:=bif i==165 then some "list" else bif i==208 then some "range" else bif i==212 then some "reversed" else bif i==80 then some "enumerate" else none
structure bW (W:Wd):Prop where
 sys:∀a,W.hB.get? a=none→(a==sysModules)=false
 kin:W.K.In W.hB
 ns:∃mg mb,W.hB.Ns mainGlobals mg∧W.hB.Ns builtinsNs mb∧
  (∀i x av,aN x=some i→xU.contains i=true→W.T.tb.glob i=some av→∃v,mg x=some v∧VR W.hB [] av v)∧
  (∀i x fv,aN x=some i→W.fv i=some fv→mg x=some fv)∧
  (∀i x b,aN x=some i→tU i=some b→mg x=none∧mb x=some (gT b))∧
  (∀i x n,aN x=some i→LX i=some n→mg x=none∧mb x=some (.type n))
 cls:∀c C,W.cls c=some C→findIn W.K (.ref C) "__getattribute__"=some (some (.builtin "object.__getattribute__"))∧findIn W.K (.ref C) "__getattr__"=some none∧hasDictIn W.K C=true
 fld:∀c C a,W.cls c=some C→W.T.tb.fld c a=true→∃x attr,bf[a]?=some x∧findIn W.K (.ref C) x=some attr∧noGet W.K attr=true
 meth:∀c C m f,W.cls c=some C→W.T.tb.meth c m=some f→W.T.tb.fld c m=false∧∃x fa,bf[m]?=some x∧findIn W.K (.ref C) x=some (some (.ref fa))∧typeIn W.K (.ref fa)=some (.type "function")∧W.fv f=some (.ref fa)
 keep:∀f v,W.fv f=some v→keepIn W.K v=true
 set:∀c C,W.cls c=some C→findIn W.K (.ref C) "__setattr__"=some (some (.builtin "object.__setattr__"))∧plainOver W.K C=true
 taker:∀c C a x,W.cls c=some C→W.T.tb.fld c a=true→bf[a]?=some x→takerIn W.K C x=some none
section
variable {W:Wd}{d:Nat}{cf:Cf}{sc:Scope}
noncomputable def lM (W:Wd)(θ:Th)(s:Shared)(σ':St)(Q:Shared→Prop):Prop:=∀θ' s',aB bZ θ s θ' s'→aq W θ' σ' s'.heap→Q s'
noncomputable def tQ (W:Wd)(θ:Th)(s:Shared)(avs:List AV)(σ':St)(Q:List Value→Shared→Prop):Prop:=∀vs θ' s',aB bZ θ s θ' s'→aq W θ' σ' s'.heap→aC s'.heap θ' avs vs→Q vs s'
noncomputable def aE (W:Wd)(d:Nat)(cf:Cf)(sc:Scope)(e:Expr)(x:E):Prop:=
 ∀{env:Env} {ρ:ag} {θ:Th} {σ:St} {s:Shared} {A:Around} {av:AV} {σ':St} {Q Ex:Value→Shared→Prop},cF sc env→FR W env ρ θ s.heap→aq W θ σ s.heap→bp A d→ev W.T.tb cf x ρ σ=some (av,σ')→
  Po W θ s av σ' Q→wpAny (model W.prog W.w) A (eval e env) Q Ex s
noncomputable def bK (W:Wd)(d:Nat)(cf:Cf)(sc:Scope)(e:Expr)(x:E):Prop:=
 ∀{env:Env} {ρ:ag} {θ:Th} {σ:St} {s:Shared} {A:Around} {av:AV} {σ':St} {b:Bool} {Q:Bool→Shared→Prop} {Ex:Value→Shared→Prop},cF sc env→FR W env ρ θ s.heap→aq W θ σ s.heap→bp A d→ev W.T.tb cf x ρ σ=some (av,σ')→
  truthy σ' av=some b→lM W θ s σ' (Q b)→wpAny (model W.prog W.w) A (isTrue e env (eval e env)) Q Ex s
noncomputable def dP (W:Wd)(d:Nat)(cf:Cf)(sc:Scope)(es:List Expr)(xs:List E):Prop:=
 ∀{env:Env} {ρ:ag} {θ:Th} {σ:St} {s:Shared} {A:Around} {avs:List AV} {σ':St} {pos:Pos} {Q:List Value→Shared→Prop} {Ex:Value→Shared→Prop},cF sc env→FR W env ρ θ s.heap→aq W θ σ s.heap→bp A d→cP W.T.tb cf xs ρ σ=some (avs,σ')→
  tQ W θ s avs σ' Q→wpAny (model W.prog W.w) A (spliced (backTo pos (starEach es env))) Q Ex s
theorem FR.go {env:Env}{ρ:ag}{θ θ':Th}{σ:St}{s s':Shared}(F:FR W env ρ θ s.heap)(R:aq W θ σ s.heap)(x:aB bZ θ s θ' s'):FR W env ρ θ' s'.heap:=F.aft R x fun _ h=>h.elim
theorem lM.same {θ:Th}{s:Shared}{σ:St}{Q:Shared→Prop}(h:lM W θ s σ Q)(R:aq W θ σ s.heap)(n:Nat):Q {s with toks:=n}:=h θ _ (.refl rfl rfl rfl) R
theorem lM.from {θ θ':Th}{s s':Shared}{σ':St}{Q:Shared→Prop}(h:lM W θ s σ' Q)(x:aB bZ θ s θ' s'):lM W θ' s' σ' Q:=fun θ'' s'' y=>h θ'' s'' (x.trans y)
theorem bK.plain {e:Expr}{x:E}(h:aE W d cf sc e x)(he:∀env whole,isTrue e env whole=(do let v ←whole;standAt e.pos;holding [v] (PySem.truthy v))):bK W d cf sc e x:=by
 intro env ρ θ σ s A av σ' b Q Ex aj F R ok hv ht hQ
 refine isTrue_plain (h aj F R ok hv fun v θ' s' y R' hx=>?_) (he _ _)
 exact tC R' hx ht fun n=>(hQ.from y).same R' n
theorem Wy (k pos):aE W d cf sc (.Constant .none k pos) .cn:=by
 intro env ρ θ σ s A av σ' Q Ex aj F R ok hv hQ
 obtain⟨rfl,rfl⟩:=eV hv
 exact wpAny_Constant_none (hQ.at R rfl)
theorem Wf (b:Bool) (k pos):aE W d cf sc (.Constant (.bool b) k pos) (.cb b):=by
 intro env ρ θ σ s A av σ' Q Ex aj F R ok hv hQ
 obtain⟨rfl,rfl⟩:=eV hv
 exact wpAny_Constant_bool (hQ.at R rfl)
theorem Wt (i:Int) (k pos):aE W d cf sc (.Constant (.int i) k pos) (.ci i):=by
 intro env ρ θ σ s A av σ' Q Ex aj F R ok hv hQ
 obtain⟨rfl,rfl⟩:=eV hv
 exact wpAny_Constant_int (hQ.same R ⟨_,rfl⟩)
theorem WH {x:Str}{i:Nat}(hi:aN x=some i) (k pos):aE W d cf sc (.Constant (.str x) k pos) (.cs i):=by
 intro env ρ θ σ s A av σ' Q Ex aj F R ok hv hQ
 refine ah fun aa=>?_
 obtain⟨e08,e18⟩:=eV hv
 clear hv
 subst e08
 subst e18
 exact aa (wpAny_Constant_str (hQ.same R ⟨x,_,gA hi,rfl⟩))
theorem WK {x:Str}{i:Nat}(hi:aN x=some i)(hx:dw sc x=true) (pos):aE W d cf sc (.Name x pos) (.v i):=by
 intro env ρ θ σ s A av σ' Q Ex aj F R ok hv hQ
 refine ah fun aa=>?_
 refine cw hv fun a h1 h2=>?_
 cases h2
 exact aa (Mm F (aj.var hx) hi h1 fun v hv=>hQ.at R hv)
theorem NC {θ:Th}{σ:St}{h:Heap}(R:aq W θ σ h){av:AV}{v:Value}(hv:VR W.hB [] av v):VR h θ av v:=hv.keep ⟨θ,rfl⟩ fun a o e _=>R.base a o e
theorem jV {θ:Th}{σ:St}{h:Heap}(R:aq W θ σ h){a:Addr}{m:Str→Option Value}(x:W.hB.Ns a m):h.Ns a m:=let⟨o,es,ep,ho,r⟩:=x;⟨o,es,ep,R.base a o ho,r⟩
theorem Wp (ok:bW W){x:Str}{i:Nat}(hi:aN x=some i)(hx:ei sc x=true)(hg:xU.contains i=true) (pos):aE W d cf sc (.Name x pos) (.g i):=by
 intro env ρ θ σ s A av σ' Q Ex aj F R _ hv hQ
 refine ah fun aa=>?_
 refine cw hv fun a h1 h2=>?_
 cases h2
 refine lJ ok.ns fun mg mb e2 _ e3 _=>?_
 refine am (e3 i x _ hi hg h1) fun v e4 e5=>?_
 exact aa (Ml F (aj.glob hx) hi (jV R e2) e4 (hQ.at R (NC R e5)))
theorem We {a b:Expr}{x y:E}{op:Operator}{o:gc}(ho:AQ op=some o)(ha:aE W d cf sc a x)(hb:aE W d cf sc b y) (pos):aE W d cf sc (.BinOp a op b pos) (.bin o x y):=by
 intro env ρ θ σ s A av σ' Q Ex aj F R ok hv hQ
 refine ah fun aa=>?_
 refine aS hv fun u σ₁ h1 hv=>?_
 refine aS hv fun v σ₂ h2 hv=>?_
 refine aa ?_
 refine wpAny_BinOp (ha aj F R ok h1 fun p θ₁ s₁ x₁ R₁ hp=>?_)
 refine hb aj (F.go R x₁) R₁ ok h2 fun q θ₂ s₂ x₂ R₂ hq=>?_
 exact NJ ho R₂ (hp.aft R₁ x₂) hq hv ((hQ.from x₁).from x₂)
theorem Wx {a:Expr}{x:E}(ha:aE W d cf sc a x) (pos):aE W d cf sc (.UnaryOp .USub a pos) (.neg x):=by
 intro env ρ θ σ s A av σ' Q Ex aj F R ok hv hQ
 refine ah fun aa=>?_
 refine aS hv fun u σ₁ h1 hv=>?_
 refine cw hv fun i h2 hv=>fH (congrArg some hv) fun e08 e18=>?_
 subst e08
 subst e18
 refine aa ?_
 refine UnaryOp_ (ha aj F R ok h1 fun p θ₁ s₁ x₁ R₁ hp=>?_)
 rw[cy h2]at hp
 obtain⟨t,rfl⟩:=hp
 exact PySem.P.neg_int ((hQ.from x₁).same R₁ ⟨_,rfl⟩)
theorem Wz {a:Expr}{x:E}(ha:aE W d cf sc a x) (pos):aE W d cf sc (.UnaryOp .Not a pos) (.not x):=by
 intro env ρ θ σ s A av σ' Q Ex aj F R ok hv hQ
 refine ah fun aa=>?_
 refine aS hv fun u σ₁ h1 hv=>?_
 refine cw hv fun c h2 h3=>?_
 cases h3
 refine aa ?_
 refine UnaryOp_ (ha aj F R ok h1 fun p θ₁ s₁ x₁ R₁ hp=>?_)
 exact not_of (tC R₁ hp h2 fun n=>(hQ.from x₁).same R₁ rfl)
theorem V5 {a:Expr}{x:E}(ha:bK W d cf sc a x) (pos):bK W d cf sc (.UnaryOp .Not a pos) (.not x):=by
 intro env ρ θ σ s A av σ' b Q Ex aj F R ok hv ht hQ
 refine ah fun aa=>?_
 refine aS hv fun u σ₁ h1 hv=>?_
 refine cw hv fun c h2 h3=>?_
 cases h3
 refine aR ht fun e19=>?_
 clear ht
 subst e19
 exact aa (isTrue_not (ha aj F R ok h1 h2 hQ))
theorem FM {a:Expr}{rest:List Expr}{b:Expr}{x y:E}{pos:Pos}(ha:aE W d cf sc a x)(hb:aE W d cf sc (.BoolOp .And (b::rest) pos) y):aE W d cf sc (.BoolOp .And (a::b::rest) pos) (.and x y):=by
 intro env ρ θ σ s A av σ' Q Ex aj F R ok hv hQ
 refine ah fun aa=>?_
 refine aS hv fun u σ₁ h1 hv=>?_
 refine aa ?_
 refine BoolOp_and (ha aj F R ok h1 fun p θ₁ s₁ x₁ R₁ hp=>?_)
 refine ah fun aa=>?_
 refine gH hv (fun ht hv=>?_) fun ht hv=>?_
 ·refine aa ?_
  refine tC R₁ hp ht fun n=>?_
  refine(iS rfl ?_:)
  obtain x₂:aB bZ θ₁ s₁ θ₁ {s₁ with toks:=n}:=.refl rfl rfl rfl
  obtain F₁:FR W env ρ θ₁ s₁.heap:=F.go R x₁
  exact hb aj F₁ R₁ ok hv ((hQ.from x₁).from x₂)
 ·refine dj hv ?_
  clear hv
  rintro rfl rfl
  refine aa ?_
  refine tC R₁ hp ht fun n=>?_
  refine(iQ Bool.false_ne_true ?_:)
  exact(hQ.from x₁).same R₁ hp
theorem FN {a:Expr}{rest:List Expr}{b:Expr}{x y:E}{pos:Pos}(ha:aE W d cf sc a x)(hb:aE W d cf sc (.BoolOp .Or (b::rest) pos) y):aE W d cf sc (.BoolOp .Or (a::b::rest) pos) (.or x y):=by
 intro env ρ θ σ s A av σ' Q Ex aj F R ok hv hQ
 refine ah fun aa=>?_
 refine aS hv fun u σ₁ h1 hv=>?_
 refine aa ?_
 refine BoolOp_or (ha aj F R ok h1 fun p θ₁ s₁ x₁ R₁ hp=>?_)
 refine ah fun aa=>?_
 refine gH hv (fun ht hv=>?_) fun ht hv=>?_
 ·refine dj hv ?_
  clear hv
  rintro rfl rfl
  refine aa ?_
  refine tC R₁ hp ht fun n=>?_
  refine(iS rfl ?_:)
  exact(hQ.from x₁).same R₁ hp
 ·refine aa ?_
  refine tC R₁ hp ht fun n=>?_
  refine(iQ Bool.false_ne_true ?_:)
  obtain x₂:aB bZ θ₁ s₁ θ₁ {s₁ with toks:=n}:=.refl rfl rfl rfl
  obtain F₁:FR W env ρ θ₁ s₁.heap:=F.go R x₁
  exact hb aj F₁ R₁ ok hv ((hQ.from x₁).from x₂)
theorem AI {op:BoolOp}{a:Expr}{x:E}{pos:Pos}(ha:aE W d cf sc a x):aE W d cf sc (.BoolOp op [a] pos) x:=by
 intro env ρ θ σ s A av σ' Q Ex aj F R ok hv hQ
 exact BoolOp_one (ha aj F R ok hv hQ)
theorem FK {a:Expr}{rest:List Expr}{x y:E}{pos:Pos}(ha:bK W d cf sc a x)(hb:bK W d cf sc (.BoolOp .And rest pos) y):bK W d cf sc (.BoolOp .And (a::rest) pos) (.and x y):=by
 intro env ρ θ σ s A av σ' b Q Ex aj F R ok hv ht hQ
 refine ah fun aa=>?_
 refine aS hv fun u σ₁ h1 hv=>?_
 refine gH hv (fun hc hv=>?_) fun hc hv=>?_
 ·refine aa ?_
  refine isTrue_and (ha aj F R ok h1 hc fun θ₁ s₁ x₁ R₁=>?_)
  refine(iS rfl ?_:)
  exact hb aj (F.go R x₁) R₁ ok hv ht (hQ.from x₁)
 ·refine dj hv ?_
  clear hv
  rintro rfl rfl
  rw[hc]at ht
  refine aR ht ?_
  clear ht
  rintro rfl
  refine aa ?_
  refine isTrue_and (ha aj F R ok h1 hc fun θ₁ s₁ x₁ R₁=>?_)
  refine(iQ Bool.false_ne_true ?_:)
  exact hQ _ _ x₁ R₁
theorem FL {a:Expr}{rest:List Expr}{x y:E}{pos:Pos}(ha:bK W d cf sc a x)(hb:bK W d cf sc (.BoolOp .Or rest pos) y):bK W d cf sc (.BoolOp .Or (a::rest) pos) (.or x y):=by
 intro env ρ θ σ s A av σ' b Q Ex aj F R ok hv ht hQ
 refine ah fun aa=>?_
 refine aS hv fun u σ₁ h1 hv=>?_
 refine gH hv (fun hc hv=>?_) fun hc hv=>?_
 ·refine dj hv ?_
  clear hv
  rintro rfl rfl
  rw[hc]at ht
  refine aR ht ?_
  clear ht
  rintro rfl
  refine aa ?_
  refine isTrue_or (ha aj F R ok h1 hc fun θ₁ s₁ x₁ R₁=>?_)
  refine(iS rfl ?_:)
  exact hQ _ _ x₁ R₁
 ·refine aa ?_
  refine isTrue_or (ha aj F R ok h1 hc fun θ₁ s₁ x₁ R₁=>?_)
  refine(iQ Bool.false_ne_true ?_:)
  exact hb aj (F.go R x₁) R₁ ok hv ht (hQ.from x₁)
theorem ME {a:Expr}{x:E}{pos:Pos}(ha:bK W d cf sc a x):bK W d cf sc (.BoolOp .And [a] pos) x:=by
 intro env ρ θ σ s A av σ' b Q Ex aj F R ok hv ht hQ
 refine isTrue_and (ha aj F R ok hv ht fun θ₁ s₁ x₁ R₁=>?_)
 cases b with
 |false=>exact hQ _ _ x₁ R₁
 |true=>exact isTrue_and_nil (hQ _ _ x₁ R₁)
theorem MF {a:Expr}{x:E}{pos:Pos}(ha:bK W d cf sc a x):bK W d cf sc (.BoolOp .Or [a] pos) x:=by
 intro env ρ θ σ s A av σ' b Q Ex aj F R ok hv ht hQ
 refine isTrue_or (ha aj F R ok hv ht fun θ₁ s₁ x₁ R₁=>?_)
 cases b with
 |false=>exact isTrue_or_nil (hQ _ _ x₁ R₁)
 |true=>exact hQ _ _ x₁ R₁
theorem Wi (wo:bW W){a b:Expr}{x y:E}{op:CmpOp}(hm:behindInMarks op b=false)(ha:aE W d cf sc a x)(hb:aE W d cf sc b y) (pos):aE W d cf sc (.Compare a [op] [b] pos) (.cmp (ik op) x y):=by
 intro env ρ θ σ s A av σ' Q Ex aj F R ok hv hQ
 refine ah fun aa=>?_
 refine aS hv fun u σ₁ h1 hv=>?_
 refine aS hv fun v σ₂ h2 hv=>?_
 refine cw hv fun c h3 h4=>?_
 cases h4
 refine aa ?_
 refine wpAny_Compare1 (ha aj F R ok h1 fun p θ₁ s₁ x₁ R₁ hp=>?_) hm
 refine hb aj (F.go R x₁) R₁ ok h2 fun q θ₂ s₂ x₂ R₂ hq=>?_
 exact jB ok R₂ wo.sys (hp.aft R₁ x₂) hq h3 fun n=>((hQ.from x₁).from x₂).same R₂ rfl
theorem V3 (wo:bW W){a b:Expr}{x y:E}{op:CmpOp}(hm:behindInMarks op b=false)(ha:aE W d cf sc a x)(hb:aE W d cf sc b y) (pos):bK W d cf sc (.Compare a [op] [b] pos) (.cmp (ik op) x y):=by
 intro env ρ θ σ s A av σ' b Q Ex aj F R ok hv ht hQ
 refine ah fun aa=>?_
 refine aS hv fun u σ₁ h1 hv=>?_
 refine aS hv fun v σ₂ h2 hv=>?_
 refine cw hv fun c h3 h4=>?_
 cases h4
 refine aR ht fun e19=>?_
 clear ht
 subst e19
 refine aa ?_
 refine wpAny_isTrue_Compare1 (ha aj F R ok h1 fun p θ₁ s₁ x₁ R₁ hp=>?_) hm
 refine hb aj (F.go R x₁) R₁ ok h2 fun q θ₂ s₂ x₂ R₂ hq=>?_
 exact jB ok R₂ wo.sys (hp.aft R₁ x₂) hq h3 fun n=>wpAny_truthy_bool (((hQ.from x₁).from x₂).same R₂ n)
theorem Wh (wo:bW W){a b c:Expr}{x y z:E}{op₁ op₂:CmpOp}(hm:lastMarks [op₁,op₂] [b,c]=false)(ha:aE W d cf sc a x)(hb:aE W d cf sc b y)(hc:aE W d cf sc c z) (pos):
  aE W d cf sc (.Compare a [op₁,op₂] [b,c] pos) (.chain (ik op₁) (ik op₂) x y z):=by
 intro env ρ θ σ s A av σ' Q Ex aj F R ok hv hQ
 refine ah fun aa=>?_
 refine aS hv fun u σ₁ h1 hv=>?_
 refine aS hv fun v σ₂ h2 hv=>?_
 refine aa ?_
 refine Compare_chain (ha aj F R ok h1 fun p θ₁ s₁ x₁ R₁ hp=>?_) hm
 refine chain_link (hb aj (F.go R x₁) R₁ ok h2 fun q θ₂ s₂ x₂ R₂ hq=>?_)
 refine ah fun aa=>?_
 refine gH hv (fun hK hv=>?_) fun hK hv=>?_
 ·refine aa ?_
  refine jB ok R₂ wo.sys (hp.aft R₁ x₂) hq hK fun n=>wpAny_truthy_bool ?_
  refine(iS rfl ?_:)
  have x₃:aB bZ θ₂ s₂ θ₂ {s₂ with toks:=n}:=.refl rfl rfl rfl
  have F₂:FR W env ρ θ₂ s₂.heap:=(F.go R x₁).go R₁ x₂
  refine ah fun aa=>?_
  refine aS hv fun w σ₃ h3 hv=>?_
  refine cw hv fun c h4 h5=>?_
  cases h5
  refine aa ?_
  refine chain_last (hc aj F₂ R₂ ok h3 fun r θ₄ s₄ x₄ R₄ hr=>?_)
  exact jB ok R₄ wo.sys (VR.aft hq R₂ (x₃.trans x₄)) hr h4 fun n=>((((hQ.from x₁).from x₂).from x₃).from x₄).same R₄ rfl
 ·refine dj hv ?_
  clear hv
  rintro rfl rfl
  refine aa ?_
  refine jB ok R₂ wo.sys (hp.aft R₁ x₂) hq hK fun n=>wpAny_truthy_bool ?_
  refine(iQ Bool.false_ne_true ?_:)
  exact((hQ.from x₁).from x₂).same R₂ rfl
theorem V2 (wo:bW W){a b c:Expr}{x y z:E}{op₁ op₂:CmpOp}(hm:lastMarks [op₁,op₂] [b,c]=false)(ha:aE W d cf sc a x)(hb:aE W d cf sc b y)(hc:aE W d cf sc c z) (pos):
  bK W d cf sc (.Compare a [op₁,op₂] [b,c] pos) (.chain (ik op₁) (ik op₂) x y z):=by
 intro env ρ θ σ s A av σ' b Q Ex aj F R ok hv ht hQ
 refine ah fun aa=>?_
 refine aS hv fun u σ₁ h1 hv=>?_
 refine aS hv fun v σ₂ h2 hv=>?_
 refine aa ?_
 refine isTrue_chain (ha aj F R ok h1 fun p θ₁ s₁ x₁ R₁ hp=>?_) hm
 refine test_link (hb aj (F.go R x₁) R₁ ok h2 fun q θ₂ s₂ x₂ R₂ hq=>?_)
 refine ah fun aa=>?_
 refine gH hv (fun hK hv=>?_) fun hK hv=>?_
 ·refine aa ?_
  refine jB ok R₂ wo.sys (hp.aft R₁ x₂) hq hK fun n=>wpAny_truthy_bool ?_
  refine(iS rfl ?_:)
  obtain x₃:aB bZ θ₂ s₂ θ₂ {s₂ with toks:=n}:=.refl rfl rfl rfl
  obtain F₂:FR W env ρ θ₂ s₂.heap:=(F.go R x₁).go R₁ x₂
  refine ah fun aa=>?_
  refine aS hv fun w σ₃ h3 hv=>?_
  refine cw hv fun c h4 h5=>?_
  cases h5
  refine aR ht fun e19=>?_
  clear ht
  subst e19
  refine aa ?_
  refine test_last (hc aj F₂ R₂ ok h3 fun r θ₄ s₄ x₄ R₄ hr=>?_)
  exact jB ok R₄ wo.sys (VR.aft hq R₂ (x₃.trans x₄)) hr h4 fun n=>wpAny_truthy_bool (((((hQ.from x₁).from x₂).from x₃).from x₄).same R₄ n)
 ·refine dj hv ?_
  clear hv
  rintro rfl rfl
  refine aR ht fun e19=>?_
  clear ht
  subst e19
  refine aa ?_
  refine jB ok R₂ wo.sys (hp.aft R₁ x₂) hq hK fun n=>wpAny_truthy_bool ?_
  refine(iQ Bool.false_ne_true ?_:)
  exact((hQ.from x₁).from x₂).same R₂ n
theorem Ws {c a b:Expr}{x y z:E}(hc:bK W d cf sc c x)(ha:aE W d cf sc a y)(hb:aE W d cf sc b z) (pos):aE W d cf sc (.IfExp c a b pos) (.ife x y z):=by
 intro env ρ θ σ s A av σ' Q Ex aj F R ok hv hQ
 refine ah fun aa=>?_
 refine aS hv fun u σ₁ h1 hv=>?_
 refine gH hv (fun ht hv=>?_) fun ht hv=>?_
 ·refine aa ?_
  refine IfExp_ (hc aj F R ok h1 ht fun θ₁ s₁ x₁ R₁=>?_)
  refine(iS rfl ?_:)
  exact ha aj (F.go R x₁) R₁ ok hv (hQ.from x₁)
 ·refine aa ?_
  refine IfExp_ (hc aj F R ok h1 ht fun θ₁ s₁ x₁ R₁=>?_)
  refine(iQ Bool.false_ne_true ?_:)
  exact hb aj (F.go R x₁) R₁ ok hv (hQ.from x₁)
theorem V4 {c a b:Expr}{x y z:E}(hc:bK W d cf sc c x)(ha:bK W d cf sc a y)(hb:bK W d cf sc b z) (pos):bK W d cf sc (.IfExp c a b pos) (.ife x y z):=by
 intro env ρ θ σ s A av σ' r Q Ex aj F R ok hv hr hQ
 refine ah fun aa=>?_
 refine aS hv fun u σ₁ h1 hv=>?_
 refine gH hv (fun ht hv=>?_) fun ht hv=>?_
 ·refine aa ?_
  refine isTrue_IfExp (hc aj F R ok h1 ht fun θ₁ s₁ x₁ R₁=>?_)
  refine(iS rfl ?_:)
  exact ha aj (F.go R x₁) R₁ ok hv hr (hQ.from x₁)
 ·refine aa ?_
  refine isTrue_IfExp (hc aj F R ok h1 ht fun θ₁ s₁ x₁ R₁=>?_)
  refine(iQ Bool.false_ne_true ?_:)
  exact hb aj (F.go R x₁) R₁ ok hv hr (hQ.from x₁)
theorem IY {tb:Tb}{ρ:ag}{xs:List E}:∀{us:List AV} {σ σ₁:St},cP tb cf xs ρ σ=some (us,σ₁)→us.length=xs.length:=by
 induction xs with
 |nil=>intro us σ σ₁ e;exact fH e fun e _=>e▸rfl
 |cons x xs ih=>intro us σ σ₁ e;exact aS e fun u _ _ e=>aS e fun us' _ e2 e=>fH e fun e _=>e▸congrArg (· +1) (ih e2)
theorem MD:dP W d cf sc [] []:=by
 intro env ρ θ σ s A avs σ' pos Q Ex aj F R ok hv hQ
 have hv:=eV hv
 obtain⟨rfl,rfl⟩:=hv
 exact spliced_none (hQ _ _ _ .id R trivial)
theorem FJ {e:Expr}{es:List Expr}{x:E}{xs:List E}(he:∀env,starEach (e::es) env=(false,eval e env)::starEach es env)(h1:aE W d cf sc e x)(h2:dP W d cf sc es xs):dP W d cf sc (e::es) (x::xs):=by
 intro env ρ θ σ s A avs σ' pos Q Ex aj F R ok hv hQ
 refine ah fun aa=>?_
 refine aS hv fun u σ₁ e1 hv=>?_
 refine aS hv fun us σ₂ e2 hv=>?_
 refine dj hv ?_
 clear hv
 rintro rfl rfl
 refine aa ?_
 refine spliced_more (h1 aj F R ok e1 fun p θ₁ s₁ x₁ R₁ hp=>?_) (he env)
 exact h2 aj (F.go R x₁) R₁ ok e2 fun vs θ₂ s₂ x₂ R₂ bm=>hQ _ _ _ (x₁.trans x₂) R₂ ⟨hp.aft R₁ x₂,bm⟩
theorem Wv {es:List Expr}{xs:List E}(hn:es.length≤1000)(hl:es.length=xs.length)(h:dP W d cf sc es xs) (pos):aE W d cf sc (.List es pos) (.lst xs):=by
 intro env ρ θ σ s A av σ' Q Ex aj F R ok hv hQ
 refine ah fun aa=>?_
 refine aS hv fun us σ₁ e1 hv=>?_
 refine dj hv fun e09 e19=>?_
 clear hv
 clear hv
 subst e09
 subst e19
 obtain C1:=IY e1
 refine aa ?_
 refine wpAny_List (h aj F R ok e1 fun vs θ₁ s₁ x₁ R₁ bm=>?_)
 have yn:=bm.length
 refine⟨by rw[←yn,C1,←hl];exact Nat.le_trans hn (by decide),?_⟩
 exact(hQ.from x₁).list (n:=s₁.toks) R₁ (fun a o e=>e) (by simpa using bm) (by lia)
theorem WJ {es:List Expr}{xs:List E}(hn:es.length≤1000)(hl:es.length=xs.length)(h:dP W d cf sc es xs) (k pos):aE W d cf sc (.Tuple es k pos) (.tup xs):=by
 intro env ρ θ σ s A av σ' Q Ex aj F R ok hv hQ
 refine ah fun aa=>?_
 refine aS hv fun us σ₁ e1 hv=>?_
 refine dj hv fun e09 e19=>?_
 clear hv
 clear hv
 subst e09
 subst e19
 obtain C1:=IY e1
 refine aa ?_
 refine wpAny_Tuple (h aj F R ok e1 fun vs θ₁ s₁ x₁ R₁ bm=>?_)
 have yn:=bm.length
 refine⟨by rw[←yn,C1,←hl];exact Nat.le_trans hn (by decide),?_⟩
 exact(hQ.from x₁).ext (n:=s₁.toks) R₁ (cT _ _) ⟨_,vs.toArray,rfl,⟨_,Heap.get?_push_size _ rfl,rfl,_,rfl⟩,by simpa using bm.keep (List.prefix_refl _) (uM (cT _ _))⟩
theorem FU {A:Around}{Ex:Value→Shared→Prop}{s:Shared}{env:Env}{value slice:Expr}{pos:Pos}{Q:Value→Shared→Prop}{prog:Program}{w:World}
  (h:wpAny (model prog w) A (eval value env) (fun o s₁=>wpAny (model prog w) A (eval slice env) (fun i s₂=>SubscriptOn (model prog w) A o i Q Ex s₂) Ex s₁) Ex s):
  wpAny (model prog w) A (eval (.Subscript value slice pos) env) Q Ex s:=by
 rw[arm_eval_Subscript]
 refine wpAny_bind (wpAny_mono h (fun o s₁ h₁=>wpAny_bind (wpAny_holding (wpAny_mono h₁ (fun i s₂ h₂=>wpAny_bind (wpAny_standAt ?_)) fun _ _ x=>x))) fun _ _ x=>x)
 refine bH h₂ fun T id hl hT hg=>?_
 refine wpAny_bind ?_
 refine(getitemInPython_of_ne hT.not_modules).symm▸?_
 refine wpAny_bind (wpAny_specialOf hT hl ?_)
 refine wpAny_pure (wpAny_bind ?_)
 have fin:∀vs,wpAny (model prog w) A (operate vs (getItem o i)) (fun r s₃=>wpAny (model prog w) A (letTemporaryGo value o r >>= fun _=>pure r) Q Ex s₃) Ex s₂:=fun vs=>
  wpAny_operating (wpAny_mono hg (fun r s₃ h₃=>wpAny_bind (wpAny_letTemporaryGo (wpAny_pure h₃))) fun _ _ x=>x)
 cases slice<;>first |exact fin _ | (rename_i st _;cases st<;>exact fin _)
theorem Xs {σ:St}{θ:Th}{s:Shared}(R:aq W θ σ s.heap){a i:AV}{v:AV}{x:Value}(hx:VR s.heap θ a x)(e:eh σ a i=some v):∃T id,typeLookup (.type T) "__getitem__"=pure (some (.builtin id))∧s.TypeIs x T:=by
 refine eN (o:=dp a) e (fun vs h1 _=>?_) fun _ e1=>?_
 ·rw[fQ h1]at hx
  refine bH hx fun p it e29 e39 _=>?_
  subst e29
  refine cW e39 fun o ho hc _=>?_
  exact⟨"tuple",_,PyProof.Rows.slot_tuple_getitem.lookup,⟨o,ho,hc⟩⟩
 ·refine az e1 fun r h1 e2=>az e2 fun ob hs e3=>?_
  rw[eZ h1]at hx
  refine eN (o:=bX ob) e3 (fun vs h1 _=>?_) fun _ e4=>az e4 fun kvs h1 _=>?_
  ·rw[gP h1]at hs
   refine lJ (dM R hs hx) fun p it e29 _ l1 _=>?_
   subst e29
   exact⟨"list",_,list_getitem_lookup,l1.typeIs⟩
  ·rw[jy h1]at hs
   refine cW (lr R hs hx) fun p e19 hl D=>?_
   subst e19
   refine am D.cls fun o ho hc=>?_
   exact⟨"dict",_,slot_dict_getitem.lookup,⟨o,ho,hc⟩⟩
theorem Wq (wo:bW W){o i:Expr}{x y:E}(ho:aE W d cf sc o x)(hi:aE W d cf sc i y) (pos):aE W d cf sc (.Subscript o i pos) (.idx x y):=by
 intro env ρ θ σ s A av σ' Q Ex aj F R ok hv hQ
 refine ah fun aa=>?_
 refine aS hv fun u σ₁ h1 hv=>?_
 refine aS hv fun v σ₂ h2 hv=>?_
 refine cw hv fun r h3 h4=>?_
 cases h4
 refine aa ?_
 refine FU (ho aj F R ok h1 fun p θ₁ s₁ x₁ R₁ hp=>?_)
 refine hi aj (F.go R x₁) R₁ ok h2 fun q θ₂ s₂ x₂ R₂ hq=>?_
 have gw:=hp.aft R₁ x₂
 refine ah fun aa=>?_
 refine eX (Xs R₂ gw h3) fun T id e1 e2=>?_
 exact aa (⟨T,id,e1,e2,Sg ok R₂ wo.sys gw hq h3 ((hQ.from x₁).from x₂)⟩)
end
section
variable {W:Wd}{θ:Th}{σ:St}{s:Shared}{d:Nat}{cf:Cf}{sc:Scope}
theorem Au (R:aq W θ σ s.heap){r c:Nat}{fs:List (Nat×AV)}(e:σ[r]?=some (.inst c fs)){v:Value}(hv:VR s.heap θ (.ref r) v):
  ∃a b C es n,v=.ref a∧θ[r]?=some (a,b)∧a≠b∧W.cls c=some C∧s.heap.get? a=some (instObj C b)∧s.heap.get? b=some (dictOf es n)∧cK s.heap θ es fs∧es.length≤900∧(∀p∈fs,W.T.tb.fld c p.1=true)∧InstAt s.heap a (instObj C b) C (some (dictOf es n)):=by
 refine ah fun aa=>?_
 obtain⟨l,hl,aY,C,hC,h1,es,n,h2,hf,hz,ch⟩:=R.at e
 obtain⟨l',cQ,rfl⟩:=hv
 rw[hl]at cQ
 refine aR cQ ?_
 clear cQ
 rintro rfl
 exact aa (⟨l.1,l.2,C,es,n,rfl,hl,aY,hC,h1,h2,hf,hz,ch,⟨h1,rfl,rfl,h2⟩⟩)
theorem cK.find {h:Heap}{a:Nat}{x:Str}(hx:bf[a]?=some x):∀{es:List DictEntry} {fs:List (Nat×AV)},cK h θ es fs→
  (∀av,ef fs a=some av→∃e,es.find? (·.key.isStr x)=some e∧VR h θ av e.val)∧(ef fs a=none→es.find? (·.key.isStr x)=none)∧es.any (·.refKey)=false
 | [],[],_=>⟨fun av e=>by simp[ef]at e,fun _=>rfl,rfl⟩
 | [],_::_,e=>e.elim
 |_::_,[],e=>e.elim
 |e::es,p::fs,⟨⟨y,t,hy,hk⟩,b,c⟩=>by
  refine ah fun aa=>?_
  refine cJ (cK.find hx c) fun i1 i2 i3=>?_
  obtain hs:e.key.isStr x=decide (p.1=a):=by
   rw[hk]
   show(y==x)=_
   rw[FS hy hx]
   rfl
  obtain hr:e.refKey=false:=by unfold DictEntry.refKey;rw[hk]
  refine aa ?_
  rw[I2]
  refine(List.find?_cons).symm▸?_
  refine(List.any_cons).symm▸?_
  refine(hs).symm▸?_
  refine(hr).symm▸?_
  refine(i3).symm▸?_
  by_cases q:p.1=a
  ·rw[if_pos q,decide_eq_true q]
   exact⟨fun av e'=>⟨e,rfl,by cases e';exact b⟩,(fun e'=>by cases e'),rfl⟩
  ·rw[if_neg q,decide_eq_false q]
   exact⟨i1,i2,rfl⟩
theorem Kp {es:List DictEntry}{n:Nat}{x:Str}:lookIn x (dictOf es n)=(match es.find? (·.key.isStr x)with
  |some e=>some (some e.val)
  |none=>if es.any (·.refKey)then none else some none):=by
 unfold lookIn
 simp only[List.toList_toArray]
 rfl
theorem QK {h:Heap}{av:AV}{v:Value}(x:VR h θ av v):handedIn v=true:=by
 cases av<;>simp only[VR]at x
 ·subst x;rfl
 ·subst x;rfl
 ·obtain⟨_,rfl⟩:=x;rfl
 ·obtain⟨_,_,_,rfl⟩:=x;rfl
 ·obtain⟨_,_,rfl,_⟩:=x;rfl
 ·obtain⟨_,_,rfl⟩:=x;rfl
theorem mo (wo:bW W)(R:aq W θ σ s.heap):W.K.In s.heap:=wo.kin.keeps R.base
theorem Nz {A:Around}{Ex Q:Value→Shared→Prop}(wo:bW W)(R:aq W θ σ s.heap){r c:Nat}{fs:List (Nat×AV)}(e:σ[r]?=some (.inst c fs)){v:Value}(hv:VR s.heap θ (.ref r) v){a:Nat}{x:Str}(hx:bf[a]?=some x){av:AV}(hg:ef fs a=some av)
  (hf:W.T.tb.fld c a=true){ex:Bool}(h:Po W θ s av σ Q):wpAny (model W.prog W.w) A (getAttr v x ex) Q Ex s:=by
 refine ah fun aa=>?_
 obtain⟨p,q,C,es,n,e58,hl,aY,hC,h1,h2,hF,hz,ch,I⟩:=Au R e hv
 clear hv
 subst e58
 refine cJ (wo.cls c C hC) fun k1 k2 k3=>?_
 refine bH (wo.fld c C a hC hf) fun x' attr e1 e2 e3=>?_
 rw[hx]at e1
 refine aR e1 ?_
 clear e1
 rintro rfl
 refine am ((hF.find hx).1 av hg) fun en f1 f2=>?_
 refine aa ?_
 refine get_value (mo wo R) I k1 (findObj_own k3 e2 e3 (v:=en.val) ?_) (QK f2) (h.same R f2)
 rw[Kp,f1]
theorem BU {a:Nat}{av:AV}:∀{fs:List (Nat×AV)},ef fs a=some av→(a,av)∈fs
 | [],h=>by simp[ef]at h
 |p::l,h=>by
  rw[I2]at h
  split at h
  ·rename_i q
   cases h
   rw[←q]
   exact List.mem_cons_self ..
  ·exact List.mem_cons_of_mem _ (BU h)
theorem NA {prog:Program}{w:World}{A:Around}{Ex:Value→Shared→Prop}{env:Env}{value:Expr}{attr:Str}{pos:Pos}{Q:Value→Shared→Prop}(hb:attributeBase value attr env (eval value env)=eval value env)
  (h:wpAny (model prog w) A (eval value env) (fun o s₁=>wpAny (model prog w) A (getAttr o attr true) Q Ex s₁) Ex s):wpAny (model prog w) A (eval (.Attribute value attr pos) env) Q Ex s:=by
 rw[arm_eval_Attribute,hb]
 exact wpAny_bind (wpAny_mono h (fun o s₁ h₁=>wpAny_bind (wpAny_standAt (wpAny_bind (wpAny_holding (wpAny_mono h₁ (fun r s₂ h₂=>wpAny_bind (wpAny_letTemporaryGo (wpAny_pure h₂))) fun _ _ y=>y))))) fun _ _ y=>y)
theorem xu {o:ae}{p:Nat×List (Nat×AV)}(h:gQ o=some p):o=.inst p.1 p.2:=by
 cases o with
 |inst c f=>exact Option.some.inj h▸rfl
 |list _=>exact aK h
 |dict _=>exact aK h
 |ext _=>exact aK h
theorem Fq {v:AV}{o:ae}(h:Ap σ v=some o):∃r,v=.ref r∧σ[r]?=some o:=az h fun r h1 h2=>⟨r,eZ h1,h2⟩
theorem P8 {v w:AV}{a:Nat}(h:BM σ v a=some w):∃r c fs,v=.ref r∧σ[r]?=some (.inst c fs)∧ef fs a=some w:=
 az h fun o h1 h=>az h fun p h2 h3=>let⟨r,h4,h5⟩:=Fq h1;⟨r,p.1,p.2,h4,h5.trans (congrArg some (xu h2)),h3⟩
theorem Wb (wo:bW W){o:Expr}{x:E}{a:Str}{i:Nat}(hi:aN a=some i)(hb:∀env,attributeBase o a env (eval o env)=eval o env)(ho:aE W d cf sc o x) (pos):aE W d cf sc (.Attribute o a pos) (.attr x i):=by
 intro env ρ θ σ s A av σ' Q Ex aj F R ok hv hQ
 refine aS hv fun u σ₁ h1 hv=>cw hv fun z h2 h3=>fH (congrArg some h3) fun e1 e2=>?_
 refine ah fun aa=>?_
 refine jp (P8 h2) fun r c fs e3 hs g2=>?_
 subst e1
 subst e2
 clear h2 hv
 subst e3
 refine aa ?_
 refine NA (hb env) (ho aj F R ok h1 fun p θ₁ s₁ x₁ R₁ hp=>?_)
 refine ah fun aa=>?_
 obtain⟨_,_,_,_,_,_,_,_,_,_,_,_,_,ch,_⟩:=Au R₁ hs hp
 exact aa (Nz wo R₁ hs hp (gA hi) g2 (ch _ (BU g2)) (hQ.from x₁))
theorem Ma {env:Env}{ρ:ag}{A:Around}{av:AV}{σ':St}{Q Ex:Value→Shared→Prop}{lo:Option Expr}{x:E}(h:match lo with |some e=>aE W d cf sc e x |none=>x=.cn)(aj:cF sc env)(F:FR W env ρ θ s.heap)(R:aq W θ σ s.heap)(ok:bp A d)
  (hv:ev W.T.tb cf x ρ σ=some (av,σ'))(hQ:Po W θ s av σ' Q):wpAny (model W.prog W.w) A (evalPart lo env) Q Ex s:=by
 refine ah fun aa=>?_
 cases lo with
 |some e=>refine aa ?_;exact h aj F R ok hv hQ
 |none=>
  simp only at h
  subst h
  refine dj hv fun e09 e19=>?_
  clear hv
  subst e09
  subst e19
  exact aa (wpAny_pure (hQ.at R rfl))
theorem WG {o:Expr}{x y z:E}{lo hi:Option Expr}(ho:aE W d cf sc o x)(hl:match lo with |some e=>aE W d cf sc e y |none=>y=.cn)(hh:match hi with |some e=>aE W d cf sc e z |none=>z=.cn) (p pos):
  aE W d cf sc (.Subscript o (.Slice lo hi none p) pos) (.slc x y z):=by
 intro env ρ θ σ s A av σ' Q Ex aj F R ok hv hQ
 refine ah fun aa=>?_
 refine aS hv fun u σ₁ h1 hv=>?_
 refine aS hv fun v σ₂ h2 hv=>?_
 refine aS hv fun w σ₃ h3 hv=>?_
 refine aa ?_
 refine FU (ho aj F R ok h1 fun p θ₁ s₁ x₁ R₁ hp=>?_)
 refine wpAny_Slice (Ma hl aj (F.go R x₁) R₁ ok h2 fun q θ₂ s₂ x₂ R₂ hq=>?_)
 obtain F₂:=(F.go R x₁).go R₁ x₂
 refine Ma hh aj F₂ R₂ ok h3 fun t θ₃ s₃ x₃ R₃ ht=>?_
 obtain CU:=hq.aft R₂ x₃
 obtain gw:=(hp.aft R₁ x₂).aft R₂ x₃
 refine ah fun aa=>?_
 obtain⟨l,items,lo',qg,e48,il,hsz,pl,pu,hq⟩:=V0 R₃ gw CU ht hv (((hQ.from x₁).from x₂).from x₃)
 clear gw hp
 subst e48
 refine aa ?_
 rw[evalPart_none]
 refine wpAny_pure ⟨"list",_,list_getitem_lookup,(il.push _).typeIs,wpAny_getItem_list_slice (il.push _) (Heap.IsSliceOf.new ..) pl pu .none (by simp) ?_ hsz⟩
 rw[Heap.size_push]
 exact hq
noncomputable def gf (W:Wd)(d:Nat)(cf:Cf):Prop:=
 ∀(f:Nat) (args:List AV) (σ:St) (av:AV) (σ':St),cf f args σ=some (av,σ')→∃fv,W.fv f=some fv∧∀{θ:Th} {s:Shared} {A:Around} {vs:List Value} {Q Ex:Value→Shared→Prop},bp A d→aq W θ σ s.heap→aC s.heap θ args vs→Po W θ s av σ' Q→
  wpAny (model W.prog W.w) A (call fv vs) Q Ex s
theorem AA {env:Env}{pos:Pos}:∀{es:List Expr},(∀e∈es,∀rest,starEach (e::rest) env=(false,eval e env)::starEach rest env)→(backTo pos (starEach es env)).any (·.1)=false
 | [],_=>rfl
 |e::es,h=>by
  rw[h e (List.mem_cons_self ..) es]
  show(false||(backTo pos (starEach es env)).any (·.1))=false
  rw[AA fun e' eg=>h e' (List.mem_cons_of_mem _ eg)];rfl
noncomputable def el (es:List Expr):Prop:=∀e∈es,∀env rest,starEach (e::rest) env=(false,eval e env)::starEach rest env
theorem Ih {env:Env}{ρ:ag}{A:Around}{avs:List AV}{σ':St}{Ex Q:Value→Shared→Prop}{pos:Pos}{f:Value}{first:List Value}{es:List Expr}{xs:List E}(wo:bW W)(hk:keepIn W.K f=true)(bj:el es)(ck:dP W d cf sc es xs)
  (aj:cF sc env)(F:FR W env ρ θ s.heap)(R:aq W θ σ s.heap)(ok:bp A d)(hv:cP W.T.tb cf xs ρ σ=some (avs,σ'))(h:tQ W θ s avs σ' fun vs s₁=>wpAny (model W.prog W.w) A (call f (first++vs)) Q Ex s₁):
  wpAny (model W.prog W.w) A (callWith pos f first (backTo pos (starEach es env)) []) Q Ex s:=by
 cases es with
 |nil=>
  have X:=mo wo R
  refine callWith_K0 X hk ?_
  have:=ck (pos:=pos) aj F R ok hv h (Ex:=Ex)
  intro Γ p hΓ
  obtain t:wpAny (model W.prog W.w) A (call f (first++[])) Q Ex s:=this Γ p hΓ
  exact t Γ p hΓ
 |cons e rest=>
  refine callWith_K (h₀:=s.heap) (mo wo R) hk (ck aj F R ok hv fun vs θ' s' y R' bm=>⟨mo wo R',h vs θ' s' y R' bm⟩) (bj e (List.mem_cons_self ..) env rest) (AA fun e' eg rest=>bj e' (List.mem_cons_of_mem _ eg) env rest)
end
noncomputable def dU (W:Wd)(θ:Th)(h:Heap)(wr:List Addr):Prop:=∀b∈wr,¬own θ b∧W.hB.get? b=none∧∃o,h.get? b=some o∧¬bP o
section
variable {W:Wd}{θ θ':Th}{σ:St}{s s':Shared}{A:Around}
theorem aq.wr {h h':Heap}(R:aq W θ σ h){X:Addr→Prop}(k:∀a o,¬X a→h.get? a=some o→h'.get? a=some o)(hX:∀a,X a→¬own θ a∧W.hB.get? a=none∧∀o,h.get? a=some o→¬bP o):aq W θ σ h':=by
 obtain up:∀a,own θ a→∀o,h.get? a=some o→h'.get? a=some o:=fun a ho o e=>k a o (fun q=>(hX a q).1 ho) e
 refine⟨fun a o e=>k a o (fun q=>by rw[(hX a q).2.1]at e;cases e) (R.base a o e),R.len,fun i o l hs hl=>?_,R.fresh,R.apart⟩
 have x:=R.objs i o l hs hl
 refine ah fun aa=>?_
 refine am (x.cls l.1 (.inl rfl)) fun o1 e1 _=>?_
 refine am (x.cls l.2 (.inr rfl)) fun o2 e2 _=>?_
 obtain hm:=List.mem_of_getElem? hl
 exact aa (x.keep (List.prefix_refl _) (fun a o e t=>k a o (fun q=>(hX a q).2.2 o e t) e) ((up _ ⟨l,hm,.inl rfl⟩ _ e1).trans e1.symm) ((up _ ⟨l,hm,.inr rfl⟩ _ e2).trans e2.symm))
theorem dU.keep {wr:List Addr}{X:Addr→Prop}(L:dU W θ s.heap wr)(x:aB X θ s θ' s')(hX:∀a,X a→a∉wr):dU W θ' s'.heap wr:=fun b hb=>by
 refine ah fun aa=>?_
 obtain⟨h1,h2,o,ho,ht⟩:=L b hb
 exact aa (⟨fun q=>h1 (x.own_old ho q),h2,o,x.keep b o ho h1 (fun q=>hX b q hb),ht⟩)
theorem dU.notTup {wr:List Addr}(L:dU W θ s.heap wr){b:Addr}(hb:b∈wr):∀o,s.heap.get? b=some o→¬bP o:=fun o e=>by
 obtain⟨_,_,o',ho,ht⟩:=L b hb
 rw[e]at ho;cases ho;exact ht
theorem dU.rel {wr:List Addr}(L:dU W θ s.heap wr)(R:aq W θ σ s.heap){h':Heap}(k:∀b o,b∉wr→s.heap.get? b=some o→h'.get? b=some o):aq W θ σ h':=
 R.wr (X:=(· ∈wr)) (fun a o hn e=>k a o hn e) fun a ha=>⟨(L a ha).1,(L a ha).2.1,L.notTup ha⟩
theorem dU.aft {wr:List Addr}{h':Heap}{tk:Nat}(k:∀b o,b∉wr→s.heap.get? b=some o→h'.get? b=some o)(lv:∀b∈wr,∃o,h'.get? b=some o):aB (· ∈wr) θ s θ {s with heap:=h',toks:=tk}:=
 ⟨List.prefix_refl _,fun _ h=>.inl h,fun a o e _ hx=>k a o hx e,fun a o e=>by
  by_cases q:a∈wr
  ·exact lv a q
  ·exact⟨o,k a o q e⟩,rfl,rfl⟩
structure jt (W:Wd)(A:Around)(tgt:Expr)(I:Addr)(wr:List Addr)(gd:Option (Nat×ae))(S:List AV→Th→Heap→Prop):Prop where
 loose:∀{l:List AV} {θ:Th} {h:Heap},S l θ h→dU W θ h wr
 next:∀{v:AV} {rest:List AV} {θ:Th} {σ:St} {s:Shared} {E:Value→Shared→Prop} {K:Value→Shared→Prop},S (v::rest) θ s.heap→aq W θ σ s.heap→b8 gd σ=true→
  (∀x s',aB (· ∈wr) θ s θ s'→aq W θ σ s'.heap→VR s'.heap θ v x→S rest θ s'.heap→K x s')→
  wpAny (model W.prog W.w) A (pyNext (.ref I)) (fun r s₁=>∃x,r=some x∧wpAny (model W.prog W.w) A (letOwnedTupleGo tgt (.ref I) x) (fun _ s₂=>K x s₂) E s₁) E s
 done:∀{θ:Th} {σ:St} {s:Shared} {E:Value→Shared→Prop} {K:Shared→Prop},S [] θ s.heap→aq W θ σ s.heap→b8 gd σ=true→
  (∀(h':Heap) tk,(∀b o,b∉wr→s.heap.get? b=some o→h'.get? b=some o)→aq W θ σ h'→K {s with heap:=h',toks:=tk})→wpAny (model W.prog W.w) A (pyNext (.ref I)) (fun r s₁=>r=none∧K s₁) E s
 self:∀{l:List AV} {θ:Th} {σ:St} {s:Shared} {E:Value→Shared→Prop} {Q:Value→Shared→Prop},S l θ s.heap→aq W θ σ s.heap→Q (.ref I) s→wpAny (model W.prog W.w) A (pyIter (.ref I)) Q E s
 keep:∀{l:List AV} {θ θ':Th} {σ:St} {s s':Shared} {X:Addr→Prop},S l θ s.heap→aq W θ σ s.heap→aB X θ s θ' s'→(∀a,X a→a∉wr∧∀o,s.heap.get? a=some o→¬bP o)→S l θ' s'.heap
theorem uV {tgt:Expr}{I:Addr}{fp wr:List Addr}{n i:Nat}{P Md:Nat→Value→Heap→Prop}{S:Nat→Heap→Prop}(T:KTurns W.prog W.w A tgt I fp wr n P Md S)(hi:i<n)(st:S i s.heap)(R:aq W θ σ s.heap)(L:dU W θ s.heap wr)
  (lv:∀h:Heap,S (i+1) h→∀b∈wr,∃o,h.get? b=some o∧¬bP o){E:Value→Shared→Prop}{K:Value→Shared→Prop}
  (h:∀x s',aB (· ∈wr) θ s θ s'→aq W θ σ s'.heap→P i x s'.heap→S (i+1) s'.heap→dU W θ s'.heap wr→K x s'):
  wpAny (model W.prog W.w) A (pyNext (.ref I)) (fun r s₁=>∃x,r=some x∧wpAny (model W.prog W.w) A (letOwnedTupleGo tgt (.ref I) x) (fun _ s₂=>K x s₂) E s₁) E s:=by
 refine T.item i s _ _ hi st fun v h' tk hm hk=>⟨v,rfl,?_⟩
 refine T.go i v _ _ _ hm fun ub hp st' fX=>?_
 obtain k:∀b o,b∉wr→s.heap.get? b=some o→ub.get? b=some o:=fun b o hb e=>fX b o hb (hk b o hb e)
 exact h v {s with heap:=ub,toks:=tk} (dU.aft k fun b hb=>let⟨o,e,_⟩:=lv _ st' b hb;⟨o,e⟩) (L.rel R k) hp st' fun b hb=>⟨(L b hb).1,(L b hb).2.1,lv _ st' b hb⟩
theorem Pz {tgt:Expr}{I:Addr}{fp wr:List Addr}{n:Nat}{P Md:Nat→Value→Heap→Prop}{S:Nat→Heap→Prop}(T:KTurns W.prog W.w A tgt I fp wr n P Md S)(st:S n s.heap)(R:aq W θ σ s.heap)(L:dU W θ s.heap wr)
  {E:Value→Shared→Prop}{K:Shared→Prop}
  (h:∀(h':Heap) tk,(∀b o,b∉wr→s.heap.get? b=some o→h'.get? b=some o)→aq W θ σ h'→K {s with heap:=h',toks:=tk}):wpAny (model W.prog W.w) A (pyNext (.ref I)) (fun r s₁=>r=none∧K s₁) E s:=
 T.done s _ _ st fun h' tk hk=>⟨rfl,h h' tk hk (L.rel R hk)⟩
theorem aB.fin {X:Addr→Prop}{θ₀:Th}{s₀:Shared}{wr:List Addr}{h':Heap}{tk:Nat}(x:aB X θ₀ s₀ θ s)(hw:∀b∈wr,s₀.heap.get? b=none)(k:∀b o,b∉wr→s.heap.get? b=some o→h'.get? b=some o):aB X θ₀ s₀ θ {s with heap:=h',toks:=tk}:=
 have nw:∀a o,s₀.heap.get? a=some o→a∉wr:=fun a o e q=>by rw[hw a q]at e;exact aK e
 ⟨x.pre,x.new,fun a o e h1 h2=>k a o (nw a o e) (x.keep a o e h1 h2),fun a o e=>let⟨o',e'⟩:=x.live a o e;⟨o',k a o' (nw a o e) e'⟩,x.gens,x.os⟩
theorem gE {T:String}{o:Obj}(h:o.cls=.type T)(hT:T≠"tuple"):¬bP o:=fun q=>by
 have:=q.1
 rw[h]at this
 injection this with e
 exact hT e
theorem tA {r:Nat}{vs:List AV}(h:b8 (some (r,.list vs)) σ=true):σ[r]?=some (.list vs):=by
 obtain⟨o,e,h1⟩:=f8 (show eU (σ[r]?) (fun o=>o.beq (.list vs))=true from h)
 cases o with
 |list us=>rw[(AV.beqs_iff _ _).mp h1]at e;exact e
 |dict _=>exact cz h1
 |inst _ _=>exact cz h1
 |ext _=>exact cz h1
theorem pW {α:Type}{l:List α}{v:α}{rest:List α}{i:Nat}(e:v::rest=l.drop i):i<l.length∧l[i]?=some v∧rest=l.drop (i+1):=by
 have h:i<l.length:=by
  rcases Nat.lt_or_ge i l.length with h |h
  ·exact h
  ·rw[List.drop_eq_nil_of_le h]at e;cases e
 rw[List.drop_eq_getElem_cons h]at e
 injection e with e1 e2
 exact⟨h,by rw[List.getElem?_eq_getElem h,e1],e2⟩
theorem tZ {α:Type}{l:List α}{i:Nat}(hi:i≤l.length)(e:[]=l.drop i):i=l.length:=by
 rcases Nat.lt_or_ge i l.length with h |h
 ·rw[List.drop_eq_getElem_cons h]at e;cases e
 ·lia
theorem pB {θ θ':Th}{i:Nat}{l:Addr×Addr}(hp:θ <+:θ')(h:θ[i]?=some l):θ'[i]?=some l:=by
 obtain⟨t,rfl⟩:=hp
 rw[List.getElem?_append_left (List.getElem?_eq_some_iff.mp h).1];exact h
theorem SD (hh:A.handled=none)(tgt:Expr)(I ax:Addr)(r:Nat)(vs:List AV):
  jt W A tgt I [I] (some (r,.list vs)) (fun l θ h=>∃i,i≤vs.length∧l=vs.drop i∧θ[r]?=some (ax,ax)∧h.IsListIter I ax i∧dU W θ h [I]) where
 loose:=fun x=>x.elim fun _ q=>q.2.2.2.2
 next:=by
  intro v rest θ σ s E K q79 R hs h
  refine ah fun aa=>?_
  refine lI q79 fun i hi hl ha bh L=>?_
  refine cJ (pW hl) fun bB hv hr=>?_
  obtain⟨a,items,e1,e2,li,vi,hsz,_⟩:=dM R (tA hs) (v:=.ref ax) ⟨_,ha,rfl⟩
  cases e1
  have aY:ax≠I:=fun q=>(L I (by simp)).1 (q▸⟨_,List.mem_of_getElem? ha,.inl rfl⟩)
  obtain T:=KTurns.ofWalks (target:=tgt) (Walks.list (prog:=W.prog) (w:=W.w) hh I ax aY items) fun i v s Q E st q=>letGo_listiter st.1 q
  refine aa ?_
  refine uV T (i:=i) (by lia) ⟨bh,li⟩ R L (fun h st b hb=>?_) fun x s' a R' hp st L'=>h x s' a R' ?_ ⟨i+1,by lia,hr,ha,st.1,L'⟩
  ·refine ah fun aa=>?_
   refine cW st.1 fun o ho hc _=>?_
   refine aa ?_
   refine(List.mem_singleton.mp hb).symm▸?_
   exact⟨o,ho,gE hc (by decide)⟩
  ·refine ah fun aa=>?_
   refine am (vi.get hv) fun y hy vy=>?_
   rw[Array.getElem?_toList,hp]at hy
   refine aR hy ?_
   clear hy
   rintro rfl
   exact aa (vy.keep (List.prefix_refl _) fun b o e t=>a.keep b o e (fun q=>by obtain⟨o',e',hn⟩:=R.notTuple q;rw[e]at e';cases e';exact hn t.1) fun q=>L.notTup q o e t)
 done:=by
  intro θ σ s E K q59 R hs h
  refine ah fun aa=>?_
  obtain⟨i,hi,hl,ha,bh,L⟩:=q59
  have eR:=tZ hi hl
  obtain⟨a,items,e1,e2,li,vi,hsz,_⟩:=dM R (tA hs) (v:=.ref ax) ⟨_,ha,rfl⟩
  cases e1
  have aY:ax≠I:=fun q=>(L I (by simp)).1 (q▸⟨_,List.mem_of_getElem? ha,.inl rfl⟩)
  obtain T:=KTurns.ofWalks (target:=tgt) (Walks.list (prog:=W.prog) (w:=W.w) hh I ax aY items) fun i v s Q E st q=>letGo_listiter st.1 q
  exact aa (Pz T (by rw[hsz,←eR];exact⟨bh,li⟩) R L h)
 self:=by
  intro l θ σ s E Q q69 R h
  refine ah fun aa=>?_
  refine lI q69 fun i hi hl ha bh L=>?_
  exact aa (wpAny_pyIter_listiter bh h)
 keep:=by
  intro l θ θ' σ s s' X q79 R x hX
  refine ah fun aa=>?_
  refine lI q79 fun i hi hl ha bh L=>?_
  obtain k:=fun o e=>x.keep I o e (L I (by simp)).1 fun q=>(hX I q).1 (by simp)
  exact aa (⟨i,hi,hl,pB x.pre ha,bh.at k,L.keep x fun a q=>(hX a q).1⟩)
theorem XR {vs:List AV}{i:Nat}{v:AV}(h:(vs.zipIdx.map fun(p:AV×Nat)=>AV.tup [.int p.2,p.1])[i]?=some v):∃u,vs[i]?=some u∧v=.tup [.int i,u]:=by
 rw[List.getElem?_map,List.getElem?_zipIdx]at h
 cases q:vs[i]? with
 |none=>rw[q]at h;exact aK h
 |some u=>rw[q]at h;simp only[Option.map_some,Option.some.injEq]at h;exact⟨u,rfl,by rw[←h];simp⟩
theorem SF (hh:A.handled=none)(tgt:Expr)(I ax:Addr)(r:Nat)(vs:List AV):
  jt W A tgt I [I] (some (r,.list vs)) (fun l θ h=>∃i,i≤vs.length∧l=vs.reverse.drop i∧θ[r]?=some (ax,ax)∧h.IsRevIter I ax ((vs.length:Int) - 1 - (i:Int))∧dU W θ h [I]) where
 loose:=fun x=>x.elim fun _ q=>q.2.2.2.2
 next:=by
  intro v rest θ σ s E K q79 R hs h
  refine ah fun aa=>?_
  refine lI q79 fun i hi hl ha bh L=>?_
  refine cJ (pW hl) fun bB hv hr=>?_
  rw[List.length_reverse]at bB
  obtain⟨a,items,e1,e2,li,vi,hsz,_⟩:=dM R (tA hs) (v:=.ref ax) ⟨_,ha,rfl⟩
  cases e1
  have aY:ax≠I:=fun q=>(L I (by simp)).1 (q▸⟨_,List.mem_of_getElem? ha,.inl rfl⟩)
  obtain T:=KTurns.ofWalks (target:=tgt) (Walks.listRev (prog:=W.prog) (w:=W.w) hh I ax aY items) fun i v s Q E st q=>by
   refine cW st.2.1 fun o ho hc hd=>?_
   unfold letOwnedTupleGo
   cases tgt<;>first
    |exact wpAny_pure q
    | (cases v<;>first
      |exact wpAny_pure q
      | (refine wpAny_bind (wpAny_load ho ?_)
         obtain⟨oc,od,oda,osl⟩:=o
         dsimp only at hc hd
         subst hc hd
         exact wpAny_pure q))
  rw[←hsz]at bh
  refine aa ?_
  refine uV T (i:=i) (by lia) ⟨by lia,bh,li⟩ R L (fun h st b hb=>?_) fun x s' a R' hp st L'=>h x s' a R' ?_ ⟨i+1,by lia,hr,ha,by rw[←hsz];exact st.2.1,L'⟩
  ·refine ah fun aa=>?_
   refine cW st.2.1 fun o ho hc _=>?_
   refine aa ?_
   refine(List.mem_singleton.mp hb).symm▸?_
   exact⟨o,ho,gE hc (by decide)⟩
  ·rw[List.getElem?_reverse bB]at hv
   refine am (vi.get hv) fun y hy vy=>?_
   rw[←hsz,Array.getElem?_toList,hp]at hy
   refine aR hy ?_
   clear hy
   rintro rfl
   exact vy.keep (List.prefix_refl _) fun b o e t=>a.keep b o e (fun q=>by obtain⟨o',e',hn⟩:=R.notTuple q;rw[e]at e';cases e';exact hn t.1) fun q=>L.notTup q o e t
 done:=by
  intro θ σ s E K q59 R hs h
  refine ah fun aa=>?_
  obtain⟨i,hi,hl,ha,bh,L⟩:=q59
  have eR:=tZ (by rw[List.length_reverse];exact hi) hl
  rw[List.length_reverse]at eR
  obtain⟨a,items,e1,e2,li,vi,hsz,_⟩:=dM R (tA hs) (v:=.ref ax) ⟨_,ha,rfl⟩
  cases e1
  have aY:ax≠I:=fun q=>(L I (by simp)).1 (q▸⟨_,List.mem_of_getElem? ha,.inl rfl⟩)
  obtain T:=(Walks.listRev (prog:=W.prog) (w:=W.w) (A:=A) hh I ax aY items)
  refine aa ?_
  refine T.done s _ _ ⟨Nat.le_refl _,by rw[←hsz]at bh eR;rw[←eR]at bh ⊢;exact bh,li⟩ fun h' tk hk=>⟨rfl,h h' tk hk (L.rel R hk)⟩
 self:=by
  intro l θ σ s E Q q69 R h
  refine ah fun aa=>?_
  refine lI q69 fun i hi hl ha bh L=>?_
  exact aa (wpAny_pyIter_revIter bh h)
 keep:=by
  intro l θ θ' σ s s' X q79 R x hX
  refine ah fun aa=>?_
  refine lI q79 fun i hi hl ha bh L=>?_
  obtain k:=fun o e=>x.keep I o e (L I (by simp)).1 fun q=>(hX I q).1 (by simp)
  exact aa (⟨i,hi,hl,pB x.pre ha,bh.at k,L.keep x fun a q=>(hX a q).1⟩)
theorem SG (hh:A.handled=none)(tgt:Expr)(I t:Addr):
  jt W A tgt I [I] none (fun l θ h=>∃i items,i≤items.size∧aC h θ l (items.toList.drop i)∧IsTup h t items∧h.IsTupleIter I t i∧dU W θ h [I]) where
 loose:=fun x=>x.elim fun _ x=>x.elim fun _ q=>q.2.2.2.2
 next:=by
  intro v rest θ σ s E K q79 R hs h
  refine ah fun aa=>?_
  refine lK q79 fun i items hi hl ht bh L=>?_
  obtain⟨x,xs,hd⟩:∃x xs,items.toList.drop i=x::xs:=by
   cases q:items.toList.drop i with
   |nil=>rw[q]at hl;exact hl.elim
   |cons x xs=>exact⟨x,xs,rfl⟩
  refine cJ (pW hd.symm) fun bB hv hr=>?_
  rw[Array.length_toList]at bB
  rw[hd]at hl
  have aY:t≠I:=fun q=>by
   obtain⟨o,ho,hc,n,hd⟩:=ht
   exact L.notTup (b:=I) (by simp) o (q▸ho) ⟨hc,_,_,hd⟩
  obtain T:=KTurns.ofWalks (target:=tgt) (Walks.tuple (prog:=W.prog) (w:=W.w) hh I t aY items) fun i v s Q E st q=>letGo_tupleiter st.1 q
  refine aa ?_
  refine uV T (i:=i) bB ⟨bh,ht⟩ R L (fun h st b hb=>?_) fun y s' a R' hp st L'=>?_
  ·refine ah fun aa=>?_
   refine cW st.1 fun o ho hc _=>?_
   refine aa ?_
   refine(List.mem_singleton.mp hb).symm▸?_
   exact⟨o,ho,gE hc (by decide)⟩
  ·obtain k:∀b o,s.heap.get? b=some o→bP o→s'.heap.get? b=some o:=fun b o e t=>a.keep b o e (fun q=>by obtain⟨o',e',hn⟩:=R.notTuple q;rw[e]at e';cases e';exact hn t.1) fun q=>L.notTup q o e t
   rw[Array.getElem?_toList,hp]at hv
   refine aR hv ?_
   clear hv
   rintro rfl
   refine h _ s' a R' (hl.1.keep (List.prefix_refl _) k) ⟨i+1,items,bB,?_,st.2,st.1,L'⟩
   refine(hr)▸?_
   exact hl.2.keep (List.prefix_refl _) k
 done:=by
  intro θ σ s E K q59 R hs h
  refine ah fun aa=>?_
  refine lK q59 fun i items hi hl ht bh L=>?_
  have eR:i=items.size:=by
   cases q:items.toList.drop i with
   |nil=>
    have:=tZ (by rw[Array.length_toList];exact hi) q.symm
    rw[Array.length_toList]at this;exact this
   |cons x xs=>rw[q]at hl;exact hl.elim
  have aY:t≠I:=fun q=>by
   obtain⟨o,ho,hc,n,hd⟩:=ht
   exact L.notTup (b:=I) (by simp) o (q▸ho) ⟨hc,_,_,hd⟩
  exact aa ((Walks.tuple (prog:=W.prog) (w:=W.w) (A:=A) hh I t aY items).done s _ _ ⟨eR▸bh,ht⟩ fun h' tk hk=>⟨rfl,h h' tk hk (L.rel R hk)⟩)
 self:=by
  intro l θ σ s E Q q69 R h
  refine ah fun aa=>?_
  refine lK q69 fun i items hi hl ht bh L=>?_
  exact aa (wpAny_pyIter_tupleiter bh h)
 keep:=by
  intro l θ θ' σ s s' X q79 R x hX
  refine ah fun aa=>?_
  refine lK q79 fun i items hi hl ht bh L=>?_
  have k:=fun o e=>x.keep I o e (L I (by simp)).1 fun q=>(hX I q).1 (by simp)
  have kt:=R.tup x fun a o e t q=>(hX a q).2 o e t
  obtain⟨o,ho,hc,n,hd⟩:=ht
  exact aa (⟨i,items,hi,hl.keep x.pre kt,⟨o,kt _ _ ho ⟨hc,_,_,hd⟩,hc,n,hd⟩,bh.at k,L.keep x fun a q=>(hX a q).1⟩)
theorem U2 {a:Int}{n i:Nat}{v:AV}(h:((List.range n).map fun(k:Nat)=>AV.int (a+(k:Int)))[i]?=some v):v=.int (a+(i:Int)):=by
 rw[List.getElem?_map]at h
 refine ah fun aa=>?_
 obtain⟨j,h1,h2⟩:=Option.map_eq_some_iff.mp h
 obtain⟨h3,h4⟩:=List.getElem?_eq_some_iff.mp h1
 rw[List.getElem_range]at h4
 refine aa ?_
 refine(h2)▸?_
 exact(h4).symm▸rfl
theorem SE (hh:A.handled=none)(tgt:Expr)(I:Addr)(a:Int)(n:Nat):
  jt W A tgt I [I] none (fun l θ h=>∃i,i≤n∧l=((List.range n).map fun(k:Nat)=>AV.int (a+(k:Int))).drop i∧IsRangeIter h I (a+(i:Nat)*1) ((n:Int) - (i:Nat)) 1∧dU W θ h [I]) where
 loose:=fun x=>x.elim fun _ q=>q.2.2.2
 next:=by
  rintro v rest θ σ s E K ⟨i,hi,hl,bh,L⟩ R hs h
  refine cJ (pW hl) fun bB hv hr=>?_
  rw[List.length_map,List.length_range]at bB
  obtain T:=KTurns.ofWalks (target:=tgt) (Walks.range (prog:=W.prog) (w:=W.w) hh I a 1 n) fun i v s Q E st q=>by
   unfold letOwnedTupleGo
   cases tgt<;>first
    |exact wpAny_pure q
    | (cases v<;>first
      |exact wpAny_pure q
      | (refine wpAny_bind (wpAny_load st ?_)
         exact wpAny_pure q))
  refine uV T (i:=i) bB bh R L (fun h st b hb=>?_) fun x s' af R' hp st L'=>h x s' af R' ?_ ⟨i+1,bB,hr,st,L'⟩
  ·refine(List.mem_singleton.mp hb).symm▸?_
   exact⟨_,st,gE rfl (by decide)⟩
  ·refine(U2 hv).symm▸?_
   obtain⟨t,e⟩:=hp
   rw[Int.mul_one]at e
   exact⟨t,e⟩
 done:=by
  intro θ σ s E K q59 R hs h
  refine ah fun aa=>?_
  refine pN q59 fun i hi hl bh L=>?_
  obtain eR:=tZ (by rw[List.length_map,List.length_range];exact hi) hl
  rw[List.length_map,List.length_range]at eR
  clear q59
  subst eR
  exact aa ((Walks.range (prog:=W.prog) (w:=W.w) (A:=A) hh I a 1 i).done s _ _ bh fun h' tk hk=>⟨rfl,h h' tk hk (L.rel R hk)⟩)
 self:=by
  intro l θ σ s E Q q69 R h
  refine ah fun aa=>?_
  refine pN q69 fun i hi hl bh L=>?_
  exact aa ((Walks.range (prog:=W.prog) (w:=W.w) (A:=A) hh I a 1 n).self i s Q E bh h)
 keep:=by
  intro l θ θ' σ s s' X q79 R x hX
  refine ah fun aa=>?_
  refine pN q79 fun i hi hl bh L=>?_
  obtain k:=fun o e=>x.keep I o e (L I (by simp)).1 fun q=>(hX I q).1 (by simp)
  exact aa (⟨i,hi,hl,k _ bh,L.keep x fun a q=>(hX a q).1⟩)
theorem SB (hh:A.handled=none){elts:List Expr}{kk:Nat}{pos:Pos}(I it ax:Addr)(I9:I≠it)(r:Nat)(vs:List AV):
  jt W A (.Tuple elts kk pos) I [I,it] (some (r,.list vs)) (fun l θ h=>∃i,i≤vs.length∧l=(vs.zipIdx.map fun(p:AV×Nat)=>AV.tup [.int p.2,p.1]).drop i∧θ[r]?=some (ax,ax)∧(∃old,IsEnum h I it i old)∧h.IsListIter it ax i∧dU W θ h [I,it]) where
 loose:=fun x=>x.elim fun _ q=>q.2.2.2.2.2
 next:=by
  intro v rest θ σ s E K q79 R hs h
  refine ah fun aa=>?_
  refine Ga q79 fun i hi hl ha Cl bh L=>?_
  obtain⟨bB,hv,hr⟩:=pW hl
  rw[List.length_map,List.length_zipIdx]at bB
  obtain⟨a,items,e1,e2,li,vi,hsz,_⟩:=dM R (tA hs) (v:=.ref ax) ⟨_,ha,rfl⟩
  cases e1
  have oax:own θ ax:=⟨_,List.mem_of_getElem? ha,.inl rfl⟩
  have aY:ax≠I:=fun q=>(L I (by simp)).1 (q▸oax)
  obtain CK:ax≠it:=fun q=>(L it (by simp)).1 (q▸oax)
  have T:=KTurns.ofWalksU (elts:=elts) (k:=kk) (pos:=pos) (WalksT.enumerate (prog:=W.prog) (w:=W.w) hh I it ax I9 aY CK items).toU
  refine aa ?_
  refine uV T (i:=i) (by lia) ⟨Cl,bh,li⟩ R L (fun h st b hb=>?_) fun x s' a R' hp st L'=>h x s' a R' ?_ ⟨i+1,by lia,hr,ha,st.1,st.2.1,L'⟩
  ·obtain⟨⟨old,he⟩,Ri,_⟩:=st
   rcases List.mem_cons.mp hb with rfl |hb
   ·exact⟨_,he,gE rfl (by decide)⟩
   ·refine(List.mem_singleton.mp hb).symm▸?_
    refine ah fun aa=>?_
    refine cW Ri fun o ho hc _=>?_
    exact aa (⟨o,ho,gE hc (by decide)⟩)
  ·refine ah fun aa=>?_
   obtain⟨u,hu,e28⟩:=XR hv
   clear hv
   subst e28
   refine am (vi.get hu) fun y hy vy=>?_
   refine bH hp fun T vals e29 e39 hT=>?_
   clear hp
   subst e29
   obtain⟨t,x,hx,rfl⟩:=e39
   rw[Array.getElem?_toList,hx]at hy
   refine aR hy ?_
   clear hy
   rintro rfl
   exact aa (⟨T,_,rfl,hT,⟨t,rfl⟩,vy.keep (List.prefix_refl _) fun b o e t=>a.keep b o e (fun q=>by obtain⟨o',e',hn⟩:=R.notTuple q;rw[e]at e';cases e';exact hn t.1) fun q=>L.notTup q o e t,trivial⟩)
 done:=by
  intro θ σ s E K q59 R hs h
  refine ah fun aa=>?_
  obtain⟨i,hi,hl,ha,Cl,bh,L⟩:=q59
  have eR:=tZ (by rw[List.length_map,List.length_zipIdx];exact hi) hl
  rw[List.length_map,List.length_zipIdx]at eR
  obtain⟨a,items,e1,e2,li,vi,hsz,_⟩:=dM R (tA hs) (v:=.ref ax) ⟨_,ha,rfl⟩
  cases e1
  have oax:own θ ax:=⟨_,List.mem_of_getElem? ha,.inl rfl⟩
  have aY:ax≠I:=fun q=>(L I (by simp)).1 (q▸oax)
  obtain CK:ax≠it:=fun q=>(L it (by simp)).1 (q▸oax)
  exact aa ((WalksT.enumerate (prog:=W.prog) (w:=W.w) (A:=A) hh I it ax I9 aY CK items).done s _ _ (by rw[hsz,←eR];exact⟨Cl,bh,li⟩) fun h' tk hk=>⟨rfl,h h' tk hk (L.rel R hk)⟩)
 self:=by
  intro l θ σ s E Q q69 R h
  refine ah fun aa=>?_
  refine Ga q69 fun i hi hl ha e49 bh L=>?_
  obtain⟨old,he⟩:=e49
  exact aa (wpAny_pyIter_enum he h)
 keep:=by
  intro l θ θ' σ s s' X q79 R x hX
  refine ah fun aa=>?_
  refine Ga q79 fun i hi hl ha e49 bh L=>?_
  obtain⟨old,he⟩:=e49
  obtain k:=fun o e=>x.keep I o e (L I (by simp)).1 fun q=>(hX I q).1 (by simp)
  obtain k2:=fun o e=>x.keep it o e (L it (by simp)).1 fun q=>(hX it q).1 (by simp)
  exact aa (⟨i,hi,hl,pB x.pre ha,⟨old,k _ he⟩,bh.at k2,L.keep x fun a q=>(hX a q).1⟩)
end
section
open PySem
theorem SP:typeLookup (.type "list") "keys"=pure none:=by rw[typeLookup_type,builtinLookup_eq_fast];kernel_rfl
theorem SO {prog:Program}{w:World}{A:Around}{E:Value→Shared→Prop}{s:Shared}{a:Addr}{o:Obj}{xs:Array Value}{k:Nat}{Q:Option Value→Shared→Prop}
  (hx:s.heap.get? a=some o)(hc:o.cls=.type "list")(Jj:o.data=.seq xs k)(hd:o.dict=none)(hA:A.handled=none)
  (h:∀h' tk,(∀b o,s.heap.get? b=some o→h'.get? b=some o)→Q none {s with heap:=h',toks:=tk}):
  wpAny (model prog w) A (getAttr? (.ref a) "keys") Q E s:=by
 refine ah fun aa=>?_
 obtain⟨c,dct,dat,sl⟩:=o
 simp only at hc Jj hd
 subst hc Jj hd
 obtain⟨hp,g,d,tk,os⟩:=s
 obtain hT:∀tk',(⟨hp,g,d,tk',os⟩:Shared).TypeIs (.ref a) "list":=fun _=>⟨_,hx,rfl⟩
 obtain f1:=sub_AttributeError
 obtain f3:=F.slot_list_getattribute.lookup
 obtain f4:=F.slot_list_getattribute.bind (.ref a)
 obtain f5:=am_list_getattr_none
 refine aa ?_
 unfold getAttr? getAttrBy? getAttrBy
 repeat (any_goals (first |assumption |exact hT _ | ((with_reducible show wpAny _ _ (call (Value.builtin "list.__getattribute__") _ _) _ _ _);refine call_meets F.slot_list_getattribute (hT _) am_entry_list_getattribute (F.args_list_getattribute_2 _ _) (meets_getattribute_miss_list a xs k sl "keys" _ SP (by decide+kernel)) ⟨hx,hA,fun h' tk' e fD=>?_⟩) |wp_step))
 refine Gb fD.there fun t' u' he=>?_
 show wpAny _ _ (getattributeRaised _ _ _ _ _ _ _) _ _ _
 unfold getattributeRaised
 repeat (any_goals (first |assumption |wp_step))
 exact h _ _ fun b o e=>fD.keeps b o e
section
variable {W:Wd}{env:Env}{ρ ρ':ag}{θ θ':Th}{σ σ':St}{s s':Shared}{A:Around}{d:Nat}{cf:Cf}{sc:Scope}{Ex:Value→Shared→Prop}
theorem IG {K:Type}[DecidableEq K]{knd:KeyKind W.prog W.w K}{KR:K→AV→Prop}{a:Addr}{l:List (K×Value)}{kvs:List (AV×AV)}{k0:K}{k:AV}{key:Value}{Q:Unit→Shared→Prop}
  (D:s.heap.DictOf knd a l)(P:Pw KR s.heap θ l kvs)(dS:knd.is k0 key=true)(hk:KR k0 k)(hf:∀x q,KR x q→(q.beq k=true↔x=k0))
  (mk:∀h' l',h'.DictOf knd a l'→(∀m,Pw KR h' θ l' m→DR W h' θ a m)){av:AV}{v:Value}(hv:VR s.heap θ av v)(hl:kvs.length≤1000000)
  (h:∀h' n,DR W h' θ a (bU kvs k av)→Heap.SameBut a s.heap h'→Q () {s with heap:=h',toks:=n}):wpAny (model W.prog W.w) A (dictSet a key v) Q Ex s:=by
 obtain hD:DR W s.heap θ a kvs:=mk _ _ D _ P
 have hn:=Gg D
 refine wpAny_dictSet_pairs (kvs:=l) dS D (fun h' D' hs=>h h' _ (mk _ _ D' _ ?_) hs) (mr (P.len▸hl))
 obtain T:=im hs hD.at
 exact Pw.store hf hk (hv.keep (List.prefix_refl _) T) (P.keep (List.prefix_refl _) T) hn
theorem IF {K:Type}[DecidableEq K]{knd:HeapKind W.prog W.w K}{KR:K→AV→Prop}{a:Addr}{l:List (K×Addr×Value)}{kvs:List (AV×AV)}{k0:K}{k:AV}{p:Addr}{Q:Unit→Shared→Prop}
  (hu:knd.room A)(D:s.heap.DictOfH knd a l)(P:bV KR s.heap θ l kvs)(dS:knd.is s.heap k0 p)(hk:KR k0 k)(hf:∀x q,KR x q→(q.beq k=true↔x=k0))
  (mk:∀h' l',h'.DictOfH knd a l'→(∀m,bV KR h' θ l' m→DR W h' θ a m)){av:AV}{v:Value}(hv:VR s.heap θ av v)(hl:kvs.length≤1000000)
  (h:∀h' n,DR W h' θ a (bU kvs k av)→Heap.SameBut a s.heap h'→Q () {s with heap:=h',toks:=n}):wpAny (model W.prog W.w) A (dictSet a (.ref p) v) Q Ex s:=by
 obtain hD:DR W s.heap θ a kvs:=mk _ _ D _ P
 have hn:=Nc D
 refine wpAny_dictSet_heap (xs:=l) hu dS D (fun h' D' hs=>h h' _ (mk _ _ D' _ ?_) hs) (mr (P.len▸hl))
 obtain T:=im hs hD.at
 exact bV.store hf hk (hv.keep (List.prefix_refl _) T) (P.keep (List.prefix_refl _) T) hn
theorem DR.dset {Q:Unit→Shared→Prop}(hu:A.units<cLine){a:Addr}{kvs:List (AV×AV)}(D:DR W s.heap θ a kvs){k:AV}{key:Value}(hk:VR s.heap θ k key)(ko:cR kvs k=true){av:AV}{v:Value}(hv:VR s.heap θ av v)(hl:kvs.length≤1000000)
  (h:∀h' n,DR W h' θ a (bU kvs k av)→Heap.SameBut a s.heap h'→Q () {s with heap:=h',toks:=n}):wpAny (model W.prog W.w) A (dictSet a key v) Q Ex s:=by
 have eP:∀p∈kvs,bx p.1=bx k:=fun p hp=>eq_of_beq (List.all_eq_true.mp (bo ko).2 p hp)
 have hn:bx k≠0:=bne_iff_ne.mp (bo ko).1
 obtain⟨d1,d2,d3,d4⟩:=D.kind hn eP
 rcases Dv hn with⟨i,rfl⟩ | ⟨i,rfl⟩ | ⟨i,j,rfl⟩ | ⟨i,j,rfl⟩
 ·obtain⟨l,x,y⟩:=d1 rfl
  obtain⟨t,rfl⟩:=hk
  exact IG (knd:=intKind W.prog W.w) (k0:=i) x y (by exact beq_self_eq_true i) rfl (fun x q e=>by rw[e,AV.beq_iff];exact⟨fun e=>AV.int.inj e,fun e=>congrArg _ e⟩) (fun h' l' x m y=>.inl ⟨l',x,y⟩) hv hl h
 ·obtain⟨l,x,y⟩:=d2 rfl
  obtain⟨st,t,ht,rfl⟩:=hk
  refine IG (knd:=strKind W.prog W.w) (k0:=st) x y (by exact beq_self_eq_true st) ⟨i,rfl,ht⟩ (fun x q e=>?_) (fun h' l' x m y=>.inr (.inl ⟨l',x,y⟩)) hv hl h
  obtain⟨j,rfl,hj⟩:=e
  rw[AV.beq_iff]
  exact⟨fun e=>Option.some.inj (hj.symm.trans (AV.str.inj e▸ht)),fun e=>congrArg _ (xg hj (e▸ht))⟩
 ·obtain⟨l,x,y⟩:=d3 rfl
  obtain⟨p,items,rfl,⟨o,ho,hc,n,hd⟩,bm⟩:=hk
  refine IF (knd:=tupleKind (intKind W.prog W.w)) (k0:=[i,j]) hu x y ⟨o,items,n,ho,hc,hd,?_⟩ rfl (fun x q e=>?_) (fun h' l' x m y=>.inr (.inr (.inl ⟨l',x,y⟩))) hv hl h
  ·obtain⟨u,v,e,⟨t1,rfl⟩,⟨t2,rfl⟩⟩:=aC.two bm
   rw[e]
   exact .cons (beq_self_eq_true i) (.cons (beq_self_eq_true j) .nil)
  ·rw[e,AV.beq_iff]
   exact⟨fun e=>Ky (AV.tup.inj e),fun e=>e▸rfl⟩
 ·obtain⟨l,x,y⟩:=d4 rfl
  obtain⟨p,items,rfl,⟨o,ho,hc,n,hd⟩,bm⟩:=hk
  refine IF (knd:=tupleKind (xE W.prog W.w)) (k0:=[i,j]) hu x y ⟨o,items,n,ho,hc,hd,?_⟩ rfl (fun x q e=>?_) (fun h' l' x m y=>.inr (.inr (.inr ⟨l',x,y⟩))) hv hl h
  ·obtain⟨u,v,e,e1,e2⟩:=aC.two bm
   cases e1;cases e2
   rw[e]
   exact .cons (beq_self_eq_true _) (.cons (beq_self_eq_true _) .nil)
  ·rw[e,AV.beq_iff]
   exact⟨fun e=>Kx (AV.tup.inj e),fun e=>e▸rfl⟩
inductive ju (W:Wd)(d:Nat)(cf:Cf)(sc:Scope):List (Option Expr)→List Expr→List E→Prop
 |nil:ju W d cf sc [] [] []
 |cons {k v:Expr} {ks:List (Option Expr)} {vs:List Expr} {x y:E} {xs:List E}:aE W d cf sc k x→aE W d cf sc v y→ju W d cf sc ks vs xs→ju W d cf sc (some k::ks) (v::vs) (x::y::xs)
noncomputable def xQ (ps:List (Value×Value)):List Value:=ps.flatMap fun p=>[p.1,p.2]
noncomputable def Ay (env:Env)(pos:Pos):List (Option Expr)→List Expr→List (Sem Value×Sem Value)
 |some k::ks,v::vs=>(eval k env,do let x ←eval v env;standAt pos;pure x)::Ay env pos ks vs
 |_,_=>[]
end
end
noncomputable def eI {α:Type}(n:Nat)(lt:Nat→Nat→Bool):KasT α→Option α
 |.ret a=>some a
 |.ask i j k=>bif Nat.blt i n&&Nat.blt j n then eI n lt (k (lt i j))else none
theorem Ms {α:Type}{n:Nat}{cmp:Nat→Nat→(Bool→Shared→Prop)→Shared→Prop}{lt:Nat→Nat→Bool}{Q:α→Shared→Prop}{s:Shared}(h:∀i j C,i<n→j<n→C (lt i j) s→cmp i j C s):∀{t:KasT α} {a:α},eI n lt t=some a→Q a s→t.kasWp cmp Q s
 |.ret b,a,e,q=>by cases e;exact q
 |.ask i j k,a,e,q=>by
  unfold eI at e
  cases z:Nat.blt i n&&Nat.blt j n with
  |false=>rw[z]at e;cases e
  |true=>
   rw[z]at e
   rw[Bool.and_eq_true]at z
   exact h i j _ (Nat.le_of_ble_eq_true z.1) (Nat.le_of_ble_eq_true z.2) (Ms h e q)
theorem FE {α β:Type}{n:Nat}{lt:Nat→Nat→Bool}{f:α→KasT β}:∀{t:KasT α} {a:α},eI n lt t=some a→eI n lt (t.bind f)=eI n lt (f a)
 |.ret b,a,e=>by cases e;rfl
 |.ask i j k,a,e=>by
  unfold eI at e
  show(bif Nat.blt i n&&Nat.blt j n then eI n lt ((k (lt i j)).bind f)else none)=eI n lt (f a)
  cases z:Nat.blt i n&&Nat.blt j n with
  |false=>rw[z]at e;cases e
  |true=>rw[z]at e;exact FE e
theorem HS {i n:Nat}(h:i<n):Nat.blt i n=true:=Nat.ble_eq_true_of_le h
theorem HF {n:Nat}{lt:Nat→Nat→Bool}(h:∀k,1≤k→k<n→lt k (k - 1)=false):∀(f m:Nat),1≤m→m+f=n→eI n lt (kas_asc (List.toArray (List.range n)) f m)=some n
 |0,m,_,e=>by
  show some m=some n
  rw[←e];rfl
 |f+1,m,h1,e=>by
  have hm:m<n:=e▸Nat.lt_add_of_pos_right (Nat.succ_pos f)
  have e1:(List.toArray (List.range n)).getD m 0=m:=by simp only[Array.getD,List.size_toArray,List.length_range,dif_pos hm,Array.getInternal_eq_getElem,List.getElem_toArray,List.getElem_range]
  have e2:(List.toArray (List.range n)).getD (m - 1) 0=m - 1:=by simp only[Array.getD,List.size_toArray,List.length_range,dif_pos (Nat.lt_of_le_of_lt (Nat.sub_le m 1) hm),Array.getInternal_eq_getElem,List.getElem_toArray,List.getElem_range]
  unfold kas_asc eI
  refine(e1).symm▸?_
  refine(e2).symm▸?_
  refine(HS hm).symm▸?_
  refine(HS (Nat.lt_of_le_of_lt (Nat.sub_le ..) hm)).symm▸?_
  refine(h m h1 hm).symm▸?_
  exact HF h f (m+1) (Nat.le_add_left ..) (by rw[Nat.add_assoc,Nat.add_comm 1 f];exact e)
theorem U4 {n:Nat}{lt:Nat→Nat→Bool}(hn:2≤n)(h:∀k,1≤k→k<n→lt k (k - 1)=false):eI n lt (kas_sort n)=some (List.toArray (List.range n)):=by
 obtain e0:eI n lt (kas_count n (List.toArray (List.range n)))=some (n,List.toArray (List.range n)):=by
  unfold kas_count
  rw[FE (HF h (n - 1) 1 (Nat.le_refl _) (by lia)),if_pos (by simp)]
  rfl
 unfold kas_sort
 rw[FE e0,if_neg (Nat.lt_irrefl n)]
 rfl
noncomputable def f9 (pm:Array Nat)(vs:List Value):Array Value:=List.toArray (pm.toList.map fun i=>vs.getD i Value.none)
theorem Fu (vs:List Value):f9 (List.toArray (List.range vs.length)) vs=vs.toArray:=by
 unfold f9
 congr 1
 apply List.ext_getElem
 ·simp
 ·intro i h1 h2
  simp[h2]
section
variable {prog:Program}{w:World}{A:Around}{E:Value→Shared→Prop}{s:Shared}
theorem WO {P:PySem.Fin→Shared→Prop}{a:Addr}{vs:List Value}{n0:Nat}{κ:SortKind}{lt:Nat→Nat→Bool}{pm:Array Nat}(ho:s.heap.get? a=some (seqObj "list" vs.toArray n0))(dR:vs.length<64)
  (hk:2≤vs.length→∀s':Shared,(∀b o,b≠a→s.heap.get? b=some o→s'.heap.get? b=some o)→∀(Q':SortKind→Shared→Prop)(E':Value→Shared→Prop),Q' κ s'→wpAny (model prog w) A (keyKind' vs.toArray) Q' E' s')
  (hc:2≤vs.length→∀s':Shared,(∀b o,b≠a→s.heap.get? b=some o→s'.heap.get? b=some o)→∀i j C,i<vs.length→j<vs.length→C (lt i j) s'→kas_ask prog w A κ vs i j C s')
  (hr:2≤vs.length→eI vs.length lt (kas_sort vs.length)=some pm)(hp:vs.length<2→pm=List.toArray (List.range vs.length))(hsz:pm.size=vs.length)
  (q:∀h' c,(∀b o,b≠a→s.heap.get? b=some o→h'.get? b=some o)→h'.get? a=some (seqObj "list" (f9 pm vs) c)→P (.done (.ret .none)) {s with heap:=h'}):
  wpAny (model prog w) A (Builtin.«list.sort» ⟨[.ref a],[]⟩) P E s:=by
 refine ah fun aa=>?_
 obtain ha:a<s.heap.objs.size:=Heap.lt_size ho
 obtain⟨e1,iN⟩:∃e1,(s.heap.update a (Obj.mapSeq fun _=>(#[]:Array Value))).get? a=some (seqObj "list" #[] e1):=⟨_,get?_update_seq ho fun _=>#[]⟩
 have keep3:∀b o,b≠a→s.heap.get? b=some o→(((s.heap.update a (Obj.mapSeq fun _=>(#[]:Array Value))).push (seqObj "tuple" vs.toArray 0)).push (seqObj "list" #[] 0)).get? b=some o:=fun b o hb e=>
  Heap.get?_push_of_some _ (Heap.get?_push_of_some _ ((Heap.get?_update_ne _ _ _ _ hb).trans e))
 have ur:(((s.heap.update a (Obj.mapSeq fun _=>(#[]:Array Value))).push (seqObj "tuple" vs.toArray 0)).push (seqObj "list" #[] 0)).get? a=some (seqObj "list" #[] e1):=Heap.get?_push_of_some _ (Heap.get?_push_of_some _ iN)
 have JG:(f9 pm vs).size=vs.length:=by unfold f9;rw[List.size_toArray,List.length_map,Array.length_toList,hsz]
 refine aa ?_
 rw[list_sort_plain]
 refine wpAny_bind (listItems_at ho rfl ?_)
 refine wpAny_bind (listUpdate_at ho rfl ?_ (by rw[List.size_toArray,sizeLine_eq];lia) (Nat.zero_le _))
 refine wpAny_bind (seqEpoch_at iN rfl ?_)
 refine wpAny_bind (wpAny_newTuple ?_ (by show vs.length≤_;rw[sizeLine_eq];lia))
 refine wpAny_bind (wpAny_newList ?_ (Nat.zero_le _))
 refine wpAny_holding ?_
 show wpAny (model prog w) A _ P E {s with heap:=((s.heap.update a (Obj.mapSeq fun _=>(#[]:Array Value))).push (seqObj "tuple" vs.toArray 0)).push (seqObj "list" #[] 0)}
 dsimp only
 obtain⟨c2,uh⟩:∃c2,((((s.heap.update a (Obj.mapSeq fun _=>(#[]:Array Value))).push (seqObj "tuple" vs.toArray 0)).push (seqObj "list" #[] 0)).update a (Obj.mapSeq fun _=>f9 pm vs)).get? a=some (seqObj "list" (f9 pm vs) c2):=⟨_,get?_update_seq ur fun _=>f9 pm vs⟩
 obtain keep4:∀b o,b≠a→s.heap.get? b=some o→((((s.heap.update a (Obj.mapSeq fun _=>(#[]:Array Value))).push (seqObj "tuple" vs.toArray 0)).push (seqObj "list" #[] 0)).update a (Obj.mapSeq fun _=>f9 pm vs)).get? b=some o:=fun b o hb e=>
  (Heap.get?_update_ne _ _ _ _ hb).trans (keep3 b o hb e)
 by_cases h2:vs.toArray.size<2
 ·rw[if_pos h2,if_pos h2]
  obtain hG:vs.length<2:=by simpa using h2
  refine wpAny_bind (wpAny_pure ?_)
  rw[StateT.run_pure]
  refine wpAny_bind (wpAny_pure ?_)
  dsimp only
  refine wpAny_bind (seqEpoch_at ur rfl ?_)
  obtain eo:(arrOf (SortSt.mk' general' (vs.toArray.zip vs.toArray) #[] 7 none)).map (·.2)=f9 pm vs:=by
   rw[hp hG,Fu]
   show(pairsOf vs).map (·.2)=vs.toArray
   apply Array.toList_inj.mp
   rw[Array.toList_map,pairsOf_toList]
   simp[List.map_snd_zip]
  refine(eo).symm▸?_
  refine wpAny_bind (listUpdate_at ur rfl ?_ (Nat.zero_le _) (Nat.le_trans (Nat.le_of_eq JG) (by rw[sizeLine_eq];lia)))
  simp only[bne_self_eq_false,Bool.false_eq_true,if_false]
  exact wpAny_pure (q _ c2 keep4 uh)
 ·rw[if_neg h2,if_neg h2]
  obtain hG:2≤vs.length:=by simpa using h2
  refine wpAny_bind (hk hG _ keep3 _ _ ?_)
  refine wpAny_bind (wpAny_mono (kat_run (Q:=fun st' s'=>arrOf st'=pm.map (kas_item (vs.toArray.zip vs.toArray))∧failedOf st'=none∧s'={s with heap:=((s.heap.update a (Obj.mapSeq fun _=>(#[]:Array Value))).push (seqObj "tuple" vs.toArray 0)).push (seqObj "list" #[] 0)})
   (G:=fun p s'=>p=pm∧s'={s with heap:=((s.heap.update a (Obj.mapSeq fun _=>(#[]:Array Value))).push (seqObj "tuple" vs.toArray 0)).push (seqObj "list" #[] 0)})
   rfl hG dR (fun p' st' s' a1 a2 a3 a4=>⟨by rw[←a4.1];exact a2,a3,a4.2⟩) (Ms (hc hG _ keep3) (hr hG) ⟨rfl,rfl⟩)) ?_ fun _ _ e=>e)
  rintro⟨⟨⟩,st'⟩ s' ⟨QM,hf,rfl⟩
  dsimp only
  rw[show(arrOf st').map (·.2)=f9 pm vs from kat_snds rfl QM]
  refine wpAny_bind (seqEpoch_at ur rfl ?_)
  refine wpAny_bind (listUpdate_at ur rfl ?_ (Nat.zero_le _) (Nat.le_trans (Nat.le_of_eq JG) (by rw[sizeLine_eq];lia)))
  rw[hf]
  simp only[bne_self_eq_false,Bool.false_eq_true,if_false]
  exact wpAny_pure (q _ c2 keep4 uh)
theorem FP {Q:Value→Shared→Prop}{VP:List Value→Prop}{xv:Value}{n:Nat}{κ:SortKind}{lt:Nat→Nat→Bool}{pm:Array Nat}
  (QX:∀(R:List Value→Shared→Prop)(E':Value→Shared→Prop),(∀h' tk vs,(∀b o,s.heap.get? b=some o→h'.get? b=some o)→VP vs→R vs {s with heap:=h',toks:=tk})→wpAny (model prog w) A.in1 (collect xv) R E' s)
  (aX:∀vs,VP vs→vs.length=n)(dR:n<64)
  (hk:2≤n→∀vs,VP vs→∀s':Shared,(∀b o,s.heap.get? b=some o→s'.heap.get? b=some o)→∀(Q':SortKind→Shared→Prop)(E':Value→Shared→Prop),Q' κ s'→wpAny (model prog w) A.in1.in1 (keyKind' vs.toArray) Q' E' s')
  (hc:2≤n→∀vs,VP vs→∀s':Shared,(∀b o,s.heap.get? b=some o→s'.heap.get? b=some o)→∀i j C,i<n→j<n→C (lt i j) s'→kas_ask prog w A.in1.in1 κ vs i j C s')
  (hr:2≤n→eI n lt (kas_sort n)=some pm)(hp:n<2→pm=List.toArray (List.range n))(hsz:pm.size=n)
  (q:∀h' tk vs D c,(∀b o,s.heap.get? b=some o→h'.get? b=some o)→VP vs→s.heap.get? D=none→h'.get? D=some (seqObj "list" (f9 pm vs) c)→Q (.ref D) {s with heap:=h',toks:=tk}):
  wpAny (model prog w) A (call (.builtin "sorted") [xv]) Q E s:=by
 refine Calls.call_function_entry kind_sorted plain_sorted entry_sorted (args_sorted1 _) ?_
 unfold Builtin.«sorted»
 refine wpAny_bind (m:=checkCount "sorted" 1 1 _) (wpAny_pure ?_)
 refine wpAny_bind (QX _ _ fun h' tk vs Jz hv=>?_)
 obtain hl:=aX vs hv
 clear aX
 subst hl
 refine wpAny_bind (wpAny_newList ?_ (by rw[sizeLine_eq];lia))
 obtain JF:(h'.push (seqObj "list" vs.toArray 0)).get? h'.objs.size=some (seqObj "list" vs.toArray 0):=Heap.get?_push_size _ rfl
 have hD:s.heap.get? h'.objs.size=none:=by
  cases e:s.heap.get? h'.objs.size with
  |none=>rfl
  |some o=>exact absurd (Heap.lt_size (Jz _ _ e)) (Nat.lt_irrefl _)
 obtain aY:∀b o,s.heap.get? b=some o→b≠h'.objs.size:=fun b o e q=>by rw[q,hD]at e;exact aK e
 have kp:∀s':Shared,(∀b o,b≠h'.objs.size→(h'.push (seqObj "list" vs.toArray 0)).get? b=some o→s'.heap.get? b=some o)→∀b o,s.heap.get? b=some o→s'.heap.get? b=some o:=fun s' k b o e=>
  k b o (aY b o e) (Heap.get?_push_of_some _ (Jz b o e))
 refine wpAny_bind (wpAny_holding (wpAny_call_entry slot_list_sort ⟨_,JF,rfl⟩ entry_list_sort ?body (args_list_sort _)))
 case body=>
  refine WO (s:={s with heap:=h'.push (seqObj "list" vs.toArray 0),toks:=tk}) JF dR (fun h2 s' k=>hk h2 vs hv s' (kp s' k)) (fun h2 s' k=>hc h2 vs hv s' (kp s' k)) hr hp hsz fun ub c k e=>?_
  exact⟨_,rfl,wpAny_pure ⟨_,rfl,q ub tk vs _ c (kp {s with heap:=ub} k) hv hD e⟩⟩
end
section
variable {W:Wd}{θ θ':Th}{σ σ':St}{s s':Shared}{A:Around}{E:Value→Shared→Prop}{Q:Value→Shared→Prop}{d:Nat}
theorem UQ {v:AV}{p:Int×Int}(h:pA v=some p):v=.tup [.int p.1,.int p.2]:=
 az h fun l h1 h2=>let⟨_,_,e,h3,h4⟩:=Fv h2;by rw[fQ h1,e,cy h3,cy h4]
theorem Uw {h:Heap}{v:AV}{p:Int×Int}{x:Value}(hp:pA v=some p)(hx:VR h θ v x):∃a o t1 t2 n,x=.ref a∧h.get? a=some o∧o.cls=.type "tuple"∧o.data=.seq #[.int p.1 t1,.int p.2 t2] n:=by
 rw[UQ hp]at hx
 refine ah fun aa=>?_
 refine bH hx fun a items e29 e39 bm=>?_
 clear hx
 subst e29
 obtain⟨o,ho,hc,n,hd⟩:=e39
 obtain⟨l⟩:=items
 refine aa ?_
 refine bH (aC.two bm) fun y z e9 h1 h2=>?_
 refine ah fun aa=>?_
 obtain⟨t1,e1⟩:=h1
 obtain⟨t2,e2⟩:=h2
 obtain e9:l=[y,z]:=e9
 clear bm
 subst e9 e1 e2
 exact aa (⟨a,o,t1,t2,n,rfl,ho,hc,hd⟩)
theorem Tf {vs:List AV}:ly vs=true→∀k,k+1<vs.length→jR (vs.getD k .none) (vs.getD (k+1) .none)=true:=by
 induction vs with
 |nil=>exact fun _ k hk=>absurd hk (Nat.not_lt_zero _)
 |cons a l ih=>
  intro h k hk
  cases l with
  |nil=>exact absurd (Nat.lt_of_succ_lt_succ hk) (Nat.not_lt_zero _)
  |cons b l=>cases k with
   |zero=>exact(bo h).1
   |succ k=>exact ih (bo h).2 k (Nat.lt_of_succ_lt_succ hk)
theorem Te {u v:AV}(h:jR u v=true):jR v u=false:=by
 refine am (f8 h) fun p e1 h=>?_
 refine am (f8 h) fun q e2 h=>?_
 unfold jR
 rw[e1,e2]
 show(decide (q.1<p.1)||(decide (q.1=p.1)&&decide (q.2<p.2)))=false
 simp only[Bool.or_eq_true,Bool.and_eq_true,decide_eq_true_eq]at h
 simp only[Bool.or_eq_false_iff,Bool.and_eq_false_iff,decide_eq_false_iff_not]
 lia
theorem Nx {prog:Program}{w:World}{C:Bool→Shared→Prop}{vs:List Value}{i j a b:Nat}{oa ob:Obj}{p q:Int×Int}{t1 t2 t3 t4:Tok}{n m:Nat}(h1:vs.getD i Value.none=.ref a)(h2:vs.getD j Value.none=.ref b)(ha:s.heap.get? a=some oa)(da:oa.data=.seq #[.int p.1 t1,.int p.2 t2] n)
  (hb:s.heap.get? b=some ob)(db:ob.data=.seq #[.int q.1 t3,.int q.2 t4] m)(hC:C (decide (p.1<q.1)||(decide (p.1=q.1)&&decide (p.2<q.2))) s):kas_ask prog w A (tuples' true) vs i j C s:=by
 unfold kas_ask
 refine(h1).symm▸?_
 refine(h2).symm▸?_
 refine kat_lt ha da hb db (kat_cons (wpAny_eqBool_int (kat_go (fun e=>kat_yes (kat_cons (wpAny_eqBool_int (kat_go (fun e'=>kat_yes (kat_nil ?_)) fun e'=>kat_no ?_)))) fun e=>kat_no ?_)))
 ·obtain e1:p.1=q.1:=by simpa using e
  have e2:p.2=q.2:=by simpa using e'
  have:(decide (p.1<q.1)||(decide (p.1=q.1)&&decide (p.2<q.2)))=decide ((#[Value.int p.1 t1,Value.int p.2 t2]:Array Value).size<(#[Value.int q.1 t3,Value.int q.2 t4]:Array Value).size):=by
   rw[e1,e2];simp
  rw[←this];exact hC
 ·have e1:p.1=q.1:=by simpa using e
  refine kat_one _ _ (wpAny_lt_int ?_)
  have:(decide (p.1<q.1)||(decide (p.1=q.1)&&decide (p.2<q.2)))=decide (p.2<q.2):=by rw[e1];simp
  rw[this]at hC
  exact hC
 ·have e1:¬p.1=q.1:=by simpa using e
  refine oneLt_int ?_
  have:(decide (p.1<q.1)||(decide (p.1=q.1)&&decide (p.2<q.2)))=decide (p.1<q.1):=by simp[e1]
  rw[this]at hC
  exact hC
theorem M1 {h:Heap}:∀{vs:List Value},(∀v∈vs,∃a o i t y n,v=.ref a∧h.get? a=some o∧o.cls=.type "tuple"∧o.data=.seq #[.int i t,y] n)→∃fs,KatTups h vs fs∧fs.length=vs.length∧∀f∈fs,∃i t,f=Value.int i t
 | [],_=>⟨[],.nil,rfl,fun f hf=>by cases hf⟩
 |v::vs,k=>by
  refine ah fun aa=>?_
  obtain⟨a,o,i,t,y,n,rfl,ho,hc,hd⟩:=k v (List.mem_cons_self ..)
  refine cW (M1 fun u hu=>k u (List.mem_cons_of_mem _ hu)) fun fs h1 h2 h3=>?_
  refine aa ?_
  refine⟨.int i t::fs,.cons ho hc hd rfl h1,by rw[List.length_cons,h2,List.length_cons],fun f hf=>?_⟩
  rcases List.mem_cons.mp hf with rfl |hf
  ·exact⟨i,t,rfl⟩
  ·exact h3 f hf
theorem WT (R:aq W θ σ s.heap){r:Nat}{vs:List AV}{xv:Value}(hs:σ[r]?=some (.list vs))(hx:VR s.heap θ (.ref r) xv)(dR:vs.length<64)(hp:vs.all uH=true)(hr:ly vs=true)(h:Po W θ s (.ref σ.length) (σ++[.list vs]) Q):wpAny (model W.prog W.w) A (call (.builtin "sorted") [xv]) Q E s:=by
 refine ah fun aa=>?_
 refine cq (dM R hs hx) fun a items e29 ha li vi hsz hn=>?_
 clear hx
 subst e29
 have aX:items.toList.length=vs.length:=by rw[Array.length_toList];exact hsz
 have CS:∀i,i<vs.length→∃p a o t1 t2 n,pA (vs.getD i .none)=some p∧items.toList.getD i Value.none=.ref a∧s.heap.get? a=some o∧o.cls=.type "tuple"∧o.data=.seq #[.int p.1 t1,.int p.2 t2] n:=fun i hi=>by
  obtain e1:vs[i]?=some vs[i]:=List.getElem?_eq_getElem hi
  refine ah fun aa=>?_
  refine am (vi.get e1) fun x Sb JU=>?_
  have:(pA vs[i]).isSome=true:=List.all_eq_true.mp hp _ (List.getElem_mem hi)
  obtain⟨p,e2⟩:=Option.isSome_iff_exists.mp this
  refine XQ (Uw e2 JU) fun a o t1 t2 n e59 ho hc hd=>?_
  clear JU
  subst e59
  exact aa (⟨p,a,o,t1,t2,n,by simp[hi,e2],by rw[List.getD_eq_getElem?_getD,Sb];rfl,ho,hc,hd⟩)
 obtain li':s.heap.IsList a items.toList.toArray:=by rw[Array.toArray_toList];exact li
 refine aa ?_
 refine FP (n:=vs.length) (κ:=tuples' true) (lt:=fun i j=>jR (vs.getD i .none) (vs.getD j .none)) (pm:=List.toArray (List.range vs.length)) (VP:=(· =items.toList)) (fun RR E' k=>?_) (fun us e=>by rw[e];exact aX) dR (fun h2 us e s' kp Q' E' hq=>?_) (fun h2 us e s' kp i j C hi hj hC=>?_) (fun h2=>U4 h2 fun k h1 hk=>?_) (fun _=>rfl) (by simp) fun h' tk us D c kp e hD hg=>?_
 ·refine collect_list li' ?_ (by rw[sizeLine_eq];lia)
  refine k _ s.toks _ (fun b o e=>?_) rfl
  obtain hb:b<s.heap.objs.size:=Heap.lt_size e
  exact(Heap.get?_update_ne _ _ _ _ (Nat.ne_of_lt hb)).trans (Heap.get?_push_of_some _ e)
 ·subst e
  refine ah fun aa=>?_
  obtain⟨fs,f1,f2,f3⟩:=M1 (h:=s'.heap) (vs:=items.toList) fun v hv=>by
   refine ah fun aa=>?_
   obtain⟨i,hi,rfl⟩:=List.getElem_of_mem hv
   obtain⟨p,a1,o1,t1,t2,n1,e1,e2,e3,e4,e5⟩:=CS i (by lia)
   rw[List.getD_eq_getElem?_getD,List.getElem?_eq_getElem hi]at e2
   exact aa (⟨a1,o1,p.1,t1,_,n1,e2,kp _ _ e3,e4,e5⟩)
  refine aa ?_
  exact kat_kind (T:=.type "int") f1 (by lia) (fun v hv=>by
   refine Gb (f3 v hv) fun i t e29=>?_
   subst e29
   exact Looks.now) (by decide) hq
 ·subst e
  refine ah fun aa=>?_
  obtain⟨p,a1,o1,t1,t2,n1,e1,e2,e3,e4,e5⟩:=CS i hi
  obtain⟨q,a2,o2,t3,t4,n2,f1,f2,f3,f4,f5⟩:=CS j hj
  refine aa ?_
  refine Nx e2 f2 (kp _ _ e3) e5 (kp _ _ f3) f5 ?_
  unfold jR at hC
  rw[e1,f1]at hC
  exact hC
 ·have:=Te (Tf hr (k - 1) (by lia))
  rw[show k - 1+1=k by lia]at this
  exact this
 ·subst e
  rw[←aX,Fu,Array.toArray_toList]at hg
  refine h.new R kp hD fun θ' hθ=>⟨rfl,items,⟨_,hg⟩,vi.keep hθ fun b o e _=>kp b o e,hn⟩
theorem Ny {prog:Program}{w:World}{C:Bool→Shared→Prop}{vs:List Value}{i j:Nat}{x y:Str}{t1 t2:Tok}(h1:vs.getD i Value.none=.str x t1)(h2:vs.getD j Value.none=.str y t2)(hC:C (decide (x.cps.toList<y.cps.toList)) s):kas_ask prog w A oneType' vs i j C s:=by
 unfold kas_ask
 rw[h1,h2]
 exact kas_lt_str hC
theorem MR:∀{vs:List Value},(∀v∈vs,∃x t,v=Value.str x t)→∃ss,StrsAre vs ss
 | [],_=>⟨[],.nil⟩
 |v::vs,k=>by
  obtain⟨x,t,rfl⟩:=k v (List.mem_cons_self ..)
  obtain⟨ss,h⟩:=MR fun u hu=>k u (List.mem_cons_of_mem _ hu)
  exact⟨x::ss,.cons x t h⟩
theorem Pw.keyAt {K:Type}{KR:K→AV→Prop}{h:Heap}{θ:Th}:∀{l:List (K×Value)} {kvs:List (AV×AV)},Pw KR h θ l kvs→l.length=kvs.length∧∀(i:Nat) (p:K×Value),l[i]?=some p→∃q,kvs[i]?=some q∧KR p.1 q.1
 | [],[],_=>⟨rfl,fun i p e=>by simp at e⟩
 |p::l,q::m,⟨a,_,b⟩=>by
  refine lH (Pw.keyAt b) fun h1 h2=>?_
  refine⟨by simp[h1],fun i p' e=>?_⟩
  cases i with
  |zero=>simp at e;subst e;exact⟨q,rfl,a⟩
  |succ i=>simpa using h2 i p' (by simpa using e)
theorem Kg {K:Type}[DecidableEq K]{knd:KeyKind W.prog W.w K}{a:Addr}{l:List (K×Value)}(hh:A.handled=none)(c6:(a==sysModules)=false)(D:s.heap.DictOf knd a l)(hl:l.length≤sizeLine)(RR:List Value→Shared→Prop)(E':Value→Shared→Prop)
  (k:∀h' tk vs,(∀b o,s.heap.get? b=some o→h'.get? b=some o)→(vs.length=l.length∧∀(j:Nat)(v:Value),vs[j]?=some v→∃k x,l[j]?=some (k,x)∧knd.is k v=true)→RR vs {s with heap:=h',toks:=tk}):wpAny (model W.prog W.w) A.in1 (collect (.ref a)) RR E' s:=by
 obtain⟨ep,D'⟩:=D.dictAt
 refine kdu_collect (A:=A.in1) (kdl_dict c6) hh D' hl fun h' tk acc kp qb=>k h' tk acc.toList kp ⟨by rw[Array.length_toList];exact qb.1,fun j v e=>qb.2 j v (by rw[←Array.getElem?_toList];exact e)⟩
noncomputable def uS:List Nat:=[127,111,174,82,216]
noncomputable def DE (i j:Nat):Bool:=match (uS[i]?).bind (bf[·]?),(uS[j]?).bind (bf[·]?)with
 |some x,some y=>decide (x.cps.toList<y.cps.toList)
 |_,_=>false
theorem U8:eI 5 DE (kas_sort 5)=some #[3,1,0,2,4]:=by kernel_rfl
theorem KD:uR=uS.map .str:=rfl
theorem WQ (ok:bp A d)(R:aq W θ σ s.heap){a:Addr}{kvs:List (AV×AV)}(c6:(a==sysModules)=false)(D:DR W s.heap θ a kvs)(hk:kvs.map (·.1)=uR)(h:Po W θ s (.ref σ.length) (σ++[.list KE]) Q):wpAny (model W.prog W.w) A (call (.builtin "sorted") [.ref a]) Q E s:=by
 obtain eP:∀p∈kvs,bx p.1=bx (.str 127):=fun p hp=>by
  have:p.1∈uR:=hk▸List.mem_map_of_mem hp
  rw[KD]at this
  refine am (List.mem_map.mp this) fun n _ e=>?_
  rw[←e];rfl
 refine ah fun aa=>?_
 refine tK (D.kind (n:=2) (by decide) eP) fun _ d2 _ _=>?_
 refine am (d2 rfl) fun l x y=>?_
 obtain⟨y1,y2⟩:=y.keyAt
 have eS:kvs.length=5:=by
  have:=congrArg List.length hk
  rw[List.length_map]at this
  exact this
 have hl:l.length=5:=y1.trans eS
 have bj:∀vs:List Value,(vs.length=l.length∧∀(j:Nat) (v:Value),vs[j]?=some v→∃k x,l[j]?=some (k,x)∧(strKind W.prog W.w).is k v=true)→∀i,i<5→∃n st t,uS[i]?=some n∧bf[n]?=some st∧vs.getD i Value.none=.str st t:=by
  intro vs q19 i hi
  refine ah fun aa=>?_
  obtain⟨e1,e2⟩:=q19
  obtain e3:vs[i]?=some vs[i]:=List.getElem?_eq_getElem (by omega)
  refine eX (e2 i _ e3) fun st x e4 e5=>?_
  obtain⟨q,e6,n,e7,e8⟩:=y2 i _ e4
  obtain e9:(kvs.map (·.1))[i]?=some (.str n):=by rw[List.getElem?_map,e6];exact congrArg some e7
  rw[hk,KD,List.getElem?_map]at e9
  refine cw e9 fun m e10 e11=>?_
  cases e11
  obtain⟨t,e12⟩:∃t,vs[i]=.str st t:=by
   generalize vs[i]=v at e5
   cases v<;>first | (cases e5;done) |skip
   rename_i st' t
   have:st=st':=by first |exact eq_of_beq e5 |exact(eq_of_beq e5).symm
   exact⟨t,by rw[this]⟩
  exact aa (⟨n,st,t,e10,e8,by rw[List.getD_eq_getElem?_getD,e3,e12];rfl⟩)
 refine aa ?_
 refine FP (n:=5) (κ:=oneType') (lt:=DE) (pm:=#[3,1,0,2,4]) (Kg ok.h c6 x (by rw[hl,sizeLine_eq];omega)) (fun us e=>e.1.trans hl) (by decide) (fun h2 us e s' kp Q' E' hq=>?_) (fun h2 us e s' kp i j C hi hj hC=>?_) (fun _=>U8) (fun h=>absurd h (by decide)) rfl fun h' tk us D' c kp e hD hg=>?_
 ·obtain Ce:∀v∈us,∃x t,v=Value.str x t:=fun v hv=>by
   refine ah fun aa=>?_
   obtain⟨i,hi,rfl⟩:=List.getElem_of_mem hv
   refine jp (bj us e i (by rw[←hl,←e.1];exact hi)) fun n st t _ _ e3=>?_
   rw[List.getD_eq_getElem?_getD,List.getElem?_eq_getElem hi]at e3
   exact aa (⟨st,t,e3⟩)
  match us,e.1.trans hl,Ce with
  |v₁::v₂::rest,_,Ce=>
   obtain⟨ss,hS⟩:=MR Ce
   refine(keyKind_strs hS).symm▸?_
   exact wpAny_pure hq
 ·refine ah fun aa=>?_
  refine jp (bj us e i hi) fun n st t e1 e2 e3=>?_
  refine jp (bj us e j hj) fun m st' t' f1 f2 f3=>?_
  refine aa ?_
  refine Ny e3 f3 ?_
  unfold DE at hC
  rw[e1,f1]at hC
  simp only[Option.bind_some,e2,f2]at hC
  exact hC
 ·refine h.new R kp hD fun θ' hθ=>⟨rfl,_,⟨_,hg⟩,?_,by decide⟩
  obtain g:∀i n,uS[i]?=some n→VR h' θ' (.str n) (us.getD i Value.none):=fun i n hi=>by
   obtain Rh:i<5:=(List.getElem?_eq_some_iff.mp hi).1
   refine ah fun aa=>?_
   refine jp (bj us e i Rh) fun m st t e1 e2 e3=>?_
   rw[hi]at e1
   refine aR e1 ?_
   clear e1
   rintro rfl
   refine aa ?_
   refine(e3).symm▸?_
   exact⟨st,t,e2,rfl⟩
  exact⟨g 3 82 rfl,g 1 111 rfl,g 0 127 rfl,g 2 174 rfl,g 4 216 rfl,trivial⟩
theorem WR (ok:bp A d)(R:aq W θ σ s.heap){a:Addr}{kvs:List (AV×AV)}(c6:(a==sysModules)=false)(D:DR W s.heap θ a kvs)(hl:kvs.length≤1)(hk:(kvs.map (·.1)).all yz=true)(h:Po W θ s (.ref σ.length) (σ++[.list (kvs.map (·.1))]) Q):wpAny (model W.prog W.w) A (call (.builtin "sorted") [.ref a]) Q E s:=by
 obtain Ju:∀p∈kvs,∃i:Int,p.1=.int i:=fun p hp=>by
  have:=List.all_eq_true.mp hk _ (List.mem_map_of_mem hp)
  generalize p.1=v at this
  cases v<;>first | (cases this;done) |skip
  exact⟨_,rfl⟩
 obtain⟨d1,_,_,_⟩:=D.kind (n:=1) (by decide) fun p hp=>by
  obtain⟨i,e⟩:=Ju p hp
  rw[e];rfl
 refine ah fun aa=>?_
 refine am (d1 rfl) fun l x y=>?_
 obtain⟨y1,y2⟩:=y.keyAt
 refine aa ?_
 refine FP (n:=kvs.length) (κ:=oneType') (lt:=fun _ _=>false) (pm:=List.toArray (List.range kvs.length)) (Kg ok.h c6 x (by rw[sizeLine_eq];lia)) (fun us e=>e.1.trans y1) (by lia) (fun h2=>absurd h2 (by lia)) (fun h2=>absurd h2 (by lia)) (fun h2=>absurd h2 (by lia)) (fun _=>rfl) (by simp) fun h' tk us D' c kp e hD hg=>?_
 have uy:=e.1.trans y1
 rw[←uy,Fu]at hg
 refine h.new R kp hD fun θ' hθ=>⟨rfl,_,⟨_,hg⟩,?_,by rw[List.length_map];lia⟩
 cases kvs with
 |nil=>
  cases us with
  |nil=>exact trivial
  |cons _ _=>cases uy
 |cons p m=>
  cases m with
  |cons _ _=>exact absurd hl (by simp)
  |nil=>
   cases us with
   |nil=>cases uy
   |cons v m=>
    cases m with
    |cons _ _=>cases uy
    |nil=>
     refine eX (e.2 0 v rfl) fun k x e1 e2=>?_
     refine am (y2 0 _ e1) fun q e3 e4=>?_
     refine aR e3 ?_
     clear e3
     intro e08
     clear uy y2 y1 y d1 Ju h hk hl D
     subst e08
     have e5:p.1=.int k:=e4
     refine⟨?_,trivial⟩
     show VR h' θ' p.1 v
     refine(e5).symm▸?_
     cases v<;>first | (cases e2;done) |skip
     rename_i i t
     have:k=i:=by first |exact eq_of_beq e2 |exact(eq_of_beq e2).symm
     exact⟨t,by rw[this]⟩
theorem WP (sys:∀a,W.hB.get? a=none→(a==sysModules)=false)(ok:bp A d)(R:aq W θ σ s.heap){x:AV}{xv:Value}(hx:VR s.heap θ x xv){v:AV}(e:dc .sorted [x] σ=some (v,σ'))(h:Po W θ s v σ' Q):wpAny (model W.prog W.w) A (call (.builtin "sorted") [xv]) Q E s:=by
 refine az (show((dE x).bind fun r=>(σ[r]?).bind (MI σ))=some (v,σ')from e) fun r h1 e1=>az e1 fun o hs e2=>?_
 rw[eZ h1]at hx
 refine eN (o:=bX o) e2 (fun vs h1 e3=>?_) fun _ e3=>az e3 fun kvs h1 e4=>?_
 ·rw[gP h1]at hs
  refine lH (b7 e3) fun hc e4=>?_
  refine ah fun aa=>?_
  obtain⟨e08,e18⟩:=lR e4
  clear e3 e2 e1 e
  subst e08
  subst e18
  exact aa (WT R hs hx (cL (bo (bo hc).1).1) (bo (bo hc).1).2 (bo hc).2 h)
 ·rw[jy h1]at hs
  refine cW (lr R hs hx) fun a e19 ha D=>?_
  clear hx
  subst e19
  obtain c6:=sys a (R.fresh r _ (a,a) hs ha rfl).1
  refine ah fun aa=>?_
  cases hb:AV.beqs (kvs.map (·.1)) uR with
  |true=>
   rw[hb]at e4
   obtain⟨e08,e18⟩:=lR e4
   clear e3 e2 e1 e
   subst e08
   subst e18
   exact aa (WQ ok R c6 D ((AV.beqs_iff _ _).mp hb) h)
  |false=>
   rw[hb]at e4
   obtain⟨hc,e5⟩:=b7 e4
   refine aa ?_
   refine lH (lR e5) fun e09 e19=>?_
   clear e5 e4 e3 e2 e1 e
   subst e09
   subst e19
   exact WR ok R c6 D (cL (bo hc).1) (bo hc).2 h
theorem AW:plainId "dict.update.loop"=true:=by decide+kernel
theorem M4:entryFor table "dict.update.loop"=some Builtin.«dict.update.loop»:=entryFor_of_tree (by kernel_rfl)
theorem Uv {a:Addr}{o:Obj}{items:Array Value}{n:Nat}{QQ:List Value→Shared→Prop}(ho:s.heap.get? a=some o)(hc:o.cls=.type "tuple")(hd:o.data=.seq items n)(h:QQ items.toList s):wpAny (model W.prog W.w) A (Builtin.Dict.pairItems (.ref a)) QQ E s:=by
 unfold Builtin.Dict.pairItems
 refine wpAny_bind (wpAny_typeOf (T:="tuple") ⟨o,ho,hc⟩ ?_)
 rw[if_pos (by decide)]
 exact wpAny_bind (wpAny_seqItems ho hd (wpAny_pure h))
theorem VM {kv:List (AV×AV)}{k v:AV}:(bU kv k v).length≤kv.length+1:=by
 induction kv with
 |nil=>simp[bU]
 |cons p l ih=>
  unfold bU
  split
  ·simp
  ·simp only[List.length_cons];lia
theorem VJ {kv:List (AV×AV)}{k v:AV}{n:Nat}(h:∀p∈kv,bx p.1=n)(hk:bx k=n):∀p∈bU kv k v,bx p.1=n:=by
 induction kv with
 |nil=>intro p hp;rw[List.mem_singleton.mp hp];exact hk
 |cons q l ih=>
  intro p hp
  unfold bU at hp
  split at hp
  ·rcases List.mem_cons.mp hp with rfl |hp
   ·exact h q (List.mem_cons_self ..)
   ·exact h p (List.mem_cons_of_mem _ hp)
  ·rcases List.mem_cons.mp hp with rfl |hp
   ·exact h p (List.mem_cons_self ..)
   ·exact ih (fun p hp=>h p (List.mem_cons_of_mem _ hp)) p hp
theorem Dq {h:Heap}{it l:Addr}{i:Nat}(x:h.IsListIter it l i):∀o,h.get? it=some o→¬bP o:=fun o e=>by
 refine ah fun aa=>?_
 obtain⟨o',ho,hc,_⟩:=x
 rw[e]at ho;refine aR ho ?_;clear ho;rintro rfl
 exact aa (gE hc (by decide))
theorem DR.mv {h h':Heap}{a it:Addr}{kvs:List (AV×AV)}(D:DR W h θ a kvs)(k:∀b o,b≠it→h.get? b=some o→h'.get? b=some o)(aY:a≠it)(nt:∀o,h.get? it=some o→¬bP o):DR W h' θ a kvs:=by
 obtain⟨o,ho,_⟩:=D.cls
 exact D.keep (List.prefix_refl _) (fun b o e t=>k b o (fun q=>nt o (q▸e) t) e) ((k a o aY ho).trans ho.symm)
theorem FW {a:AV}{l:List AV}{kvs:List (AV×AV)}{g:Prop}(h:lE (a::l)=some kvs)(k:∀p m,a=.tup [p.1,p.2]→lE l=some m→kvs=p::m→g):g:=
 az h fun t h1 h=>az h fun p h2 h=>cw h fun m h3 e=>k p m (by rw[fQ h1,fL h2]) h3 e.symm
theorem Xx (hh:A.handled=none)(hu:A.in1.units<cLine){D it l:Addr}(Cb:D≠it)(Cc:D≠l)(iI:l≠it){items:Array Value}{RR:Result→Shared→Prop}:∀(rest:List (AV×AV)) (vs:List AV) (acc:List (AV×AV)) (i:Nat) (t:Tok) (s:Shared),lE vs=some rest→acc.length+rest.length≤1000000→(∀p∈rest,bx p.1=2)→(∀p∈acc,bx p.1=2)→DR W s.heap θ D acc→s.heap.IsListIter it l i→s.heap.IsList l items→aC s.heap θ vs (items.toList.drop i)→i≤items.size→
  (∀h' tk,DR W h' θ D (tq acc rest)→(∀b o,b≠D→b≠it→s.heap.get? b=some o→h'.get? b=some o)→RR (.ok (.ret .none)) {s with heap:=h',toks:=tk})→
  codeAny (model W.prog W.w) A (.builtin "dict.update.loop" ⟨[.ref D,.ref it,.int i t,.none],[]⟩) RR s:=by
 intro rest
 induction rest with
 |nil=>
  intro vs acc i t s hp hn k1 k2 hD bh hl bm hi hR
  obtain RV:vs=[]:=by
   cases vs with
   |nil=>rfl
   |cons a l=>exact FW hp fun _ _ _ _ e=>nomatch e
  subst RV
  obtain Cj:items.toList.drop i=[]:=by
   cases e:items.toList.drop i with
   |nil=>rfl
   |cons x xs=>rw[e]at bm;exact bm.elim
  have eR:i=items.size:=by
   have:=List.drop_eq_nil_iff.mp Cj
   rw[Array.length_toList]at this
   lia
  refine codeAny_builtin M4 ?_
  refine(Around.under_plainId AW _).symm▸?_
  unfold Builtin.«dict.update.loop»
  dsimp only
  refine wpAny_bind ((Walks.list (prog:=W.prog) (w:=W.w) (A:=A.in1) hh it l iI items).done s _ _ ⟨eR▸bh,hl⟩ fun h' tk hk=>?_)
  have qh:∀b o,b≠it→s.heap.get? b=some o→h'.get? b=some o:=fun b o hb e=>hk b o (by simpa using hb) e
  show wpAny _ _ (Builtin.Dict.addKeywords D [] >>= fun _=>ret .none) _ _ _
  refine wpAny_bind (wpAny_pure (wpAny_pure (hR h' tk ?_ fun b o _ hb e=>qh b o hb e)))
  exact hD.mv (fun b o hb e=>qh b o hb e) Cb (Dq bh)
 |cons p rest ih=>
  intro vs acc i t s hp hn k1 k2 hD bh hl bm hi hR
  refine codeAny_builtin M4 ?_
  refine(Around.under_plainId AW _).symm▸?_
  unfold Builtin.«dict.update.loop»
  dsimp only
  refine ah fun aa=>?_
  obtain⟨k,v,vs',rfl,rfl,gw⟩:∃k v vs',vs=.tup [k,v]::vs'∧p=(k,v)∧lE vs'=some rest:=by
   cases vs with
   |nil=>exact nomatch hp
   |cons a l=>exact FW hp fun p' m e1 e2 e3=>⟨p'.1,p'.2,l,by rw[e1],(List.cons.inj e3).1,(List.cons.inj e3).2▸e2⟩
  obtain⟨x,xs,hd⟩:∃x xs,items.toList.drop i=x::xs:=by
   cases q:items.toList.drop i with
   |nil=>rw[q]at bm;exact bm.elim
   |cons x xs=>exact⟨x,xs,rfl⟩
  refine cJ (pW hd.symm) fun bB hx hr=>?_
  rw[Array.length_toList]at bB
  rw[hd]at bm
  obtain⟨JR,RX⟩:=bm
  rw[Array.getElem?_toList]at hx
  have Cv:bx k=2:=k1 _ (List.mem_cons_self ..)
  refine aa ?_
  refine wpAny_bind ((Walks.list (prog:=W.prog) (w:=W.w) (A:=A.in1) hh it l iI items).item i s _ _ bB ⟨bh,hl⟩ fun y h1 tk1 hy bj hk=>?_)
  rw[show items[i]?=some y from hy]at hx
  refine ah fun aa=>?_
  refine aR hx ?_
  clear hx
  intro e08
  clear hy hd
  subst e08
  have qh:∀b o,b≠it→s.heap.get? b=some o→h1.get? b=some o:=fun b o hb e=>hk b o (by simpa using hb) e
  have nt1:∀b o,s.heap.get? b=some o→bP o→h1.get? b=some o:=fun b o e tt=>qh b o (fun q=>Dq bh o (q▸e) tt) e
  obtain JS:=JR.keep (List.prefix_refl _) nt1
  obtain RY:=RX.keep (List.prefix_refl _) nt1
  have I7:DR W h1 θ D acc:=hD.mv (fun b o hb e=>qh b o hb e) Cb (Dq bh)
  refine bH JS fun a its e29 e39 RZ=>?_
  clear JS JR
  subst e29
  obtain⟨o,ho,hc,n,Q1⟩:=e39
  obtain⟨lst⟩:=its
  refine aa ?_
  match lst,RZ with
  | [kx,vx],⟨Rq,R0,_⟩=>
   dsimp only
   refine wpAny_bind (wpAny_holding (wpAny_bind (wpAny_tryCatch (Uv (s:={s with heap:=h1,toks:=tk1}) ho hc Q1 ?_))))
   dsimp only
   obtain ko:cR acc k=true:=by
    unfold cR
    rw[Bool.and_eq_true,List.all_eq_true]
    exact⟨by rw[Cv];rfl,fun q hq=>by rw[k2 q hq,Cv];rfl⟩
   refine wpAny_holding (DR.dset (s:={s with heap:=h1,toks:=tk1}) hu I7 Rq ko R0 (by simp at hn;lia) fun h2 tk2 B9 hs=>?_)
   refine wpAny_pure ⟨plainId_quiet AW _,?_⟩
   obtain nt2:=im hs I7.at
   have jO:∀b o,b≠D→h1.get? b=some o→h2.get? b=some o:=fun b o hb e=>(hs.2 b hb).trans e
   refine ih vs' (bU acc k v) (i+1) 0 {s with heap:=h2,toks:=tk2} gw ?_ (fun q hq=>k1 q (List.mem_cons_of_mem _ hq)) ?_ B9 (bj.1.at fun o e=>jO it o Cb.symm e) ?_ ?_ bB fun h' tk a1 a2=>hR h' tk a1 fun b o b1 b2 e=>a2 b o b1 b2 (jO b o b1 (qh b o b2 e))
   ·have:(bU acc k v).length≤acc.length+1:=VM
    simp at hn
    lia
   ·exact VJ k2 Cv
   ·refine am bj.2 fun o ho r=>?_
    exact⟨o,jO l o Cc.symm ho,r⟩
   ·refine(hr)▸?_
    exact RY.keep (List.prefix_refl _) nt2
  | [],e=>exact e.elim
  | [_],e=>exact e.2.elim
  |_::_::_::_,e=>exact e.2.2.elim
theorem Xo {vs:List AV}:∀{kvs:List (AV×AV)},lE vs=some kvs→kvs.length=vs.length:=by
 induction vs with
 |nil=>exact fun h=>by cases h;rfl
 |cons a l ih=>exact fun h=>FW h fun p m _ h3 e=>by rw[e,List.length_cons,ih h3,List.length_cons]
theorem Py (ok:bp A d)(R:aq W θ σ s.heap){r:Nat}{vs:List AV}{xv:Value}{kvs:List (AV×AV)}(hs:σ[r]?=some (.list vs))(hx:VR s.heap θ (.ref r) xv)(hp:lE vs=some kvs)(hk:∀p∈kvs,bx p.1=2)(hl:vs.length≤1000)(h:Po W θ s (.ref σ.length) (σ++[.dict (tq [] kvs)]) Q):wpAny (model W.prog W.w) A (call (.type "dict") [xv]) Q E s:=by
 refine ah fun aa=>?_
 refine am (R.at hs) fun e09 de e29=>?_
 obtain⟨a,a'⟩:=e09
 obtain⟨e0,items,⟨n,ho⟩,vi,hn⟩:=e29
 obtain⟨l',cQ,rfl⟩:=hx
 rw[de]at cQ
 refine aR cQ ?_
 clear cQ
 rintro rfl
 refine aa ?_
 refine callType_codes (Q₁:=fun obj s₁=>obj=.ref s.heap.objs.size∧s₁={s with heap:=s.heap.push {cls:=.type "dict",data:=.dict #[]}}) F.kt_called_dict (F.kt_typeCall_dict_1 _) F.entry_dict_init (kt_code_dict_new _ ⟨rfl,rfl⟩) ?_
 rintro obj s₁ ⟨rfl,rfl⟩
 obtain CL:(s.heap.push {cls:=.type "dict",data:=.dict #[]}).DictOf (PySem.strKind W.prog W.w) s.heap.objs.size []:=Heap.DictOf.new s.heap
 have B8:DR W (s.heap.push {cls:=.type "dict",data:=.dict #[]}) θ s.heap.objs.size []:=.inr (.inl ⟨[],CL,trivial⟩)
 obtain iN:=Heap.get?_push_of_some {cls:=.type "dict",data:=.dict #[]} ho
 obtain QJ:s.heap.objs.size≠a:=fun q=>absurd (Heap.lt_size ho) (by rw[←q];exact Nat.lt_irrefl _)
 refine⟨CL.typeIs,F.args_dict_init_2 _ _,?_⟩
 unfold Builtin.«dict.__init__»
 refine wpAny_bind ?_
 unfold Builtin.Dict.selfAndRest
 refine wpAny_bind (wpAny_notOrdered_dict CL.typeIs ?_)
 show wpAny _ _ (pure (s.heap.objs.size,[Value.ref a])) _ _ _
 refine wpAny_pure ?_
 show wpAny _ _ (Builtin.Dict.updateFrom "dict.__init__" s.heap.objs.size (.ref a) [] .none) _ _ _
 unfold Builtin.Dict.updateFrom
 refine wpAny_bind (wpAny_typeOf (T:="list") ⟨_,iN,rfl⟩ ?_)
 rw[if_pos (by decide)]
 refine wpAny_bind (SO (s:={s with heap:=s.heap.push {cls:=.type "dict",data:=.dict #[]}}) iN rfl rfl rfl ok.h fun h1 tk1 kp1=>?_)
 have qj:=kp1 _ _ iN
 refine wpAny_bind (wpAny_rule ?_)
 refine wpAny_bind (wpAny_pyIter_list (s:={s with heap:=h1,toks:=tk1}) (l:=a) (items:=items) ⟨_,qj,rfl,_,rfl⟩ ?_)
 have bB:s.heap.objs.size<h1.objs.size:=by
  refine am B8.cls fun o e _=>?_
  exact Heap.lt_size (kp1 _ _ e)
 obtain Ru:a<h1.objs.size:=Heap.lt_size qj
 have kp2:∀b o,h1.get? b=some o→(h1.push {cls:=.type "list_iterator",data:=.fields #[.ref a,.int 0 0]}).get? b=some o:=fun b o e=>Heap.get?_push_of_some _ e
 obtain B9:DR W (h1.push {cls:=.type "list_iterator",data:=.fields #[.ref a,.int 0 0]}) θ s.heap.objs.size []:=by
  refine ah fun aa=>?_
  refine am B8.cls fun o e _=>?_
  exact aa (B8.keep (List.prefix_refl _) (fun b o e _=>kp2 b o (kp1 b o e)) ((kp2 _ _ (kp1 _ _ e)).trans e.symm))
 obtain yn:vs.length=items.toList.length:=vi.length
 obtain kall:∀b o,s.heap.get? b=some o→(h1.push {cls:=.type "list_iterator",data:=.fields #[.ref a,.int 0 0]}).get? b=some o:=fun b o e=>kp2 b o (kp1 b o (Heap.get?_push_of_some _ e))
 refine wpAny_pure ⟨plainId_quiet AW _,Xx (A:=A.in1) (W:=W) (θ:=θ) (D:=s.heap.objs.size) (it:=h1.objs.size) (l:=a) (items:=items) ok.h (by have:=ok.un;show A.units+1+1<9900;lia) (Nat.ne_of_lt bB) QJ (Nat.ne_of_lt Ru) kvs vs [] 0 0 {s with heap:=h1.push {cls:=.type "list_iterator",data:=.fields #[.ref a,.int 0 0]},toks:=tk1} hp (by have:=Xo hp;simp;lia) hk (fun p hp=>by cases hp) B9 ⟨_,Heap.get?_push_size _ rfl,rfl,rfl⟩ ⟨_,kp2 _ _ qj,rfl,_,rfl⟩ ?_ (Nat.zero_le _) fun h' tk QD kp'=>?_⟩
 ·rw[List.drop_zero]
  exact vi.keep (List.prefix_refl _) fun b o e _=>kall b o e
 ·obtain dead:s.heap.get? s.heap.objs.size=none:=Heap.get?_none_of_le (Nat.le_refl _)
  refine⟨rfl,?_⟩
  refine h.new (h':=h') (n:=tk) R (fun b o e=>?_) dead fun θ' hθ=>⟨rfl,?_⟩
  ·obtain hb:=Heap.lt_size e
   exact kp' b o (Nat.ne_of_lt hb) (Nat.ne_of_lt (Nat.lt_trans hb bB)) (kall b o e)
  ·exact QD.keep hθ (fun _ _ e _=>e) rfl
theorem Px (ok:bp A d)(R:aq W θ σ s.heap){x:AV}{xv:Value}(hx:VR s.heap θ x xv){v:AV}(e:dc .dict [x] σ=some (v,σ'))(h:Po W θ s v σ' Q):wpAny (model W.prog W.w) A (call (.type "dict") [xv]) Q E s:=by
 refine az (show((fg σ x).bind (BF σ))=some (v,σ')from e) fun vs h1 e1=>az e1 fun kvs hp e2=>?_
 refine am (hY h1) fun r e19 hs=>?_
 clear h1 e
 subst e19
 refine ah fun aa=>?_
 obtain⟨hc,e3⟩:=b7 e2
 obtain⟨e08,e18⟩:=lR e3
 clear e3 e2 e1
 subst e08
 subst e18
 exact aa (Py ok R hs hx hp (fun p hp=>eq_of_beq (List.all_eq_true.mp (bo hc).1 p hp)) (cL (bo hc).2) h)
end
section
variable {W:Wd}{θ θ':Th}{σ σ':St}{s s':Shared}{A:Around}{Ex:Value→Shared→Prop}{Q:Value→Shared→Prop}{d:Nat}{cf:Cf}{sc:Scope}
theorem py {θ:Th}{h:Heap}{args:List AV}{vs:List Value}{β:Type}{k:AV→Option β}{r:β}{g:Prop}(hx:aC h θ args vs)(e:(one args).bind k=some r)(c:∀a y,vs=[y]→VR h θ a y→args=[a]→k a=some r→g):g:=
 az e fun a h1 h2=>by
  have ha:=d8 h1
  rw[ha]at hx
  obtain⟨y,e,hy⟩:=hx.one
  exact c a y e hy ha h2
theorem NG (sys:∀a,W.hB.get? a=none→(a==sysModules)=false)(ok:bp A d)(R:aq W θ σ s.heap){f:BI}(hf:f≠.listrange){args:List AV}{vs:List Value}(hx:aC s.heap θ args vs){v:AV}(e:dc f args σ=some (v,σ'))(h:Po W θ s v σ' Q):
  wpAny (model W.prog W.w) A (call (gT f) vs) Q Ex s:=by
 cases f with
 |listrange=>exact absurd rfl hf
 |sorted=>exact py hx e fun a y e1 hy e2 _=>e1.symm▸WP sys ok R hy (e2▸e) h
 |dict=>exact py hx e fun a y e1 hy e2 _=>e1.symm▸Px ok R hy (e2▸e) h
 |len=>
  refine py hx e fun a y e1 hy _ e=>cw e fun us h1 h2=>fH (congrArg some h2) fun e3 e4=>?_
  obtain⟨r,rfl,hs⟩:=hY h1
  subst e1;subst e3;subst e4
  exact Ti R hs hy h
 |tuple=>
  refine py hx e fun a y e1 hy _ e=>cw e fun us h1 h2=>fH (congrArg some h2) fun e3 e4=>?_
  obtain⟨r,rfl,hs⟩:=hY h1
  subst e1;subst e3;subst e4
  exact Xr R hs hy h
 |min=>
  refine py hx e fun a y e1 hy _ e=>az e fun us h1 e=>az e fun b h2 e=>az e fun i h3 e=>cw e fun m h4 h5=>fH (congrArg some h5) fun e3 e4=>?_
  refine am (hY h1) fun r e19 hs=>?_
  subst e19
  subst e1;subst e3;subst e4
  refine ah fun aa=>?_
  cases us with
  |nil=>refine aa ?_;exact aK h2
  |cons c us=>
   cases Option.some.inj h2
   rw[cy h3]at hs
   exact aa (TN ok R hs h4 hy h)
 |abs=>
  refine py hx e fun a y e1 hy _ e=>cw e fun i h1 h2=>fH (congrArg some h2) fun e3 e4=>?_
  rw[cy h1]at hy
  subst e1;subst e3;subst e4
  exact Nh R hy h
 |int=>
  refine py hx e fun a y e1 hy _ e=>cw e fun i h1 h2=>fH (congrArg some h2) fun e3 e4=>?_
  subst e1;subst e3;subst e4
  refine eN (o:=jx a) h1 (fun b h3 h4=>?_) fun _ h4=>?_
  ·rw[pQ h3]at hy
   refine ah fun aa=>?_
   cases Option.some.inj h4
   exact aa (Sn R hy h)
  ·rw[cy h4]at hy
   exact Sl R hy h
theorem UK (f:BI)(h:Heap):Looks (model W.prog W.w) h (keeperOf (gT f)) Keeper.machine:=by cases f<;>exact .now
theorem UL (T:String)(h:Heap):Looks (model W.prog W.w) h (keeperOf (.type T)) Keeper.machine:=.now
theorem Ig {env:Env}{ρ:ag}{avs:List AV}{pos:Pos}{f:Value}{es:List Expr}{xs:List E}(hk:∀h,Looks (model W.prog W.w) h (keeperOf f) Keeper.machine)(bj:el es)(ck:dP W d cf sc es xs)
  (aj:cF sc env)(F:FR W env ρ θ s.heap)(R:aq W θ σ s.heap)(ok:bp A d)(hv:cP W.T.tb cf xs ρ σ=some (avs,σ'))(h:tQ W θ s avs σ' fun vs s₁=>wpAny (model W.prog W.w) A (call f vs) Q Ex s₁):
  wpAny (model W.prog W.w) A (callWith pos f [] (backTo pos (starEach es env)) []) Q Ex s:=by
 have kp:∀h:Heap,True→∃k,(k=Keeper.frame∨k=Keeper.machine∨k=Keeper.boundFrame)∧Looks (model W.prog W.w) h (keeperOf f) k:=fun h _=>⟨_,.inr (.inl rfl),hk h⟩
 cases es with
 |nil=>
  refine callWith_of (P:=fun _=>True) rfl kp (evalArgs_nil3 ⟨trivial,?_⟩)
  have:=ck (pos:=pos) aj F R ok hv h (Ex:=Ex)
  intro Γ p hΓ
  have t:wpAny (model W.prog W.w) A (call f ([]++[])) Q Ex s:=this Γ p hΓ
  exact t Γ p hΓ
 |cons e rest=>
  obtain he:=bj e (List.mem_cons_self ..) env rest
  obtain hp:(backTo pos (starEach rest env)).any (·.1)=false:=AA fun e' eg rest=>bj e' (List.mem_cons_of_mem _ eg) env rest
  obtain hh:=ck (pos:=pos) aj F R ok hv h (Ex:=Ex)
  rw[he]at hh ⊢
  exact callWith_of (P:=fun _=>True) (by show((false||(backTo pos (starEach rest env)).any (·.1))||false)=false;rw[hp];rfl) kp (evalArgs_plain (wpAny_mono hh (fun vs s₁ h₁=>⟨trivial,h₁⟩) fun _ _ x=>x))
theorem Wc (wo:bW W){x:Str}{i:Nat}{b:BI}(hi:aN x=some i)(hx:ei sc x=true)(hb:tU i=some b)(hl:b≠.listrange){es:List Expr}{xs:List E}(bj:el es)(ck:dP W d cf sc es xs) (p pos):
  aE W d cf sc (.Call (.Name x p) es [] pos) (.bi b xs):=by
 intro env ρ θ σ s A av σ' Q Ex aj F R ok hv hQ
 refine ah fun aa=>?_
 refine aS hv fun us σ₁ h1 hv=>?_
 refine cq wo.ns fun mg mb e1 e2 _ _ e3 _=>?_
 obtain⟨e4,e5⟩:=e3 i x b hi hb
 refine aa ?_
 refine Call_Name rfl (FA F (aj.glob hx) hi (jV R e1) e4 (jV R e2) e5 ?_)
 refine Ig (UK b) bj ck aj F R ok h1 fun vs θ₁ s₁ x₁ R₁ bm=>?_
 exact NG wo.sys ok R₁ hl bm hv (hQ.from x₁)
theorem Wg (wo:bW W)(cM:gf W d cf){x:Str}{i:Nat}(hi:aN x=some i)(hx:ei sc x=true){es:List Expr}{xs:List E}(bj:el es)(ck:dP W d cf sc es xs) (p pos):
  aE W d cf sc (.Call (.Name x p) es [] pos) (.call i xs):=by
 intro env ρ θ σ s A av σ' Q Ex aj F R ok hv hQ
 refine ah fun aa=>?_
 refine aS hv fun us σ₁ h1 hv=>?_
 refine am (cM _ _ _ _ _ hv) fun fv e0 hc=>?_
 refine lK wo.ns fun mg mb e1 _ _ e3 _=>?_
 refine aa ?_
 refine Call_Name rfl (Ml F (aj.glob hx) hi (jV R e1) (e3 i x fv hi e0) ?_)
 refine Ih (first:=[]) wo (wo.keep _ _ e0) bj ck aj F R ok h1 fun vs θ₁ s₁ x₁ R₁ bm=>?_
 exact hc ok R₁ bm (hQ.from x₁)
theorem Aw (wo:bW W){env:Env}{ρ:ag}{x:Str}{i:Nat}{n:String}(hn:LX i=some n)(hi:aN x=some i)(hx:ei sc x=true){es:List Expr}{xs:List E}(bj:el es)(ck:dP W d cf sc es xs){p pos:Pos}{us:List AV}
  (aj:cF sc env)(F:FR W env ρ θ s.heap)(R:aq W θ σ s.heap)(ok:bp A d)(hv:cP W.T.tb cf xs ρ σ=some (us,σ'))(h:tQ W θ s us σ' fun vs s₁=>wpAny (model W.prog W.w) A (call (.type n) vs) Q Ex s₁):
  wpAny (model W.prog W.w) A (eval (.Call (.Name x p) es [] pos) env) Q Ex s:=by
 refine ah fun aa=>?_
 refine cq wo.ns fun mg mb e1 e2 _ _ _ e3=>?_
 obtain⟨e4,e5⟩:=e3 i x n hi hn
 refine aa ?_
 refine Call_Name rfl (FA F (aj.glob hx) hi (jV R e1) e4 (jV R e2) e5 ?_)
 exact Ig (UL _) bj ck aj F R ok hv h
theorem Ss {args:List AV}{v:AV}(e:dc .listrange args σ=some (v,σ')):∃a b,args=[.int a,.int b]∧a.natAbs≤1000000∧b.natAbs≤1000000∧alloc (.list (di a b)) σ=some (v,σ'):=
 az e fun p h1 e=>az e fun a h2 e=>az e fun b h3 e=>
  let⟨h4,h5⟩:=b7 e
  ⟨a,b,by rw[fL h1,cy h2,cy h3],cL (bo h4).1,cL (bo h4).2,h5⟩
theorem Wu (wo:bW W){x y:Str}(hi:aN x=some 165)(hx:ei sc x=true)(hj:aN y=some 208)(hy:ei sc y=true){a b:Expr}{u v:E}(bj:el [a,b])(ck:dP W d cf sc [a,b] [u,v])
  (p q pos pos':Pos):aE W d cf sc (.Call (.Name x p) [.Call (.Name y q) [a,b] [] pos'] [] pos) (.bi .listrange [u,v]):=by
 intro env ρ θ σ s A av σ' Q Ex aj F R ok hv hQ
 refine ah fun aa=>?_
 refine aS hv fun us σ₁ h1 hv=>?_
 refine cq wo.ns fun mg mb e1 e2 _ _ _ e3=>?_
 obtain⟨e4,e5⟩:=e3 165 x "list" hi rfl
 refine aa ?_
 refine Call_Name rfl (FA F (aj.glob hx) hi (jV R e1) e4 (jV R e2) e5 ?_)
 obtain hk:∀h:Heap,True→∃k,(k=Keeper.frame∨k=Keeper.machine∨k=Keeper.boundFrame)∧Looks (model W.prog W.w) h (keeperOf (.type "list")) k:=fun h _=>⟨_,.inr (.inl rfl),.now⟩
 refine callWith_of (P:=fun _=>True) rfl hk (evalArgs_plain (spliced_more (env:=env) (e:=.Call (.Name y q) [a,b] [] pos') (rest:=[]) ?_ rfl))
 refine Aw wo (n:="range") rfl hj hy bj ck aj F R ok h1 fun vs θ₁ s₁ x₁ R₁ bm=>?_
 refine ah fun aa=>?_
 obtain⟨m,n,rfl,hm,hn,hv⟩:=Ss hv
 refine bH bm.two fun y1 y2 e29 e39 e49=>?_
 clear bm
 subst e29
 obtain⟨t1,rfl⟩:=e39
 obtain⟨t2,rfl⟩:=e49
 refine aa ?_
 refine call_range_2 (spliced_none ?_)
 obtain x₂:aB bZ θ₁ s₁ θ₁ {s₁ with heap:=s₁.heap.push {cls:=.type "range",data:=.fields #[.int m t1,.int n t2,.int 1 s₁.toks]},toks:=s₁.toks+1}:=aB.ext (cT _ _)
 refine⟨trivial,?_⟩
 obtain hr:IsRange (s₁.heap.push {cls:=.type "range",data:=.fields #[.int m t1,.int n t2,.int 1 s₁.toks]}) s₁.heap.objs.size m n 1 t1 t2 s₁.toks:=Heap.get?_push_size _ rfl
 obtain b6:av=.ref σ₁.length∧σ'=σ₁++[.list (di m n)]:=by
  simp only[alloc,Option.some.injEq,Prod.mk.injEq]at hv
  exact⟨hv.1.symm,hv.2.symm⟩
 refine ah fun aa=>?_
 obtain⟨rfl,rfl⟩:=b6
 exact aa (Tq (s:={s₁ with heap:=s₁.heap.push {cls:=.type "range",data:=.fields #[.int m t1,.int n t2,.int 1 s₁.toks]},toks:=s₁.toks+1}) ok (R₁.step (cT _ _)) hr hm hn ((hQ.from x₁).from x₂))
end
section
variable {W:Wd}{θ θ':Th}{σ σ':St}{s s':Shared}{A:Around}{Ex:Value→Shared→Prop}{Q:Value→Shared→Prop}{d:Nat}{cf:Cf}{sc:Scope}
theorem DR.exact {h:Heap}{a:Addr}{kvs:List (AV×AV)}(x:DR W h θ a kvs):∃o,h.get? a=some o∧o.cls=.type "dict"∧o.dict=none:=by
 rcases x with⟨l,⟨o,_,_,ho,hc,_⟩,_⟩ | ⟨l,⟨o,_,_,ho,hc,_⟩,_⟩ | ⟨l,⟨o,_,_,ho,hc,_⟩,_⟩ | ⟨l,⟨o,_,_,ho,hc,_⟩,_⟩<;>exact⟨o,ho,hc.1,hc.2.1⟩
theorem Hv {env:Env}{pos:Pos}:∀{es:List Expr},el es→(backTo pos (starEach es env)).all (fun x=>!x.1)=true
 | [],_=>rfl
 |e::es,h=>by
  rw[h e (List.mem_cons_self ..) env es]
  show(true&&(backTo pos (starEach es env)).all fun x=>!x.1)=true
  rw[Hv fun e' eg=>h e' (List.mem_cons_of_mem _ eg)];rfl
theorem TL {M:Model}{env:Env}{o:Expr}{name:Str}{apos pos:Pos}{args:List Expr}(hb:attributeBase o name env (eval o env)=eval o env)(bj:el args)(hn:args.length<30)(CA:(apos.endLine==pos.line)=true)
  (h:wpAny M A (eval o env) (fun ov s₁=>wpAny M A (getMethod ov name (do return(←importBound o env).getD true)) (fun fx s₂=>wpAny M A (callWith pos fx.1 fx.2 (backTo pos (starEach args env)) []) Q Ex s₂) Ex s₁) Ex s):
  wpAny M A (eval (.Call (.Attribute o name apos) args [] pos) env) Q Ex s:=by
 rw[arm_eval_Call,hb]
 refine wpAny_bind (wpAny_mono h (fun ov s₁ h₁=>?_) fun _ _ e=>e)
 refine wpAny_bind (wpAny_standAt ?_)
 obtain Rc:methodCallForm (args.length+([]:List Keyword).length) (backTo pos (starEach args env)) (backToKw pos (keywordEach [] env))=true:=by
  unfold methodCallForm
  refine(Hv bj).symm▸?_
  exact decide_eq_true hn
 obtain mc:methodCallPos true o env apos pos=pure pos:=by unfold methodCallPos;simp[CA]
 unfold methodCall
 refine(Rc).symm▸?_
 refine wpAny_bind (wpAny_holding (wpAny_mono h₁ (fun fx s₂ h₂=>?_) fun _ _ e=>e))
 exact wpAny_bind (wpAny_of_eq mc h₂)
theorem Qs {fs:List (Nat×AV)}{a:Nat}(h:∀p∈fs,p.1≠a):ef fs a=none:=by
 cases q:ef fs a with
 |none=>rfl
 |some av=>exact absurd rfl (h _ (BU q))
theorem No {env:Env}{ρ:ag}{avs:List AV}{pos:Pos}{id:String}{first:List Value}{es:List Expr}{xs:List E}(bj:el es)(ck:dP W d cf sc es xs)
  (aj:cF sc env)(F:FR W env ρ θ s.heap)(R:aq W θ σ s.heap)(ok:bp A d)(hv:cP W.T.tb cf xs ρ σ=some (avs,σ'))(h:tQ W θ s avs σ' fun vs s₁=>wpAny (model W.prog W.w) A (call (.builtin id) (first++vs)) Q Ex s₁):
  wpAny (model W.prog W.w) A (callWith pos (.builtin id) first (backTo pos (starEach es env)) []) Q Ex s:=by
 have kp:∀h:Heap,True→∃k,(k=Keeper.frame∨k=Keeper.machine∨k=Keeper.boundFrame)∧Looks (model W.prog W.w) h (keeperOf (.builtin id)) k:=fun h _=>⟨_,.inr (.inl rfl),.now⟩
 cases es with
 |nil=>
  refine callWith_of (P:=fun _=>True) rfl kp (evalArgs_nil3 ⟨trivial,?_⟩)
  have:=ck (pos:=pos) aj F R ok hv h (Ex:=Ex)
  intro Γ p hΓ
  obtain t:wpAny (model W.prog W.w) A (call (.builtin id) (first++[])) Q Ex s:=this Γ p hΓ
  exact t Γ p hΓ
 |cons e rest=>
  obtain he:=bj e (List.mem_cons_self ..) env rest
  obtain hp:(backTo pos (starEach rest env)).any (·.1)=false:=AA fun e' eg rest=>bj e' (List.mem_cons_of_mem _ eg) env rest
  obtain hh:=ck (pos:=pos) aj F R ok hv h (Ex:=Ex)
  rw[he]at hh ⊢
  exact callWith_of (P:=fun _=>True) (by show((false||(backTo pos (starEach rest env)).any (·.1))||false)=false;rw[hp];rfl) kp (evalArgs_plain (wpAny_mono hh (fun vs s₁ h₁=>⟨trivial,h₁⟩) fun _ _ x=>x))
theorem HU {T:String}{name:Str}{m:Nat}(mi:Be W T name m){env:Env}{ρ:ag}{avs:List AV}{pos:Pos}{es:List Expr}{xs:List E}{pl:Sem Bool}(bj:el es)(ck:dP W d cf sc es xs){r:Nat}{ov:Value}{av:AV}{σ₁:St}
  (aj:cF sc env)(F:FR W env ρ θ s.heap)(R:aq W θ σ s.heap)(ok:bp A d)(hv:cP W.T.tb cf xs ρ σ=some (avs,σ₁))(ho:VR s.heap θ (.ref r) ov)(hT:s.TypeIs ov T)(hd:∀a,ov=.ref a→∃ob,s.heap.get? a=some ob∧ob.dict=none)
  (hm:d6 m (.ref r) avs σ₁=some (av,σ'))(h:Po W θ s av σ' Q):
  wpAny (model W.prog W.w) A (getMethod ov name pl) (fun fx s₂=>wpAny (model W.prog W.w) A (callWith pos fx.1 fx.2 (backTo pos (starEach es env)) []) Q Ex s₂) Ex s:=by
 refine ah fun aa=>?_
 refine lJ mi.go fun id B sl ty en dd=>?_
 refine aa ?_
 refine getMethod_builtin hT mi.pa sl ty hd ?_
 refine No bj ck aj F R ok hv fun vs θ₁ s₁ x₁ R₁ bm=>?_
 refine ah fun aa=>?_
 obtain⟨q1,q2,S,q3,q4⟩:=dd (E:=Ex) (Q:=Q) ok R₁ (ho.aft R x₁) bm hm (h.from x₁)
 exact aa (call_meetsIn sl q1 en q2 q3 q4)
theorem Ww (wo:bW W)(cM:gf W d cf){o:Expr}{x:E}{a:Str}{i:Nat}(hi:aN a=some i)(hb:∀env,attributeBase o a env (eval o env)=eval o env)(ho:aE W d cf sc o x){es:List Expr}{xs:List E}(bj:el es)(hn:es.length<30)(ck:dP W d cf sc es xs)
  {apos pos:Pos}(CA:(apos.endLine==pos.line)=true):aE W d cf sc (.Call (.Attribute o a apos) es [] pos) (.meth i x xs):=by
 intro env ρ θ σ s A av σ' Q Ex aj F R ok hv hQ
 refine aS hv fun u σ₁ h1 hv=>az hv fun ob yk hv=>?_
 refine ah fun aa=>?_
 refine am (Fq yk) fun r e0 hs=>?_
 clear yk
 subst e0
 refine aa ?_
 refine TL (hb env) bj hn CA (ho aj F R ok h1 fun ov θ₁ s₁ x₁ R₁ hp=>?_)
 have F₁:=F.go R x₁
 refine ah fun aa=>?_
 refine eN (o:=gQ ob) hv (fun p h3 hv=>az hv fun f hf hv=>aS hv fun us σ₂ h2 hv=>?_) fun _ hv=>?_
 ·rw[xu h3]at hs
  generalize p.1=c at hs hf
  generalize p.2=fs at hs
  obtain⟨p,q,C,es',n,rfl,hl,aY,hC,g1,g2,hF,hz,ch,I⟩:=Au R₁ hs hp
  refine cJ (wo.cls c C hC) fun k1 k2 k3=>?_
  obtain⟨e1,y,fa,e2,e3,e4,e5⟩:=wo.meth c C i f hC hf
  have:y=a:=by rw[gA hi]at e2;exact(Option.some.inj e2).symm
  clear e2 hb
  subst this
  obtain RB:ef fs i=none:=Qs fun p hp q=>by have:=ch p hp;rw[q,e1]at this;exact cz this
  obtain eQ:=(hF.find (gA hi)).2.1 RB
  obtain ma:=(hF.find (gA hi)).2.2
  refine am (cM _ _ _ _ _ hv) fun fv e6 hc=>?_
  rw[e5]at e6
  refine aR e6 ?_
  clear e6
  rintro rfl
  refine aa ?_
  refine method_fn (mo wo R₁) I k1 k2 e3 e4 (by show(lookIn y (dictOf es' n)).map _=_;rw[Kp,eQ,ma];rfl) ?_
  refine Ih (first:=[.ref p]) wo (wo.keep _ _ e5) bj ck aj F₁ R₁ ok h2 fun vs θ₂ s₂ x₂ R₂ bm=>?_
  exact hc ok R₂ ⟨hp.aft R₁ x₂,bm⟩ ((hQ.from x₁).from x₂)
 ·obtain⟨hm,hv⟩:=b7 hv
  refine aS hv fun ws σ₂ h2 JP=>?_
  cases ob with
  |inst _ _=>exact cz hm
  |ext _=>exact cz hm
  |list us=>
   refine A0 (ti R₁ hs hp) fun b it n e39 hl dT _=>?_
   subst e39
   exact aa (HU (TK hm (gA hi)) bj ck aj F₁ R₁ ok h2 hp ⟨_,dT,rfl⟩ (fun a e=>by cases e;exact⟨_,dT,rfl⟩) JP (hQ.from x₁))
  |dict kvs=>
   refine cW (lr R₁ hs hp) fun b e19 hl D=>?_
   subst e19
   cases eq_of_beq hm
   obtain⟨o',fc,qe,eE⟩:∃o,s₁.heap.get? b=some o∧o.cls=.type "dict"∧o.dict=none:=D.exact
   exact aa (HU (TJ wo.sys (gA hi)) bj ck aj F₁ R₁ ok h2 hp ⟨o',fc,qe⟩ (fun a e=>by cases e;exact⟨_,fc,eE⟩) JP (hQ.from x₁))
end
noncomputable def xn (sc:Scope)(it:Expr):dB→List Expr→Prop
 |.seq,es=>es=[it]
 |.range,es=>∃f p q,it=.Call (.Name f p) es [] q∧aN f=some 208∧ei sc f=true∧el es
 |.rev,es=>∃f p q,it=.Call (.Name f p) es [] q∧aN f=some 212∧ei sc f=true∧el es
 |.enum,es=>∃f p q,it=.Call (.Name f p) es [] q∧aN f=some 80∧ei sc f=true∧el es
noncomputable def AO (k:dB)(tgt:Expr):Prop:=k=.enum→∃elts kk pos,tgt=.Tuple elts kk pos
section
variable {W:Wd}{θ θ':Th}{σ σ':St}{s s':Shared}{A:Around}{Ex:Value→Shared→Prop}{Q:Value→Shared→Prop}{d:Nat}{cf:Cf}{sc:Scope}
theorem qt {h:Heap}(R:aq W θ σ h){a:Addr}(e:h.get? a=none):¬own θ a:=fun q=>by
 obtain⟨o,e',_⟩:=R.notTuple q
 rw[e]at e';cases e'
theorem pT {h:Heap}(R:aq W θ σ h){a:Addr}(e:h.get? a=none):W.hB.get? a=none:=jC (fun a o e=>⟨o,R.base a o e⟩) e
theorem qu {h:Heap}(R:aq W θ σ h){h':Heap}{a:Addr}{o:Obj}{T:String}(e:h.get? a=none)(e':h'.get? a=some o)(hc:o.cls=.type T)(hT:T≠"tuple"):¬own θ a∧W.hB.get? a=none∧∃o,h'.get? a=some o∧¬bP o:=
 ⟨qt R e,pT R e,o,e',gE hc hT⟩
theorem fK (h:Heap):h.get? h.objs.size=none:=Heap.get?_none_of_le (Nat.le_refl _)
noncomputable def jv (W:Wd)(A:Around)(tgt:Expr)(gd:Option (Nat×ae))(vs:List AV)(θ:Th)(σ₁:St)(s:Shared)(K:Value→Shared→Prop):Prop:=
 ∀I wr S θ₂ s₂,jt W A tgt I wr gd S→S vs θ₂ s₂.heap→aB bZ θ s θ₂ s₂→aq W θ₂ σ₁ s₂.heap→(∀b∈wr,s.heap.get? b=none)→K (.ref I) s₂
theorem jv.from {tgt:Expr}{gd:Option (Nat×ae)}{vs:List AV}{σ₁:St}{K:Value→Shared→Prop}(h:jv W A tgt gd vs θ σ₁ s K)(x:aB bZ θ s θ' s'):jv W A tgt gd vs θ' σ₁ s' K:=
 fun I wr S θ₂ s₂ i st a R f=>h I wr S θ₂ s₂ i st (x.trans a) R fun b hb=>jC x.live (f b hb)
theorem Sx (ok:bp A d){tgt:Expr}(R:aq W θ σ s.heap){r:Nat}{vs:List AV}(hs:σ[r]?=some (.list vs)){v:Value}(hv:VR s.heap θ (.ref r) v){K:Value→Shared→Prop}(h:jv W A tgt (some (r,.list vs)) vs θ σ s K):
  wpAny (model W.prog W.w) A (pyIter v) K Ex s:=by
 refine ah fun aa=>?_
 refine cq (dM R hs hv) fun a items e29 ha li vi hsz hn=>?_
 clear hv
 subst e29
 refine aa ?_
 refine wpAny_pyIter_list li ?_
 refine h s.heap.objs.size _ _ θ _ (SD ok.h tgt s.heap.objs.size a r vs) ⟨0,Nat.zero_le _,rfl,ha,⟨_,Heap.get?_push_size _ rfl,rfl,rfl⟩,fun b hb=>?_⟩ (aB.ext (cT _ _)) (R.step (cT _ _)) fun b hb=>?_
 ·refine(List.mem_singleton.mp hb).symm▸?_
  exact qu R (fK _) (Heap.get?_push_size _ rfl) rfl (by decide)
 ·rw[List.mem_singleton.mp hb];exact fK _
theorem Sz (ok:bp A d){tgt:Expr}(R:aq W θ σ s.heap){vs:List AV}{v:Value}(hv:VR s.heap θ (.tup vs) v){K:Value→Shared→Prop}(h:jv W A tgt none vs θ σ s K):
  wpAny (model W.prog W.w) A (pyIter v) K Ex s:=by
 refine ah fun aa=>?_
 refine bH hv fun a items e29 ht vi=>?_
 clear hv
 subst e29
 refine aa ?_
 refine wpAny_pyIter_tuple ht ?_
 refine h s.heap.objs.size _ _ θ _ (SG ok.h tgt s.heap.objs.size a) ⟨0,items,Nat.zero_le _,vi.keep (List.prefix_refl _) (uM (cT _ _)),ht.keeps (cT _ _),⟨_,Heap.get?_push_size _ rfl,rfl,rfl⟩,fun b hb=>?_⟩ (aB.ext (cT _ _)) (R.step (cT _ _)) fun b hb=>?_
 ·refine(List.mem_singleton.mp hb).symm▸?_
  exact qu R (fK _) (Heap.get?_push_size _ rfl) rfl (by decide)
 ·rw[List.mem_singleton.mp hb];exact fK _
theorem J7 (ok:bp A d){tgt:Expr}(R:aq W θ σ s.heap){a b:Int}{t u v:Tok}{r:Addr}(hr:IsRange s.heap r a b 1 t u v)(ha:a.natAbs≤1000000)(hb:b.natAbs≤1000000){K:Value→Shared→Prop}(h:jv W A tgt none (di a b) θ σ s K):
  wpAny (model W.prog W.w) A (pyIter (.ref r)) K Ex s:=by
 have⟨a1,a2⟩:=xq ha
 have⟨b1,b2⟩:=xq hb
 refine wpAny_pyIter_range hr (small_one (Int.le_trans (by decide) a1) (Int.lt_of_le_of_lt a2 (by decide)) (Int.le_trans (by decide) b1) (Int.lt_of_le_of_lt b2 (by decide))) ?_
 rw[Mr]
 refine h s.heap.objs.size _ _ θ _ (SE ok.h tgt s.heap.objs.size a (b - a).toNat) ⟨0,Nat.zero_le _,rfl,?_,fun b hb=>?_⟩ (aB.ext (cT _ _)) (R.step (cT _ _)) fun b hb=>?_
 ·simpa using Heap.get?_push_size s.heap (o:={cls:=.type "range_iterator",data:=.fields #[rawInt a,rawInt ((b - a).toNat:Nat),rawInt 1]}) rfl
 ·refine(List.mem_singleton.mp hb).symm▸?_
  exact qu R (fK _) (Heap.get?_push_size _ rfl) rfl (by decide)
 ·rw[List.mem_singleton.mp hb];exact fK _
theorem DC {f:List AV→List AV}{a:AV}{vs:List AV}{gd:Option (Nat×ae)}(h:yI σ f a=some (vs,gd)):∃r us,a=.ref r∧σ[r]?=some (.list us)∧vs=f us∧gd=some (r,.list us):=
 az h fun r h1 h2=>cw h2 fun us h3 h4=>fH (congrArg some h4) fun e1 e2=>by
  refine am (hY h3) fun r' h5 h6=>?_
  refine ah fun aa=>?_
  cases(eZ h1).symm.trans h5
  exact aa (⟨r,us,h5,h6,e1,e2⟩)
theorem Sy (ok:bp A d){tgt:Expr}(R:aq W θ σ s.heap){a:AV}{vs:List AV}{gd:Option (Nat×ae)}(hs:dz .seq [a] σ=some (vs,gd)){v:Value}(hv:VR s.heap θ a v){K:Value→Shared→Prop}(h:jv W A tgt gd vs θ σ s K):
  wpAny (model W.prog W.w) A (pyIter v) K Ex s:=by
 refine eN (o:=dp a) hs (fun l h1 h2=>?_) fun _ h2=>?_
 ·rw[fQ h1]at hv
  refine lH (eV h2) fun e09 e19=>?_
  clear h1 hs
  subst e09
  subst e19
  exact Sz ok R hv h
 ·refine lJ (DC h2) fun r us e29 e e49 e59=>?_
  clear h2 hs
  subst e29
  subst e49
  subst e59
  exact Sx ok R e hv h
theorem MO (wo:bW W){tgt it:Expr}{k:dB}{es:List Expr}{xs:List E}(ho:xn sc it k es)(ht:AO k tgt)(ck:dP W d cf sc es xs)(yh:∀e,es=[e]→∃x,xs=[x]∧aE W d cf sc e x)
  {env:Env}{ρ:ag}(aj:cF sc env)(F:FR W env ρ θ s.heap)(R:aq W θ σ s.heap)(ok:bp A d){us:List AV}{σ₁:St}(hv:cP W.T.tb cf xs ρ σ=some (us,σ₁)){vs:List AV}{gd:Option (Nat×ae)}(hs:dz k us σ₁=some (vs,gd))
  {K:Value→Shared→Prop}(h:jv W A tgt gd vs θ σ₁ s K):wpAny (model W.prog W.w) A (eval it env) (fun xv s₁=>wpAny (model W.prog W.w) A (pyIter xv) K Ex s₁) Ex s:=by
 refine ah fun aa=>?_
 cases k with
 |seq=>
  refine am (yh it ho) fun x e19 hx=>?_
  clear yh
  subst e19
  refine aS hv fun u σ₂ h1 hv=>?_
  refine dj hv ?_
  clear hv
  rintro rfl rfl
  refine aa ?_
  refine hx aj F R ok h1 fun p θ₁ s₁ x₁ R₁ hp=>?_
  exact Sy ok R₁ hs hp (h.from x₁)
 |range=>
  refine A0 ho fun f p q e39 hi hg bj=>?_
  subst e39
  refine aa ?_
  refine Aw wo (n:="range") rfl hi hg bj ck aj F R ok hv fun ws θ₁ s₁ x₁ R₁ gz=>?_
  refine eN (o:=one us) hs (fun a h1 h2=>az h2 fun b h3 h4=>?_) fun _ h2=>az h2 fun pp h1 h2=>az h2 fun a h3 h2=>az h2 fun b h4 h5=>?_
  ·rw[d8 h1,cy h3]at gz
   obtain⟨hb,h5⟩:=b7 h4
   have hb:=cL (bo hb).2
   obtain⟨rfl,rfl⟩:=eV h5
   ·obtain⟨y,rfl,t,rfl⟩:=gz.one
    refine call_range_1 ?_
    exact J7 (s:={s₁ with heap:=s₁.heap.push {cls:=.type "range",data:=.fields #[.int 0 s₁.toks,.int b t,.int 1 (s₁.toks+1)]},toks:=s₁.toks+1+1}) ok (R₁.step (cT _ _)) (Heap.get?_push_size _ rfl) (by decide) hb ((h.from x₁).from (aB.ext (cT _ _)))
  ·rw[fL h1,cy h3,cy h4]at gz
   obtain⟨hb,h6⟩:=b7 h5
   have hb:=And.intro (cL (bo hb).1) (cL (bo hb).2)
   obtain⟨e08,e18⟩:=eV h6
   clear h6 h5
   subst e08
   subst e18
   ·refine bH gz.two fun y z e29 e39 e49=>?_
    subst e29
    obtain⟨t,rfl⟩:=e39
    obtain⟨u,rfl⟩:=e49
    refine call_range_2 ?_
    exact J7 (s:={s₁ with heap:=s₁.heap.push {cls:=.type "range",data:=.fields #[.int a t,.int b u,.int 1 s₁.toks]},toks:=s₁.toks+1}) ok (R₁.step (cT _ _)) (Heap.get?_push_size _ rfl) hb.1 hb.2 ((h.from x₁).from (aB.ext (cT _ _)))
 |rev=>
  refine A0 ho fun f p q e39 hi hg bj=>?_
  subst e39
  refine aa ?_
  refine Aw wo (n:="reversed") rfl hi hg bj ck aj F R ok hv fun ws θ₁ s₁ x₁ R₁ gz=>?_
  refine az hs fun a0 h1 h2=>?_
  refine lJ (DC h2) fun r us e0 hr e49 e59=>?_
  subst e49
  subst e59
  rw[d8 h1,e0]at gz
  ·refine am gz.one fun y e19 hy=>?_
   subst e19
   refine cq (dM R₁ hr hy) fun a items e29 ha li vi hsz hn=>?_
   subst e29
   refine call_reversed_list li ?_
   refine wpAny_pyIter_revIter (l:=a) (i:=(items.size:Int) - 1) ⟨_,Heap.get?_push_size _ rfl,rfl,rfl⟩ ?_
   refine(h.from x₁) s₁.heap.objs.size _ _ θ₁ _ (SF ok.h tgt s₁.heap.objs.size a r us) ⟨0,Nat.zero_le _,rfl,ha,?_,fun b hb=>?_⟩ (aB.ext (cT _ _)) (R₁.step (cT _ _)) fun b hb=>?_
   ·refine(hsz)▸?_
    exact⟨_,Heap.get?_push_size _ rfl,rfl,by simp[revObj]⟩
   ·refine(List.mem_singleton.mp hb).symm▸?_
    exact qu R₁ (fK _) (Heap.get?_push_size _ rfl) rfl (by decide)
   ·rw[List.mem_singleton.mp hb];exact fK _
 |enum=>
  refine A0 ho fun f p q e39 hi hg bj=>?_
  subst e39
  refine jo (ht rfl) fun elts kk pos e39=>?_
  clear ht
  subst e39
  refine aa ?_
  refine Aw wo (n:="enumerate") rfl hi hg bj ck aj F R ok hv fun ws θ₁ s₁ x₁ R₁ gz=>?_
  refine az hs fun a0 h1 h2=>?_
  refine lJ (DC h2) fun r us e0 hr e49 e59=>?_
  clear h2 hs
  subst e49
  subst e59
  rw[d8 h1,e0]at gz
  ·refine am gz.one fun y e19 hy=>?_
   subst e19
   refine cq (dM R₁ hr hy) fun a items e29 ha li vi hsz hn=>?_
   clear gz hy
   subst e29
   refine call_enumerate_list li fun h' he bh hz hk=>?_
   refine wpAny_pyIter_enum he ?_
   obtain d1:s₁.heap.get? (s₁.heap.objs.size+1)=none:=Heap.get?_none_of_le (Nat.le_succ _)
   refine(h.from x₁) (s₁.heap.objs.size+1) _ _ θ₁ {s₁ with heap:=h'} (SB ok.h (s₁.heap.objs.size+1) s₁.heap.objs.size a (Nat.succ_ne_self _) r us) ⟨0,Nat.zero_le _,rfl,ha,⟨.none,he⟩,bh,fun b hb=>?_⟩ (aB.ext hk) (R₁.step hk) fun b hb=>?_
   ·refine ah fun aa=>?_
    refine cW bh fun o ho hc _=>?_
    rcases List.mem_cons.mp hb with rfl |hb
    ·exact aa (qu R₁ d1 he rfl (by decide))
    ·refine aa ?_
     refine(List.mem_singleton.mp hb).symm▸?_
     exact qu R₁ (fK _) ho hc (by decide)
   ·rcases List.mem_cons.mp hb with rfl |hb
    ·exact d1
    ·rw[List.mem_singleton.mp hb];exact fK _
end
section
variable {W:Wd}{env:Env}{ρ ρ':ag}{θ θ':Th}{σ σ':St}{s s':Shared}{A:Around}{Ex:Value→Shared→Prop}{d:Nat}{cf:Cf}{sc:Scope}
theorem FR.aft2 (F:FR W env ρ θ s.heap)(R:aq W θ σ s.heap){X:Addr→Prop}(x:aB X θ s θ' s')(hX:∀a,X a→¬cH env a∧∀o,s.heap.get? a=some o→¬bP o):FR W env ρ θ' s'.heap:=by
 have kp:∀a o,cH env a→s.heap.get? a=some o→s'.heap.get? a=some o:=fun a o ha e=>x.keep a o e (F.notOwn ha) fun q=>(hX a q).1 ha
 have no:∀a,cH env a→¬own θ' a:=fun a ha q=>F.notOwn ha (let⟨_,e⟩:=F.live ha;x.own_old e q)
 have kt:=R.tup x fun a o e t q=>(hX a q).2 o e t
 refine⟨F.kind,F.glob,F.blt,?_,?_,F.cells,?_,no _ (.inl rfl),fun y c hc=>⟨no _ (.inr ⟨y,hc⟩),(F.apC y c hc).2⟩,F.uni,F.lowL,F.lowC⟩
 ·refine ah fun aa=>?_
  refine am F.ns fun m e19 hv=>?_
  refine ir e19 fun o es ep ho r=>?_
  refine aa ?_
  exact⟨m,⟨o,es,ep,kp _ _ (.inl rfl) ho,r⟩,fun y i av h1 h2 h3=>by
   refine am (hv y i av h1 h2 h3) fun v a b=>?_
   exact⟨v,a,b.keep x.pre kt⟩⟩
 ·intro y i c av h1 h2 h3 h4
  refine ah fun aa=>?_
  refine am (F.cell y i c av h1 h2 h3 h4) fun v e19 b=>?_
  refine am e19 fun o ho hd=>?_
  exact aa (⟨v,⟨o,kp _ _ (.inr ⟨y,h2⟩) ho,hd⟩,b.keep x.pre kt⟩)
 ·intro y c hc
  refine ah fun aa=>?_
  refine eX (F.isc y c hc) fun ov o ho hd=>?_
  exact aa (⟨ov,o,kp _ _ (.inr ⟨y,hc⟩) ho,hd⟩)
theorem FR.less {h:Heap}(F:FR W env ρ θ h)(hl:∀i av,ρ' i=some av→ρ i=some av):FR W env ρ' θ h:=
 ⟨F.kind,F.glob,F.blt,let⟨m,hn,hv⟩:=F.ns;⟨m,hn,fun x i av h1 h2 h3=>hv x i av h1 h2 (hl _ _ h3)⟩,fun x i c av h1 h2 h3 h4=>F.cell x i c av h1 h2 (hl _ _ h3) h4,F.cells,F.isc,F.apL,F.apC,F.uni,F.lowL,F.lowC⟩
theorem XJ {Q:Unit→Shared→Prop}{M:Model}(F:FR W env ρ θ s.heap)(R:aq W θ σ s.heap){x:Str}{i:Nat}{av:AV}{v:Value}(hk:env.kindOf x=some .local)(hi:aN x=some i)
  (hv:VR s.heap θ av v)(h:∀s',FR W env (aF ρ i av) θ s'.heap→aq W θ σ s'.heap→aB (fun a=>a=env.locals) θ s θ s'→VR s'.heap θ av v→(∀u y,VR s.heap θ u y→VR s'.heap θ u y)→Q () s'):wpAny M A (storeName env x v) Q Ex s:=by
 obtain tup:∀{a:Addr} {h':Heap},cH env a→Heap.SameBut a s.heap h'→∀b o,s.heap.get? b=some o→bP o→h'.get? b=some o:=fun{a h'} ha hs b o e ht=>by
  rw[hs.2 b ?_];exact e
  rintro rfl
  exact F.notTup ha e ht
 refine am F.ns fun m hn hm=>?_
 refine wpAny_storeName_local hk hn (fun h' hM hs=>?_) (by rw[F.kind];rfl)
 obtain T:=tup (.inl rfl) hs
 have up:∀u y,VR s.heap θ u y→VR h' θ u y:=fun u y z=>z.keep (List.prefix_refl _) T
 refine h _ ⟨F.kind,F.glob,F.blt,⟨_,hM,fun y j au h1 h2 h3=>?_⟩,fun y j c au h1 h2 h3 h4=>?_,F.cells,fun y c hc=>?_,F.apL,F.apC,F.uni,F.lowL,F.lowC⟩
  (R.other hs F.apL F.lowL fun o e=>F.notTup (.inl rfl) e) (xo hs (let⟨o,_,_,ho,_⟩:=hM;⟨o,ho⟩)) (up _ _ hv) up
 ·refine ah fun aa=>?_
  by_cases hy:y=x
  ·clear hM
   subst hy
   rw[hi]at h1
   refine aR h1 ?_
   clear h1
   rintro rfl
   simp only[cN,if_true,Option.some.injEq]at h3
   subst h3
   exact aa (⟨v,by simp,up _ _ hv⟩)
  ·have hj:j≠i:=by rintro rfl;exact hy (mf h1 hi)
   simp only[cN,hj,if_false]at h3
   refine am (hm y j au h1 h2 h3) fun u a b=>?_
   exact aa (⟨u,by simp[hy,a],up _ _ b⟩)
 ·have hj:j≠i:=by
   rintro rfl
   rw[mf h1 hi,hk]at h4
   rcases h4 with q |q<;>cases q
  simp only[cN,hj,if_false]at h3
  refine am (F.cell y j c au h1 h2 h3 h4) fun u a b=>?_
  exact⟨u,a.sameBut hs (F.apC y c h2).2,up _ _ b⟩
 ·obtain⟨ov,a⟩:=F.isc y c hc
  exact⟨ov,a.sameBut hs (F.apC y c hc).2⟩
theorem xc {t:Expr}{xs:List Nat}{one:Bool}(h:ft sc t=some (xs,one)):
  (∃x i p,t=.Name x p∧dw sc x=true∧aN x=some i∧xs=[i]∧one=true)∨
  (∃x y i j p q kk r,t=.Tuple [.Name x p,.Name y q] kk r∧dw sc x=true∧dw sc y=true∧aN x=some i∧aN y=some j∧xs=[i,j]∧one=false):=by
 unfold ft at h
 refine ah fun aa=>?_
 cases hn:dQ t with
 |some x=>
  rw[hn]at h
  refine dY h fun hx h=>?_
  refine am (bY h) fun i h1 e=>?_
  cases e
  obtain⟨p,rfl⟩:=eY hn
  exact aa (.inl ⟨x,i,p,rfl,hx,h1,rfl,rfl⟩)
 |none=>
  rw[hn]at h
  refine az h fun z h1 h=>?_
  refine dY h fun hx h=>?_
  refine az h fun i h2 h=>?_
  refine az h fun j h3 h=>?_
  refine dY h fun _ h=>?_
  refine dj h ?_
  clear h
  rintro rfl rfl
  rw[Bool.and_eq_true]at hx
  refine XN (Nt h1) fun p q k r e49=>?_
  clear h h1 hn
  subst e49
  exact aa (.inr ⟨z.1,z.2,i,j,p,q,k,r,rfl,hx.1,hx.2,h2,h3,rfl,rfl⟩)
noncomputable def lN (env:Env)(loc:Bool)(a:Addr):Prop:=if loc=true then a=env.locals else cH env a
theorem lN.frame {loc:Bool}{a:Addr}(h:lN env loc a):cH env a:=by
 unfold lN at h
 split at h
 ·exact .inl h
 ·exact h
noncomputable def tO (sc:Scope)(loc:Bool)(t:Expr):Prop:=loc=true→∀x,dw sc x=true→(∃p,t=.Name x p)∨(∃y p q kk r,t=.Tuple [.Name x p,.Name y q] kk r∨t=.Tuple [.Name y p,.Name x q] kk r)→sc.names.lookup x=some .local
theorem F7 {Q:Unit→Shared→Prop}{M:Model}{loc:Bool}(aj:cF sc env)(F:FR W env ρ θ s.heap)(R:aq W θ σ s.heap){x:Str}{i:Nat}{av:AV}{v:Value}(hx:dw sc x=true)(hl:loc=true→sc.names.lookup x=some .local)(hi:aN x=some i)
  (hv:VR s.heap θ av v)(h:∀s',FR W env (aF ρ i av) θ s'.heap→aq W θ σ s'.heap→aB (lN env loc) θ s θ s'→(∀u y,VR s.heap θ u y→VR s'.heap θ u y)→Q () s'):wpAny M A (storeName env x v) Q Ex s:=by
 refine ah fun aa=>?_
 cases loc with
 |true=>refine aa ?_;exact XJ F R (aj.loc _ (hl rfl)) hi hv fun s' a b c d e=>h s' a b (c.mono fun a ha=>by rw[lN,if_pos rfl];exact ha) e
 |false=>refine aa ?_;exact tH F R (aj.var hx) hi hv fun s' a b c d e=>h s' a b (c.mono fun a ha=>by rw[lN,if_neg Bool.false_ne_true];exact ha) e
theorem FV {Q:Unit→Shared→Prop}{loc:Bool}{t:Expr}{xs:List Nat}{one:Bool}(ht:ft sc t=some (xs,one))(hl:tO sc loc t)(aj:cF sc env)(F:FR W env ρ θ s.heap)(R:aq W θ σ s.heap)(ok:bp A d){av:AV}{v:Value}(hb:ed xs one av ρ=some ρ')
  (hv:VR s.heap θ av v)(h:∀s',FR W env ρ' θ s'.heap→aq W θ σ s'.heap→aB (lN env loc) θ s θ s'→Q () s'):wpAny (model W.prog W.w) A (assign t env v) Q Ex s:=by
 refine ah fun aa=>?_
 rcases xc ht with⟨x,i,p,rfl,hx,hi,rfl,rfl⟩ | ⟨x,y,i,j,p,q,kk,r,rfl,hx,hy,hi,hj,rfl,rfl⟩
 ·refine aR hb fun e19=>?_
  clear hb
  subst e19
  exact aa (wpAny_assign_Name (F7 aj F R hx (fun e=>hl e x hx (.inl ⟨p,rfl⟩)) hi hv fun s' a b c _=>h s' a b c))
 ·refine az (show(dp av).bind (fun l=>(two l).map fun q=>aF (aF ρ i q.1) j q.2)=some ρ' from hb) fun l h1 h2=>cw h2 fun pr h3 h4=>?_
  rw[fQ h1,fL h3]at hv
  generalize pr.1=a at hv h4
  generalize pr.2=b at hv h4
  ·clear h2 hb
   subst h4
   obtain⟨T,items,rfl,hT,hv⟩:=hv
   refine bH (aC.two hv) fun u w e hu hw=>?_
   obtain hsz:items.size=2:=by rw[←Array.length_toList,e];rfl
   refine aa ?_
   refine assign_Tuple_tuple ok.h hT (by rw[hsz];rfl) rfl fun h' hk=>?_
   have k:∀b o,s.heap.get? b=some o→h'.get? b=some o:=fun b o q=>hk b o (Nat.ne_of_lt (Heap.lt_size q)) q
   obtain x₁:aB bZ θ s θ {s with heap:=h'}:=aB.ext (n:=s.toks) k
   obtain R₁:=R.step k
   refine(e).symm▸?_
   refine assignInOrder_cons (wpAny_assign_Name (F7 aj (F.go R x₁) R₁ hx (fun e=>hl e x hx (.inr ⟨y,p,q,kk,r,.inl rfl⟩)) hi (hu.aft R x₁) fun s₂ F₂ R₂ x₂ up=>?_))
   refine assignInOrder_cons (wpAny_assign_Name (F7 aj F₂ R₂ hy (fun e=>hl e y hy (.inr ⟨x,p,q,kk,r,.inr rfl⟩)) hj (up _ _ (hw.aft R x₁)) fun s₃ F₃ R₃ x₃ _=>assignInOrder_nil ?_))
   exact h s₃ F₃ R₃ (((x₁.mono fun _ q=>q.elim).trans x₂).trans x₃)
end
section
variable {prog:Program}{w:World}{A:Around}{R:Result→Shared→Prop}{s:Shared}
theorem Ph {elt target iter:Expr}{ifs:List Expr}{scope:Scope}{pos:Pos}{it acc:Value}{env:Env}(I:Nat→Shared→Prop)
  (turn:∀n s,I n s→∀E:Value→Shared→Prop,wpAny (model prog w) A (pyNext it) (fun r s₁=>match r with
   |none=>R (.ok .next) s₁
   |some v=>wpAny (model prog w) A (letOwnedTupleGo target it v) (fun _ s₁'=>wpAny (model prog w) A (assign target env v) (fun _ s₂=>
     wpAny (model prog w) A (forIn ifs true fun c r=>if r=true then do let ok ←isTrue c env (eval c env);pure (ForInStep.yield ok)else pure (ForInStep.yield r)) (fun ok s₃=>
      if ok=true then wpAny (model prog w) A (eval elt env) (fun x s₄=>wpAny (model prog w) A (call (.builtin "list.append") [acc,x]) (fun _ s₅=>∃m,m<n∧I m s₅) E s₄) E s₃
      else∃m,m<n∧I m s₃) E s₂) E s₁') E s₁) E s)
  (n:Nat)(h:I n s):codeAny (model prog w) A (.compLoop (.ListComp elt [⟨target,iter,ifs,0⟩] scope pos) 0 it acc env) R s:=by
 refine codeAny_loop rfl I (fun n s hI=>?_) n h
 show wpAny _ A ((compTurn (.ListComp elt [⟨target,iter,ifs,0⟩] scope pos) 0 it acc env).onRaise (fun x=>do noteFrame x env;theTreesLotGoes x)) _ _ s
 refine wpAny_noted ?_
 rw[compTurn_list]
 refine wpAny_bind (wpAny_standAt (wpAny_bind (wpAny_mono (turn n s hI _) (fun r s₁ h₁=>?_) fun _ _ h'=>h')))
 cases r with
 |none=>exact wpAny_pure h₁
 |some v=>
  refine wpAny_bind (wpAny_mono h₁ (fun _ s₁' h₁'=>?_) fun _ _ h'=>h')
  refine wpAny_bind (wpAny_mono h₁' (fun _ s₂ h₂=>wpAny_bind (wpAny_mono h₂ (fun ok s₃ h₃=>?_) fun _ _ h'=>h')) fun _ _ h'=>h')
  cases ok with
  |false=>exact wpAny_pure ⟨rfl,h₃⟩
  |true=>exact wpAny_bind (wpAny_bind (wpAny_mono h₃ (fun x s₄ h₄=>wpAny_bind (wpAny_mono h₄ (fun _ s₅ h₅=>wpAny_pure (wpAny_pure ⟨rfl,h₅⟩)) fun _ _ h'=>h')) fun _ _ h'=>h'))
end
structure jr (sc sc':Scope)(xs:List Nat):Prop where
 kind:sc'.kind=.function
 cell:∀p∈sc'.names,p.2≠.cell
 loc:∀p∈sc'.names,p.2=.local→sc'.names.lookup p.1=some .local∧(∀i,aN p.1=some i→i∈xs)
 free:∀p∈sc'.names,p.2=.free→sc.names.lookup p.1=some .cell∨sc.names.lookup p.1=some .free
noncomputable def jn (xs:List Nat)(ρ:ag):ag:=fun i=>if i∈xs then none else ρ i
theorem fh {α β:Type} [BEq α] [LawfulBEq α]{l:List (α×β)}{a:α}{b:β}(h:l.lookup a=some b):(a,b)∈l:=by
 induction l with
 |nil=>exact aK h
 |cons p l ih=>
  obtain⟨x,y⟩:=p
  rw[List.lookup_cons]at h
  cases q:a==x with
  |true=>
   rw[q]at h
   refine aR h ?_
   clear h
   rintro rfl
   rw[eq_of_beq q]
   exact List.mem_cons_self ..
  |false=>
   rw[q]at h
   exact List.mem_cons_of_mem _ (ih h)
theorem By {env:Env}:∀(names:List (Str×NameKind)) (acc:List (Str×Addr)),(∀p∈names,p.2=.free→∃c,env.cells.lookup p.1=some c)→
  (∀x c,acc.lookup x=some c→env.cells.lookup x=some c)→
  ∃cl,(forIn names acc fun x cs=>do
    let cs:=cs
    if x.2==.free then do let c ←cellOf env x.1;pure (ForInStep.yield ((x.1,c)::cs))else pure (ForInStep.yield cs):Sem (List (Str×Addr)))=pure cl∧
   (∀x c,cl.lookup x=some c→env.cells.lookup x=some c)∧(∀x,(acc.lookup x).isSome=true→(cl.lookup x).isSome=true)∧(∀p∈names,p.2=.free→(cl.lookup p.1).isSome=true)∧(∀x c,cl.lookup x=some c→acc.lookup x=some c∨(x,NameKind.free)∈names)
 | [],acc,_,ha=>⟨acc,rfl,ha,fun _ h=>h,fun p hp=>by simp at hp,fun x c h=>.inl h⟩
 | (n,k)::names,acc,hf,ha=>by
  rw[List.forIn_cons]
  refine ah fun aa=>?_
  by_cases hk:k=.free
  ·subst hk
   obtain⟨c,hc⟩:=hf (n,.free) (List.mem_cons_self ..) rfl
   obtain⟨cl,h1,h2,h3,h4,h5⟩:=By (env:=env) names ((n,c)::acc) (fun p hp=>hf p (List.mem_cons_of_mem _ hp)) (fun x c' h=>by
    rw[List.lookup_cons]at h
    cases q:x==n with
    |true=>rw[q]at h;cases h;rw[eq_of_beq q];exact hc
    |false=>rw[q]at h;exact ha x c' h)
   refine aa ?_
   refine⟨cl,?_,h2,fun x h=>h3 x ?_,fun p hp e=>?_,fun x c' h=>?_⟩
   ·have:cellOf env n=pure c:=by unfold cellOf;rw[hc]
    simp only[beq_self_eq_true,if_true,this,pure_bind]
    exact h1
   ·rw[List.lookup_cons]
    cases q:x==n with
    |true=>rfl
    |false=>exact h
   ·rcases List.mem_cons.mp hp with rfl |hp
    ·exact h3 _ (by rw[List.lookup_cons];simp)
    ·exact h4 p hp e
   ·rcases h5 x c' h with q |q
    ·rw[List.lookup_cons]at q
     cases r:x==n with
     |true=>rw[eq_of_beq r];exact .inr (List.mem_cons_self ..)
     |false=>rw[r]at q;exact .inl q
    ·exact .inr (List.mem_cons_of_mem _ q)
  ·have hb:(k==NameKind.free)=false:=by cases k<;>first |rfl |exact absurd rfl hk
   refine lI (By (env:=env) names acc (fun p hp=>hf p (List.mem_cons_of_mem _ hp)) ha) fun cl h1 h2 h3 h4 h5=>?_
   refine aa ?_
   refine⟨cl,?_,h2,h3,fun p hp e=>?_,fun x c' h=>(h5 x c' h).imp id fun q=>List.mem_cons_of_mem _ q⟩
   ·simp only[hb,Bool.false_eq_true,if_false,pure_bind]
    exact h1
   ·rcases List.mem_cons.mp hp with rfl |hp
    ·exact absurd e hk
    ·exact h4 p hp e
theorem Iq {scope:Scope}{env:Env}(hf:∀p∈scope.names,p.2=.free→∃c,env.cells.lookup p.1=some c):
  ∃cl,closureFor scope env=pure cl∧(∀x c,cl.lookup x=some c→env.cells.lookup x=some c∧(x,NameKind.free)∈scope.names)∧(∀p∈scope.names,p.2=.free→∃c,cl.lookup p.1=some c):=by
 refine ah fun aa=>?_
 refine lI (By (env:=env) scope.names [] hf (fun x c h=>by cases h)) fun cl h1 h2 h3 h4 h5=>?_
 refine aa ?_
 refine⟨cl,?_,fun x c h=>⟨h2 x c h,(h5 x c h).resolve_left (by simp)⟩,fun p hp e=>Option.isSome_iff_exists.mp (h4 p hp e)⟩
 unfold closureFor
 first
  | (rw[h1];rfl)
  | (show(do let cs ←forIn scope.names [] _;pure cs)=_
     rw[bind_pure]
     exact h1)
  | (rw[bind_pure];exact h1)
  |exact h1
section
variable {W:Wd}{env:Env}{ρ ρ':ag}{θ θ':Th}{σ σ':St}{s s':Shared}{A:Around}{Ex:Value→Shared→Prop}{d:Nat}{cf:Cf}{sc sc':Scope}{xs:List Nat}
theorem U3 {names:List (Str×NameKind)}{x:Str}(f:Str→Bool):(names.map fun p=>if(p.2==NameKind.free&&f p.1)=true then(p.1,NameKind.cell)else(p.1,p.2)).lookup x=(names.lookup x).map fun k=>if(k==NameKind.free&&f x)=true then NameKind.cell else k:=by
 induction names with
 |nil=>rfl
 |cons p l ih=>
  obtain⟨n,k⟩:=p
  simp only[List.map_cons]
  refine ah fun aa=>?_
  cases q:x==n with
  |true=>
   have:=eq_of_beq q
   subst this
   by_cases h:(k==NameKind.free&&f x)=true
   ·refine aa ?_
    rw[if_pos h,List.lookup_cons,List.lookup_cons,beq_self_eq_true];simp only[Option.map_some];rw[if_pos h]
   ·refine aa ?_
    rw[if_neg h,List.lookup_cons,List.lookup_cons,beq_self_eq_true];simp only[Option.map_some];rw[if_neg h]
  |false=>
   by_cases h:(k==NameKind.free&&f n)=true
   ·refine aa ?_
    rw[if_pos h];simp only[List.lookup_cons,q];exact ih
   ·refine aa ?_
    rw[if_neg h];simp only[List.lookup_cons,q];exact ih
theorem tY (cl:List (Str×Addr))(C:Addr)(x:Str):(compEnvC sc' cl C env).kindOf x=(sc'.names.lookup x).map fun k=>if(k==NameKind.free&&(env.scope.kind==.function&&env.kindOf x==some .cell))=true then NameKind.cell else k:=by
 show(relabel sc' env).names.lookup x=_
 rw[←U3 (fun x=>env.scope.kind==.function&&env.kindOf x==some .cell)]
 unfold relabel
 simp only[Bool.and_assoc]
theorem Pj (hc:jr sc sc' xs){cl:List (Str×Addr)}{C:Addr}{x:Str}(h:(compEnvC sc' cl C env).kindOf x=some .local):sc'.names.lookup x=some .local:=by
 rw[tY]at h
 refine cw h fun k h1 h2=>?_
 split at h2
 ·cases h2
 ·rw[h1,h2]
theorem Iv (hc:jr sc sc' xs){cl:List (Str×Addr)}{C:Addr}{x:Str}(h:(compEnvC sc' cl C env).kindOf x=some .cell∨(compEnvC sc' cl C env).kindOf x=some .free):sc'.names.lookup x=some .free:=by
 rw[tY]at h
 cases q:sc'.names.lookup x with
 |none=>rw[q]at h;rcases h with h |h<;>cases h
 |some k=>
  rw[q]at h
  obtain hk:=hc.cell _ (fh q)
  cases k<;>first |rfl |exact absurd rfl hk | (rcases h with h |h<;>(simp at h;done))
theorem Iy (hc:jr sc sc' xs){cl:List (Str×Addr)}{C:Addr}:cF sc' (compEnvC sc' cl C env) where
 loc:=fun x h=>by rw[tY,h];rfl
 cel:=fun x h=>absurd rfl (hc.cell _ (fh h))
 fre:=fun x h=>by
  rw[tY,h]
  refine ah fun aa=>?_
  by_cases q:(NameKind.free==NameKind.free&&(env.scope.kind==.function&&env.kindOf x==some .cell))=true
  ·refine aa ?_
   left;simp only[Option.map_some];rw[if_pos q]
  ·refine aa ?_
   right;simp only[Option.map_some];rw[if_neg q]
 glo:=fun x h=>by rw[tY,h];rfl
theorem Ql (aj:cF sc env)(hc:jr sc sc' xs){h:Heap}(F:FR W env ρ θ h){cl:List (Str×Addr)}{C:Addr}(cr:∀x c,cl.lookup x=some c→env.cells.lookup x=some c∧(x,NameKind.free)∈sc'.names)(Ci:∀p∈sc'.names,p.2=.free→∃c,cl.lookup p.1=some c)
  (hn:h.Ns C fun _=>none)(hC:¬own θ C)(hB:W.hB.get? C=none)(aY:∀x c,env.cells.lookup x=some c→c≠C):FR W (compEnvC sc' cl C env) (jn xs ρ) θ h:=by
 obtain fr:∀x,(compEnvC sc' cl C env).kindOf x=some .cell∨(compEnvC sc' cl C env).kindOf x=some .free→env.kindOf x=some .cell∨env.kindOf x=some .free:=fun x hx=>by
  obtain h1:=Iv hc hx
  rcases hc.free _ (fh h1) rfl with q |q
  ·exact .inl (aj.cel _ q)
  ·exact aj.fre _ q
 refine⟨hc.kind,F.glob,F.blt,⟨_,hn,fun x i av h1 h2 h3=>?_⟩,fun x i c av h1 h2 h3 h4=>?_,fun x hx=>Ci _ (fh (Iv hc hx)) rfl,fun x c e=>F.isc x c (cr x c e).1,hC,fun x c e=>⟨(F.apC x c (cr x c e).1).1,aY x c (cr x c e).1⟩,
  fun x y c e1 e2=>F.uni x y c (cr x c e1).1 (cr y c e2).1,hB,fun x c e=>F.lowC x c (cr x c e).1⟩
 ·exfalso
  have:=(hc.loc _ (fh (Pj hc h2)) rfl).2 i h1
  simp only[jn,this,if_true]at h3
  exact aK h3
 ·obtain Qy:ρ i=some av:=by
   unfold jn at h3
   split at h3
   ·exact aK h3
   ·exact h3
  exact F.cell x i c av h1 (cr x c h2).1 Qy (fr x h4)
theorem M3 {ρ ρ₁:ag}{x:Nat}{v:AV}(h:∀i,i≠x→ρ₁ i=ρ i):aF ρ₁ x v=aF ρ x v:=funext fun i=>by
 rw[cN,cN]
 by_cases q:i=x
 ·rw[if_pos q,if_pos q]
 ·rw[if_neg q,if_neg q,h i q]
theorem F0 {ρ:ag}{x i:Nat}{v:AV}(h:i≠x):aF ρ x v i=ρ i:=by rw[cN,if_neg h]
theorem F5 {xs:List Nat}{i:Nat}{av:AV}(h:jn xs ρ i=some av):i∉xs∧ρ i=some av:=by
 by_cases q:i∈xs
 ·exact aK ((if_pos q).symm.trans h)
 ·exact⟨q,(if_neg q).symm.trans h⟩
theorem NK {one:Bool}{v:AV}(h:ed xs one v ρ=some ρ'):ed xs one v (jn xs ρ)=some ρ'∧∀i av,jn xs ρ i=some av→ρ' i=some av:=by
 cases one with
 |true=>
  refine fE (show(Mine.one xs).map (fun x=>aF ρ x v)=some ρ' from h) fun x h1=>?_
  rw[d8 h1]
  exact⟨congrArg some (M3 fun i hi=>if_neg fun m=>hi (List.mem_singleton.mp m)),fun i av e=>(F0 fun e'=>(F5 e).1 (List.mem_singleton.mpr e')).trans (F5 e).2⟩
 |false=>
  refine az (show(two xs).bind (fun p=>(dp v).bind fun l=>(two l).map fun q=>aF (aF ρ p.1 q.1) p.2 q.2)=some ρ' from h) fun p h1 h=>?_
  refine az h fun l h2 h=>?_
  refine fE h fun q h3=>?_
  rw[fL h1,fQ h2,fL h3]
  refine⟨congrArg some (M3 fun i hi=>?_),fun i av e=>?_⟩
  ·rw[cN,cN]
   by_cases z:i=p.1
   ·rw[if_pos z,if_pos z]
   ·rw[if_neg z,if_neg z]
    exact if_neg fun m=>(List.mem_cons.mp m).elim z fun m=>hi (List.mem_singleton.mp m)
  ·obtain w:=F5 e
   exact((F0 fun e'=>w.1 (List.mem_cons_of_mem _ (List.mem_singleton.mpr e'))).trans (F0 fun e'=>w.1 (List.mem_cons.mpr (.inl e')))).trans w.2
theorem aq.adopt {h:Heap}(R:aq W θ σ h){a:Addr}{o:ae}(h1:¬own θ a)(hb:W.hB.get? a=none)(x:OR W h (θ++[(a,a)]) (a,a) o):aq W (θ++[(a,a)]) (σ++[o]) h:=by
 obtain ne:∀{b:Addr},own θ b→b≠a:=fun ho e=>h1 (e▸ho)
 obtain kt:∀a o,h.get? a=some o→bP o→h.get? a=some o:=fun _ _ e _=>e
 refine⟨R.base,by simp[R.len],fun i o' m hi hm=>?_,fun i o' m hi hm hv=>?_,fun i j m n hm hn eG=>?_⟩
 ·refine ah fun aa=>?_
  by_cases q:i<θ.length
  ·rw[List.getElem?_append_left q]at hm
   rw[List.getElem?_append_left (by rw[←R.len];exact q)]at hi
   exact aa ((R.objs i o' m hi hm).keep (List.prefix_append ..) kt rfl rfl)
  ·have e:i=θ.length:=by
    have:=(List.getElem?_eq_some_iff.mp hm).1
    simp at this
    lia
   subst e
   simp at hm
   rw[R.len]at hi
   simp at hi
   subst hm hi
   exact aa x
 ·by_cases q:i<θ.length
  ·rw[List.getElem?_append_left (R.len▸q)]at hi
   rw[List.getElem?_append_left q]at hm
   exact R.fresh i o' m hi hm hv
  ·have e:i=θ.length:=by
    have:=(List.getElem?_eq_some_iff.mp hm).1
    simp at this
    lia
   subst e
   simp at hm
   subst hm
   exact⟨hb,hb⟩
 ·by_cases q:i<θ.length<;>by_cases r:j<θ.length
  ·rw[List.getElem?_append_left q]at hm
   rw[List.getElem?_append_left r]at hn
   exact R.apart i j m n hm hn eG
  ·rw[List.getElem?_append_left q]at hm
   have e:j=θ.length:=by
    have:=(List.getElem?_eq_some_iff.mp hn).1
    simp at this
    lia
   subst e
   simp at hn
   subst hn
   have o1:own θ m.1:=⟨m,List.mem_of_getElem? hm,.inl rfl⟩
   have o2:own θ m.2:=⟨m,List.mem_of_getElem? hm,.inr rfl⟩
   exact⟨ne o1,ne o1,ne o2,ne o2⟩
  ·rw[List.getElem?_append_left r]at hn
   have e:i=θ.length:=by
    have:=(List.getElem?_eq_some_iff.mp hm).1
    simp at this
    lia
   subst e
   simp at hm
   subst hm
   have o1:own θ n.1:=⟨n,List.mem_of_getElem? hn,.inl rfl⟩
   have o2:own θ n.2:=⟨n,List.mem_of_getElem? hn,.inr rfl⟩
   exact⟨(ne o1).symm,(ne o2).symm,(ne o1).symm,(ne o2).symm⟩
  ·have e:i=θ.length:=by
    have:=(List.getElem?_eq_some_iff.mp hm).1
    simp at this
    lia
   have e':j=θ.length:=by
    have:=(List.getElem?_eq_some_iff.mp hn).1
    simp at this
    lia
   lia
theorem aB.adopt {X:Addr→Prop}(x:aB X θ s θ' s'){a:Addr}(h:s.heap.get? a=none):aB X θ s (θ'++[(a,a)]) s':=
 ⟨x.pre.trans (List.prefix_append ..),fun l hl=>by
  rcases List.mem_append.mp hl with q |q
  ·exact x.new l q
  ·simp at q
   clear hl
   subst q
   exact .inr ⟨h,h⟩,x.keep,x.live,x.gens,x.os⟩
noncomputable def tS (W:Wd)(d:Nat)(cf:Cf)(sc:Scope)(ifs:List Expr)(fs:List E):Prop:=(ifs=[]∧fs=[])∨∃c x,ifs=[c]∧fs=[x]∧bK W d cf sc c x
theorem Xm {ifs:List Expr}{fs:List E}(ht:tS W d cf sc ifs fs)(aj:cF sc env)(F:FR W env ρ θ s.heap)(R:aq W θ σ s.heap)(ok:bp A d){b:Bool}(hv:lU W.T.tb cf fs ρ σ=some (b,σ')){Q:Bool→Shared→Prop}(h:lM W θ s σ' (Q b)):
  wpAny (model W.prog W.w) A (forIn ifs true fun c r=>if r=true then do let ok ←isTrue c env (eval c env);pure (ForInStep.yield ok)else pure (ForInStep.yield r)) Q Ex s:=by
 refine ah fun aa=>?_
 rcases ht with⟨rfl,rfl⟩ | ⟨c,x,rfl,rfl,ht⟩
 ·refine dj hv fun e09 e19=>?_
  clear hv
  subst e09
  subst e19
  exact aa (wpAny_tests_nil (h _ _ .id R))
 ·refine aS hv fun u σ₁ h1 hv=>?_
  obtain⟨e1,e2⟩:truthy σ₁ u=some b∧σ₁=σ':=gH hv (fun q e=>fH e fun e1 e2=>⟨e1▸q,e2.symm⟩) fun q e=>fH e fun e1 e2=>⟨e1▸q,e2.symm⟩
  refine aa ?_
  exact wpAny_tests_one (ht aj F R ok h1 e1 (e2▸h))
end
section
variable {W:Wd}{env:Env}{ρ ρ':ag}{θ θ':Th}{σ σ':St}{s s':Shared}{A:Around}{Ex:Value→Shared→Prop}{d:Nat}{cf:Cf}{sc sc':Scope}{xs:List Nat}
noncomputable def AS (W:Wd)(cf:Cf)(fs:List E)(x:E):ag→St→Option (Option AV×St):=fun ρ σ=>aO (lU W.T.tb cf fs ρ σ) fun b σ=>bif b then aO (ev W.T.tb cf x ρ σ) fun v σ=>some (some v,σ)else some (none,σ)
inductive CI (W:Wd)(S:List AV→Th→Heap→Prop)(EC:Env)(ρw:ag)(s:Shared)(θ:Th)(D:Addr)(go:List AV→St→Option (List AV×St))(σf:St)(l:List AV)(k:Nat)(s':Shared):Prop
 |mk (rest:List AV)(θ':Th)(σ':St)(accV:List AV)(acc:Array Value)(l':List AV)(e:k=rest.length)(st:S rest θ' s'.heap)(R:aq W θ' σ' s'.heap)(F:FR W EC ρw θ' s'.heap)(x:aB (fun a=>s.heap.get? a=none) θ s θ' s')
  (hp:s'.heap.PlainList D acc)(hv:aC s'.heap θ' accV acc.toList)(hg:go rest σ'=some (l',σf))(hl:accV++l'=l)(o:¬own θ' D):CI W S EC ρw s θ D go σf l k s'
theorem Pk {tgt iter elt:Expr}{ifs:List Expr}{fs:List E}{x:E}{one:Bool}{pos:Pos}{I D:Addr}{EC:Env}{wr:List Addr}{gd:Option (Nat×ae)}{S:List AV→Th→Heap→Prop}{vs l:List AV}{σ₁ σf:St}{s₃:Shared}{θ₂:Th}{RR:Value→Addr→Result→Shared→Prop}
  (T:jt W A tgt I wr gd S)(ht:ft sc' tgt=some (xs,one))(qi:tO sc' true tgt)(Ck:aE W d cf sc' elt x)(CZ:tS W d cf sc' ifs fs)(ok:bp A d)(csc:cF sc' EC)(hw:∀b∈wr,s.heap.get? b=none)(hl:l.length<1000000)
  (nf:∀a,s.heap.get? a=none→a≠EC.locals→¬cH EC a)(qa:D≠EC.locals)(dD:s.heap.get? D=none)(dC:s.heap.get? EC.locals=none)(bD:W.hB.get? D=none)(bC:W.hB.get? EC.locals=none)(wD:D∉wr)(wC:EC.locals∉wr)
  (st₁:S vs θ₂ s₃.heap)(R₁:aq W θ₂ σ₁ s₃.heap)(Fc:FR W EC (jn xs ρ) θ₂ s₃.heap)(xA:aB (fun a=>s.heap.get? a=none) θ s θ₂ s₃)(qb:s₃.heap.PlainList D #[])(oD:¬own θ₂ D)
  (hv:ca gd xs one (AS W cf fs x) ρ vs σ₁=some (l,σf))
  (fin:∀D C θ' s' m,aB bZ θ s θ' s'→aq W θ' (σf++[.list l]) s'.heap→VR s'.heap θ' (.ref σf.length) (.ref D)→s'.heap.Ns C m→¬own θ' C→s.heap.get? C=none→W.hB.get? C=none→RR (.ref D) C (.ok .next) s'):
  codeAny (model W.prog W.w) A (.compLoop (.ListComp elt [⟨tgt,iter,ifs,0⟩] sc' pos) 0 (.ref I) (.ref D) EC) (RR (.ref D) EC.locals) s₃:=by
 refine Ph (CI W S EC (jn xs ρ) s θ D (ca gd xs one (AS W cf fs x) ρ) σf l) ?_ vs.length
  ⟨vs,θ₂,σ₁,[],#[],l,rfl,st₁,R₁,Fc,xA,qb,trivial,hv,rfl,oD⟩
 intro k s' q29 E'
 refine ah fun aa=>?_
 obtain⟨rest,θ',σ',accV,acc,l',rfl,st',R',F',x',fe,bm,cg,jM,oD'⟩:=q29
 have L':=T.loose st'
 cases rest with
 |nil=>
  obtain⟨hs,cg⟩:=b7 cg
  ·cases cg
   refine aa ?_
   refine wpAny_mono (T.done st' R' hs (K:=fun s''=>RR (.ref D) EC.locals (.ok .next) s'') fun h' tk hk R''=>?_) (fun r s₁ q=>by obtain⟨rfl,q⟩:=q;exact q) fun _ _ e=>e
   refine ah fun aa=>?_
   refine am F'.ns fun m hn _=>?_
   obtain kt:∀b o,s'.heap.get? b=some o→bP o→h'.get? b=some o:=fun b o e t=>hk b o (fun q=>L'.notTup q o e t) e
   refine xj fe fun nn CR=>?_
   refine aa ?_
   refine fin _ _ (θ'++[(D,D)]) _ m (((x'.fin hw hk).above fun a q=>.inl q).adopt dD) (R''.adopt oD' bD ⟨rfl,acc,⟨nn,hk _ _ wD CR⟩,?_,?_⟩) ⟨(D,D),?_,rfl⟩ (hn.at' fun o e=>hk _ o wC e) ?_ dC bC
   ·rw[←jM,List.append_nil]
    exact bm.keep (List.prefix_append ..) kt
   ·lia
   ·rw[←R'.len];simp
   ·rintro⟨p,hp,e⟩
    rcases List.mem_append.mp hp with q |q
    ·exact F'.apL ⟨p,q,e⟩
    ·simp only[List.mem_singleton]at q
     clear hp
     subst q
     rcases e with e |e<;>exact qa e.symm
 |cons v rest=>
  obtain⟨hs,cg⟩:=b7 cg
  refine az cg fun ρ' hb cg=>?_
  refine aS cg fun o σ₅ me cg=>?_
  refine aS cg fun l2 σ₆ Jt cg=>?_
  refine dj cg fun cQ e19=>?_
  clear cg
  clear fin hv
  subst e19
  refine aS me fun b σ₄ Jo me=>?_
  obtain⟨Jd,Je⟩:=NK hb
  refine aa ?_
  refine wpAny_mono (T.next st' R' hs (E:=E') (K:=fun xv s''=>wpAny (model W.prog W.w) A (assign tgt (EC) xv) (fun _ s₂'=>
    wpAny (model W.prog W.w) A (forIn ifs true fun c r=>if r=true then do let ok ←isTrue c (EC) (eval c (EC));pure (ForInStep.yield ok)else pure (ForInStep.yield r)) (fun ok s₃=>
     if ok=true then wpAny (model W.prog W.w) A (eval elt (EC)) (fun x s₄=>wpAny (model W.prog W.w) A (call (.builtin "list.append") [.ref D,x]) (fun _ s₅=>∃m,m<(v::rest).length∧_) E' s₄) E' s₃
     else∃m,m<(v::rest).length∧_) E' s₂') E' s'') fun xv s₃ a₃ R₃ C3 st₃=>?_) (fun r s₁ q=>by obtain⟨y,rfl,q⟩:=q;exact q) fun _ _ e=>e
  obtain F₃:=F'.aft2 R' a₃ fun a ha=>⟨nf a (hw a ha) fun q=>wC (q▸ha),L'.notTup ha⟩
  refine FV ht qi csc F₃ R₃ ok Jd C3 fun s₄ F₄ R₄ a₄=>?_
  obtain st₄:=T.keep st₃ R₃ a₄ fun a ha=>by
   have:a=EC.locals:=ha
   subst this
   exact⟨wC,fun o e=>F₃.notTup (.inl rfl) e⟩
  refine Xm CZ csc F₄ R₄ ok Jo fun θ₅ s₅ a₅ R₅=>?_
  have F₅:=F₄.go R₄ a₅
  have st₅:=T.keep st₄ R₄ a₅ fun _ q=>q.elim
  have x₃:aB (fun a=>s.heap.get? a=none) θ s θ' s₃:=x'.trans (a₃.mono fun a ha=>hw a ha)
  have x₄:aB (fun a=>s.heap.get? a=none) θ s θ' s₄:=x₃.trans (a₄.mono fun a ha=>by
   have:a=EC.locals:=ha
   subst this;exact dC)
  have x₅:aB (fun a=>s.heap.get? a=none) θ s θ₅ s₅:=x₄.trans (a₅.mono fun _ q=>q.elim)
  refine xj fe fun nn CR=>?_
  obtain p₃:=a₃.keep _ _ CR oD' wD
  have p₄:=a₄.keep _ _ p₃ oD' fun q=>qa q
  have p₅:=a₅.keep _ _ p₄ oD' fun q=>q
  have oD₅:¬own θ₅ D:=fun q=>oD' (a₅.own_old p₄ q)
  obtain v₃:aC s₃.heap θ' accV acc.toList:=bm.keep (List.prefix_refl _) (R'.tup a₃ fun a o e t q=>L'.notTup q o e t)
  obtain v₄:aC s₄.heap θ' accV acc.toList:=v₃.keep (List.prefix_refl _) (R₃.tup a₄ fun a o e t q=>by
   have:a=EC.locals:=q
   subst this;exact F₃.notTup (.inl rfl) e t)
  have v₅:aC s₅.heap θ₅ accV acc.toList:=v₄.aft R₄ a₅
  cases b with
  |false=>
   rw[if_neg Bool.false_ne_true]
   refine ah fun aa=>?_
   obtain⟨e08,e18⟩:=eV me
   clear Jo cg
   subst e08
   subst e18
   refine aa ?_
   refine⟨rest.length,Nat.lt_succ_self _,rest,θ₅,_,accV,acc,l2,rfl,st₅,R₅,F₅.less Je,x₅,⟨nn,p₅⟩,v₅,Jt,?_,oD₅⟩
   refine(jM)▸?_
   exact(cQ)▸rfl
  |true=>
   rw[if_pos rfl]
   refine ah fun aa=>?_
   refine aS me fun u σ₇ Q7 me=>?_
   refine dj me fun e09 e19=>?_
   clear me
   subst e09
   subst e19
   refine aa ?_
   refine Ck csc F₅ R₅ ok Q7 fun y θ₆ s₆ a₆ R₆ hy=>?_
   obtain F₆:=F₅.go R₅ a₆
   obtain st₆:=T.keep st₅ R₅ a₆ fun _ q=>q.elim
   have p₆:=a₆.keep _ _ p₅ oD₅ fun q=>q
   have oD₆:¬own θ₆ D:=fun q=>oD₅ (a₆.own_old p₅ q)
   have v₆:aC s₆.heap θ₆ accV acc.toList:=v₅.aft R₅ a₆
   obtain Cz:acc.size≤1000000:=by
    obtain e1:=v₆.length
    obtain e3:acc.toList.length=acc.size:=Array.length_toList
    have e2:accV.length≤l.length:=by rw[←jM,List.length_append];exact Nat.le_add_right _ _
    lia
   refine wpAny_list_append_plain (hsz:=mr Cz) ⟨nn,p₆⟩ fun h₇ hp₇ hs₇=>?_
   have ntD:∀o,s₆.heap.get? D=some o→¬bP o:=fun o e=>by
    rw[p₆]at e
    refine aR e ?_
    clear e
    rintro rfl
    exact gE rfl (by decide)
   obtain R₇:aq W θ₆ _ h₇:=R₆.other hs₇ oD₆ bD ntD
   have a₇:aB (fun a=>a=D) θ₆ s₆ θ₆ {s₆ with heap:=h₇}:=xo (tk:=s₆.toks) hs₇ (let⟨n,e⟩:=hp₇;⟨_,e⟩)
   obtain F₇:=F₆.aft2 R₆ a₇ fun a ha=>by subst ha;exact⟨nf _ dD qa,ntD⟩
   obtain st₇:=T.keep st₆ R₆ a₇ fun a ha=>by subst ha;exact⟨wD,ntD⟩
   obtain kt:=R₆.tup a₇ fun a o e t q=>by subst q;exact ntD o e t
   refine⟨rest.length,Nat.lt_succ_self _,rest,θ₆,_,accV++[u],acc.push y,l2,rfl,st₇,R₇,F₇.less Je,(x₅.trans (a₆.mono fun _ q=>q.elim)).trans (a₇.mono fun a ha=>by subst ha;exact dD),hp₇,?_,Jt,?_,oD₆⟩
   ·rw[Array.toList_push]
    exact(v₆.keep (List.prefix_refl _) kt).append ⟨hy.keep (List.prefix_refl _) kt,trivial⟩
   ·rw[←jM,←cQ,List.append_assoc];rfl
theorem Pi {tgt iter elt:Expr}{ifs:List Expr}{fs:List E}{x:E}{one:Bool}{pos:Pos}{I:Addr}{wr:List Addr}{gd:Option (Nat×ae)}{S:List AV→Th→Heap→Prop}{cl:List (Str×Addr)}{vs l:List AV}{σ₁ σf:St}{s₂:Shared}{θ₂:Th}{RR:Value→Addr→Result→Shared→Prop}
  (T:jt W A tgt I wr gd S)(hc:jr sc sc' xs)(ht:ft sc' tgt=some (xs,one))(qi:tO sc' true tgt)(Ck:aE W d cf sc' elt x)(CZ:tS W d cf sc' ifs fs)
  (cr:∀x c,cl.lookup x=some c→env.cells.lookup x=some c∧(x,NameKind.free)∈sc'.names)(Ci:∀p∈sc'.names,p.2=.free→∃c,cl.lookup p.1=some c)
  (aj:cF sc env)(F:FR W env ρ θ s.heap)(R:aq W θ σ s.heap)(ok:bp A d)
  (x₂:aB bZ θ s θ₂ s₂)(R₂:aq W θ₂ σ₁ s₂.heap)(st:S vs θ₂ s₂.heap)(hw:∀b∈wr,s.heap.get? b=none)
  (hv:ca gd xs one (AS W cf fs x) ρ vs σ₁=some (l,σf))(hl:l.length<1000000)
  (fin:∀D C θ' s' m,aB bZ θ s θ' s'→aq W θ' (σf++[.list l]) s'.heap→VR s'.heap θ' (.ref σf.length) (.ref D)→s'.heap.Ns C m→¬own θ' C→s.heap.get? C=none→W.hB.get? C=none→RR (.ref D) C (.ok .next) s'):
  wpAny (model W.prog W.w) A (newList []) (fun acc s₃=>wpAny (model W.prog W.w) A (newFunctionEnv sc' env.globals cl [] env.qual none .none (some env)) (fun cenv s₄=>
   codeAny (model W.prog W.w) A (.compStart (.ListComp elt [⟨tgt,iter,ifs,0⟩] sc' pos) 0 (.ref I) acc {cenv with scope:=relabel sc' env}) (RR acc cenv.locals) s₄) Ex s₃) Ex s₂:=by
 refine wpAny_newObj_type (wpAny_newFunctionEnv hc.cell (by intro y hy;simp at hy) (fun h₁ hns₁ hsb₁=>?_) hc.kind)
 dsimp only at hns₁ hsb₁ ⊢
 generalize hH2:s₂.heap.push {cls:=.type "list",dict:=none,data:=.seq ([]:List Value).toArray}=H2 at hns₁ hsb₁ ⊢
 have B7:H2.objs.size=s₂.heap.objs.size+1:=by rw[←hH2,Heap.size_push]
 obtain qa:s₂.heap.objs.size≠H2.objs.size:=by rw[B7];exact Nat.ne_of_lt (Nat.lt_succ_self _)
 have old:∀b o,s₂.heap.get? b=some o→h₁.get? b=some o:=fun b o e=>hsb₁.extBut b o (by rw[B7];exact Nat.ne_of_lt (Nat.lt_succ_of_lt (Heap.lt_size e))) (Heap.get?_push_of_some _ (hH2▸Heap.get?_push_of_some _ e))
 obtain qb:h₁.PlainList s₂.heap.objs.size #[]:=⟨_,hsb₁.extBut _ _ qa (Heap.get?_push_of_some _ (hH2▸Heap.get?_push_size _ rfl))⟩
 obtain dD₂:s₂.heap.get? s₂.heap.objs.size=none:=fK _
 have dC₂:s₂.heap.get? H2.objs.size=none:=Heap.get?_none_of_le (by rw[B7];exact Nat.le_succ _)
 have dD:s.heap.get? s₂.heap.objs.size=none:=jC x₂.live dD₂
 have dC:s.heap.get? H2.objs.size=none:=jC x₂.live dC₂
 obtain bD:=pT R₂ dD₂
 obtain bC:=pT R₂ dC₂
 obtain oD:¬own θ₂ s₂.heap.objs.size:=qt R₂ dD₂
 obtain oC:¬own θ₂ H2.objs.size:=qt R₂ dC₂
 have wD:s₂.heap.objs.size∉wr:=fun q=>by obtain⟨_,_,o,e,_⟩:=T.loose st _ q;rw[dD₂]at e;exact aK e
 have wC:H2.objs.size∉wr:=fun q=>by obtain⟨_,_,o,e,_⟩:=T.loose st _ q;rw[dC₂]at e;exact aK e
 obtain R₁:aq W θ₂ σ₁ h₁:=R₂.step old
 obtain a₁:aB bZ θ₂ s₂ θ₂ {s₂ with heap:=h₁,toks:=s₂.toks+([]:List (Str×Value)).length}:=aB.ext old
 obtain F₁:FR W env ρ θ₂ h₁:=(F.go R x₂).go R₂ a₁
 obtain cne:∀x c,env.cells.lookup x=some c→c≠H2.objs.size:=fun x c e q=>by
  obtain⟨o,e'⟩:=F.live (.inr ⟨x,e⟩)
  rw[q,dC]at e';exact aK e'
 obtain Fc:FR W (compEnvC sc' cl H2.objs.size env) (jn xs ρ) θ₂ h₁:=Ql aj hc F₁ cr Ci (by simpa using hns₁) oC bC cne
 obtain st₁:S vs θ₂ h₁:=T.keep (s':={s₂ with heap:=h₁,toks:=s₂.toks+([]:List (Str×Value)).length}) st R₂ a₁ fun _ q=>q.elim
 obtain nf:∀a,s.heap.get? a=none→a≠H2.objs.size→¬cH (compEnvC sc' cl H2.objs.size env) a:=fun a ha aY q=>by
  rcases q with q | ⟨x,q⟩
  ·exact aY q
  ·obtain⟨o,e'⟩:=F.live (.inr ⟨x,(cr x a q).1⟩)
   rw[ha]at e';exact aK e'
 obtain csc:=Iy (env:=env) hc (cl:=cl) (C:=H2.objs.size)
 obtain fin':=Pk (s₃:={s₂ with heap:=h₁,toks:=s₂.toks+([]:List (Str×Value)).length}) (iter:=iter) (pos:=pos) T ht qi Ck CZ ok csc hw hl nf qa dD dC bD bC wD wC st₁ R₁ Fc ((x₂.trans a₁).mono fun _ q=>q.elim) qb oD hv fin
 exact codeAny_compStart_list fin' (T.self (s:={s₂ with heap:=h₁,toks:=s₂.toks+([]:List (Str×Value)).length}) st₁ R₁ fin')
end
section
variable {W:Wd}{env:Env}{ρ ρ':ag}{θ θ':Th}{σ σ':St}{s s':Shared}{A:Around}{Ex:Value→Shared→Prop}{d:Nat}{cf:Cf}{sc sc':Scope}{xs:List Nat}
theorem yR {h:Heap}{a:Addr}{m:Str→Option Value}(x:h.Ns a m):∀o,h.get? a=some o→¬bP o:=fun o e q=>by
 refine jp x fun o' es ep ho hd _=>?_
 rw[e]at ho
 refine aR ho ?_
 clear ho
 rintro rfl
 obtain⟨_,it,n,eE⟩:=q
 rw[hd]at eE
 cases eE
structure tN (W:Wd)(d:Nat)(cf:Cf)(sc sc':Scope)(tgt iter elt:Expr)(ifs:List Expr)(xs:List Nat)(one:Bool)(k:dB)(src fs:List E)(x:E):Prop where
 es:∃ses,xn sc iter k ses∧dP W d cf sc ses src∧(∀e,ses=[e]→∃x,src=[x]∧aE W d cf sc e x)
 tg:AO k tgt
 comp:jr sc sc' xs
 star:ft sc' tgt=some (xs,one)
 loc:tO sc' true tgt
 elt:aE W d cf sc' elt x
 tests:tS W d cf sc' ifs fs
 fold:∀env x,foldedSetIterable iter env x=pure x
theorem Ix (wo:bW W){tgt iter elt:Expr}{ifs:List Expr}{one:Bool}{k:dB}{src fs:List E}{x:E}(L:tN W d cf sc sc' tgt iter elt ifs xs one k src fs x){pos pos':Pos}{use:Option (Value→Sem Unit)}{Q:Value→Shared→Prop}
  (aj:cF sc env)(F:FR W env ρ θ s.heap)(R:aq W θ σ s.heap)(ok:bp A d){us vs l:List AV}{gd:Option (Nat×ae)}{σ₁ σf:St}(hv:cP W.T.tb cf src ρ σ=some (us,σ₁))(hs:dz k us σ₁=some (vs,gd))
  (cg:ca gd xs one (AS W cf fs x) ρ vs σ₁=some (l,σf))(hl:l.length<1000000)
  (fin:∀D C θ' s' m,aB bZ θ s θ' s'→aq W θ' (σf++[.list l]) s'.heap→VR s'.heap θ' (.ref σf.length) (.ref D)→s'.heap.Ns C m→¬own θ' C→s.heap.get? C=none→W.hB.get? C=none→compPost (model W.prog W.w) A Ex use Q (.ref D) C (.ok .next) s'):
  wpAny (model W.prog W.w) A (comprehension (.ListComp elt [⟨tgt,iter,ifs,0⟩] sc' pos) sc' env pos' (newList []) false (eval iter env) use) Q Ex s:=by
 refine ah fun aa=>?_
 obtain⟨cl,c1,c2,c3⟩:=Iq (scope:=sc') (env:=env) fun p hp e=>by
  rcases L.comp.free p hp e with q |q
  ·exact F.cells _ (.inl (aj.cel _ q))
  ·exact F.cells _ (aj.fre _ q)
 refine cW L.es fun ses o1 o2 o3=>?_
 refine aa ?_
 refine wpAny_comprehension_free rfl (L.fold env) c1 L.comp.kind (fun p hp e=>(L.comp.loc p hp e).1) ?_
 refine MO wo o1 L.tg o2 o3 aj F R ok hv hs fun I wr S θ₂ s₂ T st x₂ R₂ hw=>?_
 exact Pi T L.comp L.star L.loc L.elt L.tests c2 c3 aj F R ok x₂ R₂ st hw cg hl fin
theorem aB.one {X:Addr→Prop}{θ₀:Th}{s₀:Shared}{C:Addr}{h':Heap}{tk:Nat}(x:aB X θ₀ s₀ θ s)(hw:s₀.heap.get? C=none)(hs:Heap.SameBut C s.heap h'):aB X θ₀ s₀ θ {s with heap:=h',toks:=tk}:=
 x.fin (wr:=[C]) (fun b hb=>by rw[List.mem_singleton.mp hb];exact hw) fun b o hb e=>(hs.2 b fun q=>hb (by rw[q];simp)).trans e
theorem MG (wo:bW W){tgt iter elt:Expr}{ifs:List Expr}{one:Bool}{k:dB}{src fs:List E}{x:E}(L:tN W d cf sc sc' tgt iter elt ifs xs one k src fs x)(pos:Pos):
  aE W d cf sc (.ListComp elt [⟨tgt,iter,ifs,0⟩] sc' pos) (.lcomp xs one k src fs x):=by
 intro env ρ θ σ s A av σ' Q Ex aj F R ok hv hQ
 refine ah fun aa=>?_
 refine aS hv fun us σ₁ h1 hv=>?_
 refine az hv fun p hs hv=>?_
 refine aS hv fun l σf cg hv=>?_
 obtain⟨hl,hv⟩:=b7 hv
 have hl:=cL hl
 obtain⟨rfl,rfl⟩:=lR hv
 refine aa ?_
 rw[eval_ListComp]
 refine Ix wo L aj F R ok h1 hs cg hl fun D C θ' s' m x' R' hD hn oC dC bC=>⟨m,hn,fun h' cB=>?_⟩
 obtain R'':=R'.other cB oC bC (yR hn)
 exact hQ _ θ' _ (x'.one (tk:=s'.toks) dC cB) R'' (hD.keep (List.prefix_refl _) (im cB (yR hn)))
end
section
variable {prog:Program}{w:World}{A:Around}{Ex:Value→Shared→Prop}{s:Shared}
theorem VI {l:Addr}{items:Array Value}{n:Nat}{k:Int}{t:Tok}{v:Value}{j:Nat}{Q:Unit→Shared→Prop}(ho:s.heap.get? l=some {cls:=.type "list",data:=.seq items n})
  (ye: -(2 ^ 63)≤k)(Cm:k<2 ^ 63)(hn:seqIndex? k items.size=some j)(hj:j<items.size)(hk:(0≤k∧j=k.toNat)∨k<0)
  (hQ:Q () {s with heap:=s.heap.update l (Obj.mapSeq fun xs=>xs.setIfInBounds j v)}):
  wpAny (model prog w) A (setItem (.ref l) (.int k t) v) Q Ex s:=by
 obtain hT:s.TypeIs (.ref l) "list":=⟨_,ho,rfl⟩
 unfold setItem
 try with_reducible refine wpAny_holding ?_
 first |refine wpAny_bind (wpAny_pure ?_) |skip
 refine wpAny_bind (wpAny_sequenceKey hT (by decide) ?_)
 refine wpAny_bind (wpAny_callSpecial?_slot (name:=Str.ofString "__setitem__") hT PySem.slot_list_setitem
  (wpAny_call_entry PySem.slot_list_setitem hT PySem.entry_list_setitem ?_ (PySem.args_list_setitem _ _ _)))
 show wpAny _ _ (Builtin.List.listSubscript? (.int k t) >>= _) _ _ s
 obtain fD:items[j]?=some items[j]:=Array.getElem?_eq_getElem hj
 obtain tail:∀{Q':PySem.Fin→Shared→Prop} {E':Value→Shared→Prop},Q' (.done (.ret .none)) {s with heap:=s.heap.update l (Obj.mapSeq fun xs=>xs.setIfInBounds j v)}→
   wpAny (model prog w) A.in1 (do setSeqItemAt l j v;ret .none) Q' E' s:=fun h=>wpAny_bind (wpAny_setSeqItemAt ho rfl (wpAny_pure h))
 rcases hk with⟨h0,rfl⟩ |h0
 ·refine wpAny_bind (wpAny_listSubscript_int (fitsIndex_of h0 Cm) ?_)
  clear Cm ye
  obtain⟨j,e18⟩:=Int.eq_ofNat_of_zero_le h0
  clear tail
  subst e18
  have Sa:items[j]?=some (items[j]'hj):=fD
  show wpAny _ _ ((seqItemAt l j >>= fun r=>pure (r.map (j,·))) >>= _) _ _ s
  refine wpAny_bind (wpAny_bind (wpAny_seqItemAt ho rfl (wpAny_pure ?_)))
  refine(Sa).symm▸?_
  show wpAny _ _ (setSeqItemAt l j v >>= _) _ _ s
  refine wpAny_bind (wpAny_setSeqItemAt ho rfl ?_)
  first
   |exact wpAny_bind (wpAny_pure (wpAny_pure ⟨.none,rfl,wpAny_pure hQ⟩))
   |exact wpAny_pure ⟨.none,rfl,wpAny_pure hQ⟩
 ·refine wpAny_bind (wpAny_listSubscript_int (fitsIndex_neg h0 ye) ?_)
  clear Cm ye
  obtain⟨i,rfl⟩:∃i:Nat,k=Int.negSucc i:=by
   cases k with
   |ofNat n=>exact absurd h0 (Int.not_lt.mpr (Int.natCast_nonneg n))
   |negSucc n=>exact⟨n,rfl⟩
  show wpAny _ _ ((Builtin.List.listItems (.ref l) >>= fun xs=>pure ((seqIndex? (Int.negSucc i) xs.size).bind fun i=>xs[i]?.map (i,·))) >>= _) _ _ s
  refine wpAny_bind (wpAny_bind ?_)
  show wpAny _ _ (seqItems? (.ref l) >>= _) _ _ s
  refine wpAny_bind (wpAny_seqItems ho rfl (wpAny_pure (wpAny_pure ?_)))
  refine(hn).symm▸?_
  simp only[Option.bind_some,fD,Option.map_some]
  show wpAny _ _ (setSeqItemAt l j v >>= _) _ _ s
  refine wpAny_bind (wpAny_setSeqItemAt ho rfl ?_)
  first
   |exact wpAny_bind (wpAny_pure (wpAny_pure ⟨.none,rfl,wpAny_pure hQ⟩))
   |exact wpAny_pure ⟨.none,rfl,wpAny_pure hQ⟩
end
section
variable {W:Wd}{env:Env}{ρ ρ':ag}{θ θ':Th}{σ σ':St}{s s':Shared}{A:Around}{Ex:Value→Shared→Prop}{d:Nat}{cf:Cf}{sc sc':Scope}{xs:List Nat}
theorem cK.put {h:Heap}{a:Nat}{x:Str}(hx:bf[a]?=some x){u:AV}{v:Value}(hv:VR h θ u v){CX:Int}{t:Tok}:∀{es:List DictEntry} {fs:List (Nat×AV)},cK h θ es fs→cK h θ (putL x CX (.str x t) v es) (eW fs a u)
 | [],[],_=>⟨⟨x,t,hx,rfl⟩,hv,trivial⟩
 | [],_::_,e=>e.elim
 |_::_,[],e=>e.elim
 |e::es,p::fs,⟨⟨y,t',hy,hk⟩,b,c⟩=>by
  obtain hs:e.key.isStr x=decide (p.1=a):=by
   rw[hk]
   show(y==x)=_
   rw[FS hy hx]
   rfl
  unfold putL
  rw[FG]
  rw[hs]
  by_cases q:p.1=a
  ·rw[if_pos q,if_pos (by simpa using q)]
   exact⟨⟨y,t',by rw[←q];exact hy,hk⟩,hv,c⟩
  ·rw[if_neg q,if_neg (by simpa using q)]
   exact⟨⟨y,t',hy,hk⟩,b,cK.put hx hv c⟩
theorem cK.len {h:Heap}:∀{es:List DictEntry} {fs:List (Nat×AV)},cK h θ es fs→es.length=fs.length
 | [],[],_=>rfl
 | [],_::_,e=>e.elim
 |_::_,[],e=>e.elim
 |_::_,_::_,⟨_,_,c⟩=>by simp[cK.len c]
theorem VH {fs:List (Nat×AV)}{a:Nat}{u:AV}{p:Nat×AV}(h:p∈eW fs a u):p.1=a∨p∈fs:=by
 induction fs with
 |nil=>simp[eW]at h;exact .inl (by rw[h])
 |cons q l ih=>
  rw[FG]at h
  split at h
  ·rcases List.mem_cons.mp h with rfl |h
   ·exact .inl rfl
   ·exact .inr (List.mem_cons_of_mem _ h)
  ·rcases List.mem_cons.mp h with rfl |h
   ·exact .inr (List.mem_cons_self ..)
   ·rcases ih h with q |q
    ·exact .inl q
    ·exact .inr (List.mem_cons_of_mem _ q)
theorem FY {r:Nat}{l:Addr×Addr}{a:Addr}{h':Heap}{n:Nat}(hl:θ[r]?=some l)(ha:a=l.1∨a=l.2)(hs:Heap.SameBut a s.heap h')(lv:∃o,h'.get? a=some o):aB bZ θ s θ {s with heap:=h',toks:=n}:=
 have ho:own θ a:=⟨l,List.mem_of_getElem? hl,ha⟩
 ⟨List.prefix_refl _,fun _ h=>.inl h,fun b o e hb _=>(hs.2 b fun q=>hb (q▸ho)).trans e,fun b o e=>by
  by_cases q:b=a
  ·rw[q];exact lv
  ·exact⟨o,(hs.2 b q).trans e⟩,rfl,rfl⟩
theorem VS {Q:Unit→Shared→Prop}(wo:bW W)(R:aq W θ σ s.heap){r c:Nat}{fs:List (Nat×AV)}(e:σ[r]?=some (.inst c fs)){v:Value}(hv:VR s.heap θ (.ref r) v){a:Nat}{x:Str}(hx:bf[a]?=some x)(hf:W.T.tb.fld c a=true)(aX:fs.length<900)
  {u:AV}{uv:Value}(hu:VR s.heap θ u uv)(h:∀h' n,aq W θ (σ.set r (.inst c (eW fs a u))) h'→aB bZ θ s θ {s with heap:=h',toks:=n}→Q () {s with heap:=h',toks:=n}):wpAny (model W.prog W.w) A (setAttr v x uv) Q Ex s:=by
 refine ah fun aa=>?_
 obtain⟨p,dx,C,es,n,e58,hl,aY,hC,h1,h2,hF,hz,ch,I⟩:=Au R e hv
 clear hv
 subst e58
 refine cJ (wo.cls c C hC) fun k1 k2 k3=>?_
 obtain⟨k4,k5⟩:=wo.set c C hC
 obtain k6:=wo.taker c C a x hC hf hx
 have X:=mo wo R
 refine aa ?_
 refine set_plain X I k4 (osa_open X I k5 k6 fun b=>?_)
 refine am (any_some k3) fun cd hc eE=>?_
 obtain fr:(dictOf (putL x (PyData.keyHash W.w.params x) (.str x (s.toks+1)) uv es) (putN x es n)).isFreed=false:=rfl
 obtain CQ:=putName_dict x (PyData.keyHash W.w.params x) (.str x (s.toks+1)) uv es n
 obtain cB:Heap.SameBut dx s.heap (s.heap.update dx (Obj.putName x (PyData.keyHash W.w.params x) (.str x (s.toks+1)) uv)):=Heap.SameBut.update ..
 have D':(s.heap.update dx (Obj.putName x (PyData.keyHash W.w.params x) (.str x (s.toks+1)) uv)).get? dx=some (dictOf (putL x (PyData.keyHash W.w.params x) (.str x (s.toks+1)) uv es) (putN x es n)):=by
  refine(CQ)▸?_
  exact Heap.get?_update_self _ h2 (by rw[CQ];exact fr)
 obtain eQ:=(hF.find hx).2.2
 obtain Ye:=hF.len
 obtain fe:∀(l:List DictEntry),(putL x (PyData.keyHash W.w.params x) (.str x (s.toks+1)) uv l).length≤l.length+1:=fun l=>by
  induction l with
  |nil=>simp[putL]
  |cons q r ih=>
   unfold putL
   split
   ·simp
   ·simp;exact ih
 obtain fin:Q () {s with heap:=s.heap.update dx (Obj.putName x (PyData.keyHash W.w.params x) (.str x (s.toks+1)) uv),toks:=s.toks+1+1}:=by
  obtain nt:∀b o,s.heap.get? b=some o→bP o→(s.heap.update dx (Obj.putName x (PyData.keyHash W.w.params x) (.str x (s.toks+1)) uv)).get? b=some o:=im cB fun o e=>by
   rw[h2]at e
   refine aR e ?_
   clear e
   rintro rfl
   exact gE rfl (by decide)
  have R':=R.turn e rfl hl (.inr rfl) cB (o':=.inst c (eW fs a u)) ⟨aY,C,hC,(cB.2 _ aY).trans h1,_,_,D',(hF.put hx hu).keep (List.prefix_refl _) nt,?_,fun q hq=>?_⟩
  ·exact h _ _ R' (FY hl (.inr rfl) cB ⟨_,D'⟩)
  ·have:=fe es
   lia
  ·rcases VH hq with q |q
   ·rw[q];exact hf
   ·exact ch _ q
 refine wpAny_bind (wpAny_pure (wpAny_bind (wpAny_bind (wpAny_loadPart h1 (wpAny_bind (looks_clsIn X hc _ _ _ _ (fun _ _ e=>e) ?_))))))
 refine(eE).symm▸?_
 refine wpAny_pure (a:=some dx) (wpAny_bind (wpAny_pure (wpAny_bind ?_)))
 unfold nsSet
 refine wpAny_bind (wpAny_bind (wpAny_askSetting (wpAny_pure (wpAny_bind (wpAny_mkText (wpAny_bind (wpAny_loadPart h2 ?_)))))))
 dsimp only
 obtain c:(!es.toArray.any (·.key.isStr x)&&es.toArray.any (·.refKey))=false:=by
  rw[List.any_toArray,List.any_toArray,eQ,Bool.and_false]
 rw[aRefKeyMayBeTheName_at,c]
 refine wpAny_updatePart h2 ?_
 refine wpAny_bind (wpAny_lookBehind D' (by exact pastItsLine_dict (by rw[List.size_toArray,sizeLine_eq];have:=fe es;lia)) ?_)
 exact wpAny_pure fin
theorem VT {Q:Unit→Shared→Prop}(wo:bW W)(ok:bp A d)(R:aq W θ σ s.heap){o i u:AV}{ov iv uv:Value}(ho:VR s.heap θ o ov)(hi:VR s.heap θ i iv)(hu:VR s.heap θ u uv)(e:ie σ o i u=some σ')
  (h:∀h' n,aq W θ σ' h'→aB bZ θ s θ {s with heap:=h',toks:=n}→Q () {s with heap:=h',toks:=n}):wpAny (model W.prog W.w) A (setItem ov iv uv) Q Ex s:=by
 obtain big:(2:Int)^63=9223372036854775808:=by decide
 refine az e fun r h1 e=>az e fun ob hs e=>eN (o:=bX ob) e (fun vs h2 e=>az e fun k h3 e=>cw e fun j e1 e2=>?_) fun _ e=>az e fun kvs h2 e=>?_
 ·rw[eZ h1]at ho
  rw[gP h2]at hs
  rw[cy h3]at hi
  subst e2
  refine ah fun aa=>?_
  obtain⟨t,rfl⟩:=hi
  refine iu (ti R hs ho) fun a items n e39 hl dT vi hsz hn=>?_
  subst e39
  obtain hq:=Mu e1
  refine tK (yQ e1) fun _ b1 b2 b3=>?_
  refine aa ?_
  refine VI dT (by lia) (by lia) (by rw[hsz];exact hq) (by lia) (b3.imp id And.left) ?_
  obtain cB:Heap.SameBut a s.heap (s.heap.update a (Obj.mapSeq fun xs=>xs.setIfInBounds j uv)):=Heap.SameBut.update ..
  obtain hp:=AB (fun xs=>xs.setIfInBounds j uv) dT
  obtain nt:=im cB fun o e=>by
   rw[dT]at e
   refine aR e ?_
   clear e
   rintro rfl
   exact gE (o:={cls:=.type "list",data:=.seq items n}) rfl (by decide)
  exact h _ s.toks (R.turn hs rfl hl (.inl rfl) cB ⟨rfl,_,hp,by rw[Array.toList_setIfInBounds];exact(vi.set j hu).keep (List.prefix_refl _) nt,by rw[List.length_set];exact hn⟩) (FY hl (.inl rfl) cB (let⟨_,q⟩:=hp;⟨_,q⟩))
 ·rw[eZ h1]at ho
  rw[jy h2]at hs
  refine ah fun aa=>?_
  obtain⟨ko,e⟩:=b7 e
  cases Option.some.inj e
  refine aa ?_
  refine ah fun aa=>?_
  refine cW (lr R hs ho) fun a e19 hl D=>?_
  clear ho
  subst e19
  obtain L:=D.look ok (wo.sys _ (R.fresh _ _ _ hs hl rfl).1) hi (bo ko).1
  refine aa ?_
  refine L.set hu (by have:=cL (bo ko).2;lia) fun h' n D' cB=>?_
  refine ah fun aa=>?_
  refine am D'.cls fun o' q _=>?_
  exact aa (h h' n (R.turn hs rfl hl (.inl rfl) cB ⟨rfl,D'⟩) (FY hl (.inl rfl) cB ⟨_,q⟩))
end
noncomputable def Nd (h:Heap)(θ:Th):Fl→Flow→Prop
 |.next,f=>f=.next
 |.cont,f=>f=.cont
 |.ret v,f=>∃x,f=.ret x∧VR h θ v x
noncomputable def tR (W:Wd)(env:Env)(θ:Th)(s:Shared)(f:Fl)(ρ':ag)(σ':St)(Q:Flow→Shared→Prop):Prop:=
 ∀fl θ' s',aB (cH env) θ s θ' s'→aq W θ' σ' s'.heap→FR W env ρ' θ' s'.heap→Nd s'.heap θ' f fl→Q fl s'
section
variable {W:Wd}{env:Env}{ρ ρ':ag}{θ θ':Th}{σ σ':St}{s s':Shared}{A:Around}{d:Nat}{cf:Cf}{sc sc':Scope}{xs:List Nat}
noncomputable def em (W:Wd)(d:Nat)(cf:Cf)(sc:Scope)(st:Stmt)(x:S):Prop:=
 ∀{env:Env} {ρ ρ':ag} {θ:Th} {σ σ':St} {s:Shared} {A:Around} {f:Fl} {Q:Flow→Shared→Prop} {Ex:Value→Shared→Prop},cF sc env→FR W env ρ θ s.heap→aq W θ σ s.heap→bp A d→ex W.T.tb cf x ρ σ=some (f,ρ',σ')→
  tR W env θ s f ρ' σ' Q→wpAny (model W.prog W.w) A (exec st env) Q Ex s
noncomputable def gg (W:Wd)(d:Nat)(cf:Cf)(sc:Scope)(b:List Stmt)(xs:List S):Prop:=
 ∀{env:Env} {ρ ρ':ag} {θ:Th} {σ σ':St} {s:Shared} {A:Around} {f:Fl} {Q:Flow→Shared→Prop} {Ex:Value→Shared→Prop},cF sc env→FR W env ρ θ s.heap→aq W θ σ s.heap→bp A d→bJ W.T.tb cf xs ρ σ=some (f,ρ',σ')→
  tR W env θ s f ρ' σ' Q→wpAny (model W.prog W.w) A (execs b env) Q Ex s
theorem tR.from {f:Fl}{Q:Flow→Shared→Prop}(h:tR W env θ s f ρ' σ' Q)(x:aB (cH env) θ s θ' s'):tR W env θ' s' f ρ' σ' Q:=fun fl θ'' s'' y=>h fl θ'' s'' (x.trans y)
theorem aB.none {X:Addr→Prop}(x:aB bZ θ s θ' s'):aB X θ s θ' s':=x.mono fun _ q=>q.elim
theorem VF {o:Option (Fl×ag×St)}{k:ag→St→Option (Fl×ag×St)}{f:Fl}{ρ':ag}{σ':St}{g:Prop}(h:FF o k=some (f,ρ',σ'))(k1:∀ρ σ,o=some (.next,ρ,σ)→k ρ σ=some (f,ρ',σ')→g)(k2:f≠.next→o=some (f,ρ',σ')→g):g:=by
 cases o with
 |none=>exact aK h
 |some p=>
  obtain⟨fl,r,s⟩:=p
  cases fl with
  |next=>exact k1 r s rfl h
  |cont=>exact k2 (fun e=>by cases h;cases e) h
  |ret v=>exact k2 (fun e=>by cases h;cases e) h
theorem Kt {o:Option (Fl×ag×St)}{k:ag→St→Option (Fl×ag×St)}{f:Fl}{ρ':ag}{σ':St}{G:Prop}(h:jT o k=some (f,ρ',σ'))(k1:∀g ρ σ,(∀r,g≠.ret r)→o=some (g,ρ,σ)→k ρ σ=some (f,ρ',σ')→G)(k2:∀r,f=.ret r→o=some (.ret r,ρ',σ')→G):G:=by
 cases o with
 |none=>exact aK h
 |some p=>
  obtain⟨fl,r,s⟩:=p
  cases fl with
  |next=>exact k1 .next r s (fun r e=>by cases e) rfl h
  |cont=>exact k1 .cont r s (fun r e=>by cases e) rfl h
  |ret v=>cases h;exact k2 v rfl rfl
theorem jf {α β γ:Type}{a b:α}{c d:β}{e f:γ}(h:some (a,c,e)=some (b,d,f)):b=a∧d=c∧f=e:=by cases h;exact⟨rfl,rfl,rfl⟩
theorem MB:gg W d cf sc [] []:=by
 intro env ρ ρ' θ σ σ' s A f Q Ex aj F R ok hv hQ
 refine cJ (jf hv) fun e09 e19 e29=>?_
 clear hv
 subst e09
 subst e19
 subst e29
 exact wpAny_execs_nil (hQ _ _ _ .id R F rfl)
theorem MA {st:Stmt}{b:List Stmt}{x:S}{xs:List S}(h1:em W d cf sc st x)(h2:gg W d cf sc b xs):gg W d cf sc (st::b) (x::xs):=by
 intro env ρ ρ' θ σ σ' s A f Q Ex aj F R ok hv hQ
 refine VF hv (fun ρ₁ σ₁ e hv=>?_) fun hn e=>?_
 ·refine wpAny_execs_cons (h1 aj F R ok e fun fl θ₁ s₁ x₁ R₁ F₁ hf=>?_)
  subst hf
  exact h2 aj F₁ R₁ ok hv (hQ.from x₁)
 ·refine wpAny_execs_cons (h1 aj F R ok e fun fl θ₁ s₁ x₁ R₁ F₁ hf=>?_)
  have:=hQ fl θ₁ s₁ x₁ R₁ F₁ hf
  cases f with
  |next=>exact(hn rfl).elim
  |cont=>cases hf;exact this
  |ret v=>obtain⟨y,rfl,_⟩:=hf;exact this
theorem WD {e:Expr}{x:E}(h:aE W d cf sc e x) (pos):em W d cf sc (.Return (some e) pos) (.ret x):=by
 intro env ρ ρ' θ σ σ' s A f Q Ex aj F R ok hv hQ
 refine ah fun aa=>?_
 refine aS hv fun u σ₁ h1 hv=>?_
 refine tv hv fun e09 e19 e29=>?_
 clear hv
 subst e09
 subst e19
 subst e29
 exact aa (wpAny_Return_some (h aj F R ok h1 fun v θ₁ s₁ x₁ R₁ hv=>hQ _ _ _ x₁.none R₁ (F.go R x₁) ⟨v,rfl,hv⟩))
theorem WF (pos):em W d cf sc (.Return none pos) (.ret .cn):=by
 intro env ρ ρ' θ σ σ' s A f Q Ex aj F R ok hv hQ
 refine cJ (jf hv) fun e09 e19 e29=>?_
 clear hv
 subst e09
 subst e19
 subst e29
 exact wpAny_Return_none (hQ _ _ _ .id R F ⟨_,rfl,rfl⟩)
theorem WA (pos):em W d cf sc (.Pass pos) .pass:=by
 intro env ρ ρ' θ σ σ' s A f Q Ex aj F R ok hv hQ
 refine cJ (jf hv) fun e09 e19 e29=>?_
 clear hv
 subst e09
 subst e19
 subst e29
 exact wpAny_Pass (hQ _ _ _ .id R F rfl)
theorem Wj (pos):em W d cf sc (.Continue pos) .cont:=by
 intro env ρ ρ' θ σ σ' s A f Q Ex aj F R ok hv hQ
 refine cJ (jf hv) fun e09 e19 e29=>?_
 clear hv
 subst e09
 subst e19
 subst e29
 exact wpAny_Continue (hQ _ _ _ .id R F rfl)
theorem Ub {h:Heap}(F:FR W env ρ θ h):interactive env=false:=by
 unfold interactive
 rw[F.kind];rfl
theorem Wn {e:Expr}{x:E}(h:aE W d cf sc e x)(hs:∀env n,swapsWith e none n env=pure false) (pos):em W d cf sc (.Expr e pos) (.expr x):=by
 intro env ρ ρ' θ σ σ' s A f Q Ex aj F R ok hv hQ
 refine ah fun aa=>?_
 refine aS hv fun u σ₁ h1 hv=>?_
 refine tv hv fun e09 e19 e29=>?_
 clear hv
 subst e09
 subst e19
 subst e29
 exact aa (wpAny_Expr_any (h aj F R ok h1 fun v θ₁ s₁ x₁ R₁ hv=>hQ _ _ _ x₁.none R₁ (F.go R x₁) rfl) (Ub F) (hs _ _))
theorem Wr {c:Expr}{x:E}{a b:List Stmt}{p q:List S}(hc:bK W d cf sc c x)(ha:gg W d cf sc a p)(hb:gg W d cf sc b q) (pos):em W d cf sc (.If c a b pos) (.iff x p q):=by
 intro env ρ ρ' θ σ σ' s A f Q Ex aj F R ok hv hQ
 refine ah fun aa=>?_
 refine aS hv fun u σ₁ h1 hv=>?_
 refine gH hv (fun ht hv=>?_) fun ht hv=>?_
 ·refine aa ?_
  refine wpAny_If (hc aj F R ok h1 ht fun θ₁ s₁ x₁ R₁=>?_)
  rw[if_pos rfl]
  exact ha aj (F.go R x₁) R₁ ok hv (hQ.from x₁.none)
 ·refine aa ?_
  refine wpAny_If (hc aj F R ok h1 ht fun θ₁ s₁ x₁ R₁=>?_)
  rw[if_neg Bool.false_ne_true]
  exact hb aj (F.go R x₁) R₁ ok hv (hQ.from x₁.none)
theorem V9 {e:Expr}{x:E}{y:Str}{i:Nat}(hy:dw sc y=true)(hi:aN y=some i)(h:aE W d cf sc e x)(hs:∀env n p,swapsWith e (some (.Name y p)) n env=pure false) (p pos):em W d cf sc (.Assign [.Name y p] e pos) (.asg (.name i) x):=by
 intro env ρ ρ' θ σ σ' s A f Q Ex aj F R ok hv hQ
 refine ah fun aa=>?_
 refine aS hv fun u σ₁ h1 hv=>?_
 refine tv hv fun e09 e19 e29=>?_
 clear hv
 subst e09
 subst e19
 subst e29
 refine aa ?_
 refine wpAny_Assign_Name (h aj F R ok h1 fun v θ₁ s₁ x₁ R₁ hv=>?_) (hs _ _ _)
 exact tH (F.go R x₁) R₁ (aj.var hy) hi hv fun s₂ F₂ R₂ x₂ _ _=>hQ _ _ _ (x₁.none.trans x₂) R₂ F₂ rfl
theorem FR.via {h h':Heap}(F:FR W env ρ θ h)(kf:∀a o,cH env a→h.get? a=some o→h'.get? a=some o)(kt:∀b o,h.get? b=some o→bP o→h'.get? b=some o):FR W env ρ θ h':=by
 refine⟨F.kind,F.glob,F.blt,?_,?_,F.cells,?_,F.apL,F.apC,F.uni,F.lowL,F.lowC⟩
 ·refine ah fun aa=>am F.ns fun m e19 hv=>ir e19 fun o es ep ho r=>aa ?_
  exact⟨m,⟨o,es,ep,kf _ _ (.inl rfl) ho,r⟩,fun y i av h1 h2 h3=>am (hv y i av h1 h2 h3) fun v a b=>⟨v,a,b.keep (List.prefix_refl _) kt⟩⟩
 ·exact fun y i c av h1 h2 h3 h4=>am (F.cell y i c av h1 h2 h3 h4) fun v e19 b=>am e19 fun o ho hd=>⟨v,⟨o,kf _ _ (.inr ⟨y,h2⟩) ho,hd⟩,b.keep (List.prefix_refl _) kt⟩
 ·exact fun y c hc=>eX (F.isc y c hc) fun ov o ho hd=>⟨ov,o,kf _ _ (.inr ⟨y,hc⟩) ho,hd⟩
theorem FR.but {h h':Heap}{C:Addr}(F:FR W env ρ θ h)(hs:Heap.SameBut C h h')(hC:¬cH env C)(ht:∀o,h.get? C=some o→¬bP o):FR W env ρ θ h':=
 F.via (fun a _ ha e=>(hs.2 a fun q=>hC (q▸ha)).trans e) (im hs ht)
theorem Xd {elt tgt iter:Expr}{ifs:List Expr}{y:Str}{p pos:Pos}{n:Nat}:∃b,swapsWith (.ListComp elt [⟨tgt,iter,ifs,0⟩] sc' pos) (some (.Name y p)) n env=pure b:=⟨_,rfl⟩
theorem V7 (wo:bW W){y:Str}{i:Nat}(hy:dw sc y=true)(hi:aN y=some i){tgt iter elt:Expr}{ifs:List Expr}{one:Bool}{k:dB}{src fs:List E}{x:E}(L:tN W d cf sc sc' tgt iter elt ifs xs one k src fs x) (cp p pos):
  em W d cf sc (.Assign [.Name y p] (.ListComp elt [⟨tgt,iter,ifs,0⟩] sc' cp) pos) (.asg (.name i) (.lcomp xs one k src fs x)):=by
 intro env ρ ρ' θ σ σ' s A f Q Ex aj F R ok hv hQ
 refine ah fun aa=>?_
 obtain⟨b,hb⟩:=Xd (env:=env) (sc':=sc') (elt:=elt) (tgt:=tgt) (iter:=iter) (ifs:=ifs) (y:=y) (p:=p) (pos:=cp) (n:=pos.line)
 cases b with
 |false=>
  refine aS hv fun u σ₁ h1 hv=>?_
  refine cJ (jf hv) fun e09 e19 e29=>?_
  subst e09
  subst e19
  subst e29
  refine aa ?_
  refine wpAny_Assign_Name (MG wo L cp aj F R ok h1 fun v θ₁ s₁ x₁ R₁ hv=>?_) hb
  exact tH (F.go R x₁) R₁ (aj.var hy) hi hv fun s₂ F₂ R₂ x₂ _ _=>hQ _ _ _ (x₁.none.trans x₂) R₂ F₂ rfl
 |true=>
  refine aS hv fun u σ₁ b6 hv=>?_
  refine cJ (jf hv) fun e08 e18 e28=>?_
  clear hv
  clear hv
  subst e08
  subst e18
  subst e28
  refine aS b6 fun us σ₂ h1 b6=>az b6 fun zz hs b6=>aS b6 fun l σf cg b6=>?_
  obtain⟨hl,b6⟩:=b7 b6
  obtain hl:=cL hl
  refine dj b6 fun e09 e19=>?_
  clear b6
  subst e09
  subst e19
  refine aa ?_
  refine(exec_Assign_Name_used _ _ _ _ hb).symm▸?_
  refine wpAny_bind (wpAny_standAt (wpAny_bind ?_))
  show wpAny _ A (do let _ ←comprehension (.ListComp elt [⟨tgt,iter,ifs,0⟩] sc' cp) sc' env _ (newList []) false (eval iter env) (some (assign (.Name y p) env))) _ _ s
  refine wpAny_bind (wpAny_mono (Ix (Q:=fun _ s'=>Q .next s') wo L aj F R ok h1 hs cg hl fun D C θ' s' m x' R' hD hn oC dC bC=>?_) (fun _ s' hq=>wpAny_pure (wpAny_pure hq)) fun _ _ e=>e)
  show wpAny _ A (assign (.Name y p) env (.ref D)) _ _ s'
  obtain F':=F.go R x'
  have nC:¬cH env C:=fun q=>by
   obtain⟨o,e⟩:=F.live q
   rw[dC]at e;exact aK e
  refine wpAny_assign_Name (tH F' R' (aj.var hy) hi hD fun s₂ F₂ R₂ x₂ hD₂ _=>?_)
  have hn₂:s₂.heap.Ns C m:=hn.at' fun o e=>x₂.keep C o e oC nC
  refine⟨m,hn₂,fun h' cB=>?_⟩
  obtain R₃:=R₂.other cB oC bC (yR hn₂)
  obtain F₃:=F₂.but cB nC (yR hn₂)
  exact hQ _ _ _ ((x'.none.trans x₂).one (tk:=s₂.toks) dC cB) R₃ F₃ rfl
end
section
variable {W:Wd}{env:Env}{ρ ρ':ag}{θ θ':Th}{σ σ':St}{s s':Shared}{A:Around}{d:Nat}{cf:Cf}{sc sc':Scope}{xs:List Nat}
theorem J8 {α:Type}{c:Prop}[Decidable c]{x:α}:(if c then some x else none)=none∨(if c then some x else none)=some x:=by
 by_cases h:c
 ·exact .inr (if_pos h)
 ·exact .inl (if_neg h)
theorem Qb {f:Expr→Option Str}{a b:Expr}{x y:Str}(h1:f a=none∨f a=some x)(h2:f b=none∨f b=some y)(h:([a,b].filterMap f).length=2):[a,b].filterMap f=[x,y]:=by
 rw[List.filterMap_cons,List.filterMap_cons]at h ⊢
 rcases h1 with h1 |h1<;>rcases h2 with h2 |h2<;>rw[h1,h2]at h ⊢<;>first |rfl |exact nomatch h
theorem Xb {x y:Str}{p q r:Pos}{kk:Nat}{value:Expr}(h:∀vs k pos,value=.Tuple vs k pos→vs.all (constantsAlone 8)=false):
  swappedStores [.Tuple [.Name x p,.Name y q] kk r] value env=pure none∨swappedStores [.Tuple [.Name x p,.Name y q] kk r] value env=pure (some [x,y]):=by
 unfold swappedStores
 cases value<;>try (left;rfl)
 rename_i vs k pos
 obtain hc:=h vs k pos rfl
 dsimp only
 split
 ·left;rfl
 ·split
  ·left;rfl
  ·generalize hn:List.filterMap _ [PySem.Expr.Name x p,PySem.Expr.Name y q]=names
   split
   ·left;rfl
   ·rename_i aY
    split
    ·left;rfl
    ·rw[if_neg (by rw[hc];simp)]
     right
     obtain hl:names.length=2:=by
      obtain h1:¬(names.length !=[PySem.Expr.Name x p,PySem.Expr.Name y q].length)=true:=fun q=>aY (by rw[q];rfl)
      simpa using h1
     have:names=[x,y]:=hn▸Qb J8 J8 (hn▸hl)
     exact(this).symm▸rfl
theorem Xy {i j:Nat}{a b:AV}(h:i≠j):aF (aF ρ i a) j b=aF (aF ρ j b) i a:=by
 funext k
 rw[cN,cN,cN,cN]
 by_cases h1:k=i
 ·obtain h2:k≠j:=fun e=>h (h1.symm.trans e)
  rw[if_neg h2,if_pos h1,if_pos h1]
 ·rw[if_neg h1,if_neg h1]
theorem Wa {e:Expr}{x:E}{a b:Str}{p q r:Pos}{kk i j:Nat}(ht:ft sc (.Tuple [.Name a p,.Name b q] kk r)=some ([i,j],false))(h:aE W d cf sc e x)(hs:∀env n,swapsWith e (some (.Tuple [.Name a p,.Name b q] kk r)) n env=pure false)
  (hw:∀vs k pos,e=.Tuple vs k pos→vs.all (constantsAlone 8)=false) (pos):em W d cf sc (.Assign [.Tuple [.Name a p,.Name b q] kk r] e pos) (.asg (.names [i,j]) x):=by
 intro env ρ ρ' θ σ σ' s A f Q Ex aj F R ok hv hQ
 refine ah fun aa=>?_
 refine aS hv fun u σ₁ h1 hv=>?_
 refine cw hv fun ρs hO yl=>cw hO fun ρn JC JD=>?_
 clear hO
 subst JD
 refine cJ (jf (congrArg some yl)) fun e09 e19 e29=>?_
 clear yl
 subst e09
 subst e19
 subst e29
 refine az (show(dp u).bind (fun l=>(two l).map fun q=>aF (aF ρ i q.1) j q.2)=some _ from JC) fun l de eH=>cw eH fun pr Cy uo=>?_
 obtain hu:=(fQ de).trans (congrArg AV.tup (fL Cy))
 generalize pr.1=av at hu uo
 generalize pr.2=bv at hu uo
 clear de JC
 subst hu
 clear eH
 subst uo
 ·rcases Xb (env:=env) (x:=a) (y:=b) (p:=p) (q:=q) (r:=r) (kk:=kk) hw with iP |iP
  ·refine aa ?_
   refine Assign_Tuple (h aj F R ok h1 fun v θ₁ s₁ x₁ R₁ hv=>?_) (hs env pos.line) iP
   refine FV (loc:=false) ht (fun e=>by cases e) aj (F.go R x₁) R₁ ok (av:=.tup [av,bv]) rfl hv fun s₂ F₂ R₂ x₂=>?_
   exact hQ _ _ _ (x₁.none.trans (x₂.mono fun _ q=>q.frame)) R₂ F₂ rfl
  ·refine aa ?_
   refine Assign_Tuple_swapped (h aj F R ok h1 fun v θ₁ s₁ x₁ R₁ hv=>?_) (hs env pos.line) iP
   refine ah fun aa=>?_
   rcases xc ht with⟨_,_,_,e,_⟩ | ⟨a',b',i',j',p',q',kk',r',e,hx,hy,hi,hj,e',_⟩
   ·cases e
   ·cases e
    cases e'
    have aY:i≠j:=by
     have RS:(xw (.Tuple [.Name a p,.Name b q] kk r)).bind (fun p=>bO (dw sc p.1&&dw sc p.2) ((aN p.1).bind fun i=>(aN p.2).bind fun j=>bO (i !=j) (some ([i,j],false))))=some ([i,j],false):=ht
     refine ah fun aa=>?_
     refine az RS fun z g1 g=>?_
     refine dY g fun _ g=>?_
     refine az g fun i2 g2 g=>?_
     refine az g fun j2 g3 g=>?_
     refine dY g fun g4 g=>?_
     cases g
     refine aa ?_
     simpa using g4
    obtain⟨T,items,rfl,hT,hv⟩:=hv
    refine bH (aC.two hv) fun u w e hu qm=>?_
    obtain hsz:items.size=2:=by rw[←Array.length_toList,e];rfl
    obtain go:wpAny (model W.prog W.w) A (unpackItems (.ref T) items.size none) (fun its s₂=>wpAny (model W.prog W.w) A (assignInOrder ([a,b].reverse.map fun n=>bindName env n) its.reverse) (fun _=>Q .next) Ex s₂) Ex s₁:=by
     refine unpackItems_tuple ok.h hT fun h' hk=>?_
     have k:∀b o,s₁.heap.get? b=some o→h'.get? b=some o:=fun b o q=>hk b o (Nat.ne_of_lt (Heap.lt_size q)) q
     obtain x₂:aB bZ θ₁ s₁ θ₁ {s₁ with heap:=h'}:=aB.ext (n:=s₁.toks) k
     obtain R₂:=R₁.step k
     refine(e).symm▸?_
     show wpAny _ _ (assignInOrder [bindName env b,bindName env a] [w,u]) _ _ _
     refine assignInOrder_cons (wpAny_bindName (tH ((F.go R x₁).go R₁ x₂) R₂ (aj.var hy) hj (qm.aft R₁ x₂) fun s₃ F₃ R₃ x₃ _ up=>?_))
     refine assignInOrder_cons (wpAny_bindName (tH F₃ R₃ (aj.var hx) hi (up _ _ (hu.aft R₁ x₂)) fun s₄ F₄ R₄ x₄ _ _=>assignInOrder_nil ?_))
     rw[Xy aY]at hQ
     exact hQ _ _ _ (((x₁.none.trans x₂.none).trans x₃).trans x₄) R₄ F₄ rfl
    rw[hsz]at go
    exact aa go
theorem V6 (wo:bW W){e o:Expr}{x y:E}{a:Str}{i:Nat}(hi:aN a=some i)(h:aE W d cf sc e x)(ho:aE W d cf sc o y)(hs:∀env n p,swapsWith e (some (.Attribute o a p)) n env=pure false) (p pos):
  em W d cf sc (.Assign [.Attribute o a p] e pos) (.asg (.attr y i) x):=by
 intro env ρ ρ' θ σ σ' s A f Q Ex aj F R ok hv hQ
 refine ah fun aa=>?_
 refine aS hv fun u σ₁ h1 hv=>?_
 refine cw hv fun e09 hO e'=>?_
 obtain⟨ρ₂,σ₂⟩:=e09
 clear hv
 refine cJ (jf (congrArg some e')) fun e09 e19 e29=>?_
 clear e'
 subst e09
 subst e19
 subst e29
 refine aS hO fun w σ₃ h2 hv=>?_
 clear hO
 refine aa ?_
 refine plainObj_wpAny_Assign_Attribute (h aj F R ok h1 fun v θ₁ s₁ x₁ R₁ b6=>?_) (hs _ _ _)
 refine ho aj (F.go R x₁) R₁ ok h2 fun ov θ₂ s₂ x₂ R₂ yi=>?_
 refine ah fun aa=>?_
 refine az hv fun r g1 hv=>az hv fun ob g2 hv=>az hv fun pp g3 hv=>?_
 obtain⟨hc,hv⟩:=b7 hv
 rw[eZ g1]at yi
 obtain⟨rfl,rfl⟩:=eV hv
 refine aa ?_
 refine VS wo R₂ (g2.trans (congrArg some (xu g3))) yi (gA hi) (bo hc).1 (cL (bo hc).2) (b6.aft R₁ x₂) fun h' n R₃ x₃=>?_
 obtain xx:=(x₁.trans x₂).trans x₃
 exact hQ _ _ _ xx.none R₃ (F.go R xx) rfl
theorem V8 (wo:bW W){e o k:Expr}{x y z:E}(h:aE W d cf sc e x)(ho:aE W d cf sc o y)(hk:aE W d cf sc k z)(hs:∀env n p,swapsWith e (some (.Subscript o k p)) n env=pure false) (p pos):
  em W d cf sc (.Assign [.Subscript o k p] e pos) (.asg (.idx y z) x):=by
 intro env ρ ρ' θ σ σ' s A f Q Ex aj F R ok hv hQ
 refine ah fun aa=>?_
 refine aS hv fun u σ₁ h1 hv=>?_
 refine cw hv fun e09 hO e'=>?_
 obtain⟨ρ₂,σ₂⟩:=e09
 clear hv
 refine cJ (jf (congrArg some e')) fun e09 e19 e29=>?_
 clear e'
 subst e09
 subst e19
 subst e29
 refine aS hO fun w σ₃ h2 hv=>?_
 clear hO
 refine aS hv fun t σ₄ h3 hv=>?_
 refine cw hv fun σ₅ h4 h5=>?_
 cases h5
 refine aa ?_
 refine wpAny_Assign_Subscript (h aj F R ok h1 fun v θ₁ s₁ x₁ R₁ b6=>?_) (hs _ _ _)
 refine ho aj (F.go R x₁) R₁ ok h2 fun ov θ₂ s₂ x₂ R₂ yi=>?_
 refine hk aj ((F.go R x₁).go R₁ x₂) R₂ ok h3 fun iv θ₃ s₃ x₃ R₃ Rj=>?_
 refine VT wo ok R₃ (yi.aft R₂ x₃) Rj ((b6.aft R₁ x₂).aft R₂ x₃) h4 fun h' n R₄ x₄=>?_
 obtain xx:=((x₁.trans x₂).trans x₃).trans x₄
 exact hQ _ _ _ xx.none R₄ (F.go R xx) rfl
inductive WI (W:Wd)(env:Env)(s:Shared)(θ:Th)(go:Nat→ag→St→Option (Fl×ag×St))(r:Fl×ag×St)(k:Nat)(s':Shared):Prop
 |mk (θ':Th)(σ₁:St)(ρ₁:ag)(R:aq W θ' σ₁ s'.heap)(F:FR W env ρ₁ θ' s'.heap)(x:aB (cH env) θ s θ' s')(h:go k ρ₁ σ₁=some r):WI W env s θ go r k s'
theorem WM {c:Expr}{x:E}{b:List Stmt}{q:List S}(hc:bK W d cf sc c x)(hb:gg W d cf sc b q) (pos):em W d cf sc (.While c b [] pos) (.whl x q):=by
 intro env ρ ρ' θ σ σ' s A f Q Ex aj F R ok hv hQ
 refine wpAny_While (codeAny_whileLoop (WI W env s θ (pK (ev W.T.tb cf x) fun ρ σ=>bJ W.T.tb cf q ρ σ) (f,ρ',σ')) ?_ 100 ⟨θ,σ,ρ,R,F,.id,hv⟩)
 intro k s₁ q29
 refine ah fun aa=>?_
 obtain⟨θ₁,σ₁,ρ₁,R₁,F₁,x₁,hv⟩:=q29
 cases k with
 |zero=>exact aK hv
 |succ k=>
  refine aS hv fun u σ₂ h1 hv=>?_
  refine gH hv (fun ht hv=>?_) fun ht hv=>?_
  ·refine aa ?_
   refine hc aj F₁ R₁ ok h1 ht fun θ₂ s₂ x₂ R₂=>?_
   refine(iS rfl ?_:)
   obtain F₂:=F₁.go R₁ x₂
   refine ah fun aa=>?_
   refine Kt hv (fun g ρ₃ σ₃ hn e hv=>?_) fun r er e=>?_
   rotate_left
   ·subst er
    refine aa ?_
    refine hb aj F₂ R₂ ok e fun fl θ₃ s₃ x₃ R₃ F₃ hf=>?_
    have iH:=hf
    refine am hf fun y e19 _=>?_
    subst e19
    exact hQ _ _ _ ((x₁.trans x₂.none).trans x₃) R₃ F₃ iH
   ·refine aa ?_
    refine hb aj F₂ R₂ ok e fun fl θ₃ s₃ x₃ R₃ F₃ hf=>?_
    obtain go:∃m,m<k+1∧WI W env s θ (pK (ev W.T.tb cf x) fun ρ σ=>bJ W.T.tb cf q ρ σ) (f,ρ',σ') m s₃:=
     ⟨k,Nat.lt_succ_self _,θ₃,_,_,R₃,F₃,(x₁.trans x₂.none).trans x₃,hv⟩
    cases g with
    |ret r=>exact(hn r rfl).elim
    |next=>cases hf;exact go
    |cont=>cases hf;exact go
  ·refine aa ?_
   refine hc aj F₁ R₁ ok h1 ht fun θ₂ s₂ x₂ R₂=>?_
   refine(iQ Bool.false_ne_true ?_:)
   refine tv hv ?_
   clear hv
   intro e08 e18 e28
   clear ht h1 aa
   subst e08
   subst e18
   subst e28
   exact wpAny_execs_nil (hQ _ _ _ (x₁.trans x₂.none) R₂ (F₁.go R₁ x₂) rfl)
inductive FI (W:Wd)(env:Env)(s:Shared)(θ:Th)(Si:List AV→Th→Heap→Prop)(go:List AV→ag→St→Option (Fl×ag×St))(r:Fl×ag×St)(n:Nat)(s':Shared):Prop
 |mk (rest:List AV)(θ':Th)(σ₁:St)(ρ₁:ag)(e:n=rest.length)(st:Si rest θ' s'.heap)(R:aq W θ' σ₁ s'.heap)(F:FR W env ρ₁ θ' s'.heap)(x:aB (fun a=>s.heap.get? a=none∨cH env a) θ s θ' s')(h:go rest ρ₁ σ₁=some r):FI W env s θ Si go r n s'
theorem Wo (wo:bW W){tgt iter:Expr}{one:Bool}{k:dB}{ses:List Expr}{src:List E}{b:List Stmt}{q:List S}(ho:xn sc iter k ses)(ht:AO k tgt)(ck:dP W d cf sc ses src)(yh:∀e,ses=[e]→∃x,src=[x]∧aE W d cf sc e x)
  (bj:ft sc tgt=some (xs,one))(Rb:∀env x,foldedSetIterable iter env x=pure x)(hb:gg W d cf sc b q) (pos):em W d cf sc (.For tgt iter b [] pos) (.for xs one k src q):=by
 intro env ρ ρ' θ σ σ' s A f Q Ex aj F R ok hv hQ
 refine ah fun aa=>?_
 refine aS hv fun us σ₁ h1 hv=>?_
 refine az hv fun pp hs hv=>?_
 obtain⟨vs,gd⟩:=pp
 refine aa ?_
 refine wpAny_For (MO wo ho ht ck yh aj F R ok h1 hs fun I wr Si θ₂ s₂ T st x₂ R₂ hw=>?_) (Rb env)
 have nf:∀a,s.heap.get? a=none→¬cH env a:=fun a ha q=>by
  obtain⟨o,e⟩:=F.live q
  rw[ha]at e;exact aK e
 refine codeAny_forLoop_any (FI W env s θ Si (dt gd xs one fun ρ σ=>bJ W.T.tb cf q ρ σ) (f,ρ',σ')) ?_ vs.length
  ⟨vs,θ₂,σ₁,ρ,rfl,st,R₂,F.go R x₂,x₂.none,hv⟩
 intro n s' q29
 refine ah fun aa=>?_
 obtain⟨rest,θ',σ₃,ρ₁,rfl,st',R',F',x',cg⟩:=q29
 obtain L':=T.loose st'
 cases rest with
 |nil=>
  obtain⟨CY,cg⟩:=b7 cg
  cases cg
  refine aa ?_
  refine wpAny_mono (T.done st' R' CY (K:=fun s''=>Q .next s'') fun h' tk hk R''=>?_) (fun r s₁ q=>by obtain⟨rfl,q⟩:=q;exact wpAny_execs_nil q) fun _ _ e=>e
  exact hQ _ θ' _ ((x'.fin hw hk).above fun _ q=>q) R'' (F'.via (fun a o ha e=>hk a o (fun q=>nf a (hw a q) ha) e) fun b o e t=>hk b o (fun q=>L'.notTup q o e t) e) rfl
 |cons v rest=>
  obtain⟨CY,cg⟩:=b7 cg
  refine az cg fun ρ₂ QP cg=>?_
  refine aa ?_
  refine wpAny_mono (T.next st' R' CY (K:=fun xv s''=>wpAny (model W.prog W.w) A (assign tgt env xv) (fun _ s₂'=>wpAny (model W.prog W.w) A (execs b env) (fun f' s₃=>match f' with
      |.next |.cont=>∃m,m<(v::rest).length∧_
      |.brk=>_
      |.ret v=>_) _ s₂') _ s'') fun xv s₃ a₃ R₃ C3 st₃=>?_) (fun r s₁ q=>by obtain⟨y,rfl,q⟩:=q;exact q) fun _ _ e=>e
  obtain F₃:=F'.aft2 R' a₃ fun a ha=>⟨nf a (hw a ha),L'.notTup ha⟩
  refine FV (loc:=false) bj (fun e=>by cases e) aj F₃ R₃ ok QP C3 fun s₄ F₄ R₄ a₄=>?_
  have a₄':aB (cH env) θ' s₃ θ' s₄:=a₄.mono fun _ q=>q.frame
  have st₄:=T.keep st₃ R₃ a₄' fun a ha=>⟨fun q=>nf a (hw a q) ha,fun o e=>F₃.notTup ha e⟩
  have x₄:aB (fun a=>s.heap.get? a=none∨cH env a) θ s θ' s₄:=(x'.trans (a₃.mono fun a ha=>.inl (hw a ha))).trans (a₄'.mono fun a ha=>.inr ha)
  refine ah fun aa=>?_
  refine Kt cg (fun g ρ₅ σ₅ hn e cg=>?_) fun r er e=>?_
  rotate_left
  ·subst er
   refine aa ?_
   refine hb aj F₄ R₄ ok e fun fl θ₅ s₅ x₅ R₅ F₅ hf=>?_
   have iH:=hf
   refine am hf fun y e19 _=>?_
   subst e19
   exact hQ _ _ _ ((x₄.trans (x₅.mono fun a ha=>.inr ha)).above fun _ q=>q) R₅ F₅ iH
  ·refine aa ?_
   refine hb aj F₄ R₄ ok e fun fl θ₅ s₅ x₅ R₅ F₅ hf=>?_
   obtain st₅:=T.keep st₄ R₄ x₅ fun a ha=>⟨fun q=>nf a (hw a q) ha,fun o e=>F₄.notTup ha e⟩
   obtain go:∃m,m<(v::rest).length∧FI W env s θ Si (dt gd xs one fun ρ σ=>bJ W.T.tb cf q ρ σ) (f,ρ',σ') m s₅:=
    ⟨rest.length,Nat.lt_succ_self _,rest,θ₅,_,_,rfl,st₅,R₅,F₅,x₄.trans (x₅.mono fun a ha=>.inr ha),cg⟩
   cases g with
   |ret r=>exact(hn r rfl).elim
   |next=>cases hf;exact go
   |cont=>cases hf;exact go
end
theorem XS {α:Type}{names:List Str}{got:List α}{n:Str}(h:n∉names.take got.length):(names.zip got).lookup n=none:=by
 induction names generalizing got with
 |nil=>rfl
 |cons m names ih=>
  cases got with
  |nil=>rfl
  |cons v got=>
   simp only[List.length_cons,List.take_succ_cons,List.mem_cons,not_or]at h
   rw[List.zip_cons_cons,List.lookup_cons]
   refine(beq_eq_false_iff_ne.mpr h.1).symm▸?_
   exact ih h.2
theorem Na {α:Type}{names:List Str}{got:List α}{n:Str}(h:n∈names.take got.length):((names.zip got).lookup n).isSome=true:=by
 induction names generalizing got with
 |nil=>simp at h
 |cons m names ih=>
  cases got with
  |nil=>simp at h
  |cons v got=>
   simp only[List.length_cons,List.take_succ_cons,List.mem_cons]at h
   rw[List.zip_cons_cons,List.lookup_cons]
   cases q:n==m with
   |true=>rfl
   |false=>
    rcases h with h |h
    ·rw[h]at q;simp at q
    ·exact ih h
theorem XU {α β:Type}{pre:List α}{n:α}{suf:List α}{got:List β}{d:β}(h:got.length=pre.length):(pre++n::suf).zip got++[(n,d)]=(pre++n::suf).zip (got++[d]):=by
 induction pre generalizing got with
 |nil=>
  have:got=[]:=List.length_eq_zero_iff.mp h
  subst this
  simp
 |cons a pre ih=>
  cases got with
  |nil=>simp at h
  |cons b got=>simp only[List.cons_append,List.zip_cons_cons];rw[ih (by simpa using h)]
theorem SN {α:Type}:∀(l:List (Str×α)),(l.map (·.1)).Nodup→(l.map (·.1)).filterMap (fun n=>(l.lookup n).map (n,·))=l:=by
 have key:∀(l m:List (Str×α)),(l.map (·.1)).Nodup→m<:+l→(m.map (·.1)).filterMap (fun n=>(l.lookup n).map (n,·))=m:=by
  intro l m hn
  induction m with
  |nil=>intro _;rfl
  |cons p m ih=>
   intro hs
   obtain hm:p∈l:=hs.subset (List.mem_cons_self ..)
   obtain hl:l.lookup p.1=some p.2:=by
    clear ih hs
    induction l with
    |nil=>simp at hm
    |cons q l ihl=>
     rw[List.map_cons,List.nodup_cons]at hn
     rw[List.lookup_cons]
     rcases List.mem_cons.mp hm with rfl |hm
     ·simp
     ·have:(p.1==q.1)=false:=beq_eq_false_iff_ne.mpr fun e=>hn.1 (e▸List.mem_map_of_mem hm)
      refine(this).symm▸?_
      exact ihl hn.2 hm
   rw[List.map_cons,List.filterMap_cons,hl]
   simp only[Option.map_some]
   exact(ih ((List.suffix_cons p m).trans hs)).symm▸rfl
 intro l hn
 exact key l l hn (List.suffix_refl l)
theorem Bq {names:List Str}(hn:names.Nodup):∀(suf pre:List Str) (got dd:List Value),names=pre++suf→suf.length=dd.length→pre.length≤got.length→got.length≤names.length→
  (forIn (suf.zip dd) (names.zip got) fun(p:Str×Value)(slots:List (Str×Value))=>do
   if(slots.lookup p.1).isNone=true then pure (ForInStep.yield (slots++[(p.1,p.2)]))else pure (ForInStep.yield slots):Sem (List (Str×Value)))=pure (names.zip (got++dd.drop (got.length - pre.length)))
 | [],pre,got,dd,e,hl,hp,hg=>by
  cases dd with
  |nil=>simp
  |cons _ _=>simp at hl
 |n::suf,pre,got,dd,e,hl,hp,hg=>by
  refine ah fun aa=>?_
  cases dd with
  |nil=>simp at hl
  |cons d dd=>
   obtain e':names=(pre++[n])++suf:=by rw[e];simp
   obtain cQ:suf.length=dd.length:=by simpa using hl
   refine aa ?_
   rw[List.zip_cons_cons,List.forIn_cons]
   refine ah fun aa=>?_
   obtain CQ:names.length=pre.length+(suf.length+1):=by rw[e];simp
   by_cases q:pre.length<got.length
   ·have iL:n∈names.take got.length:=by
     rw[e,List.take_append]
     refine List.mem_append_right _ ?_
     obtain⟨k,hk⟩:∃k,got.length - pre.length=k+1:=⟨got.length - pre.length - 1,by lia⟩
     rw[hk];simp
    have hs:=Na iL
    have:((names.zip got).lookup n).isNone=false:=by
     cases r:(names.zip got).lookup n with
     |none=>rw[r]at hs;exact cz hs
     |some _=>rfl
    refine aa ?_
    simp only[this,Bool.false_eq_true,if_false,pure_bind]
    rw[Bq hn suf (pre++[n]) got dd e' cQ (by simp;lia) hg]
    obtain⟨k,hk⟩:∃k,got.length - pre.length=k+1:=⟨got.length - pre.length - 1,by lia⟩
    obtain fX:got.length - (pre++[n]).length=k:=by simp;lia
    refine(hk).symm▸?_
    refine(fX).symm▸?_
    exact(List.drop_succ_cons).symm▸rfl
   ·have hq:got.length=pre.length:=by lia
    have ma:n∉names.take got.length:=by
     rw[e,hq,List.take_left']
     ·intro hm
      rw[e]at hn
      exact(List.nodup_append.mp hn).2.2 n hm n (List.mem_cons_self ..) rfl
     ·rfl
    have hs:=XS ma
    refine aa ?_
    simp only[hs,Option.isNone_none,if_true,pure_bind]
    obtain hz:names.zip got++[(n,d)]=names.zip (got++[d]):=by
     rw[e];exact XU hq
    rw[hz,Bq hn suf (pre++[n]) (got++[d]) dd e' cQ (by simp;lia) (by simp;lia)]
    obtain h1:(got++[d]).length - (pre++[n]).length=0:=by simp;lia
    obtain h2:got.length - pre.length=0:=by lia
    rw[h1,h2];simp
theorem Km {v d n:Nat}(h1:v≤n)(h2:n≤v+d):v+(d - (d+v - n))=n:=by
 obtain⟨k,rfl⟩:=Nat.exists_eq_add_of_le h1
 rw[Nat.add_comm d v,Nat.add_sub_add_left,Nat.sub_sub_self (Nat.le_of_add_le_add_left h2)]
theorem F6 {α:Type}{M:Model}{A:Around}{x y:Sem α}{c:Prop}[Decidable c]{Q:α→Shared→Prop}{E:Value→Shared→Prop}{s:Shared}(h:¬c)(k:wpAny M A y Q E s):wpAny M A (if c then x else y) Q E s:=by
 rw[if_neg h];exact k
theorem XG {α:Type}{M:Model}{A:Around}{x y:Sem α}{Q:α→Shared→Prop}{E:Value→Shared→Prop}{s:Shared}(h:x=y)(k:wpAny M A y Q E s):wpAny M A x Q E s:=h▸k
theorem NL {s:Shared}{name qual:Str}{body:List Stmt}{scope:Scope}{dV kV doc pm cdv ct:Value}{an:Option Addr}{as:List Arg}{kd:List (Option Expr)}{df:List Expr}{vs ds:List Value}(hn:(as.map (·.arg)).Nodup)
  (hd:(dV=.none∧ds=[])∨∃T o items n,dV=.ref T∧s.heap.get? T=some o∧o.data=.seq items n∧items.toList=ds)(h1:vs.length≤as.length)(h2:as.length≤vs.length+ds.length)(h3:ds.length≤as.length):
  BindsTo s (fnOf name qual ⟨[],as,none,[],kd,none,df⟩ body scope dV kV doc pm an cdv ct) ⟨vs,[]⟩ ((as.map (·.arg)).zip (vs++ds.drop (ds.length+vs.length - as.length))):=by
 intro M A E Q hq
 have RP (Q:Option (Array Value)→Shared→Prop) (k:∀r:Option (Array Value),(r.getD #[]).toList=ds→Q r s):wpAny M A (seqItems? dV) Q E s:=by
  rcases hd with⟨rfl,rfl⟩ | ⟨T,o,items,n,rfl,ho,hs,hi⟩
  ·exact wpAny_pure (k none rfl)
  ·exact wpAny_seqItems ho hs (k _ hi)
 refine wpAny_bind (wpAny_pure (wpAny_bind (RP _ fun r hr=>?_)))
 subst hr
 generalize (r.getD #[]).toList=ds at*
 have aX:(as.map (·.arg)).length=as.length:=List.length_map _
 have e0:ds.drop (ds.length - (as.map (·.arg)).length)=ds:=by rw[aX,Nat.sub_eq_zero_of_le h3,List.drop_zero]
 have e2:(((as.map (·.arg)).take ((as.map (·.arg)).length - ds.length)).filter fun n=>(((as.map (·.arg)).zip vs).lookup n).isNone)=[]:=by
  rw[List.filter_eq_nil_iff]
  intro n hm q
  have hs:=Na (got:=vs) ((List.take_subset_take_left _ (aX▸Nat.sub_le_iff_le_add.mpr h2)) hm)
  cases z:((as.map (·.arg)).zip vs).lookup n with
  |none=>rw[z]at hs;exact cz hs
  |some _=>rw[z]at q;exact cz q
 have e3:=Bq hn ((as.map (·.arg)).drop ((as.map (·.arg)).length - ds.length)) ((as.map (·.arg)).take ((as.map (·.arg)).length - ds.length)) vs ds (List.take_append_drop ..).symm (by rw[List.length_drop,aX,Nat.sub_sub_self h3]) (by rw[List.length_take,aX];exact Nat.le_trans (Nat.min_le_left ..) (Nat.sub_le_iff_le_add.mpr h2)) (aX▸h1)
 rw[show vs.length - ((as.map (·.arg)).take ((as.map (·.arg)).length - ds.length)).length=ds.length+vs.length - as.length by rw[List.length_take,aX,Nat.min_eq_left (Nat.sub_le ..),Nat.sub_sub_right _ h3,Nat.add_comm]]at e3
 have e5:=SN ((as.map (·.arg)).zip (vs++ds.drop (ds.length+vs.length - as.length)))
 rw[List.map_fst_zip (by rw[aX,List.length_append,List.length_drop];exact Nat.le_of_eq (Km h1 h2).symm)]at e5
 have e5:=e5 hn
 generalize (as.map (·.arg)).zip (vs++ds.drop (ds.length+vs.length - as.length))=X at*
 have CU:Q ((as.map (fun a:Arg=>a.arg)++[]).filterMap fun n=>(X.lookup n).map (n,·)) s:=by rw[List.append_nil,e5];exact hq
 refine F6 (fun e=>Nat.not_lt.mpr (Nat.le_trans h1 (Nat.le_of_eq aX.symm)) (of_decide_eq_true (bo e).1)) ?_
 refine F6 (fun e=>?_) ?_
 ·replace e:(!(((as.map (·.arg)).take ((as.map (·.arg)).length - (ds.drop (ds.length - (as.map (·.arg)).length)).length)).filter fun n=>(((as.map (·.arg)).zip vs).lookup n).isNone).isEmpty)=true:=e
  rw[e0,e2]at e
  cases e
 refine wpAny_bind (XG (y:=pure X) ?_ (wpAny_pure (wpAny_bind (wpAny_pure (F6 Bool.false_ne_true (wpAny_pure CU))))))
 show forIn (((as.map (·.arg)).drop ((as.map (·.arg)).length - (ds.drop (ds.length - (as.map (·.arg)).length)).length)).zip (ds.drop (ds.length - (as.map (·.arg)).length))) _ _=_
 rw[e0]
 exact e3
inductive fO (W:Wd)(fa:Addr)(fn:Fn):Prop
 |mk (o:Obj)(name qual:Str)(body:List Stmt)(scope:Scope)(dV kV doc pm cdv ct:Value)(an:Option Addr)(as:List Arg)(kd:List (Option Expr))(df:List Expr)(ds:List Value)
  (h1:W.hB.get? fa=some o)(h2:o.data=.func (fnOf name qual ⟨[],as,none,[],kd,none,df⟩ body scope dV kV doc pm an cdv ct))(h3:W.hB.CodeRec cdv qual)(h4:pF scope body=some fn.body)
  (h5:scope.kind=.function)(h6:scope.isCoroutine=false)(h7:scope.isGenerator=false)(h8:∀p∈scope.names,p.2≠.free)(XW:(as.map (·.arg)).Nodup)
  (XX:bw aN (as.map (·.arg))=some fn.params)(XY:∀n∈as.map (·.arg),scope.names.lookup n=some .local∨scope.names.lookup n=some .cell)
  (XZ:(dV=.none∧ds=[])∨∃T o items n,dV=.ref T∧W.hB.get? T=some o∧o.data=.seq items n∧items.toList=ds)(X8:aC W.hB [] fn.dflts ds)(X9:ds.length≤as.length):fO W fa fn
section
variable {W:Wd}{env:Env}{ρ ρ':ag}{θ θ':Th}{σ σ':St}{s s':Shared}{A:Around}{d:Nat}{cf:Cf}
theorem xG {x:Str}:∀{names:List (Str×NameKind)} {n:Nat} {acc:List (Str×Addr)},((x,NameKind.cell)∈names∨(acc.lookup x).isSome=true)→((cellsFrom n names acc).lookup x).isSome=true
 | [],_,_,h=>by
  rcases h with h |h
  ·simp at h
  ·exact h
 | (m,k)::names,n,acc,h=>by
  unfold cellsFrom
  by_cases q:(k==NameKind.cell)=true
  ·rw[if_pos q]
   refine xG ?_
   rcases h with h |h
   ·rcases List.mem_cons.mp h with h |h
    ·cases h
     right;rw[List.lookup_cons];simp
    ·exact .inl h
   ·right
    rw[List.lookup_cons]
    cases r:x==m with
    |true=>rfl
    |false=>exact h
  ·rw[if_neg q]
   refine xG ?_
   rcases h with h |h
   ·rcases List.mem_cons.mp h with h |h
    ·cases h
     exact absurd rfl q
    ·exact .inl h
   ·exact .inr h
theorem HP {k:Str→Option NameKind}{x:Str}:∀{l:List (Str×Value)} {m:Str→Option Value},x∉l.map (·.1)→bindL k l m x=m x
 | [],_,_=>rfl
 | (n,v)::l,m,h=>by
  rw[List.map_cons,List.mem_cons,not_or]at h
  unfold bindL
  rw[HP h.2]
  split
  ·exact if_neg h.1
  ·rfl
theorem HO {k:Str→Option NameKind}{x:Str}:∀{l:List (Str×Value)} {m:Str→Option Value},x∉l.map (·.1)→bindC k l m x=m x
 | [],_,_=>rfl
 | (n,v)::l,m,h=>by
  rw[List.map_cons,List.mem_cons,not_or]at h
  unfold bindC
  rw[HO h.2]
  split
  ·rfl
  ·exact if_neg h.1
theorem ic {α β:Type}{f:α→Option β}{a:α}{l:List α}{r:List β}(h:bw f (a::l)=some r):∃b bs,f a=some b∧bw f l=some bs∧r=b::bs:=by
 unfold bw at h
 refine ah fun aa=>?_
 split at h
 ·rename_i b bs h1 h2
  refine aR h ?_
  clear h
  rintro rfl
  exact aa (⟨b,bs,h1,h2,rfl⟩)
 ·exact aK h
theorem Br {h:Heap}{kd:Str→Option NameKind}:∀{names:List Str} {ps:List Nat} {avs:List AV} {vs:List Value} {m cm:Str→Option Value},bw aN names=some ps→names.Nodup→aC h θ avs vs→avs.length=names.length→
  ∀{x:Str} {i:Nat} {av:AV},aN x=some i→cX ps avs i=some av→∃v,VR h θ av v∧(kd x=some .local→bindL kd (names.zip vs) m x=some v)∧(kd x≠some .local→bindC kd (names.zip vs) cm x=some v)
 | [],ps,avs,vs,m,cm,hm,_,_,_,x,i,av,_,hb=>by
  simp only[bw,Option.some.injEq]at hm
  subst hm
  simp[cX]at hb
 |n::names,ps,avs,vs,m,cm,hm,hn,hv,hl,x,i,av,hx,hb=>by
  refine ah fun aa=>?_
  refine bH (ic hm) fun p ps' h1 h2 e49=>?_
  subst e49
  cases avs with
  |nil=>simp at hl
  |cons a avs=>
   cases vs with
   |nil=>refine aa ?_;exact hv.elim
   |cons v vs=>
    rw[List.nodup_cons]at hn
    simp only[cX,xB]at hb
    have hz:x∉names→x∉(names.zip vs).map (·.1):=fun q r=>q (by
     refine am (List.mem_map.mp r) fun e09 h1 h2=>?_
     obtain⟨a,b⟩:=e09
     simp only at h2
     subst h2
     exact(List.of_mem_zip h1).1)
    split at hb
    ·rename_i q
     subst q
     refine aR hb ?_
     clear hb
     rintro rfl
     obtain e:x=n:=mf hx h1
     subst e
     refine aa ?_
     refine⟨v,hv.1,fun hk=>?_,fun hk=>?_⟩
     ·rw[List.zip_cons_cons]
      unfold bindL
      rw[HP (hz hn.1),if_pos hk,if_pos rfl]
     ·rw[List.zip_cons_cons]
      unfold bindC
      rw[HO (hz hn.1),if_neg hk,if_pos rfl]
    ·rename_i q
     refine cW (Br (kd:=kd) (m:=if kd n=some .local then fun y=>if y=n then some v else m y else m) (cm:=if kd n=some .local then cm else fun y=>if y=n then some v else cm y) h2 hn.2 hv.2 (by simpa using hl) hx hb) fun w h3 h4 h5=>?_
     refine aa ?_
     refine⟨w,h3,fun hk=>?_,fun hk=>?_⟩
     ·rw[List.zip_cons_cons]
      exact h4 hk
     ·rw[List.zip_cons_cons]
      exact h5 hk
theorem Xv {cs:List (Str×Addr)}(h:cs.Pairwise fun x y=>x.2≠y.2){x y:Str}{c:Addr}(hx:cs.lookup x=some c)(hy:cs.lookup y=some c):x=y:=by
 obtain mx:=fh hx
 obtain my:=fh hy
 induction cs with
 |nil=>simp at mx
 |cons p cs ih=>
  rw[List.pairwise_cons]at h
  rcases List.mem_cons.mp mx with e1 |m1<;>rcases List.mem_cons.mp my with e2 |m2
  ·rw[←e1]at e2;cases e2;rfl
  ·exact absurd (by rw[←e1]) (h.1 _ m2)
  ·exact absurd (by rw[←e2]) (h.1 _ m1)
  ·obtain go:∀{z:Str},(z,c)∈cs→(p::cs).lookup z=some c→cs.lookup z=some c:=fun{z} mz hz=>by
    obtain⟨q,r⟩:=p
    rw[List.lookup_cons]at hz
    cases w:z==q with
    |true=>
     rw[w]at hz
     exact absurd (Option.some.inj hz) (h.1 (z,c) mz)
    |false=>rw[w]at hz;exact hz
   exact ih h.2 (go m1 hx) (go m2 hy) m1 m2
theorem Qm (R:aq W θ σ s.heap){names:List Str}{ps:List Nat}{avs:List AV}{vs:List Value}(gx:bw aN names=some ps)(gv:names.Nodup)(bm:aC s.heap θ avs vs)(aX:avs.length=names.length){scope:Scope}(hk:scope.kind=.function)(jL:∀p∈scope.names,p.2≠.free){qual:Str}{func:Option Addr}{code:Value}
  {env:Env}(he:env=newEnv scope s.heap.objs.size mainGlobals (cellsFrom (s.heap.objs.size+1) scope.names []) qual func code none builtinsNs){s₁:Shared}(x:InCallC s env.locals (bindL env.kindOf (names.zip vs) fun _=>none) env.cells (bindC env.kindOf (names.zip vs) fun _=>none) s₁):
  FR W env (cX ps avs) θ s₁.heap∧aq W θ σ s₁.heap∧aB bZ θ s θ s₁∧cF scope env∧(∀a,cH env a→s.heap.get? a=none):=by
 refine ah fun aa=>?_
 refine eX x.done fun h₁ tk e29 Cw=>?_
 subst e29
 obtain R₁:aq W θ σ h₁:=R.step Cw
 have hL:env.locals=s.heap.objs.size:=by rw[he];rfl
 obtain aj:env.scope=scope:=by rw[he];rfl
 have dL:s.heap.get? env.locals=none:=by rw[hL];exact fK _
 have gs:∀y c,env.cells.lookup y=some c→s.heap.objs.size<c:=fun y c e=>by
  have:=x.above y c (fh e)
  rw[hL]at this;exact this
 have dC:∀y c,env.cells.lookup y=some c→s.heap.get? c=none:=fun y c e=>Heap.get?_none_of_le (Nat.le_of_lt (gs y c e))
 obtain cr:env.cells=cellsFrom (s.heap.objs.size+1) scope.names []:=by rw[he];rfl
 have kd:∀y,env.kindOf y=scope.names.lookup y:=fun y=>by show env.scope.names.lookup y=_;rw[aj]
 obtain nfree:∀y,env.kindOf y≠some .free:=fun y e=>by
  rw[kd]at e
  exact jL _ (fh e) rfl
 obtain hvs₁:aC h₁ θ avs vs:=bm.keep (List.prefix_refl _) (uM Cw)
 refine aa ?_
 refine⟨⟨by rw[aj];exact hk,by rw[he];rfl,by rw[he];rfl,⟨_,x.toInCall.ns,fun y i av h1 h2 h3=>?_⟩,fun y i c av h1 h2 h3 h4=>?_,fun y hy=>?_,fun y c e=>⟨_,x.cell y c e⟩,qt R dL,fun y c e=>⟨qt R (dC y c e),?_⟩,
  fun y z c e1 e2=>Xv x.apart e1 e2,pT R dL,fun y c e=>pT R (dC y c e)⟩,R₁,aB.ext Cw,⟨fun y h=>by rw[kd];exact h,fun y h=>by rw[kd];exact h,fun y h=>absurd rfl (jL _ (fh h)),fun y h=>by rw[kd];exact h⟩,fun a ha=>?_⟩
 ·refine ah fun aa=>?_
  refine cW (Br (kd:=env.kindOf) (m:=fun _=>none) (cm:=fun _=>none) gx gv hvs₁ aX h1 h3) fun v h4 h5 _=>?_
  exact aa (⟨v,h5 h2,h4⟩)
 ·refine cW (Br (kd:=env.kindOf) (m:=fun _=>none) (cm:=fun _=>none) gx gv hvs₁ aX h1 h3) fun v h5 _ h6=>?_
  obtain hc:=x.cell y c h2
  rw[h6 (by rcases h4 with q |q<;>rw[q]<;>simp)]at hc
  exact⟨v,hc,h5⟩
 ·rcases hy with q |q
  ·rw[kd]at q
   rw[cr]
   exact Option.isSome_iff_exists.mp (xG (.inl (fh q)))
  ·exact absurd q (nfree y)
 ·rw[hL];exact Nat.ne_of_gt (gs y c e)
 ·rcases ha with rfl | ⟨y,e⟩
  ·exact dL
  ·exact dC y a e
end
section
variable {W:Wd}{env:Env}{ρ ρ':ag}{θ θ':Th}{σ σ':St}{s s':Shared}{A:Around}{d:Nat}{cf:Cf}
mutual
theorem VR.under {h:Heap}{θ:Th}:∀(v:AV) (x:Value),VR h θ v x→v.under θ.length=true
 |.none,_,_=>rfl
 |.bool _,_,_=>rfl
 |.int _,_,_=>rfl
 |.str _,_,_=>rfl
 |.tup vs,x,⟨a,items,_,_,hv⟩=>aC.under vs _ hv
 |.ref i,x,⟨l,hl,_⟩=>decide_eq_true (List.getElem?_eq_some_iff.mp hl).1
theorem aC.under {h:Heap}{θ:Th}:∀(vs:List AV) (xs:List Value),aC h θ vs xs→AV.unders θ.length vs=true
 | [],[],_=>rfl
 |v::vs,x::xs,⟨a,b⟩=>by unfold AV.unders;rw[VR.under v x a,aC.under vs xs b];rfl
 | [],_::_,e=>e.elim
 |_::_,[],e=>e.elim
end
mutual
theorem VR.down {h:Heap}{θ θ':Th}(hp:θ <+:θ'):∀(v:AV) (x:Value),VR h θ' v x→v.under θ.length=true→VR h θ v x
 |.none,_,e,_=>e
 |.bool _,_,e,_=>e
 |.int _,_,e,_=>e
 |.str _,_,e,_=>e
 |.tup vs,x,⟨a,items,e,ht,hv⟩,hu=>⟨a,items,e,ht,aC.down hp vs _ hv hu⟩
 |.ref i,x,⟨l,hl,e⟩,hu=>⟨l,by
   obtain⟨t,rfl⟩:=hp
   rw[List.getElem?_append_left (of_decide_eq_true hu)]at hl;exact hl,e⟩
theorem aC.down {h:Heap}{θ θ':Th}(hp:θ <+:θ'):∀(vs:List AV) (xs:List Value),aC h θ' vs xs→AV.unders θ.length vs=true→aC h θ vs xs
 | [],[],_,_=>trivial
 |v::vs,x::xs,⟨a,b⟩,hu=>by
  unfold AV.unders at hu
  rw[Bool.and_eq_true]at hu
  exact⟨VR.down hp v x a hu.1,aC.down hp vs xs b hu.2⟩
 | [],_::_,e,_=>e.elim
 |_::_,[],e,_=>e.elim
end
theorem Pw.under {K:Type}{KR:K→AV→Prop}{h:Heap}:∀(l:List (K×Value)) (m:List (AV×AV)),Pw KR h θ l m→∀p∈m,p.2.under θ.length=true
 | [],[],_,p,hp=>by simp at hp
 |_::l,_::m,⟨_,b,c⟩,p,hp=>by
  rcases List.mem_cons.mp hp with rfl |hp
  ·exact b.under
  ·exact Pw.under l m c p hp
 | [],_::_,e,_,_=>e.elim
 |_::_,[],e,_,_=>e.elim
theorem bV.under {K:Type}{KR:K→AV→Prop}{h:Heap}:∀(l:List (K×Addr×Value)) (m:List (AV×AV)),bV KR h θ l m→∀p∈m,p.2.under θ.length=true
 | [],[],_,p,hp=>by simp at hp
 |_::l,_::m,⟨_,b,c⟩,p,hp=>by
  rcases List.mem_cons.mp hp with rfl |hp
  ·exact b.under
  ·exact bV.under l m c p hp
 | [],_::_,e,_,_=>e.elim
 |_::_,[],e,_,_=>e.elim
theorem Pw.down {K:Type}{KR:K→AV→Prop}{h:Heap}(hp:θ <+:θ'):∀(l:List (K×Value)) (m:List (AV×AV)),Pw KR h θ' l m→(∀p∈m,p.2.under θ.length=true)→Pw KR h θ l m
 | [],[],_,_=>trivial
 |_::l,_::m,⟨a,b,c⟩,hu=>⟨a,b.down hp _ _ (hu _ (List.mem_cons_self ..)),Pw.down hp l m c fun p q=>hu p (List.mem_cons_of_mem _ q)⟩
 | [],_::_,e,_=>e.elim
 |_::_,[],e,_=>e.elim
theorem bV.down {K:Type}{KR:K→AV→Prop}{h:Heap}(hp:θ <+:θ'):∀(l:List (K×Addr×Value)) (m:List (AV×AV)),bV KR h θ' l m→(∀p∈m,p.2.under θ.length=true)→bV KR h θ l m
 | [],[],_,_=>trivial
 |_::l,_::m,⟨a,b,c⟩,hu=>⟨a,b.down hp _ _ (hu _ (List.mem_cons_self ..)),bV.down hp l m c fun p q=>hu p (List.mem_cons_of_mem _ q)⟩
 | [],_::_,e,_=>e.elim
 |_::_,[],e,_=>e.elim
theorem cK.under {h:Heap}:∀(l:List DictEntry) (m:List (Nat×AV)),cK h θ l m→∀p∈m,p.2.under θ.length=true
 | [],[],_,p,hp=>by simp at hp
 |_::l,_::m,⟨_,b,c⟩,p,hp=>by
  rcases List.mem_cons.mp hp with rfl |hp
  ·exact b.under
  ·exact cK.under l m c p hp
 | [],_::_,e,_,_=>e.elim
 |_::_,[],e,_,_=>e.elim
theorem cK.down {h:Heap}(hp:θ <+:θ'):∀(l:List DictEntry) (m:List (Nat×AV)),cK h θ' l m→(∀p∈m,p.2.under θ.length=true)→cK h θ l m
 | [],[],_,_=>trivial
 |_::l,_::m,⟨a,b,c⟩,hu=>⟨a,b.down hp _ _ (hu _ (List.mem_cons_self ..)),cK.down hp l m c fun p q=>hu p (List.mem_cons_of_mem _ q)⟩
 | [],_::_,e,_=>e.elim
 |_::_,[],e,_=>e.elim
noncomputable def LR (n:Nat):ae→Prop
 |.list vs=>AV.unders n vs=true
 |.dict kvs=>∀p∈kvs,p.2.under n=true
 |.inst _ fs=>∀p∈fs,p.2.under n=true
 |.ext vs=>AV.unders n vs=true
theorem OR.under {h:Heap}{l:Addr×Addr}{o:ae}(x:OR W h θ l o):LR θ.length o:=by
 refine ah fun aa=>?_
 cases o with
 |list vs=>
  obtain⟨_,items,_,hv,_⟩:=x
  exact aa hv.under
 |ext vs=>
  obtain⟨_,items,_,hv,_⟩:=x
  exact aa hv.under
 |dict kvs=>
  obtain⟨_,D⟩:=x
  rcases D with⟨l,x,y⟩ | ⟨l,x,y⟩ | ⟨l,x,y⟩ | ⟨l,x,y⟩
  ·exact aa y.under
  ·exact aa y.under
  ·exact aa y.under
  ·exact aa y.under
 |inst c fs=>
  obtain⟨_,C,_,_,es,n,_,hf,_⟩:=x
  exact aa hf.under
theorem OR.down {h:Heap}{l:Addr×Addr}{o:ae}(hp:θ <+:θ')(x:OR W h θ' l o)(hu:LR θ.length o):OR W h θ l o:=by
 cases o with
 |list vs=>
  obtain⟨e,items,hi,hv,hn⟩:=x
  exact⟨e,items,hi,hv.down hp _ _ hu,hn⟩
 |ext vs=>
  obtain⟨e,items,hi,hv,hn⟩:=x
  exact⟨e,items,hi,hv.down hp _ _ hu,hn⟩
 |dict kvs=>
  obtain⟨e,D⟩:=x
  refine⟨e,?_⟩
  rcases D with⟨l,x,y⟩ | ⟨l,x,y⟩ | ⟨l,x,y⟩ | ⟨l,x,y⟩
  ·exact .inl ⟨l,x,y.down hp _ _ hu⟩
  ·exact .inr (.inl ⟨l,x,y.down hp _ _ hu⟩)
  ·exact .inr (.inr (.inl ⟨l,x,y.down hp _ _ hu⟩))
  ·exact .inr (.inr (.inr ⟨l,x,y.down hp _ _ hu⟩))
 |inst c fs=>
  refine ah fun aa=>?_
  obtain⟨aY,C,hC,h1,es,n,h2,hf,hz,ch⟩:=x
  exact aa (⟨aY,C,hC,h1,es,n,h2,hf.down hp _ _ hu,hz,ch⟩)
theorem aq.shrink {h h':Heap}(R:aq W θ σ h)(R':aq W θ' σ' h')(hp:θ <+:θ')(ht:σ'.take σ.length=σ):aq W θ σ h':=by
 refine⟨R'.base,R.len,fun i o l hs hl=>?_,fun i o l hs hl hv=>R'.fresh i o l (by have hi:=(List.getElem?_eq_some_iff.mp hs).1;rw[←ht,List.getElem?_take_of_lt hi]at hs;exact hs) (pB hp hl) hv,fun i j l m hi hj=>R'.apart i j l m (pB hp hi) (pB hp hj)⟩
 refine ah fun aa=>?_
 obtain hi:=(List.getElem?_eq_some_iff.mp hs).1
 obtain cB:σ'[i]?=some o:=by
  rw[←ht,List.getElem?_take_of_lt hi]at hs
  exact hs
 exact aa ((R'.objs i o l cB (pB hp hl)).down hp (R.objs i o l hs hl).under)
theorem Qo {a b:List (Nat×AV)}(h:BS a b=true):a=b:=Dx (fun _ _ h=>Prod.ext (eq_of_beq (bo h).1) ((AV.beq_iff _ _).mp (bo h).2)) h
theorem SZ {a b:List (AV×AV)}(h:Dw a b=true):a=b:=Dx (fun _ _ h=>Prod.ext ((AV.beq_iff _ _).mp (bo h).1) ((AV.beq_iff _ _).mp (bo h).2)) h
theorem Ue {a b:ae}(h:a.beq b=true):a=b:=by
 cases a with
 |list l=>obtain⟨m,h1,h2⟩:=f8 h;rw[gP h1,(AV.beqs_iff _ _).mp h2]
 |dict l=>obtain⟨m,h1,h2⟩:=f8 h;rw[jy h1,SZ h2]
 |inst c f=>obtain⟨m,h1,h2⟩:=f8 h;rw[xu h1,eq_of_beq (bo h2).1,Qo (bo h2).2]
 |ext l=>obtain⟨m,h1,h2⟩:=f8 h;rw[HE h1,(AV.beqs_iff _ _).mp h2]
theorem MP {a b:St}(h:FQ a b=true):a=b:=Dx (fun _ _ h=>Ue h) h
theorem aB.shrink {X:Addr→Prop}(x:aB X θ s θ' s'):aB X θ s θ s':=⟨List.prefix_refl _,fun _ h=>.inl h,x.keep,x.live,x.gens,x.os⟩
theorem MX {av:AV}{r:AV×St}{v:Value}(R:aq W θ σ s.heap)(e:bF σ (av,σ')=r)(x:aB bZ θ s θ' s')(R':aq W θ' σ' s'.heap)(hv:VR s'.heap θ' av v){Q:Value→Shared→Prop}(h:Po W θ s r.1 r.2 Q):Q v s':=by
 unfold bF at e
 split at e
 ·rename_i q
  rw[Bool.and_eq_true]at q
  rw[←e]at h
  obtain q1:=q.1
  simp only at q1
  rw[←R.len]at q1
  exact h v θ s' x.shrink (R.shrink R' x.pre (MP q.2)) (hv.down x.pre _ _ q1)
 ·rw[←e]at h
  exact h v θ' s' x R' hv
theorem Nm {α:Type}{names:List α}{avs ds:List AV}(h1:avs.length≤names.length)(h2:names.length≤avs.length+ds.length):(avs++ds.drop (ds.length+avs.length - names.length)).length=names.length:=by
 rw[List.length_append,List.length_drop];exact Km h1 h2
structure lL (A:Around)(d:Nat):Prop where
 h:A.handled=none
 dep:A.depth+1+4*d+4<990
 un:A.units+3+40*d+200<9900
theorem lL.room {A:Around}{d:Nat}(a:lL A d):A.depth<recursionLimit:=by have:=a.dep;show A.depth<1000;lia
theorem lL.deeper {A:Around}{d:Nat}(a:lL A d)(env:Env):bp (A.deeper env) d:=⟨a.h,a.dep,a.un⟩
theorem bp.call {A:Around}{d:Nat}(a:bp A (d+1)):lL A d:=⟨a.h,by have:=a.dep;lia,by have:=a.un;lia⟩
theorem bp.make {A:Around}{d:Nat}(a:bp A (d+1))(C:Addr)(vals:List Value):lL (A.under (.builtin "type.__call__" ⟨.ref C::vals,[]⟩)) d:=
 ⟨a.h,by rw[depth_under_make];have:=a.dep;lia,by rw[units_under_make];have:=a.un;lia⟩
theorem Tz {l:List Str}:∀{r:List Nat},bw aN l=some r→r.length=l.length:=by
 induction l with
 |nil=>exact fun e=>Option.some.inj e▸rfl
 |cons a l ih=>
  intro r e
  obtain⟨b,bs,_,e2,rfl⟩:=ic e
  exact congrArg (· +1) (ih e2)
theorem BP {fa:Addr}{fn:Fn}(Rt:W.hB.NoLimit)(qf:fO W fa fn)(qd:∀sc body b,pF sc body=some b→gg W d cf sc body b)(ok:lL A d)(R:aq W θ σ s.heap){avs:List AV}{vs:List Value}(bm:aC s.heap θ avs vs)
  (h1:avs.length≤fn.params.length)(h2:fn.params.length≤avs.length+fn.dflts.length){f:Fl}(jK:bJ W.T.tb cf fn.body (cX fn.params (avs++fn.dflts.drop (fn.dflts.length+avs.length - fn.params.length))) σ=some (f,ρ',σ')){RR:Result→Shared→Prop}
  (hQ:∀v θ' s',aB bZ θ s θ' s'→aq W θ' σ' s'.heap→VR s'.heap θ' (match f with |.ret v=>v |_=>.none) v→RR (.ok (.ret v)) s'):
  codeAny (model W.prog W.w) A (.call (.ref fa) ⟨vs,[]⟩) RR s:=by
 refine ah fun aa=>?_
 obtain⟨o,name,qual,body,scope,dV,kV,doc,pm,cdv,ct,an,as,kd,df,ds,ho,hd,hcd,RT,hk,QV,Re,jL,gv,gx,Cu,Q3,Jl,l7⟩:=qf
 obtain up:=R.base
 have CC:fn.params.length=as.length:=by
  rw[Tz gx,List.length_map]
 obtain Q2:fn.dflts.length=ds.length:=Jl.length
 obtain JQ:=bm.length
 have hb:=NL (s:=s) (name:=name) (qual:=qual) (body:=body) (scope:=scope) (kV:=kV) (doc:=doc) (pm:=pm) (cdv:=cdv) (ct:=ct) (an:=an) (kd:=kd) (df:=df) (vs:=vs) gv (Q3.imp id fun q=>q.imp fun T q=>q.imp fun o q=>q.imp fun items q=>q.imp fun n q=>⟨q.1,up _ _ q.2.1,q.2.2⟩) (by rw[←JQ,←CC];exact h1) (by rw[←JQ,←CC,←Q2];exact h2) l7
 refine aa ?_
 refine codeAny_call_function ok.room (up _ _ ho) hd QV Re rfl (hcd.keeps up) (hb _ _ _ _ ?_)
 refine wpAny_newFunctionEnv_cells hk (fun x hx=>?_) fun env' he s₁ x=>?_
 ·have hm:x.1∈as.map (·.arg):=(List.of_mem_zip (a:=x.1) (b:=x.2) hx).1
  rcases Cu _ hm with q |q
  ·exact .inl q
  ·exact .inr ⟨q,xG (.inl (fh q))⟩
 ·obtain Cj:aC s.heap θ fn.dflts ds:=Jl.keep ⟨θ,rfl⟩ fun a o e _=>up a o e
  obtain e1:ds.length+vs.length - as.length=fn.dflts.length+avs.length - fn.params.length:=by lia
  obtain eP:aC s.heap θ (avs++fn.dflts.drop (fn.dflts.length+avs.length - fn.params.length)) (vs++ds.drop (ds.length+vs.length - as.length)):=by
   rw[e1];exact bm.append (Cj.drop _)
  obtain hl:(avs++fn.dflts.drop (fn.dflts.length+avs.length - fn.params.length)).length=(as.map (·.arg)).length:=by
   rw[List.length_map,←CC];exact Nm h1 h2
  refine ah fun aa=>?_
  refine F9 (Qm R gx gv eP hl hk jL he x) fun F₁ R₁ x₁ aj dF=>?_
  refine aa ?_
  refine⟨(Rt.keeps up).keeps x.toInCall.keep,codeAny_func ?_⟩
  refine qd scope body fn.body RT aj F₁ R₁ (ok.deeper env') jK fun fl θ₂ s₂ x₂ R₂ F₂ hf=>?_
  have xx:aB bZ θ s θ₂ s₂:=(x₁.none.trans x₂).above fun a ha=>.inl (dF a ha)
  cases f with
  |next=>cases hf;exact hQ .none θ₂ s₂ xx R₂ rfl
  |cont=>cases hf;exact hQ .none θ₂ s₂ xx R₂ rfl
  |ret v=>
   refine am hf fun y e19 hy=>?_
   clear hf
   subst e19
   exact hQ y θ₂ s₂ xx R₂ hy
end
structure Bg (W:Wd):Prop where
 lim:W.hB.NoLimit
 fn:∀f fn,W.T.fns f=some fn→∃fa,W.fv f=some (.ref fa)∧fO W fa fn
 cls:∀c ini,W.T.cls c=some ini→∃C fI,W.fv c=some (.ref C)∧W.cls c=some C∧W.fv ini=some (.ref fI)∧makesIn W.K C=true∧findIn W.K (.ref C) "__init__"=some (some (.ref fI))∧typeIn W.K (.ref fI)=some (.type "function")
section
variable {W:Wd}
theorem Ii (wo:bW W)(wf:Bg W)(qd:∀d cf,gf W d cf→∀sc body b,pF sc body=some b→gg W d cf sc body b):∀d,gf W d (ao W.T d)
 |0=>fun f args σ av σ' h=>by simp[ao]at h
 |d+1=>fun f args σ av σ' h=>by
  obtain ih:=Ii wo wf qd d
  simp only[ao]at h
  refine ah fun aa=>?_
  split at h
  ·rename_i ini hini
   refine cq (wf.cls f ini hini) fun C fI g1 g2 g3 g4 g5 g6=>?_
   refine aa ?_
   refine⟨_,g1,fun{θ s A vs Q Ex} ok R bm hQ=>?_⟩
   refine ah fun aa=>?_
   split at h
   case h_2=>cases h
   rename_i fn hfn
   refine am (wf.fn ini fn hfn) fun fa g7 qf=>?_
   rw[g3]at g7
   cases g7
   split at h
   case h_2=>cases h
   rename_i ρ₁ σ₁ jK
   split at h
   case isFalse=>cases h
   rename_i aX
   refine dj h ?_
   clear h
   rintro rfl rfl
   obtain X:=mo wo R
   obtain⟨hh,g,dr,tk,os⟩:=s
   refine aa ?_
   refine wpAny_call (make_core (makes_of X g4) (looks_findIn X g5) (fun self=>bind_fn X self g6) (.inl rfl) ?_)
   have kk:∀b o,hh.get? b=some o→((hh.push emptyDict).push (instObj C hh.objs.size)).get? b=some o:=fun b o e=>Heap.get?_push_of_some _ (Heap.get?_push_of_some _ e)
   obtain hx:((hh.push emptyDict).push (instObj C hh.objs.size)).get? (hh.objs.size+1)=some (instObj C hh.objs.size):=by
    have:=Heap.get?_push_size (hh.push emptyDict) (o:=instObj C hh.objs.size) rfl
    rwa [Heap.size_push]at this
   obtain Q4:((hh.push emptyDict).push (instObj C hh.objs.size)).get? hh.objs.size=some (dictOf [] 0):=Heap.get?_push_of_some _ (Heap.get?_push_size _ rfl)
   have R₁:aq W (θ++[(hh.objs.size+1,hh.objs.size)]) (σ++[.inst f []]) ((hh.push emptyDict).push (instObj C hh.objs.size)):=
    R.add kk (Heap.get?_none_of_le (Nat.le_succ _)) (Heap.get?_none_of_le (Nat.le_refl _)) ⟨Nat.succ_ne_self _,C,g2,hx,[],0,Q4,trivial,Nat.zero_le _,fun p hp=>by simp at hp⟩
   have x₁:aB bZ θ ⟨hh,g,dr,tk,os⟩ (θ++[(hh.objs.size+1,hh.objs.size)]) ⟨(hh.push emptyDict).push (instObj C hh.objs.size),g,dr,tk,os⟩:=
    ⟨List.prefix_append ..,fun l hl=>by
     rcases List.mem_append.mp hl with q |q
     ·exact .inl q
     ·simp only[List.mem_singleton]at q
      clear hl
      subst q
      exact .inr ⟨Heap.get?_none_of_le (Nat.le_succ _),Heap.get?_none_of_le (Nat.le_refl _)⟩,fun a o e _ _=>kk a o e,fun a o e=>⟨o,kk a o e⟩,rfl,rfl⟩
   have JK:VR ((hh.push emptyDict).push (instObj C hh.objs.size)) (θ++[(hh.objs.size+1,hh.objs.size)]) (.ref σ.length) (.ref (hh.objs.size+1)):=⟨(hh.objs.size+1,hh.objs.size),by rw[←R.len];simp,rfl⟩
   obtain hvs₁:aC ((hh.push emptyDict).push (instObj C hh.objs.size)) (θ++[(hh.objs.size+1,hh.objs.size)]) (.ref σ.length::args) (.ref (hh.objs.size+1)::vs):=⟨JK,bm.aft R x₁⟩
   obtain ok':=ok.make C vs
   obtain e1:fn.dflts.length+args.length+1 - fn.params.length=fn.dflts.length+(AV.ref σ.length::args).length - fn.params.length:=by rw[List.length_cons];lia
   rw[e1]at jK
   refine BP (s:=⟨(hh.push emptyDict).push (instObj C hh.objs.size),g,dr,tk,os⟩) wf.lim qf (fun sc body b e=>qd d _ ih sc body b e) ok' R₁ hvs₁ (by rw[List.length_cons];lia) (by rw[List.length_cons];lia) jK fun v θ' s' x' R' hv=>?_
   subst hv
   exact⟨rfl,hQ _ _ _ (x₁.trans x') R' (JK.aft R₁ x')⟩
  ·split at h
   case h_2=>cases h
   rename_i fn hfn
   obtain⟨fa,g1,qf⟩:=wf.fn f fn hfn
   refine aa ?_
   refine⟨_,g1,fun{θ s A vs Q Ex} ok R bm hQ=>?_⟩
   refine ah fun aa=>?_
   split at h
   case isFalse=>cases h
   rename_i aX
   split at h
   ·rename_i v ρ₁ σ₁ jK
    simp only[Option.some.injEq]at h
    refine aa ?_
    refine wpAny_call (BP wf.lim qf (fun sc body b e=>qd d _ ih sc body b e) ok.call R bm aX.1 aX.2 jK fun u θ' s' x' R' hu=>?_)
    exact MX R h x' R' hu hQ
   ·rename_i ρ₁ σ₁ jK
    simp only[Option.some.injEq]at h
    refine aa ?_
    refine wpAny_call (BP wf.lim qf (fun sc body b e=>qd d _ ih sc body b e) ok.call R bm aX.1 aX.2 jK fun u θ' s' x' R' hu=>?_)
    exact MX R h x' R' hu hQ
   ·exact aK h
end
section
variable {W:Wd}{env:Env}{ρ ρ':ag}{θ θ':Th}{σ σ':St}{s s':Shared}{A:Around}{d:Nat}{cf:Cf}{sc:Scope}{Ex:Value→Shared→Prop}
theorem Uy {pos:Pos}{ks:List (Option Expr)}{vs:List Expr}{xs:List E}(h:ju W d cf sc ks vs xs):(evalEachOpt ks env).zip ((evalEach vs env).map fun v=>do let x ←v;standAt pos;pure x)=(Ay env pos ks vs).map fun p=>(some p.1,p.2):=by
 induction h with
 |nil=>rfl
 |cons h1 h2 h3 ih=>
  exact List.cons_eq_cons.mpr ⟨rfl,ih⟩
theorem Az {pos:Pos}{ks:List (Option Expr)}{vs:List Expr}{xs:List E}(h:ju W d cf sc ks vs xs):(Ay env pos ks vs).length=ks.length:=by
 induction h with
 |nil=>rfl
 |cons h1 h2 h3 ih=>show _+1=_+1;rw[ih]
theorem Ux {pos:Pos}{ks:List (Option Expr)}{vs:List Expr}{xs:List E}(h:ju W d cf sc ks vs xs)(aj:cF sc env):∀{θ:Th} {σ σ':St} {s:Shared} {avs:List AV} {Q:List (Value×Value)→Shared→Prop},FR W env ρ θ s.heap→aq W θ σ s.heap→bp A d→
  cP W.T.tb cf xs ρ σ=some (avs,σ')→(∀ps θ' s',aB bZ θ s θ' s'→aq W θ' σ' s'.heap→aC s'.heap θ' avs (xQ ps)→Q ps s')→wpAny (model W.prog W.w) A (evalPairs (Ay env pos ks vs)) Q Ex s:=by
 induction h with
 |nil=>
  intro θ σ σ' s avs Q F R ok hv hQ
  refine lH (eV hv) fun e09 e19=>?_
  subst e09
  subst e19
  exact evalPairs_nil (hQ _ _ _ .id R trivial)
 |cons h1 h2 h3 ih=>
  intro θ σ σ' s avs Q F R ok hv hQ
  refine ah fun aa=>?_
  refine aS hv fun u σ₁ e1 hv=>?_
  refine aS hv fun us σ₂ b6 hv=>?_
  refine dj hv ?_
  clear hv
  rintro rfl rfl
  refine aS b6 fun w σ₃ e2 b6=>aS b6 fun ws σ₄ e3 b6=>?_
  refine dj b6 ?_
  clear b6
  rintro rfl rfl
  refine aa ?_
  refine evalPairs_cons (h1 aj F R ok e1 fun p θ₁ s₁ x₁ R₁ hp=>?_)
  refine wpAny_bind (h2 aj (F.go R x₁) R₁ ok e2 fun q θ₂ s₂ x₂ R₂ hq=>wpAny_bind (wpAny_standAt (wpAny_pure ?_)))
  refine ih ((F.go R x₁).go R₁ x₂) R₂ ok e3 fun ps θ₃ s₃ x₃ R₃ gx=>?_
  exact hQ _ _ _ ((x₁.trans x₂).trans x₃) R₃ ⟨(hp.aft R₁ x₂).aft R₂ x₃,hq.aft R₂ x₃,gx⟩
theorem VK {kvs:List (AV×AV)}{k v:AV}{n:Nat}(h:∀p∈kvs,bx p.1=n)(hk:bx k=n):∀p∈bU kvs k v,bx p.1=n:=by
 induction kvs with
 |nil=>intro p hp;simp[bU]at hp;rw[hp];exact hk
 |cons q l ih=>
  intro p hp
  unfold bU at hp
  split at hp
  ·rcases List.mem_cons.mp hp with rfl |hp
   ·exact h q (List.mem_cons_self ..)
   ·exact h p (List.mem_cons_of_mem _ hp)
  ·rcases List.mem_cons.mp hp with rfl |hp
   ·exact h p (List.mem_cons_self ..)
   ·exact ih (fun p hp=>h p (List.mem_cons_of_mem _ hp)) p hp
theorem VL {kvs:List (AV×AV)}{k v:AV}:(bU kvs k v).length≤kvs.length+1:=by
 induction kvs with
 |nil=>simp[bU]
 |cons q l ih=>
  unfold bU
  split
  ·simp
  ·simp;exact ih
theorem Uu {k v:AV}{l:List AV}{kvs:List (AV×AV)}(h:tj (k::v::l)=some kvs):∃r,tj l=some r∧kvs=(k,v)::r:=by
 obtain⟨r,h1,h2⟩:=bY (show(tj l).map ((k,v)::·)=some kvs from h)
 exact⟨r,h1,h2⟩
theorem W2 (hu:A.units<cLine){D:Addr}{n:Nat}(hn:n≠0){ps:List (Value×Value)}:∀{avs:List AV} {kvs acc:List (AV×AV)} {s:Shared} {Q:PUnit→Shared→Prop},aq W θ σ s.heap→¬own θ D→W.hB.get? D=none→
  aC s.heap θ avs (xQ ps)→tj avs=some kvs→(∀p∈kvs,bx p.1=n)→(∀p∈acc,bx p.1=n)→acc.length+ps.length≤1000000→DR W s.heap θ D acc→
  (∀h' tk,DR W h' θ D (tq acc kvs)→Heap.SameBut D s.heap h'→aq W θ σ h'→Q PUnit.unit {s with heap:=h',toks:=tk})→
  wpAny (model W.prog W.w) A (forIn ps PUnit.unit fun(x:Value×Value) (_:PUnit)=>(do dictSet D x.1 x.2;pure (ForInStep.yield PUnit.unit):Sem (ForInStep PUnit))) Q Ex s:=by
 induction ps with
 |nil=>
  intro avs kvs acc s Q R oD bD hv hp hk ha hl hD hQ
  refine ah fun aa=>?_
  cases avs with
  |cons _ _=>refine aa ?_;exact hv.elim
  |nil=>
   cases Option.some.inj hp
   refine aa ?_
   rw[List.forIn_nil]
   exact wpAny_pure (hQ s.heap s.toks hD (Heap.SameBut.refl _ _) R)
 |cons p ps ih=>
  intro avs kvs acc s Q R oD bD hv hp hk ha hl hD hQ
  have b6:aC s.heap θ avs (p.1::p.2::xQ ps):=hv
  cases avs with
  |nil=>exact b6.elim
  |cons ka avs=>cases avs with
   |nil=>exact b6.2.elim
   |cons va avs=>
    refine am (Uu hp) fun kvs' gw e29=>?_
    subst e29
    rw[List.length_cons]at hl
    obtain Cr:bx ka=n:=hk (ka,va) (List.mem_cons_self ..)
    have ko:cR acc ka=true:=gh (bne_iff_ne.mpr (Cr▸hn)) (List.all_eq_true.mpr fun p hp=>beq_iff_eq.mpr ((ha p hp).trans Cr.symm))
    rw[List.forIn_cons]
    refine wpAny_bind (wpAny_bind (hD.dset hu b6.1 ko b6.2.1 (by lia) fun h₁ n₁ D₁ hs₁=>wpAny_pure ?_))
    obtain nt:=im hs₁ hD.at
    refine ih (R.other hs₁ oD bD hD.at) oD bD (b6.2.2.keep (List.prefix_refl _) nt) gw (fun p hp=>hk p (List.mem_cons_of_mem _ hp)) (VK ha Cr) (by have:=VL (kvs:=acc) (k:=ka) (v:=va);lia) D₁ fun h' tk D' cB R'=>?_
    exact hQ h' tk D' (hs₁.trans cB) R'
theorem Wk {ks:List (Option Expr)}{vs:List Expr}{xs:List E}(h:ju W d cf sc ks vs xs)(aX:ks.length≤15) (pos):aE W d cf sc (.Dict ks vs pos) (.dct xs):=by
 intro env ρ θ σ s A av σ' Q Ex aj F R ok hv hQ
 refine ah fun aa=>?_
 refine aS hv fun us σ₁ h1 hv=>?_
 refine az hv fun dd hd hv=>az hd fun kvs JJ hd=>?_
 obtain⟨eP,hd⟩:=b7 hd
 cases Option.some.inj hd
 refine fH hv fun e09 e19=>?_
 subst e09
 subst e19
 obtain dD:=fK s.heap
 obtain x₀:aB bZ θ s θ {s with heap:=s.heap.push {cls:=.type "dict",data:=.dict #[]}}:=aB.ext (n:=s.toks) (cT _ _)
 obtain R₀:aq W θ σ (s.heap.push {cls:=.type "dict",data:=.dict #[]}):=R.step (cT _ _)
 have oD₀:¬own θ s.heap.objs.size:=qt R dD
 have bD:=pT R dD
 have g₀:(s.heap.push {cls:=.type "dict",data:=.dict #[]}).get? s.heap.objs.size=some {cls:=.type "dict",data:=.dict #[]}:=Heap.get?_push_size _ rfl
 by_cases yd:ks=[]
 ·subst yd
  cases h
  refine dj h1 fun e09 e19=>?_
  clear h1
  clear hv hd
  clear hv hd
  clear hv hd
  subst e09
  subst e19
  cases Option.some.inj JJ
  refine aa ?_
  refine wpAny_Dict_empty ?_
  obtain D₀:DR W (s.heap.push {cls:=.type "dict",data:=.dict #[]}) (θ++[(s.heap.objs.size,s.heap.objs.size)]) s.heap.objs.size []:=.inl ⟨[],Heap.DictOf.new s.heap,trivial⟩
  exact hQ _ _ _ (x₀.adopt dD) (R₀.adopt (o:=.dict []) oD₀ bD ⟨rfl,D₀⟩) ⟨(s.heap.objs.size,s.heap.objs.size),by rw[←R.len];simp,rfl⟩
 ·refine aa ?_
  rw[arm_eval_Dict,Uy h,dictDisplay_pairs _ (fun e=>yd (List.length_eq_zero_iff.mp (by rw[←Az (env:=env) (pos:=pos) h,e];rfl))) (by rw[Az h];lia)]
  refine wpAny_bind (wpAny_standAt (wpAny_bind ?_))
  unfold subDict
  refine wpAny_bind (wpAny_alloc ?_)
  refine wpAny_bind (wpAny_holding ?_)
  rw[if_pos (by rw[Az h];exact aX)]
  refine wpAny_bind (wpAny_mono (wpAny_evalPairs_len (Ux h aj (F.go R x₀) R₀ ok h1 fun ps θ₁ s₁ x₁ R₁ gx=>(⟨θ₁,x₁,R₁,gx⟩:∃θ₁,aB bZ θ _ θ₁ s₁∧aq W θ₁ σ₁ s₁.heap∧aC s₁.heap θ₁ us (xQ ps)))) (fun ps s₁ hh=>?_) fun _ _ e=>e)
  refine ah fun aa=>?_
  obtain⟨fe,θ₁,x₁,R₁,gx⟩:=hh
  rw[Az h]at fe
  obtain g₁:=x₁.keep _ _ g₀ oD₀ fun q=>q
  have oD₁:¬own θ₁ s.heap.objs.size:=fun q=>oD₀ (x₁.own_old g₀ q)
  obtain D₁:DR W s₁.heap θ₁ s.heap.objs.size []:=.inl ⟨[],A4 (Heap.DictOf.new (prog:=W.prog) (w:=W.w) (knd:=intKind W.prog W.w) s.heap) (g₁.trans g₀.symm),trivial⟩
  refine aa ?_
  refine wpAny_holding ?_
  have hu:A.units<cLine:=by have:=ok.unit;lia
  have Cu:∃n,n≠0∧∀p∈kvs,bx p.1=n:=by
   cases kvs with
   |nil=>exact⟨1,by decide,fun p hp=>by simp at hp⟩
   |cons q l=>
    have h0:=List.all_eq_true.mp eP q (List.mem_cons_self ..)
    rw[Bool.and_eq_true]at h0
    refine⟨bx q.1,by simpa using h0.1,fun p hp=>by simpa using List.all_eq_true.mp h0.2 p hp⟩
  refine ah fun aa=>?_
  refine am Cu fun n hn hk=>?_
  refine aa ?_
  refine wpAny_bind (W2 hu hn R₁ oD₁ bD gx JJ hk (fun p hp=>by simp at hp) (by simp;lia) D₁ fun h' tk D' cB R'=>wpAny_pure (wpAny_pure (wpAny_pure ?_)))
  obtain pre:θ₁ <+:θ₁++[(s.heap.objs.size,s.heap.objs.size)]:=List.prefix_append ..
  exact hQ _ _ _ (((x₀.trans x₁).one (tk:=tk) dD cB).adopt dD) (R'.adopt (o:=.dict _) oD₁ bD ⟨rfl,D'.keep pre (fun _ _ e _=>e) rfl⟩) ⟨(s.heap.objs.size,s.heap.objs.size),by rw[←R₁.len];simp,rfl⟩
end
noncomputable abbrev Zs:=List (Int×Int)
noncomputable def pO (z:Int×Int):AV×AV:=(.int z.1,.int z.2)
noncomputable def AL:List Value→Zs→Prop
 | [],[]=>True
 |v::vs,z::zs=>(∃t,v=Value.int z.1 t)∧AL vs zs
 |_,_=>False
noncomputable def Ax (zs:Zs)(v:Value):Bool:=match v with
 |.int k _=>zs.any fun q=>q.1==k&&q.2 !=0
 |_=>false
noncomputable def Hm (v:Value)(k:Int):Prop:=∃t,v=Value.int k t
noncomputable def Hn (zs:Zs)(v y:Value):Prop:=∃k t z u,v=Value.int k t∧(k,z)∈zs∧y=Value.int z u
theorem AL.of:∀{vs:List Value} {zs:Zs},vs.length=zs.length→(∀(j:Nat) (v:Value),vs[j]?=some v→∃z t,zs[j]?=some z∧v=.int z.1 t)→AL vs zs
 | [],[],_,_=>trivial
 |v::vs,z::zs,hl,h=>by
  refine ah fun aa=>?_
  refine eX (h 0 v rfl) fun z' t e1 e2=>?_
  refine aR e1 ?_
  clear e1
  rintro rfl
  exact aa (⟨⟨t,e2⟩,AL.of (by simpa using hl) fun j u hu=>by simpa using h (j+1) u (by simpa using hu)⟩)
 | [],_::_,hl,_=>by cases hl
 |_::_,[],hl,_=>by cases hl
theorem AL.filter {p:Value→Bool}:∀{vs:List Value} {zs:Zs},AL vs zs→(∀z∈zs,∀t,p (.int z.1 t)=(z.2 !=0))→AL (vs.filter p) (zs.filter fun z=>z.2 !=0)
 | [],[],_,_=>trivial
 |v::vs,z::zs,⟨⟨t,e⟩,r⟩,h=>by
  obtain ih:=AL.filter r fun z hz=>h z (List.mem_cons_of_mem _ hz)
  obtain hp:=h z (List.mem_cons_self ..) t
  rw[←e]at hp
  cases hz:(z.2 !=0)with
  |true=>
   rw[hz]at hp
   rw[List.filter_cons,if_pos hp,List.filter_cons,if_pos hz]
   exact⟨⟨t,e⟩,ih⟩
  |false=>
   rw[hz]at hp
   rw[List.filter_cons,if_neg (by rw[hp];decide),List.filter_cons,if_neg (by rw[hz];decide)]
   exact ih
theorem AL.snoc:∀{l:List Value} {v:Value} {zs:Zs},AL (l++[v]) zs→∃zs1 z,zs=zs1++[z]∧AL l zs1∧∃t,v=.int z.1 t
 | [],v,[z],⟨a,_⟩=>⟨[],z,rfl,trivial,a⟩
 |u::l,v,z::zs,⟨a,r⟩=>by
  refine ah fun aa=>?_
  refine bH (AL.snoc r) fun zs1 z1 e h1 h2=>?_
  exact aa (⟨z::zs1,z1,by rw[e];rfl,⟨a,h1⟩,h2⟩)
 | [],v,[],h=>h.elim
 | [],v,_::_::_,h=>h.2.elim
theorem KJ {zs:Zs}(h:(zs.map (·.1)).Nodup){k a b:Int}(ha:(k,a)∈zs)(hb:(k,b)∈zs):a=b:=by
 induction zs with
 |nil=>cases ha
 |cons z zs ih=>
  rw[List.map_cons,List.nodup_cons]at h
  rcases List.mem_cons.mp ha with e1 |lY
  ·rcases List.mem_cons.mp hb with e2 |qc
   ·rw[←e1]at e2;cases e2;rfl
   ·rw[←e1]at h
    exact absurd (show(k,a).1∈zs.map (·.1)from List.mem_map_of_mem (f:=(·.1)) qc) h.1
  ·rcases List.mem_cons.mp hb with e2 |qc
   ·rw[←e2]at h
    exact absurd (show(k,b).1∈zs.map (·.1)from List.mem_map_of_mem (f:=(·.1)) lY) h.1
   ·exact ih h.2 lY qc
theorem LZ {zs:Zs}(h:(zs.map (·.1)).Nodup){z:Int×Int}(hz:z∈zs)(t:Tok):Ax zs (.int z.1 t)=(z.2 !=0):=by
 unfold Ax
 rw[Bool.eq_iff_iff,List.any_eq_true]
 constructor
 ·rintro⟨q,hq,e⟩
  rw[Bool.and_eq_true,beq_iff_eq]at e
  have:q.2=z.2:=KJ h (k:=z.1) (by rw[←e.1];exact hq) hz
  rw[←this];exact e.2
 ·intro e
  exact⟨z,hz,by rw[Bool.and_eq_true,beq_iff_eq];exact⟨rfl,e⟩⟩
theorem Pw.keys {h:Heap}{θ:Th}:∀{l:List (Int×Value)} {zs:Zs},Pw tM h θ l (zs.map pO)→l.map (·.1)=zs.map (·.1)∧∀(i:Nat) (k:Int) (x:Value),l[i]?=some (k,x)→∃z t,zs[i]?=some (k,z)∧x=.int z t
 | [],[],_=>⟨rfl,fun i k x e=>by simp at e⟩
 |p::l,z::zs,⟨a,⟨t,b⟩,c⟩=>by
  refine lH (Pw.keys c) fun h1 h2=>?_
  have e0:z.1=p.1:=by injection a
  refine⟨by rw[List.map_cons,List.map_cons,h1,e0],fun i k x e=>?_⟩
  cases i with
  |zero=>
   simp only[List.getElem?_cons_zero,Option.some.injEq]at e
   clear a
   subst e
   obtain⟨z1,z2⟩:=z
   have e1:z1=k:=e0
   clear e0
   subst e1
   exact⟨z2,t,rfl,b⟩
  |succ i=>simpa using h2 i k x (by simpa using e)
 | [],_::_,e=>e.elim
 |_::_,[],e=>e.elim
theorem Pw.snoc {K:Type}{KR:K→AV→Prop}{h:Heap}{θ:Th}{p:K×Value}{q:AV×AV}(hk:KR p.1 q.1)(hv:VR h θ q.2 p.2):∀{l:List (K×Value)} {m:List (AV×AV)},Pw KR h θ l m→Pw KR h θ (l++[p]) (m++[q])
 | [],[],_=>⟨hk,hv,trivial⟩
 |_::_,_::_,⟨a,b,c⟩=>⟨a,b,Pw.snoc hk hv c⟩
 | [],_::_,e=>e.elim
 |_::_,[],e=>e.elim
theorem W5 {h:Heap}{θ:Th}{zs:Zs}(hn:(zs.map (·.1)).Nodup){L:List Value}{kv:List (Int×Value)}(hS:StoredAll Hm (Hn zs) L kv):∀{zs':Zs},AL L zs'→(zs'.map (·.1)).Nodup→(∀z∈zs',z∈zs)→Pw tM h θ kv (zs'.map pO):=by
 induction hS with
 |nil=>
  intro zs' hA _ _
  match zs',hA with
  | [],_=>exact trivial
 | @snoc l kvs v k y _ hk hv ih=>
  intro zs' hA gv ql
  refine ah fun aa=>?_
  obtain⟨zs1,z,e28,h1,t,e⟩:=hA.snoc
  clear hA
  subst e28
  rw[List.map_append,List.nodup_append]at gv
  have P:=ih h1 gv.1 fun z hz=>ql z (List.mem_append_left _ hz)
  obtain⟨t',e'⟩:=hk
  rw[e]at e'
  cases e'
  refine XO hv fun k2 t2 z2 u f1 f2 f3=>?_
  rw[e]at f1
  cases f1
  obtain Se:z2=z.2:=KJ hn (k:=z.1) f2 (ql z (by simp))
  obtain ma:(kvs.any fun kv=>decide (kv.1=z.1))=false:=by
   rw[List.any_eq_false]
   intro q hq hd
   obtain eE:q.1=z.1:=of_decide_eq_true hd
   have:q.1∈zs1.map (·.1):=by rw[←(Pw.keys P).1];exact List.mem_map_of_mem hq
   exact gv.2.2 q.1 this z.1 (by simp) eE
  refine aa ?_
  unfold stored
  rw[if_neg (by rw[ma];decide),List.map_append]
  exact P.snoc (q:=pO z) rfl ⟨u,by rw[f3,Se]⟩
theorem Xz {l:List (Int×Value)}{k:Int}{x:Value}:∀{i:Nat},(l.map (·.1)).Nodup→l[i]?=some (k,x)→valueAt l k=some x:=by
 induction l with
 |nil=>intro i _ e;simp at e
 |cons p l ih=>
  intro i hn e
  rw[List.map_cons,List.nodup_cons]at hn
  unfold valueAt
  refine ah fun aa=>?_
  cases i with
  |zero=>
   simp only[List.getElem?_cons_zero,Option.some.injEq]at e
   subst e
   refine aa ?_
   simp
  |succ i=>
   obtain e':l[i]?=some (k,x):=by simpa using e
   have aY:¬p.1=k:=fun q=>hn.1 (q▸List.mem_map_of_mem (f:=(·.1)) (List.mem_of_getElem? e'))
   refine aa ?_
   rw[List.find?_cons_of_neg (by simpa using aY)]
   exact ih hn.2 e'
theorem SS {a:AV}(h:bx a=1):∃i,a=.int i:=by
 rcases Dv (v:=a) (by rw[h];decide)with h1 | ⟨s,rfl⟩ | ⟨i,j,rfl⟩ | ⟨i,j,rfl⟩
 ·exact h1
 ·exact nomatch (show 2=1 from h)
 ·exact nomatch (show 3=1 from h)
 ·exact nomatch (show 4=1 from h)
theorem XV {kvs:List (AV×AV)}:kvs.all (fun p=>bx p.1==1&&yz p.2)=true→∃zs:Zs,kvs=zs.map pO:=by
 induction kvs with
 |nil=>exact fun _=>⟨[],rfl⟩
 |cons p l ih=>
  intro h
  refine ah fun aa=>?_
  obtain⟨h1,h2⟩:=bo h
  obtain⟨zs,e⟩:=ih h2
  obtain⟨i,e1⟩:=SS (eq_of_beq (bo h1).1)
  obtain⟨j,e2⟩:=Option.isSome_iff_exists.mp (bo h1).2
  exact aa (⟨(i,j)::zs,by rw[e];exact congrArg (· ::zs.map pO) (Prod.ext e1 (cy e2))⟩)
section
variable {W:Wd}{env:Env}{ρ ρ':ag}{θ θ':Th}{σ σ':St}{s s':Shared}{A:Around}{d:Nat}{cf:Cf}{sc sc':Scope}{Ex:Value→Shared→Prop}
theorem MT {Q:Value→Shared→Prop}{x y:Str}{i j:Nat}{p2 p3 p4:Pos}{m:Str→Option Value}{c a:Addr}{v u:Value}{l:List (Int×Value)}{k:Int}(Ct:env.scope.kind=.function)(hx:env.kindOf x=some .local)(hn:s.heap.Ns env.locals m)(hm:m x=some v)(Sc:aN x=some j)
  (hy:env.kindOf y=some .cell∨env.kindOf y=some .free)(hc:env.cells.lookup y=some c)(lZ:s.heap.IsCell c (some (.ref a)))(JW:aN y=some i)(D:s.heap.DictOf (intKind W.prog W.w) a l)(dS:(intKind W.prog W.w).is k v=true)(hv:valueAt l k=some u)
  (h:∀n,Q u {s with toks:=n}):wpAny (model W.prog W.w) A (eval (.Subscript (.Name y p2) (.Name x p3) p4) env) Q Ex s:=by
 refine FU (wpAny_Name ?_ (pV JW))
 obtain fin:SubscriptOn (model W.prog W.w) A (.ref a) v Q Ex s:=⟨"dict",_,slot_dict_getitem.lookup,D.typeIs,wpAny_getItem_of dS D.mapOf hv (h _)⟩
 have go:wpAny (model W.prog W.w) A (eval (.Name x p3) env) (fun i s₂=>SubscriptOn (model W.prog W.w) A (.ref a) i Q Ex s₂) Ex s:=wpAny_Name (wpAny_loadName_local Ct hx hn hm fin) (pV Sc)
 rcases hy with hy |hy
 ·exact wpAny_loadName_cell Ct hy hc lZ go
 ·exact wpAny_loadName_free Ct hy hc lZ go (Ip JW)
theorem Wm (wo:bW W){x y:Str}{i j:Nat}(hj:aN x=some j)(hc:jr sc sc' [j])(hy:dw sc y=true)(hi:aN y=some i)(jL:sc'.names.lookup y=some .free)(qi:sc'.names.lookup x=some .local){p1 p2 p3 p4 p5 p6 p7 p8 p9 p10 p11:Pos}{k1:Nat}{pos:Pos}:
  aE W d cf sc (.DictComp (.Name x p1) (.Subscript (.Name y p2) (.Name x p3) p4) [⟨.Name x p5,.Name y p6,[.Compare (.Subscript (.Name y p7) (.Name x p8) p9) [.NotEq] [.Constant (.int 0) k1 p10] p11],0⟩] sc' pos) (.dfilt i):=by
 intro env ρ θ σ s A av σ' Q Ex aj F R ok hv hQ
 refine az hv fun w hρ yk=>az yk fun ob ho hO=>az hO fun kvs hd yl=>?_
 refine ah fun aa=>?_
 refine am (Fq ho) fun r e19 hs=>?_
 subst e19
 rw[jy hd]at hs
 obtain⟨l6,RW⟩:=b7 yl
 have l6:=And.intro (cL (bo l6).1) (bo l6).2
 obtain⟨rfl,rfl⟩:=lR RW
 obtain⟨zs,rfl⟩:=XV l6.2
 have Yl:zs.length<1000000:=by simpa using l6.1
 obtain⟨cl,c1,c2,c3⟩:=Iq (scope:=sc') (env:=env) fun p hp e=>by
  rcases hc.free p hp e with q |q
  ·exact F.cells _ (.inl (aj.cel _ q))
  ·exact F.cells _ (aj.fre _ q)
 obtain Rr:=aj.var hy
 obtain Rn:env.kindOf y=some .cell∨env.kindOf y=some .free:=by
  rcases hc.free _ (fh jL) rfl with q |q
  ·exact .inl (aj.cel _ q)
  ·exact aj.fre _ q
 obtain⟨c,cr⟩:=c3 _ (fh jL) rfl
 refine am (F.cell y i c (.ref r) hi (c2 y c cr).1 hρ Rn) fun cv lZ QZ=>?_
 refine cW (lr R hs QZ) fun a e19 ha D=>?_
 subst e19
 obtain c6:=wo.sys a (R.fresh r _ (a,a) hs ha rfl).1
 obtain⟨d1,_,_,_⟩:=D.kind (n:=1) (by decide) fun p hp=>by
  refine am (List.mem_map.mp hp) fun z _ e29=>?_
  subst e29
  rfl
 refine am (d1 rfl) fun l DD P=>?_
 obtain⟨ep,DA⟩:=DD.dictAt
 have hn:=Gg DD
 obtain⟨P1,P2⟩:=Pw.keys P
 have yg:(zs.map (·.1)).Nodup:=P1▸hn
 have jM:l.length=zs.length:=by
  have:=congrArg List.length P1
  simpa using this
 refine aa ?_
 refine wpAny_DictComp_free (knd:=intKind W.prog W.w) (Ax zs) Hm (Hn zs) c1 hc.cell hc.kind (fun p hp e=>(hc.loc p hp e).1) qi ?_
 refine Mm F Rr hi hρ fun v hv=>?_
 refine ah fun aa=>?_
 obtain⟨l1,de,rfl⟩:=hv
 rw[ha]at de
 refine aR de ?_
 clear de
 rintro rfl
 refine aa ?_
 refine wpAny_pyIter_dict c6 DA ?_
 have push:∀b o,s.heap.get? b=some o→(s.heap.push {cls:=.type "dict_keyiterator",data:=.fields #[.ref a,.int 0 0,.int l.length 0,.int ep 0]}).get? b=some o:=fun b o e=>Heap.get?_push_of_some _ e
 obtain bB:a<s.heap.objs.size:=DA.lt_size
 have look:∀(C:Addr) (i':Nat) (v:Value) (s₃:Shared) (m₃:Str→Option Value),(∃k x,l[i']?=some (k,x)∧(intKind W.prog W.w).is k v=true)→s₃.heap.Ns C m₃→m₃ x=some v→(∀b o,b∉[s.heap.objs.size]→(s.heap.push {cls:=.type "dict_keyiterator",data:=.fields #[.ref a,.int 0 0,.int l.length 0,.int ep 0]}).get? b=some o→s₃.heap.get? b=some o)→
   (compEnvC sc' cl C env).kindOf x=some .local∧((compEnvC sc' cl C env).kindOf y=some .cell∨(compEnvC sc' cl C env).kindOf y=some .free)∧s₃.heap.IsCell c (some (.ref a))∧s₃.heap.DictOf (intKind W.prog W.w) a l∧∃k z t u,v=.int k t∧(k,z)∈zs∧(intKind W.prog W.w).is k v=true∧valueAt l k=some (.int z u):=fun C i' v s₃ m₃ hP iG iM kp=>by
  obtain⟨k,x',e1,e2⟩:=hP
  obtain kp':∀b o,s.heap.get? b=some o→s₃.heap.get? b=some o:=fun b o e=>kp b o (by rw[List.mem_singleton];exact Nat.ne_of_lt (Heap.lt_size e)) (push b o e)
  refine eX (P2 i' k x' e1) fun z u f1 f2=>?_
  obtain⟨t,e3⟩:∃t,v=.int k t:=by
   cases v<;>first | (cases e2;done) |skip
   rename_i i t
   have:k=i:=by first |exact eq_of_beq e2 |exact(eq_of_beq e2).symm
   exact⟨t,by rw[this]⟩
  refine⟨lookup_relabel_local qi,(Iy hc).fre y jL,?_,DD.at fun o e=>kp' a o e,k,z,t,u,e3,List.mem_of_getElem? f1,e2,?_⟩
  ·refine am lZ fun o ho r=>?_
   exact⟨o,kp' _ _ ho,r⟩
  ·refine(Xz hn e1).symm▸?_
   exact(f2).symm▸rfl
 refine⟨s.heap.objs.size,[s.heap.objs.size,a],[s.heap.objs.size],l.length,_,_,rfl,Walks.dictKeys ok.h s.heap.objs.size a (Nat.ne_of_lt bB) l ep,by rw[sizeLine_eq];lia,⟨⟨_,Heap.get?_push_size _ rfl,rfl,rfl⟩,DA.push _⟩,fun b hb=>?_,⟨?_,?_,?_⟩,?_⟩
 ·show b<(s.heap.push _).objs.size
  rw[size_push']
  rcases List.mem_cons.mp hb with e |hb
  ·rw[e];exact Nat.lt_succ_self _
  ·rw[List.mem_singleton.mp hb];exact Nat.lt_succ_of_lt bB
 ·intro C i' v s₃ m₃ E' hP iG iM kp
  refine ah fun aa=>?_
  obtain⟨fD,qn,ya,D',k,z,t,u,rfl,hz,uz,ym⟩:=look C i' v s₃ m₃ hP iG iM kp
  refine aa ?_
  refine wpAny_tests_one (wpAny_isTrue_Compare1 (MT (m:=m₃) hc.kind fD iG iM hj qn cr ya hi D' uz ym fun n=>?_) rfl)
  refine wpAny_Constant_int (IsLeap.wpAny_ne_int ?_)
  refine wpAny_truthy_bool ⟨?_,s₃.heap,_,rfl,fun _ _ e=>e⟩
  exact(LZ yg hz t).symm
 ·intro C i' v s₃ m₃ E' hP _ iG iM kp
  obtain⟨fD,qn,ya,D',k,z,t,u,rfl,hz,uz,ym⟩:=look C i' v s₃ m₃ hP iG iM kp
  exact wpAny_Name (wpAny_loadName_local hc.kind fD iG iM ⟨⟨k,uz,t,rfl⟩,s₃.heap,s₃.toks,rfl,fun _ _ e=>e⟩) (pV hj)
 ·intro C i' v s₃ m₃ E' hP _ iG iM kp
  obtain⟨fD,qn,ya,D',k,z,t,u,rfl,hz,uz,ym⟩:=look C i' v s₃ m₃ hP iG iM kp
  exact MT (m:=m₃) hc.kind fD iG iM hj qn cr ya hi D' uz ym fun n=>⟨⟨k,t,z,u,rfl,hz,rfl⟩,s₃.heap,_,rfl,fun _ _ e=>e⟩
 ·intro D' h' tk kvs' vs hD QE aX bm hS kp
  obtain hA:AL vs zs:=AL.of (aX.trans jM) fun j v e=>by
   refine eX (bm j v e) fun k x' e1 e2=>?_
   obtain⟨z,u,f1,f2⟩:=P2 j k x' e1
   obtain⟨t,e3⟩:∃t,v=.int k t:=by
    cases v<;>first | (cases e2;done) |skip
    rename_i i t
    have:k=i:=by first |exact eq_of_beq e2 |exact(eq_of_beq e2).symm
    exact⟨t,by rw[this]⟩
   exact⟨(k,z),t,f1,e3⟩
  obtain QA:=hA.filter (p:=Ax zs) fun z hz t=>LZ yg hz t
  obtain ql:∀z∈zs.filter (fun z=>z.2 !=0),z∈zs:=fun z hz=>(List.mem_filter.mp hz).1
  obtain Rz:((zs.filter fun z=>z.2 !=0).map (·.1)).Nodup:=(List.Sublist.map _ List.filter_sublist).nodup yg
  obtain kp':∀b o,s.heap.get? b=some o→h'.get? b=some o:=fun b o e=>kp b o (by rw[List.mem_singleton];exact Nat.ne_of_lt (Heap.lt_size e)) (push b o e)
  have dd:s.heap.get? D'=none:=by
   cases e:s.heap.get? D' with
   |none=>rfl
   |some o=>have:=push _ _ e;rw[hD]at this;exact aK this
  refine hQ.new R kp' dd fun θ' hθ=>⟨rfl,.inl ⟨kvs',QE,?_⟩⟩
  have:=W5 (h:=h') (θ:=θ') yg hS QA Rz ql
  obtain e1:((zs.map pO).filter fun p=>!(p.2.beq (.int 0)))=(zs.filter fun z=>z.2 !=0).map pO:=by
   rw[List.filter_map]
   rfl
  refine(e1).symm▸?_
  exact this
end
section
variable {W:Wd}{d:Nat}{cf:Cf}
theorem xh {sc:Scope}{e:Expr}{x:E}(h:aI 0 sc e=some x):False:=by cases h
theorem qB {n:Nat}{sc:Scope}{e:Expr}{x:E}(h:aI n sc e=some x):∀env rest,starEach (e::rest) env=(false,eval e env)::starEach rest env:=by
 intro env rest
 cases n with
 |zero=>exact(xh h).elim
 |succ n=>cases e<;>first |rfl | (have h':none=some x:=h;cases h')
theorem uW {n:Nat}{sc:Scope}{e:Expr}{x:E}(h:aI n sc e=some x):(∀env v,foldedSetIterable e env v=pure v)∧∀op,behindInMarks op e=false:=by
 cases n with
 |zero=>exact(xh h).elim
 |succ n=>cases e<;>first |exact⟨fun _ _=>rfl,fun _=>rfl⟩ | (have h':none=some x:=h;cases h')
theorem T8 {sc:Scope}{y:Str}{x:E}(h:yM sc y=some x):∃i,aN y=some i∧((dw sc y=true∧x=.v i)∨(ei sc y=true∧xU.contains i=true∧x=.g i)):=by
 unfold yM at h
 cases hv:dw sc y with
 |true=>
  rw[hv]at h
  refine am (bY h) fun i h1 e=>?_
  exact⟨i,h1,.inl ⟨rfl,e⟩⟩
 |false=>
  rw[hv]at h
  refine ah fun aa=>?_
  refine dY h fun hg h=>?_
  refine az h fun i h1 h=>?_
  refine dY h fun hc h=>?_
  exact aa (⟨i,h1,.inr ⟨hg,hc,(Option.some.inj h).symm⟩⟩)
theorem mD {b:Bool}{x l:BI}{r:Option BI}(h:x≠l)(k:r≠some l):(bif b then some x else r)≠some l:=by
 cases b with
 |true=>exact fun e=>h (Option.some.inj e)
 |false=>exact k
theorem NF {i:Nat}:tU i≠some .listrange:=mD nofun (mD nofun (mD nofun (mD nofun (mD nofun (mD nofun (mD nofun nofun))))))
theorem HH {n:Nat}{sc:Scope}{e:Expr}{x:E}(h:aI n sc e=some x)(a:Str):∀env,attributeBase e a env (eval e env)=eval e env:=by
 intro env
 cases e with
 |Call f args ks pos=>cases f with
  |Name id p=>cases args with
   |cons _ _=>rfl
   |nil=>cases ks with
    |cons _ _=>rfl
    |nil=>
     have:(id !=("super":Str))=true:=by
      cases n with
      |zero=>exact(xh h).elim
      |succ n=>
       cases q:id !=("super":Str)with
       |true=>rfl
       |false=>
        have e:id=("super":Str):=by simpa using q
        subst e
        refine dY (show bO true (tW sc (aI n sc) (.Name ("super":Str) p) [] pos)=some x from h) fun _ h=>?_
        refine dY (show bO (ei sc ("super":Str)) ((aN ("super":Str)).bind fun i=>bif i==165 then Ku sc (aI n sc) []else(bw (aI n sc) []).map fun es=>Bw i es)=some x from h) fun _ h=>?_
        refine az h fun i h1 _=>?_
        have:aN ("super":Str)=none:=by decide+kernel
        rw[this]at h1
        exact aK h1
     unfold attributeBase
     simp only[this,Bool.true_or,if_true]
  |_=>rfl
 |_=>rfl
theorem ig {n:Nat}{sc:Scope}(ih:∀e x,aI n sc e=some x→aE W d cf sc e x):∀{es:List Expr} {xs:List E},bw (aI n sc) es=some xs→dP W d cf sc es xs∧es.length=xs.length∧el es
 | [],xs,h=>by
  simp only[bw,Option.some.injEq]at h
  subst h
  exact⟨MD,rfl,fun e he=>by simp at he⟩
 |e::es,xs,h=>by
  refine ah fun aa=>?_
  refine bH (ic h) fun x xs' h1 h2 e49=>?_
  subst e49
  refine cJ (ig ih h2) fun i1 i2 i3=>?_
  refine aa ?_
  refine⟨FJ (fun env=>qB h1 env es) (ih e x h1) i1,by simp[i2],fun e' eg=>?_⟩
  rcases List.mem_cons.mp eg with rfl |eg
  ·exact qB h1
  ·exact i3 e' eg
theorem LV {n:Nat}{sc:Scope}(ih:∀e x,aI n sc e=some x→aE W d cf sc e x){es:List Expr}{xs:List E}(h:bw (aI n sc) es=some xs):∀e,es=[e]→∃x,xs=[x]∧aE W d cf sc e x:=by
 rintro e rfl
 refine bH (ic h) fun x xs' h1 h2 e49=>?_
 subst e49
 simp only[bw,Option.some.injEq]at h2
 subst h2
 exact⟨x,rfl,ih e x h1⟩
theorem uG {α:Type}{l:List α}(h:hV l=true):l=[]:=by
 cases l with
 |nil=>rfl
 |cons _ _=>cases h
theorem Us {i:Nat}{k:dB}(h:Av i=some k):(i=208∧k=.range)∨(i=212∧k=.rev)∨(i=80∧k=.enum):=by
 unfold Av at h
 cases h1:i==208 with
 |true=>rw[h1]at h;exact .inl ⟨eq_of_beq h1,(Option.some.inj h).symm⟩
 |false=>
  rw[h1]at h
  cases h2:i==212 with
  |true=>rw[h2]at h;exact .inr (.inl ⟨eq_of_beq h2,(Option.some.inj h).symm⟩)
  |false=>
   rw[h2]at h
   cases h3:i==80 with
   |true=>rw[h3]at h;exact .inr (.inr ⟨eq_of_beq h3,(Option.some.inj h).symm⟩)
   |false=>rw[h3]at h;exact aK h
theorem LY {n:Nat}{sc:Scope}(ih:∀e x,aI n sc e=some x→aE W d cf sc e x){it:Expr}{src:List E}(h:bw (aI n sc) (fG sc it).2=some src):xn sc it (fG sc it).1 (fG sc it).2∧(∀env v,foldedSetIterable it env v=pure v):=by
 unfold fG at h ⊢
 cases q:(xt it).bind fun c=>(dQ c.1).bind fun f=>bO (ei sc f&&hV c.2.2) ((aN f).bind fun i=>(Av i).map fun k=>(k,c.2.1))with
 |none=>
  rw[q]at h
  refine ah fun aa=>?_
  refine bH (ic h) fun x xs' h1 h2 e49=>?_
  subst e49
  exact aa (⟨rfl,(uW h1).1⟩)
 |some r=>
  rw[q]at h
  refine az q fun c q1 q=>?_
  refine az q fun f q2 q=>?_
  refine dY q fun q3 q=>?_
  refine az q fun i q4 q=>?_
  refine am (bY q) fun k q5 e29=>?_
  subst e29
  rw[Bool.and_eq_true]at q3
  obtain⟨pq,e18⟩:=Hz q1
  clear q q1
  clear q
  clear q
  clear q
  clear q
  subst e18
  obtain⟨c1,c2,c3⟩:=c
  obtain⟨p,e1⟩:=eY q2
  dsimp only at e1 h ⊢
  clear q2
  subst e1
  obtain e3:=uG q3.2
  dsimp only at e3
  subst e3
  refine⟨?_,fun _ _=>rfl⟩
  rcases Us q5 with⟨rfl,rfl⟩ | ⟨rfl,rfl⟩ | ⟨rfl,rfl⟩
  ·exact⟨f,p,pq,rfl,q4,q3.1,(ig ih h).2.2⟩
  ·exact⟨f,p,pq,rfl,q4,q3.1,(ig ih h).2.2⟩
  ·exact⟨f,p,pq,rfl,q4,q3.1,(ig ih h).2.2⟩
theorem Iw {sc sc':Scope}{ts:List Str}{xs:List Nat}(h:xI sc sc' ts=true)(hx:∀y∈ts,∃i,aN y=some i∧i∈xs):jr sc sc' xs:=by
 unfold xI at h
 rw[Bool.and_eq_true,List.all_eq_true]at h
 refine lH h fun h1 h2=>?_
 have k:∀p∈sc'.names,p.2≠.cell∧(p.2=.local→sc'.names.lookup p.1=some .local∧(aN p.1=none∨p.1∈ts))∧(p.2=.free→sc.names.lookup p.1=some .cell∨sc.names.lookup p.1=some .free):=fun p hp=>by
  have:=h2 p hp
  simp only[Bool.and_eq_true,Bool.or_eq_true,bne_iff_ne,ne_eq,beq_iff_eq,List.contains_iff_mem]at this
  refine ah fun aa=>?_
  obtain⟨⟨a,b⟩,c⟩:=this
  refine aa ?_
  refine⟨a,fun e=>?_,fun e=>?_⟩
  ·rcases b with b |b
   ·exact absurd e b
   ·exact b
  ·rcases c with c |c
   ·exact absurd e c
   ·exact c
 refine⟨by simpa using h1,fun p hp=>(k p hp).1,fun p hp e=>?_,fun p hp e=>(k p hp).2.2 e⟩
 obtain⟨a,b⟩:=(k p hp).2.1 e
 refine⟨a,fun i hi=>?_⟩
 refine ah fun aa=>?_
 rcases b with b |b
 ·rw[b]at hi;exact aK hi
 ·refine am (hx _ b) fun j h3 h4=>?_
  rw[h3]at hi
  refine aR hi ?_
  clear hi
  rintro rfl
  exact aa h4
theorem W0 {sc:Scope}{t:Expr}{xs:List Nat}{one:Bool}(h:ft sc t=some (xs,one)):∀y∈yN t,∃i,aN y=some i∧i∈xs:=by
 refine ah fun aa=>?_
 rcases xc h with⟨x,i,p,rfl,hx,hi,rfl,rfl⟩ | ⟨x,y,i,j,p,q,kk,r,rfl,hx,hy,hi,hj,rfl,rfl⟩
 ·refine aa ?_
  intro z hz
  obtain hz:z∈[x]:=hz
  rw[List.mem_singleton]at hz
  clear h hx
  subst hz
  exact⟨i,hi,by simp⟩
 ·refine aa ?_
  intro z hz
  obtain hz:z∈[x,y]:=hz
  simp only[List.mem_cons,List.not_mem_nil,or_false]at hz
  rcases hz with rfl |rfl
  ·exact⟨i,hi,by simp⟩
  ·exact⟨j,hj,by simp⟩
theorem Tr {sc:Scope}{t:Expr}(h:(yN t).all (fun y=>sc.names.lookup y==some .local)=true):tO sc true t:=by
 intro _ x _ hx
 rw[List.all_eq_true]at h
 rcases hx with⟨p,rfl⟩ | ⟨y,p,q,kk,r,rfl |rfl⟩
 ·simpa using h x (show x∈[x] by simp)
 ·simpa using h x (show x∈[x,y] by simp)
 ·simpa using h x (show x∈[y,x] by simp)
theorem IN {sc:Scope}{t:Expr}{xs:List Nat}{one:Bool}{k:dB}(h:ft sc t=some (xs,one))(he:(k !=.enum||!one)=true):AO k t:=by
 rintro rfl
 refine ah fun aa=>?_
 rcases xc h with⟨x,i,p,rfl,hx,hi,rfl,rfl⟩ | ⟨x,y,i,j,p,q,kk,r,rfl,hx,hy,hi,hj,rfl,rfl⟩
 ·simp at he
 ·exact aa (⟨_,_,_,rfl⟩)
theorem L8 {n:Nat}{sc:Scope}(ih:∀e x,aI n sc e=some x→aE W d cf sc e x):∀{ks:List (Option Expr)} {vs:List Expr} {xs ys:List E},bw (fun k:Option Expr=>k.bind (aI n sc)) ks=some xs→bw (aI n sc) vs=some ys→ks.length=vs.length→ju W d cf sc ks vs ((xs.zip ys).flatMap fun p=>[p.1,p.2])
 | [],[],xs,ys,h1,h2,_=>by
  simp only[bw,Option.some.injEq]at h1 h2
  subst h1 h2
  exact .nil
 |k::ks,v::vs,xs,ys,h1,h2,hl=>by
  refine ah fun aa=>?_
  refine bH (ic h1) fun x xs' a1 a2 e49=>?_
  subst e49
  refine bH (ic h2) fun y ys' b1 b2 e49=>?_
  subst e49
  cases k with
  |none=>exact aK a1
  |some k=>refine aa ?_;exact .cons (ih k x a1) (ih v y b1) (L8 ih a2 b2 (by simpa using hl))
 | [],_::_,_,_,_,_,hl=>by simp at hl
 |_::_,[],_,_,_,_,hl=>by simp at hl
theorem Xl {n:Nat}{sc:Scope}(ih:∀e x,aI n sc e=some x→bK W d cf sc e x){ifs:List Expr}{fs:List E}(h:bw (aI n sc) ifs=some fs)(hl:ifs.length≤1):tS W d cf sc ifs fs:=by
 match ifs,h,hl with
 | [],h,_=>
  simp only[bw,Option.some.injEq]at h
  exact .inl ⟨rfl,h.symm⟩
 | [c],h,_=>
  refine bH (ic h) fun x xs' h1 h2 e49=>?_
  subst e49
  simp only[bw,Option.some.injEq]at h2
  subst h2
  exact .inr ⟨c,x,rfl,rfl,ih c x h1⟩
 |_::_::_,_,hl=>simp at hl
theorem Kk {n:Nat}(wo:bW W)(ihE:∀sc e x,aI n sc e=some x→aE W d cf sc e x)(ihT:∀sc e x,aI n sc e=some x→bK W d cf sc e x){sc sc':Scope}{elt:Expr}{gens:List Comprehension}{x:E}(h:yE (aI n sc) (aI n sc') sc sc' elt gens=some x):
  ∃t it ifs xs one k src fs y,gens=[⟨t,it,ifs,0⟩]∧x=.lcomp xs one k src fs y∧tN W d cf sc sc' t it elt ifs xs one k src fs y:=by
 refine ah fun aa=>?_
 refine az h fun e09 g1 h=>?_
 obtain⟨t,it,ifs,ia⟩:=e09
 refine az h fun e09 g2 h=>?_
 obtain⟨xs,one⟩:=e09
 refine az h fun src g3 h=>?_
 refine az h fun fs g4 h=>?_
 refine az h fun y g5 h=>?_
 refine dY h fun hc h9=>?_
 dsimp only at g2 g3 g4 hc h9
 simp only[Bool.and_eq_true,beq_iff_eq]at hc
 refine F9 hc fun e09 c1 c2 c3 c4=>?_
 subst e09
 refine cJ (ig (ihE sc) g3) fun i1 i2 i3=>?_
 obtain⟨o1,o2⟩:=LY (ihE sc) g3
 exact aa (⟨t,it,ifs,xs,one,_,src,fs,y,d8 g1,(Option.some.inj h9).symm,⟨⟨_,o1,i1,LV (ihE sc) g3⟩,IN g2 c4,Iw c1 (W0 g2),g2,Tr c2,ihE _ _ _ g5,Xl (ihT sc') g4 (of_decide_eq_true c3),o2⟩⟩)
theorem Ps (wo:bW W){sc sc':Scope}{k v:Expr}{gens:List Comprehension}{x:E}{pos:Pos}(h:ID sc sc' k v gens=some x):aE W d cf sc (.DictComp k v gens sc' pos) x:=by
 refine ah fun aa=>?_
 refine az h fun a g1 h=>?_
 refine az h fun s g2 h=>?_
 refine az h fun e09 g3 h=>?_
 obtain⟨t,it,ifs,ia⟩:=e09
 refine az h fun x2 g4 h=>?_
 refine az h fun y1 g5 h=>?_
 refine az h fun c g6 h=>?_
 refine az h fun l g7 h=>?_
 refine az h fun s' g8 h=>?_
 refine dY h fun hc h=>?_
 refine az h fun j g9 h=>?_
 refine am (bY h) fun i g10 e29=>?_
 subst e29
 dsimp only at g4 g5 g6 hc
 simp only[Bool.and_eq_true,beq_iff_eq]at hc
 obtain⟨rfl,e1,e2,e3,e4,e5,c1,c2,c3,c4⟩:=hc
 refine az g2 fun z k1 k=>?_
 refine az k fun yy k2 k=>?_
 refine am (bY k) fun xx k3 e29=>?_
 subst e29
 refine az g8 fun z' m1 m=>?_
 refine az m fun yy' m2 m=>?_
 refine am (bY m) fun xx' m3 e29=>?_
 subst e29
 dsimp only at e1 e3 e4 e5 c2 c3 g10
 subst e1 e2 e4
 subst e3 e5
 refine az g7 fun cc n1 n=>?_
 refine az n fun o n2 n=>?_
 refine az n fun rr n3 n=>?_
 refine az n fun kk n4 n=>?_
 refine az n fun ii n5 n=>?_
 refine dY n fun n6 n=>?_
 rw[Bool.and_eq_true,decide_eq_true_eq,beq_iff_eq]at n6
 obtain⟨rfl,rfl⟩:=n6
 obtain⟨p1,e18⟩:=eY g1
 clear h g1
 clear h
 clear h
 clear h
 clear h
 clear h
 subst e18
 obtain⟨p4,rfl⟩:=Bm k1
 obtain⟨p2,f1⟩:=eY k2
 obtain⟨p3,f2⟩:=eY k3
 obtain⟨p5,e18⟩:=eY g4
 clear g4
 subst e18
 obtain⟨p6,e18⟩:=eY g5
 clear g5
 subst e18
 obtain⟨p11,e18⟩:=Np n1
 clear n1 g7
 subst e18
 obtain⟨p9,f3⟩:=Bm m1
 obtain⟨p7,f4⟩:=eY m2
 obtain⟨p8,f5⟩:=eY m3
 refine Gb (Nq n4) fun k10 p10 f6=>?_
 refine aa ?_
 refine(f1).symm▸?_
 refine(f2).symm▸?_
 refine(d8 g3).symm▸?_
 refine(d8 g6).symm▸?_
 refine(d8 n2).symm▸?_
 refine(d8 n3).symm▸?_
 refine(f6).symm▸?_
 refine(Nr n5).symm▸?_
 refine(Option.some.inj n).symm▸?_
 refine(f3).symm▸?_
 refine(f4).symm▸?_
 refine(f5).symm▸?_
 exact Wm wo g9 (Iw c1 fun z hz=>⟨j,by rw[List.mem_singleton.mp hz];exact g9,by simp⟩) c2 g10 c3 c4
theorem O6 (wo:bW W)(cM:gf W d cf){n:Nat}{sc:Scope}(ihE:∀e x,aI n sc e=some x→aE W d cf sc e x){f:Expr}{args:List Expr}{cp:Pos}{x:E}(h:tW sc (aI n sc) f args cp=some x):aE W d cf sc (.Call f args [] cp) x:=by
 unfold tW at h
 cases hn:dQ f with
 |none=>
  rw[hn]at h
  obtain⟨⟨o,a,ap⟩,h0,h⟩:=a5 h
  obtain⟨u,h1,h⟩:=a5 h
  obtain⟨i,h2,h⟩:=a5 h
  obtain⟨es,h3,h⟩:=a5 h
  obtain⟨hc,h⟩:=gZ h
  cases h
  rw[Hy h0]
  dsimp only at h1 h2 hc ⊢
  rw[Bool.and_eq_true]at hc
  obtain⟨i1,i2,i3⟩:=ig ihE h3
  exact Ww wo cM h2 (HH h1 a) (ihE _ _ h1) i3 (of_decide_eq_true hc.1) i1 hc.2
 |some y=>
  rw[hn]at h
  obtain⟨p,e18⟩:=eY hn
  clear hn
  subst e18
  obtain⟨hg,h⟩:=gZ h
  obtain⟨i,hi,h⟩:=a5 h
  cases h165:i==165 with
  |true=>
   rw[h165]at h
   obtain e165:=eq_of_beq h165
   subst e165
   obtain⟨c,l1,h⟩:=a5 h
   obtain⟨⟨c1,c2,c3⟩,l2,h⟩:=a5 h
   obtain⟨r,l3,h⟩:=a5 h
   obtain⟨hc,h⟩:=gZ h
   obtain⟨⟨a,b⟩,l4,h⟩:=a5 h
   obtain⟨u,h1,h⟩:=a5 h
   obtain⟨v,h2,rfl⟩:=bY h
   dsimp only at l3 l4 h1 h2 hc
   simp only[Bool.and_eq_true,beq_iff_eq]at hc
   obtain⟨q2,e1⟩:=Hz l2
   obtain⟨q,e2⟩:=eY l3
   obtain e3:=uG hc.1
   have e4:=fL l4
   dsimp only at e1 e4
   refine(d8 l1).symm▸?_
   refine(e1).symm▸?_
   refine(e2).symm▸?_
   refine(e3).symm▸?_
   refine(e4).symm▸?_
   have L:dP W d cf sc [a,b] [u,v]:=FJ (fun env=>qB h1 env _) (ihE _ _ h1) (FJ (fun env=>qB h2 env _) (ihE _ _ h2) MD)
   have st:el [a,b]:=fun e' eg=>by
    rcases List.mem_cons.mp eg with rfl |eg
    ·exact qB h1
    ·rw[List.mem_singleton.mp eg];exact qB h2
   obtain Q8:=@Wu W d cf sc wo y r hi hg hc.2.2 hc.2.1 a b u v st @L p q cp q2
   exact @Q8
  |false=>
   rw[h165]at h
   obtain⟨es,ck,rfl⟩:=bY h
   obtain⟨i1,i2,i3⟩:=ig ihE ck
   unfold Bw
   cases hb:tU i with
   |some b=>
    exact Wc wo hi hg hb (fun e=>NF (e▸hb)) i3 i1 _ _
   |none=>exact Wg wo cM hi hg i3 i1 _ _
theorem pG (wo:bW W)(cM:gf W d cf):∀(n:Nat) (sc:Scope) (e:Expr) (x:E),aI n sc e=some x→aE W d cf sc e x∧bK W d cf sc e x
 |0,sc,e,x,h=>(xh h).elim
 |n+1,sc,e,x,h=>by
  have ihE:∀sc e x,aI n sc e=some x→aE W d cf sc e x:=fun sc e x h=>(pG wo cM n sc e x h).1
  have ihT:∀sc e x,aI n sc e=some x→bK W d cf sc e x:=fun sc e x h=>(pG wo cM n sc e x h).2
  cases e with
  |Constant c k pos=>
   have key:aE W d cf sc (.Constant c k pos) x:=by
    obtain h:IA c=some x:=h
    cases c with
    |none=>cases h;have f:=@Wy W d cf sc k pos;exact @f
    |bool b=>cases h;have f:=@Wf W d cf sc b k pos;exact @f
    |int i=>cases h;have f:=@Wt W d cf sc i k pos;exact @f
    |str s=>
     obtain⟨i,h1,rfl⟩:=bY (show(aN s).map E.cs=some x from h)
     obtain f:=@WH W d cf sc s i h1 k pos;exact @f
    |_=>cases h
   exact⟨key,bK.plain key fun _ _=>rfl⟩
  |Name y pos=>
   have key:aE W d cf sc (.Name y pos) x:=by
    obtain⟨i,h1,⟨h2,rfl⟩ | ⟨h2,h3,rfl⟩⟩:=T8 (show yM sc y=some x from h)
    ·exact WK h1 h2 _
    ·exact Wp wo h1 h2 h3 _
   exact⟨key,bK.plain key fun _ _=>rfl⟩
  |BinOp a op b pos=>
   have key:aE W d cf sc (.BinOp a op b pos) x:=by
    obtain⟨o,h1,h⟩:=a5 (show(AQ op).bind (fun o=>(aI n sc a).bind fun x=>(aI n sc b).map fun y=>E.bin o x y)=some x from h)
    obtain⟨u,h2,h⟩:=a5 h
    refine fE h fun v h3=>?_
    exact We h1 (ihE _ _ _ h2) (ihE _ _ _ h3) _
   exact⟨key,bK.plain key fun _ _=>rfl⟩
  |UnaryOp op a pos=>
   obtain h:M2 op (aI n sc a)=some x:=h
   cases op<;>first | (cases h;done) |skip
   ·refine fE h fun u h1=>?_
    exact⟨Wz (ihE _ _ _ h1) _,V5 (ihT _ _ _ h1) _⟩
   ·refine fE h fun u h1=>?_
    have key:aE W d cf sc (.UnaryOp .USub a pos) (.neg u):=Wx (ihE _ _ _ h1) _
    exact⟨key,bK.plain key fun _ _=>rfl⟩
  |BoolOp op es pos=>
   have h:HT (aI n sc) (uJ op) es=some x:=h
   cases es with
   |nil=>exact aK h
   |cons a es=>
    cases es with
    |nil=>exact aK h
    |cons b es=>
     cases es with
     |nil=>
      refine ah fun aa=>?_
      refine az (show(aI n sc a).bind (fun x=>(aI n sc b).map fun y=>uJ op x y)=some x from h) fun u h1 h=>?_
      refine am (bY h) fun v h2 e29=>?_
      subst e29
      cases op
      ·exact aa (⟨FM (ihE _ _ _ h1) (AI (ihE _ _ _ h2)),FK (ihT _ _ _ h1) (ME (ihT _ _ _ h2))⟩)
      ·exact aa (⟨FN (ihE _ _ _ h1) (AI (ihE _ _ _ h2)),FL (ihT _ _ _ h1) (MF (ihT _ _ _ h2))⟩)
     |cons c es=>
      cases es with
      |cons _ _=>exact aK h
      |nil=>
       refine az (show(aI n sc a).bind (fun x=>(aI n sc b).bind fun y=>(aI n sc c).map fun z=>uJ op x (uJ op y z))=some x from h) fun u h1 h=>?_
       refine az h fun v h2 h=>?_
       refine fE h fun w h3=>?_
       cases op
       ·exact⟨FM (ihE _ _ _ h1) (FM (ihE _ _ _ h2) (AI (ihE _ _ _ h3))),FK (ihT _ _ _ h1) (FK (ihT _ _ _ h2) (ME (ihT _ _ _ h3)))⟩
       ·exact⟨FN (ihE _ _ _ h1) (FN (ihE _ _ _ h2) (AI (ihE _ _ _ h3))),FL (ihT _ _ _ h1) (FL (ihT _ _ _ h2) (MF (ihT _ _ _ h3)))⟩
  |Compare a ops es pos=>
   have h:BA (aI n sc) a ops es=some x:=h
   unfold BA at h
   refine ah fun aa=>?_
   cases ho:one ops with
   |some o=>
    rw[ho]at h
    refine az h fun b h0 h=>?_
    refine az h fun u h1 h=>?_
    refine am (bY h) fun v h2 e29=>?_
    subst e29
    refine aa ?_
    refine(d8 ho).symm▸?_
    refine(d8 h0).symm▸?_
    exact⟨Wi wo ((uW h2).2 _) (ihE _ _ _ h1) (ihE _ _ _ h2) _,V3 wo ((uW h2).2 _) (ihE _ _ _ h1) (ihE _ _ _ h2) _⟩
   |none=>
    rw[ho]at h
    refine az h fun o g0 h=>?_
    refine az h fun b h0 h=>?_
    refine az h fun u h1 h=>?_
    refine az h fun v h2 h=>?_
    refine am (bY h) fun w h3 e29=>?_
    subst e29
    refine aa ?_
    refine(fL g0).symm▸?_
    refine(fL h0).symm▸?_
    exact⟨Wh wo ((uW h3).2 _) (ihE _ _ _ h1) (ihE _ _ _ h2) (ihE _ _ _ h3) _,V2 wo ((uW h3).2 _) (ihE _ _ _ h1) (ihE _ _ _ h2) (ihE _ _ _ h3) _⟩
  |IfExp c a b pos=>
   refine ah fun aa=>?_
   refine az (show(aI n sc c).bind (fun x=>(aI n sc a).bind fun y=>(aI n sc b).map fun z=>E.ife x y z)=some x from h) fun u h1 h=>?_
   refine az h fun v h2 h=>?_
   refine am (bY h) fun w h3 e29=>?_
   subst e29
   exact aa (⟨Ws (ihT _ _ _ h1) (ihE _ _ _ h2) (ihE _ _ _ h3) _,V4 (ihT _ _ _ h1) (ihT _ _ _ h2) (ihT _ _ _ h3) _⟩)
  |Call f args ks cp=>
   have key:aE W d cf sc (.Call f args ks cp) x:=by
    obtain⟨h0,h⟩:=gZ (show bO (hV ks) (tW sc (aI n sc) f args cp)=some x from h)
    rw[uG h0]
    exact O6 wo cM (ihE sc) h
   exact⟨key,bK.plain key fun _ _=>rfl⟩
  |Attribute o a pos=>
   have key:aE W d cf sc (.Attribute o a pos) x:=by
    obtain⟨u,h1,h⟩:=a5 (show(aI n sc o).bind (fun x=>(aN a).map fun i=>E.attr x i)=some x from h)
    refine fE h fun i h2=>?_
    exact Wb wo h2 (HH h1 a) (ihE _ _ _ h1) _
   exact⟨key,bK.plain key fun _ _=>rfl⟩
  |Subscript o i pos=>
   have key:aE W d cf sc (.Subscript o i pos) x:=by
    have h:FT (aI n sc) o i=some x:=h
    unfold FT at h
    cases hs:Bl i with
    |none=>
     rw[hs]at h
     obtain⟨u,h1,h⟩:=a5 h
     refine fE h fun v h2=>?_
     have fin:=@Wq W d cf sc wo o i u v (@ihE _ _ _ h1) (@ihE _ _ _ h2) pos
     exact @fin
    |some q=>
     rw[hs]at h
     obtain⟨lo,hi,st⟩:=q
     dsimp only at h
     cases st with
     |some _=>cases h
     |none=>
      obtain⟨u,h1,h⟩:=a5 h
      obtain⟨v,h2,h⟩:=a5 h
      refine fE h fun w h3=>?_
      obtain⟨p,rfl⟩:∃p,i=.Slice lo hi none p:=by
       cases i<;>first | (cases hs;done) | (cases hs;exact⟨_,rfl⟩)
      have fin:=@WG W d cf sc o u v w lo hi (@ihE _ _ _ h1) (by
       cases lo with
       |none=>exact(Option.some.inj h2).symm
       |some l=>exact ihE _ _ _ h2) (by
       cases hi with
       |none=>exact(Option.some.inj h3).symm
       |some l=>exact ihE _ _ _ h3) p pos
      exact @fin
   exact⟨key,bK.plain key fun _ _=>rfl⟩
  |List es pos=>
   have key:aE W d cf sc (.List es pos) x:=by
    obtain⟨hl,h⟩:=gZ (show bO (decide (es.length≤1000)) ((bw (aI n sc) es).map .lst)=some x from h)
    obtain⟨xs,h1,rfl⟩:=bY h
    obtain⟨i1,i2,i3⟩:=ig (ihE sc) h1
    exact Wv (of_decide_eq_true hl) i2 i1 _
   exact⟨key,bK.plain key fun _ _=>rfl⟩
  |Tuple es k pos=>
   have key:aE W d cf sc (.Tuple es k pos) x:=by
    obtain⟨hl,h⟩:=gZ (show bO (decide (es.length≤1000)) ((bw (aI n sc) es).map .tup)=some x from h)
    obtain⟨xs,h1,rfl⟩:=bY h
    obtain⟨i1,i2,i3⟩:=ig (ihE sc) h1
    exact WJ (of_decide_eq_true hl) i2 i1 _ _
   exact⟨key,bK.plain key fun _ _=>rfl⟩
  |Dict ks vs pos=>
   have key:aE W d cf sc (.Dict ks vs pos) x:=by
    obtain⟨xs,h1,h⟩:=a5 (show(bw (fun k:Option Expr=>k.bind (aI n sc)) ks).bind (fun xs=>(bw (aI n sc) vs).bind fun ys=>bO (decide (ks.length≤15)&&ks.length==vs.length) (some (E.dct ((xs.zip ys).flatMap fun p=>[p.1,p.2]))))=some x from h)
    obtain⟨ys,h2,h⟩:=a5 h
    obtain⟨hl,h⟩:=gZ h
    cases h
    rw[Bool.and_eq_true]at hl
    exact Wk (L8 (ihE sc) h1 h2 (eq_of_beq hl.2)) (of_decide_eq_true hl.1) _
   exact⟨key,bK.plain key fun _ _=>rfl⟩
  |ListComp elt gens sc' pos=>
   have key:aE W d cf sc (.ListComp elt gens sc' pos) x:=by
    obtain⟨t,it,ifs,xs,one,k,src,fs,y,rfl,rfl,L⟩:=Kk wo ihE ihT (show yE (aI n sc) (aI n sc') sc sc' elt gens=some x from h)
    exact MG wo L _
   exact⟨key,bK.plain key fun _ _=>rfl⟩
  |DictComp k v gens sc' pos=>
   have key:aE W d cf sc (.DictComp k v gens sc' pos) x:=Ps wo h
   exact⟨key,bK.plain key fun _ _=>rfl⟩
  |_=>exact absurd (show none=some x from h) (by intro h;cases h)
end
section
variable {W:Wd}{d:Nat}{cf:Cf}
theorem Xf {e:Expr}(h:uE e=false):∀env n,swapsWith e none n env=pure false:=by
 intro env n
 cases e<;>first |rfl |cases h
theorem Xe {e:Expr}(h:uE e=false):∀env n p y,swapsWith e (some (.Name y p)) n env=pure false:=by
 intro env n p y
 cases e<;>first |rfl |cases h
theorem Xh {e:Expr} {es k r}:∀env n,swapsWith e (some (.Tuple es k r)) n env=pure false:=by
 intro env n
 cases e<;>rfl
theorem Xc {e o:Expr} {a}:∀env n p,swapsWith e (some (.Attribute o a p)) n env=pure false:=by
 intro env n p
 cases e<;>rfl
theorem Xg {e o i:Expr}:∀env n p,swapsWith e (some (.Subscript o i p)) n env=pure false:=by
 intro env n p
 cases e<;>rfl
theorem Td (wo:bW W)(cM:gf W d cf){n:Nat}{sc sc':Scope}{elt:Expr}{gens:List Comprehension}{pos:Pos}{x:E}(h:aI n sc (.ListComp elt gens sc' pos)=some x):
  ∃t it ifs xs one k src fs y,gens=[⟨t,it,ifs,0⟩]∧x=.lcomp xs one k src fs y∧tN W d cf sc sc' t it elt ifs xs one k src fs y:=by
 refine ah fun aa=>?_
 cases n with
 |zero=>refine aa ?_;exact(xh h).elim
 |succ n=>refine aa ?_;exact Kk wo (fun sc e x h=>(pG wo cM n sc e x h).1) (fun sc e x h=>(pG wo cM n sc e x h).2) (show yE (aI n sc) (aI n sc') sc sc' elt gens=some x from h)
theorem Nw (wo:bW W)(cM:gf W d cf){n:Nat}{sc:Scope}{t e:Expr}{u:Tg}{x:E}(ht:AR n sc t=some u)(he:aI n sc e=some x)(ch:Bo t e=true)(pos:Pos):em W d cf sc (.Assign [t] e pos) (.asg u x):=by
 have ihE:∀sc e x,aI n sc e=some x→aE W d cf sc e x:=fun sc e x h=>(pG wo cM n sc e x h).1
 unfold AR at ht
 cases hn:dQ t with
 |some y=>
  rw[hn]at ht
  obtain⟨p,rfl⟩:=eY hn
  obtain⟨hy,ht⟩:=gZ ht
  refine fE ht fun i hi=>?_
  cases hc:uE e with
  |false=>
   obtain iP:∀env n p,swapsWith e (some (.Name y p)) n env=pure false:=fun env n p=>Xe hc env n p y
   exact @V9 W d cf sc e x y i hy hi (@ihE _ _ _ he) iP p pos
  |true=>
   cases e with
   |ListComp elt gens sc' r=>
    obtain⟨t,it,ifs,xs,one,k,src,fs,z,rfl,rfl,L⟩:=Td wo cM he
    exact @V7 W d cf sc _ _ wo y i hy hi _ _ _ _ _ _ _ _ _ L _ _ _
   |SetComp _ _ _ _=>cases n<;>cases he
   |DictComp _ _ _ _ _=>cases ch
   |_=>cases hc
 |none=>
  rw[hn]at ht
  cases ha:xr t with
  |some q=>
   rw[ha]at ht
   obtain⟨y,h1,ht⟩:=a5 ht
   refine fE ht fun i h2=>?_
   refine(Hy ha).symm▸?_
   obtain iP:∀env n p,swapsWith e (some (.Attribute q.1 q.2.1 p)) n env=pure false:=fun env n p=>Xc env n p
   exact @V6 W d cf sc wo e q.1 x y q.2.1 i h2 (@ihE _ _ _ he) (@ihE _ _ _ h1) iP q.2.2 pos
  |none=>
   rw[ha]at ht
   cases hs:xy t with
   |some q=>
    rw[hs]at ht
    obtain⟨p,rfl⟩:=Bm hs
    obtain⟨_,ht⟩:=gZ ht
    obtain⟨y,h1,ht⟩:=a5 ht
    refine fE ht fun z h2=>?_
    obtain iP:∀env n p,swapsWith e (some (.Subscript q.1 q.2 p)) n env=pure false:=fun env n p=>Xg env n p
    exact @V8 W d cf sc wo e q.1 q.2 x y z (@ihE _ _ _ he) (@ihE _ _ _ h1) (@ihE _ _ _ h2) iP p pos
   |none=>
    rw[hs]at ht
    obtain⟨⟨xs,one⟩,h1,e28⟩:=bY ht
    clear ht
    subst e28
    rcases xc h1 with⟨y,i,q,rfl,_⟩ | ⟨a,b,i,j,p,q,kk,r,rfl,hx,hy,hi,hj,rfl,rfl⟩
    ·cases hn
    ·obtain hv:∀vs k pos,e=.Tuple vs k pos→vs.all (constantsAlone 8)=false:=fun vs k pos e'=>by
      subst e'
      exact(Bool.not_eq_true' _).mp ch
     obtain f:=@Wa W d cf sc e x a b p q r kk i j h1 (@ihE _ _ _ he) (fun env n=>Xh env n) hv pos
     exact @f
theorem MZ (wo:bW W)(cM:gf W d cf):∀(n:Nat) (sc:Scope) (s:Stmt) (x:S),gI n sc s=some x→em W d cf sc s x
 |0,sc,s,x,h=>by cases h
 |n+1,sc,s,x,h=>by
  have ihE:∀sc e x,aI n sc e=some x→aE W d cf sc e x:=fun sc e x h=>(pG wo cM n sc e x h).1
  have ihT:∀sc e x,aI n sc e=some x→bK W d cf sc e x:=fun sc e x h=>(pG wo cM n sc e x h).2
  have ihB:∀(b:List Stmt) (xs:List S),bw (gI n sc) b=some xs→gg W d cf sc b xs:=by
   intro b
   induction b with
   |nil=>
    intro xs h
    refine aR h ?_
    clear h
    rintro rfl
    exact MB
   |cons s b ih=>
    intro xs h
    refine bH (ic h) fun x xs' h1 h2 e49=>?_
    subst e49
    exact MA (MZ wo cM n sc s x h1) (ih xs' h2)
  refine ah fun aa=>?_
  cases s with
  |Return e pos=>
   refine am (bY (show(Ar (aI n sc) e).map S.ret=some x from h)) fun u h1 e29=>?_
   subst e29
   cases e with
   |some e=>refine aa ?_;exact WD (ihE _ _ _ h1) _
   |none=>
    refine aR h1 ?_
    clear h1
    rintro rfl
    exact aa (WF _)
  |Expr e pos=>
   refine dY (show bO (!uE e) ((aI n sc e).map .expr)=some x from h) fun hc h=>?_
   obtain⟨u,h1,rfl⟩:=bY h
   exact aa (Wn (ihE _ _ _ h1) (Xf ((Bool.not_eq_true' _).mp hc)) _)
  |Assign ts e pos=>
   refine az (show(one ts).bind (fun t=>(AR n sc t).bind fun x=>(aI n sc e).bind fun y=>bO (Bo t e) (some (S.asg x y)))=some x from h) fun t h0 h=>?_
   refine az h fun u h1 h=>?_
   refine az h fun v h2 h=>?_
   refine dY h fun ch h=>?_
   refine aR h ?_
   clear h
   rintro rfl
   refine aa ?_
   refine(d8 h0).symm▸?_
   exact Nw wo cM h1 h2 ch _
  |If c a b pos=>
   refine az (show(aI n sc c).bind (fun x=>(bw (gI n sc) a).bind fun y=>(bw (gI n sc) b).map fun z=>S.iff x y z)=some x from h) fun u h1 h=>?_
   refine az h fun v h2 h=>?_
   refine am (bY h) fun w h3 e29=>?_
   subst e29
   exact aa (Wr (ihT _ _ _ h1) (ihB _ _ h2) (ihB _ _ h3) _)
  |While c a b pos=>
   refine dY (show bO (hV b) ((aI n sc c).bind fun x=>(bw (gI n sc) a).map fun y=>S.whl x y)=some x from h) fun hb h=>?_
   refine az h fun u h1 h=>?_
   obtain⟨v,h2,rfl⟩:=bY h
   refine aa ?_
   refine(uG hb).symm▸?_
   exact WM (ihT _ _ _ h1) (ihB _ _ h2) _
  |For t it a b pos=>
   refine dY (show bO (hV b) ((ft sc t).bind fun p=>(bw (aI n sc) (fG sc it).2).bind fun src=>(bw (gI n sc) a).bind fun q=>bO ((fG sc it).1 !=.enum||!p.2) (some (S.for p.1 p.2 (fG sc it).1 src q)))=some x from h) fun hb h=>?_
   refine az h fun e09 h1 h=>?_
   obtain⟨xs,one⟩:=e09
   refine az h fun src h2 h=>?_
   refine az h fun q h3 h=>?_
   refine dY h fun hk h=>?_
   refine aR h ?_
   clear h
   rintro rfl
   refine cJ (ig (ihE sc) h2) fun i1 i2 i3=>?_
   obtain⟨o1,o2⟩:=LY (ihE sc) h2
   refine aa ?_
   refine(uG hb).symm▸?_
   exact Wo wo o1 (IN h1 hk) i1 (LV (ihE sc) h2) h1 o2 (ihB _ _ h3) _
  |Continue pos=>
   refine aR h ?_
   clear h
   rintro rfl
   exact aa (Wj _)
  |Pass pos=>
   refine aR h ?_
   clear h
   rintro rfl
   exact aa (WA _)
  |_=>exact aK h
theorem Xp (wo:bW W)(cM:gf W d cf){sc:Scope}{body:List Stmt}{b:List S}(h:pF sc body=some b):gg W d cf sc body b:=by
 unfold pF at h
 revert b
 induction body with
 |nil=>
  intro b h
  simp only[bw,Option.some.injEq]at h
  subst h
  exact MB
 |cons s body ih=>
  intro b h
  refine bH (ic h) fun x xs' h1 h2 e49=>?_
  subst e49
  exact MA (MZ wo cM 30 sc s x h1) (ih h2)
theorem O8 (wo:bW W)(wf:Bg W):∀d,gf W d (ao W.T d):=Ii wo wf fun d cf cM sc body b h=>Xp wo cM h
end
end
namespace Hd
open PySem PySem.W PySem.Calls PyProof.Rows
noncomputable section
noncomputable abbrev pw:Program:=PySem.Challenge.pw_nz0118_01
noncomputable def k (s:String):Str:=Str.ofString s
noncomputable def S (s:String)(t:Tok):Value:=.str (Str.ofString s) t
noncomputable def I (i:Int):Value:=.int i 0
noncomputable def R (a:Addr):Value:=.ref a
noncomputable def N0:Value:=.none
noncomputable def en (P:Params)(s:String)(t:Tok)(v:Value):DictEntry:=⟨PyData.keyHash P (Str.ofString s),.str (Str.ofString s) t,v⟩
noncomputable def tp (l:List Value):Obj:=⟨.type "tuple",none,.seq l.toArray 0,(List.nil:List (Option Value)).toArray⟩
noncomputable def fl (l:List Value):Obj:=⟨.none,none,.fields l.toArray,(List.nil:List (Option Value)).toArray⟩
noncomputable def cd (a b c:String)(t:Tok)(i1 i2 i3 i4 i5:Int)(r1:Addr)(bb:Bool)(i6:Int)(r2:Addr)(v1 v2 v3:Value)(i7:Nat):Obj:=
 ⟨.type "code",none,.fields ([S a t,S b (t+1),S c (t+2),I i1,I i2,I i3,I i4,I i5,R r1,.bool bb,I i6,R r2,.none,v1,v2,v3,I i7,I i1,S c (i7+1)]:List Value).toArray,(List.nil:List (Option Value)).toArray⟩
noncomputable def gi:List Stmt:=behindTheImports pw
noncomputable def st (i:Nat):Stmt:=gi.getD i (.Pass default)
noncomputable def ms (i j:Nat):Stmt:=match st i with
 |.ClassDef _ _ _ b _ _ _ _ _ _ _=>b.getD j (.Pass default)
 |_=>.Pass default
noncomputable def aH (q:String):Stmt→Obj
 |.FunctionDef n ps b _ _ _ sc _ _ _=>⟨.none,none,.func {name:=n,qualname:=k q,params:=ps,body:=.stmts b,scope:=sc,globals:=0,closure:=[],defaults:=.none,kwdefaults:=.none},(List.nil:List (Option Value)).toArray⟩
 |_=>default
noncomputable def aG (q:String)(dv doc pm c:Value):Stmt→Obj
 |.FunctionDef n ps b _ _ _ sc _ _ _=>⟨.type "function",none,.func {name:=n,qualname:=k q,params:=ps,body:=.stmts b,scope:=sc,globals:=3,closure:=[],defaults:=dv,kwdefaults:=.none,doc:=doc,pyModule:=pm,code:=c},(List.nil:List (Option Value)).toArray⟩
 |_=>default
noncomputable def M:Obj→BT→BT→BT:=BT.node
noncomputable def E:BT:=BT.nil
noncomputable def L (o:Obj):BT:=BT.node o BT.nil BT.nil
def iX:Obj:=tp []
def iY:Obj:=cd "<module>" "<module>" "/claim/cut.py" 182 1 0 0 0 0 11 false 181 12 N0 N0 N0 185
def iZ:Obj:=⟨(.type "frame"),none,.plain,([some (R 13),some (R 3),some (R 3),none,some (S "__main__" 164),none,some (R 0)]:List (Option Value)).toArray⟩
def kh:Obj:=tp []
def kn:Obj:=fl []
def kw:Obj:=tp [(S "k" 190)]
def ky:Obj:=tp []
def kz:Obj:=aH "_wall" (st 0)
def kA:Obj:=cd "_wall" "_wall" "/claim/cut.py" 187 1 1 0 0 3 15 true 181 16 (R 17) (R 18) (R 19) 191
def kC:Obj:=aG "_wall" N0 N0 (S "__main__" 164) (R 20) (st 0)
def kD:Obj:=tp []
def kE:Obj:=⟨(.type "builtin_function_or_method"),none,.fields ([(.builtin "type.__prepare__"),(.type "type")]:List Value).toArray,([]:List (Option Value)).toArray⟩
def kF (P:Params):Obj:=⟨(.type "dict"),none,.dict ([en P "__module__" 203 (S "joinedhand.buffer" 194),en P "__qualname__" 205 (S "Info" 204),en P "__firstlineno__" 207 (.int 5 206),en P "__init__" 217 (R 35),en P "copied" 225 (R 42),en P "told" 232 (R 49),en P "__static_attributes__" 249 (R 50)]:List DictEntry).toArray 7,([]:List (Option Value)).toArray⟩
def kG:Obj:=tp []
def kH:Obj:=fl [(I 7),(I 4),(R 34),(I 25),(I 4),(R 41),(I 42),(I 4),(R 48)]
def kI:Obj:=cd "Info" "Info" "/claim/cut.py" 198 5 0 0 0 0 25 false 181 26 N0 N0 N0 201
def kJ:Obj:=⟨(.type "frame"),none,.plain,([some (R 27),some (R 3),some (R 24),none,some (S "joinedhand.buffer" 194),none,some (R 0)]:List (Option Value)).toArray⟩
def kK:Obj:=tp []
def kL:Obj:=fl []
def kM:Obj:=tp [(S "self" 211),(S "code" 212),(S "glyph" 213),(S "cluster" 214)]
def kN:Obj:=tp []
def kO:Obj:=aH "Info.__init__" (ms 2 0)
def i8:Obj:=cd "__init__" "Info.__init__" "/claim/cut.py" 208 7 4 0 0 3 29 true 181 30 (R 31) (R 32) (R 33) 215
def i9:Obj:=aG "Info.__init__" N0 N0 (S "joinedhand.buffer" 194) (R 34) (ms 2 0)
def kP:Obj:=tp []
def kQ:Obj:=fl []
def kR:Obj:=tp [(S "self" 221),(S "found" 222)]
def kS:Obj:=tp []
def kT:Obj:=aH "Info.copied" (ms 2 1)
def ja:Obj:=cd "copied" "Info.copied" "/claim/cut.py" 218 25 1 0 0 3 36 true 181 37 (R 38) (R 39) (R 40) 223
def jb:Obj:=aG "Info.copied" N0 N0 (S "joinedhand.buffer" 194) (R 41) (ms 2 1)
def kU:Obj:=tp []
def kW:Obj:=fl []
def kX:Obj:=tp [(S "self" 229)]
def kY:Obj:=tp []
def kZ:Obj:=aH "Info.told" (ms 2 2)
def la:Obj:=cd "told" "Info.told" "/claim/cut.py" 226 42 1 0 0 3 43 true 181 44 (R 45) (R 46) (R 47) 230
def lb:Obj:=aG "Info.told" N0 N0 (S "joinedhand.buffer" 194) (R 48) (ms 2 2)
def lc:Obj:=tp [(S "bond" 233),(S "cluster" 234),(S "code" 235),(S "glyph" 236),(S "is_unsafe" 237),(S "kind" 238),(S "lig_count" 239),(S "lig_id" 240),(S "lig_part" 241),(S "mask" 242),(S "parent" 243),(S "split_id" 244),(S "x_advance" 245),(S "x_offset" 246),(S "y_advance" 247),(S "y_offset" 248)]
def jc (P:Params):Obj:=⟨(.type "dict"),none,.dict ([en P "__module__" 203 (S "joinedhand.buffer" 194),en P "__firstlineno__" 207 (.int 5 206),en P "__init__" 217 (R 35),en P "copied" 225 (R 42),en P "told" 232 (R 49),en P "__static_attributes__" 249 (R 50),en P "__dict__" 251 (R 53),en P "__weakref__" 253 (R 54),en P "__doc__" 254 N0]:List DictEntry).toArray 4,([]:List (Option Value)).toArray⟩
def jd:Obj:=⟨(.type "type"),none,.cls ⟨k "Info",[(.type "object")],[(R 52),(.type "object")],51,k "Info",true,[],[],false,none,false⟩,([none,none,some (S "Info" 196),some (S "Info" 204),some (.builtin "object.__new__"),some (.bool true)]:List (Option Value)).toArray⟩
def ld:Obj:=⟨(.type "getset_descriptor"),none,.fields ([(S "__dict__" 250),(R 52),(.builtin "function.__dict__"),(.builtin "function.__dict__#set")]:List Value).toArray,([]:List (Option Value)).toArray⟩
def lf:Obj:=⟨(.type "getset_descriptor"),none,.fields ([(S "__weakref__" 252),(R 52),(.builtin "ExceptionGroup.__weakref__"),N0]:List Value).toArray,([]:List (Option Value)).toArray⟩
def lg:Obj:=⟨(.type "super"),none,.fields ([(R 52),(R 52),(R 52)]:List Value).toArray,([]:List (Option Value)).toArray⟩
def lh:Obj:=⟨(.type "builtin_function_or_method"),none,.fields ([(.builtin "object.__init_subclass__"),(R 52)]:List Value).toArray,([]:List (Option Value)).toArray⟩
def oF:Obj:=tp []
def oG:Obj:=⟨(.type "builtin_function_or_method"),none,.fields ([(.builtin "type.__prepare__"),(.type "type")]:List Value).toArray,([]:List (Option Value)).toArray⟩
def oH (P:Params):Obj:=⟨(.type "dict"),none,.dict ([en P "__module__" 264 (S "joinedhand.buffer" 194),en P "__qualname__" 266 (S "Buffer" 265),en P "__firstlineno__" 268 (.int 44 267),en P "__init__" 277 (R 71),en P "glyphs" 283 (R 76),en P "clusters" 289 (R 81),en P "told" 295 (R 86),en P "next_lig" 302 (R 93),en P "next_split" 309 (R 100),en P "__static_attributes__" 314 (R 101)]:List DictEntry).toArray 10,([]:List (Option Value)).toArray⟩
def oI:Obj:=tp []
def oJ:Obj:=fl [(I 46),(I 4),(R 70),(I 52),(I 4),(R 75),(I 55),(I 4),(R 80),(I 58),(I 4),(R 85),(I 61),(I 4),(R 92),(I 64),(I 4),(R 99)]
def oK:Obj:=cd "Buffer" "Buffer" "/claim/cut.py" 259 44 0 0 0 0 60 false 181 61 N0 N0 N0 262
def oL:Obj:=⟨(.type "frame"),none,.plain,([some (R 62),some (R 3),some (R 59),none,some (S "joinedhand.buffer" 194),none,some (R 0)]:List (Option Value)).toArray⟩
def oM:Obj:=tp [(.bool false)]
def oN:Obj:=tp []
def oO:Obj:=fl []
def oP:Obj:=tp [(S "self" 272),(S "infos" 273),(S "is_backward" 274)]
def oQ:Obj:=tp []
def oR:Obj:=aH "Buffer.__init__" (ms 3 0)
def lk:Obj:=cd "__init__" "Buffer.__init__" "/claim/cut.py" 269 46 3 0 0 3 65 true 181 66 (R 67) (R 68) (R 69) 275
def ll:Obj:=aG "Buffer.__init__" (R 64) N0 (S "joinedhand.buffer" 194) (R 70) (ms 3 0)
def oS:Obj:=tp []
def oT:Obj:=fl []
def oU:Obj:=aH "Buffer.glyphs" (ms 3 1)
def oV:Obj:=cd "glyphs" "Buffer.glyphs" "/claim/cut.py" 278 52 1 0 0 3 72 true 181 73 N0 N0 (R 74) 281
def oW:Obj:=aG "Buffer.glyphs" N0 N0 (S "joinedhand.buffer" 194) (R 75) (ms 3 1)
def oX:Obj:=tp []
def oY:Obj:=fl []
def oZ:Obj:=aH "Buffer.clusters" (ms 3 2)
def lm:Obj:=cd "clusters" "Buffer.clusters" "/claim/cut.py" 284 55 1 0 0 3 77 true 181 78 N0 N0 (R 79) 287
def lp:Obj:=aG "Buffer.clusters" N0 N0 (S "joinedhand.buffer" 194) (R 80) (ms 3 2)
def o0:Obj:=tp []
def o4:Obj:=fl []
def o5:Obj:=aH "Buffer.told" (ms 3 3)
def o6:Obj:=cd "told" "Buffer.told" "/claim/cut.py" 290 58 1 0 0 3 82 true 181 83 N0 N0 (R 84) 293
def o7:Obj:=aG "Buffer.told" N0 N0 (S "joinedhand.buffer" 194) (R 85) (ms 3 3)
def o8:Obj:=tp []
def o9:Obj:=fl []
def pb:Obj:=tp [(S "self" 299)]
def pc:Obj:=tp []
def pd:Obj:=aH "Buffer.next_lig" (ms 3 4)
def pf:Obj:=cd "next_lig" "Buffer.next_lig" "/claim/cut.py" 296 61 1 0 0 3 87 true 181 88 (R 89) (R 90) (R 91) 300
def pg:Obj:=aG "Buffer.next_lig" N0 N0 (S "joinedhand.buffer" 194) (R 92) (ms 3 4)
def ph:Obj:=tp []
def pi:Obj:=fl []
def pj:Obj:=tp [(S "self" 306)]
def pk:Obj:=tp []
def po:Obj:=aH "Buffer.next_split" (ms 3 5)
def pv:Obj:=cd "next_split" "Buffer.next_split" "/claim/cut.py" 303 64 1 0 0 3 94 true 181 95 (R 96) (R 97) (R 98) 307
def mE:Obj:=aG "Buffer.next_split" N0 N0 (S "joinedhand.buffer" 194) (R 99) (ms 3 5)
def mF:Obj:=tp [(S "is_backward" 310),(S "last_lig" 311),(S "last_split" 312),(S "row" 313)]
def jW (P:Params):Obj:=⟨(.type "dict"),none,.dict ([en P "__module__" 264 (S "joinedhand.buffer" 194),en P "__firstlineno__" 268 (.int 44 267),en P "__init__" 277 (R 71),en P "glyphs" 283 (R 76),en P "clusters" 289 (R 81),en P "told" 295 (R 86),en P "next_lig" 302 (R 93),en P "next_split" 309 (R 100),en P "__static_attributes__" 314 (R 101),en P "__dict__" 316 (R 104),en P "__weakref__" 318 (R 105),en P "__doc__" 319 N0]:List DictEntry).toArray 4,([]:List (Option Value)).toArray⟩
def jX:Obj:=⟨(.type "type"),none,.cls ⟨k "Buffer",[(.type "object")],[(R 103),(.type "object")],102,k "Buffer",true,[],[],false,none,false⟩,([none,none,some (S "Buffer" 257),some (S "Buffer" 265),some (.builtin "object.__new__"),some (.bool true)]:List (Option Value)).toArray⟩
def mG:Obj:=⟨(.type "getset_descriptor"),none,.fields ([(S "__dict__" 315),(R 103),(.builtin "function.__dict__"),(.builtin "function.__dict__#set")]:List Value).toArray,([]:List (Option Value)).toArray⟩
def mH:Obj:=⟨(.type "getset_descriptor"),none,.fields ([(S "__weakref__" 317),(R 103),(.builtin "ExceptionGroup.__weakref__"),N0]:List Value).toArray,([]:List (Option Value)).toArray⟩
def mI:Obj:=⟨(.type "super"),none,.fields ([(R 103),(R 103),(R 103)]:List Value).toArray,([]:List (Option Value)).toArray⟩
def mJ:Obj:=⟨(.type "builtin_function_or_method"),none,.fields ([(.builtin "object.__init_subclass__"),(R 103)]:List Value).toArray,([]:List (Option Value)).toArray⟩
def mK:Obj:=tp [(.bool false)]
def mL:Obj:=tp []
def mM:Obj:=fl []
def mN:Obj:=aH "buffer_of" (st 4)
def jY:Obj:=cd "buffer_of" "buffer_of" "/claim/cut.py" 322 66 2 0 0 3 109 true 181 110 N0 N0 (R 111) 325
def jZ:Obj:=aG "buffer_of" (R 108) N0 (S "joinedhand.buffer" 194) (R 112) (st 4)
def mO:Obj:=tp []
def mP:Obj:=fl []
def mQ:Obj:=tp [(S "info" 331),(S "cluster" 332)]
def mR:Obj:=tp []
def mS:Obj:=aH "set_cluster" (st 5)
def j3:Obj:=cd "set_cluster" "set_cluster" "/claim/cut.py" 328 68 2 0 0 3 114 true 181 115 (R 116) (R 117) (R 118) 333
def j4:Obj:=aG "set_cluster" N0 N0 (S "joinedhand.buffer" 194) (R 119) (st 5)
def mT:Obj:=tp []
def mU:Obj:=fl []
def mV:Obj:=tp [(S "row" 339),(S "begin" 340),(S "end" 341),(S "first" 342),(S "behind" 343)]
def mW:Obj:=tp []
def mX:Obj:=aH "widened" (st 6)
def j5:Obj:=cd "widened" "widened" "/claim/cut.py" 336 72 3 0 0 3 121 true 181 122 (R 123) (R 124) (R 125) 344
def j6:Obj:=aG "widened" N0 N0 (S "joinedhand.buffer" 194) (R 126) (st 6)
def mY:Obj:=tp []
def mZ:Obj:=fl []
def m8:Obj:=aH "merge" (st 7)
def j7:Obj:=cd "merge" "merge" "/claim/cut.py" 347 80 3 0 0 3 128 true 181 129 N0 N0 (R 130) 350
def j8:Obj:=aG "merge" N0 N0 (S "joinedhand.buffer" 194) (R 131) (st 7)
def m9:Obj:=tp []
def na:Obj:=fl []
def nc:Obj:=aH "hang" (st 8)
def j9:Obj:=cd "hang" "hang" "/claim/cut.py" 353 87 3 0 0 3 133 true 181 134 N0 N0 (R 135) 356
def kc:Obj:=aG "hang" N0 N0 (S "joinedhand.buffer" 194) (R 136) (st 8)
def ng:Obj:=tp []
def nh:Obj:=fl []
def ni:Obj:=tp []
def nj:Obj:=tp []
def nk:Obj:=aH "hidden_spans" (st 12)
def ke:Obj:=cd "hidden_spans" "hidden_spans" "/claim/cut.py" 365 98 0 0 0 3 138 true 181 139 (R 140) (R 141) (R 142) 368
def kg:Obj:=aG "hidden_spans" N0 N0 (S "joinedhand.hidden" 359) (R 143) (st 12)
def np:Obj:=tp []
def nq:Obj:=fl []
def nr:Obj:=tp [(S "code" 374),(S "first" 375),(S "last" 376)]
def nu:Obj:=tp []
def nv:Obj:=aH "is_hidden_code" (st 13)
def ki:Obj:=cd "is_hidden_code" "is_hidden_code" "/claim/cut.py" 371 100 1 0 0 3 145 true 181 146 (R 147) (R 148) (R 149) 377
def kj:Obj:=aG "is_hidden_code" N0 N0 (S "joinedhand.hidden" 359) (R 150) (st 13)
def nx:Obj:=tp []
def ny:Obj:=fl []
def nz:Obj:=tp [(S "code" 383)]
def nA:Obj:=tp []
def nB:Obj:=aH "is_selector" (st 14)
def kl:Obj:=cd "is_selector" "is_selector" "/claim/cut.py" 380 105 1 0 0 3 152 true 181 153 (R 154) (R 155) (R 156) 384
def km:Obj:=aG "is_selector" N0 N0 (S "joinedhand.hidden" 359) (R 157) (st 14)
def nD:Obj:=tp []
def nE:Obj:=fl []
def nF:Obj:=tp [(S "code" 390)]
def nG:Obj:=tp []
def nH:Obj:=aH "kind_of_code" (st 15)
def kq:Obj:=cd "kind_of_code" "kind_of_code" "/claim/cut.py" 387 107 1 0 0 3 159 true 181 160 (R 161) (R 162) (R 163) 391
def ku:Obj:=aG "kind_of_code" N0 N0 (S "joinedhand.hidden" 359) (R 164) (st 15)
def qC:Obj:=tp []
def qD:Obj:=fl []
def qE:Obj:=tp [(S "buffer" 397),(S "info" 398)]
def qF:Obj:=tp []
def qG:Obj:=aH "mark_kinds" (st 16)
def nI:Obj:=cd "mark_kinds" "mark_kinds" "/claim/cut.py" 394 113 1 0 0 3 166 true 181 167 (R 168) (R 169) (R 170) 399
def nJ:Obj:=aG "mark_kinds" N0 N0 (S "joinedhand.hidden" 359) (R 171) (st 16)
def qH:Obj:=tp []
def qI:Obj:=fl []
def qJ:Obj:=tp [(S "charmap" 405),(S "info" 406),(S "selector" 407),(S "glyph" 408),(S "is_known" 409)]
def qK:Obj:=tp []
def qL:Obj:=aH "selected" (st 17)
def qM:Obj:=cd "selected" "selected" "/claim/cut.py" 402 116 3 0 0 3 173 true 181 174 (R 175) (R 176) (R 177) 410
def qN:Obj:=aG "selected" N0 N0 (S "joinedhand.hidden" 359) (R 178) (st 17)
def qO:Obj:=tp []
def qP:Obj:=fl []
def qQ:Obj:=tp [(S "buffer" 416),(S "charmap" 417),(S "at" 418),(S "glyph" 419)]
def qR:Obj:=tp []
def qS:Obj:=aH "take_selectors" (st 18)
def nK:Obj:=cd "take_selectors" "take_selectors" "/claim/cut.py" 413 121 2 0 0 3 180 true 181 181 (R 182) (R 183) (R 184) 420
def nL:Obj:=aG "take_selectors" N0 N0 (S "joinedhand.hidden" 359) (R 185) (st 18)
def qT:Obj:=tp []
def qU:Obj:=fl []
def qV:Obj:=tp [(S "ranges" 432),(S "code" 433),(S "first" 434),(S "last" 435)]
def qW:Obj:=tp []
def qX:Obj:=aH "in_ranges" (st 22)
def nM:Obj:=cd "in_ranges" "in_ranges" "/claim/cut.py" 429 136 2 0 0 3 187 true 181 188 (R 189) (R 190) (R 191) 436
def nN:Obj:=aG "in_ranges" N0 N0 (S "joinedhand.joining" 423) (R 192) (st 22)
def qY:Obj:=tp []
def qZ:Obj:=fl []
def rc:Obj:=tp []
def rd:Obj:=tp []
def re:Obj:=aH "right_ranges" (st 23)
def nO:Obj:=cd "right_ranges" "right_ranges" "/claim/cut.py" 439 141 0 0 0 3 194 true 181 195 (R 196) (R 197) (R 198) 442
def nP:Obj:=aG "right_ranges" N0 N0 (S "joinedhand.joining" 423) (R 199) (st 23)
def rf:Obj:=tp []
def rg:Obj:=fl []
def rh:Obj:=tp []
def rk:Obj:=tp []
def rl:Obj:=aH "dual_ranges" (st 24)
def nQ:Obj:=cd "dual_ranges" "dual_ranges" "/claim/cut.py" 445 143 0 0 0 3 201 true 181 202 (R 203) (R 204) (R 205) 448
def nR:Obj:=aG "dual_ranges" N0 N0 (S "joinedhand.joining" 423) (R 206) (st 24)
def rm:Obj:=tp []
def rn:Obj:=fl []
def ro:Obj:=tp []
def rp:Obj:=tp []
def rq:Obj:=aH "passed_ranges" (st 25)
def nS:Obj:=cd "passed_ranges" "passed_ranges" "/claim/cut.py" 451 145 0 0 0 3 208 true 181 209 (R 210) (R 211) (R 212) 454
def nT:Obj:=aG "passed_ranges" N0 N0 (S "joinedhand.joining" 423) (R 213) (st 25)
def rt:Obj:=tp []
def ru:Obj:=fl []
def rv:Obj:=tp [(S "code" 460)]
def rx:Obj:=tp []
def ry:Obj:=aH "joining_type" (st 26)
def nU:Obj:=cd "joining_type" "joining_type" "/claim/cut.py" 457 147 1 0 0 3 215 true 181 216 (R 217) (R 218) (R 219) 461
def nV:Obj:=aG "joining_type" N0 N0 (S "joinedhand.joining" 423) (R 220) (st 26)
def rz:Obj:=tp []
def rA:Obj:=fl []
def rB:Obj:=aH "types_of" (st 27)
def nW:Obj:=cd "types_of" "types_of" "/claim/cut.py" 464 155 1 0 0 3 222 true 181 223 N0 N0 (R 224) 467
def nX:Obj:=aG "types_of" N0 N0 (S "joinedhand.joining" 423) (R 225) (st 27)
def rC:Obj:=tp []
def rD:Obj:=fl []
def rE:Obj:=tp [(S "sort" 473)]
def rF:Obj:=tp []
def rG:Obj:=aH "joins_on" (st 28)
def nY:Obj:=cd "joins_on" "joins_on" "/claim/cut.py" 470 161 1 0 0 3 227 true 181 228 (R 229) (R 230) (R 231) 474
def nZ:Obj:=aG "joins_on" N0 N0 (S "joinedhand.joining" 423) (R 232) (st 28)
def rH:Obj:=tp []
def rI:Obj:=fl []
def rJ:Obj:=tp [(S "sort" 480)]
def rK:Obj:=tp []
def rL:Obj:=aH "joins_back" (st 29)
def n7:Obj:=cd "joins_back" "joins_back" "/claim/cut.py" 477 163 1 0 0 3 234 true 181 235 (R 236) (R 237) (R 238) 481
def n8:Obj:=aG "joins_back" N0 N0 (S "joinedhand.joining" 423) (R 239) (st 29)
def rM:Obj:=tp []
def rN:Obj:=fl []
def rO:Obj:=tp [(S "types" 487),(S "found" 488),(S "last" 489),(S "at" 490)]
def rP:Obj:=tp []
def rQ:Obj:=aH "joined_pairs" (st 30)
def n9:Obj:=cd "joined_pairs" "joined_pairs" "/claim/cut.py" 484 165 1 0 0 3 241 true 181 242 (R 243) (R 244) (R 245) 491
def oe:Obj:=aG "joined_pairs" N0 N0 (S "joinedhand.joining" 423) (R 246) (st 30)
def rR:Obj:=tp []
def rS:Obj:=fl []
def rT:Obj:=tp [(S "has_before" 497),(S "has_behind" 498)]
def rU:Obj:=tp []
def rV:Obj:=aH "form_of" (st 31)
def og:Obj:=cd "form_of" "form_of" "/claim/cut.py" 494 174 2 0 0 3 248 true 181 249 (R 250) (R 251) (R 252) 499
def oh:Obj:=aG "form_of" N0 N0 (S "joinedhand.joining" 423) (R 253) (st 31)
def rW:Obj:=tp []
def rX:Obj:=fl []
def rY:Obj:=aH "forms_of" (st 32)
def oi:Obj:=cd "forms_of" "forms_of" "/claim/cut.py" 502 178 1 0 0 3 255 true 181 256 N0 N0 (R 257) 505
def oj:Obj:=aG "forms_of" N0 N0 (S "joinedhand.joining" 423) (R 258) (st 32)
def rZ:Obj:=tp []
def r7:Obj:=fl []
def r8:Obj:=aH "join" (st 33)
def om:Obj:=cd "join" "join" "/claim/cut.py" 508 185 2 0 0 3 260 true 181 261 N0 N0 (R 262) 511
def oo:Obj:=aG "join" N0 N0 (S "joinedhand.joining" 423) (R 263) (st 33)
def r9:Obj:=tp []
def sa:Obj:=fl []
def se:Obj:=tp []
def sf:Obj:=tp []
def sg:Obj:=aH "lone_pairs" (st 35)
def oq:Obj:=cd "lone_pairs" "lone_pairs" "/claim/cut.py" 516 193 0 0 0 3 265 true 181 266 (R 267) (R 268) (R 269) 519
def ot:Obj:=aG "lone_pairs" N0 N0 (S "joinedhand.mirror" 514) (R 270) (st 35)
def sh:Obj:=tp []
def si:Obj:=fl []
def sj:Obj:=tp []
def sk:Obj:=tp []
def sm:Obj:=aH "side_rows" (st 36)
def ou:Obj:=cd "side_rows" "side_rows" "/claim/cut.py" 522 195 0 0 0 3 272 true 181 273 (R 274) (R 275) (R 276) 525
def ow:Obj:=aG "side_rows" N0 N0 (S "joinedhand.mirror" 514) (R 277) (st 36)
def sn:Obj:=tp []
def sq:Obj:=fl []
def sr:Obj:=aH "mirror_pairs" (st 37)
def ox:Obj:=cd "mirror_pairs" "mirror_pairs" "/claim/cut.py" 528 197 0 0 0 3 279 true 181 280 N0 N0 (R 281) 531
def oy:Obj:=aG "mirror_pairs" N0 N0 (S "joinedhand.mirror" 514) (R 282) (st 37)
def su:Obj:=tp []
def sv:Obj:=fl []
def sx:Obj:=tp [(S "table" 537),(S "one" 538),(S "other" 539)]
def sy:Obj:=tp []
def sz:Obj:=aH "mirror_table" (st 38)
def oz:Obj:=cd "mirror_table" "mirror_table" "/claim/cut.py" 534 202 0 0 0 3 284 true 181 285 (R 286) (R 287) (R 288) 540
def oA:Obj:=aG "mirror_table" N0 N0 (S "joinedhand.mirror" 514) (R 289) (st 38)
def sA:Obj:=tp [(.int 0 543)]
def sB:Obj:=tp []
def sC:Obj:=fl []
def sD:Obj:=tp [(S "buffer" 547),(S "charmap" 548),(S "mask" 549),(S "table" 550),(S "info" 551),(S "other" 552)]
def sE:Obj:=tp []
def sF:Obj:=aH "mirror_row" (st 39)
def oB:Obj:=cd "mirror_row" "mirror_row" "/claim/cut.py" 544 208 3 0 0 3 292 true 181 293 (R 294) (R 295) (R 296) 553
def oE:Obj:=aG "mirror_row" (R 291) N0 (S "joinedhand.mirror" 514) (R 297) (st 39)
def uX:Obj:=tp []
def uY:Obj:=⟨(.type "builtin_function_or_method"),none,.fields ([(.builtin "type.__prepare__"),(.type "type")]:List Value).toArray,([]:List (Option Value)).toArray⟩
def uZ (P:Params):Obj:=⟨(.type "dict"),none,.dict ([en P "__module__" 579 (S "joinedhand.normal" 556),en P "__qualname__" 581 (S "Normal" 580),en P "__firstlineno__" 583 (.int 226 582),en P "__init__" 592 (R 312),en P "class_of" 600 (R 319),en P "wholes" 609 (R 326),en P "__static_attributes__" 612 (R 327)]:List DictEntry).toArray 7,([]:List (Option Value)).toArray⟩
def u0:Obj:=tp []
def u1:Obj:=fl [(I 228),(I 4),(R 311),(I 232),(I 4),(R 318),(I 235),(I 4),(R 325)]
def u2:Obj:=cd "Normal" "Normal" "/claim/cut.py" 574 226 0 0 0 0 302 false 181 303 N0 N0 N0 577
def u3:Obj:=⟨(.type "frame"),none,.plain,([some (R 304),some (R 3),some (R 301),none,some (S "joinedhand.normal" 556),none,some (R 0)]:List (Option Value)).toArray⟩
def u4:Obj:=tp []
def u5:Obj:=fl []
def u6:Obj:=tp [(S "self" 587),(S "parts" 588),(S "classes" 589)]
def u7:Obj:=tp []
def u8:Obj:=aH "Normal.__init__" (ms 48 0)
def sG:Obj:=cd "__init__" "Normal.__init__" "/claim/cut.py" 584 228 3 0 0 3 306 true 181 307 (R 308) (R 309) (R 310) 590
def sH:Obj:=aG "Normal.__init__" N0 N0 (S "joinedhand.normal" 556) (R 311) (ms 48 0)
def u9:Obj:=tp []
def vc:Obj:=fl []
def vd:Obj:=tp [(S "self" 596),(S "code" 597)]
def ve:Obj:=tp []
def vf:Obj:=aH "Normal.class_of" (ms 48 1)
def sI:Obj:=cd "class_of" "Normal.class_of" "/claim/cut.py" 593 232 2 0 0 3 313 true 181 314 (R 315) (R 316) (R 317) 598
def sJ:Obj:=aG "Normal.class_of" N0 N0 (S "joinedhand.normal" 556) (R 318) (ms 48 1)
def vg:Obj:=tp []
def vh:Obj:=fl []
def vk:Obj:=tp [(S "self" 604),(S "found" 605),(S "code" 606)]
def vl:Obj:=tp []
def vm:Obj:=aH "Normal.wholes" (ms 48 2)
def sK:Obj:=cd "wholes" "Normal.wholes" "/claim/cut.py" 601 235 1 0 0 3 320 true 181 321 (R 322) (R 323) (R 324) 607
def sL:Obj:=aG "Normal.wholes" N0 N0 (S "joinedhand.normal" 556) (R 325) (ms 48 2)
def vn:Obj:=tp [(S "classes" 610),(S "parts" 611)]
def sM (P:Params):Obj:=⟨(.type "dict"),none,.dict ([en P "__module__" 579 (S "joinedhand.normal" 556),en P "__firstlineno__" 583 (.int 226 582),en P "__init__" 592 (R 312),en P "class_of" 600 (R 319),en P "wholes" 609 (R 326),en P "__static_attributes__" 612 (R 327),en P "__dict__" 614 (R 330),en P "__weakref__" 616 (R 331),en P "__doc__" 617 N0]:List DictEntry).toArray 4,([]:List (Option Value)).toArray⟩
def sN:Obj:=⟨(.type "type"),none,.cls ⟨k "Normal",[(.type "object")],[(R 329),(.type "object")],328,k "Normal",true,[],[],false,none,false⟩,([none,none,some (S "Normal" 572),some (S "Normal" 580),some (.builtin "object.__new__"),some (.bool true)]:List (Option Value)).toArray⟩
def vo:Obj:=⟨(.type "getset_descriptor"),none,.fields ([(S "__dict__" 613),(R 329),(.builtin "function.__dict__"),(.builtin "function.__dict__#set")]:List Value).toArray,([]:List (Option Value)).toArray⟩
def vp:Obj:=⟨(.type "getset_descriptor"),none,.fields ([(S "__weakref__" 615),(R 329),(.builtin "ExceptionGroup.__weakref__"),N0]:List Value).toArray,([]:List (Option Value)).toArray⟩
def vq:Obj:=⟨(.type "super"),none,.fields ([(R 329),(R 329),(R 329)]:List Value).toArray,([]:List (Option Value)).toArray⟩
def vr:Obj:=⟨(.type "builtin_function_or_method"),none,.fields ([(.builtin "object.__init_subclass__"),(R 329)]:List Value).toArray,([]:List (Option Value)).toArray⟩
def vt:Obj:=tp []
def vu:Obj:=fl []
def vv:Obj:=tp [(S "code" 623),(S "number" 624),(S "tail" 625)]
def vw:Obj:=tp []
def vA:Obj:=aH "hangul_parts" (st 49)
def sO:Obj:=cd "hangul_parts" "hangul_parts" "/claim/cut.py" 620 241 1 0 0 3 334 true 181 335 (R 336) (R 337) (R 338) 626
def sP:Obj:=aG "hangul_parts" N0 N0 (S "joinedhand.normal" 556) (R 339) (st 49)
def vB:Obj:=tp []
def vC:Obj:=fl []
def vD:Obj:=tp [(S "first" 632),(S "second" 633),(S "lead" 634),(S "vowel" 635),(S "number" 636),(S "is_open" 637)]
def vE:Obj:=tp []
def vF:Obj:=aH "hangul_whole" (st 50)
def sQ:Obj:=cd "hangul_whole" "hangul_whole" "/claim/cut.py" 629 249 2 0 0 3 341 true 181 342 (R 343) (R 344) (R 345) 638
def sR:Obj:=aG "hangul_whole" N0 N0 (S "joinedhand.normal" 556) (R 346) (st 50)
def vG:Obj:=tp []
def vH:Obj:=fl []
def vI:Obj:=tp [(S "normal" 644),(S "code" 645)]
def vJ:Obj:=tp []
def vK:Obj:=aH "parts_of" (st 51)
def sS:Obj:=cd "parts_of" "parts_of" "/claim/cut.py" 641 259 2 0 0 3 348 true 181 349 (R 350) (R 351) (R 352) 646
def sT:Obj:=aG "parts_of" N0 N0 (S "joinedhand.normal" 556) (R 353) (st 51)
def vL:Obj:=tp []
def vM:Obj:=fl []
def vN:Obj:=tp [(S "wholes" 652),(S "first" 653),(S "second" 654),(S "found" 655)]
def vO:Obj:=tp []
def vP:Obj:=aH "whole_of" (st 52)
def sU:Obj:=cd "whole_of" "whole_of" "/claim/cut.py" 649 263 3 0 0 3 355 true 181 356 (R 357) (R 358) (R 359) 656
def sV:Obj:=aG "whole_of" N0 N0 (S "joinedhand.normal" 556) (R 360) (st 52)
def vQ:Obj:=tp []
def vR:Obj:=fl []
def vS:Obj:=tp [(S "normal" 662),(S "codes" 663),(S "pair" 664)]
def vT:Obj:=tp []
def vU:Obj:=aH "split_once" (st 53)
def sW:Obj:=cd "split_once" "split_once" "/claim/cut.py" 659 266 2 0 0 3 362 true 181 363 (R 364) (R 365) (R 366) 665
def sX:Obj:=aG "split_once" N0 N0 (S "joinedhand.normal" 556) (R 367) (st 53)
def vV:Obj:=tp []
def vW:Obj:=fl []
def vX:Obj:=tp [(S "normal" 671),(S "code" 672),(S "found" 673),(S "met" 674),(S "later" 675)]
def vY:Obj:=tp []
def vZ:Obj:=aH "splits" (st 54)
def sY:Obj:=cd "splits" "splits" "/claim/cut.py" 668 273 2 0 0 3 369 true 181 370 (R 371) (R 372) (R 373) 676
def sZ:Obj:=aG "splits" N0 N0 (S "joinedhand.normal" 556) (R 374) (st 54)
def v4:Obj:=tp []
def v5:Obj:=fl []
def v6:Obj:=aH "had_parts" (st 55)
def s7:Obj:=cd "had_parts" "had_parts" "/claim/cut.py" 679 282 3 0 0 3 376 true 181 377 N0 N0 (R 378) 682
def s8:Obj:=aG "had_parts" N0 N0 (S "joinedhand.normal" 556) (R 379) (st 55)
def v7:Obj:=tp []
def v9:Obj:=fl []
def wa:Obj:=tp [(S "classes" 688),(S "runs" 689),(S "begin" 690),(S "at" 691),(S "is_one" 692)]
def wb:Obj:=tp []
def wc:Obj:=aH "mark_runs" (st 56)
def ta:Obj:=cd "mark_runs" "mark_runs" "/claim/cut.py" 685 287 1 0 0 3 381 true 181 382 (R 383) (R 384) (R 385) 693
def tc:Obj:=aG "mark_runs" N0 N0 (S "joinedhand.normal" 556) (R 386) (st 56)
def we:Obj:=tp []
def wg:Obj:=fl []
def wh:Obj:=aH "ordered_places" (st 57)
def td:Obj:=cd "ordered_places" "ordered_places" "/claim/cut.py" 696 298 3 0 0 3 388 true 181 389 N0 N0 (R 390) 699
def te:Obj:=aG "ordered_places" N0 N0 (S "joinedhand.normal" 556) (R 391) (st 57)
def wi:Obj:=tp []
def wj:Obj:=fl []
def wl:Obj:=tp [(S "last" 705),(S "here" 706)]
def wm:Obj:=tp []
def wn:Obj:=aH "is_blocked" (st 58)
def tf:Obj:=cd "is_blocked" "is_blocked" "/claim/cut.py" 702 300 2 0 0 3 393 true 181 394 (R 395) (R 396) (R 397) 707
def th:Obj:=aG "is_blocked" N0 N0 (S "joinedhand.normal" 556) (R 398) (st 58)
def yS:Obj:=tp []
def yT:Obj:=fl []
def yU:Obj:=tp [(S "normal" 713),(S "info" 714)]
def yV:Obj:=tp []
def yW:Obj:=aH "class_here" (st 59)
def wp:Obj:=cd "class_here" "class_here" "/claim/cut.py" 710 302 2 0 0 3 400 true 181 401 (R 402) (R 403) (R 404) 715
def wq:Obj:=aG "class_here" N0 N0 (S "joinedhand.normal" 556) (R 405) (st 59)
def yX:Obj:=tp []
def yY:Obj:=fl []
def yZ:Obj:=tp [(S "row" 721),(S "at" 722),(S "normal" 723),(S "charmap" 724)]
def y3:Obj:=tp []
def y4:Obj:=aH "stays_whole" (st 60)
def wt:Obj:=cd "stays_whole" "stays_whole" "/claim/cut.py" 718 304 4 0 0 3 407 true 181 408 (R 409) (R 410) (R 411) 725
def wu:Obj:=aG "stays_whole" N0 N0 (S "joinedhand.normal" 556) (R 412) (st 60)
def y5:Obj:=tp []
def y6:Obj:=fl []
def y7:Obj:=tp [(S "buffer" 731),(S "normal" 732),(S "charmap" 733),(S "found" 734),(S "at" 735),(S "info" 736),(S "row" 737),(S "code" 738),(S "part" 739)]
def y8:Obj:=tp []
def y9:Obj:=aH "take_apart" (st 61)
def wv:Obj:=cd "take_apart" "take_apart" "/claim/cut.py" 728 310 3 0 0 3 414 true 181 415 (R 416) (R 417) (R 418) 740
def ww:Obj:=aG "take_apart" N0 N0 (S "joinedhand.normal" 556) (R 419) (st 61)
def za:Obj:=tp []
def zb:Obj:=fl []
def zd:Obj:=aH "order_row" (st 62)
def wx:Obj:=cd "order_row" "order_row" "/claim/cut.py" 743 320 2 0 0 3 421 true 181 422 N0 N0 (R 423) 746
def wy:Obj:=aG "order_row" N0 N0 (S "joinedhand.normal" 556) (R 424) (st 62)
def ze:Obj:=tp []
def zf:Obj:=fl []
def zg:Obj:=tp [(S "buffer" 752),(S "wholes" 753),(S "charmap" 754),(S "start" 755),(S "at" 756),(S "first" 757),(S "second" 758),(S "whole" 759)]
def zh:Obj:=tp []
def zi:Obj:=aH "whole_here" (st 63)
def wz:Obj:=cd "whole_here" "whole_here" "/claim/cut.py" 749 327 5 0 0 3 426 true 181 427 (R 428) (R 429) (R 430) 760
def wA:Obj:=aG "whole_here" N0 N0 (S "joinedhand.normal" 556) (R 431) (st 63)
def zj:Obj:=tp []
def zk:Obj:=fl []
def zl:Obj:=tp [(S "buffer" 766),(S "normal" 767),(S "charmap" 768),(S "wholes" 769),(S "start" 770),(S "last" 771),(S "at" 772),(S "here" 773),(S "whole" 774)]
def zm:Obj:=tp []
def zn:Obj:=aH "put_together" (st 64)
def wE:Obj:=cd "put_together" "put_together" "/claim/cut.py" 763 334 3 0 0 3 433 true 181 434 (R 435) (R 436) (R 437) 775
def wF:Obj:=aG "put_together" N0 N0 (S "joinedhand.normal" 556) (R 438) (st 64)
def zo:Obj:=tp []
def zp:Obj:=fl []
def zq:Obj:=tp [(S "buffer" 781),(S "normal" 782),(S "charmap" 783)]
def zr:Obj:=tp []
def zt:Obj:=aH "normalise" (st 65)
def wG:Obj:=cd "normalise" "normalise" "/claim/cut.py" 778 353 3 0 0 3 440 true 181 441 (R 442) (R 443) (R 444) 784
def wH:Obj:=aG "normalise" N0 N0 (S "joinedhand.normal" 556) (R 445) (st 65)
def zu:Obj:=tp []
def zv:Obj:=⟨(.type "builtin_function_or_method"),none,.fields ([(.builtin "type.__prepare__"),(.type "type")]:List Value).toArray,([]:List (Option Value)).toArray⟩
def zw (P:Params):Obj:=⟨(.type "dict"),none,.dict ([en P "__module__" 796 (S "joinedhand.plan" 787),en P "__qualname__" 798 (S "Plan" 797),en P "__firstlineno__" 800 (.int 358 799),en P "__init__" 817 (R 462),en P "told" 823 (R 467),en P "__static_attributes__" 833 (R 468)]:List DictEntry).toArray 6,([]:List (Option Value)).toArray⟩
def zx:Obj:=tp []
def zy:Obj:=fl [(I 360),(I 4),(R 461),(I 371),(I 4),(R 466)]
def zA:Obj:=cd "Plan" "Plan" "/claim/cut.py" 791 358 0 0 0 0 450 false 181 451 N0 N0 N0 794
def zB:Obj:=⟨(.type "frame"),none,.plain,([some (R 452),some (R 3),some (R 449),none,some (S "joinedhand.plan" 787),none,some (R 0)]:List (Option Value)).toArray⟩
def wI:Obj:=tp []
def zC:Obj:=tp [(.int 1 801),(R 454)]
def zD:Obj:=tp []
def zE:Obj:=fl []
def zF:Obj:=tp [(S "self" 805),(S "script" 806),(S "language" 807),(S "is_backward" 808),(S "masks" 809),(S "stages" 810),(S "positions" 811),(S "has_kern" 812),(S "defaults" 813),(S "set_tags" 814)]
def zG:Obj:=tp []
def zH:Obj:=aH "Plan.__init__" (ms 67 0)
def wJ:Obj:=cd "__init__" "Plan.__init__" "/claim/cut.py" 802 360 10 0 0 3 456 true 181 457 (R 458) (R 459) (R 460) 815
def wK:Obj:=aG "Plan.__init__" (R 455) N0 (S "joinedhand.plan" 787) (R 461) (ms 67 0)
def zI:Obj:=tp []
def zJ:Obj:=fl []
def zK:Obj:=aH "Plan.told" (ms 67 1)
def zL:Obj:=cd "told" "Plan.told" "/claim/cut.py" 818 371 1 0 0 3 463 true 181 464 N0 N0 (R 465) 821
def zM:Obj:=aG "Plan.told" N0 N0 (S "joinedhand.plan" 787) (R 466) (ms 67 1)
def zN:Obj:=tp [(S "defaults" 824),(S "has_kern" 825),(S "is_backward" 826),(S "language" 827),(S "masks" 828),(S "positions" 829),(S "script" 830),(S "set_tags" 831),(S "stages" 832)]
def wL (P:Params):Obj:=⟨(.type "dict"),none,.dict ([en P "__module__" 796 (S "joinedhand.plan" 787),en P "__firstlineno__" 800 (.int 358 799),en P "__init__" 817 (R 462),en P "told" 823 (R 467),en P "__static_attributes__" 833 (R 468),en P "__dict__" 835 (R 471),en P "__weakref__" 837 (R 472),en P "__doc__" 838 N0]:List DictEntry).toArray 4,([]:List (Option Value)).toArray⟩
def wM:Obj:=⟨(.type "type"),none,.cls ⟨k "Plan",[(.type "object")],[(R 470),(.type "object")],469,k "Plan",true,[],[],false,none,false⟩,([none,none,some (S "Plan" 789),some (S "Plan" 797),some (.builtin "object.__new__"),some (.bool true)]:List (Option Value)).toArray⟩
def zO:Obj:=⟨(.type "getset_descriptor"),none,.fields ([(S "__dict__" 834),(R 470),(.builtin "function.__dict__"),(.builtin "function.__dict__#set")]:List Value).toArray,([]:List (Option Value)).toArray⟩
def zP:Obj:=⟨(.type "getset_descriptor"),none,.fields ([(S "__weakref__" 836),(R 470),(.builtin "ExceptionGroup.__weakref__"),N0]:List Value).toArray,([]:List (Option Value)).toArray⟩
def zQ:Obj:=⟨(.type "super"),none,.fields ([(R 470),(R 470),(R 470)]:List Value).toArray,([]:List (Option Value)).toArray⟩
def zR:Obj:=⟨(.type "builtin_function_or_method"),none,.fields ([(.builtin "object.__init_subclass__"),(R 470)]:List Value).toArray,([]:List (Option Value)).toArray⟩
def zS:Obj:=tp []
def zT:Obj:=fl []
def zU:Obj:=tp [(S "plan" 844),(S "tag" 845)]
def zV:Obj:=tp []
def zW:Obj:=aH "first_bit" (st 68)
def wN:Obj:=cd "first_bit" "first_bit" "/claim/cut.py" 841 375 2 0 0 3 475 true 181 476 (R 477) (R 478) (R 479) 846
def wO:Obj:=aG "first_bit" N0 N0 (S "joinedhand.plan" 787) (R 480) (st 68)
def wP:Obj:=tp [(.int 2325 851),(.int 2361 852)]
def wQ:Obj:=tp [(.int 2392 853),(.int 2399 854)]
def wR:Obj:=tp [(R 482),(R 483)]
def wS:Obj:=tp [(.int 2308 856),(.int 2324 857)]
def wT:Obj:=tp [(.int 2400 858),(.int 2401 859)]
def wU:Obj:=tp [(R 485),(R 486)]
def wV:Obj:=tp [(.int 2366 861),(.int 2366 862)]
def wW:Obj:=tp [(.int 2368 863),(.int 2380 864)]
def wX:Obj:=tp [(.int 2402 865),(.int 2403 866)]
def wY:Obj:=tp [(R 488),(R 489),(R 490)]
def wZ:Obj:=tp [(.int 2304 868),(.int 2307 869)]
def w3:Obj:=tp [(.int 2385 870),(.int 2388 871)]
def w4:Obj:=tp [(R 492),(R 493)]
def DJ:Obj:=tp []
def DK:Obj:=fl []
def DM:Obj:=tp [(S "code" 888),(S "spans" 889),(S "first" 890),(S "last" 891)]
def DN:Obj:=tp []
def DO:Obj:=aH "is_within" (st 80)
def zX:Obj:=cd "is_within" "is_within" "/claim/cut.py" 885 388 2 0 0 3 495 true 181 496 (R 497) (R 498) (R 499) 892
def zY:Obj:=aG "is_within" N0 N0 (S "joinedhand.syllables" 849) (R 500) (st 80)
def DP:Obj:=tp []
def DQ:Obj:=fl []
def DS:Obj:=tp [(S "code" 898),(S "kind" 899),(S "spans" 900)]
def DT:Obj:=tp []
def DU:Obj:=aH "kinds_of" (st 81)
def zZ:Obj:=cd "kinds_of" "kinds_of" "/claim/cut.py" 895 393 1 0 0 3 502 true 181 503 (R 504) (R 505) (R 506) 901
def z3:Obj:=aG "kinds_of" N0 N0 (S "joinedhand.syllables" 849) (R 507) (st 81)
def DV:Obj:=tp []
def DW:Obj:=fl []
def DX:Obj:=tp [(S "kinds" 907),(S "at" 908)]
def DY:Obj:=tp []
def DZ:Obj:=aH "kind_at" (st 82)
def z4:Obj:=cd "kind_at" "kind_at" "/claim/cut.py" 904 406 2 0 0 3 509 true 181 510 (R 511) (R 512) (R 513) 909
def z5:Obj:=aG "kind_at" N0 N0 (S "joinedhand.syllables" 849) (R 514) (st 82)
def D0:Obj:=tp []
def D1:Obj:=fl []
def D2:Obj:=tp [(S "kinds" 915),(S "at" 916),(S "kind" 917)]
def D3:Obj:=tp []
def D4:Obj:=aH "past" (st 83)
def z6:Obj:=cd "past" "past" "/claim/cut.py" 912 408 3 0 0 3 516 true 181 517 (R 518) (R 519) (R 520) 918
def z7:Obj:=aG "past" N0 N0 (S "joinedhand.syllables" 849) (R 521) (st 83)
def D5:Obj:=tp []
def D6:Obj:=fl []
def D7:Obj:=tp [(S "kinds" 924),(S "at" 925),(S "behind" 926)]
def D8:Obj:=tp []
def D9:Obj:=aH "past_viramas" (st 84)
def z8:Obj:=cd "past_viramas" "past_viramas" "/claim/cut.py" 921 412 2 0 0 3 523 true 181 524 (R 525) (R 526) (R 527) 927
def z9:Obj:=aG "past_viramas" N0 N0 (S "joinedhand.syllables" 849) (R 528) (st 84)
def Ea:Obj:=tp []
def Eb:Obj:=fl []
def Ec:Obj:=tp [(S "kinds" 933),(S "begin" 934),(S "kind" 935),(S "at" 936),(S "is_closed" 937)]
def Ed:Obj:=tp []
def Ee:Obj:=aH "syllable_end" (st 85)
def Aa:Obj:=cd "syllable_end" "syllable_end" "/claim/cut.py" 930 419 2 0 0 3 530 true 181 531 (R 532) (R 533) (R 534) 938
def Ab:Obj:=aG "syllable_end" N0 N0 (S "joinedhand.syllables" 849) (R 535) (st 85)
def Ef:Obj:=tp []
def Eg:Obj:=fl []
def Eh:Obj:=aH "syllables" (st 86)
def Ac:Obj:=cd "syllables" "syllables" "/claim/cut.py" 941 429 1 0 0 3 537 true 181 538 N0 N0 (R 539) 944
def Ad:Obj:=aG "syllables" N0 N0 (S "joinedhand.syllables" 849) (R 540) (st 86)
def Ei:Obj:=tp []
def Ej:Obj:=fl []
def Ek:Obj:=tp [(S "codes" 950),(S "begin" 951)]
def Em:Obj:=tp []
def En:Obj:=aH "is_broken" (st 87)
def Eo:Obj:=cd "is_broken" "is_broken" "/claim/cut.py" 947 438 2 0 0 3 542 true 181 543 (R 544) (R 545) (R 546) 952
def Ep:Obj:=aG "is_broken" N0 N0 (S "joinedhand.syllables" 849) (R 547) (st 87)
def Er:Obj:=tp []
def Es:Obj:=fl []
def Et:Obj:=tp [(S "codes" 958),(S "begin" 959),(S "end" 960),(S "goal" 961),(S "at" 962)]
def Eu:Obj:=tp []
def Ew:Obj:=aH "matra_goal" (st 88)
def Ae:Obj:=cd "matra_goal" "matra_goal" "/claim/cut.py" 955 440 3 0 0 3 549 true 181 550 (R 551) (R 552) (R 553) 963
def Af:Obj:=aG "matra_goal" N0 N0 (S "joinedhand.syllables" 849) (R 554) (st 88)
def Ey:Obj:=tp []
def Ez:Obj:=fl []
def EA:Obj:=aH "move_matras" (st 89)
def Ag:Obj:=cd "move_matras" "move_matras" "/claim/cut.py" 966 446 3 0 0 3 556 true 181 557 N0 N0 (R 558) 969
def Ah:Obj:=aG "move_matras" N0 N0 (S "joinedhand.syllables" 849) (R 559) (st 89)
def EB:Obj:=tp []
def ED:Obj:=fl []
def EE:Obj:=tp [(S "buffer" 975),(S "at" 976),(S "circle" 977)]
def EF:Obj:=tp []
def EG:Obj:=aH "put_circle" (st 90)
def EH:Obj:=cd "put_circle" "put_circle" "/claim/cut.py" 972 460 2 0 0 3 561 true 181 562 (R 563) (R 564) (R 565) 978
def EI:Obj:=aG "put_circle" N0 N0 (S "joinedhand.syllables" 849) (R 566) (st 90)
def EJ:Obj:=tp [(.bool false)]
def EK:Obj:=tp []
def EL:Obj:=fl []
def EM:Obj:=aH "reorder" (st 91)
def Ai:Obj:=cd "reorder" "reorder" "/claim/cut.py" 981 466 2 0 0 3 569 true 181 570 N0 N0 (R 571) 984
def Aj:Obj:=aG "reorder" (R 568) N0 (S "joinedhand.syllables" 849) (R 572) (st 91)
def Ak:Obj:=tp [(S "isol" 989),(S "init" 990),(S "medi" 991),(S "fina" 992)]
def EN:Obj:=tp []
def EO:Obj:=fl []
def EP:Obj:=tp [(S "buffer" 997),(S "charmap" 998),(S "normal" 999)]
def EQ:Obj:=tp []
def ER:Obj:=aH "read_letters" (st 94)
def Al:Obj:=cd "read_letters" "read_letters" "/claim/cut.py" 994 475 3 0 0 3 575 true 181 576 (R 577) (R 578) (R 579) 1000
def Am:Obj:=aG "read_letters" N0 N0 (S "joinedhand.shaper" 987) (R 580) (st 94)
def ES:Obj:=tp []
def ET:Obj:=fl []
def EU:Obj:=aH "shape_letters" (st 95)
def An:Obj:=cd "shape_letters" "shape_letters" "/claim/cut.py" 1003 480 3 0 0 3 582 true 181 583 N0 N0 (R 584) 1006
def Ao:Obj:=aG "shape_letters" N0 N0 (S "joinedhand.shaper" 987) (R 585) (st 95)
def EV:Obj:=tp []
def EW:Obj:=fl []
def EX:Obj:=tp [(S "variations" 1014),(S "selector" 1015),(S "code" 1016),(S "glyph" 1017)]
def EY:Obj:=tp []
def EZ:Obj:=aH "find" (st 97)
def E0:Obj:=cd "find" "find" "/claim/cut.py" 1011 488 3 0 0 3 587 true 181 588 (R 589) (R 590) (R 591) 1018
def E1:Obj:=aG "find" N0 N0 (S "joinedhand.selectors" 1009) (R 592) (st 97)
def KN:Obj:=tp []
def KO:Obj:=⟨(.type "builtin_function_or_method"),none,.fields ([(.builtin "type.__prepare__"),(.type "type")]:List Value).toArray,([]:List (Option Value)).toArray⟩
def KP (P:Params):Obj:=⟨(.type "dict"),none,.dict ([en P "__module__" 1030 (S "joinedhand.charmap" 1021),en P "__qualname__" 1032 (S "CharMap" 1031),en P "__firstlineno__" 1034 (.int 494 1033),en P "__init__" 1040 (R 606),en P "glyph" 1048 (R 613),en P "glyph_of" 1058 (R 620),en P "told" 1064 (R 625),en P "__static_attributes__" 1067 (R 626)]:List DictEntry).toArray 8,([]:List (Option Value)).toArray⟩
def KQ:Obj:=tp []
def KS:Obj:=fl [(I 496),(I 4),(R 605),(I 500),(I 4),(R 612),(I 503),(I 4),(R 619),(I 511),(I 4),(R 624)]
def KT:Obj:=cd "CharMap" "CharMap" "/claim/cut.py" 1025 494 0 0 0 0 597 false 181 598 N0 N0 N0 1028
def KU:Obj:=⟨(.type "frame"),none,.plain,([some (R 599),some (R 3),some (R 596),none,some (S "joinedhand.charmap" 1021),none,some (R 0)]:List (Option Value)).toArray⟩
def KV:Obj:=tp [N0]
def KW:Obj:=tp []
def KX:Obj:=fl []
def KY:Obj:=aH "CharMap.__init__" (ms 99 0)
def E2:Obj:=cd "__init__" "CharMap.__init__" "/claim/cut.py" 1035 496 3 0 0 3 602 true 181 603 N0 N0 (R 604) 1038
def E3:Obj:=aG "CharMap.__init__" (R 601) N0 (S "joinedhand.charmap" 1021) (R 605) (ms 99 0)
def KZ:Obj:=tp []
def K0:Obj:=fl []
def K1:Obj:=tp [(S "self" 1044),(S "code" 1045)]
def K2:Obj:=tp []
def K3:Obj:=aH "CharMap.glyph" (ms 99 1)
def E4:Obj:=cd "glyph" "CharMap.glyph" "/claim/cut.py" 1041 500 2 0 0 3 607 true 181 608 (R 609) (R 610) (R 611) 1046
def E5:Obj:=aG "CharMap.glyph" N0 N0 (S "joinedhand.charmap" 1021) (R 612) (ms 99 1)
def K4:Obj:=tp []
def K5:Obj:=fl []
def K6:Obj:=tp [(S "self" 1052),(S "code" 1053),(S "selector" 1054),(S "found" 1055)]
def K7:Obj:=tp []
def K8:Obj:=aH "CharMap.glyph_of" (ms 99 2)
def K9:Obj:=cd "glyph_of" "CharMap.glyph_of" "/claim/cut.py" 1049 503 3 0 0 3 614 true 181 615 (R 616) (R 617) (R 618) 1056
def La:Obj:=aG "CharMap.glyph_of" N0 N0 (S "joinedhand.charmap" 1021) (R 619) (ms 99 2)
def Lb:Obj:=tp []
def Lc:Obj:=fl []
def Ld:Obj:=aH "CharMap.told" (ms 99 3)
def Le:Obj:=cd "told" "CharMap.told" "/claim/cut.py" 1059 511 1 0 0 3 621 true 181 622 N0 N0 (R 623) 1062
def Lf:Obj:=aG "CharMap.told" N0 N0 (S "joinedhand.charmap" 1021) (R 624) (ms 99 3)
def Lg:Obj:=tp [(S "codes" 1065),(S "variations" 1066)]
def E6 (P:Params):Obj:=⟨(.type "dict"),none,.dict ([en P "__module__" 1030 (S "joinedhand.charmap" 1021),en P "__firstlineno__" 1034 (.int 494 1033),en P "__init__" 1040 (R 606),en P "glyph" 1048 (R 613),en P "glyph_of" 1058 (R 620),en P "told" 1064 (R 625),en P "__static_attributes__" 1067 (R 626),en P "__dict__" 1069 (R 629),en P "__weakref__" 1071 (R 630),en P "__doc__" 1072 N0]:List DictEntry).toArray 4,([]:List (Option Value)).toArray⟩
def E7:Obj:=⟨(.type "type"),none,.cls ⟨k "CharMap",[(.type "object")],[(R 628),(.type "object")],627,k "CharMap",true,[],[],false,none,false⟩,([none,none,some (S "CharMap" 1023),some (S "CharMap" 1031),some (.builtin "object.__new__"),some (.bool true)]:List (Option Value)).toArray⟩
def Lh:Obj:=⟨(.type "getset_descriptor"),none,.fields ([(S "__dict__" 1068),(R 628),(.builtin "function.__dict__"),(.builtin "function.__dict__#set")]:List Value).toArray,([]:List (Option Value)).toArray⟩
def Li:Obj:=⟨(.type "getset_descriptor"),none,.fields ([(S "__weakref__" 1070),(R 628),(.builtin "ExceptionGroup.__weakref__"),N0]:List Value).toArray,([]:List (Option Value)).toArray⟩
def Lj:Obj:=⟨(.type "super"),none,.fields ([(R 628),(R 628),(R 628)]:List Value).toArray,([]:List (Option Value)).toArray⟩
def Lk:Obj:=⟨(.type "builtin_function_or_method"),none,.fields ([(.builtin "object.__init_subclass__"),(R 628)]:List Value).toArray,([]:List (Option Value)).toArray⟩
def Ll:Obj:=tp []
def Lm:Obj:=fl []
def Ln:Obj:=tp []
def Lo:Obj:=tp []
def Lp:Obj:=aH "_law_sorts" (st 101)
def E8:Obj:=cd "_law_sorts" "_law_sorts" "/claim/cut.py" 1077 515 0 0 0 3 633 true 181 634 (R 635) (R 636) (R 637) 1080
def E9:Obj:=aG "_law_sorts" N0 N0 (S "law_nz0118_01" 1075) (R 638) (st 101)
def Lq:Obj:=tp []
def Lr:Obj:=fl []
def Ls:Obj:=tp []
def Lu:Obj:=tp []
def Lv:Obj:=aH "_law_joins" (st 102)
def Fa:Obj:=cd "_law_joins" "_law_joins" "/claim/cut.py" 1083 517 0 0 0 3 640 true 181 641 (R 642) (R 643) (R 644) 1086
def Fb:Obj:=aG "_law_joins" N0 N0 (S "law_nz0118_01" 1075) (R 645) (st 102)
def Lw:Obj:=tp []
def Lx:Obj:=fl []
def Ly:Obj:=aH "_law_pen" (st 103)
def Fd:Obj:=cd "_law_pen" "_law_pen" "/claim/cut.py" 1089 519 1 0 0 3 647 true 181 648 N0 N0 (R 649) 1092
def Fe:Obj:=aG "_law_pen" N0 N0 (S "law_nz0118_01" 1075) (R 650) (st 103)
def Lz:Obj:=tp []
def LA:Obj:=fl []
def LB:Obj:=tp [(S "pen" 1098),(S "many" 1099),(S "digit" 1100)]
def LC:Obj:=tp []
def LD:Obj:=aH "_law_draw" (st 104)
def Ff:Obj:=cd "_law_draw" "_law_draw" "/claim/cut.py" 1095 521 2 0 0 3 652 true 181 653 (R 654) (R 655) (R 656) 1101
def Fg:Obj:=aG "_law_draw" N0 N0 (S "law_nz0118_01" 1075) (R 657) (st 104)
def LE:Obj:=tp []
def LG:Obj:=fl []
def LH:Obj:=tp [(S "pen" 1107),(S "some" 1108)]
def LJ:Obj:=tp []
def LK:Obj:=aH "_law_pick" (st 105)
def Fh:Obj:=cd "_law_pick" "_law_pick" "/claim/cut.py" 1104 528 2 0 0 3 659 true 181 660 (R 661) (R 662) (R 663) 1109
def Fi:Obj:=aG "_law_pick" N0 N0 (S "law_nz0118_01" 1075) (R 664) (st 105)
def LL:Obj:=tp []
def LM:Obj:=fl []
def LN:Obj:=aH "_law_forms" (st 106)
def Fj:Obj:=cd "_law_forms" "_law_forms" "/claim/cut.py" 1112 530 1 0 0 3 666 true 181 667 N0 N0 (R 668) 1115
def Fk:Obj:=aG "_law_forms" N0 N0 (S "law_nz0118_01" 1075) (R 669) (st 106)
def LO:Obj:=tp []
def LP:Obj:=fl []
def LQ:Obj:=aH "law" (st 107)
def Fm:Obj:=cd "law" "law" "/claim/cut.py" 1118 540 1 0 0 3 671 true 181 672 N0 N0 (R 673) 1121
def Fo:Obj:=aG "law" N0 N0 (S "law_nz0118_01" 1075) (R 674) (st 107)
def m0 (P:Params)(v:Value):List DictEntry:=[en P "__name__" 165 v,en P "__doc__" 166 N0,en P "__package__" 167 N0,en P "__loader__" 168 (.builtin "__main__.__loader__#opaque"),en P "__spec__" 169 N0,en P "__annotations__" 170 (R 6),en P "__builtins__" 171 (R 4),en P "__file__" 173 (S "/claim/cut.py" 172),en P "__cached__" 174 N0]
def m1 (P:Params):List DictEntry:=[en P "_wall" 193 (R 21),en P "Info" 256 (R 52)]
def f1:List Value:=[(I 1),(I 0),(R 20),(I 5),(I 0),(R 27)]
def m2 (P:Params):List DictEntry:=[en P "Buffer" 321 (R 103),en P "buffer_of" 327 (R 113),en P "set_cluster" 335 (R 120),en P "widened" 346 (R 127),en P "merge" 352 (R 132),en P "hang" 358 (R 137),en P "ZWNJ_hidden" 362 (.int 8204 361),en P "ZWJ_hidden" 364 (.int 8205 363),en P "hidden_spans" 370 (R 144),en P "is_hidden_code" 379 (R 151),en P "is_selector" 386 (R 158),en P "kind_of_code" 393 (R 165)]
def f2:List Value:=[(I 44),(I 0),(R 62),(I 66),(I 0),(R 112),(I 68),(I 0),(R 119),(I 72),(I 0),(R 126),(I 80),(I 0),(R 131),(I 87),(I 0),(R 136),(I 98),(I 0),(R 143),(I 100),(I 0),(R 150),(I 105),(I 0),(R 157),(I 107),(I 0),(R 164)]
def m3 (P:Params):List DictEntry:=[en P "mark_kinds" 401 (R 172),en P "selected" 412 (R 179),en P "take_selectors" 422 (R 186),en P "ZWJ_joining" 426 (.int 8205 425),en P "TATWEEL" 428 (.int 1600 427),en P "in_ranges" 438 (R 193),en P "right_ranges" 444 (R 200),en P "dual_ranges" 450 (R 207),en P "passed_ranges" 456 (R 214),en P "joining_type" 463 (R 221),en P "types_of" 469 (R 226),en P "joins_on" 476 (R 233),en P "joins_back" 483 (R 240),en P "joined_pairs" 493 (R 247),en P "form_of" 501 (R 254),en P "forms_of" 507 (R 259),en P "join" 513 (R 264),en P "lone_pairs" 521 (R 271),en P "side_rows" 527 (R 278),en P "mirror_pairs" 533 (R 283),en P "mirror_table" 542 (R 290),en P "mirror_row" 555 (R 298),en P "HANGUL" 559 (.int 44032 558),en P "LEADS" 561 (.int 4352 560),en P "VOWELS_normal" 563 (.int 4449 562)]
def f3:List Value:=[(I 113),(I 0),(R 171),(I 116),(I 0),(R 178),(I 121),(I 0),(R 185),(I 136),(I 0),(R 192),(I 141),(I 0),(R 199),(I 143),(I 0),(R 206),(I 145),(I 0),(R 213),(I 147),(I 0),(R 220),(I 155),(I 0),(R 225),(I 161),(I 0),(R 232),(I 163),(I 0),(R 239),(I 165),(I 0),(R 246),(I 174),(I 0),(R 253),(I 178),(I 0),(R 258),(I 185),(I 0),(R 263),(I 193),(I 0),(R 270),(I 195),(I 0),(R 277),(I 197),(I 0),(R 282),(I 202),(I 0),(R 289),(I 208),(I 0),(R 297)]
def m4 (P:Params):List DictEntry:=[en P "TAILS" 565 (.int 4519 564),en P "VOWEL_COUNT" 567 (.int 21 566),en P "TAIL_COUNT" 569 (.int 28 568),en P "LEAD_COUNT" 571 (.int 19 570),en P "Normal" 619 (R 329),en P "hangul_parts" 628 (R 340),en P "hangul_whole" 640 (R 347),en P "parts_of" 648 (R 354),en P "whole_of" 658 (R 361),en P "split_once" 667 (R 368),en P "splits" 678 (R 375),en P "had_parts" 684 (R 380),en P "mark_runs" 695 (R 387),en P "ordered_places" 701 (R 392),en P "is_blocked" 709 (R 399)]
def f4:List Value:=[(I 226),(I 0),(R 304),(I 241),(I 0),(R 339),(I 249),(I 0),(R 346),(I 259),(I 0),(R 353),(I 263),(I 0),(R 360),(I 266),(I 0),(R 367),(I 273),(I 0),(R 374),(I 282),(I 0),(R 379),(I 287),(I 0),(R 386),(I 298),(I 0),(R 391),(I 300),(I 0),(R 398)]
def m5 (P:Params):List DictEntry:=[en P "class_here" 717 (R 406),en P "stays_whole" 727 (R 413),en P "take_apart" 742 (R 420),en P "order_row" 748 (R 425),en P "whole_here" 762 (R 432),en P "put_together" 777 (R 439),en P "normalise" 786 (R 446),en P "Plan" 840 (R 470),en P "first_bit" 848 (R 481),en P "CONSONANTS" 855 (R 484),en P "VOWELS_syllables" 860 (R 487),en P "MATRAS" 867 (R 491),en P "SIGNS" 872 (R 494),en P "VIRAMA" 874 (.int 2381 873),en P "NUKTA" 876 (.int 2364 875),en P "MATRA_I" 878 (.int 2367 877),en P "ZWNJ_syllables" 880 (.int 8204 879)]
def f5:List Value:=[(I 302),(I 0),(R 405),(I 304),(I 0),(R 412),(I 310),(I 0),(R 419),(I 320),(I 0),(R 424),(I 327),(I 0),(R 431),(I 334),(I 0),(R 438),(I 353),(I 0),(R 445),(I 358),(I 0),(R 452),(I 375),(I 0),(R 480)]
def m6 (P:Params):List DictEntry:=[en P "ZWJ_syllables" 882 (.int 8205 881),en P "DOTTED_CIRCLE" 884 (.int 9676 883),en P "is_within" 894 (R 501),en P "kinds_of" 903 (R 508),en P "kind_at" 911 (R 515),en P "past" 920 (R 522),en P "past_viramas" 929 (R 529),en P "syllable_end" 940 (R 536),en P "syllables" 946 (R 541),en P "is_broken" 954 (R 548),en P "matra_goal" 965 (R 555),en P "move_matras" 971 (R 560),en P "put_circle" 980 (R 567),en P "reorder" 986 (R 573),en P "FORMS" 993 (R 574),en P "read_letters" 1002 (R 581),en P "shape_letters" 1008 (R 586),en P "find" 1020 (R 593)]
def f6:List Value:=[(I 388),(I 0),(R 500),(I 393),(I 0),(R 507),(I 406),(I 0),(R 514),(I 408),(I 0),(R 521),(I 412),(I 0),(R 528),(I 419),(I 0),(R 535),(I 429),(I 0),(R 540),(I 438),(I 0),(R 547),(I 440),(I 0),(R 554),(I 446),(I 0),(R 559),(I 460),(I 0),(R 566),(I 466),(I 0),(R 572),(I 475),(I 0),(R 580),(I 480),(I 0),(R 585),(I 488),(I 0),(R 592)]
def m7 (P:Params):List DictEntry:=[en P "CharMap" 1074 (R 628),en P "_law_sorts" 1082 (R 639),en P "_law_joins" 1088 (R 646),en P "_law_pen" 1094 (R 651),en P "_law_draw" 1103 (R 658),en P "_law_pick" 1111 (R 665),en P "_law_forms" 1117 (R 670),en P "law" 1123 (R 675)]
def f7:List Value:=[(I 494),(I 0),(R 599),(I 515),(I 0),(R 638),(I 517),(I 0),(R 645),(I 519),(I 0),(R 650),(I 521),(I 0),(R 657),(I 528),(I 0),(R 664),(I 530),(I 0),(R 669),(I 540),(I 0),(R 674)]
def p0 (P:Params):Obj:=⟨.type "dict",none,.dict (m0 P (S "__main__" 164)).toArray 9,#[]⟩
def q0:Obj:=fl ([])
def T0 (P:Params):BT:=(M (boot_o_0 P) (M (boot_o_1 P) (M (p0 P) (L (boot_o_7 P)) (L iX)) (M (boot_o_5 P) (L (boot_o_9 P)) (L iY))) (M (boot_o_2 P) (M (boot_o_4 P) (L (boot_o_8 P)) (L q0)) (M (boot_o_6 P) (L (boot_o_10 P)) (L iZ))))
def p1 (P:Params):Obj:=⟨.type "dict",none,.dict (m0 P (S "joinedhand.buffer" 194)++m1 P).toArray 11,#[]⟩
def q1:Obj:=fl ([]++f1)
def T1 (P:Params):BT:=(M (boot_o_0 P) (M (boot_o_1 P) (M (p1 P) (M (boot_o_7 P) (M kh (L kM) (L kZ)) (M kE (L kS) (L lg))) (M iX (M kz (L i9) (L (jc P))) (M kI (L kU) E))) (M (boot_o_5 P) (M (boot_o_9 P) (M kw (L kO) (L lb)) (M kG (L ja) E)) (M iY (M kC (L kQ) (L ld)) (M kK (L kX) E)))) (M (boot_o_2 P) (M (boot_o_4 P) (M (boot_o_8 P) (M kn (L kN) (L la)) (M (kF P) (L kT) (L lh))) (M q1 (M kA (L kP) (L jd)) (M kJ (L kW) E))) (M (boot_o_6 P) (M (boot_o_10 P) (M ky (L i8) (L lc)) (M kH (L jb) E)) (M iZ (M kD (L kR) (L lf)) (M kL (L kY) E)))))
def p2 (P:Params):Obj:=⟨.type "dict",none,.dict (m0 P (S "joinedhand.hidden" 359)++m1 P++m2 P).toArray 23,#[]⟩
def q2:Obj:=fl ([]++f1++f2)
def T2 (P:Params):BT:=(M (boot_o_0 P) (M (boot_o_1 P) (M (p2 P) (M (boot_o_7 P) (M kh (M kM (M oL (L j6) E) (M pi (L nD) E)) (M kZ (M oZ (L ke) E) (L mN))) (M kE (M kS (M ll (L nc) E) (L jX)) (M lg (M o8 (L kj) E) (L j3)))) (M iX (M kz (M i9 (M oP (L j7) E) (M pv (L nH) E)) (M (jc P) (M o4 (L nr) E) (L mP))) (M kI (M kU (M oV (L nh) E) (L mJ)) (M (oH P) (M pd (L nA) E) (L mV))))) (M (boot_o_5 P) (M (boot_o_9 P) (M kw (M kO (M oN (L mZ) E) (M pk (L nF) E)) (M lb (M lp (L np) E) (L jZ))) (M kG (M ja (M oT (L kc) E) (L mH)) (M oF (M pb (L ny) E) (L mT)))) (M iY (M kC (M kQ (M oR (L m9) E) (M mF (L ku) E)) (M ld (M o6 (L nv) E) (L mR))) (M kK (M kX (M oX (L nj) E) (L mL)) (M oJ (M pg (L kl) E) (L mX)))))) (M (boot_o_2 P) (M (boot_o_4 P) (M (boot_o_8 P) (M kn (M kN (M oM (L mY) E) (M pj (L nE) E)) (M la (M lm (L kg) E) (L jY))) (M (kF P) (M kT (M oS (L j9) E) (L mG)) (M lh (M o9 (L nx) E) (L j4)))) (M q2 (M kA (M kP (M oQ (L j8) E) (M mE (L kq) E)) (M jd (M o5 (L nu) E) (L mQ))) (M kJ (M kW (M oW (L ni) E) (L mK)) (M oI (M pf (L nB) E) (L mW))))) (M (boot_o_6 P) (M (boot_o_10 P) (M ky (M i8 (M oO (L m8) E) (M po (L nG) E)) (M lc (M o0 (L nq) E) (L mO))) (M kH (M jb (M oU (L ng) E) (L mI)) (M oG (M pc (L nz) E) (L mU)))) (M iZ (M kD (M kR (M lk (L na) E) (L (jW P))) (M lf (M o7 (L ki) E) (L mS))) (M kL (M kY (M oY (L nk) E) (L mM)) (M oK (M ph (L km) E) (L j5)))))))
def p3 (P:Params):Obj:=⟨.type "dict",none,.dict (m0 P (S "joinedhand.normal" 556)++m1 P++m2 P++m3 P).toArray 48,#[]⟩
def q3:Obj:=fl ([]++f1++f2++f3)
def T3 (P:Params):BT:=(M (boot_o_0 P) (M (boot_o_1 P) (M (p3 P) (M (boot_o_7 P) (M kh (M kM (M oL (M j6 (L rW) E) (L qX)) (M pi (M nD (L sy) E) (L rA))) (M kZ (M oZ (M ke (L ot) E) (L nR)) (M mN (L qJ) (L n7)))) (M kE (M kS (M ll (M nc (L om) E) (L nO)) (M jX (M qD (L sE) E) (L rG))) (M lg (M o8 (M kj (L sn) E) (L rt)) (M j3 (L qR) (L oe))))) (M iX (M kz (M i9 (M oP (M j7 (L oj) E) (L qZ)) (M pv (M nH (L sA) E) (L rC))) (M (jc P) (M o4 (M nr (L sk) E) (L rp)) (M mP (L qN) (L rO)))) (M kI (M kU (M oV (M nh (L se) E) (L rh)) (M mJ (L nI) (L rI))) (M (oH P) (M pd (M nA (L oy) E) (L ry)) (M mV (L qT) (L rU)))))) (M (boot_o_5 P) (M (boot_o_9 P) (M kw (M kO (M oN (M mZ (L rY) E) (L nN)) (M pk (M nF (L oz) E) (L nW))) (M lb (M lp (M np (L si) E) (L rn)) (M jZ (L qL) (L rM)))) (M kG (M ja (M oT (M kc (L r9) E) (L rf)) (M mH (M qF (L oB) E) (L nZ))) (M oF (M pb (M ny (L sr) E) (L rv)) (M mT (L nK) (L rS))))) (M iY (M kC (M kQ (M oR (M m9 (L r7) E) (L rd)) (M mF (M ku (L sC) E) (L rE))) (M ld (M o6 (M nv (L ou) E) (L nS)) (M mR (L qP) (L rQ)))) (M kK (M kX (M oX (M nj (L sg) E) (L rl)) (M mL (L qH) (L rK))) (M oJ (M pg (M kl (L sv) E) (L nV)) (M mX (L qV) (L og))))))) (M (boot_o_2 P) (M (boot_o_4 P) (M (boot_o_8 P) (M kn (M kN (M oM (M mY (L rX) E) (L nM)) (M pj (M nE (L sz) E) (L rB))) (M la (M lm (M kg (L sh) E) (L rm)) (M jY (L qK) (L n8)))) (M (kF P) (M kT (M oS (M j9 (L oo) E) (L nP)) (M mG (M qE (L sF) E) (L nY))) (M lh (M o9 (M nx (L sq) E) (L ru)) (M j4 (L qS) (L rR))))) (M q3 (M kA (M kP (M oQ (M j8 (L rZ) E) (L rc)) (M mE (M kq (L sB) E) (L rD))) (M jd (M o5 (M nu (L sm) E) (L rq)) (M mQ (L qO) (L rP)))) (M kJ (M kW (M oW (M ni (L sf) E) (L rk)) (M mK (L nJ) (L rJ))) (M oI (M pf (M nB (L su) E) (L nU)) (M mW (L qU) (L rV)))))) (M (boot_o_6 P) (M (boot_o_10 P) (M ky (M i8 (M oO (M m8 (L oi) E) (L qY)) (M po (M nG (L oA) E) (L nX))) (M lc (M o0 (M nq (L sj) E) (L ro)) (M mO (L qM) (L rN)))) (M kH (M jb (M oU (M ng (L sa) E) (L rg)) (M mI (M qG (L oE) E) (L rH))) (M oG (M pc (M nz (L ox) E) (L rx)) (M mU (L nL) (L rT))))) (M iZ (M kD (M kR (M lk (M na (L r8) E) (L re)) (M (jW P) (M qC (L sD) E) (L rF))) (M lf (M o7 (M ki (L ow) E) (L nT)) (M mS (L qQ) (L n9)))) (M kL (M kY (M oY (M nk (L oq) E) (L nQ)) (M mM (L qI) (L rL))) (M oK (M ph (M km (L sx) E) (L rz)) (M j5 (L qW) (L oh))))))))
def p4 (P:Params):Obj:=⟨.type "dict",none,.dict (m0 P (S "joinedhand.normal" 556)++m1 P++m2 P++m3 P++m4 P).toArray 63,#[]⟩
def q4:Obj:=fl ([]++f1++f2++f3++f4)
def T4 (P:Params):BT:=(M (boot_o_0 P) (M (boot_o_1 P) (M (p4 P) (M (boot_o_7 P) (M kh (M kM (M oL (M j6 (L rW) (L wa)) (M qX (L sJ) E)) (M pi (M nD (L sy) E) (M rA (L vJ) E))) (M kZ (M oZ (M ke (L ot) (L th)) (M nR (L vu) E)) (M mN (M qJ (L u1) E) (M n7 (L sW) E)))) (M kE (M kS (M ll (M nc (L om) (L td)) (M nO (L vn) E)) (M jX (M qD (L sE) E) (M rG (L vP) E))) (M lg (M o8 (M kj (L sn) E) (M rt (L vD) E)) (M j3 (M qR (L sG) E) (M oe (L sZ) E))))) (M iX (M kz (M i9 (M oP (M j7 (L oj) (L tc)) (M qZ (L vl) E)) (M pv (M nH (L sA) E) (M rC (L vL) E))) (M (jc P) (M o4 (M nr (L sk) E) (M rp (L sO) E)) (M mP (M qN (L u5) E) (M rO (L vX) E)))) (M kI (M kU (M oV (M nh (L se) (L wl)) (M rh (L vp) E)) (M mJ (M nI (L uX) E) (M rI (L vR) E))) (M (oH P) (M pd (M nA (L oy) E) (M ry (L sR) E)) (M mV (M qT (L vd) E) (M rU (L s7) E)))))) (M (boot_o_5 P) (M (boot_o_9 P) (M kw (M kO (M oN (M mZ (L rY) (L wc)) (M nN (L vh) E)) (M pk (M nF (L oz) E) (M nW (L sS) E))) (M lb (M lp (M np (L si) E) (M rn (L vw) E)) (M jZ (M qL (L u3) E) (M rM (L vV) E)))) (M kG (M ja (M oT (M kc (L r9) (L wi)) (M rf (L sN) E)) (M mH (M qF (L oB) E) (M nZ (L sV) E))) (M oF (M pb (M ny (L sr) E) (M rv (L vF) E)) (M mT (M nK (L u9) E) (M rS (L v5) E))))) (M iY (M kC (M kQ (M oR (M m9 (L r7) (L wg)) (M rd (L sK) E)) (M mF (M ku (L sC) E) (M rE (L vN) E))) (M ld (M o6 (M nv (L ou) E) (M nS (L vB) E)) (M mR (M qP (L u7) E) (M rQ (L vZ) E)))) (M kK (M kX (M oX (M nj (L sg) (L wn)) (M rl (L vr) E)) (M mL (M qH (L (uZ P)) E) (M rK (L vT) E))) (M oJ (M pg (M kl (L sv) E) (M nV (L vH) E)) (M mX (M qV (L vf) E) (M og (L v7) E))))))) (M (boot_o_2 P) (M (boot_o_4 P) (M (boot_o_8 P) (M kn (M kN (M oM (M mY (L rX) (L wb)) (M nM (L vg) E)) (M pj (M nE (L sz) E) (M rB (L vK) E))) (M la (M lm (M kg (L sh) E) (M rm (L vv) E)) (M jY (M qK (L u2) E) (M n8 (L sX) E)))) (M (kF P) (M kT (M oS (M j9 (L oo) (L te)) (M nP (L (sM P)) E)) (M mG (M qE (L sF) E) (M nY (L sU) E))) (M lh (M o9 (M nx (L sq) E) (M ru (L vE) E)) (M j4 (M qS (L sH) E) (M rR (L v4) E))))) (M q4 (M kA (M kP (M oQ (M j8 (L rZ) (L we)) (M rc (L vm) E)) (M mE (M kq (L sB) E) (M rD (L vM) E))) (M jd (M o5 (M nu (L sm) E) (M rq (L sP) E)) (M mQ (M qO (L u6) E) (M rP (L vY) E)))) (M kJ (M kW (M oW (M ni (L sf) (L wm)) (M rk (L vq) E)) (M mK (M nJ (L uY) E) (M rJ (L vS) E))) (M oI (M pf (M nB (L su) E) (M nU (L vG) E)) (M mW (M qU (L ve) E) (M rV (L s8) E)))))) (M (boot_o_6 P) (M (boot_o_10 P) (M ky (M i8 (M oO (M m8 (L oi) (L ta)) (M qY (L vk) E)) (M po (M nG (L oA) E) (M nX (L sT) E))) (M lc (M o0 (M nq (L sj) E) (M ro (L vA) E)) (M mO (M qM (L u4) E) (M rN (L vW) E)))) (M kH (M jb (M oU (M ng (L sa) (L wj)) (M rg (L vo) E)) (M mI (M qG (L oE) E) (M rH (L vQ) E))) (M oG (M pc (M nz (L ox) E) (M rx (L sQ) E)) (M mU (M nL (L vc) E) (M rT (L v6) E))))) (M iZ (M kD (M kR (M lk (M na (L r8) (L wh)) (M re (L sL) E)) (M (jW P) (M qC (L sD) E) (M rF (L vO) E))) (M lf (M o7 (M ki (L ow) E) (M nT (L vC) E)) (M mS (M qQ (L u8) E) (M n9 (L sY) E)))) (M kL (M kY (M oY (M nk (L oq) (L tf)) (M nQ (L vt) E)) (M mM (M qI (L u0) E) (M rL (L vU) E))) (M oK (M ph (M km (L sx) E) (M rz (L vI) E)) (M j5 (M qW (L sI) E) (M oh (L v9) E))))))))
def p5 (P:Params):Obj:=⟨.type "dict",none,.dict (m0 P (S "joinedhand.syllables" 849)++m1 P++m2 P++m3 P++m4 P++m5 P).toArray 80,#[]⟩
def q5:Obj:=fl ([]++f1++f2++f3++f4++f5)
def T5 (P:Params):BT:=(M (boot_o_0 P) (M (boot_o_1 P) (M (p5 P) (M (boot_o_7 P) (M kh (M kM (M oL (M j6 (L rW) (L wa)) (M qX (L sJ) (L zu))) (M pi (M nD (L sy) (L y6)) (M rA (L vJ) (L zW)))) (M kZ (M oZ (M ke (L ot) (L th)) (M nR (L vu) (L zI))) (M mN (M qJ (L u1) (L wz)) (M n7 (L sW) E)))) (M kE (M kS (M ll (M nc (L om) (L td)) (M nO (L vn) (L zC))) (M jX (M qD (L sE) (L zd)) (M rG (L vP) (L wU)))) (M lg (M o8 (M kj (L sn) (L yX)) (M rt (L vD) (L zO))) (M j3 (M qR (L sG) (L wF)) (M oe (L sZ) E))))) (M iX (M kz (M i9 (M oP (M j7 (L oj) (L tc)) (M qZ (L vl) (L zy))) (M pv (M nH (L sA) (L wv)) (M rC (L vL) (L wQ)))) (M (jc P) (M o4 (M nr (L sk) (L yV)) (M rp (L sO) (L zM))) (M mP (M qN (L u5) (L zl)) (M rO (L vX) E)))) (M kI (M kU (M oV (M nh (L se) (L wl)) (M rh (L vp) (L zG))) (M mJ (M nI (L uX) (L zf)) (M rI (L vR) (L wY)))) (M (oH P) (M pd (M nA (L oy) (L y4)) (M ry (L sR) (L zS))) (M mV (M qT (L vd) (L zr)) (M rU (L s7) E)))))) (M (boot_o_5 P) (M (boot_o_9 P) (M kw (M kO (M oN (M mZ (L rY) (L wc)) (M nN (L vh) (L (zw P)))) (M pk (M nF (L oz) (L y8)) (M nW (L sS) (L wO)))) (M lb (M lp (M np (L si) (L yT)) (M rn (L vw) (L zK))) (M jZ (M qL (L u3) (L zj)) (M rM (L vV) E)))) (M kG (M ja (M oT (M kc (L r9) (L wi)) (M rf (L sN) (L zE))) (M mH (M qF (L oB) (L wy)) (M nZ (L sV) (L wW)))) (M oF (M pb (M ny (L sr) (L yZ)) (M rv (L vF) (L zQ))) (M mT (M nK (L u9) (L zp)) (M rS (L v5) E))))) (M iY (M kC (M kQ (M oR (M m9 (L r7) (L wg)) (M rd (L sK) (L zB))) (M mF (M ku (L sC) (L za)) (M rE (L vN) (L wS)))) (M ld (M o6 (M nv (L ou) (L wp)) (M nS (L vB) (L (wL P)))) (M mR (M qP (L u7) (L zn)) (M rQ (L vZ) E)))) (M kK (M kX (M oX (M nj (L sg) (L wn)) (M rl (L vr) (L wJ))) (M mL (M qH (L (uZ P)) (L zh)) (M rK (L vT) (L w3)))) (M oJ (M pg (M kl (L sv) (L wu)) (M nV (L vH) (L zU))) (M mX (M qV (L vf) (L wG)) (M og (L v7) E))))))) (M (boot_o_2 P) (M (boot_o_4 P) (M (boot_o_8 P) (M kn (M kN (M oM (M mY (L rX) (L wb)) (M nM (L vg) (L zv))) (M pj (M nE (L sz) (L y7)) (M rB (L vK) (L wN)))) (M la (M lm (M kg (L sh) (L yS)) (M rm (L vv) (L zJ))) (M jY (M qK (L u2) (L wA)) (M n8 (L sX) E)))) (M (kF P) (M kT (M oS (M j9 (L oo) (L te)) (M nP (L (sM P)) (L zD))) (M mG (M qE (L sF) (L wx)) (M nY (L sU) (L wV)))) (M lh (M o9 (M nx (L sq) (L yY)) (M ru (L vE) (L zP))) (M j4 (M qS (L sH) (L zo)) (M rR (L v4) E))))) (M q5 (M kA (M kP (M oQ (M j8 (L rZ) (L we)) (M rc (L vm) (L zA))) (M mE (M kq (L sB) (L ww)) (M rD (L vM) (L wR)))) (M jd (M o5 (M nu (L sm) (L yW)) (M rq (L sP) (L zN))) (M mQ (M qO (L u6) (L zm)) (M rP (L vY) E)))) (M kJ (M kW (M oW (M ni (L sf) (L wm)) (M rk (L vq) (L zH))) (M mK (M nJ (L uY) (L zg)) (M rJ (L vS) (L wZ)))) (M oI (M pf (M nB (L su) (L wt)) (M nU (L vG) (L zT))) (M mW (M qU (L ve) (L zt)) (M rV (L s8) E)))))) (M (boot_o_6 P) (M (boot_o_10 P) (M ky (M i8 (M oO (M m8 (L oi) (L ta)) (M qY (L vk) (L zx))) (M po (M nG (L oA) (L y9)) (M nX (L sT) (L wP)))) (M lc (M o0 (M nq (L sj) (L yU)) (M ro (L vA) (L zL))) (M mO (M qM (L u4) (L zk)) (M rN (L vW) E)))) (M kH (M jb (M oU (M ng (L sa) (L wj)) (M rg (L vo) (L zF))) (M mI (M qG (L oE) (L ze)) (M rH (L vQ) (L wX)))) (M oG (M pc (M nz (L ox) (L y3)) (M rx (L sQ) (L zR))) (M mU (M nL (L vc) (L zq)) (M rT (L v6) E))))) (M iZ (M kD (M kR (M lk (M na (L r8) (L wh)) (M re (L sL) (L wI))) (M (jW P) (M qC (L sD) (L zb)) (M rF (L vO) (L wT)))) (M lf (M o7 (M ki (L ow) (L wq)) (M nT (L vC) (L wM))) (M mS (M qQ (L u8) (L wE)) (M n9 (L sY) E)))) (M kL (M kY (M oY (M nk (L oq) (L tf)) (M nQ (L vt) (L wK))) (M mM (M qI (L u0) (L zi)) (M rL (L vU) (L w4)))) (M oK (M ph (M km (L sx) (L y5)) (M rz (L vI) (L zV))) (M j5 (M qW (L sI) (L wH)) (M oh (L v9) E))))))))
def p6 (P:Params):Obj:=⟨.type "dict",none,.dict (m0 P (S "joinedhand.charmap" 1021)++m1 P++m2 P++m3 P++m4 P++m5 P++m6 P).toArray 98,#[]⟩
def q6:Obj:=fl ([]++f1++f2++f3++f4++f5++f6)
def T6 (P:Params):BT:=(M (boot_o_0 P) (M (boot_o_1 P) (M (p6 P) (M (boot_o_7 P) (M kh (M kM (M oL (M j6 (M rW (L DX) E) (L wa)) (M qX (M sJ (L EN) E) (L zu))) (M pi (M nD (M sy (L Ej) E) (L y6)) (M rA (L vJ) (L zW)))) (M kZ (M oZ (M ke (M ot (L D9) E) (L th)) (M nR (M vu (L EZ) E) (L zI))) (M mN (M qJ (M u1 (L Ag) E) (L wz)) (M n7 (L sW) (L DJ))))) (M kE (M kS (M ll (M nc (M om (L D3) E) (L td)) (M nO (M vn (L ET) E) (L zC))) (M jX (M qD (M sE (L Et) E) (L zd)) (M rG (L vP) (L wU)))) (M lg (M o8 (M kj (M sn (L Aa) E) (L yX)) (M rt (L vD) (L zO))) (M j3 (M qR (M sG (L EI) E) (L wF)) (M oe (L sZ) (L DQ)))))) (M iX (M kz (M i9 (M oP (M j7 (M oj (L z5) E) (L tc)) (M qZ (M vl (L ER) E) (L zy))) (M pv (M nH (M sA (L Eo) E) (L wv)) (M rC (L vL) (L wQ)))) (M (jc P) (M o4 (M nr (M sk (L Eb) E) (L yV)) (M rp (L sO) (L zM))) (M mP (M qN (M u5 (L EE) E) (L zl)) (M rO (L vX) (L DO))))) (M kI (M kU (M oV (M nh (M se (L D5) E) (L wl)) (M rh (M vp (L EV) E) (L zG))) (M mJ (M nI (M uX (L Af) E) (L zf)) (M rI (L vR) (L wY)))) (M (oH P) (M pd (M nA (M oy (L Eh) E) (L y4)) (M ry (L sR) (L zS))) (M mV (M qT (M vd (L EM) E) (L zr)) (M rU (L s7) (L zZ))))))) (M (boot_o_5 P) (M (boot_o_9 P) (M kw (M kO (M oN (M mZ (M rY (L DZ) E) (L wc)) (M nN (M vh (L EP) E) (L (zw P)))) (M pk (M nF (M oz (L Em) E) (L y8)) (M nW (L sS) (L wO)))) (M lb (M lp (M np (M si (L z9) E) (L yT)) (M rn (M vw (L E1) E) (L zK))) (M jZ (M qL (M u3 (L EB) E) (L zj)) (M rM (L vV) (L DM))))) (M kG (M ja (M oT (M kc (M r9 (L z6) E) (L wi)) (M rf (M sN (L An) E) (L zE))) (M mH (M qF (M oB (L Ew) E) (L wy)) (M nZ (L sV) (L wW)))) (M oF (M pb (M ny (M sr (L Ef) E) (L yZ)) (M rv (L vF) (L zQ))) (M mT (M nK (M u9 (L EK) E) (L zp)) (M rS (L v5) (L DT)))))) (M iY (M kC (M kQ (M oR (M m9 (M r7 (L D1) E) (L wg)) (M rd (M sK (L Am) E) (L zB))) (M mF (M ku (M sC (L Er) E) (L za)) (M rE (L vN) (L wS)))) (M ld (M o6 (M nv (M ou (L Ed) E) (L wp)) (M nS (L vB) (L (wL P)))) (M mR (M qP (M u7 (L EG) E) (L zn)) (M rQ (L vZ) (L zY))))) (M kK (M kX (M oX (M nj (M sg (L D7) E) (L wn)) (M rl (M vr (L EX) E) (L wJ))) (M mL (M qH (M (uZ P) (L Ez) E) (L zh)) (M rK (L vT) (L w3)))) (M oJ (M pg (M kl (M sv (L Ad) E) (L wu)) (M nV (L vH) (L zU))) (M mX (M qV (M vf (L Aj) E) (L wG)) (M og (L v7) (L DV)))))))) (M (boot_o_2 P) (M (boot_o_4 P) (M (boot_o_8 P) (M kn (M kN (M oM (M mY (M rX (L DY) E) (L wb)) (M nM (M vg (L EO) E) (L zv))) (M pj (M nE (M sz (L Ek) E) (L y7)) (M rB (L vK) (L wN)))) (M la (M lm (M kg (M sh (L z8) E) (L yS)) (M rm (M vv (L E0) E) (L zJ))) (M jY (M qK (M u2 (L Ah) E) (L wA)) (M n8 (L sX) (L DK))))) (M (kF P) (M kT (M oS (M j9 (M oo (L D4) E) (L te)) (M nP (M (sM P) (L EU) E) (L zD))) (M mG (M qE (M sF (L Eu) E) (L wx)) (M nY (L sU) (L wV)))) (M lh (M o9 (M nx (M sq (L Ab) E) (L yY)) (M ru (L vE) (L zP))) (M j4 (M qS (M sH (L EJ) E) (L zo)) (M rR (L v4) (L DS)))))) (M q6 (M kA (M kP (M oQ (M j8 (M rZ (L D0) E) (L we)) (M rc (M vm (L Al) E) (L zA))) (M mE (M kq (M sB (L Ep) E) (L ww)) (M rD (L vM) (L wR)))) (M jd (M o5 (M nu (M sm (L Ec) E) (L yW)) (M rq (L sP) (L zN))) (M mQ (M qO (M u6 (L EF) E) (L zm)) (M rP (L vY) (L zX))))) (M kJ (M kW (M oW (M ni (M sf (L D6) E) (L wm)) (M rk (M vq (L EW) E) (L zH))) (M mK (M nJ (M uY (L Ey) E) (L zg)) (M rJ (L vS) (L wZ)))) (M oI (M pf (M nB (M su (L Ac) E) (L wt)) (M nU (L vG) (L zT))) (M mW (M qU (M ve (L Ai) E) (L zt)) (M rV (L s8) (L z3))))))) (M (boot_o_6 P) (M (boot_o_10 P) (M ky (M i8 (M oO (M m8 (M oi (L z4) E) (L ta)) (M qY (M vk (L EQ) E) (L zx))) (M po (M nG (M oA (L En) E) (L y9)) (M nX (L sT) (L wP)))) (M lc (M o0 (M nq (M sj (L Ea) E) (L yU)) (M ro (L vA) (L zL))) (M mO (M qM (M u4 (L ED) E) (L zk)) (M rN (L vW) (L DN))))) (M kH (M jb (M oU (M ng (M sa (L z7) E) (L wj)) (M rg (M vo (L Ao) E) (L zF))) (M mI (M qG (M oE (L Ae) E) (L ze)) (M rH (L vQ) (L wX)))) (M oG (M pc (M nz (M ox (L Eg) E) (L y3)) (M rx (L sQ) (L zR))) (M mU (M nL (M vc (L EL) E) (L zq)) (M rT (L v6) (L DU)))))) (M iZ (M kD (M kR (M lk (M na (M r8 (L D2) E) (L wh)) (M re (M sL (L ES) E) (L wI))) (M (jW P) (M qC (M sD (L Es) E) (L zb)) (M rF (L vO) (L wT)))) (M lf (M o7 (M ki (M ow (L Ee) E) (L wq)) (M nT (L vC) (L wM))) (M mS (M qQ (M u8 (L EH) E) (L wE)) (M n9 (L sY) (L DP))))) (M kL (M kY (M oY (M nk (M oq (L D8) E) (L tf)) (M nQ (M vt (L EY) E) (L wK))) (M mM (M qI (M u0 (L EA) E) (L zi)) (M rL (L vU) (L w4)))) (M oK (M ph (M km (M sx (L Ei) E) (L y5)) (M rz (L vI) (L zV))) (M j5 (M qW (M sI (L Ak) E) (L wH)) (M oh (L v9) (L DW)))))))))
def p7 (P:Params):Obj:=⟨.type "dict",none,.dict (m0 P (S "law_nz0118_01" 1075)++m1 P++m2 P++m3 P++m4 P++m5 P++m6 P++m7 P).toArray 106,#[]⟩
def q7:Obj:=fl ([]++f1++f2++f3++f4++f5++f6++f7)
def T7 (P:Params):BT:=(M (boot_o_0 P) (M (boot_o_1 P) (M (p7 P) (M (boot_o_7 P) (M kh (M kM (M oL (M j6 (M rW (L DX) E) (M wa (L E9) E)) (M qX (M sJ (L EN) E) (L zu))) (M pi (M nD (M sy (L Ej) E) (M y6 (L LO) E)) (M rA (M vJ (L KZ) E) (L zW)))) (M kZ (M oZ (M ke (M ot (L D9) E) (M th (L LC) E)) (M nR (M vu (L EZ) E) (L zI))) (M mN (M qJ (M u1 (L Ag) E) (L wz)) (M n7 (M sW (L Ld) E) (L DJ))))) (M kE (M kS (M ll (M nc (M om (L D3) E) (M td (L Lw) E)) (M nO (M vn (L ET) E) (L zC))) (M jX (M qD (M sE (L Et) E) (L zd)) (M rG (M vP (L K5) E) (L wU)))) (M lg (M o8 (M kj (M sn (L Aa) E) (M yX (L LK) E)) (M rt (M vD (L KT) E) (L zO))) (M j3 (M qR (M sG (L EI) E) (L wF)) (M oe (M sZ (L Lj) E) (L DQ)))))) (M iX (M kz (M i9 (M oP (M j7 (M oj (L z5) E) (M tc (L Lu) E)) (M qZ (M vl (L ER) E) (L zy))) (M pv (M nH (M sA (L Eo) E) (M wv (L Fo) E)) (M rC (M vL (L K3) E) (L wQ)))) (M (jc P) (M o4 (M nr (M sk (L Eb) E) (M yV (L LE) E)) (M rp (M sO (L KO) E) (L zM))) (M mP (M qN (M u5 (L EE) E) (L zl)) (M rO (M vX (L (E6 P)) E) (L DO))))) (M kI (M kU (M oV (M nh (M se (L D5) E) (M wl (L Fe) E)) (M rh (M vp (L EV) E) (L zG))) (M mJ (M nI (M uX (L Af) E) (L zf)) (M rI (M vR (L K9) E) (L wY)))) (M (oH P) (M pd (M nA (M oy (L Eh) E) (M y4 (L LM) E)) (M ry (M sR (L KX) E) (L zS))) (M mV (M qT (M vd (L EM) E) (L zr)) (M rU (M s7 (L Ln) E) (L zZ))))))) (M (boot_o_5 P) (M (boot_o_9 P) (M kw (M kO (M oN (M mZ (M rY (L DZ) E) (M wc (L Lr) E)) (M nN (M vh (L EP) E) (L (zw P)))) (M pk (M nF (M oz (L Em) E) (M y8 (L LQ) E)) (M nW (M sS (L K1) E) (L wO)))) (M lb (M lp (M np (M si (L z9) E) (M yT (L Ff) E)) (M rn (M vw (L E1) E) (L zK))) (M jZ (M qL (M u3 (L EB) E) (L zj)) (M rM (M vV (L Lf) E) (L DM))))) (M kG (M ja (M oT (M kc (M r9 (L z6) E) (M wi (L Ly) E)) (M rf (M sN (L An) E) (L zE))) (M mH (M qF (M oB (L Ew) E) (L wy)) (M nZ (M sV (L K7) E) (L wW)))) (M oF (M pb (M ny (M sr (L Ef) E) (M yZ (L Fi) E)) (M rv (M vF (L KV) E) (L zQ))) (M mT (M nK (M u9 (L EK) E) (L zp)) (M rS (M v5 (L Ll) E) (L DT)))))) (M iY (M kC (M kQ (M oR (M m9 (M r7 (L D1) E) (M wg (L Fa) E)) (M rd (M sK (L Am) E) (L zB))) (M mF (M ku (M sC (L Er) E) (L za)) (M rE (M vN (L E5) E) (L wS)))) (M ld (M o6 (M nv (M ou (L Ed) E) (M wp (L LH) E)) (M nS (M vB (L KQ) E) (L (wL P)))) (M mR (M qP (M u7 (L EG) E) (L zn)) (M rQ (M vZ (L Lh) E) (L zY))))) (M kK (M kX (M oX (M nj (M sg (L D7) E) (M wn (L LA) E)) (M rl (M vr (L EX) E) (L wJ))) (M mL (M qH (M (uZ P) (L Ez) E) (L zh)) (M rK (M vT (L Lb) E) (L w3)))) (M oJ (M pg (M kl (M sv (L Ad) E) (M wu (L Fj) E)) (M nV (M vH (L E2) E) (L zU))) (M mX (M qV (M vf (L Aj) E) (L wG)) (M og (M v7 (L Lp) E) (L DV)))))))) (M (boot_o_2 P) (M (boot_o_4 P) (M (boot_o_8 P) (M kn (M kN (M oM (M mY (M rX (L DY) E) (M wb (L Lq) E)) (M nM (M vg (L EO) E) (L zv))) (M pj (M nE (M sz (L Ek) E) (M y7 (L LP) E)) (M rB (M vK (L K0) E) (L wN)))) (M la (M lm (M kg (M sh (L z8) E) (M yS (L LD) E)) (M rm (M vv (L E0) E) (L zJ))) (M jY (M qK (M u2 (L Ah) E) (L wA)) (M n8 (M sX (L Le) E) (L DK))))) (M (kF P) (M kT (M oS (M j9 (M oo (L D4) E) (M te (L Lx) E)) (M nP (M (sM P) (L EU) E) (L zD))) (M mG (M qE (M sF (L Eu) E) (L wx)) (M nY (M sU (L K6) E) (L wV)))) (M lh (M o9 (M nx (M sq (L Ab) E) (M yY (L Fh) E)) (M ru (M vE (L KU) E) (L zP))) (M j4 (M qS (M sH (L EJ) E) (L zo)) (M rR (M v4 (L Lk) E) (L DS)))))) (M q7 (M kA (M kP (M oQ (M j8 (M rZ (L D0) E) (M we (L Lv) E)) (M rc (M vm (L Al) E) (L zA))) (M mE (M kq (M sB (L Ep) E) (L ww)) (M rD (M vM (L E4) E) (L wR)))) (M jd (M o5 (M nu (M sm (L Ec) E) (M yW (L LG) E)) (M rq (M sP (L (KP P)) E) (L zN))) (M mQ (M qO (M u6 (L EF) E) (L zm)) (M rP (M vY (L E7) E) (L zX))))) (M kJ (M kW (M oW (M ni (M sf (L D6) E) (M wm (L Lz) E)) (M rk (M vq (L EW) E) (L zH))) (M mK (M nJ (M uY (L Ey) E) (L zg)) (M rJ (M vS (L La) E) (L wZ)))) (M oI (M pf (M nB (M su (L Ac) E) (M wt (L LN) E)) (M nU (M vG (L KY) E) (L zT))) (M mW (M qU (M ve (L Ai) E) (L zt)) (M rV (M s8 (L Lo) E) (L z3))))))) (M (boot_o_6 P) (M (boot_o_10 P) (M ky (M i8 (M oO (M m8 (M oi (L z4) E) (M ta (L Ls) E)) (M qY (M vk (L EQ) E) (L zx))) (M po (M nG (M oA (L En) E) (M y9 (L Fm) E)) (M nX (M sT (L K2) E) (L wP)))) (M lc (M o0 (M nq (M sj (L Ea) E) (M yU (L Fg) E)) (M ro (M vA (L KN) E) (L zL))) (M mO (M qM (M u4 (L ED) E) (L zk)) (M rN (M vW (L Lg) E) (L DN))))) (M kH (M jb (M oU (M ng (M sa (L z7) E) (M wj (L Fd) E)) (M rg (M vo (L Ao) E) (L zF))) (M mI (M qG (M oE (L Ae) E) (L ze)) (M rH (M vQ (L K8) E) (L wX)))) (M oG (M pc (M nz (M ox (L Eg) E) (M y3 (L LL) E)) (M rx (M sQ (L KW) E) (L zR))) (M mU (M nL (M vc (L EL) E) (L zq)) (M rT (M v6 (L Lm) E) (L DU)))))) (M iZ (M kD (M kR (M lk (M na (M r8 (L D2) E) (M wh (L Fb) E)) (M re (M sL (L ES) E) (L wI))) (M (jW P) (M qC (M sD (L Es) E) (L zb)) (M rF (M vO (L K4) E) (L wT)))) (M lf (M o7 (M ki (M ow (L Ee) E) (M wq (L LJ) E)) (M nT (M vC (L KS) E) (L wM))) (M mS (M qQ (M u8 (L EH) E) (L wE)) (M n9 (M sY (L Li) E) (L DP))))) (M kL (M kY (M oY (M nk (M oq (L D8) E) (M tf (L LB) E)) (M nQ (M vt (L EY) E) (L wK))) (M mM (M qI (M u0 (L EA) E) (L zi)) (M rL (M vU (L Lc) E) (L w4)))) (M oK (M ph (M km (M sx (L Ei) E) (M y5 (L Fk) E)) (M rz (M vI (L E3) E) (L zV))) (M j5 (M qW (M sI (L Ak) E) (L wH)) (M oh (M v9 (L E8) E) (L DW)))))))))
noncomputable def H1 (P:Params):Heap:=⟨⟨[boot_o_0 P,boot_o_1 P,boot_o_2 P,p7 P,boot_o_4 P,boot_o_5 P,boot_o_6 P,boot_o_7 P,boot_o_8 P,boot_o_9 P,boot_o_10 P,iX,q7,iY,iZ,kh,kn,kw,ky,kz,kA,kC,kD,kE,kF P,kG,kH,kI,kJ,kK,kL,kM,kN,kO,i8,i9,kP,kQ,kR,kS,kT,ja,jb,kU,kW,kX,kY,kZ,la,lb,lc,jc P,jd,ld,lf,lg,lh,oF,oG,oH P,oI,oJ,oK,oL,oM,oN,oO,oP,oQ,oR,lk,ll,oS,oT,oU,oV,oW,oX,oY,oZ,lm,lp,o0,o4,o5,o6,o7,o8,o9,pb,pc,pd,pf,pg,ph,pi,pj,pk,po,pv,mE,mF,jW P,jX,mG,mH,mI,mJ,mK,mL,mM,mN,jY,jZ,mO,mP,mQ,mR,mS,j3,j4,mT,mU,mV,mW,mX,j5,j6,mY,mZ,m8,j7,j8,m9,na,nc,j9,kc,ng,nh,ni,nj,nk,ke,kg,np,nq,nr,nu,nv,ki,kj,nx,ny,nz,nA,nB,kl,km,nD,nE,nF,nG,nH,kq,ku,qC,qD,qE,qF,qG,nI,nJ,qH,qI,qJ,qK,qL,qM,qN,qO,qP,qQ,qR,qS,nK,nL,qT,qU,qV,qW,qX,nM,nN,qY,qZ,rc,rd,re,nO,nP,rf,rg,rh,rk,rl,nQ,nR,rm,rn,ro,rp,rq,nS,nT,rt,ru,rv,rx,ry,nU,nV,rz,rA,rB,nW,nX,rC,rD,rE,rF,rG,nY,nZ,rH,rI,rJ,rK,rL,n7,n8,rM,rN,rO,rP,rQ,n9,oe,rR,rS,rT,rU,rV,og,oh,rW,rX,rY,oi,oj,rZ,r7,r8,om,oo,r9,sa,se,sf,sg,oq,ot,sh,si,sj,sk,sm,ou,ow,sn,sq,sr,ox,oy,su,sv,sx,sy,sz,oz,oA,sA,sB,sC,sD,sE,sF,oB,oE,uX,uY,uZ P,u0,u1,u2,u3,u4,u5,u6,u7,u8,sG,sH,u9,vc,vd,ve,vf,sI,sJ,vg,vh,vk,vl,vm,sK,sL,vn,sM P,sN,vo,vp,vq,vr,vt,vu,vv,vw,vA,sO,sP,vB,vC,vD,vE,vF,sQ,sR,vG,vH,vI,vJ,vK,sS,sT,vL,vM,vN,vO,vP,sU,sV,vQ,vR,vS,vT,vU,sW,sX,vV,vW,vX,vY,vZ,sY,sZ,v4,v5,v6,s7,s8,v7,v9,wa,wb,wc,ta,tc,we,wg,wh,td,te,wi,wj,wl,wm,wn,tf,th,yS,yT,yU,yV,yW,wp,wq,yX,yY,yZ,y3,y4,wt,wu,y5,y6,y7,y8,y9,wv,ww,za,zb,zd,wx,wy,ze,zf,zg,zh,zi,wz,wA,zj,zk,zl,zm,zn,wE,wF,zo,zp,zq,zr,zt,wG,wH,zu,zv,zw P,zx,zy,zA,zB,wI,zC,zD,zE,zF,zG,zH,wJ,wK,zI,zJ,zK,zL,zM,zN,wL P,wM,zO,zP,zQ,zR,zS,zT,zU,zV,zW,wN,wO,wP,wQ,wR,wS,wT,wU,wV,wW,wX,wY,wZ,w3,w4,DJ,DK,DM,DN,DO,zX,zY,DP,DQ,DS,DT,DU,zZ,z3,DV,DW,DX,DY,DZ,z4,z5,D0,D1,D2,D3,D4,z6,z7,D5,D6,D7,D8,D9,z8,z9,Ea,Eb,Ec,Ed,Ee,Aa,Ab,Ef,Eg,Eh,Ac,Ad,Ei,Ej,Ek,Em,En,Eo,Ep,Er,Es,Et,Eu,Ew,Ae,Af,Ey,Ez,EA,Ag,Ah,EB,ED,EE,EF,EG,EH,EI,EJ,EK,EL,EM,Ai,Aj,Ak,EN,EO,EP,EQ,ER,Al,Am,ES,ET,EU,An,Ao,EV,EW,EX,EY,EZ,E0,E1,KN,KO,KP P,KQ,KS,KT,KU,KV,KW,KX,KY,E2,E3,KZ,K0,K1,K2,K3,E4,E5,K4,K5,K6,K7,K8,K9,La,Lb,Lc,Ld,Le,Lf,Lg,E6 P,E7,Lh,Li,Lj,Lk,Ll,Lm,Ln,Lo,Lp,E8,E9,Lq,Lr,Ls,Lu,Lv,Fa,Fb,Lw,Lx,Ly,Fd,Fe,Lz,LA,LB,LC,LD,Ff,Fg,LE,LG,LH,LJ,LK,Fh,Fi,LL,LM,LN,Fj,Fk,LO,LP,LQ,Fm,Fo]⟩,{}⟩
end
noncomputable section
noncomputable def gq:Env:={scope:=pw.main.scope,locals:=mainNs,globals:=mainNs,cells:=[],code:=R 13,frame:=some 14}
noncomputable def cE:Code:=.body gi gq
noncomputable def fy:Option Value:=some (.ref 6)
noncomputable def pz:Pos:=⟨0,0,0,0⟩
noncomputable def B0:List Frame:=[topFrame pz]
noncomputable def X0 (P:Params)(os:OsState):SharedT:=⟨T0 P,15,{},#[],boot_drawn,187,os⟩
noncomputable def X1 (P:Params)(os:OsState):SharedT:=⟨T1 P,57,{},#[],boot_drawn,257,os⟩
noncomputable def Me:Pos:=⟨5,0,43,103⟩
noncomputable def L1:List Stmt:=(gi.drop 0).take 3
noncomputable def X2 (P:Params)(os:OsState):SharedT:=⟨T2 P,166,{},#[],boot_drawn,394,os⟩
noncomputable def Mf:Pos:=⟨107,0,112,51⟩
noncomputable def L2:List Stmt:=(gi.drop 3).take 13
noncomputable def X3 (P:Params)(os:OsState):SharedT:=⟨T3 P,299,{},#[],boot_drawn,564,os⟩
noncomputable def Mg:Pos:=⟨221,0,221,13⟩
noncomputable def L3:List Stmt:=(gi.drop 16).take 28
noncomputable def X4 (P:Params)(os:OsState):SharedT:=⟨T4 P,400,{},#[],boot_drawn,710,os⟩
noncomputable def Mh:Pos:=⟨300,0,301,37⟩
noncomputable def L4:List Stmt:=(gi.drop 44).take 15
noncomputable def X5 (P:Params)(os:OsState):SharedT:=⟨T5 P,495,{},#[],boot_drawn,881,os⟩
noncomputable def Mi:Pos:=⟨385,0,385,14⟩
noncomputable def L5:List Stmt:=(gi.drop 59).take 19
noncomputable def X6 (P:Params)(os:OsState):SharedT:=⟨T6 P,594,{},#[],boot_drawn,1023,os⟩
noncomputable def Mj:Pos:=⟨493,0,493,8⟩
noncomputable def L6:List Stmt:=(gi.drop 78).take 21
noncomputable def X7 (P:Params)(os:OsState):SharedT:=⟨T7 P,676,{},#[],boot_drawn,1124,os⟩
noncomputable def Mk:Pos:=⟨540,0,576,106⟩
noncomputable def L7:List Stmt:=(gi.drop 99).take 9
noncomputable def Mo:List Stmt:=L1++(L2++(L3++(L4++(L5++(L6++(L7++[]))))))
theorem ND:gi=Mo:=by kernel_rfl
end
theorem Uz (w:World):(fun os=>segRunT treeTable pw w 11 fy 1 341 (X0 w.params os) (piecesOf L1 gq cE pz B0))=fun os=>some (.next,X1 w.params os,cE,Me):=by kernel_rfl
theorem UA (w:World):(fun os=>segRunT treeTable pw w 11 fy 1 660 (X1 w.params os) (piecesOf L2 gq cE Me B0))=fun os=>some (.next,X2 w.params os,cE,Mf):=by kernel_rfl
theorem UB (w:World):(fun os=>segRunT treeTable pw w 11 fy 1 660 (X2 w.params os) (piecesOf L3 gq cE Mf B0))=fun os=>some (.next,X3 w.params os,cE,Mg):=by kernel_rfl
theorem UC (w:World):(fun os=>segRunT treeTable pw w 11 fy 1 632 (X3 w.params os) (piecesOf L4 gq cE Mg B0))=fun os=>some (.next,X4 w.params os,cE,Mh):=by kernel_rfl
theorem UD (w:World):(fun os=>segRunT treeTable pw w 11 fy 1 660 (X4 w.params os) (piecesOf L5 gq cE Mh B0))=fun os=>some (.next,X5 w.params os,cE,Mi):=by kernel_rfl
theorem UE (w:World):(fun os=>segRunT treeTable pw w 11 fy 1 510 (X5 w.params os) (piecesOf L6 gq cE Mi B0))=fun os=>some (.next,X6 w.params os,cE,Mj):=by kernel_rfl
theorem UF (w:World):(fun os=>segRunT treeTable pw w 11 fy 1 519 (X6 w.params os) (piecesOf L7 gq cE Mj B0))=fun os=>some (.next,X7 w.params os,cE,Mk):=by kernel_rfl
noncomputable abbrev S0 (w:World)(os:OsState):Shared:=⟨boot_heap w.params,#[],boot_drawn,boot_toks,os⟩
theorem UI (w:World):(fun os=>topGo treeTable pw w 11 fy 12 (S0 w os) (topStub pw))=fun os=>some ((X0 w.params os).abs,⟨denote treeTable cE,cE,pz,B0⟩):=by kernel_rfl
theorem UG (w:World):(fun os=>segRun treeTable pw w 11 fy 1 1 (X0 w.params os).abs (blockOf gi gq cE pz B0))=fun os=>some (.next,(X0 w.params os).abs,cE,pz):=by kernel_rfl
theorem UH (w:World):(fun os=>topRun treeTable pw w 11 fy 2 (X7 w.params os).abs ⟨doneF .next,cE,Mk,B0⟩)=fun os=>some (X7 w.params os).abs:=by kernel_rfl
theorem Q5 (P:Params):absHeap (T7 P) 676 {}=H1 P:=by kernel_rfl
theorem UJ (w:World)(os:OsState):topRun treeTable pw w 11 fy 3997 (S0 w os) (topStub pw)=some ⟨H1 w.params,#[],boot_drawn,1124,os⟩:=by
 have e:(X7 w.params os).abs=⟨H1 w.params,#[],boot_drawn,1124,os⟩:=by
  show(⟨absHeap (T7 w.params) 676 {},#[],boot_drawn,1124,os⟩:Shared)=_
  rw[Q5]
 have k8:=piece_nil (env:=gq) (congrFun (UH w) os)
 have k7:=piece_app (segRun_of (congrFun (UF w) os)) k8
 have k6:=piece_app (segRun_of (congrFun (UE w) os)) k7
 have k5:=piece_app (segRun_of (congrFun (UD w) os)) k6
 have k4:=piece_app (segRun_of (congrFun (UC w) os)) k5
 have k3:=piece_app (segRun_of (congrFun (UB w) os)) k4
 have k2:=piece_app (segRun_of (congrFun (UA w) os)) k3
 have k1:=piece_app (segRun_of (congrFun (Uz w) os)) k2
 have kr:topRun treeTable pw w 11 fy _ (X0 w.params os).abs (restOf Mo gq cE pz [topFrame pz])=some (X7 w.params os).abs:=k1
 rw[←ND]at kr
 have kb:=piece_block (congrFun (UG w) os) kr
 have kp:=go_top (congrFun (UI w) os) kb
 rw[e]at kp
 exact kp
noncomputable section
noncomputable def qv:Program:={pw with main:={pw.main with body:=[st 107]}}
noncomputable def loose:List Str:=(["_wall","Info","Buffer","buffer_of","set_cluster","widened","merge","hang","ZWNJ_hidden","ZWJ_hidden","hidden_spans","is_hidden_code","is_selector","kind_of_code","mark_kinds","selected","take_selectors","ZWJ_joining","TATWEEL","in_ranges","right_ranges","dual_ranges","passed_ranges","joining_type","types_of","joins_on","joins_back","joined_pairs","form_of","forms_of","join","lone_pairs","side_rows","mirror_pairs","mirror_table","mirror_row","HANGUL","LEADS","VOWELS_normal","TAILS","VOWEL_COUNT","TAIL_COUNT","LEAD_COUNT","Normal","hangul_parts","hangul_whole","parts_of","whole_of","split_once","splits","had_parts","mark_runs","ordered_places","is_blocked","class_here","stays_whole","take_apart","order_row","whole_here","put_together","normalise","Plan","first_bit","CONSONANTS","VOWELS_syllables","MATRAS","SIGNS","VIRAMA","NUKTA","MATRA_I","ZWNJ_syllables","ZWJ_syllables","DOTTED_CIRCLE","is_within","kinds_of","kind_at","past","past_viramas","syllable_end","syllables","is_broken","matra_goal","move_matras","put_circle","reorder","FORMS","read_letters","shape_letters","find","CharMap","_law_sorts","_law_joins","_law_pen","_law_draw","_law_pick","_law_forms"]:List String).map Str.ofString
noncomputable def XT:Shared→Bool:=fun _=>true
theorem Tu (w:World):((boot_heap w.params).isNs mainGlobals&&(#[]:Array GenState).size==0,(boot_heap w.params).objs.size,(boot_heap w.params).nsMap mainGlobals "__annotations__")=(true,11,fy):=by kernel_rfl
theorem Ts (w:World):(fun os:OsState=>(staticsOk (importedModules pw.main.body) (boot_heap w.params) (H1 w.params)&&namesBound pw (H1 w.params)&&gensDone ⟨H1 w.params,#[],boot_drawn,1124,os⟩&&laidKept (boot_heap w.params) (H1 w.params)))=fun _=>true:=by kernel_rfl
theorem Tt (w:World):(fun os:OsState=>openSeen qv loose (importedModules pw.main.body) XT true ⟨H1 w.params,#[],boot_drawn,1124,os⟩)=fun _=>openGood qv loose:=by kernel_rfl
theorem Un:opening pw=plainProg pw.main.scope.names:=by kernel_rfl
theorem P6 (s:Shared):fenceModules? pw s=some s:=by kernel_rfl
theorem left:LeftO pw qv loose XT (fun s=>s.heap) (fun w=>H1 w.params) 8100:=
 LeftO.of_pieces (M:=3997) (boot_open Un (by decide) P6) Tu UJ (by decide) fun w=>funext fun os=>Prod.ext (congrFun (Ts w) os) (Prod.ext (congrFun (Tt w) os) rfl)
end
noncomputable abbrev aV:OpenLaw:=PySem.Challenge.rw_nz0118_01
theorem Ve:sreFenced aV.row.prog.main=true:=by kernel_rfl
theorem Vf:((moduleNames aV.row.prog.main.body).isEmpty||lookedIntoSs (moduleNames aV.row.prog.main.body) aV.row.prog.main.body)=true:=by kernel_rfl
theorem Vg:namesResolve aV.row.prog=true:=by kernel_rfl
theorem Vh:aV.row.prog.boundNames.all (fun n=>!worldNames.contains n)=true:=by kernel_rfl
theorem Vi:noRoadLSs {strict:=!(importedModules aV.row.prog.main.body).all cThrough.contains,foot:=none,bare:=(["vars","dir","locals"]:List Str).filter (readsOut aV.row.prog aV.row.prog.main.body)} aV.row.prog.main.body=true:=by kernel_rfl
theorem Vj:(namesMeet aV.row.prog aV.row.prog.main.body fun _ n=>attrL n)=true:=by kernel_rfl
theorem sb:looksOpen aV.row.prog=true:=by
 unfold looksOpen
 with_reducible exact look_both (look_both (look_both (look_both (look_both Ve Vf) Vg) Vh) Vi) Vj
theorem Vm:(aV.row.prog.boundNames.contains aV.row.name)=true:=by kernel_rfl
theorem Vn:(!startupNames.contains aV.row.name)=true:=by kernel_rfl
theorem Vo:decide (aV.foot≤(behindTheImports aV.prog).length)=true:=by kernel_rfl
theorem Vp:aV.footing.all footLine=true:=by kernel_rfl
theorem Vq:noClassBlock aV.prog aV.footing=true:=by kernel_rfl
theorem Vr:aV.most.all (fun n=>decide (63≤n))=true:=by kernel_rfl
theorem Vs:aV.bound.all (fun n=>decide (2 ^ 63≤n))=true:=by kernel_rfl
theorem Vt:noRoadLSs {strict:=true,foot:=some aV.bound',writes:=aV.writes,may:=aV.may} aV.footing=true:=by kernel_rfl
theorem Vu:defStands aV.about aV.above=true:=by kernel_rfl
theorem Vv:aV.namesIt=true:=by kernel_rfl
theorem Vw:(["type","isinstance","issubclass","getattr","hasattr"]:List Str).all (fun n=>aV.about !=[n])=true:=by kernel_rfl
theorem aR:aV.bound'.all (fun n=>!builtinNamed n||aV.about==[n]||!aV.reads n)=true:=by kernel_rfl
theorem dj:(!aV.writes||(aV.prog.main.body.flatMap importedNames).all fun n=>!aV.reads n)=true:=by kernel_rfl
theorem tv:(aV.prog.main.body.flatMap importedNames).all (fun n=>!aV.reads n||(drawsOf n aV.prog.main.body).all fun mn=>mn.2 !=("attrgetter":Str)&&mn.2 !=("methodcaller":Str))=true:=by kernel_rfl
theorem Vx:namesMeet aV.prog aV.footing (fun sc n=>(!(["type","isinstance","issubclass","getattr","hasattr"]:List Str).contains n||sc.names.lookup n==some .globalImplicit)&&
  (aV.may !=some n||sc.kind==.module||sc.names.lookup n==some .globalImplicit))=true:=by kernel_rfl
theorem Vy:aV.own.contains aV.name=true:=by kernel_rfl
theorem Vz:(aV.own.eraseDups.length==aV.own.length)=true:=by kernel_rfl
theorem VA:aV.own.all (fun n=>!builtinNamed n)=true:=by kernel_rfl
theorem VB:namesMeet aV.prog aV.above (fun _ n=>!aV.own.contains n)=true:=by kernel_rfl
theorem VC:(namesMeet aV.prog aV.footing fun sc n=>sc.kind==.module||sc.names.lookup n !=some .globalExplicit)=true:=by kernel_rfl
end Hd
namespace Hd
open PySem PySem.W PySem.Calls PyProof.Rows PySem.Spec
theorem Vl:aV.row.partSaid=true:=by
 unfold OpenRow.partSaid
 with_reducible (iterate 13 refine look_both ?_ (by kernel_rfl))
 with_reducible exact sb
theorem sc:aV.row.wellSaid=true:=by
 unfold OpenRow.wellSaid
 with_reducible exact look_both (look_both Vl Vm) Vn
theorem Vk:aV.wellSaid=true:=by
 unfold OpenLaw.wellSaid
 with_reducible refine look_both ?_ VC
 with_reducible refine look_both ?_ VB
 with_reducible refine look_both ?_ VA
 with_reducible refine look_both ?_ Vz
 with_reducible refine look_both ?_ Vy
 with_reducible refine look_both ?_ Vx
 with_reducible refine look_both ?_ tv
 with_reducible refine look_both ?_ dj
 with_reducible refine look_both ?_ aR
 with_reducible refine look_both ?_ Vw
 with_reducible refine look_both ?_ Vv
 with_reducible refine look_both ?_ Vu
 with_reducible refine look_both ?_ Vt
 with_reducible refine look_both ?_ Vs
 with_reducible refine look_both ?_ Vr
 with_reducible refine look_both ?_ Vq
 with_reducible refine look_both ?_ Vp
 with_reducible refine look_both ?_ Vo
 with_reducible exact sc
end Hd
namespace Hd
open PySem PySem.W PySem.Calls PyProof.Rows PySem.Spec
noncomputable def PZ:Stmt→DefRec
 |.FunctionDef n ps b _ _ _ sc _ _ pos=>⟨n,ps,b,sc,pos⟩
 |_=>⟨k "",default,[],default,default⟩
noncomputable def iB:DefRec:=PZ (st 107)
theorem Pu:defOf qv (k "law")=some (iB,[]):=by kernel_rfl
theorem Xn:pw.theDef (k "law")=some (iB.params,iB.body,iB.scope):=by kernel_rfl
theorem S2:kwWritten? iB.params.kwonlyargs iB.params.kw_defaults=some []:=by kernel_rfl
theorem Uk:(chainsOk qv&&opensWell pw&&(frees aV.row.toRowW&&aV.row.within.isEmpty))=true:=by kernel_rfl
theorem NB:pw.bare:=⟨rfl,rfl,rfl,rfl,rfl,by decide+kernel⟩
theorem US:aV.row.toRowW.promised:=⟨[.list [.int 3]],by decide+kernel,by decide+kernel⟩
end Hd
namespace Hd
open PySem PySem.W PySem.Calls PyProof.Rows PySem.Spec
theorem QN {R:WRecords}{d:WData}(h:WShape.has R d (.list .int)=true):∃xs,d=.list xs∧WShape.hasItems R xs .int=true:=by
 cases d<;>first |exact cz h |exact⟨_,rfl,(Bool.or_false _).symm.trans h⟩
theorem J9 {R:WRecords}:∀{xs:List WData},WShape.hasItems R xs .int=true→∃ns:List Int,xs=ns.map .int
 | [],_=>⟨[],rfl⟩
 |x::xs,h=>by
  simp only[WShape.hasItems,Bool.and_eq_true]at h
  obtain⟨ns,rfl⟩:=J9 h.2
  obtain h1:=h.1
  cases x<;>first |exact cz h1 |exact⟨_::ns,rfl⟩
theorem Mn {R:WRecords}{cl:Str→Option Addr}{h:Heap}:∀{ns:List Int} {vs:List Value} {as:List Addr},ReadsAllW R cl h vs (ns.map .int) as→IntsAre vs ns
 | [],_,_,r=>by obtain⟨rfl,_⟩:=readsAllW_nil_inv r;exact .nil
 |n::ns,_,_,r=>by
  obtain⟨v,vs,a1,a2,rfl,_,r1,r2⟩:=readsAllW_cons_inv r
  obtain⟨t,rfl,_⟩:=readsW_int_inv r1
  exact .cons _ _ (Mn r2)
theorem UR {R:WRecords}{xs:List WData}(h:aV.row.toRowW.pre.holds R {args:=[.list xs]}=true):xs.length≤63:=by
 have h':(WTm.and (.not (.lt (.lit (.int 63)) (.len (.arg 0)))) (.lit (.bool true))).holds R {args:=[.list xs]}=true:=h
 obtain h1:=(holds_andW h').1
 by_cases q:xs.length≤63
 ·exact q
 ·obtain q':(63:Int)<(xs.length:Int):=by lia
  simp[WTm.holds,WTm.value,W.less?,PySem.W.Num.less?,q']at h1
theorem PE (call:∀(w:World)(s:Shared)(f l:Addr)(items:Array Value)(ns:List Int),(∀b o,(H1 w.params).get? b=some o→s.heap.get? b=some o)→(∃mg,s.heap.Ns mainGlobals mg∧mg (k "law")=some (.ref f))→
  s.gens=#[]→s.heap.IsList l items→IntsAre items.toList ns→ns.length≤63→
  wpAny (model pw w) callerA (PySem.call (.ref f) [.ref l]) (fun v s'=>v=.bool true∧(∀b o,s.heap.get? b=some o→s'.heap.get? b=some o)∧s'.os=s.os∧s'.gens=s.gens) (fun _ _=>False) s):
  WalkO qv loose (fun _ _=>True) (fun w h=>∀b o,(H1 w.params).get? b=some o→h.get? b=some o) aV.row.toRowW iB [] fun f vs=>PySem.call f vs:=by
 intro w s₀ s₁ mg mb G Y fa o pm cd doc dV kV ho hd hcd hD Rw hg args vals as JI Yd RF uA ye
 have CX:WShape.hasAll [] args [.list .int]=true:=(pre_splitW JI).1
 have l6:=(pre_splitW JI).2
 obtain⟨d,r,rfl,h2,h3⟩:=hasAllW_cons CX
 obtain rfl:=hasAllW_nil h3
 obtain⟨xs,rfl,h4⟩:=QN h2
 obtain⟨ns,rfl⟩:=J9 h4
 obtain⟨v,vs,a1,a2,rfl,rfl,r1,r2⟩:=readsAllW_cons_inv RF
 obtain⟨rfl,_⟩:=readsAllW_nil_inv r2
 obtain⟨l,ol,its,n,ai,rfl,q1,q2,q3,q4,_⟩:=readsW_list_open r1
 have aX:=UR l6
 rw[List.length_map]at aX
 refine wpAny_mono (call w s₁ fa l its ns Y ⟨mg,G.T.g,Rw⟩ hg ⟨ol,q1,q2,n,q3⟩ (Mn q4) aX) (fun v s' hv=>?_) fun _ _ e=>e.elim
 obtain⟨rfl,k1,k2,k3⟩:=hv
 refine⟨.inl ⟨.bool true,.bool true,[],rfl,fun _=>rfl,.bool _,?_,fun _=>⟨List.nodup_nil,fun a ha=>by simp at ha⟩⟩,.of_keep k1,k2,by rw[k3,hg];exact AllBare.empty⟩
 exact postW_of (by rfl) (X:=true) (by show WTm.value _ (WTm.eq .res (.lit (.bool true))) _=_;simp[WTm.value,PySem.W.same_self]) rfl
theorem PD (call:WalkO qv loose (fun _ _=>True) (fun w h=>∀b o,(H1 w.params).get? b=some o→h.get? b=some o) aV.row.toRowW iB [] fun f vs=>PySem.call f vs):aV.Holds:=by
 refine holds_law Vk fun _=>?_
 exact holds_open (r:=aV.row) (q:=qv) (loose:=loose) (Xt:=XT) (XP:=fun _ _=>True) (Yf:=fun s=>s.heap) (Ya:=fun w=>H1 w.params) (YP:=fun w h=>∀b o,(H1 w.params).get? b=some o→h.get? b=some o) (N:=8100) (d:=iB) (kwd:=[])
  left (fun w s e b o h=>by rw[←e]at h;exact h) (fun w h h' x y b o e=>y b o (x b o e)) (fun _ _=>trivial) (fun _ _ _ _ _=>trivial) Pu Xn S2 (fun _ _=>recFacts_nil rfl) rfl sc Uk NB US call
end Hd
noncomputable def A5:Fn:=⟨[222,67,92,65],[],[(.asg (.attr (.v 222) 67) (.v 67)),(.asg (.attr (.v 222) 92) (.v 92)),(.asg (.attr (.v 222) 65) (.v 65)),(.asg (.attr (.v 222) 170) (.ci 0)),(.asg (.attr (.v 222) 125) (.cb false)),(.asg (.attr (.v 222) 163) (.ci 0)),(.asg (.attr (.v 222) 164) (.ci 0)),(.asg (.attr (.v 222) 162) (.ci 0)),(.asg (.attr (.v 222) 232) (.ci 0)),(.asg (.attr (.v 222) 144) (.cs 0)),(.asg (.attr (.v 222) 260) (.ci 0)),(.asg (.attr (.v 222) 262) (.ci 0)),(.asg (.attr (.v 222) 261) (.ci 0)),(.asg (.attr (.v 222) 263) (.ci 0)),(.asg (.attr (.v 222) 193) (.ci 0)),(.asg (.attr (.v 222) 56) (.cs 0))]⟩
noncomputable def fN:Fn:=⟨[222],[],[(.asg (.name 90) (.call 11 [(.attr (.v 222) 67),(.attr (.v 222) 92),(.attr (.v 222) 65)])),(.asg (.attr (.v 90) 170) (.attr (.v 222) 170)),(.asg (.attr (.v 90) 125) (.attr (.v 222) 125)),(.asg (.attr (.v 90) 163) (.attr (.v 222) 163)),(.asg (.attr (.v 90) 164) (.attr (.v 222) 164)),(.asg (.attr (.v 90) 162) (.attr (.v 222) 162)),(.asg (.attr (.v 90) 232) (.attr (.v 222) 232)),(.asg (.attr (.v 90) 144) (.attr (.v 222) 144)),(.asg (.attr (.v 90) 260) (.attr (.v 222) 260)),(.asg (.attr (.v 90) 262) (.attr (.v 222) 262)),(.asg (.attr (.v 90) 261) (.attr (.v 222) 261)),(.asg (.attr (.v 90) 263) (.attr (.v 222) 263)),(.asg (.attr (.v 90) 193) (.attr (.v 222) 193)),(.asg (.attr (.v 90) 56) (.attr (.v 222) 56)),(.ret (.v 90))]⟩
noncomputable def A6:Fn:=⟨[222,110,114],[(.bool false)],[(.asg (.attr (.v 222) 214) (.v 110)),(.asg (.attr (.v 222) 114) (.v 114)),(.asg (.attr (.v 222) 152) (.ci 0)),(.asg (.attr (.v 222) 153) (.ci 0))]⟩
noncomputable def GM:Fn:=⟨[222],[],[(.ret (.lcomp [109] true .seq [(.attr (.v 222) 214)] [] (.attr (.v 109) 65)))]⟩
noncomputable def Hb:Fn:=⟨[68,114],[(.bool false)],[(.ret (.call 1 [(.lcomp [53] true .range [(.bi .len [(.v 68)])] [] (.call 11 [(.idx (.v 68) (.v 53)),(.ci 0),(.v 53)])),(.v 114)]))]⟩
noncomputable def GR:Fn:=⟨[109,65],[],[(.iff (.cmp .ne (.attr (.v 109) 65) (.v 65)) [(.asg (.attr (.v 109) 65) (.v 65)),(.asg (.attr (.v 109) 125) (.cb false))] [])]⟩
noncomputable def G3:Fn:=⟨[214,54,79],[],[(.asg (.name 84) (.v 54)),(.asg (.name 55) (.v 79)),(.whl (.and (.cmp .lt (.v 55) (.bi .len [(.v 214)])) (.cmp .eq (.attr (.idx (.v 214) (.v 55)) 65) (.attr (.idx (.v 214) (.bin .sub (.v 55) (.ci 1))) 65))) [(.asg (.name 55) (.bin .add (.v 55) (.ci 1)))]),(.whl (.and (.cmp .gt (.v 84) (.ci 0)) (.cmp .eq (.attr (.idx (.v 214) (.bin .sub (.v 84) (.ci 1))) 65) (.attr (.idx (.v 214) (.v 84)) 65))) [(.asg (.name 84) (.bin .sub (.v 84) (.ci 1)))]),(.ret (.tup [(.v 84),(.v 55)]))]⟩
noncomputable def GB:Fn:=⟨[57,54,79],[],[(.iff (.cmp .lt (.bin .sub (.v 79) (.v 54)) (.ci 2)) [(.ret .cn)] []),(.asg (.name 159) (.bi .min [(.lcomp [109] true .seq [(.slc (.attr (.v 57) 214) (.v 54) (.v 79))] [] (.attr (.v 109) 65))])),(.asg (.names [84,55]) (.call 259 [(.attr (.v 57) 214),(.v 54),(.v 79)])),(.for [109] true .seq [(.slc (.attr (.v 57) 214) (.v 84) (.v 55))] [(.expr (.call 223 [(.v 109),(.v 159)]))])]⟩
noncomputable def Hj:Fn:=⟨[57,54,79],[],[(.asg (.name 241) (.slc (.attr (.v 57) 214) (.v 54) (.v 79))),(.iff (.cmp .lt (.bi .len [(.v 241)]) (.ci 2)) [(.ret .cn)] []),(.asg (.name 159) (.bi .min [(.lcomp [109] true .seq [(.v 241)] [] (.attr (.v 109) 65))])),(.for [109] true .seq [(.v 241)] [(.iff (.cmp .ne (.attr (.v 109) 65) (.v 159)) [(.asg (.attr (.v 109) 125) (.cb true))] [])])]⟩
noncomputable def Gi:Fn:=⟨[],[],[(.ret (.tup [(.tup [(.ci 173),(.ci 173)]),(.tup [(.ci 847),(.ci 847)]),(.tup [(.ci 1564),(.ci 1564)]),(.tup [(.ci 6068),(.ci 6069)]),(.tup [(.ci 6155),(.ci 6158)]),(.tup [(.ci 8203),(.ci 8207)]),(.tup [(.ci 8234),(.ci 8238)]),(.tup [(.ci 8288),(.ci 8303)]),(.tup [(.ci 65024),(.ci 65039)]),(.tup [(.ci 65279),(.ci 65279)]),(.tup [(.ci 65520),(.ci 65528)]),(.tup [(.ci 119155),(.ci 119162)]),(.tup [(.ci 917504),(.ci 921599)])]))]⟩
noncomputable def Gl:Fn:=⟨[67],[],[(.for [84,151] false .seq [(.call 107 [])] [(.iff (.chain .le .le (.v 84) (.v 67) (.v 151)) [(.ret (.cb true))] [])]),(.ret (.cb false))]⟩
noncomputable def Gm:Fn:=⟨[67],[],[(.ret (.or (.chain .le .le (.ci 65024) (.v 67) (.ci 65039)) (.chain .le .le (.ci 917760) (.v 67) (.ci 917999))))]⟩
noncomputable def Gv:Fn:=⟨[67],[],[(.iff (.cmp .eq (.v 67) (.g 35)) [(.ret (.cs 264))] []),(.iff (.cmp .eq (.v 67) (.g 38)) [(.ret (.cs 265))] []),(.ret (.ife (.call 119 [(.v 67)]) (.cs 106) (.cs 0)))]⟩
noncomputable def Gy:Fn:=⟨[57],[],[(.for [109] true .seq [(.attr (.v 57) 214)] [(.asg (.attr (.v 109) 144) (.call 146 [(.attr (.v 109) 67)]))])]⟩
noncomputable def GZ:Fn:=⟨[57,60],[],[(.asg (.name 53) (.ci 1)),(.whl (.cmp .lt (.v 53) (.bi .len [(.attr (.v 57) 214)])) [(.asg (.name 92) (.ci 0)),(.iff (.call 124 [(.attr (.idx (.attr (.v 57) 214) (.v 53)) 67)]) [(.asg (.name 92) (.call 220 [(.v 60),(.idx (.attr (.v 57) 214) (.bin .sub (.v 53) (.ci 1))),(.attr (.idx (.attr (.v 57) 214) (.v 53)) 67)]))] []),(.iff (.cmp .gt (.v 92) (.ci 0)) [(.expr (.call 175 [(.v 57),(.bin .sub (.v 53) (.ci 1)),(.bin .add (.v 53) (.ci 1))])),(.asg (.attr (.idx (.attr (.v 57) 214) (.bin .sub (.v 53) (.ci 1))) 92) (.v 92)),(.asg (.attr (.v 57) 214) (.bin .add (.slc (.attr (.v 57) 214) .cn (.v 53)) (.slc (.attr (.v 57) 214) (.bin .add (.v 53) (.ci 1)) .cn)))] [(.asg (.name 53) (.bin .add (.v 53) (.ci 1)))])])]⟩
noncomputable def Gj:Fn:=⟨[209,67],[],[(.for [84,151] false .seq [(.v 209)] [(.iff (.chain .le .le (.v 84) (.v 67) (.v 151)) [(.ret (.cb true))] [])]),(.ret (.cb false))]⟩
noncomputable def GQ:Fn:=⟨[],[],[(.ret (.lst [(.tup [(.ci 1570),(.ci 1573)]),(.tup [(.ci 1575),(.ci 1575)]),(.tup [(.ci 1577),(.ci 1577)]),(.tup [(.ci 1583),(.ci 1586)]),(.tup [(.ci 1608),(.ci 1608)]),(.tup [(.ci 1649),(.ci 1651)]),(.tup [(.ci 1653),(.ci 1655)]),(.tup [(.ci 1672),(.ci 1689)]),(.tup [(.ci 1728),(.ci 1728)]),(.tup [(.ci 1731),(.ci 1739)]),(.tup [(.ci 1741),(.ci 1741)]),(.tup [(.ci 1743),(.ci 1743)]),(.tup [(.ci 1746),(.ci 1747)]),(.tup [(.ci 1749),(.ci 1749)]),(.tup [(.ci 1774),(.ci 1775)])]))]⟩
noncomputable def He:Fn:=⟨[],[],[(.ret (.lst [(.tup [(.ci 1568),(.ci 1568)]),(.tup [(.ci 1574),(.ci 1574)]),(.tup [(.ci 1576),(.ci 1576)]),(.tup [(.ci 1578),(.ci 1582)]),(.tup [(.ci 1587),(.ci 1599)]),(.tup [(.ci 1601),(.ci 1607)]),(.tup [(.ci 1609),(.ci 1610)]),(.tup [(.ci 1646),(.ci 1647)]),(.tup [(.ci 1656),(.ci 1671)]),(.tup [(.ci 1690),(.ci 1727)]),(.tup [(.ci 1729),(.ci 1730)]),(.tup [(.ci 1740),(.ci 1740)]),(.tup [(.ci 1742),(.ci 1742)]),(.tup [(.ci 1744),(.ci 1745)]),(.tup [(.ci 1786),(.ci 1788)]),(.tup [(.ci 1791),(.ci 1791)])]))]⟩
noncomputable def GJ:Fn:=⟨[],[],[(.ret (.lst [(.tup [(.ci 173),(.ci 173)]),(.tup [(.ci 768),(.ci 879)]),(.tup [(.ci 1552),(.ci 1562)]),(.tup [(.ci 1564),(.ci 1564)]),(.tup [(.ci 1611),(.ci 1631)]),(.tup [(.ci 1648),(.ci 1648)]),(.tup [(.ci 1750),(.ci 1756)]),(.tup [(.ci 1759),(.ci 1764)]),(.tup [(.ci 1767),(.ci 1768)]),(.tup [(.ci 1770),(.ci 1773)]),(.tup [(.ci 8203),(.ci 8203)]),(.tup [(.ci 8206),(.ci 8207)]),(.tup [(.ci 8234),(.ci 8238)]),(.tup [(.ci 8288),(.ci 8292)]),(.tup [(.ci 65024),(.ci 65039)]),(.tup [(.ci 65279),(.ci 65279)]),(.tup [(.ci 917760),(.ci 917999)])]))]⟩
noncomputable def Gq:Fn:=⟨[67],[],[(.iff (.or (.cmp .eq (.v 67) (.g 36)) (.cmp .eq (.v 67) (.g 28))) [(.ret (.cs 2))] []),(.iff (.call 108 [(.call 197 []),(.v 67)]) [(.ret (.cs 25))] []),(.iff (.call 108 [(.call 77 []),(.v 67)]) [(.ret (.cs 5))] []),(.ret (.ife (.call 108 [(.call 213 []),(.v 67)]) (.cs 22) (.cs 29)))]⟩
noncomputable def G0:Fn:=⟨[68],[],[(.asg (.name 149) (.dct [])),(.for [67] true .seq [(.v 68)] [(.iff (.cmp .notin (.v 67) (.v 149)) [(.asg (.idx (.v 149) (.v 67)) (.call 140 [(.v 67)]))] [])]),(.ret (.lcomp [67] true .seq [(.v 68)] [] (.idx (.v 149) (.v 67))))]⟩
noncomputable def Gs:Fn:=⟨[229],[],[(.ret (.or (.cmp .eq (.v 229) (.cs 5)) (.cmp .eq (.v 229) (.cs 2))))]⟩
noncomputable def Gr:Fn:=⟨[229],[],[(.ret (.or (.cmp .eq (.v 229) (.cs 5)) (.or (.cmp .eq (.v 229) (.cs 2)) (.cmp .eq (.v 229) (.cs 22)))))]⟩
noncomputable def Gp:Fn:=⟨[251],[],[(.asg (.name 90) (.lst [])),(.asg (.name 151) (.neg (.ci 1))),(.for [53] true .range [(.bi .len [(.v 251)])] [(.iff (.cmp .ne (.idx (.v 251) (.v 53)) (.cs 25)) [(.iff (.and (.cmp .ge (.v 151) (.ci 0)) (.and (.call 142 [(.idx (.v 251) (.v 151))]) (.call 141 [(.idx (.v 251) (.v 53))]))) [(.expr (.meth 51 (.v 90) [(.tup [(.v 151),(.v 53)])]))] []),(.asg (.name 151) (.v 53))] [])]),(.ret (.v 90))]⟩
noncomputable def Hg:Fn:=⟨[100,101],[],[(.iff (.v 100) [(.ret (.ife (.v 101) (.cs 174) (.cs 82)))] []),(.ret (.ife (.v 101) (.cs 111) (.cs 127)))]⟩
noncomputable def Hh:Fn:=⟨[251],[],[(.asg (.name 100) (.lcomp [229] true .seq [(.v 251)] [] (.cb false))),(.asg (.name 101) (.lcomp [229] true .seq [(.v 251)] [] (.cb false))),(.for [187,190] false .seq [(.call 129 [(.v 251)])] [(.asg (.idx (.v 101) (.v 187)) (.cb true)),(.asg (.idx (.v 100) (.v 190)) (.cb true))]),(.ret (.lcomp [53] true .range [(.bi .len [(.v 251)])] [] (.ife (.call 141 [(.idx (.v 251) (.v 53))]) (.call 87 [(.idx (.v 100) (.v 53)),(.idx (.v 101) (.v 53))]) (.cs 0))))]⟩
noncomputable def Go:Fn:=⟨[57,171],[],[(.asg (.name 251) (.call 252 [(.lcomp [109] true .seq [(.attr (.v 57) 214)] [] (.attr (.v 109) 67))])),(.asg (.name 88) (.call 89 [(.v 251)])),(.for [53] true .range [(.bi .len [(.v 88)])] [(.asg (.attr (.idx (.attr (.v 57) 214) (.v 53)) 170) (.bin .or (.attr (.idx (.attr (.v 57) 214) (.v 53)) 170) (.meth 91 (.v 171) [(.idx (.v 88) (.v 53)),(.ci 0)])))]),(.for [187,190] false .seq [(.call 129 [(.v 251)])] [(.expr (.call 97 [(.v 57),(.v 187),(.bin .add (.v 190) (.ci 1))]))])]⟩
noncomputable def Gx:Fn:=⟨[],[],[(.ret (.lst [(.tup [(.ci 60),(.ci 62)]),(.tup [(.ci 91),(.ci 93)]),(.tup [(.ci 123),(.ci 125)]),(.tup [(.ci 171),(.ci 187)]),(.tup [(.ci 8712),(.ci 8715)]),(.tup [(.ci 8713),(.ci 8716)]),(.tup [(.ci 8714),(.ci 8717)]),(.tup [(.ci 65124),(.ci 65125)]),(.tup [(.ci 65308),(.ci 65310)]),(.tup [(.ci 65339),(.ci 65341)]),(.tup [(.ci 65371),(.ci 65373)]),(.tup [(.ci 10637),(.ci 10640)])]))]⟩
noncomputable def GT:Fn:=⟨[],[],[(.ret (.lst [(.tup [(.ci 40),(.ci 1)]),(.tup [(.ci 8249),(.ci 1)]),(.tup [(.ci 8261),(.ci 1)]),(.tup [(.ci 8317),(.ci 1)]),(.tup [(.ci 8333),(.ci 1)]),(.tup [(.ci 8804),(.ci 4)]),(.tup [(.ci 8814),(.ci 14)]),(.tup [(.ci 8842),(.ci 1)]),(.tup [(.ci 8847),(.ci 2)]),(.tup [(.ci 8866),(.ci 1)]),(.tup [(.ci 8905),(.ci 2)]),(.tup [(.ci 8912),(.ci 1)]),(.tup [(.ci 8918),(.ci 1)]),(.tup [(.ci 8920),(.ci 4)]),(.tup [(.ci 8928),(.ci 7)]),(.tup [(.ci 8968),(.ci 2)]),(.tup [(.ci 9001),(.ci 1)]),(.tup [(.ci 10088),(.ci 7)]),(.tup [(.ci 10214),(.ci 5)]),(.tup [(.ci 10627),(.ci 5)]),(.tup [(.ci 12296),(.ci 5)]),(.tup [(.ci 12308),(.ci 4)]),(.tup [(.ci 65113),(.ci 3)]),(.tup [(.ci 65288),(.ci 1)]),(.tup [(.ci 65375),(.ci 1)]),(.tup [(.ci 65378),(.ci 1)]),(.tup [(.ci 8764),(.ci 1)]),(.tup [(.ci 8786),(.ci 2)]),(.tup [(.ci 8880),(.ci 4)]),(.tup [(.ci 10638),(.ci 1)]),(.tup [(.ci 10641),(.ci 4)]),(.tup [(.ci 10712),(.ci 2)]),(.tup [(.ci 10748),(.ci 1)]),(.tup [(.ci 11810),(.ci 4)])]))]⟩
noncomputable def GC:Fn:=⟨[],[],[(.asg (.name 90) (.call 166 [])),(.for [84,70] false .seq [(.call 226 [])] [(.expr (.meth 81 (.v 90) [(.lcomp [143] true .range [(.v 70)] [] (.tup [(.bin .add (.v 84) (.bin .mul (.ci 2) (.v 143))),(.bin .add (.bin .add (.v 84) (.bin .mul (.ci 2) (.v 143))) (.ci 1))]))]))]),(.ret (.v 90))]⟩
noncomputable def GE:Fn:=⟨[],[],[(.asg (.name 244) (.dct [])),(.for [187,190] false .seq [(.call 178 [])] [(.asg (.idx (.v 244) (.v 187)) (.v 190)),(.asg (.idx (.v 244) (.v 190)) (.v 187))]),(.ret (.v 244))]⟩
noncomputable def GD:Fn:=⟨[57,60,170],[(.int 0)],[(.iff (.not (.attr (.v 57) 114)) [(.ret .cn)] []),(.asg (.name 244) (.call 180 [])),(.for [109] true .seq [(.attr (.v 57) 214)] [(.asg (.name 190) (.meth 91 (.v 244) [(.attr (.v 109) 67),(.attr (.v 109) 67)])),(.iff (.and (.cmp .ne (.v 190) (.attr (.v 109) 67)) (.and (.cmp .eq (.attr (.v 109) 92) (.ci 0)) (.cmp .ne (.meth 92 (.v 60) [(.v 190)]) (.ci 0)))) [(.asg (.attr (.v 109) 67) (.v 190))] [(.asg (.attr (.v 109) 170) (.bin .or (.attr (.v 109) 170) (.v 170)))])])]⟩
noncomputable def A7:Fn:=⟨[222,195,64],[],[(.asg (.attr (.v 222) 195) (.v 195)),(.asg (.attr (.v 222) 64) (.v 64))]⟩
noncomputable def GO:Fn:=⟨[222,67],[],[(.ret (.meth 91 (.attr (.v 222) 64) [(.v 67),(.ci 0)]))]⟩
noncomputable def GP:Fn:=⟨[222],[],[(.asg (.name 90) (.dct [])),(.for [67] true .seq [(.bi .sorted [(.attr (.v 222) 195)])] [(.iff (.cmp .ne (.idx (.idx (.attr (.v 222) 195) (.v 67)) (.ci 1)) (.ci 0)) [(.asg (.idx (.v 90) (.idx (.attr (.v 222) 195) (.v 67))) (.v 67))] [])]),(.ret (.v 90))]⟩
noncomputable def Hk:Fn:=⟨[67],[],[(.asg (.name 186) (.bin .sub (.v 67) (.g 9))),(.iff (.not (.chain .le .lt (.ci 0) (.v 186) (.bin .mul (.bin .mul (.g 14) (.g 34)) (.g 27)))) [(.ret .cn)] []),(.asg (.name 246) (.bin .fmod (.v 186) (.g 27))),(.iff (.cmp .gt (.v 246) (.ci 0)) [(.ret (.tup [(.bin .sub (.v 67) (.v 246)),(.bin .add (.g 26) (.v 246))]))] []),(.ret (.tup [(.bin .add (.g 13) (.bin .fdiv (.v 186) (.bin .mul (.g 34) (.g 27)))),(.bin .add (.g 32) (.bin .fmod (.bin .fdiv (.v 186) (.g 27)) (.g 34)))]))]⟩
noncomputable def Hl:Fn:=⟨[84,219],[],[(.asg (.name 158) (.bin .sub (.v 84) (.g 13))),(.asg (.name 254) (.bin .sub (.v 219) (.g 32))),(.iff (.and (.chain .le .lt (.ci 0) (.v 158) (.g 14)) (.chain .le .lt (.ci 0) (.v 254) (.g 34))) [(.ret (.bin .add (.g 9) (.bin .mul (.bin .add (.bin .mul (.v 158) (.g 34)) (.v 254)) (.g 27))))] []),(.asg (.name 186) (.bin .sub (.v 84) (.g 9))),(.asg (.name 123) (.and (.chain .le .lt (.ci 0) (.v 186) (.bin .mul (.bin .mul (.g 14) (.g 34)) (.g 27))) (.cmp .eq (.bin .fmod (.v 186) (.g 27)) (.ci 0)))),(.iff (.and (.v 123) (.chain .lt .lt (.ci 0) (.bin .sub (.v 219) (.g 26)) (.g 27))) [(.ret (.bin .sub (.bin .add (.v 84) (.v 219)) (.g 26)))] []),(.ret (.ci 0))]⟩
noncomputable def GI:Fn:=⟨[184,67],[],[(.iff (.cmp .isin (.v 67) (.attr (.v 184) 195)) [(.ret (.idx (.attr (.v 184) 195) (.v 67)))] []),(.ret (.call 98 [(.v 67)]))]⟩
noncomputable def G2:Fn:=⟨[258,84,219],[],[(.asg (.name 90) (.meth 91 (.v 258) [(.tup [(.v 84),(.v 219)]),(.ci 0)])),(.ret (.ife (.cmp .gt (.v 90) (.ci 0)) (.v 90) (.call 99 [(.v 84),(.v 219)])))]⟩
noncomputable def GU:Fn:=⟨[184,68],[],[(.asg (.name 192) (.call 196 [(.v 184),(.idx (.v 68) (.ci 0))])),(.iff (.cmp .is (.v 192) .cn) [(.ret .cn)] []),(.iff (.cmp .eq (.idx (.v 192) (.ci 1)) (.ci 0)) [(.ret (.bin .add (.lst [(.idx (.v 192) (.ci 0))]) (.slc (.v 68) (.ci 1) .cn)))] []),(.ret (.bin .add (.lst [(.idx (.v 192) (.ci 0)),(.idx (.v 192) (.ci 1))]) (.slc (.v 68) (.ci 1) .cn)))]⟩
noncomputable def A9:Fn:=⟨[184,67],[],[(.asg (.name 90) (.lst [(.lst [(.v 67)])])),(.asg (.name 176) (.lst [(.v 67)])),(.whl (.cb true) [(.asg (.name 154) (.call 233 [(.v 184),(.idx (.v 90) (.neg (.ci 1)))])),(.iff (.or (.cmp .is (.v 154) .cn) (.cmp .isin (.idx (.v 154) (.ci 0)) (.v 176))) [(.ret (.v 90))] []),(.expr (.meth 51 (.v 90) [(.v 154)])),(.expr (.meth 51 (.v 176) [(.idx (.v 154) (.ci 0))]))])]⟩
noncomputable def Hi:Fn:=⟨[184,60,67],[],[(.for [214] true .rev [(.call 234 [(.v 184),(.v 67)])] [(.iff (.cmp .eq (.lcomp [187] true .seq [(.v 214)] [(.cmp .eq (.meth 92 (.v 60) [(.v 187)]) (.ci 0))] (.v 187)) (.lst [])) [(.ret (.v 214))] [])]),(.ret (.lst [(.v 67)]))]⟩
noncomputable def Gz:Fn:=⟨[64],[],[(.asg (.name 217) (.lst [])),(.asg (.name 54) (.neg (.ci 1))),(.for [53] true .range [(.bin .add (.bi .len [(.v 64)]) (.ci 1))] [(.asg (.name 122) (.and (.cmp .lt (.v 53) (.bi .len [(.v 64)])) (.cmp .gt (.idx (.v 64) (.v 53)) (.ci 0)))),(.iff (.and (.v 122) (.cmp .lt (.v 54) (.ci 0))) [(.asg (.name 54) (.v 53))] []),(.iff (.and (.not (.v 122)) (.cmp .ge (.v 54) (.ci 0))) [(.expr (.meth 51 (.v 217) [(.tup [(.v 54),(.v 53)])])),(.asg (.name 54) (.neg (.ci 1)))] [])]),(.ret (.v 217))]⟩
noncomputable def GH:Fn:=⟨[64,54,79],[],[(.ret (.lcomp [186,235] false .seq [(.bi .sorted [(.lcomp [235] true .range [(.v 54),(.v 79)] [] (.tup [(.idx (.v 64) (.v 235)),(.v 235)]))])] [] (.v 235)))]⟩
noncomputable def Gk:Fn:=⟨[151,105],[],[(.ret (.and (.cmp .ne (.v 151) (.ci 0)) (.cmp .ge (.v 151) (.v 105))))]⟩
noncomputable def Hc:Fn:=⟨[184,109],[],[(.ret (.ife (.cmp .gt (.attr (.v 109) 92) (.ci 0)) (.ci 0) (.meth 63 (.v 184) [(.attr (.v 109) 67)])))]⟩
noncomputable def GV:Fn:=⟨[214,53,184,60],[],[(.iff (.cmp .gt (.attr (.idx (.v 214) (.v 53)) 92) (.ci 0)) [(.ret (.cb true))] []),(.iff (.cmp .eq (.meth 92 (.v 60) [(.attr (.idx (.v 214) (.v 53)) 67)]) (.ci 0)) [(.ret (.cb false))] []),(.ret (.or (.cmp .eq (.bin .add (.v 53) (.ci 1)) (.bi .len [(.v 214)])) (.cmp .eq (.call 62 [(.v 184),(.idx (.v 214) (.bin .add (.v 53) (.ci 1)))]) (.ci 0))))]⟩
noncomputable def GY:Fn:=⟨[57,184,60],[],[(.asg (.name 90) (.lst [])),(.for [53] true .range [(.bi .len [(.attr (.v 57) 214)])] [(.asg (.name 109) (.idx (.attr (.v 57) 214) (.v 53))),(.asg (.name 214) (.ife (.call 240 [(.attr (.v 57) 214),(.v 53),(.v 184),(.v 60)]) (.lst [(.attr (.v 109) 67)]) (.call 96 [(.v 184),(.v 60),(.attr (.v 109) 67)]))),(.for [67] true .seq [(.v 214)] [(.asg (.name 194) (.meth 69 (.v 109) [])),(.asg (.attr (.v 194) 67) (.v 67)),(.expr (.meth 51 (.v 90) [(.v 194)]))])]),(.asg (.attr (.v 57) 214) (.v 90))]⟩
noncomputable def GG:Fn:=⟨[57,184],[],[(.asg (.name 64) (.lcomp [109] true .seq [(.attr (.v 57) 214)] [] (.call 62 [(.v 184),(.v 109)]))),(.for [54,79] false .seq [(.call 169 [(.v 64)])] [(.asg (.name 201) (.call 189 [(.v 64),(.v 54),(.v 79)])),(.iff (.cmp .ne (.v 201) (.bi .listrange [(.v 54),(.v 79)])) [(.expr (.call 175 [(.v 57),(.v 54),(.v 79)])),(.asg (.attr (.v 57) 214) (.bin .add (.bin .add (.slc (.attr (.v 57) 214) .cn (.v 54)) (.lcomp [235] true .seq [(.v 201)] [] (.idx (.attr (.v 57) 214) (.v 235)))) (.slc (.attr (.v 57) 214) (.v 79) .cn)))] [])])]⟩
noncomputable def G1:Fn:=⟨[57,258,60,239,53],[],[(.asg (.name 84) (.idx (.attr (.v 57) 214) (.v 239))),(.asg (.name 219) (.idx (.attr (.v 57) 214) (.v 53))),(.iff (.or (.cmp .gt (.attr (.v 84) 92) (.ci 0)) (.cmp .gt (.attr (.v 219) 92) (.ci 0))) [(.ret (.ci 0))] []),(.asg (.name 255) (.call 257 [(.v 258),(.attr (.v 84) 67),(.attr (.v 219) 67)])),(.ret (.ife (.and (.cmp .gt (.v 255) (.ci 0)) (.cmp .gt (.meth 92 (.v 60) [(.v 255)]) (.ci 0))) (.v 255) (.ci 0)))]⟩
noncomputable def GN:Fn:=⟨[57,184,60],[],[(.asg (.name 258) (.meth 258 (.v 184) [])),(.asg (.name 239) (.neg (.ci 1))),(.asg (.name 151) (.ci 0)),(.asg (.name 53) (.ci 0)),(.whl (.cmp .lt (.v 53) (.bi .len [(.attr (.v 57) 214)])) [(.asg (.name 105) (.call 62 [(.v 184),(.idx (.attr (.v 57) 214) (.v 53))])),(.asg (.name 255) (.ci 0)),(.iff (.and (.cmp .ge (.v 239) (.ci 0)) (.not (.call 115 [(.v 151),(.v 105)]))) [(.asg (.name 255) (.call 256 [(.v 57),(.v 258),(.v 60),(.v 239),(.v 53)]))] []),(.iff (.cmp .gt (.v 255) (.ci 0)) [(.expr (.call 175 [(.v 57),(.v 239),(.bin .add (.v 53) (.ci 1))])),(.asg (.attr (.idx (.attr (.v 57) 214) (.v 239)) 67) (.v 255)),(.asg (.attr (.v 57) 214) (.bin .add (.slc (.attr (.v 57) 214) .cn (.v 53)) (.slc (.attr (.v 57) 214) (.bin .add (.v 53) (.ci 1)) .cn))),.cont] []),(.iff (.cmp .eq (.v 105) (.ci 0)) [(.asg (.name 239) (.v 53))] []),(.asg (.name 151) (.v 105)),(.asg (.name 53) (.bin .add (.v 53) (.ci 1)))])]⟩
noncomputable def tL:Fn:=⟨[57,184,60],[],[(.expr (.call 247 [(.v 57),(.v 184),(.v 60)])),(.expr (.call 188 [(.v 57),(.v 184)])),(.expr (.call 207 [(.v 57),(.v 184),(.v 60)]))]⟩
noncomputable def A8:Fn:=⟨[222,218,150,114,171,238,205,103,72,224],[(.int 1),(.tup [])],[(.asg (.attr (.v 222) 218) (.v 218)),(.asg (.attr (.v 222) 150) (.v 150)),(.asg (.attr (.v 222) 114) (.v 114)),(.asg (.attr (.v 222) 171) (.v 171)),(.asg (.attr (.v 222) 72) (.v 72)),(.asg (.attr (.v 222) 224) (.v 224)),(.asg (.attr (.v 222) 238) (.v 238)),(.asg (.attr (.v 222) 205) (.v 205)),(.asg (.attr (.v 222) 103) (.v 103))]⟩
noncomputable def Hf:Fn:=⟨[203,245],[],[(.ret (.ife (.cmp .isin (.v 245) (.attr (.v 203) 224)) (.bin .shl (.ci 1) (.idx (.idx (.attr (.v 203) 171) (.v 245)) (.ci 0))) (.ci 0)))]⟩
noncomputable def Gn:Fn:=⟨[67,231],[],[(.for [84,151] false .seq [(.v 231)] [(.iff (.chain .le .le (.v 84) (.v 67) (.v 151)) [(.ret (.cb true))] [])]),(.ret (.cb false))]⟩
noncomputable def Gw:Fn:=⟨[67],[],[(.iff (.cmp .eq (.v 67) (.g 17)) [(.ret (.cs 10))] []),(.iff (.cmp .eq (.v 67) (.g 31)) [(.ret (.cs 8))] []),(.iff (.cmp .eq (.v 67) (.g 19)) [(.ret (.cs 18))] []),(.iff (.cmp .isin (.v 67) (.tup [(.g 37),(.g 39)])) [(.ret (.cs 12))] []),(.for [144,231] false .seq [(.tup [(.tup [(.cs 2),(.g 3)]),(.tup [(.cs 30),(.g 33)]),(.tup [(.cs 15),(.g 16)]),(.tup [(.cs 23),(.g 24)])])] [(.iff (.call 126 [(.v 67),(.v 231)]) [(.ret (.v 144))] [])]),(.ret (.cs 0))]⟩
noncomputable def Gu:Fn:=⟨[147,53],[],[(.ret (.ife (.cmp .lt (.v 53) (.bi .len [(.v 147)])) (.idx (.v 147) (.v 53)) (.cs 0)))]⟩
noncomputable def GK:Fn:=⟨[147,53,144],[],[(.whl (.cmp .eq (.call 145 [(.v 147),(.v 53)]) (.v 144)) [(.asg (.name 53) (.bin .add (.v 53) (.ci 1)))]),(.ret (.v 53))]⟩
noncomputable def GL:Fn:=⟨[147,53],[],[(.whl (.cmp .eq (.call 145 [(.v 147),(.v 53)]) (.cs 8)) [(.asg (.name 55) (.ife (.cmp .eq (.call 145 [(.v 147),(.bin .add (.v 53) (.ci 1))]) (.cs 12)) (.bin .add (.v 53) (.ci 2)) (.bin .add (.v 53) (.ci 1)))),(.iff (.cmp .ne (.call 145 [(.v 147),(.v 55)]) (.cs 2)) [(.ret (.tup [(.v 55),(.cb true)]))] []),(.asg (.name 53) (.call 198 [(.v 147),(.bin .add (.v 55) (.ci 1)),(.cs 18)]))]),(.ret (.tup [(.v 53),(.cb false)]))]⟩
noncomputable def GW:Fn:=⟨[147,54],[],[(.asg (.name 144) (.idx (.v 147) (.v 54))),(.iff (.or (.cmp .eq (.v 144) (.cs 0)) (.cmp .eq (.v 144) (.cs 12))) [(.ret (.bin .add (.v 54) (.ci 1)))] []),(.asg (.name 53) (.ife (.cmp .isin (.v 144) (.tup [(.cs 2),(.cs 30)])) (.bin .add (.v 54) (.ci 1)) (.v 54))),(.asg (.names [53,117]) (.call 199 [(.v 147),(.call 198 [(.v 147),(.v 53),(.cs 18)])])),(.iff (.not (.v 117)) [(.whl (.cmp .isin (.call 145 [(.v 147),(.v 53)]) (.tup [(.cs 10),(.cs 15)])) [(.asg (.name 53) (.call 198 [(.v 147),(.bin .add (.v 53) (.ci 1)),(.cs 18)]))])] []),(.ret (.call 198 [(.v 147),(.v 53),(.cs 23)]))]⟩
noncomputable def GX:Fn:=⟨[68],[],[(.asg (.name 147) (.lcomp [67] true .seq [(.v 68)] [] (.call 148 [(.v 67)]))),(.asg (.name 90) (.lst [])),(.asg (.name 54) (.ci 0)),(.whl (.cmp .lt (.v 54) (.bi .len [(.v 147)])) [(.asg (.name 79) (.call 242 [(.v 147),(.v 54)])),(.expr (.meth 51 (.v 90) [(.tup [(.v 54),(.v 79)])])),(.asg (.name 54) (.v 79))]),(.ret (.v 90))]⟩
noncomputable def GA:Fn:=⟨[68,54,79],[],[(.asg (.name 95) (.v 54)),(.for [53] true .range [(.v 54),(.bin .sub (.v 79) (.ci 1))] [(.iff (.and (.cmp .eq (.idx (.v 68) (.v 53)) (.g 31)) (.cmp .eq (.idx (.v 68) (.bin .add (.v 53) (.ci 1))) (.g 39))) [(.asg (.name 95) (.bin .add (.v 53) (.ci 2)))] [])]),(.ret (.v 95))]⟩
noncomputable def GF:Fn:=⟨[57,54,79],[],[(.asg (.name 68) (.lcomp [109] true .seq [(.attr (.v 57) 214)] [] (.attr (.v 109) 67))),(.asg (.name 95) (.call 172 [(.v 68),(.v 54),(.v 79)])),(.asg (.name 236) (.lcomp [53] true .range [(.v 95),(.v 79)] [(.cmp .eq (.idx (.v 68) (.v 53)) (.g 17))] (.v 53))),(.whl (.and (.v 236) (.cmp .eq (.idx (.v 236) (.ci 0)) (.v 95))) [(.asg (.name 95) (.bin .add (.v 95) (.ci 1))),(.asg (.name 236) (.slc (.v 236) (.ci 1) .cn))]),(.iff (.not (.v 236)) [(.ret .cn)] []),(.asg (.name 151) (.bin .add (.idx (.v 236) (.neg (.ci 1))) (.ci 1))),(.expr (.call 175 [(.v 57),(.v 95),(.v 151)])),(.asg (.name 173) (.lcomp [53] true .seq [(.v 236)] [] (.idx (.attr (.v 57) 214) (.v 53)))),(.asg (.name 191) (.lcomp [53] true .range [(.v 95),(.v 151)] [(.cmp .notin (.v 53) (.v 236))] (.idx (.attr (.v 57) 214) (.v 53)))),(.asg (.attr (.v 57) 214) (.bin .add (.bin .add (.bin .add (.slc (.attr (.v 57) 214) .cn (.v 95)) (.v 173)) (.v 191)) (.slc (.attr (.v 57) 214) (.v 151) .cn)))]⟩
noncomputable def xl:Fn:=⟨[57,102],[(.bool false)],[(.asg (.name 68) (.lcomp [109] true .seq [(.attr (.v 57) 214)] [] (.attr (.v 109) 67))),(.for [54,79] false .rev [(.call 243 [(.v 68)])] [(.asg (.name 121) (.and (.v 102) (.call 116 [(.v 68),(.v 54)]))),(.iff (.v 121) [(.expr (.call 206 [(.v 57),(.v 54)]))] []),(.expr (.call 181 [(.v 57),(.v 54),(.ife (.v 121) (.bin .add (.v 79) (.ci 1)) (.v 79))]))])]⟩
noncomputable def js:Fn:=⟨[57,60,184],[],[(.expr (.call 168 [(.v 57)])),(.expr (.call 248 [(.v 57),(.v 60)])),(.iff (.cmp .isnot (.v 184) .cn) [(.expr (.call 185 [(.v 57),(.v 184),(.v 60)]))] [])]⟩
noncomputable def GS:Fn:=⟨[57,60,203],[],[(.iff (.attr (.v 203) 114) [(.expr (.call 179 [(.v 57),(.v 60),(.call 85 [(.v 203),(.cs 216)])]))] []),(.iff (.cmp .eq (.attr (.v 203) 218) (.cs 52)) [(.expr (.call 128 [(.v 57),(.bi .dict [(.lcomp [86] true .seq [(.g 7)] [] (.tup [(.v 86),(.call 85 [(.v 203),(.v 86)])]))])]))] []),(.iff (.cmp .eq (.attr (.v 203) 218) (.cs 73)) [(.expr (.call 211 [(.v 57)]))] [])]⟩
noncomputable def Ba:Fn:=⟨[222,68,253],[.none],[(.asg (.attr (.v 222) 68) (.dfilt 68)),(.asg (.attr (.v 222) 253) (.v 253))]⟩
noncomputable def Ha:Fn:=⟨[222,67],[],[(.ret (.meth 91 (.attr (.v 222) 68) [(.v 67),(.ci 0)]))]⟩
noncomputable def G9:Fn:=⟨[],[],[(.ret (.dct [(.ci 8204),(.cs 265),(.ci 8205),(.cs 264),(.ci 173),(.cs 106)]))]⟩
noncomputable def G6:Fn:=⟨[],[],[(.ret (.dct [(.ci 1576),(.cs 5),(.ci 1575),(.cs 22),(.ci 1611),(.cs 25),(.ci 1600),(.cs 2)]))]⟩
noncomputable def G7:Fn:=⟨[218],[],[(.ret (.lst [(.lcomp [59] true .seq [(.slc (.v 218) .cn (.ci 63))] [] (.bin .add (.bin .mul (.ci 2) (.bi .abs [(.bi .int [(.v 59)])])) (.bi .int [(.cmp .lt (.v 59) (.ci 0))]))),(.ci 0),(.ci 0)]))]⟩
noncomputable def G4:Fn:=⟨[200,167],[],[(.asg (.idx (.v 200) (.ci 1)) (.bin .add (.idx (.v 200) (.ci 1)) (.ci 1))),(.iff (.and (.cmp .eq (.idx (.v 200) (.ci 2)) (.ci 0)) (.cmp .ne (.idx (.v 200) (.ci 0)) (.lst []))) [(.asg (.idx (.v 200) (.ci 2)) (.meth 204 (.idx (.v 200) (.ci 0)) [(.ci 0)]))] []),(.asg (.name 76) (.bin .fmod (.bi .int [(.idx (.v 200) (.ci 2))]) (.v 167))),(.asg (.idx (.v 200) (.ci 2)) (.bin .fdiv (.bi .int [(.idx (.v 200) (.ci 2))]) (.v 167))),(.ret (.bin .fmod (.bin .add (.v 76) (.idx (.v 200) (.ci 1))) (.v 167)))]⟩
noncomputable def G8:Fn:=⟨[200,228],[],[(.ret (.idx (.v 228) (.call 42 [(.v 200),(.bi .len [(.v 228)])])))]⟩
noncomputable def G5:Fn:=⟨[68],[],[(.asg (.name 90) (.lcomp [67] true .seq [(.v 68)] [] (.cs 0))),(.asg (.name 147) (.lcomp [67] true .seq [(.v 68)] [] (.meth 91 (.call 44 []) [(.v 67),(.ife (.cmp .eq (.v 67) (.ci 8205)) (.cs 2) (.cs 29))]))),(.asg (.name 227) (.lcomp [53] true .range [(.bi .len [(.v 68)])] [(.cmp .ne (.idx (.v 147) (.v 53)) (.cs 25))] (.v 53))),(.for [235,53] false .enum [(.v 227)] [(.iff (.cmp .isin (.idx (.v 147) (.v 53)) (.tup [(.cs 5),(.cs 22),(.cs 2)])) [(.asg (.name 50) (.and (.cmp .gt (.v 235) (.ci 0)) (.cmp .isin (.idx (.v 147) (.idx (.v 227) (.bin .sub (.v 235) (.ci 1)))) (.tup [(.cs 5),(.cs 2)])))),(.asg (.name 55) (.and (.cmp .lt (.bin .add (.v 235) (.ci 1)) (.bi .len [(.v 227)])) (.and (.cmp .isin (.idx (.v 147) (.v 53)) (.tup [(.cs 5),(.cs 2)])) (.cmp .isin (.idx (.v 147) (.idx (.v 227) (.bin .add (.v 235) (.ci 1)))) (.tup [(.cs 5),(.cs 22),(.cs 2)]))))),(.asg (.idx (.v 90) (.v 53)) (.idx (.dct [(.tup [(.cb false),(.cb false)]),(.cs 127),(.tup [(.cb false),(.cb true)]),(.cs 111),(.tup [(.cb true),(.cb true)]),(.cs 174),(.tup [(.cb true),(.cb false)]),(.cs 82)]) (.tup [(.v 50),(.v 55)])))] [])]),(.ret (.v 90))]⟩
noncomputable def pP:Fn:=⟨[218],[],[(.asg (.name 200) (.call 45 [(.v 218)])),(.asg (.name 161) (.lst [(.ci 97),(.ci 768),(.ci 173),(.ci 98),(.ci 224),(.ci 8204)])),(.asg (.name 68) (.lcomp [235] true .range [(.call 42 [(.v 200),(.ci 8)])] [] (.call 46 [(.v 200),(.v 161)]))),(.asg (.name 60) (.call 4 [(.dct [(.ci 97),(.ci 1),(.ci 98),(.ci 2),(.ci 224),(.ci 3),(.ci 768),(.ci 4),(.ci 40),(.ci 5),(.ci 41),(.ci 6)])])),(.asg (.names [57,202]) (.tup [(.call 58 [(.v 68)]),(.call 58 [(.v 68)])])),(.expr (.call 210 [(.v 202),(.v 60),.cn])),(.iff (.or (.cmp .ne (.lcomp [109] true .seq [(.attr (.v 202) 214)] [] (.attr (.v 109) 67)) (.v 68)) (.cmp .ne (.lcomp [109] true .seq [(.attr (.v 202) 214)] [] (.attr (.v 109) 144)) (.lcomp [67] true .seq [(.v 68)] [] (.meth 91 (.call 47 []) [(.v 67),(.cs 0)])))) [(.ret (.cb false))] []),(.expr (.call 210 [(.v 57),(.v 60),(.call 20 [(.dct [(.ci 224),(.tup [(.ci 97),(.ci 768)])]),(.dct [(.ci 768),(.ci 230)])])])),(.asg (.names [255,66]) (.tup [(.lst []),(.lst [])])),(.for [53,67] false .enum [(.v 68)] [(.iff (.and (.cmp .eq (.v 67) (.ci 768)) (.and (.cmp .ne (.v 255) (.lst [])) (.cmp .eq (.idx (.v 255) (.neg (.ci 1))) (.ci 97)))) [(.asg (.idx (.v 255) (.neg (.ci 1))) (.ci 224))] [(.asg (.names [255,66]) (.tup [(.bin .add (.v 255) (.lst [(.v 67)])),(.bin .add (.v 66) (.lst [(.v 53)]))]))])]),(.iff (.or (.cmp .ne (.lcomp [109] true .seq [(.attr (.v 57) 214)] [] (.attr (.v 109) 67)) (.v 255)) (.cmp .ne (.meth 66 (.v 57) []) (.v 66))) [(.ret (.cb false))] []),(.asg (.names [245,114]) (.call 46 [(.v 200),(.lst [(.tup [(.cs 52),(.cb true)]),(.tup [(.cs 155),(.cb false)]),(.tup [(.cs 73),(.cb false)]),(.tup [(.cs 104),(.cb true)])])])),(.asg (.name 171) (.dct [(.cs 127),(.tup [(.ci 1),(.ci 1)]),(.cs 111),(.tup [(.ci 2),(.ci 1)]),(.cs 174),(.tup [(.ci 3),(.ci 1)]),(.cs 82),(.tup [(.ci 4),(.ci 1)]),(.cs 216),(.tup [(.ci 5),(.ci 1)])])),(.asg (.name 228) (.lst [(.ci 1576),(.ci 1575),(.ci 1611),(.ci 8205),(.ci 1576),(.ci 40),(.ci 41),(.ci 60),(.ci 1600),(.ci 97)])),(.asg (.name 68) (.lcomp [235] true .range [(.call 42 [(.v 200),(.ci 8)])] [] (.call 46 [(.v 200),(.v 228)]))),(.asg (.name 57) (.call 58 [(.v 68),(.v 114)])),(.expr (.call 225 [(.v 57),(.v 60),(.call 21 [(.v 245),(.cs 74),(.v 114),(.v 171),(.lst []),(.lst []),(.cb false),(.ci 1),(.bi .tuple [(.bi .sorted [(.v 171)])])])])),(.asg (.name 78) (.lst [])),(.asg (.name 88) (.call 43 [(.lcomp [67] true .seq [(.v 68)] [] (.meth 91 (.dct [(.ci 40),(.ci 41),(.ci 41),(.ci 40)]) [(.v 67),(.v 67)]))])),(.for [53,67] false .enum [(.v 68)] [(.asg (.name 190) (.ife (.v 114) (.meth 91 (.dct [(.ci 40),(.ci 41),(.ci 41),(.ci 40)]) [(.v 67),(.v 67)]) (.v 67))),(.asg (.name 170) (.ife (.or (.cmp .ne (.v 190) (.v 67)) (.not (.v 114))) (.ci 0) (.ci 32))),(.iff (.and (.cmp .eq (.v 245) (.cs 52)) (.cmp .ne (.idx (.v 88) (.v 53)) (.cs 0))) [(.asg (.name 170) (.bin .add (.v 170) (.bin .pow (.ci 2) (.idx (.idx (.v 171) (.idx (.v 88) (.v 53))) (.ci 0)))))] []),(.expr (.meth 51 (.v 78) [(.tup [(.v 190),(.v 170)])]))]),(.iff (.cmp .ne (.lcomp [109] true .seq [(.attr (.v 57) 214)] [] (.tup [(.attr (.v 109) 67),(.attr (.v 109) 170)])) (.v 78)) [(.ret (.cb false))] []),(.asg (.name 57) (.call 58 [(.lst [(.ci 2325),(.ci 2367),(.ci 97)]),(.v 114)])),(.expr (.call 225 [(.v 57),(.v 60),(.call 21 [(.v 245),(.cs 74),(.v 114),(.v 171),(.lst []),(.lst []),(.cb false),(.ci 1),(.bi .tuple [(.bi .sorted [(.v 171)])])])])),(.ret (.cmp .eq (.lcomp [109] true .seq [(.attr (.v 57) 214)] [] (.attr (.v 109) 67)) (.ife (.cmp .eq (.v 245) (.cs 73)) (.lst [(.ci 2367),(.ci 2325),(.ci 97)]) (.lst [(.ci 2325),(.ci 2367),(.ci 97)]))))]⟩
noncomputable def BO:List (Nat×Fn):=[(12040,A5),(12069,fN),(2066,GM),(223,GR),(259,G3),(175,GB),(97,Hj),(107,Gi),(119,Gl),(124,Gm),(146,Gv),(168,Gy),(248,GZ),(108,Gj),(213,GQ),(77,He),(197,GJ),(140,Gq),(252,G0),(142,Gs),(141,Gr),(129,Gp),(87,Hg),(89,Hh),(128,Go),(166,Gx),(226,GT),(178,GC),(180,GE),(21040,A7),(21063,GO),(21258,GP),(98,Hk),(99,Hl),(196,GI),(257,G2),(233,GU),(234,A9),(96,Hi),(169,Gz),(189,GH),(115,Gk),(62,Hc),(240,GV),(247,GY),(188,GG),(256,G1),(207,GN),(185,tL),(85,Hf),(126,Gn),(148,Gw),(145,Gu),(198,GK),(199,GL),(242,GW),(243,GX),(172,GA),(181,GF),(210,js),(225,GS),(5092,Ha),(47,G9),(44,G6),(45,G7),(42,G4),(46,G8),(43,G5),(156,pP)]
noncomputable def Qf:List (Nat×Fn):=[(2040,A6),(58,Hb),(179,GD),(22040,A8),(211,xl),(5040,Ba)]
noncomputable def jH:List (Nat×Fn):=BO++Qf
noncomputable def pY:List (Nat×AV):=[(38,(.int 8204)),(35,(.int 8205)),(36,(.int 8205)),(28,(.int 1600)),(9,(.int 44032)),(13,(.int 4352)),(32,(.int 4449)),(26,(.int 4519)),(34,(.int 21)),(27,(.int 28)),(14,(.int 19)),(3,(.tup [(.tup [(.int 2325),(.int 2361)]),(.tup [(.int 2392),(.int 2399)])])),(33,(.tup [(.tup [(.int 2308),(.int 2324)]),(.tup [(.int 2400),(.int 2401)])])),(16,(.tup [(.tup [(.int 2366),(.int 2366)]),(.tup [(.int 2368),(.int 2380)]),(.tup [(.int 2402),(.int 2403)])])),(24,(.tup [(.tup [(.int 2304),(.int 2307)]),(.tup [(.int 2385),(.int 2388)])])),(31,(.int 2381)),(19,(.int 2364)),(17,(.int 2367)),(39,(.int 8204)),(37,(.int 8205)),(6,(.int 9676)),(7,(.tup [(.str 127),(.str 111),(.str 174),(.str 82)]))]
noncomputable def BL:List (Nat×List Nat):=[(11,[67,92,65,170,125,163,164,162,232,144,260,262,261,263,193,56]),(1,[214,114,152,153]),(20,[195,64]),(21,[218,150,114,171,72,224,238,205,103]),(4,[68,253])]
noncomputable def jU:List ((Nat×Nat)×Nat):=[((11,69),12069),((1,66),2066),((20,63),21063),((20,258),21258),((4,92),5092)]
noncomputable def jA:List (Nat×Nat):=[(11,12040),(1,2040),(20,21040),(21,22040),(4,5040)]
noncomputable def T0:Bf where
 tb:={glob:=fun i=>pY.lookup i,fld:=fun c a=>match BL.lookup c with |some l=>l.contains a |none=>false,meth:=fun c m=>jU.lookup (c,m)}
 fns:=fun i=>jH.lookup i
 cls:=fun i=>jA.lookup i
section
open PySem PySem.W PySem.Calls PyProof.Rows Mine.Hd
noncomputable def IZ:Stmt→Str
 |.FunctionDef n _ _ _ _ _ _ _ _ _=>n
 |_=>Str.empty
noncomputable def fT:Stmt→Arguments
 |.FunctionDef _ p _ _ _ _ _ _ _ _=>p
 |_=>default
noncomputable def xP:Stmt→List Stmt
 |.FunctionDef _ _ b _ _ _ _ _ _ _=>b
 |_=>[]
noncomputable def gY:Stmt→Scope
 |.FunctionDef _ _ _ _ _ _ sc _ _ _=>sc
 |_=>default
noncomputable def J6:Stmt→Bool
 |.FunctionDef ..=>true
 |_=>false
theorem Qq {q:String}{dv doc pm c:Value}{s:Stmt}(h:J6 s=true):aG q dv doc pm c s=⟨.type "function",none,.func (fnOf (IZ s) (k q) (fT s) (xP s) (gY s) dv .none doc pm none c .none),(List.nil:List (Option Value)).toArray⟩:=by
 cases s<;>first |rfl |cases h
noncomputable def Bx (s:Stmt)(ps:List Nat)(nd:Nat):Bool:=
 J6 s&&(gY s).kind==.function&&!(gY s).isCoroutine&&!(gY s).isGenerator&&(gY s).names.all (fun p=>p.2 !=.free)&&(fT s).posonlyargs.isEmpty&&(fT s).vararg.isNone&&(fT s).kwonlyargs.isEmpty&&(fT s).kwarg.isNone&&
 decide ((fT s).args.map (·.arg)).Nodup&&(bw aN ((fT s).args.map (·.arg))==some ps)&&((fT s).args.map (·.arg)).all (fun n=>(gY s).names.lookup n==some .local||(gY s).names.lookup n==some .cell)&&decide (nd≤(fT s).args.length)
noncomputable def yx (q:String)(o:Obj):Bool:=match o.data with
 |.fields vs=>match vs.toList with
  |_::.str n _::_=>t5 n.cps.toList (k q).cps.toList
  |_=>false
 |_=>false
theorem Pf {h:Heap}{c:Addr}{q:String}(e:((h.get? c).any (yx q))=true):h.CodeRec (.ref c) (k q):=by
 refine ah fun aa=>?_
 cases ho:h.get? c with
 |none=>rw[ho]at e;exact cz e
 |some o=>
  rw[ho]at e
  simp only[Option.any_some,yx]at e
  split at e
  ·rename_i vs hd
   split at e
   ·rename_i a n t r hv
    refine aa ?_
    refine⟨c,o,vs,t,rfl,ho,hd,?_⟩
    have:vs[1]?=some (Value.str n t):=by rw[←Array.getElem?_toList,hv];rfl
    rw[this]
    obtain⟨⟨n⟩⟩:=n
    have:=BH e
    simp only at this
    exact(this).symm▸rfl
   ·cases e
  ·cases e
theorem Nn {p:Arguments}(h1:p.posonlyargs=[])(h2:p.vararg=none)(h3:p.kwonlyargs=[])(h4:p.kwarg=none):p=⟨[],p.args,none,[],p.kw_defaults,none,p.defaults⟩:=by
 cases p;cases h1;cases h2;cases h3;cases h4;rfl
theorem lV {W:Wd}{P:Params}(kp:∀b o,(H1 P).get? b=some o→W.hB.get? b=some o){fa c:Addr}{fn:Fn}(q:String)(dv doc pm:Value)(s:Stmt){ds:List Value}
  (ho:(H1 P).get? fa=some (aG q dv doc pm (.ref c) s))(hc:((H1 P).get? c).any (yx q)=true)(hk:Bx s fn.params ds.length=true)(ht:pF (gY s) (xP s)=some fn.body)
  (hd:(dv=.none∧ds=[])∨∃T,dv=.ref T∧(H1 P).get? T=some (tp ds))(hv:aC W.hB [] fn.dflts ds):fO W fa fn:=by
 unfold Bx at hk
 simp only[Bool.and_eq_true,Bool.not_eq_true',beq_iff_eq,decide_eq_true_eq,List.isEmpty_iff,Option.isNone_iff_eq_none]at hk
 refine ah fun aa=>?_
 obtain⟨⟨⟨⟨⟨⟨⟨⟨⟨⟨⟨⟨k1,k2⟩,k3⟩,k4⟩,k5⟩,k6⟩,k7⟩,k8⟩,k9⟩,k10⟩,k11⟩,k12⟩,k13⟩:=hk
 refine aa ?_
 refine⟨_,IZ s,k q,xP s,gY s,dv,.none,doc,pm,.ref c,.none,none,(fT s).args,(fT s).kw_defaults,(fT s).defaults,ds,kp _ _ ho,by rw[Qq k1,←Nn k6 k7 k8 k9],(Pf hc).keeps kp,ht,k2,k3,k4,fun p hp=>?_,k10,k11,fun n hn=>?_,?_,hv,k13⟩
 ·have:=List.all_eq_true.mp k5 p hp
  simpa using this
 ·have:=List.all_eq_true.mp k12 n hn
  simpa using this
 ·refine ah fun aa=>?_
  rcases hd with hd | ⟨T,e1,e2⟩
  ·exact aa (.inl hd)
  ·exact aa (.inr ⟨T,_,_,_,e1,kp _ _ e2,rfl,by simp⟩)
end
section
open PySem PySem.W PySem.Calls PyProof.Rows Mine.Hd
noncomputable def KF (P:Params):Frag:=[(34,i8),(35,i9),(41,ja),(42,jb),(51,jc P),(52,jd),(70,lk),(71,ll),(80,lm),(81,lp),(102,jW P),(103,jX),(112,jY),(113,jZ),(119,j3),(120,j4),(126,j5),(127,j6),(131,j7),(132,j8),(136,j9),(137,kc),(143,ke),(144,kg),(150,ki),(151,kj),(157,kl),(158,km),(164,kq),(165,ku),(171,nI),(172,nJ),(185,nK),(186,nL),(192,nM),(193,nN),(199,nO),(200,nP),(206,nQ),(207,nR),(213,nS),(214,nT),(220,nU),(221,nV),(225,nW),(226,nX),(232,nY),(233,nZ),(239,n7),(240,n8),(246,n9),(247,oe),(253,og),(254,oh),(258,oi),(259,oj),(263,om),(264,oo),(270,oq),(271,ot),(277,ou),(278,ow),(282,ox),(283,oy),(289,oz),(290,oA),(297,oB),(298,oE),(311,sG),(312,sH),(318,sI),(319,sJ),(325,sK),(326,sL),(328,sM P),(329,sN),(339,sO),(340,sP),(346,sQ),(347,sR),(353,sS),(354,sT),(360,sU),(361,sV),(367,sW),(368,sX),(374,sY),(375,sZ),(379,s7),(380,s8),(386,ta),(387,tc),(391,td),(392,te),(398,tf),(399,th),(405,wp),(406,wq),(412,wt),(413,wu),(419,wv),(420,ww),(424,wx),(425,wy),(431,wz),(432,wA),(438,wE),(439,wF),(445,wG),(446,wH),(461,wJ),(462,wK),(469,wL P),(470,wM),(480,wN),(481,wO),(500,zX),(501,zY),(507,zZ),(508,z3),(514,z4),(515,z5),(521,z6),(522,z7),(528,z8),(529,z9),(535,Aa),(536,Ab),(540,Ac),(541,Ad),(554,Ae),(555,Af),(559,Ag),(560,Ah),(572,Ai),(573,Aj),(580,Al),(581,Am),(585,An),(586,Ao),(605,E2),(606,E3),(612,E4),(613,E5),(627,E6 P),(628,E7),(638,E8),(639,E9),(645,Fa),(646,Fb),(650,Fd),(651,Fe),(657,Ff),(658,Fg),(664,Fh),(665,Fi),(669,Fj),(670,Fk),(674,Fm),(675,Fo)]
noncomputable def Kd:List Addr:=[34,35,41,42,51,52,70,71,80,81,102,103,112,113,119,120,126,127,131,132,136,137,143,144,150,151,157,158,164,165,171,172,185,186,192,193,199,200,206,207,213,214,220,221,225,226,232,233,239,240,246,247,253,254,258,259,263,264,270,271,277,278,282,283,289,290,297,298,311,312,318,319,325,326,328,329,339,340,346,347,353,354,360,361,367,368,374,375,379,380,386,387,391,392,398,399,405,406,412,413,419,420,424,425,431,432,438,439,445,446,461,462,469,470,480,481,500,501,507,508,514,515,521,522,528,529,535,536,540,541,554,555,559,560,572,573,580,581,585,586,605,606,612,613,627,628,638,639,645,646,650,651,657,658,664,665,669,670,674,675]
noncomputable def iC:List (Nat×Addr):=[(12040,35),(12069,42),(2040,71),(2066,81),(58,113),(223,120),(259,127),(175,132),(97,137),(107,144),(119,151),(124,158),(146,165),(168,172),(248,186),(108,193),(213,200),(77,207),(197,214),(140,221),(252,226),(142,233),(141,240),(129,247),(87,254),(89,259),(128,264),(166,271),(226,278),(178,283),(180,290),(179,298),(21040,312),(21063,319),(21258,326),(98,340),(99,347),(196,354),(257,361),(233,368),(234,375),(96,380),(169,387),(189,392),(115,399),(62,406),(240,413),(247,420),(188,425),(256,432),(207,439),(185,446),(22040,462),(85,481),(126,501),(148,508),(145,515),(198,522),(199,529),(242,536),(243,541),(172,555),(181,560),(211,573),(210,581),(225,586),(5040,606),(5092,613),(47,639),(44,646),(45,651),(42,658),(46,665),(43,670),(156,675),(11,52),(1,103),(20,329),(21,470),(4,628)]
noncomputable def iz:List (Nat×Addr):=[(11,52),(1,103),(20,329),(21,470),(4,628)]
noncomputable def Wl (w:World)(h:Heap):Wd:=⟨pw,w,KF w.params,h,fun c=>iz.lookup c,fun f=>(iC.lookup f).map .ref,T0⟩
noncomputable def mw:Value:=Hd.S "joinedhand.buffer" 194
noncomputable def qz:Value:=Hd.S "joinedhand.hidden" 359
noncomputable def f0:Value:=Hd.S "joinedhand.joining" 423
noncomputable def yL:Value:=Hd.S "joinedhand.mirror" 514
noncomputable def dJ:Value:=Hd.S "joinedhand.normal" 556
noncomputable def TW:Value:=Hd.S "joinedhand.plan" 787
noncomputable def iW:Value:=Hd.S "joinedhand.syllables" 849
noncomputable def KC:Value:=Hd.S "joinedhand.shaper" 987
noncomputable def TX:Value:=Hd.S "joinedhand.charmap" 1021
noncomputable def mA:Value:=Hd.S "law_nz0118_01" 1075
noncomputable def lz:List (Nat×Addr×Addr×String×Value×Stmt×Fn):=[(12040,35,34,"Info.__init__",mw,ms 2 0,A5),(12069,42,41,"Info.copied",mw,ms 2 1,fN),(2066,81,80,"Buffer.clusters",mw,ms 3 2,GM),(223,120,119,"set_cluster",mw,st 5,GR),(259,127,126,"widened",mw,st 6,G3),(175,132,131,"merge",mw,st 7,GB),(97,137,136,"hang",mw,st 8,Hj),(107,144,143,"hidden_spans",qz,st 12,Gi),(119,151,150,"is_hidden_code",qz,st 13,Gl),(124,158,157,"is_selector",qz,st 14,Gm),(146,165,164,"kind_of_code",qz,st 15,Gv),(168,172,171,"mark_kinds",qz,st 16,Gy),(248,186,185,"take_selectors",qz,st 18,GZ),(108,193,192,"in_ranges",f0,st 22,Gj),(213,200,199,"right_ranges",f0,st 23,GQ),(77,207,206,"dual_ranges",f0,st 24,He),(197,214,213,"passed_ranges",f0,st 25,GJ),(140,221,220,"joining_type",f0,st 26,Gq),(252,226,225,"types_of",f0,st 27,G0),(142,233,232,"joins_on",f0,st 28,Gs),(141,240,239,"joins_back",f0,st 29,Gr),(129,247,246,"joined_pairs",f0,st 30,Gp),(87,254,253,"form_of",f0,st 31,Hg),(89,259,258,"forms_of",f0,st 32,Hh),(128,264,263,"join",f0,st 33,Go),(166,271,270,"lone_pairs",yL,st 35,Gx),(226,278,277,"side_rows",yL,st 36,GT),(178,283,282,"mirror_pairs",yL,st 37,GC),(180,290,289,"mirror_table",yL,st 38,GE),(21040,312,311,"Normal.__init__",dJ,ms 48 0,A7),(21063,319,318,"Normal.class_of",dJ,ms 48 1,GO),(21258,326,325,"Normal.wholes",dJ,ms 48 2,GP),(98,340,339,"hangul_parts",dJ,st 49,Hk),(99,347,346,"hangul_whole",dJ,st 50,Hl),(196,354,353,"parts_of",dJ,st 51,GI),(257,361,360,"whole_of",dJ,st 52,G2),(233,368,367,"split_once",dJ,st 53,GU),(234,375,374,"splits",dJ,st 54,A9),(96,380,379,"had_parts",dJ,st 55,Hi),(169,387,386,"mark_runs",dJ,st 56,Gz),(189,392,391,"ordered_places",dJ,st 57,GH),(115,399,398,"is_blocked",dJ,st 58,Gk),(62,406,405,"class_here",dJ,st 59,Hc),(240,413,412,"stays_whole",dJ,st 60,GV),(247,420,419,"take_apart",dJ,st 61,GY),(188,425,424,"order_row",dJ,st 62,GG),(256,432,431,"whole_here",dJ,st 63,G1),(207,439,438,"put_together",dJ,st 64,GN),(185,446,445,"normalise",dJ,st 65,tL),(85,481,480,"first_bit",TW,st 68,Hf),(126,501,500,"is_within",iW,st 80,Gn),(148,508,507,"kinds_of",iW,st 81,Gw),(145,515,514,"kind_at",iW,st 82,Gu),(198,522,521,"past",iW,st 83,GK),(199,529,528,"past_viramas",iW,st 84,GL),(242,536,535,"syllable_end",iW,st 85,GW),(243,541,540,"syllables",iW,st 86,GX),(172,555,554,"matra_goal",iW,st 88,GA),(181,560,559,"move_matras",iW,st 89,GF),(210,581,580,"read_letters",KC,st 94,js),(225,586,585,"shape_letters",KC,st 95,GS),(5092,613,612,"CharMap.glyph",TX,ms 99 1,Ha),(47,639,638,"_law_sorts",mA,st 101,G9),(44,646,645,"_law_joins",mA,st 102,G6),(45,651,650,"_law_pen",mA,st 103,G7),(42,658,657,"_law_draw",mA,st 104,G4),(46,665,664,"_law_pick",mA,st 105,G8),(43,670,669,"_law_forms",mA,st 106,G5),(156,675,674,"law",mA,st 107,pP)]
theorem Va:BO=lz.map (fun r=>(r.1,r.2.2.2.2.2.2)):=by kernel_rfl
theorem Vd:lz.map (fun r=>iC.lookup r.1)=lz.map (fun r=>some r.2.1):=by kernel_rfl
theorem Vb (P:Params):lz.map (fun r=>(H1 P).get? r.2.1)=lz.map (fun r=>some (aG r.2.2.2.1 N0 N0 r.2.2.2.2.1 (.ref r.2.2.1) r.2.2.2.2.2.1)):=by kernel_rfl
theorem Vc:lz.map (fun r=>pF (gY r.2.2.2.2.2.1) (xP r.2.2.2.2.2.1))=lz.map (fun r=>some r.2.2.2.2.2.2.body):=by kernel_rfl
theorem U9 (P:Params):lz.all (fun r=>((H1 P).get? r.2.2.1).any (yx r.2.2.2.1)&&(Bx r.2.2.2.2.2.1 r.2.2.2.2.2.2.params 0&&r.2.2.2.2.2.2.dflts.isEmpty))=true:=by kernel_rfl
section
variable {W:Wd}{P:Params}
variable (kp:∀b o,(H1 P).get? b=some o→W.hB.get? b=some o)
include kp
theorem PS:fO W 71 A6:=lV kp "Buffer.__init__" (R 64) N0 (Hd.S "joinedhand.buffer" 194) (ms 3 0) (ds:=[(.bool false)]) (by kernel_rfl) (c:=70) (by kernel_rfl) (by kernel_rfl) (by kernel_rfl) (.inr ⟨64,rfl,by kernel_rfl⟩) (⟨rfl,trivial⟩)
theorem PY:fO W 113 Hb:=lV kp "buffer_of" (R 108) N0 (Hd.S "joinedhand.buffer" 194) (st 4) (ds:=[(.bool false)]) (by kernel_rfl) (c:=112) (by kernel_rfl) (by kernel_rfl) (by kernel_rfl) (.inr ⟨108,rfl,by kernel_rfl⟩) (⟨rfl,trivial⟩)
theorem PR:fO W 298 GD:=lV kp "mirror_row" (R 291) N0 (Hd.S "joinedhand.mirror" 514) (st 39) (ds:=[(.int 0 543)]) (by kernel_rfl) (c:=297) (by kernel_rfl) (by kernel_rfl) (by kernel_rfl) (.inr ⟨291,rfl,by kernel_rfl⟩) (⟨⟨_,rfl⟩,trivial⟩)
theorem PW:fO W 462 A8:=lV kp "Plan.__init__" (R 455) N0 (Hd.S "joinedhand.plan" 787) (ms 67 0) (ds:=[(.int 1 801),(R 454)]) (by kernel_rfl) (c:=461) (by kernel_rfl) (by kernel_rfl) (by kernel_rfl) (.inr ⟨455,rfl,by kernel_rfl⟩) (⟨⟨_,rfl⟩,⟨454,#[],rfl,⟨wI,kp _ _ (by kernel_rfl),rfl,0,rfl⟩,trivial⟩,trivial⟩)
theorem PU:fO W 573 xl:=lV kp "reorder" (R 568) N0 (Hd.S "joinedhand.syllables" 849) (st 91) (ds:=[(.bool false)]) (by kernel_rfl) (c:=572) (by kernel_rfl) (by kernel_rfl) (by kernel_rfl) (.inr ⟨568,rfl,by kernel_rfl⟩) (⟨rfl,trivial⟩)
theorem PX:fO W 606 Ba:=lV kp "CharMap.__init__" (R 601) N0 (Hd.S "joinedhand.charmap" 1021) (ms 99 0) (ds:=[N0]) (by kernel_rfl) (c:=605) (by kernel_rfl) (by kernel_rfl) (by kernel_rfl) (.inr ⟨601,rfl,by kernel_rfl⟩) (⟨rfl,trivial⟩)
theorem Qh {f:Nat}{fn:Fn}(h:(f,fn)∈BO):∃fa,(iC.lookup f).map Value.ref=some (.ref fa)∧fO W fa fn:=by
 rw[Va]at h
 obtain⟨⟨n,fa,c,q,pm,s,fn'⟩,hr,e⟩:=List.mem_map.mp h
 cases e
 have⟨b1,b2⟩:=bo (List.all_eq_true.mp (U9 P) _ hr)
 have⟨b2,b3⟩:=bo b2
 have e1:=List.map_inj_left.mp Vd _ hr
 exact⟨fa,by rw[e1];rfl,lV kp q N0 N0 pm s (ds:=[]) (List.map_inj_left.mp (Vb P) _ hr) b1 b2 (List.map_inj_left.mp Vc _ hr) (.inl ⟨rfl,rfl⟩) (by rw[List.isEmpty_iff.mp b3];trivial)⟩
end
end
section
open PySem PySem.W PySem.Calls PyProof.Rows Mine.Hd
theorem SQ (P:Params):Kd=(KF P).map (·.1):=by kernel_rfl
theorem SR (P:Params):Kd.map (H1 P).get?=(KF P).map (fun p=>some p.2):=by kernel_rfl
theorem hZ {α:Type}{i:Nat}{a:α}:∀{l:List (Nat×α)},l.lookup i=some a→(i,a)∈l
 | [],h=>by cases h
 | (j,b)::l,h=>by
  rw[List.lookup_cons]at h
  split at h
  ·rename_i q
   cases h
   rw[eq_of_beq q]
   exact List.mem_cons_self ..
  ·exact List.mem_cons_of_mem _ (hZ h)
theorem Qg {w:World}{h:Heap}(kp:∀b o,(H1 w.params).get? b=some o→h.get? b=some o):∀p∈jH,∃fa,(Wl w h).fv p.1=some (.ref fa)∧fO (Wl w h) fa p.2:=by
 refine List.forall_mem_append.mpr ⟨fun p hp=>Qh kp hp,?_⟩
 exact List.forall_mem_cons.mpr ⟨⟨71,rfl,PS kp⟩,List.forall_mem_cons.mpr ⟨⟨113,rfl,PY kp⟩,List.forall_mem_cons.mpr ⟨⟨298,rfl,PR kp⟩,List.forall_mem_cons.mpr ⟨⟨462,rfl,PW kp⟩,List.forall_mem_cons.mpr ⟨⟨573,rfl,PU kp⟩,List.forall_mem_cons.mpr ⟨⟨606,rfl,PX kp⟩,List.forall_mem_nil _⟩⟩⟩⟩⟩⟩
end
section
open PySem PySem.W PySem.Calls PyProof.Rows Mine.Hd
section
variable {w:World}{h:Heap}(kp:∀b o,(H1 w.params).get? b=some o→h.get? b=some o)
noncomputable abbrev d7 (P:Params):Str→Option Value:=(H1 P).nsMap mainGlobals
noncomputable abbrev fi (P:Params):Str→Option Value:=(H1 P).nsMap builtinsNs
include kp
theorem Qu:∀p∈pY,∃x v,bf[p.1]?=some x∧d7 w.params x=some v∧VR h [] p.2 v:=by
 unfold pY
 refine List.forall_mem_cons.mpr ⟨⟨k "ZWNJ_hidden",(.int 8204 361),by kernel_rfl,by kernel_rfl,⟨_,rfl⟩⟩,?_⟩
 refine List.forall_mem_cons.mpr ⟨⟨k "ZWJ_hidden",(.int 8205 363),by kernel_rfl,by kernel_rfl,⟨_,rfl⟩⟩,?_⟩
 refine List.forall_mem_cons.mpr ⟨⟨k "ZWJ_joining",(.int 8205 425),by kernel_rfl,by kernel_rfl,⟨_,rfl⟩⟩,?_⟩
 refine List.forall_mem_cons.mpr ⟨⟨k "TATWEEL",(.int 1600 427),by kernel_rfl,by kernel_rfl,⟨_,rfl⟩⟩,?_⟩
 refine List.forall_mem_cons.mpr ⟨⟨k "HANGUL",(.int 44032 558),by kernel_rfl,by kernel_rfl,⟨_,rfl⟩⟩,?_⟩
 refine List.forall_mem_cons.mpr ⟨⟨k "LEADS",(.int 4352 560),by kernel_rfl,by kernel_rfl,⟨_,rfl⟩⟩,?_⟩
 refine List.forall_mem_cons.mpr ⟨⟨k "VOWELS_normal",(.int 4449 562),by kernel_rfl,by kernel_rfl,⟨_,rfl⟩⟩,?_⟩
 refine List.forall_mem_cons.mpr ⟨⟨k "TAILS",(.int 4519 564),by kernel_rfl,by kernel_rfl,⟨_,rfl⟩⟩,?_⟩
 refine List.forall_mem_cons.mpr ⟨⟨k "VOWEL_COUNT",(.int 21 566),by kernel_rfl,by kernel_rfl,⟨_,rfl⟩⟩,?_⟩
 refine List.forall_mem_cons.mpr ⟨⟨k "TAIL_COUNT",(.int 28 568),by kernel_rfl,by kernel_rfl,⟨_,rfl⟩⟩,?_⟩
 refine List.forall_mem_cons.mpr ⟨⟨k "LEAD_COUNT",(.int 19 570),by kernel_rfl,by kernel_rfl,⟨_,rfl⟩⟩,?_⟩
 refine List.forall_mem_cons.mpr ⟨⟨k "CONSONANTS",(R 484),by kernel_rfl,by kernel_rfl,⟨484,_,rfl,⟨wR,kp _ _ (by kernel_rfl),rfl,0,rfl⟩,⟨482,_,rfl,⟨wP,kp _ _ (by kernel_rfl),rfl,0,rfl⟩,⟨_,rfl⟩,⟨_,rfl⟩,trivial⟩,⟨483,_,rfl,⟨wQ,kp _ _ (by kernel_rfl),rfl,0,rfl⟩,⟨_,rfl⟩,⟨_,rfl⟩,trivial⟩,trivial⟩⟩,?_⟩
 refine List.forall_mem_cons.mpr ⟨⟨k "VOWELS_syllables",(R 487),by kernel_rfl,by kernel_rfl,⟨487,_,rfl,⟨wU,kp _ _ (by kernel_rfl),rfl,0,rfl⟩,⟨485,_,rfl,⟨wS,kp _ _ (by kernel_rfl),rfl,0,rfl⟩,⟨_,rfl⟩,⟨_,rfl⟩,trivial⟩,⟨486,_,rfl,⟨wT,kp _ _ (by kernel_rfl),rfl,0,rfl⟩,⟨_,rfl⟩,⟨_,rfl⟩,trivial⟩,trivial⟩⟩,?_⟩
 refine List.forall_mem_cons.mpr ⟨⟨k "MATRAS",(R 491),by kernel_rfl,by kernel_rfl,⟨491,_,rfl,⟨wY,kp _ _ (by kernel_rfl),rfl,0,rfl⟩,⟨488,_,rfl,⟨wV,kp _ _ (by kernel_rfl),rfl,0,rfl⟩,⟨_,rfl⟩,⟨_,rfl⟩,trivial⟩,⟨489,_,rfl,⟨wW,kp _ _ (by kernel_rfl),rfl,0,rfl⟩,⟨_,rfl⟩,⟨_,rfl⟩,trivial⟩,⟨490,_,rfl,⟨wX,kp _ _ (by kernel_rfl),rfl,0,rfl⟩,⟨_,rfl⟩,⟨_,rfl⟩,trivial⟩,trivial⟩⟩,?_⟩
 refine List.forall_mem_cons.mpr ⟨⟨k "SIGNS",(R 494),by kernel_rfl,by kernel_rfl,⟨494,_,rfl,⟨w4,kp _ _ (by kernel_rfl),rfl,0,rfl⟩,⟨492,_,rfl,⟨wZ,kp _ _ (by kernel_rfl),rfl,0,rfl⟩,⟨_,rfl⟩,⟨_,rfl⟩,trivial⟩,⟨493,_,rfl,⟨w3,kp _ _ (by kernel_rfl),rfl,0,rfl⟩,⟨_,rfl⟩,⟨_,rfl⟩,trivial⟩,trivial⟩⟩,?_⟩
 refine List.forall_mem_cons.mpr ⟨⟨k "VIRAMA",(.int 2381 873),by kernel_rfl,by kernel_rfl,⟨_,rfl⟩⟩,?_⟩
 refine List.forall_mem_cons.mpr ⟨⟨k "NUKTA",(.int 2364 875),by kernel_rfl,by kernel_rfl,⟨_,rfl⟩⟩,?_⟩
 refine List.forall_mem_cons.mpr ⟨⟨k "MATRA_I",(.int 2367 877),by kernel_rfl,by kernel_rfl,⟨_,rfl⟩⟩,?_⟩
 refine List.forall_mem_cons.mpr ⟨⟨k "ZWNJ_syllables",(.int 8204 879),by kernel_rfl,by kernel_rfl,⟨_,rfl⟩⟩,?_⟩
 refine List.forall_mem_cons.mpr ⟨⟨k "ZWJ_syllables",(.int 8205 881),by kernel_rfl,by kernel_rfl,⟨_,rfl⟩⟩,?_⟩
 refine List.forall_mem_cons.mpr ⟨⟨k "DOTTED_CIRCLE",(.int 9676 883),by kernel_rfl,by kernel_rfl,⟨_,rfl⟩⟩,?_⟩
 refine List.forall_mem_cons.mpr ⟨⟨k "FORMS",(R 574),by kernel_rfl,by kernel_rfl,⟨574,_,rfl,⟨Ak,kp _ _ (by kernel_rfl),rfl,0,rfl⟩,⟨_,_,by kernel_rfl,rfl⟩,⟨_,_,by kernel_rfl,rfl⟩,⟨_,_,by kernel_rfl,rfl⟩,⟨_,_,by kernel_rfl,rfl⟩,trivial⟩⟩,?_⟩
 exact List.forall_mem_nil _
end
theorem KM (P:Params):(H1 P).isNs mainGlobals=true:=by kernel_rfl
theorem Uc (P:Params):(H1 P).isNs builtinsNs=true:=by kernel_rfl
theorem Ud (P:Params):(H1 P).isNs cStatics=true:=by kernel_rfl
theorem Ua (P:Params):(H1 P).nsMap cStatics "sys.recursionlimit"=none:=by kernel_rfl
theorem Qr (P:Params):iC.all (fun p=>match bf[p.1]? with
 |none=>true
 |some x=>match d7 P x with
  |some (.ref a)=>a==p.2
  |_=>false)=true:=by kernel_rfl
theorem SM (P:Params):iC.all (fun p=>keepIn (KF P) (.ref p.2))=true:=by kernel_rfl
theorem P9 (P:Params):iz.all (fun p=>match BL.lookup p.1 with
 |none=>true
 |some l=>l.all fun a=>match bf[a]? with
  |none=>false
  |some x=>(match findIn (KF P) (.ref p.2) x with
   |some attr=>noGet (KF P) attr
   |none=>false)&&(match takerIn (KF P) p.2 x with
   |some none=>true
   |_=>false))=true:=by kernel_rfl
theorem Pb (P:Params):(findIn (KF P) (.ref 52) "__getattribute__",findIn (KF P) (.ref 52) "__getattr__",hasDictIn (KF P) 52,findIn (KF P) (.ref 52) "__setattr__",plainOver (KF P) 52)=(some (some (.builtin "object.__getattribute__")),some none,true,some (some (.builtin "object.__setattr__")),true):=by kernel_rfl
theorem TT (P:Params):(makesIn (KF P) 52,findIn (KF P) (.ref 52) "__init__",typeIn (KF P) (.ref 35))=(true,some (some (.ref 35)),some (.type "function")):=by kernel_rfl
theorem O9 (P:Params):(findIn (KF P) (.ref 103) "__getattribute__",findIn (KF P) (.ref 103) "__getattr__",hasDictIn (KF P) 103,findIn (KF P) (.ref 103) "__setattr__",plainOver (KF P) 103)=(some (some (.builtin "object.__getattribute__")),some none,true,some (some (.builtin "object.__setattr__")),true):=by kernel_rfl
theorem TR (P:Params):(makesIn (KF P) 103,findIn (KF P) (.ref 103) "__init__",typeIn (KF P) (.ref 71))=(true,some (some (.ref 71)),some (.type "function")):=by kernel_rfl
theorem Pc (P:Params):(findIn (KF P) (.ref 329) "__getattribute__",findIn (KF P) (.ref 329) "__getattr__",hasDictIn (KF P) 329,findIn (KF P) (.ref 329) "__setattr__",plainOver (KF P) 329)=(some (some (.builtin "object.__getattribute__")),some none,true,some (some (.builtin "object.__setattr__")),true):=by kernel_rfl
theorem TU (P:Params):(makesIn (KF P) 329,findIn (KF P) (.ref 329) "__init__",typeIn (KF P) (.ref 312))=(true,some (some (.ref 312)),some (.type "function")):=by kernel_rfl
theorem Pd (P:Params):(findIn (KF P) (.ref 470) "__getattribute__",findIn (KF P) (.ref 470) "__getattr__",hasDictIn (KF P) 470,findIn (KF P) (.ref 470) "__setattr__",plainOver (KF P) 470)=(some (some (.builtin "object.__getattribute__")),some none,true,some (some (.builtin "object.__setattr__")),true):=by kernel_rfl
theorem TV (P:Params):(makesIn (KF P) 470,findIn (KF P) (.ref 470) "__init__",typeIn (KF P) (.ref 462))=(true,some (some (.ref 462)),some (.type "function")):=by kernel_rfl
theorem Pa (P:Params):(findIn (KF P) (.ref 628) "__getattribute__",findIn (KF P) (.ref 628) "__getattr__",hasDictIn (KF P) 628,findIn (KF P) (.ref 628) "__setattr__",plainOver (KF P) 628)=(some (some (.builtin "object.__getattribute__")),some none,true,some (some (.builtin "object.__setattr__")),true):=by kernel_rfl
theorem TS (P:Params):(makesIn (KF P) 628,findIn (KF P) (.ref 628) "__init__",typeIn (KF P) (.ref 606))=(true,some (some (.ref 606)),some (.type "function")):=by kernel_rfl
theorem Io (P:Params):∀p∈iz,(findIn (KF P) (.ref p.2) "__getattribute__",findIn (KF P) (.ref p.2) "__getattr__",hasDictIn (KF P) p.2,findIn (KF P) (.ref p.2) "__setattr__",plainOver (KF P) p.2)=(some (some (.builtin "object.__getattribute__")),some none,true,some (some (.builtin "object.__setattr__")),true):=by
 unfold iz
 exact List.forall_mem_cons.mpr ⟨Pb P,List.forall_mem_cons.mpr ⟨O9 P,List.forall_mem_cons.mpr ⟨Pc P,List.forall_mem_cons.mpr ⟨Pd P,List.forall_mem_cons.mpr ⟨Pa P,List.forall_mem_nil _⟩⟩⟩⟩⟩
theorem TE (P:Params):(findIn (KF P) (.ref 52) (k "copied"),typeIn (KF P) (.ref 42),bf[69]?)=(some (some (.ref 42)),some (.type "function"),some (k "copied")):=by kernel_rfl
theorem TF (P:Params):(findIn (KF P) (.ref 103) (k "clusters"),typeIn (KF P) (.ref 81),bf[66]?)=(some (some (.ref 81)),some (.type "function"),some (k "clusters")):=by kernel_rfl
theorem TG (P:Params):(findIn (KF P) (.ref 329) (k "class_of"),typeIn (KF P) (.ref 319),bf[63]?)=(some (some (.ref 319)),some (.type "function"),some (k "class_of")):=by kernel_rfl
theorem TH (P:Params):(findIn (KF P) (.ref 329) (k "wholes"),typeIn (KF P) (.ref 326),bf[258]?)=(some (some (.ref 326)),some (.type "function"),some (k "wholes")):=by kernel_rfl
theorem TI (P:Params):(findIn (KF P) (.ref 628) (k "glyph"),typeIn (KF P) (.ref 613),bf[92]?)=(some (some (.ref 613)),some (.type "function"),some (k "glyph")):=by kernel_rfl
theorem NP (P:Params):(bf[160]?,d7 P (k "len"),fi P (k "len"))=(some (k "len"),none,some (.builtin "len")):=by kernel_rfl
theorem NR (P:Params):(bf[177]?,d7 P (k "min"),fi P (k "min"))=(some (k "min"),none,some (.builtin "min")):=by kernel_rfl
theorem NV (P:Params):(bf[230]?,d7 P (k "sorted"),fi P (k "sorted"))=(some (k "sorted"),none,some (.builtin "sorted")):=by kernel_rfl
theorem NW (P:Params):(bf[250]?,d7 P (k "tuple"),fi P (k "tuple"))=(some (k "tuple"),none,some (.type "tuple")):=by kernel_rfl
theorem NY (P:Params):(bf[75]?,d7 P (k "dict"),fi P (k "dict"))=(some (k "dict"),none,some (.type "dict")):=by kernel_rfl
theorem NX (P:Params):(bf[49]?,d7 P (k "abs"),fi P (k "abs"))=(some (k "abs"),none,some (.builtin "abs")):=by kernel_rfl
theorem NO (P:Params):(bf[113]?,d7 P (k "int"),fi P (k "int"))=(some (k "int"),none,some (.type "int")):=by kernel_rfl
theorem NQ (P:Params):(bf[165]?,d7 P (k "list"),fi P (k "list"))=(some (k "list"),none,some (.type "list")):=by kernel_rfl
theorem NS (P:Params):(bf[208]?,d7 P (k "range"),fi P (k "range"))=(some (k "range"),none,some (.type "range")):=by kernel_rfl
theorem NU (P:Params):(bf[212]?,d7 P (k "reversed"),fi P (k "reversed"))=(some (k "reversed"),none,some (.type "reversed")):=by kernel_rfl
theorem NZ (P:Params):(bf[80]?,d7 P (k "enumerate"),fi P (k "enumerate"))=(some (k "enumerate"),none,some (.type "enumerate")):=by kernel_rfl
end
section
open PySem PySem.W PySem.Calls PyProof.Rows Mine.Hd
theorem Ks {κ α:Type} [BEq κ] [LawfulBEq κ]{i:κ}{a:α}:∀{l:List (κ×α)},l.lookup i=some a→(i,a)∈l
 | [],h=>by cases h
 | (j,b)::l,h=>by
  rw[List.lookup_cons]at h
  split at h
  ·rename_i q
   cases h
   rw[eq_of_beq q]
   exact List.mem_cons_self ..
  ·exact List.mem_cons_of_mem _ (Ks h)
theorem gm {α:Type}{i n:Nat}{a b:α}{o:Option α}{P:Prop}(h:(bif i==n then some a else o)=some b)(k:i=n→a=b→P)(k':o=some b→P):P:=by
 cases e:i==n with
 |true=>rw[e]at h;exact k (eq_of_beq e) (Option.some.inj h)
 |false=>rw[e]at h;exact k' h
theorem gj {α:Type}{P:Params}{i n:Nat}{q x:Str}(ht:bf[i]?=some x)(f:α→Value){a b:α}(bn:(bf[n]?,d7 P q,fi P q)=(some q,none,some (f a)))(e:i=n)(e':a=b):d7 P x=none∧fi P x=some (f b):=by
 subst e e'
 obtain⟨e1,e2⟩:=Prod.mk.inj bn
 cases Option.some.inj (ht.symm.trans e1)
 exact Prod.mk.inj e2
theorem AN {x:Str}{i:Nat}(h:aN x=some i):bf[i]?=some x:=gA h
theorem I0 {P:Params}{c C a:Nat}(h1:iz.lookup c=some C)(h2:T0.tb.fld c a=true):∃x attr,bf[a]?=some x∧findIn (KF P) (.ref C) x=some attr∧noGet (KF P) attr=true∧takerIn (KF P) C x=some none:=by
 obtain h:=List.all_eq_true.mp (P9 P) _ (hZ h1)
 simp only at h
 obtain h2:(match BL.lookup c with |some l=>l.contains a |none=>false)=true:=h2
 refine ah fun aa=>?_
 split at h
 ·rename_i q;rw[q]at h2;exact cz h2
 ·rename_i l q
  rw[q]at h2
  obtain h:=List.all_eq_true.mp h a (List.contains_iff_mem.mp h2)
  split at h
  ·cases h
  ·rename_i x hx
   rw[Bool.and_eq_true]at h
   obtain⟨h3,h4⟩:=h
   split at h3
   ·rename_i attr ha
    split at h4
    ·rename_i ht
     exact aa (⟨x,attr,hx,ha,h3,ht⟩)
    ·cases h4
   ·cases h3
section
variable {w:World}{h:Heap}(kp:∀b o,(H1 w.params).get? b=some o→h.get? b=some o)
include kp
theorem AU {a:Addr}{m:Str→Option Value}(x:(H1 w.params).Ns a m):h.Ns a m:=let⟨o,es,ep,ho,r⟩:=x;⟨o,es,ep,kp a o ho,r⟩
theorem XE:bW (Wl w h):=by
 refine⟨fun a e=>?_,(Frag.in_of (SQ w.params) (SR w.params)).keeps kp,⟨d7 w.params,fi w.params,AU kp (.of_isNs (KM _)),AU kp (.of_isNs (Uc _)),?_,?_,?_,?_⟩,?_,?_,?_,?_,?_,?_⟩
 ·cases q:a==sysModules with
  |false=>rfl
  |true=>
   obtain e1:(H1 w.params).get? sysModules=some (boot_o_1 w.params):=by kernel_rfl
   have:=kp _ _ e1
   rw[←eq_of_beq q]at this
   rw[show h.get? a=none from e]at this
   exact aK this
 ·intro i x av hi _ hg
  refine ah fun aa=>?_
  obtain⟨y,v,h1,h2,h3⟩:=Qu kp _ (hZ hg)
  rw[show bf[i]?=some x from AN hi]at h1
  refine aR h1 ?_
  clear h1
  rintro rfl
  exact aa (⟨v,h2,h3⟩)
 ·intro i x fv hi hf
  obtain hf:(iC.lookup i).map Value.ref=some fv:=hf
  refine ah fun aa=>?_
  obtain⟨a,h1,rfl⟩:=Option.map_eq_some_iff.mp hf
  have:=List.all_eq_true.mp (Qr w.params) _ (hZ h1)
  simp only at this
  rw[show bf[i]?=some x from AN hi]at this
  simp only at this
  split at this
  ·rename_i b hb
   refine aa ?_
   refine(hb).symm▸?_
   exact(eq_of_beq this).symm▸rfl
  ·exact cz this
 ·intro i x b hi hb
  obtain ht:=AN hi
  exact gm hb (gj ht gT (NP w.params)) fun hb=>gm hb (gj ht gT (NR w.params)) fun hb=>gm hb (gj ht gT (NV w.params)) fun hb=>gm hb (gj ht gT (NW w.params)) fun hb=>gm hb (gj ht gT (NY w.params)) fun hb=>gm hb (gj ht gT (NX w.params)) fun hb=>gm hb (gj ht gT (NO w.params)) fun hb=>aK hb
 ·intro i x b hi hb
  obtain ht:=AN hi
  exact gm hb (gj ht .type (NQ w.params)) fun hb=>gm hb (gj ht .type (NS w.params)) fun hb=>gm hb (gj ht .type (NU w.params)) fun hb=>gm hb (gj ht .type (NZ w.params)) fun hb=>aK hb
 ·intro c C hc
  have:=Io w.params _ (hZ (show iz.lookup c=some C from hc))
  simp only[Prod.mk.injEq]at this
  exact⟨this.1,this.2.1,this.2.2.1⟩
 ·intro c C a hc hf
  refine ah fun aa=>?_
  obtain⟨x,attr,h1,h2,h3,_⟩:=I0 (P:=w.params) hc hf
  exact aa (⟨x,attr,h1,h2,h3⟩)
 ·intro c C m f hc hm
  obtain hm:=Ks (show jU.lookup (c,m)=some f from hm)
  obtain hc:=hZ (show iz.lookup c=some C from hc)
  unfold jU at hm
  unfold iz at hc
  simp only[List.mem_cons,Prod.mk.injEq,List.not_mem_nil,or_false]at hm hc
  rcases hm with⟨⟨rfl,rfl⟩,rfl⟩ | ⟨⟨rfl,rfl⟩,rfl⟩ | ⟨⟨rfl,rfl⟩,rfl⟩ | ⟨⟨rfl,rfl⟩,rfl⟩ | ⟨⟨rfl,rfl⟩,rfl⟩<;>simp at hc<;>subst hc<;>refine⟨rfl,?_⟩
  ·have:=TE w.params;simp only[Prod.mk.injEq]at this;exact⟨_,_,this.2.2,this.1,this.2.1,rfl⟩
  ·have:=TF w.params;simp only[Prod.mk.injEq]at this;exact⟨_,_,this.2.2,this.1,this.2.1,rfl⟩
  ·have:=TG w.params;simp only[Prod.mk.injEq]at this;exact⟨_,_,this.2.2,this.1,this.2.1,rfl⟩
  ·have:=TH w.params;simp only[Prod.mk.injEq]at this;exact⟨_,_,this.2.2,this.1,this.2.1,rfl⟩
  ·have:=TI w.params;simp only[Prod.mk.injEq]at this;exact⟨_,_,this.2.2,this.1,this.2.1,rfl⟩
 ·intro f v hf
  obtain hf:(iC.lookup f).map Value.ref=some v:=hf
  obtain⟨a,h1,rfl⟩:=Option.map_eq_some_iff.mp hf
  exact List.all_eq_true.mp (SM w.params) _ (hZ h1)
 ·intro c C hc
  have:=Io w.params _ (hZ (show iz.lookup c=some C from hc))
  simp only[Prod.mk.injEq]at this
  exact⟨this.2.2.2.1,this.2.2.2.2⟩
 ·intro c C a x hc hf hx
  refine ah fun aa=>?_
  obtain⟨y,attr,h1,h2,h3,h4⟩:=I0 (P:=w.params) hc hf
  rw[hx]at h1
  refine aR h1 ?_
  clear h1
  rintro rfl
  exact aa h4
theorem XD:Bg (Wl w h):=by
 refine⟨⟨_,AU kp (.of_isNs (Ud _)),Ua _⟩,fun f fn hf=>Qg kp _ (hZ (show jH.lookup f=some fn from hf)),fun c ini hc=>?_⟩
 obtain hc:=hZ (show jA.lookup c=some ini from hc)
 unfold jA at hc
 simp only[List.mem_cons,Prod.mk.injEq,List.not_mem_nil,or_false]at hc
 rcases hc with⟨rfl,rfl⟩ | ⟨rfl,rfl⟩ | ⟨rfl,rfl⟩ | ⟨rfl,rfl⟩ | ⟨rfl,rfl⟩
 ·have:=TT w.params;simp only[Prod.mk.injEq]at this;exact⟨_,_,rfl,rfl,rfl,this.1,this.2.1,this.2.2⟩
 ·have:=TR w.params;simp only[Prod.mk.injEq]at this;exact⟨_,_,rfl,rfl,rfl,this.1,this.2.1,this.2.2⟩
 ·have:=TU w.params;simp only[Prod.mk.injEq]at this;exact⟨_,_,rfl,rfl,rfl,this.1,this.2.1,this.2.2⟩
 ·have:=TV w.params;simp only[Prod.mk.injEq]at this;exact⟨_,_,rfl,rfl,rfl,this.1,this.2.1,this.2.2⟩
 ·have:=TS w.params;simp only[Prod.mk.injEq]at this;exact⟨_,_,rfl,rfl,rfl,this.1,this.2.1,this.2.2⟩
end
end
section
open PySem PySem.W PySem.Calls PyProof.Rows Mine.Hd
noncomputable def Nf:Prop:=∀ns:List Int,ns.length≤63→∃σ',ao T0 20 156 [.ref 0] [.ext (ns.map .int)]=some (.bool true,σ')
theorem J5 {h:Heap}{θ:Th}:∀{vs:List Value} {ns:List Int},IntsAre vs ns→aC h θ (ns.map .int) vs
 |_,_,.nil=>trivial
 |_,_,.cons i t x=>⟨⟨_,rfl⟩,J5 x⟩
theorem O7:bp callerA 20:=⟨rfl,by decide,by decide⟩
theorem joined (pl:Nf):aV.Holds:=by
 refine PD (PE fun w s f l items ns kp hf hg hl hi hn=>?_)
 refine ah fun aa=>?_
 obtain⟨σ',e⟩:=pl ns hn
 obtain wo:=XE (w:=w) (h:=s.heap) kp
 obtain wf:=XD (w:=w) (h:=s.heap) kp
 have hR:aq (Wl w s.heap) [(l,l)] [.ext (ns.map .int)] s.heap:=by
  refine⟨fun _ _ e=>e,rfl,fun i o m hs hm=>?_,fun i o m hs hm hv=>?_,fun i j m n hm hn eG=>?_⟩
  ·refine ah fun aa=>?_
   cases i with
   |zero=>
    cases hs;refine aR hm ?_;clear hm;rintro rfl
    exact aa (⟨rfl,items,hl,J5 hi,by rw[List.length_map];lia⟩)
   |succ i=>simp at hs
  ·cases i with
   |zero=>cases hs;exact cz hv
   |succ i=>simp at hs
  ·cases i with
   |zero=>cases j with
    |zero=>exact absurd rfl eG
    |succ j=>simp at hn
   |succ i=>simp at hm
 obtain⟨fv,h1,h2⟩:=O8 wo wf 20 _ _ _ _ _ e
 obtain Rd:fv=.ref f:=by
  obtain⟨mg,hm,hq⟩:=hf
  obtain CH:=AU kp (.of_isNs (KM w.params))
  have:mg (k "law")=d7 w.params (k "law"):=by
   refine ah fun aa=>?_
   obtain⟨o,es,ep,q1,q2,_,q4⟩:=hm
   obtain⟨o',es',ep',r1,r2,_,r4⟩:=CH
   rw[q1]at r1
   refine aR r1 ?_
   clear r1
   rintro rfl
   rw[q2]at r2
   cases r2
   refine aa ?_
   rw[←q4,r4]
  rw[this]at hq
  have e2:((iC.lookup 156).map Value.ref)=some fv:=h1
  obtain e3:d7 w.params (k "law")=(iC.lookup 156).map Value.ref:=by kernel_rfl
  rw[e3,e2]at hq
  exact Option.some.inj hq
 subst Rd
 refine aa ?_
 refine h2 O7 hR ⟨⟨_,rfl,rfl⟩,trivial⟩ fun v θ' s' x R' hv=>?_
 exact⟨hv,R'.base,x.os,x.gens⟩
end
section
noncomputable def OK {α:Type}(o:Option (α×St))(Q:α→St→Prop):Prop:=match o with
 |some (a,s)=>Q a s
 |none=>False
noncomputable def OV {α:Type}(o:Option α)(Q:α→Prop):Prop:=match o with
 |some a=>Q a
 |none=>False
noncomputable def OF (o:Option (Fl×ag×St))(Q:Fl→ag→St→Prop):Prop:=match o with
 |some (f,r,s)=>Q f r s
 |none=>False
theorem Um {α:Type}{a:α}{s:St}{Q:α→St→Prop}:OK (some (a,s)) Q=Q a s:=rfl
theorem Ut {α:Type}{a:α}{Q:α→Prop}:OV (some a) Q=Q a:=rfl
theorem OK.elim {α:Type}{o:Option (α×St)}{Q:α→St→Prop}(h:OK o Q):∃a s,o=some (a,s)∧Q a s:=by
 cases o with
 |none=>exact False.elim h
 |some p=>exact⟨p.1,p.2,rfl,h⟩
theorem OK.mono {α:Type}{o:Option (α×St)}{Q Q':α→St→Prop}(h:OK o Q)(k:∀a s,Q a s→Q' a s):OK o Q':=by
 cases o with
 |none=>exact h
 |some p=>exact k _ _ h
theorem OF.mono {o:Option (Fl×ag×St)}{Q Q':Fl→ag→St→Prop}(h:OF o Q)(k:∀f r s,Q f r s→Q' f r s):OF o Q':=by
 cases o with
 |none=>exact h
 |some p=>exact k _ _ _ h
theorem px {α β:Type}{x:Option (α×St)}{f:α→St→Option (β×St)}{Q:β→St→Prop}:OK (aO x f) Q=OK x fun a s=>OK (f a s) Q:=by
 cases x<;>rfl
theorem w5 {α:Type}{x:Option (α×St)}{f:α→St→Option (Fl×ag×St)}{Q:Fl→ag→St→Prop}:OF (aO x f) Q=OK x fun a s=>OF (f a s) Q:=by
 cases x<;>rfl
theorem lq {α β:Type}{x:Option α}{f:α→β×St}{Q:β→St→Prop}:OK (x.map f) Q=OV x fun a=>Q (f a).1 (f a).2:=by
 cases x<;>rfl
noncomputable abbrev aP:Tb:=T0.tb
theorem Fr {α β:Type}{x:Option α}{f:α→Option (β×St)}{Q:β→St→Prop}:OK (x.bind f) Q=OV x fun a=>OK (f a) Q:=by
 cases x<;>rfl
theorem LT {α:Type}{x:Option α}{f:α→Option (Fl×ag×St)}{Q:Fl→ag→St→Prop}:OF (x.bind f) Q=OV x fun a=>OF (f a) Q:=by
 cases x<;>rfl
theorem Ui {β:Type}{t:Bool}{x y:Option (β×St)}{Q:β→St→Prop}:OK (bif t then x else y) Q=cond t (OK x Q) (OK y Q):=by
 cases t<;>rfl
theorem Uf {t:Bool}{x y:Option (Fl×ag×St)}{Q:Fl→ag→St→Prop}:OF (bif t then x else y) Q=cond t (OF x Q) (OF y Q):=by
 cases t<;>rfl
noncomputable def dA (cf:Cf)(ifs:List E)(elt:E)(ρ:ag)(σ:St):Option (Option AV×St):=aO (lU aP cf ifs ρ σ) fun b σ=>bif b then aO (ev aP cf elt ρ σ) fun x σ=>some (some x,σ)else some (none,σ)
noncomputable def WC (cf:Cf)(f:Nat)(xs:List AV)(σ:St)(Q:AV→St→Prop):Prop:=OK (cf f xs σ) Q
theorem aA {α:Type}{o:Option α}{v:α}{Q:α→Prop}(h:o=some v)(q:Q v):OV o Q:=by subst h;exact q
theorem aZ {α:Type}{o:Option (α×St)}{a:α}{s:St}{Q:α→St→Prop}(h:o=some (a,s))(q:Q a s):OK o Q:=by subst h;exact q
theorem XC {cf:Cf}{f:Nat}{xs:List AV}{σ:St}{Q:AV→St→Prop}{v:AV}{s:St}(h:cf f xs σ=some (v,s))(q:Q v s):WC cf f xs σ Q:=aZ h q
theorem bT {b:Bool}{A B:Prop}(h:b=true)(q:A):cond b A B:=by subst h;exact q
theorem bA {b:Bool}{A B:Prop}(h:b=false)(q:B):cond b A B:=by subst h;exact q
theorem IB {b:Bool}{A B:Prop}(h:b=false)(q:A):cond (!b) A B:=by subst h;exact q
theorem Ij {b:Bool}{A B:Prop}(h:b=true)(q:B):cond (!b) A B:=by subst h;exact q
mutual
noncomputable def WE (cf:Cf):E→ag→St→(AV→St→Prop)→Prop
 |.cn,_,σ,Q=>Q .none σ
 |.cb b,_,σ,Q=>Q (.bool b) σ
 |.ci i,_,σ,Q=>Q (.int i) σ
 |.cs s,_,σ,Q=>Q (.str s) σ
 |.v x,ρ,σ,Q=>OV (ρ x) fun v=>Q v σ
 |.g x,_,σ,Q=>OV (pY.lookup x) fun v=>Q v σ
 |.bin op a b,ρ,σ,Q=>WE cf a ρ σ fun x σ=>WE cf b ρ σ fun y σ=>OK (fR op x y σ) Q
 |.neg a,ρ,σ,Q=>WE cf a ρ σ fun x σ=>OV (bz x) fun i=>Q (.int (-i)) σ
 |.not a,ρ,σ,Q=>WE cf a ρ σ fun x σ=>OV (truthy σ x) fun b=>Q (.bool (!b)) σ
 |.and a b,ρ,σ,Q=>WE cf a ρ σ fun x σ=>OV (truthy σ x) fun t=>cond t (WE cf b ρ σ Q) (Q x σ)
 |.or a b,ρ,σ,Q=>WE cf a ρ σ fun x σ=>OV (truthy σ x) fun t=>cond t (Q x σ) (WE cf b ρ σ Q)
 |.cmp op a b,ρ,σ,Q=>WE cf a ρ σ fun x σ=>WE cf b ρ σ fun y σ=>OV (fA σ op x y) fun r=>Q (.bool r) σ
 |.chain o p a b c,ρ,σ,Q=>WE cf a ρ σ fun x σ=>WE cf b ρ σ fun y σ=>OV (fA σ o x y) fun t=>cond t (WE cf c ρ σ fun z σ=>OV (fA σ p y z) fun r=>Q (.bool r) σ) (Q (.bool false) σ)
 |.ife c a b,ρ,σ,Q=>WE cf c ρ σ fun x σ=>OV (truthy σ x) fun t=>cond t (WE cf a ρ σ Q) (WE cf b ρ σ Q)
 |.call f es,ρ,σ,Q=>WL cf es ρ σ fun xs σ=>WC cf f xs σ Q
 |.bi f es,ρ,σ,Q=>WL cf es ρ σ fun xs σ=>OK (dc f xs σ) Q
 |.meth m o es,ρ,σ,Q=>OK (ev aP cf (.meth m o es) ρ σ) Q
 |.attr o a,ρ,σ,Q=>WE cf o ρ σ fun x σ=>OV (BM σ x a) fun v=>Q v σ
 |.idx o i,ρ,σ,Q=>WE cf o ρ σ fun x σ=>WE cf i ρ σ fun y σ=>OV (eh σ x y) fun v=>Q v σ
 |.slc o a b,ρ,σ,Q=>WE cf o ρ σ fun x σ=>WE cf a ρ σ fun y σ=>WE cf b ρ σ fun z σ=>OK (lA σ x y z) Q
 |.lst es,ρ,σ,Q=>WL cf es ρ σ fun xs σ=>Q (.ref σ.length) (σ++[.list xs])
 |.tup es,ρ,σ,Q=>WL cf es ρ σ fun xs σ=>Q (.tup xs) σ
 |.dct es,ρ,σ,Q=>WL cf es ρ σ fun xs σ=>OV (xK xs) fun d=>Q (.ref σ.length) (σ++[.dict d])
 |.lcomp xs one k src ifs elt,ρ,σ,Q=>WL cf src ρ σ fun args σ=>OV (dz k args σ) fun p=>OK (ca p.2 xs one (dA cf ifs elt) ρ p.1 σ) fun l σ=>l.length<1000000∧Q (.ref σ.length) (σ++[.list l])
 |.dfilt y,ρ,σ,Q=>OK (ev aP cf (.dfilt y) ρ σ) Q
noncomputable def WL (cf:Cf):List E→ag→St→(List AV→St→Prop)→Prop
 | [],_,σ,Q=>Q [] σ
 |e::es,ρ,σ,Q=>WE cf e ρ σ fun x σ=>WL cf es ρ σ fun xs σ=>Q (x::xs) σ
end
section
variable {cf:Cf}{ρ:ag}{σ:St}{Q:AV→St→Prop}{QL:List AV→St→Prop}{QF:Fl→ag→St→Prop}
theorem M6 {x:Nat}:WE cf (.v x) ρ σ Q=(OV (ρ x) fun v=>Q v σ):=rfl
theorem cI {α β:Type}{x:Option (α×St)}{P:(α→St→Prop)→Prop}{f:α→St→Option (β×St)}{Q:β→St→Prop}{R:α→St→Prop}(h:∀Q,P Q=OK x Q)(k:∀a s,R a s=OK (f a s) Q):P R=OK (aO x f) Q:=by
 rw[h,px];exact congrArg (OK x) (funext fun a=>funext fun s=>k a s)
theorem Aq {β:Type}{o:Option Bool}{x y:Option (β×St)}{A B:Prop}{Q:β→St→Prop}(h:A=OK x Q)(k:B=OK y Q):(OV o fun t=>cond t A B)=OK (o.bind fun t=>bif t then x else y) Q:=by
 rw[Fr,h,k];exact congrArg (OV o) (funext fun t=>Ui.symm)
theorem Uj {l:List AV}{s:St}{Q:AV→St→Prop}:OK (gO (decide (l.length<1000000)) (alloc (.list l) s)) Q=(l.length<1000000∧Q (.ref s.length) (s++[.list l])):=by
 by_cases h:l.length<1000000
 ·rw[decide_eq_true h];exact propext ⟨fun q=>⟨h,q⟩,fun q=>q.2⟩
 ·rw[decide_eq_false h];exact propext ⟨fun q=>False.elim q,fun q=>False.elim (h q.1)⟩
mutual
theorem bQ:∀(e:E) (ρ:ag) (σ:St) (Q:AV→St→Prop),WE cf e ρ σ Q=OK (ev aP cf e ρ σ) Q
 |.cn,_,_,_=>rfl
 |.cb _,_,_,_=>rfl
 |.ci _,_,_,_=>rfl
 |.cs _,_,_,_=>rfl
 |.v x,ρ,σ,Q=>(lq (x:=ρ x) (f:=fun v=>(v,σ))).symm
 |.g x,ρ,σ,Q=>(lq (x:=pY.lookup x) (f:=fun v=>(v,σ))).symm
 |.bin op a b,ρ,σ,Q=>cI (P:=WE cf a ρ σ) (bQ a _ _) fun x s=>cI (P:=WE cf b ρ s) (bQ b _ _) fun _ _=>rfl
 |.neg a,ρ,σ,Q=>cI (P:=WE cf a ρ σ) (bQ a _ _) fun x s=>(lq (f:=fun i=>(AV.int (-i),s))).symm
 |.not a,ρ,σ,Q=>cI (P:=WE cf a ρ σ) (bQ a _ _) fun x s=>(lq (f:=fun b=>(AV.bool (!b),s))).symm
 |.and a b,ρ,σ,Q=>cI (P:=WE cf a ρ σ) (bQ a _ _) fun x s=>Aq (A:=WE cf b ρ s Q) (B:=Q x s) (bQ b _ _ _) rfl
 |.or a b,ρ,σ,Q=>cI (P:=WE cf a ρ σ) (bQ a _ _) fun x s=>Aq (A:=Q x s) (B:=WE cf b ρ s Q) rfl (bQ b _ _ _)
 |.cmp op a b,ρ,σ,Q=>cI (P:=WE cf a ρ σ) (bQ a _ _) fun x s=>cI (P:=WE cf b ρ s) (bQ b _ _) fun y s=>(lq (f:=fun r=>(AV.bool r,s))).symm
 |.chain o p a b c,ρ,σ,Q=>cI (P:=WE cf a ρ σ) (bQ a _ _) fun x s=>cI (P:=WE cf b ρ s) (bQ b _ _) fun y s=>Aq (cI (P:=WE cf c ρ s) (bQ c _ _) fun y s=>(lq (f:=fun r=>(AV.bool r,s))).symm) rfl
 |.ife c a b,ρ,σ,Q=>cI (P:=WE cf c ρ σ) (bQ c _ _) fun x s=>Aq (A:=WE cf a ρ s Q) (B:=WE cf b ρ s Q) (bQ a _ _ _) (bQ b _ _ _)
 |.call f es,ρ,σ,Q=>cI (P:=WL cf es ρ σ) (gb es _ _) fun _ _=>rfl
 |.bi f es,ρ,σ,Q=>cI (P:=WL cf es ρ σ) (gb es _ _) fun _ _=>rfl
 |.meth m o es,ρ,σ,Q=>rfl
 |.attr o a,ρ,σ,Q=>cI (P:=WE cf o ρ σ) (bQ o _ _) fun x s=>(lq (f:=fun v=>(v,s))).symm
 |.idx o i,ρ,σ,Q=>cI (P:=WE cf o ρ σ) (bQ o _ _) fun x s=>cI (P:=WE cf i ρ s) (bQ i _ _) fun y s=>(lq (f:=fun v=>(v,s))).symm
 |.slc o a b,ρ,σ,Q=>cI (P:=WE cf o ρ σ) (bQ o _ _) fun x s=>cI (P:=WE cf a ρ s) (bQ a _ _) fun y s=>cI (P:=WE cf b ρ s) (bQ b _ _) fun _ _=>rfl
 |.lst es,ρ,σ,Q=>cI (P:=WL cf es ρ σ) (gb es _ _) fun _ _=>rfl
 |.tup es,ρ,σ,Q=>cI (P:=WL cf es ρ σ) (gb es _ _) fun _ _=>rfl
 |.dct es,ρ,σ,Q=>cI (P:=WL cf es ρ σ) (gb es _ _) fun xs s=>(Fr (x:=xK xs) (f:=fun d=>alloc (.dict d) s)).symm
 |.lcomp xs one k src ifs elt,ρ,σ,Q=>cI (P:=WL cf src ρ σ) (gb src _ _) fun args s=>(congrArg (OV _) (funext fun p=>px.trans (congrArg (OK _) (funext fun l=>funext fun s=>Uj)) |>.symm)).trans Fr.symm
 |.dfilt y,ρ,σ,Q=>rfl
theorem gb:∀(e:List E) (ρ:ag) (σ:St) (Q:List AV→St→Prop),WL cf e ρ σ Q=OK (cP aP cf e ρ σ) Q
 | [],_,_,_=>rfl
 |e::es,ρ,σ,Q=>cI (P:=WE cf e ρ σ) (bQ e _ _) fun x s=>cI (P:=WL cf es ρ s) (gb es _ _) fun _ _=>rfl
end
theorem WE.elim {e:E}(h:WE cf e ρ σ Q):∃a s,ev aP cf e ρ σ=some (a,s)∧Q a s:=by
 rw[bQ]at h;exact OK.elim h
theorem pJ {m:Nat}{o:E}{es:List E}(h:WE cf o ρ σ fun x σ=>∃r ob,x=.ref r∧σ[r]?=some ob∧ml m ob=true∧WL cf es ρ σ fun xs σ=>OK (d6 m x xs σ) Q):WE cf (.meth m o es) ρ σ Q:=by
 rw[bQ]at h
 show OK (aO (ev aP cf o ρ σ) _) Q
 rw[px]
 refine OK.mono h fun x s k=>?_
 obtain⟨r,ob,rfl,e,k1,k2⟩:=k
 show OK (((s[r]?)).bind fun ob=>Option.elim (gQ ob) (gO (ml m ob) (aO (cP aP cf es ρ s) fun xs σ=>d6 m (.ref r) xs σ)) _) Q
 rw[e]
 cases ob with
 |inst c fs=>exact cz k1
 |list vs=>show OK (gO (ml m (.list vs)) _) Q;rw[k1];show OK (aO _ _) Q;rw[px,←gb];exact k2
 |dict vs=>show OK (gO (ml m (.dict vs)) _) Q;rw[k1];show OK (aO _ _) Q;rw[px,←gb];exact k2
 |ext vs=>exact cz k1
theorem F2 {m:Nat}{o:E}{es:List E}(h:WE cf o ρ σ fun x σ=>∃r c fs f,x=.ref r∧σ[r]?=some (.inst c fs)∧jU.lookup (c,m)=some f∧WL cf es ρ σ fun xs σ=>WC cf f (x::xs) σ Q):WE cf (.meth m o es) ρ σ Q:=by
 rw[bQ]at h
 show OK (aO (ev aP cf o ρ σ) _) Q
 rw[px]
 refine OK.mono h fun x s k=>?_
 obtain⟨r,c,fs,f,rfl,e,k1,k2⟩:=k
 show OK (((s[r]?)).bind fun ob=>Option.elim (gQ ob) _ fun p=>(jU.lookup (p.1,m)).bind fun f=>aO (cP aP cf es ρ s) fun xs σ=>cf f (.ref r::xs) σ) Q
 rw[e]
 show OK ((jU.lookup (c,m)).bind _) Q
 rw[k1]
 show OK (aO _ _) Q
 rw[px,←gb]
 exact k2
theorem xJ {gd:Option (Nat×ae)}{xs:List Nat}{one:Bool}{turn:ag→St→Option (Option AV×St)}{ρ:ag}{σ:St}{g:AV→Option AV}{vs:List AV}(hs:b8 gd σ=true):(∀v∈vs,∃ρ',ed xs one v ρ=some ρ'∧turn ρ' σ=some (g v,σ))→
  ca gd xs one turn ρ vs σ=some (vs.filterMap g,σ):=by
 induction vs with
 |nil=>intro _;show gO (b8 gd σ) _=_;rw[hs];rfl
 |cons v vs ih=>
  intro h
  obtain⟨ρ',h1,h2⟩:=h v (List.mem_cons_self ..)
  show gO (b8 gd σ) ((ed xs one v ρ).bind fun ρ'=>aO (turn ρ' σ) fun o σ=>aO (ca gd xs one turn ρ vs σ) fun l σ=>some (Fp o l,σ))=_
  rw[hs,h1]
  show aO (turn ρ' σ) _=_
  rw[h2]
  show aO (ca gd xs one turn ρ vs σ) _=_
  rw[ih fun u hu=>h u (List.mem_cons_of_mem _ hu),List.filterMap_cons]
  cases g v<;>rfl
end
mutual
noncomputable def WS (cf:Cf):S→ag→St→(Fl→ag→St→Prop)→Prop
 |.ret e,ρ,σ,Q=>WE cf e ρ σ fun v σ=>Q (.ret v) ρ σ
 |.expr e,ρ,σ,Q=>WE cf e ρ σ fun _ σ=>Q .next ρ σ
 |.asg t e,ρ,σ,Q=>match t with
  |.name x=>WE cf e ρ σ fun v σ=>Q .next (aF ρ x v) σ
  |t=>OF (ex aP cf (.asg t e) ρ σ) Q
 |.iff c a b,ρ,σ,Q=>WE cf c ρ σ fun x σ=>OV (truthy σ x) fun t=>cond t (WB cf a ρ σ Q) (WB cf b ρ σ Q)
 |.whl c b,ρ,σ,Q=>OF (pK (ev aP cf c) (fun ρ σ=>bJ aP cf b ρ σ) 100 ρ σ) Q
 |.for xs one k src b,ρ,σ,Q=>WL cf src ρ σ fun args σ=>OV (dz k args σ) fun p=>OF (dt p.2 xs one (fun ρ σ=>bJ aP cf b ρ σ) p.1 ρ σ) Q
 |.cont,ρ,σ,Q=>Q .cont ρ σ
 |.pass,ρ,σ,Q=>Q .next ρ σ
noncomputable def WB (cf:Cf):List S→ag→St→(Fl→ag→St→Prop)→Prop
 | [],ρ,σ,Q=>Q .next ρ σ
 |s::l,ρ,σ,Q=>WS cf s ρ σ fun f ρ σ=>match f with |.next=>WB cf l ρ σ Q |f=>Q f ρ σ
end
section
variable {cf:Cf}{ρ:ag}{σ:St}{Q:AV→St→Prop}{QL:List AV→St→Prop}{QF:Fl→ag→St→Prop}
theorem F1 {s:S}{l:List S}:WB cf (s::l) ρ σ QF=(WS cf s ρ σ fun f ρ σ=>match f with |.next=>WB cf l ρ σ QF |f=>QF f ρ σ):=rfl
theorem XK {x:Nat}{e:E}:WS cf (.asg (.name x) e) ρ σ QF=(WE cf e ρ σ fun v σ=>QF .next (aF ρ x v) σ):=rfl
noncomputable abbrev Kn (cf:Cf)(l:List S)(QF:Fl→ag→St→Prop):Fl→ag→St→Prop:=fun f ρ σ=>match f with |.next=>WB cf l ρ σ QF |f=>QF f ρ σ
noncomputable abbrev Kf (QF:Fl→ag→St→Prop)(J:ag→St→Prop):Fl→ag→St→Prop:=fun f ρ σ=>match f with |.ret r=>QF (.ret r) ρ σ |_=>J ρ σ
theorem Xw {x y:Nat}{v:AV}:aF ρ x v y=bif y==x then some v else ρ y:=rfl
theorem cV {s:S}{l:List S}(h:WS cf s ρ σ (Kn cf l QF)):WB cf (s::l) ρ σ QF:=h
theorem bS {x:Nat}{e:E}{l:List S}(h:WE cf e ρ σ fun v σ=>WB cf l (aF ρ x v) σ QF):WB cf (.asg (.name x) e::l) ρ σ QF:=h
theorem jj {e:E}{l:List S}(h:WE cf e ρ σ fun _ σ=>WB cf l ρ σ QF):WB cf (.expr e::l) ρ σ QF:=h
theorem eK {e:E}{l:List S}(h:WE cf e ρ σ fun v σ=>QF (.ret v) ρ σ):WB cf (.ret e::l) ρ σ QF:=h
theorem io {c:E}{a b:List S}{l:List S}(h:WE cf c ρ σ fun x σ=>OV (truthy σ x) fun t=>cond t (WB cf a ρ σ (Kn cf l QF)) (WB cf b ρ σ (Kn cf l QF))):WB cf (.iff c a b::l) ρ σ QF:=h
theorem gK {xs:List Nat}{one:Bool}{k:dB}{src:List E}{b l:List S}(h:WL cf src ρ σ fun args σ=>OV (dz k args σ) fun p=>OF (dt p.2 xs one (fun ρ σ=>bJ aP cf b ρ σ) p.1 ρ σ) (Kn cf l QF)):WB cf (.for xs one k src b::l) ρ σ QF:=h
theorem pI {c:E}{b l:List S}(h:OF (pK (ev aP cf c) (fun ρ σ=>bJ aP cf b ρ σ) 100 ρ σ) (Kn cf l QF)):WB cf (.whl c b::l) ρ σ QF:=h
theorem XB {l:List S}(h:QF .cont ρ σ):WB cf (.cont::l) ρ σ QF:=h
theorem bt {l:List S}(h:WB cf l ρ σ QF):WB cf [] ρ σ (Kn cf l QF):=h
theorem tD {J:ag→St→Prop}(h:J ρ σ):WB cf [] ρ σ (Kf QF J):=h
theorem tE (h:QF .next ρ σ):WB cf [] ρ σ QF:=h
theorem M7 {s:Nat}(h:(Q (.str s) σ)):WE cf (.cs s) ρ σ Q:=h
theorem pM {op:gc}{a b:E}(h:(WE cf a ρ σ fun x σ=>WE cf b ρ σ fun y σ=>OK (fR op x y σ) Q)):WE cf (.bin op a b) ρ σ Q:=h
theorem F3 {a b:E}(h:(WE cf a ρ σ fun x σ=>OV (truthy σ x) fun t=>cond t (WE cf b ρ σ Q) (Q x σ))):WE cf (.and a b) ρ σ Q:=h
theorem M9 {a b:E}(h:(WE cf a ρ σ fun x σ=>OV (truthy σ x) fun t=>cond t (Q x σ) (WE cf b ρ σ Q))):WE cf (.or a b) ρ σ Q:=h
theorem iq {op:jq}{a b:E}(h:(WE cf a ρ σ fun x σ=>WE cf b ρ σ fun y σ=>OV (fA σ op x y) fun r=>Q (.bool r) σ)):WE cf (.cmp op a b) ρ σ Q:=h
theorem AZ {c a b:E}(h:(WE cf c ρ σ fun x σ=>OV (truthy σ x) fun t=>cond t (WE cf a ρ σ Q) (WE cf b ρ σ Q))):WE cf (.ife c a b) ρ σ Q:=h
theorem bG {f:Nat}{es:List E}(h:(WL cf es ρ σ fun xs σ=>WC cf f xs σ Q)):WE cf (.call f es) ρ σ Q:=h
theorem lG {f:BI}{es:List E}(h:(WL cf es ρ σ fun xs σ=>OK (dc f xs σ) Q)):WE cf (.bi f es) ρ σ Q:=h
theorem M8 {o i:E}(h:(WE cf o ρ σ fun x σ=>WE cf i ρ σ fun y σ=>OV (eh σ x y) fun v=>Q v σ)):WE cf (.idx o i) ρ σ Q:=h
theorem jm {o a b:E}(h:(WE cf o ρ σ fun x σ=>WE cf a ρ σ fun y σ=>WE cf b ρ σ fun z σ=>OK (lA σ x y z) Q)):WE cf (.slc o a b) ρ σ Q:=h
theorem c9 {es:List E}(h:(WL cf es ρ σ fun xs σ=>Q (.ref σ.length) (σ++[.list xs]))):WE cf (.lst es) ρ σ Q:=h
theorem F4 {es:List E}(h:(WL cf es ρ σ fun xs σ=>Q (.tup xs) σ)):WE cf (.tup es) ρ σ Q:=h
theorem gN {es:List E}(h:(WL cf es ρ σ fun xs σ=>OV (xK xs) fun d=>Q (.ref σ.length) (σ++[.dict d]))):WE cf (.dct es) ρ σ Q:=h
theorem cO {xs:List Nat}{one:Bool}{k:dB}{src ifs:List E}{elt:E}(h:(WL cf src ρ σ fun args σ=>OV (dz k args σ) fun p=>OK (ca p.2 xs one (dA cf ifs elt) ρ p.1 σ) fun l σ=>l.length<1000000∧Q (.ref σ.length) (σ++[.list l]))):WE cf (.lcomp xs one k src ifs elt) ρ σ Q:=h
theorem a8 (h:QL [] σ):WL cf [] ρ σ QL:=h
theorem bu {e:E}{es:List E}(h:(WE cf e ρ σ fun x σ=>WL cf es ρ σ fun xs σ=>QL (x::xs) σ)):WL cf (e::es) ρ σ QL:=h
theorem w6 {α:Type}{x:Option (α×St)}{P:(α→St→Prop)→Prop}{f:α→St→Option (Fl×ag×St)}{Q:Fl→ag→St→Prop}{R:α→St→Prop}(h:∀Q,P Q=OK x Q)(k:∀a s,R a s=OF (f a s) Q):P R=OF (aO x f) Q:=by
 rw[h,w5];exact congrArg (OK x) (funext fun a=>funext fun s=>k a s)
theorem Ug {o:Option Bool}{x y:Option (Fl×ag×St)}{A B:Prop}{Q:Fl→ag→St→Prop}(h:A=OF x Q)(k:B=OF y Q):(OV o fun t=>cond t A B)=OF (o.bind fun t=>bif t then x else y) Q:=by
 rw[LT,h,k];exact congrArg (OV o) (funext fun t=>Uf.symm)
mutual
theorem XL:∀(s:S) (ρ:ag) (σ:St) (Q:Fl→ag→St→Prop),WS cf s ρ σ Q=OF (ex aP cf s ρ σ) Q
 |.ret e,ρ,σ,Q=>w6 (P:=WE cf e ρ σ) (bQ e _ _) fun _ _=>rfl
 |.expr e,ρ,σ,Q=>w6 (P:=WE cf e ρ σ) (bQ e _ _) fun _ _=>rfl
 |.asg (.name x) e,ρ,σ,Q=>w6 (P:=WE cf e ρ σ) (bQ e _ _) fun _ _=>rfl
 |.asg (.names x) e,ρ,σ,Q=>rfl
 |.asg (.attr x a) e,ρ,σ,Q=>rfl
 |.asg (.idx x a) e,ρ,σ,Q=>rfl
 |.iff c a b,ρ,σ,Q=>w6 (P:=WE cf c ρ σ) (bQ c _ _) fun x s=>Ug (A:=WB cf a ρ s Q) (B:=WB cf b ρ s Q) (ip a _ _ _) (ip b _ _ _)
 |.whl c b,ρ,σ,Q=>rfl
 |.for xs one k src b,ρ,σ,Q=>w6 (P:=WL cf src ρ σ) (gb src _ _) fun args s=>LT.symm
 |.cont,ρ,σ,Q=>rfl
 |.pass,ρ,σ,Q=>rfl
theorem ip:∀(s:List S) (ρ:ag) (σ:St) (Q:Fl→ag→St→Prop),WB cf s ρ σ Q=OF (bJ aP cf s ρ σ) Q
 | [],ρ,σ,Q=>rfl
 |s::l,ρ,σ,Q=>by
  show WS cf s ρ σ (fun f ρ σ=>match f with |.next=>WB cf l ρ σ Q |f=>Q f ρ σ)=OF (FF (ex aP cf s ρ σ) fun ρ σ=>bJ aP cf l ρ σ) Q
  rw[XL s]
  cases ex aP cf s ρ σ with
  |none=>rfl
  |some p=>obtain⟨f,r,t⟩:=p;cases f<;>first |exact ip l _ _ _ |rfl
end
theorem tJ {x y:Nat}{e:E}(h:WE cf e ρ σ fun v σ=>∃a b,v=.tup [a,b]∧QF .next (aF (aF ρ x a) y b) σ):WS cf (.asg (.names [x,y]) e) ρ σ QF:=by
 rw[bQ]at h
 show OF (aO (ev aP cf e ρ σ) _) QF
 rw[w5]
 refine OK.mono h fun v s k=>?_
 obtain⟨a,b,rfl,k⟩:=k
 exact k
theorem tI {o e:E}{a:Nat}(h:WE cf e ρ σ fun v σ=>WE cf o ρ σ fun x σ=>∃r c fs,x=.ref r∧σ[r]?=some (.inst c fs)∧aP.fld c a=true∧fs.length<900∧QF .next ρ (σ.set r (.inst c (eW fs a v)))):WS cf (.asg (.attr o a) e) ρ σ QF:=by
 rw[bQ]at h
 show OF (aO (ev aP cf e ρ σ) _) QF
 rw[w5]
 refine OK.mono h fun v s k=>?_
 rw[bQ]at k
 obtain⟨x,s',e1,r,c,fs,rfl,e2,e3,e4,k⟩:=OK.elim k
 show OF (Option.map _ (aO (ev aP cf o ρ s) _)) QF
 rw[e1]
 show OF (Option.map _ ((s'[r]?).bind fun ob=>(gQ ob).bind fun p=>gO (aP.fld p.1 a&&decide (p.2.length<900)) (some (ρ,s'.set r (.inst p.1 (eW p.2 a v)))))) QF
 rw[e2]
 show OF (Option.map _ (gO (aP.fld c a&&decide (fs.length<900)) _)) QF
 rw[e3,decide_eq_true e4]
 exact k
theorem F8 {o i e:E}(h:WE cf e ρ σ fun v σ=>WE cf o ρ σ fun x σ=>WE cf i ρ σ fun y σ=>OV (ie σ x y v) fun σ=>QF .next ρ σ):WS cf (.asg (.idx o i) e) ρ σ QF:=by
 rw[bQ]at h
 show OF (aO (ev aP cf e ρ σ) _) QF
 rw[w5]
 refine OK.mono h fun v s k=>?_
 rw[bQ]at k
 obtain⟨x,s',e1,k⟩:=OK.elim k
 rw[bQ]at k
 obtain⟨y,s'',e2,k⟩:=OK.elim k
 show OF (Option.map _ (aO (ev aP cf o ρ s) _)) QF
 rw[e1]
 show OF (Option.map _ (aO (ev aP cf i ρ s') _)) QF
 rw[e2]
 show OF (Option.map _ (Option.map _ (ie s'' x y v))) QF
 cases hh:ie s'' x y v with
 |none=>rw[hh]at k;exact k.elim
 |some t=>rw[hh]at k;exact k
theorem xR {gd:Option (Nat×ae)}{xs:List Nat}{one:Bool}{b:List S}(I:List AV→ag→St→Prop)
  (step:∀v vs ρ σ,I (v::vs) ρ σ→b8 gd σ=true∧∃ρ',ed xs one v ρ=some ρ'∧WB cf b ρ' σ (Kf QF (I vs)))
  (stop:∀ρ σ,I [] ρ σ→b8 gd σ=true∧QF .next ρ σ){vs:List AV}:∀{ρ:ag} {σ:St},I vs ρ σ→OF (dt gd xs one (fun ρ σ=>bJ aP cf b ρ σ) vs ρ σ) QF:=by
 induction vs with
 |nil=>
  intro ρ σ h
  obtain⟨a,q⟩:=stop ρ σ h
  show OF (gO (b8 gd σ) _) QF
  rw[a];exact q
 |cons v vs ih=>
  intro ρ σ h
  obtain⟨a,ρ',e,q⟩:=step v vs ρ σ h
  show OF (gO (b8 gd σ) ((ed xs one v ρ).bind fun ρ'=>jT (bJ aP cf b ρ' σ) fun ρ σ=>dt gd xs one (fun ρ σ=>bJ aP cf b ρ σ) vs ρ σ)) QF
  rw[a,e]
  rw[ip]at q
  show OF (jT (bJ aP cf b ρ' σ) _) QF
  cases hx:bJ aP cf b ρ' σ with
  |none=>rw[hx]at q;exact q.elim
  |some p=>
   rw[hx]at q
   obtain⟨f,r,s⟩:=p
   cases f with
   |next=>exact ih q
   |cont=>exact ih q
   |ret v=>exact q
theorem pL {c:E}{b:List S}(I:Nat→ag→St→Prop)
  (step:∀n ρ σ,I n ρ σ→WE cf c ρ σ fun x σ=>OV (truthy σ x) fun t=>cond t (∃m,n=m+1∧WB cf b ρ σ (Kf QF (I m))) (QF .next ρ σ)):
  ∀{k n:Nat} {ρ:ag} {σ:St},I n ρ σ→n<k→OF (pK (ev aP cf c) (fun ρ σ=>bJ aP cf b ρ σ) k ρ σ) QF:=by
 intro k
 induction k with
 |zero=>exact fun _ h=>absurd h (Nat.not_lt_zero _)
 |succ k ih=>
  intro n ρ σ h hk
  have st:=step n ρ σ h
  rw[bQ]at st
  show OF (aO (ev aP cf c ρ σ) _) QF
  rw[w5]
  refine OK.mono st fun x s q=>?_
  show OF ((truthy s x).bind _) QF
  cases ht:truthy s x with
  |none=>rw[ht]at q;exact q.elim
  |some t=>
   rw[ht]at q
   cases t with
   |false=>exact q
   |true=>
    obtain⟨m,rfl,q⟩:∃m,n=m+1∧_:=q
    rw[ip]at q
    show OF (jT (bJ aP cf b ρ s) _) QF
    cases hx:bJ aP cf b ρ s with
    |none=>rw[hx]at q;exact q.elim
    |some p=>
     rw[hx]at q
     obtain⟨f,r,s'⟩:=p
     cases f with
     |next=>exact ih q (Nat.lt_of_succ_lt_succ hk)
     |cont=>exact ih q (Nat.lt_of_succ_lt_succ hk)
     |ret v=>exact q
theorem AX {a b:List S}:WB cf (a++b) ρ σ QF=WB cf a ρ σ fun f ρ σ=>match f with |.next=>WB cf b ρ σ QF |f=>QF f ρ σ:=by
 induction a generalizing ρ σ with
 |nil=>rfl
 |cons s a ih=>
  rw[List.cons_append,F1,F1]
  congr;funext f r t
  cases f<;>first |exact ih |rfl
end
theorem WC.mono {cf:Cf}{f:Nat}{xs:List AV}{σ:St}{Q Q':AV→St→Prop}(h:WC cf f xs σ Q)(k:∀a s,Q a s→Q' a s):WC cf f xs σ Q':=OK.mono h k
theorem WB.mono {cf:Cf}{b:List S}{ρ:ag}{σ:St}{Q Q':Fl→ag→St→Prop}(h:WB cf b ρ σ Q)(k:∀f r s,Q f r s→Q' f r s):WB cf b ρ σ Q':=by
 rw[ip]at*;exact OF.mono h k
end
structure Cx where
 cf:Cf
 ρ:ag
 σ:St
structure Ev (c:Cx)(e:E)(v:AV):Prop where
 h:ev aP c.cf e c.ρ c.σ=some (v,c.σ)
structure El (c:Cx)(es:List E)(vs:List AV):Prop where
 h:cP aP c.cf es c.ρ c.σ=some (vs,c.σ)
section
variable {c:Cx}{a b o e i:E}{es:List E}{x y v w z:AV}{vs:List AV}{t u:Bool}{r k m n f:Nat}{fs:List (Nat×AV)}{ob:ae}
theorem bN {α β γ:Type}{x:Option (α×γ)}{a:α}{s:γ}{f:α→γ→Option β}(h:x=some (a,s)):aO x f=f a s:=by subst h;rfl
theorem qw {α β:Type}{x:Option α}{a:α}{f:α→β}(h:x=some a):x.map f=some (f a):=by subst h;rfl
theorem ew:Ev c .cn .none:=⟨rfl⟩
theorem gV:Ev c (.cb t) (.bool t):=⟨rfl⟩
theorem ar {j:Int}:Ev c (.ci j) (.int j):=⟨rfl⟩
theorem aT:Ev c (.cs n) (.str n):=⟨rfl⟩
theorem ab (h:c.ρ n=some v):Ev c (.v n) v:=⟨qw h⟩
theorem dq (h:pY.lookup n=some v):Ev c (.g n) v:=⟨qw h⟩
theorem bI {op:gc}(h:Ev c a x)(h1:Ev c b y)(h2:fR op x y c.σ=some (z,c.σ)):Ev c (.bin op a b) z:=⟨(bN h.h).trans ((bN h1.h).trans h2)⟩
theorem gW {j:Int}(h:Ev c a (.int j)):Ev c (.neg a) (.int (-j)):=⟨bN h.h⟩
theorem gp (h:Ev c a x)(h1:truthy c.σ x=some t):Ev c (.not a) (.bool (!t)):=⟨(bN h.h).trans (qw h1)⟩
theorem ay {op:jq}(h:Ev c a x)(h1:Ev c b y)(h2:fA c.σ op x y=some t):Ev c (.cmp op a b) (.bool t):=⟨(bN h.h).trans ((bN h1.h).trans (qw h2))⟩
theorem b0 (h:Ev c a x)(h1:truthy c.σ x=some t)(h2:cond t (Ev c b v) (x=v)):Ev c (.and a b) v:=⟨by
 refine(bN h.h).trans ?_;rw[h1];cases t
 ·cases h2;rfl
 ·exact h2.h⟩
theorem jD (h:Ev c a x)(h1:truthy c.σ x=some t)(h2:cond t (x=v) (Ev c b v)):Ev c (.or a b) v:=⟨by
 refine(bN h.h).trans ?_;rw[h1];cases t
 ·exact h2.h
 ·cases h2;rfl⟩
theorem pX {op p:jq}(h:Ev c a x)(h1:Ev c b y)(h2:fA c.σ op x y=some t)(h3:cond t (Ev c (.cmp p b o) v) (.bool false=v)):Ev c (.chain op p a b o) v:=⟨by
 refine(bN h.h).trans ((bN h1.h).trans ?_);rw[h2];cases t
 ·cases h3;rfl
 ·exact(bN h1.h).symm.trans h3.h⟩
theorem ey (h:Ev c o x)(h1:truthy c.σ x=some t)(h2:cond t (Ev c a y) (Ev c b y)):Ev c (.ife o a b) y:=⟨by
 refine(bN h.h).trans ?_;rw[h1];cases t<;>exact h2.h⟩
structure Ca (c:Cx)(f:Nat)(vs:List AV)(v:AV):Prop where
 h:c.cf f vs c.σ=some (v,c.σ)
theorem bR (h:El c es vs)(h1:Ca c f vs v):Ev c (.call f es) v:=⟨(bN h.h).trans h1.h⟩
theorem cZ {q:BI}(h:El c es vs)(h1:dc q vs c.σ=some (v,c.σ)):Ev c (.bi q es) v:=⟨(bN h.h).trans h1⟩
theorem aM (h:Ev c o (.ref r))(h1:c.σ[r]?=some (.inst k fs))(h2:ef fs n=some v):Ev c (.attr o n) v:=⟨(bN h.h).trans (qw (by show(c.σ[r]?).bind _=_;rw[h1];exact h2))⟩
theorem aQ (h:Ev c o x)(h1:Ev c i y)(h2:eh c.σ x y=some v):Ev c (.idx o i) v:=⟨(bN h.h).trans ((bN h1.h).trans (qw h2))⟩
theorem cG (h:El c es vs):Ev c (.tup es) (.tup vs):=⟨bN h.h⟩
theorem ak:El c [] []:=⟨rfl⟩
theorem ac (h:Ev c e x)(h1:El c es vs):El c (e::es) (x::vs):=⟨(bN h.h).trans (bN h1.h)⟩
theorem aJ {cf:Cf}{ρ:ag}{σ:St}{Q:AV→St→Prop}(h:Ev ⟨cf,ρ,σ⟩ e v)(q:Q v σ):WE cf e ρ σ Q:=(bQ e ρ σ Q).symm▸aZ h.h q
theorem aL {cf:Cf}{ρ:ag}{σ:St}{Q:List AV→St→Prop}(h:El ⟨cf,ρ,σ⟩ es vs)(q:Q vs σ):WL cf es ρ σ Q:=(gb es ρ σ Q).symm▸aZ h.h q
inductive MC (c:Cx)(m r:Nat)(es:List E)(v:AV):ae→Prop
 |i {k f:Nat} {fs:List (Nat×AV)} {vs:List AV} (h2:jU.lookup (k,m)=some f) (h3:El c es vs) (h4:Ca c f (.ref r::vs) v):MC c m r es v (.inst k fs)
 |b {ob:ae} {vs:List AV} (h2:ml m ob=true) (h3:El c es vs) (h4:d6 m (.ref r) vs c.σ=some (v,c.σ)):MC c m r es v ob
theorem gn (h:Ev c o (.ref r))(h1:c.σ[r]?=some ob)(h2:MC c m r es v ob):Ev c (.meth m o es) v:=by
 have:WE c.cf (.meth m o es) c.ρ c.σ fun w s=>w=v∧s=c.σ:=by
  cases h2 with
  |i h2 h3 h4=>exact F2 (aJ h ⟨_,_,_,_,rfl,h1,h2,aL h3 (XC h4.h ⟨rfl,rfl⟩)⟩)
  |b h2 h3 h4=>exact pJ (aJ h ⟨_,_,rfl,h1,h2,aL h3 (aZ h4 ⟨rfl,rfl⟩)⟩)
 obtain⟨_,_,e,rfl,rfl⟩:=WE.elim this
 exact⟨e⟩
end
section
variable {ρ:ag}{σ σ':St}{cf:Cf}{QF:Fl→ag→St→Prop}{l:List S}{a b o e i:E}{es:List E}{x y v:AV}{vs:List AV}{r k m n f:Nat}{fs:List (Nat×AV)}{ob:ae}{A B:List S}
theorem ba (h:Ev ⟨cf,ρ,σ⟩ e v)(q:WB cf l (aF ρ n v) σ QF):WB cf (.asg (.name n) e::l) ρ σ QF:=aJ h q
theorem a6 (h:Ev ⟨cf,ρ,σ⟩ e v)(q:QF (.ret v) ρ σ):WB cf (.ret e::l) ρ σ QF:=aJ h q
theorem aW {t:Bool}(h:Ev ⟨cf,ρ,σ⟩ e x)(h1:truthy σ x=some t)(q:cond t (WB cf A ρ σ (Kn cf l QF)) (WB cf B ρ σ (Kn cf l QF))):WB cf (.iff e A B::l) ρ σ QF:=aJ h (aA h1 q)
theorem Bp (h:El ⟨cf,ρ,σ⟩ es vs)(q:WC cf f vs σ fun v σ=>WB cf l (aF ρ n v) σ QF):WB cf (.asg (.name n) (.call f es)::l) ρ σ QF:=aL h q
theorem pR (h:El ⟨cf,ρ,σ⟩ es vs)(q:WC cf f vs σ fun _ σ=>WB cf l ρ σ QF):WB cf (.expr (.call f es)::l) ρ σ QF:=aL h q
theorem fb {xs:List Nat}{one:Bool}{kk:dB}{gd:Option (Nat×ae)}{us:List AV}(h:El ⟨cf,ρ,σ⟩ es vs)(h1:dz kk vs σ=some (us,gd))(q:OF (dt gd xs one (fun ρ σ=>bJ aP cf A ρ σ) us ρ σ) (Kn cf l QF)):WB cf (.for xs one kk es A::l) ρ σ QF:=aL h (aA h1 q)
theorem gR (h:Ev ⟨cf,ρ,σ⟩ e v)(h1:Ev ⟨cf,ρ,σ⟩ o (.ref r))(h2:σ[r]?=some (.inst k fs))(h3:aP.fld k n=true)(h4:Nat.ble (fs.length+1) 900=true)(q:WB cf l ρ (σ.set r (.inst k (eW fs n v))) QF):WB cf (.asg (.attr o n) e::l) ρ σ QF:=
 cV (tI (aJ h (aJ h1 ⟨_,_,_,rfl,h2,h3,Nat.le_of_ble_eq_true h4,q⟩)))
theorem iy (h:Ev ⟨cf,ρ,σ⟩ e v)(h1:Ev ⟨cf,ρ,σ⟩ o x)(h2:Ev ⟨cf,ρ,σ⟩ i y)(h3:ie σ x y v=some σ')(q:WB cf l ρ σ' QF):WB cf (.asg (.idx o i) e::l) ρ σ QF:=
 cV (F8 (aJ h (aJ h1 (aJ h2 (aA h3 q)))))
theorem lS (h:Ev ⟨cf,ρ,σ⟩ o (.ref r))(h1:σ[r]?=some ob)(h2:ml m ob=true)(h3:El ⟨cf,ρ,σ⟩ es vs)(h4:d6 m (.ref r) vs σ=some (v,σ'))(q:WB cf l ρ σ' QF):WB cf (.expr (.meth m o es)::l) ρ σ QF:=
 jj (pJ (aJ h ⟨_,_,rfl,h1,h2,aL h3 (aZ h4 q)⟩))
theorem HG (h:Ev ⟨cf,ρ,σ⟩ o (.ref r))(h1:σ[r]?=some (.inst k fs))(h2:jU.lookup (k,m)=some f)(h3:El ⟨cf,ρ,σ⟩ es vs)(q:WC cf f (.ref r::vs) σ fun v σ=>WB cf l (aF ρ n v) σ QF):WB cf (.asg (.name n) (.meth m o es)::l) ρ σ QF:=
 bS (F2 (aJ h ⟨_,_,_,_,rfl,h1,h2,aL h3 q⟩))
noncomputable def dk (σ:St)(Q:AV→St→Prop)(fl:Fl)(_:ag)(σ':St):Prop:=match fl with
 |.ret v=>Q (bF σ (v,σ')).1 (bF σ (v,σ')).2
 |.next=>Q (bF σ (.none,σ')).1 (bF σ (.none,σ')).2
 |.cont=>False
theorem bM {d:Nat}{as:List AV}{Q:AV→St→Prop}{ps:List Nat}{ds:List AV}(h1:jA.lookup f=none)(h2:jH.lookup f=some ⟨ps,ds,A⟩)(h3:as.length=ps.length)(h:WB (ao T0 d) A (cX ps as) σ (dk σ Q)):WC (ao T0 (d+1)) f as σ Q:=by
 unfold WC ao
 have e1:T0.cls f=none:=h1
 have e2:T0.fns f=some ⟨ps,ds,A⟩:=h2
 rw[ip]at h
 obtain e3:T0.tb=aP:=rfl
 simp only[e1,e2,h3,Nat.le_refl,Nat.le_add_right,and_self,if_true,Nat.add_sub_cancel,List.drop_length,List.append_nil,e3]
 cases hx:bJ aP (ao T0 d) A (cX ps as) σ with
 |none=>rw[hx]at h;exact False.elim h
 |some p=>
  rw[hx]at h
  obtain⟨fl,r,s⟩:=p
  cases fl<;>first |exact h |exact False.elim h
theorem jI {kvs:List (AV×AV)}{w d:AV}(h:σ[r]?=some (.dict kvs))(ko:cR kvs w=true)(e:(bc kvs w).getD d=v):d6 91 (.ref r) [w,d] σ=some (v,σ):=by
 rw[uP,h]
 show gO (cR kvs w) (some ((bc kvs w).getD d,σ))=_
 rw[ko,e];rfl
theorem gk {l:List (AV×AV)}{a c x y:Int}(h:(bc l (.int c)).getD (.int 0)=.int y):(bc ((.int a,.int x)::l) (.int c)).getD (.int 0)=.int (if c=a then x else y):=by
 show(if(a==c)=true then some (AV.int x)else bc l (.int c)).getD (.int 0)=_
 by_cases q:c=a
 ·rw[if_pos q,if_pos (by rw[q];exact beq_self_eq_true a)];rfl
 ·rw[if_neg q,if_neg fun e=>q (eq_of_beq e).symm];exact h
theorem DI {k n:Nat}(h:k<n):dK (k:Int) n=some k:=by
 unfold dK
 rw[if_pos (Int.natCast_nonneg k),if_pos (Int.ofNat_lt.mpr h)];rfl
theorem c7 {us:List AV}{k:Nat}(h:σ[r]?=some (.list us))(e:us[k]?=some v):eh σ (.ref r) (.int (k:Int))=some v:=by
 rw[yr,h]
 show(dK k us.length).bind _=_
 rw[DI (List.getElem?_eq_some_iff.mp e).1];exact e
theorem gC {us:List AV}{n:Nat}(h:σ[r]?=some (.list us))(e:us.length=n):dc .len [.ref r] σ=some (.int n,σ):=by
 rw[HL,h,←e];rfl
theorem cx {us:List AV}(h:σ[r]?=some (.list us)):dz .seq [.ref r] σ=some (us,some (r,.list us)):=by
 rw[MM,h];rfl
theorem lC {n:Nat}(h:n≤1000000):dz .range [.int (n:Int)] σ=some (di 0 n,none):=by
 show gO (d9 0&&d9 n) _=_
 rw[show d9 (n:Int)=true from decide_eq_true h];rfl
theorem b9 {l:St}{k:Nat}{o:ae}(e:l[k]?=some o):(σ++l)[σ.length+k]?=some o:=by
 rw[List.getElem?_append_right (Nat.le_add_right ..),Nat.add_sub_cancel_left];exact e
theorem jh {l:St}{k:Nat}{o:ae}:(σ++l).set (σ.length+k) o=σ++l.set k o:=by
 rw[List.set_append_right _ _ (Nat.le_add_right ..),Nat.add_sub_cancel_left]
theorem pS (h:El ⟨cf,ρ,σ⟩ es vs)(q:WB cf l (aF ρ n (.ref σ.length)) (σ++[.list vs]) QF):WB cf (.asg (.name n) (.lst es)::l) ρ σ QF:=aL h q
theorem push {us:List AV}(h:σ[r]?=some (.list us))(e:Nat.ble us.length 999999=true):d6 51 (.ref r) [v] σ=some (.none,σ.set r (.list (us++[v]))):=by
 rw[uP,h]
 show gO (decide (us.length<1000000)) _=_
 rw[decide_eq_true (Nat.lt_succ_of_le (Nat.le_of_ble_eq_true e))];rfl
theorem yt {kvs:List (AV×AV)}{t:Bool}(h:σ[r]?=some (.dict kvs))(ko:cR kvs v=true)(e:(bc kvs v).isSome=t):qp σ v (.ref r)=some t:=by
 rw[J1,h]
 show gO (cR kvs v) _=_
 rw[ko,←e];rfl
theorem mh {kvs:List (AV×AV)}{w:AV}(h:σ[r]?=some (.dict kvs))(ko:cR kvs v=true)(e:bc kvs v=some w):eh σ (.ref r) v=some w:=by
 rw[yr,h]
 show gO (cR kvs v) _=_
 rw[ko];exact e
theorem Dk {us:List AV}{t:Bool}(h:σ[r]?=some (.list us))(e:fZ v us=some t):qp σ v (.ref r)=some t:=by
 rw[J1,h];exact e
theorem pE {us:List AV}{u w:AV}{j k:Nat}(h:σ[r]?=some (.list us))(h1:bound 0 u=some j)(h2:bound us.length w=some k):lA σ (.ref r) u w=some (.ref σ.length,σ++[.list ((us.take k).drop j)]):=by
 rw[VZ,h]
 show(bound 0 u).bind _=_
 rw[h1]
 show(bound us.length w).bind _=_
 rw[h2];rfl
theorem lO {us ws:List AV}{q:Nat}(h:σ[r]?=some (.list us))(h1:σ[q]?=some (.list ws))(e:us.length+ws.length<1000000):fR .add (.ref r) (.ref q) σ=some (.ref σ.length,σ++[.list (us++ws)]):=by
 rw[NH,h,h1]
 show gO (decide (us.length+ws.length<1000000)) _=_
 rw[decide_eq_true e];rfl
theorem jz {k n:Nat}:bound n (.int (k:Int))=some k:=by
 show gO (decide ((0:Int)≤k)) _=_
 rw[decide_eq_true (Int.natCast_nonneg k)];rfl
theorem xi {t:Bool}(h:Ev ⟨cf,ρ,σ⟩ e x)(h1:truthy σ x=some t)(h2:Ev ⟨cf,ρ,σ⟩ a v):dA cf [e] a ρ σ=some (bif t then some v else none,σ):=by
 unfold dA
 rw[PO,bN h.h,h1]
 cases t
 ·rfl
 ·exact bN h2.h
theorem eJ (h:Ev ⟨cf,ρ,σ⟩ a v):dA cf [] a ρ σ=some (some v,σ):=bN h.h
theorem t7 {us ws:List AV}{q:Nat}{t:Bool}(h:σ[r]?=some (.list us))(h1:σ[q]?=some (.list ws))(e:gX us ws=some t):t6 σ (.ref r) (.ref q)=some t:=by
 rw[PG,h,h1];exact e
theorem AK {us:List AV}(h:σ[r]?=some (.list us)):dz .rev [.ref r] σ=some (us.reverse,some (r,.list us)):=by
 rw[WU,h];rfl
theorem fV {α:Type}{w:α→AV}{B:α→ag→ag}{xs:List Nat}{one:Bool}{gd:Option (Nat×ae)}{b:List S}(I:List α→ag→St→Prop)(hB:∀a ρ,ed xs one (w a) ρ=some (B a ρ))(h1:∀a l ρ σ,I (a::l) ρ σ→b8 gd σ=true∧WB cf b (B a ρ) σ (Kf QF (I l)))(h2:∀ρ σ,I [] ρ σ→b8 gd σ=true∧QF .next ρ σ){l:List α}(h:I l ρ σ):OF (dt gd xs one (fun ρ σ=>bJ aP cf b ρ σ) (l.map w) ρ σ) QF:=by
 refine xR (I:=fun vs ρ σ=>∃l,vs=l.map w∧I l ρ σ) ?_ ?_ ⟨l,rfl,h⟩
 ·rintro v vs ρ σ ⟨l,e,h⟩
  cases l with
  |nil=>cases e
  |cons a l=>
   cases e
   obtain⟨g,h⟩:=h1 a l ρ σ h
   exact⟨g,_,hB a ρ,h.mono fun f r s k=>by cases f<;>first |exact k |exact⟨l,rfl,k⟩⟩
 ·rintro ρ σ ⟨l,e,h⟩
  cases l with
  |nil=>exact h2 ρ σ h
  |cons a l=>cases e
theorem xS {α:Type}{w:α→AV}{gd:Option (Nat×ae)}{b:List S}(I:List α→ag→St→Prop)(h1:∀a l ρ σ,I (a::l) ρ σ→b8 gd σ=true∧WB cf b (aF ρ n (w a)) σ (Kf QF (I l)))(h2:∀ρ σ,I [] ρ σ→b8 gd σ=true∧QF .next ρ σ){l:List α}(h:I l ρ σ):OF (dt gd [n] true (fun ρ σ=>bJ aP cf b ρ σ) (l.map w) ρ σ) QF:=fV I (fun _ _=>rfl) h1 h2 h
theorem WV {a b:Nat}(h:a≤b)(h1:b≤1000000):dz .range [.int (a:Int),.int (b:Int)] σ=some (di a b,none):=by
 show gO (d9 a&&d9 b) _=_
 rw[show d9 (a:Int)=true from decide_eq_true (Nat.le_trans h h1),show d9 (b:Int)=true from decide_eq_true h1];rfl
theorem Tv {a b:Nat}(h:a≤b)(h1:b≤1000000):dc .listrange [.int (a:Int),.int (b:Int)] σ=some (.ref σ.length,σ++[.list (di a b)]):=by
 show gO (d9 a&&d9 b) _=_
 rw[show d9 (a:Int)=true from decide_eq_true (Nat.le_trans h h1),show d9 (b:Int)=true from decide_eq_true h1];rfl
theorem WX {us:List AV}(h:σ[r]?=some (.list us))(e:(decide (us.length<64)&&us.all uH&&ly us)=true):dc .sorted [.ref r] σ=some (.ref σ.length,σ++[.list us]):=by
 show(σ[r]?).bind _=_
 rw[h]
 show gO (decide (us.length<64)&&us.all uH&&ly us) _=_
 rw[e];rfl
theorem fS {α:Type}{w g:α→AV}{gd:Option (Nat×ae)}{xs:List Nat}{one:Bool}{turn:ag→St→Option (Option AV×St)}(hs:b8 gd σ=true){l:List α}(h:∀a∈l,∃ρ',ed xs one (w a) ρ=some ρ'∧turn ρ' σ=some (some (g a),σ)):ca gd xs one turn ρ (l.map w) σ=some (l.map g,σ):=by
 induction l with
 |nil=>exact xJ (g:=some) (vs:=[]) hs nofun
 |cons a l ih=>
  obtain⟨ρ',h1,h2⟩:=h a (List.mem_cons_self ..)
  rw[List.map_cons,pU,hs,h1]
  exact(bN h2).trans (bN (ih fun u hu=>h u (List.mem_cons_of_mem _ hu)))
end
theorem jE {c:Cx}{a b:E}{s t:Bool}(h:Ev c a (.bool s))(h1:Ev c b (.bool t)):Ev c (.or a b) (.bool (s||t)):=by
 cases s
 ·exact jD h rfl h1
 ·exact jD h rfl rfl
theorem xM {c:Cx}{a b:E}{s t:Bool}(h:Ev c a (.bool s))(h1:Ev c b (.bool t)):Ev c (.and a b) (.bool (s&&t)):=by
 cases s
 ·exact b0 h rfl rfl
 ·exact b0 h rfl h1
theorem IL {c:Cx}{o a b:E}{x y:AV}{t:Bool}(h:Ev c o (.bool t))(h1:Ev c a x)(h2:Ev c b y):Ev c (.ife o a b) (bif t then x else y):=by
 cases t
 ·exact ey h rfl h2
 ·exact ey h rfl h1
theorem IM {c:Cx}{a b k:Int}(h:c.ρ 67=some (.int k)):Ev c (.chain .le .le (.ci a) (.v 67) (.ci b)) (.bool (decide (a≤k)&&decide (k≤b))):=by
 refine pX (t:=decide (a≤k)) ar (ab h) rfl ?_
 cases decide (a≤k)
 ·rfl
 ·exact ay (ab h) ar rfl
theorem HJ (l:List AV):AV.beqs l l=true:=(AV.beqs_iff l l).mpr rfl
theorem S1 (l:List (AV×AV)):Dw l l=true:=Dy (fun p=>gh (a:=p.1.beq p.1) (b:=p.2.beq p.2) ((AV.beq_iff _ _).mpr rfl) ((AV.beq_iff _ _).mpr rfl)) l
theorem Qp (l:List (Nat×AV)):BS l l=true:=Dy (fun p=>gh (a:=p.1==p.1) (b:=p.2.beq p.2) (beq_self_eq_true _) ((AV.beq_iff _ _).mpr rfl)) l
theorem LS (o:ae):o.beq o=true:=by
 cases o with
 |list l=>exact HJ l
 |dict l=>exact S1 l
 |inst c f=>exact gh (beq_self_eq_true c) (Qp f)
 |ext l=>exact HJ l
theorem WZ (l:St):FQ l l=true:=Dy LS l
theorem bg {σ:St}{r:Nat}{o:ae}(h:σ[r]?=some o):b8 (some (r,o)) σ=true:=by
 show eU (σ[r]?) _=true
 rw[h];exact LS o
theorem MW {σ l:St}{v:AV}(h:v.under σ.length=true):bF σ (v,σ++l)=(v,σ):=by
 unfold bF
 rw[List.take_left,h,WZ];rfl
theorem MY {σ:St}{v:AV}(h:v.under σ.length=true):bF σ (v,σ)=(v,σ):=by
 have:=MW (l:=[]) h
 rwa [List.append_nil]at this
theorem lD (σ σ':St)(v:AV):bF σ (v,σ')=(v,σ')∨(bF σ (v,σ')=(v,σ)∧∃l,σ'=σ++l):=by
 unfold bF
 split
 ·rename_i h
  rw[Bool.and_eq_true]at h
  right
  refine⟨rfl,σ'.drop σ.length,?_⟩
  have:=MP h.2
  calc σ'=σ'.take σ.length++σ'.drop σ.length:=(List.take_append_drop _ _).symm
   _=_:=by rw[this]
 ·exact .inl rfl
section
variable {d f:Nat}{args:List AV}{σ:St}{fn:Fn}{Q:AV→St→Prop}
theorem tF (h1:jA.lookup f=none)(h2:jH.lookup f=some fn)(h3:args.length≤fn.params.length)(h4:fn.params.length≤args.length+fn.dflts.length)
  (h:WB (ao T0 d) fn.body (cX fn.params (args++fn.dflts.drop (fn.dflts.length+args.length - fn.params.length))) σ (dk σ Q)):WC (ao T0 (d+1)) f args σ Q:=by
 unfold WC ao
 have e1:T0.cls f=none:=h1
 have e2:T0.fns f=some fn:=h2
 simp only[e1,e2,h3,h4,and_self,if_true,cond_true]
 rw[ip]at h
 obtain e3:T0.tb=aP:=rfl
 rw[e3]
 cases hx:bJ aP (ao T0 d) fn.body (cX fn.params (args++fn.dflts.drop (fn.dflts.length+args.length - fn.params.length))) σ with
 |none=>rw[hx]at h;exact False.elim h
 |some p=>
  rw[hx]at h
  obtain⟨fl,r,s⟩:=p
  cases fl<;>first |exact h |exact False.elim h
theorem M5 {ini:Nat}(h1:jA.lookup f=some ini)(h2:jH.lookup ini=some fn)(h3:args.length+1≤fn.params.length)(h4:fn.params.length≤args.length+1+fn.dflts.length)
  (h:WB (ao T0 d) fn.body (cX fn.params (.ref σ.length::args++fn.dflts.drop (fn.dflts.length+args.length+1 - fn.params.length))) (σ++[.inst f []]) (fun fl _ σ'=>match fl with |.next=>Q (.ref σ.length) σ' |_=>False)):WC (ao T0 (d+1)) f args σ Q:=by
 unfold WC ao
 have e1:T0.cls f=some ini:=h1
 have e2:T0.fns ini=some fn:=h2
 try simp only[e1,e2]
 rw[ip]at h
 obtain e3:T0.tb=aP:=rfl
 rw[e3]
 cases hx:bJ aP (ao T0 d) fn.body (cX fn.params (.ref σ.length::args++fn.dflts.drop (fn.dflts.length+args.length+1 - fn.params.length))) (σ++[.inst f []])with
 |none=>rw[hx]at h;exact False.elim h
 |some p=>
  rw[hx]at h
  obtain⟨fl,r,s⟩:=p
  cases fl
  ·simp only[h3,h4,and_self,if_true,cond_true];exact h
  ·exact False.elim h
  ·exact False.elim h
theorem jk {cf:Cf}{v:AV}{s:St}(h:cf f args σ=some (v,s))(q:Q v s):WC cf f args σ Q:=by
 unfold WC;rw[h];exact q
theorem xO {cf:Cf}{v:AV}{s:St}(h:WC cf f args σ fun x t=>x=v∧t=s):cf f args σ=some (v,s):=by
 obtain⟨a,t,e,rfl,rfl⟩:=OK.elim h
 exact e
theorem b5 {d f:Nat}{as:List AV}{v:AV}{ps:List Nat}{ds:List AV}{A:List S}(h1:jA.lookup f=none)(h2:jH.lookup f=some ⟨ps,ds,A⟩)(h3:as.length=ps.length)(h:WB (ao T0 d) A (cX ps as) σ (dk σ fun x t=>x=v∧t=σ)):ao T0 (d+1) f as σ=some (v,σ):=xO (bM h1 h2 h3 h)
theorem lQ {v:AV}{l:St}{ρ:ag}(hv:v.under σ.length=true)(q:Q v σ):dk σ Q (.ret v) ρ (σ++l):=by
 show Q (bF σ (v,σ++l)).1 (bF σ (v,σ++l)).2
 rw[MW hv];exact q
theorem Ht {v:AV}{ρ:ag}(hv:v.under σ.length=true)(q:Q v σ):dk σ Q (.ret v) ρ σ:=by
 show Q (bF σ (v,σ)).1 (bF σ (v,σ)).2
 rw[MY hv];exact q
theorem bE {v w:AV}{ρ:ag}(hv:v.under σ.length=true)(e:v=w):dk σ (fun x t=>x=w∧t=σ) (.ret v) ρ σ:=Ht hv ⟨e,rfl⟩
theorem Hs {ρ:ag}(q:Q .none σ):dk σ Q .next ρ σ:=by
 show Q (bF σ (.none,σ)).1 (bF σ (.none,σ)).2
 rw[MY rfl];exact q
end
theorem iw {σ:St}{Q:AV→St→Prop}{o:ae}{ρ:ag}(q:Q (.ref σ.length) (σ++[o])):dk σ Q (.ret (.ref σ.length)) ρ (σ++[o]):=by
 show Q (bF σ (.ref σ.length,σ++[o])).1 (bF σ (.ref σ.length,σ++[o])).2
 have:bF σ (.ref σ.length,σ++[o])=(.ref σ.length,σ++[o]):=by
  unfold bF
  simp only[AV.under,Nat.lt_irrefl,decide_false,Bool.false_and,Bool.false_eq_true,if_false,cond_false]
 rw[this];exact q
noncomputable def du (l:List (Int×Int))(c:Int):Bool:=l.any fun p=>decide (p.1≤c)&&decide (c≤p.2)
noncomputable def c8 (l:List (Int×Int)):List AV:=l.map fun p=>.tup [.int p.1,.int p.2]
noncomputable def U7:List S:=[.iff (.chain .le .le (.v 84) (.v 67) (.v 151)) [.ret (.cb true)] []]
theorem Fz {cf:Cf}{gd:Option (Nat×ae)}{σ:St}{c:Int}{QF:Fl→ag→St→Prop}(hs:b8 gd σ=true){l:List (Int×Int)}{ρ:ag}(dZ:ρ 67=some (.int c))
  (h:if du l c then∀ρ',QF (.ret (.bool true)) ρ' σ else∀ρ',QF .next ρ' σ):OF (dt gd [84,151] false (fun ρ σ=>bJ aP cf U7 ρ σ) (c8 l) ρ σ) QF:=by
 refine fV (w:=fun p:Int×Int=>.tup [.int p.1,.int p.2]) (B:=fun p ρ=>aF (aF ρ 84 (.int p.1)) 151 (.int p.2)) (I:=fun l ρ s=>s=σ∧ρ 67=some (.int c)∧if du l c then∀ρ',QF (.ret (.bool true)) ρ' σ else∀ρ',QF .next ρ' σ) (fun _ _=>rfl) ?_ ?_ ⟨rfl,dZ,h⟩
 ·rintro p l ρ s ⟨rfl,dZ,h⟩
  refine⟨hs,aW (t:=decide (p.1≤c)&&decide (c≤p.2)) (pX (t:=decide (p.1≤c)) (v:=.bool (decide (p.1≤c)&&decide (c≤p.2))) (ab rfl) (ab dZ) rfl ?_) rfl ?_⟩
  ·cases decide (p.1≤c)
   ·rfl
   ·exact ay (ab dZ) (ab rfl) rfl
  ·rw[show du (p::l) c=(decide (p.1≤c)&&decide (c≤p.2)||du l c)from rfl]at h
   cases e:decide (p.1≤c)&&decide (c≤p.2)with
   |true=>
    rw[e,Bool.true_or,if_pos rfl]at h
    exact bT rfl (a6 gV (h _))
   |false=>
    rw[e,Bool.false_or]at h
    exact bA rfl (bt (tD ⟨rfl,dZ,h⟩))
 ·rintro ρ s ⟨rfl,_,h⟩
  exact⟨hs,h _⟩
theorem aw {σ:St}{o:ae}:(σ++[o])[σ.length]?=some o:=by simp
theorem tw {σ:St}{o o':ae}:(σ++[o]).set σ.length o'=σ++[o']:=by simp
theorem al {σ l:St}{r:Nat}{o:ae}(h:σ[r]?=some o):(σ++l)[r]?=some o:=by
 rw[List.getElem?_append_left (List.getElem?_eq_some_iff.mp h).1];exact h
theorem cu {σ:St}{r:Nat}{o:ae}(h:σ[r]?=some o):r<σ.length:=(List.getElem?_eq_some_iff.mp h).1
structure In where
 code:Int
 glyph:Int
 cluster:Int
 mask:Int
 kind:Nat
 uns:Bool
noncomputable def Qa (i:In):List (Nat×AV):=[(67,.int i.code),(92,.int i.glyph),(65,.int i.cluster),(170,.int i.mask),(125,.bool i.uns),(163,.int 0),(164,.int 0),(162,.int 0),(232,.int 0),(144,.str i.kind),(260,.int 0),(262,.int 0),(261,.int 0),(263,.int 0),(193,.int 0),(56,.str 0)]
noncomputable abbrev a7 (i:In):ae:=.inst 11 (Qa i)
noncomputable def Dn:List (Nat×E)→List AV→List (Nat×AV)→List (Nat×AV)
 |p::l,v::vs,fs=>Dn l vs (eW fs p.1 v)
 |_,_,fs=>fs
noncomputable def uD (o:Nat)(l:List (Nat×E)):List S:=l.map fun p=>.asg (.attr (.v o) p.1) p.2
noncomputable def BJ (cf:Cf)(ρ:ag)(σ:St):List (Nat×E)→List AV→Prop
 | [],[]=>True
 |p::l,v::vs=>(∀u,ev aP cf p.2 ρ (σ++[u])=some (v,σ++[u]))∧BJ cf ρ σ l vs
 |_,_=>False
theorem VG {fs:List (Nat×AV)}{a:Nat}{u:AV}:(eW fs a u).length≤fs.length+1:=by
 induction fs with
 |nil=>simp[eW]
 |cons p l ih=>
  rw[FG]
  split
  ·simp
  ·simp only[List.length_cons];lia
theorem Do {cf:Cf}{c o:Nat}{ρ:ag}{σ:St}{QF:Fl→ag→St→Prop}(ho:ρ o=some (.ref σ.length)){rest:List S}:
  ∀{l:List (Nat×E)} {vs:List AV} {fs:List (Nat×AV)},l.all (fun p=>aP.fld c p.1)=true→BJ cf ρ σ l vs→l.length+fs.length≤900→WB cf rest ρ (σ++[.inst c (Dn l vs fs)]) QF→WB cf (uD o l++rest) ρ (σ++[.inst c fs]) QF
 | [],[],fs,_,_,_,q=>q
 |p::l,v::vs,fs,hf,h,hn,q=>by
  rw[List.all_cons,Bool.and_eq_true]at hf
  show WB cf (.asg (.attr (.v o) p.1) p.2::(uD o l++rest)) ρ _ QF
  refine cV ?_
  refine tI ?_
  rw[bQ,h.1,Um,M6,ho]
  rw[List.length_cons]at hn
  refine⟨_,_,_,rfl,aw,hf.1,by lia,?_⟩
  rw[tw]
  exact Do ho hf.2 h.2 (by have:=VG (fs:=fs) (a:=p.1) (u:=v);lia) q
theorem AY {d f ini:Nat}{fn:Fn}{args:List AV}{σ:St}{Q:AV→St→Prop}{l:List (Nat×E)}{vs:List AV}{o:Nat}(h1:jA.lookup f=some ini)(h2:jH.lookup ini=some fn)(h3:args.length+1≤fn.params.length)(h4:fn.params.length≤args.length+1+fn.dflts.length)(hb:fn.body=uD o l)
  (hf:l.all (fun p=>aP.fld f p.1)=true)(hl:l.length≤900)(ho:cX fn.params (.ref σ.length::args++fn.dflts.drop (fn.dflts.length+args.length+1 - fn.params.length)) o=some (.ref σ.length))(hv:BJ (ao T0 d) (cX fn.params (.ref σ.length::args++fn.dflts.drop (fn.dflts.length+args.length+1 - fn.params.length))) σ l vs)
  (q:Q (.ref σ.length) (σ++[.inst f (Dn l vs [])])):WC (ao T0 (d+1)) f args σ Q:=by
 refine M5 h1 h2 h3 h4 ?_
 refine(hb).symm▸?_
 refine(List.append_nil (uD o l))▸?_
 exact Do ho hf hv hl q
section
variable {d:Nat}{σ:St}{Q:AV→St→Prop}{c g k:Int}
noncomputable def Sh:List (Nat×E):=[(67,.v 67),(92,.v 92),(65,.v 65),(170,.ci 0),(125,.cb false),(163,.ci 0),(164,.ci 0),(162,.ci 0),(232,.ci 0),(144,.cs 0),(260,.ci 0),(262,.ci 0),(261,.ci 0),(263,.ci 0),(193,.ci 0),(56,.cs 0)]
theorem HV (q:Q (.ref σ.length) (σ++[a7 ⟨c,g,k,0,0,false⟩])):WC (ao T0 (d+1)) 11 [.int c,.int g,.int k] σ Q:=
 AY (ini:=12040) (fn:=A5) (l:=Sh) (vs:=[.int c,.int g,.int k,.int 0,.bool false,.int 0,.int 0,.int 0,.int 0,.str 0,.int 0,.int 0,.int 0,.int 0,.int 0,.str 0]) (o:=222) rfl rfl (Nat.le_of_ble_eq_true rfl) (Nat.le_of_ble_eq_true rfl) rfl (by decide) (by exact Nat.le_of_ble_eq_true rfl) rfl ⟨fun _=>rfl,fun _=>rfl,fun _=>rfl,fun _=>rfl,fun _=>rfl,fun _=>rfl,fun _=>rfl,fun _=>rfl,fun _=>rfl,fun _=>rfl,fun _=>rfl,fun _=>rfl,fun _=>rfl,fun _=>rfl,fun _=>rfl,fun _=>rfl,trivial⟩ q
noncomputable def l9:List (Int×Int):=[(173,173),(847,847),(1564,1564),(6068,6069),(6155,6158),(8203,8207),(8234,8238),(8288,8303),(65024,65039),(65279,65279),(65520,65528),(119155,119162),(917504,921599)]
theorem OU:ao T0 (d+1) 107 [] σ=some (.tup (c8 l9),σ):=b5 rfl rfl rfl (bE (v:=.tup (c8 l9)) (ρ:=fun _=>none) rfl rfl)
theorem Oi:ao T0 (d+2) 119 [.int c] σ=some (.bool (du l9 c),σ):=by
 refine b5 rfl rfl rfl (fb (ac (bR ak ⟨OU (d:=d)⟩) ak) rfl (Fz (l:=l9) rfl rfl ?_))
 cases du l9 c<;>exact fun ρ'=>bE (ρ:=ρ') rfl rfl
noncomputable def fY (c:Int):Nat:=if c==8205 then 264 else if c==8204 then 265 else if du l9 c then 106 else 0
theorem Oo:ao T0 (d+3) 146 [.int c] σ=some (.str (fY c),σ):=by
 refine b5 rfl rfl rfl (aW (t:=c==8205) (ay (ab rfl) (dq rfl) rfl) rfl ?_)
 rw[fY]
 cases c==8205
 ·refine bA rfl (bt (aW (t:=c==8204) (ay (ab rfl) (dq rfl) rfl) rfl ?_))
  cases c==8204
  ·have e3:=Oi (d:=d) (σ:=σ) (c:=c)
   cases z:du l9 c<;>rw[z]at e3<;>exact bA rfl (bt (a6 (ey (bR (ac (ab rfl) ak) ⟨e3⟩) rfl aT) (bE rfl rfl)))
  ·exact bT rfl (a6 aT (bE rfl rfl))
 ·exact bT rfl (a6 aT (bE rfl rfl))
noncomputable def w7 (c:Int):Bool:=(decide (65024≤c)&&decide (c≤65039))||(decide (917760≤c)&&decide (c≤917999))
theorem ON:ao T0 (d+1) 124 [.int c] σ=some (.bool (w7 c),σ):=b5 rfl rfl rfl (a6 (jE (IM rfl) (IM rfl)) (bE rfl rfl))
theorem Bv {r:Nat}{l:List (Int×Int)}(h:σ[r]?=some (.list (c8 l))):ao T0 (d+1) 108 [.ref r,.int c] σ=some (.bool (du l c),σ):=by
 refine b5 rfl rfl rfl (fb (us:=c8 l) (gd:=some (r,ae.list (c8 l))) (ac (ab rfl) ak) ?_ (Fz (l:=l) (bg h) rfl ?_))
 ·rw[MM,h];rfl
 ·cases du l c<;>exact fun ρ'=>bE (ρ:=ρ') rfl rfl
noncomputable def FB:List (Int×Int):=[(1570,1573),(1575,1575),(1577,1577),(1583,1586),(1608,1608),(1649,1651),(1653,1655),(1672,1689),(1728,1728),(1731,1739),(1741,1741),(1743,1743),(1746,1747),(1749,1749),(1774,1775)]
noncomputable def BG:List (Int×Int):=[(1568,1568),(1574,1574),(1576,1576),(1578,1582),(1587,1599),(1601,1607),(1609,1610),(1646,1647),(1656,1671),(1690,1727),(1729,1730),(1740,1740),(1742,1742),(1744,1745),(1786,1788),(1791,1791)]
noncomputable def Fx:List (Int×Int):=[(173,173),(768,879),(1552,1562),(1564,1564),(1611,1631),(1648,1648),(1750,1756),(1759,1764),(1767,1768),(1770,1773),(8203,8203),(8206,8207),(8234,8238),(8288,8292),(65024,65039),(65279,65279),(917760,917999)]
theorem OA {Q:AV→St→Prop}(q:Q (.ref σ.length) (σ++[.list (c8 Fx)])):WC (ao T0 (d+1)) 197 [] σ Q:=bM rfl rfl rfl (iw (ρ:=fun _=>none) q)
theorem Ob {Q:AV→St→Prop}(q:Q (.ref σ.length) (σ++[.list (c8 BG)])):WC (ao T0 (d+1)) 77 [] σ Q:=bM rfl rfl rfl (iw (ρ:=fun _=>none) q)
theorem OL {Q:AV→St→Prop}(q:Q (.ref σ.length) (σ++[.list (c8 FB)])):WC (ao T0 (d+1)) 213 [] σ Q:=bM rfl rfl rfl (iw (ρ:=fun _=>none) q)
noncomputable def dg (c:Int):Nat:=if c==8205||c==1600 then 2 else if du Fx c then 25 else if du BG c then 5 else if du FB c then 22 else 29
theorem On:ao T0 (d+2) 140 [.int c] σ=some (.str (dg c),σ):=by
 refine b5 rfl rfl rfl (aW (t:=c==8205||c==1600) (jE (ay (ab rfl) (dq rfl) rfl) (ay (ab rfl) (dq rfl) rfl)) rfl ?_)
 rw[dg]
 cases c==8205||c==1600
 ·refine bA rfl (bt (io (bG (bu (bG (a8 (OA ?_)))))))
  refine aL (ac (ab rfl) ak) (jk (Bv aw) ?_)
  generalize du Fx c=x
  cases x
  ·refine aA rfl (bA rfl (bt (io (bG (bu (bG (a8 (Ob ?_))))))))
   refine aL (ac (ab rfl) ak) (jk (Bv aw) ?_)
   generalize du BG c=x
   cases x
   ·refine aA rfl (bA rfl (bt (eK (AZ (bG (bu (bG (a8 (OL ?_)))))))))
    refine aL (ac (ab rfl) ak) (jk (Bv aw) ?_)
    rw[List.append_assoc,List.append_assoc]
    generalize du FB c=x
    cases x
    ·exact aA rfl (bA rfl (M7 (lQ rfl ⟨rfl,rfl⟩)))
    ·exact aA rfl (bT rfl (M7 (lQ rfl ⟨rfl,rfl⟩)))
   ·rw[List.append_assoc];exact aA rfl (bT rfl (a6 aT (lQ rfl ⟨rfl,rfl⟩)))
  ·exact aA rfl (bT rfl (a6 aT (lQ rfl ⟨rfl,rfl⟩)))
 ·exact bT rfl (a6 aT (bE rfl rfl))
end
noncomputable abbrev et (l:Nat)(b:Bool):ae:=.inst 1 [(214,.ref l),(114,.bool b),(152,.int 0),(153,.int 0)]
noncomputable def cY:List (AV×AV):=[(.int 97,.int 1),(.int 98,.int 2),(.int 224,.int 3),(.int 768,.int 4),(.int 40,.int 5),(.int 41,.int 6)]
noncomputable def CM (σ:St)(cm:Nat):Prop:=∃k,σ[cm]?=some (.inst 4 [(68,.ref k),(253,.none)])∧σ[k]?=some (.dict cY)
noncomputable def NM (σ:St)(nm:Nat):Prop:=∃k k',σ[nm]?=some (.inst 20 [(195,.ref k),(64,.ref k')])∧σ[k]?=some (.dict [(.int 224,.tup [.int 97,.int 768])])∧σ[k']?=some (.dict [(.int 768,.int 230)])
noncomputable def dX (c:Int):Int:=if c=97 then 1 else if c=98 then 2 else if c=224 then 3 else if c=768 then 4 else if c=40 then 5 else if c=41 then 6 else 0
noncomputable def eu (c:Int):Int:=if c=768 then 230 else 0
theorem CM.app {σ l:St}{cm:Nat}(h:CM σ cm):CM (σ++l) cm:=let⟨k,a,b⟩:=h;⟨k,al a,al b⟩
theorem NM.app {σ l:St}{cm:Nat}(h:NM σ cm):NM (σ++l) cm:=let⟨k,k',a,b,c⟩:=h;⟨k,k',al a,al b,al c⟩
section
variable {d:Nat}{σ:St}{Q:AV→St→Prop}{c g k:Int}
theorem tV {cm:Nat}(h:CM σ cm):ao T0 (d+1) 5092 [.ref cm,.int c] σ=some (.int (dX c),σ):=
 am h fun kk h1 h2=>b5 rfl rfl rfl (a6 (gn (aM (ab rfl) h1 rfl) h2 (.b rfl (ac (ab rfl) (ac ar ak)) (jI h2 rfl (gk (gk (gk (gk (gk (gk rfl))))))))) (bE rfl rfl))
theorem N8 {nm:Nat}(h:NM σ nm):ao T0 (d+1) 21063 [.ref nm,.int c] σ=some (.int (eu c),σ):=
 bH h fun kk kk' h1 h2 h3=>b5 rfl rfl rfl (a6 (gn (aM (ab rfl) h1 rfl) h3 (.b rfl (ac (ab rfl) (ac ar ak)) (jI h3 rfl (gk rfl)))) (bE rfl rfl))
theorem Bu {nm i:Nat}{x:In}(h:NM σ nm)(hi:σ[i]?=some (a7 x))(hg:x.glyph=0):ao T0 (d+2) 62 [.ref nm,.ref i] σ=some (.int (eu x.code),σ):=
 bH h fun kk kk' h1 _ _=>b5 rfl rfl rfl (a6 (ey (t:=false) (ay (aM (ab rfl) hi rfl) ar (by rw[hg];rfl)) rfl (gn (ab rfl) h1 (.i rfl (ac (aM (ab rfl) hi rfl) ak) ⟨N8 h⟩))) (bE rfl rfl))
noncomputable def Pp:List (Nat×E):=[170,125,163,164,162,232,144,260,262,261,263,193,56].map fun a=>(a,.attr (.v 222) a)
theorem Pn:fN.body=.asg (.name 90) (.call 11 [.attr (.v 222) 67,.attr (.v 222) 92,.attr (.v 222) 65])::(uD 90 Pp++[.ret (.v 90)]):=by kernel_rfl
theorem Pq {cf:Cf}{ρ:ag}{σ:St}{r cl:Nat}{fs:List (Nat×AV)}(h:ρ 222=some (.ref r))(h':σ[r]?=some (.inst cl fs)){a:Nat}{v:AV}(e:ef fs a=some v)(u:ae):ev aP cf (.attr (.v 222) a) ρ (σ++[u])=some (v,σ++[u]):=(aM (c:=⟨cf,ρ,σ++[u]⟩) (ab h) (al h') e).h
theorem Oa {i:Nat}{x:In}(hi:σ[i]?=some (a7 x))(q:Q (.ref σ.length) (σ++[a7 x])):WC (ao T0 (d+2)) 12069 [.ref i] σ Q:=by
 refine tF (fn:=fN) rfl rfl (Nat.le_of_ble_eq_true rfl) (Nat.le_of_ble_eq_true rfl) ?_
 rw[Pn,F1,XK]
 obtain ud:cX fN.params ([.ref i]++fN.dflts.drop (fN.dflts.length+ [AV.ref i].length - fN.params.length)) 222=some (.ref i):=rfl
 generalize cX fN.params ([.ref i]++fN.dflts.drop (fN.dflts.length+ [AV.ref i].length - fN.params.length))=ρ at ud
 refine bG (aL (ac (aM (ab ud) hi rfl) (ac (aM (ab ud) hi rfl) (ac (aM (ab ud) hi rfl) ak))) (HV ?_))
 have Qx:aF ρ 90 (.ref σ.length) 222=some (.ref i):=ud
 obtain k:=fun{a:Nat} {v:AV}=>Pq (cf:=ao T0 (d+1)) (a:=a) (v:=v) Qx hi
 refine Do (vs:=[.int x.mask,.bool x.uns,.int 0,.int 0,.int 0,.int 0,.str x.kind,.int 0,.int 0,.int 0,.int 0,.int 0,.str 0]) rfl (by decide) ⟨k rfl,k rfl,k rfl,k rfl,k rfl,k rfl,k rfl,k rfl,k rfl,k rfl,k rfl,k rfl,k rfl,trivial⟩ (by exact Nat.le_of_ble_eq_true rfl) ?_
 refine eK ?_
 rw[M6,show aF ρ 90 (.ref σ.length) 90=some (.ref σ.length)from rfl,Ut]
 exact iw (ρ:=ρ) q
theorem N2 {l:Nat}{b:Bool}(q:Q (.ref σ.length) (σ++[et l b])):WC (ao T0 (d+1)) 1 [.ref l,.bool b] σ Q:=
 AY (ini:=2040) (fn:=A6) (l:=[(214,.v 110),(114,.v 114),(152,.ci 0),(153,.ci 0)]) (vs:=[.ref l,.bool b,.int 0,.int 0]) (o:=222) rfl rfl (Nat.le_of_ble_eq_true rfl) (Nat.le_of_ble_eq_true rfl) rfl (by decide) (by exact Nat.le_of_ble_eq_true rfl) rfl ⟨fun _=>rfl,fun _=>rfl,fun _=>rfl,fun _=>rfl,trivial⟩ q
theorem Mv {a o:ae}{l:St}:(σ++a::l).set σ.length o=σ++o::l:=jh (k:=0)
theorem N3 {kd:Nat}(h:σ[kd]?=some (.dict cY))(q:Q (.ref σ.length) (σ++[.inst 4 [(68,.ref (σ.length+1)),(253,.none)],.dict cY])):WC (ao T0 (d+1)) 4 [.ref kd] σ Q:=by
 refine M5 (ini:=5040) (fn:=Ba) rfl rfl (Nat.le_of_ble_eq_true rfl) (Nat.le_of_ble_eq_true rfl) ?_
 have e:ev aP (ao T0 d) (.dfilt 68) (cX [222,68,253] (.ref σ.length::[.ref kd]++List.drop ([AV.none].length+ [AV.ref kd].length+1 - [222,68,253].length) [AV.none])) (σ++[.inst 4 []])=some (.ref (σ.length+1),σ++[.inst 4 [],.dict cY]):=by
  obtain h':(σ++[ae.inst 4 []])[kd]?=some (.dict cY):=al h
  show((σ++[ae.inst 4 []])[kd]?).bind _=_
  rw[h']
  exact congrArg some (Prod.ext (congrArg AV.ref List.length_append) (List.append_assoc σ _ _))
 refine cV (tI (aZ e (aJ (ab rfl) ⟨_,4,[],rfl,b9 (k:=0) rfl,rfl,Nat.le_of_ble_eq_true rfl,?_⟩)))
 rw[Mv]
 refine cV (tI (aJ (ab rfl) (aJ (ab rfl) ⟨_,4,_,rfl,b9 (k:=0) rfl,rfl,Nat.le_of_ble_eq_true rfl,?_⟩)))
 rw[Mv]
 exact q
end
theorem Iu {gd:Option (Nat×ae)}{xs:List Nat}{one:Bool}{turn:ag→St→Option (Option AV×St)}{ρ:ag}{g:AV→ae}:∀{vs:List AV} {σ:St},(∀l,b8 gd (σ++l)=true)→
  (∀v∈vs,∀l,∃ρ',ed xs one v ρ=some ρ'∧turn ρ' (σ++l)=some (some (.ref (σ++l).length),(σ++l)++[g v]))→
  ca gd xs one turn ρ vs σ=some ((List.range' σ.length vs.length).map .ref,σ++vs.map g)
 | [],σ,hs,_=>by
  have:=hs []
  rw[List.append_nil]at this
  rw[It,this,List.map_nil,List.append_nil];rfl
 |v::vs,σ,hs,h=>by
  have h0:=hs []
  rw[List.append_nil]at h0
  refine am (h v (List.mem_cons_self ..) []) fun ρ' h1 h2=>?_
  rw[List.append_nil]at h2
  have ih:=Iu (gd:=gd) (xs:=xs) (one:=one) (turn:=turn) (ρ:=ρ) (g:=g) (vs:=vs) (σ:=σ++[g v]) (fun l=>by rw[List.append_assoc];exact hs _) (fun u hu l=>by
   rw[List.append_assoc];exact h u (List.mem_cons_of_mem _ hu) _)
  rw[pU,h0,h1]
  refine(bN h2).trans ((bN ih).trans ?_)
  rw[List.length_append,List.append_assoc];rfl
noncomputable def a9 (σ:St):List Nat→List In→Prop
 | [],[]=>True
 |r::rs,i::is=>σ[r]?=some (a7 i)∧a9 σ rs is
 |_,_=>False
theorem a9.len {σ:St}:∀{rs:List Nat} {is:List In},a9 σ rs is→rs.length=is.length
 | [],[],_=>rfl
 |_::rs,_::is,h=>by simp[a9.len h.2]
 | [],_::_,h=>h.elim
 |_::_,[],h=>h.elim
theorem a9.get {σ:St}:∀{rs:List Nat} {is:List In},a9 σ rs is→∀{k:Nat} {r:Nat},rs[k]?=some r→∃i,is[k]?=some i∧σ[r]?=some (a7 i)
 | [],[],_,k,r,e=>by simp at e
 |a::rs,i::is,h,0,r,e=>by cases e;exact⟨i,rfl,h.1⟩
 |a::rs,i::is,h,k+1,r,e=>a9.get h.2 (by simpa using e)
 | [],_::_,h,_,_,_=>h.elim
 |_::_,[],h,_,_,_=>h.elim
theorem a9.mem {σ:St}:∀{rs:List Nat} {is:List In},a9 σ rs is→∀{r:Nat},r∈rs→∃i∈is,σ[r]?=some (a7 i)
 | [],[],_,r,e=>by simp at e
 |a::rs,i::is,h,r,e=>by
  rcases List.mem_cons.mp e with rfl |e
  ·exact⟨i,List.mem_cons_self ..,h.1⟩
  ·refine am (a9.mem h.2 e) fun j hj e=>?_
   exact⟨j,List.mem_cons_of_mem _ hj,e⟩
 | [],_::_,h,_,_=>h.elim
 |_::_,[],h,_,_=>h.elim
theorem a9.lt {σ:St}{rs:List Nat}{is:List In}(h:a9 σ rs is){r:Nat}(m:r∈rs):r<σ.length:=let⟨_,_,e⟩:=h.mem m;cu e
theorem a9.same {σ σ':St}:∀{rs:List Nat} {is:List In},a9 σ rs is→(∀r∈rs,σ'[r]?=σ[r]?)→a9 σ' rs is
 | [],[],_,_=>trivial
 |a::rs,i::is,h,e=>⟨(e a (List.mem_cons_self ..)).trans h.1,a9.same h.2 fun r m=>e r (List.mem_cons_of_mem _ m)⟩
 | [],_::_,h,_=>h.elim
 |_::_,[],h,_=>h.elim
theorem a9.app {σ l:St}{rs:List Nat}{is:List In}(h:a9 σ rs is):a9 (σ++l) rs is:=h.same fun r m=>List.getElem?_append_left (h.lt m)
theorem a9.cat {σ:St}:∀{rs:List Nat} {is:List In} {rs':List Nat} {is':List In},a9 σ rs is→a9 σ rs' is'→a9 σ (rs++rs') (is++is')
 | [],[],_,_,_,h=>h
 |_::_,_::_,_,_,h,h'=>⟨h.1,a9.cat h.2 h'⟩
 | [],_::_,_,_,h,_=>h.elim
 |_::_,[],_,_,h,_=>h.elim
theorem a9.uncat {σ:St}:∀{rs:List Nat} {is:List In} {rs':List Nat} {is':List In},rs.length=is.length→a9 σ (rs++rs') (is++is')→a9 σ rs is∧a9 σ rs' is'
 | [],[],_,_,_,h=>⟨trivial,h⟩
 |_::_,_::_,_,_,e,h=>by
  have:=a9.uncat (by simpa using e) h.2
  exact⟨⟨h.1,this.1⟩,this.2⟩
 | [],_::_,_,_,e,_=>by simp at e
 |_::_,[],_,_,e,_=>by simp at e
structure aD (σ:St)(b l:Nat)(bk:Bool)(rs:List Nat)(is:List In):Prop where
 buf:σ[b]?=some (et l bk)
 row:σ[l]?=some (.list (rs.map .ref))
 infos:a9 σ rs is
 nd:rs.Nodup
 gl:∀i∈is,i.glyph=0
theorem aD.app {σ m:St}{b l:Nat}{bk:Bool}{rs:List Nat}{is:List In}(h:aD σ b l bk rs is):aD (σ++m) b l bk rs is:=⟨al h.buf,al h.row,h.infos.app,h.nd,h.gl⟩
noncomputable def bq (cs:List Int):List In:=cs.zipIdx.map fun p=>⟨p.1,0,p.2,0,0,false⟩
theorem J2 {σ:St}:∀{is:List In} {n:Nat} {pre post:St},n=pre.length→σ=pre++is.map a7++post→a9 σ (List.range' n is.length) is
 | [],_,_,_,_,_=>trivial
 |i::is,n,pre,post,hn,e=>by
  obtain ih:=J2 (σ:=σ) (is:=is) (n:=n+1) (pre:=pre++[a7 i]) (post:=post) (by simp[hn]) (by rw[e];simp)
  rw[List.length_cons,List.range'_succ]
  refine⟨?_,ih⟩
  subst hn
  rw[e]
  simp
section
variable {d:Nat}{σ:St}{Q:AV→St→Prop}
theorem tr (n:Nat):di 0 (n:Int)=(List.range n).map fun(k:Nat)=>.int (k:Int):=by
 unfold di
 simp
theorem Bt {cd:Nat}{cs:List Int}{bk:Bool}(h:σ[cd]?=some (.list (cs.map .int)))(hn:cs.length≤100)
  (q:∀σ',σ'=σ++(bq cs).map a7++[.list ((List.range' σ.length cs.length).map .ref),et (σ.length+cs.length) bk]→aD σ' (σ.length+cs.length+1) (σ.length+cs.length) bk (List.range' σ.length cs.length) (bq cs)→Q (.ref (σ.length+cs.length+1)) σ'):
  WC (ao T0 (d+2)) 58 [.ref cd,.bool bk] σ Q:=by
 have aX:(bq cs).length=cs.length:=by simp[bq]
 have Rs:dc .len [.ref cd] σ=some (.int cs.length,σ):=by rw[HL,h];exact congrArg (fun n:Nat=>some (AV.int n,σ)) (List.length_map _)
 have RQ:dz .range [.int (cs.length:Int)] σ=some (di 0 cs.length,none):=by
  show gO (d9 0&&d9 cs.length) _=_
  rw[show d9 (cs.length:Int)=true from decide_eq_true (by lia)];rfl
 have QY:∀ρ:ag,ρ 68=some (.ref cd)→ca none [53] true (dA (ao T0 (d+1)) [] (.call 11 [.idx (.v 68) (.v 53),.ci 0,.v 53])) ρ (di 0 (cs.length:Int)) σ=some ((List.range' σ.length cs.length).map .ref,σ++(bq cs).map a7):=fun ρ hρ=>by
  have e:=Iu (gd:=none) (xs:=[53]) (one:=true) (turn:=dA (ao T0 (d+1)) [] (.call 11 [.idx (.v 68) (.v 53),.ci 0,.v 53])) (ρ:=ρ) (g:=fun v=>match v with |.int k=>a7 ⟨cs.getD k.toNat 0,0,k,0,0,false⟩ |_=>.list []) (vs:=di 0 (cs.length:Int)) (σ:=σ) (fun _=>rfl) (fun v hv l=>by
   rw[tr]at hv
   refine am (List.mem_map.mp hv) fun k hk e29=>?_
   subst e29
   have hk:=List.mem_range.mp hk
   refine⟨_,rfl,?_⟩
   have hx:eh (σ++l) (.ref cd) (.int (k:Int))=some (.int (cs.getD k 0)):=by
    rw[yr,al h]
    show(dK k (cs.map AV.int).length).bind _=_
    have hn:dK k (cs.map AV.int).length=some k:=by
     unfold dK
     rw[if_pos (Int.natCast_nonneg k),if_pos (by rw[List.length_map];exact Int.ofNat_lt.mpr hk)];rfl
    rw[hn]
    show(cs.map AV.int)[k]?=_
    rw[List.getElem?_map,List.getD_eq_getElem?_getD,List.getElem?_eq_getElem hk];rfl
   have:WE (ao T0 (d+1)) (.call 11 [.idx (.v 68) (.v 53),.ci 0,.v 53]) (aF ρ 53 (.int (k:Int))) (σ++l) fun x s=>x=.ref (σ++l).length∧s=(σ++l)++[a7 ⟨cs.getD k 0,0,k,0,0,false⟩]:=
    bG (aL (ac (aQ (ab hρ) (ab rfl) hx) (ac ar (ac (ab rfl) ak))) (HV ⟨rfl,rfl⟩))
   refine bH (WE.elim this) fun x s e1 e39 e49=>?_
   subst e39
   subst e49
   show aO (ev aP _ _ _ _) _=_
   rw[e1];rfl)
  rw[e,tr,List.length_map,List.length_range,List.map_map]
  refine congrArg (fun l=>some (_,σ++l)) (List.ext_getElem (by simp[bq]) fun i h1 h2=>?_)
  simp[bq]
  simp at h1
  simp[h1]
 refine bM rfl rfl rfl ?_
 refine eK (bG (bu (cO (aL (ac (cZ (ac (ab rfl) ak) Rs) ak) (aA RQ (aZ (QY _ rfl) ?_))))))
 refine⟨by simp;lia,?_⟩
 have de:(σ++(bq cs).map a7).length=σ.length+cs.length:=by simp[aX]
 rw[de]
 refine N2 ?_
 have eH:(σ++(bq cs).map a7++[ae.list ((List.range' σ.length cs.length).map .ref)]).length=σ.length+cs.length+1:=by simp[aX];lia
 rw[eH]
 obtain hs:σ++(bq cs).map a7++[ae.list ((List.range' σ.length cs.length).map .ref)]++[et (σ.length+cs.length) bk]=σ++(bq cs).map a7++[.list ((List.range' σ.length cs.length).map .ref),et (σ.length+cs.length) bk]:=by simp
 obtain ht:bF σ (.ref (σ.length+cs.length+1),σ++(bq cs).map a7++[ae.list ((List.range' σ.length cs.length).map .ref)]++[et (σ.length+cs.length) bk])=(.ref (σ.length+cs.length+1),σ++(bq cs).map a7++[ae.list ((List.range' σ.length cs.length).map .ref)]++[et (σ.length+cs.length) bk]):=by
  unfold bF
  have:¬(σ.length+cs.length+1<σ.length):=by lia
  simp only[AV.under,this,decide_false,Bool.false_and,Bool.false_eq_true,if_false,cond_false]
 show Q (bF σ _).1 (bF σ _).2
 rw[ht,hs]
 refine q _ rfl ⟨?_,?_,?_,List.nodup_range',fun i hi=>?_⟩
 ·rw[←hs,←eH];exact aw
 ·rw[←hs,←de];exact al aw
 ·rw[←aX];exact J2 rfl rfl
 ·obtain⟨p,_,rfl⟩:=List.mem_map.mp hi;rfl
end
theorem Dm {σ:St}{r:Nat}{i:In}:∀{rs:List Nat} {is:List In},a9 σ rs is→r∉rs→a9 (σ.set r (a7 i)) rs is:=fun h hr=>h.same fun q m=>List.getElem?_set_ne (by rintro rfl;exact hr m)
theorem dy {σ:St}{r:Nat}{o o':ae}(h:σ[r]?=some o):(σ.set r o')[r]?=some o':=by rw[List.getElem?_set_self (cu h)]
theorem AF {σ:St}{r:Nat}{o:ae}(h:σ[r]?=some o):σ.set r o=σ:=by
 apply List.ext_getElem?
 intro k
 by_cases e:r=k
 ·subst e;rw[dy h,h]
 ·rw[List.getElem?_set_ne e]
noncomputable def eM (rs:List Nat)(σ σ':St):Prop:=σ'.length=σ.length∧∀r,r∉rs→σ'[r]?=σ[r]?
theorem eM.refl {rs:List Nat}{σ:St}:eM rs σ σ:=⟨rfl,fun _ _=>rfl⟩
theorem eM.set {rs:List Nat}{σ σ':St}{r:Nat}{o:ae}(h:eM rs σ σ')(hr:r∈rs):eM rs σ (σ'.set r o):=⟨by rw[List.length_set];exact h.1,fun q hq=>by rw[List.getElem?_set_ne (by rintro rfl;exact hq hr)];exact h.2 q hq⟩
theorem eM.get {rs:List Nat}{σ σ':St}(h:eM rs σ σ'){r:Nat}{o:ae}(e:σ[r]?=some o)(hr:r∉rs):σ'[r]?=some o:=(h.2 r hr).trans e
noncomputable def qq (o:ae):Nat:=ae.casesOn o (fun _=>0) (fun _=>1) (fun c _=>c+3) fun _=>2
theorem yO {o o':ae}(h:Nat.beq (qq o) (qq o')=false):o≠o':=fun e=>by
 rw[e,Nat.beq_refl]at h;cases h
theorem cC {σ:St}{rs:List Nat}{is:List In}(h:a9 σ rs is){r:Nat}{o:ae}(e:σ[r]?=some o)(ho:Nat.beq (qq o) 14=false):r∉rs:=fun m=>by
 obtain⟨i,_,e'⟩:=h.mem m
 rw[e]at e'
 exact yO (o':=a7 i) ho (Option.some.inj e')
section
variable {cf:Cf}{gd:Option (Nat×ae)}{QF:Fl→ag→St→Prop}
inductive Df (σ:St)(rs:List Nat)(is:List In)(P:ag→Prop)(g:In→In)(vs:List AV)(ρ:ag)(σ':St):Prop
 |mk (r1 r2 i1 i2:_)(q1:rs=r1++r2)(q2:is=i1++i2)(q3:vs=r2.map .ref)(q4:P ρ)(q5:eM rs σ σ')(q6:a9 σ' r1 (i1.map g))(q7:a9 σ' r2 i2):Df σ rs is P g vs ρ σ'
theorem FZ {x:Nat}{body:List S}{g:In→In}{rs:List Nat}{is:List In}{σ:St}{P:ag→Prop}(gv:rs.Nodup)(hI:a9 σ rs is)(Js:∀σ',eM rs σ σ'→b8 gd σ'=true)
  (hb:∀ρ σ' r i,r∈rs→i∈is→P ρ→eM rs σ σ'→σ'[r]?=some (a7 i)→WB cf body (aF ρ x (.ref r)) σ' fun f ρ' s=>(f=.next∨f=.cont)∧P ρ'∧s=σ'.set r (a7 (g i)))
  (q:∀ρ' σ',P ρ'→eM rs σ σ'→a9 σ' rs (is.map g)→QF .next ρ' σ'){ρ:ag}(hP:P ρ):OF (dt gd [x] true (fun ρ σ=>bJ aP cf body ρ σ) (rs.map .ref) ρ σ) QF:=by
 refine xR (I:=Df σ rs is P g) ?_ ?_ ⟨[],rs,[],is,rfl,rfl,rfl,hP,.refl,trivial,hI⟩
 ·rintro v vs ρ σ' ⟨r1,r2,i1,i2,e1,e2,e3,hp,hS,h1,h2⟩
  refine⟨Js _ hS,?_⟩
  refine ah fun aa=>?_
  cases r2 with
  |nil=>simp at e3
  |cons r r2=>
   cases i2 with
   |nil=>refine aa ?_;exact h2.elim
   |cons i i2=>
    simp only[List.map_cons,List.cons.injEq]at e3
    obtain⟨rfl,rfl⟩:=e3
    obtain hr:r∈rs:=e1▸List.mem_append_right _ (List.mem_cons_self ..)
    refine aa ?_
    refine⟨_,rfl,(hb ρ σ' r i hr (e2▸List.mem_append_right _ (List.mem_cons_self ..)) hp hS h2.1).mono ?_⟩
    rintro f ρ' s ⟨hf,gw,rfl⟩
    obtain nd:(r1++r::r2).Nodup:=e1▸gv
    have n1:r∉r1:=fun m=>by
     have:=(List.nodup_append.mp nd).2.2 r m r (List.mem_cons_self ..)
     exact this rfl
    obtain n2:r∉r2:=(List.nodup_cons.mp (List.nodup_append.mp nd).2.1).1
    have I':Df σ rs is P g (r2.map .ref) ρ' (σ'.set r (a7 (g i))):=by
     refine⟨r1++[r],r2,i1++[i],i2,by rw[e1];simp,by rw[e2];simp,rfl,gw,hS.set hr,?_,Dm h2.2 n2⟩
     rw[List.map_append]
     exact(Dm h1 n1).cat ⟨dy h2.1,trivial⟩
    rcases hf with rfl |rfl<;>exact I'
 ·intro ρ σ' q29
  refine ah fun aa=>?_
  obtain⟨r1,r2,i1,i2,e1,e2,e3,hp,hS,h1,h2⟩:=q29
  refine aa ?_
  refine⟨Js _ hS,?_⟩
  refine ah fun aa=>?_
  cases r2 with
  |cons r r2=>simp at e3
  |nil=>
   cases i2 with
   |cons i i2=>refine aa ?_;exact h2.elim
   |nil=>
    rw[List.append_nil]at e1 e2
    subst e1 e2
    exact aa (q _ _ hp hS h1)
end
section
variable {d:Nat}{σ:St}{Q:AV→St→Prop}
theorem Ni {σ':St}{v:AV}{ρ:ag}(h:σ'.length=σ.length)(q:Q v σ'):dk σ Q (.ret v) ρ σ':=by
 show Q (bF σ (v,σ')).1 (bF σ (v,σ')).2
 rcases lD σ σ' v with e | ⟨e,l,rfl⟩
 ·rw[e];exact q
 ·have:l=[]:=by
   rw[List.length_append]at h
   exact List.length_eq_zero_iff.mp (by lia)
  subst this
  rw[List.append_nil]at e q ⊢
  rw[e];exact q
theorem Bi {σ':St}{ρ:ag}(h:σ'.length=σ.length)(q:Q .none σ'):dk σ Q .next ρ σ':=Ni (ρ:=ρ) h q
theorem aD.same {σ σ':St}{b l:Nat}{bk:Bool}{rs:List Nat}{is is':List In}(h:aD σ b l bk rs is)(s:eM rs σ σ')(k:a9 σ' rs is')(g:∀i∈is',i.glyph=0):aD σ' b l bk rs is':=
 ⟨s.get h.buf (cC h.infos h.buf rfl),s.get h.row (cC h.infos h.row rfl),k,h.nd,g⟩
noncomputable def fJ (i:In):In:={i with kind:=fY i.code}
theorem H4 {b l:Nat}{bk:Bool}{rs:List Nat}{is:List In}(h:aD σ b l bk rs is)(q:∀σ',eM rs σ σ'→aD σ' b l bk rs (is.map fJ)→Q .none σ'):WC (ao T0 (d+4)) 168 [.ref b] σ Q:=by
 refine bM rfl rfl rfl (fb (ac (aM (ab rfl) h.buf rfl) ak) (cx h.row) ?_)
 refine FZ (g:=fJ) (is:=is) (P:=fun _=>True) h.nd h.infos ?_ ?_ ?_ trivial
 ·exact fun σ' hS=>bg (hS.get h.row (cC h.infos h.row rfl))
 ·exact fun ρ σ' r i hr hi _ hS e=>gR (bR (ac (aM (ab rfl) e rfl) ak) ⟨Oo⟩) (ab rfl) e rfl rfl (tE ⟨.inl rfl,trivial,rfl⟩)
 ·intro ρ' σ' _ hS hI
  refine Bi hS.1 (q _ hS (h.same hS hI fun i hi=>?_))
  refine am (List.mem_map.mp hi) fun j hj e29=>?_
  subst e29
  exact h.gl j hj
theorem fk {b l:Nat}{bk:Bool}{rs:List Nat}{is:List In}(h:aD σ b l bk rs is){k:Nat}(hk:k<rs.length):∃r i,rs[k]?=some r∧is[k]?=some i∧r∈rs∧i∈is∧eh σ (.ref l) (.int (k:Int))=some (.ref r)∧σ[r]?=some (a7 i):=by
 obtain e:rs[k]?=some rs[k]:=List.getElem?_eq_getElem hk
 refine am (h.infos.get e) fun i e1 e2=>?_
 exact⟨_,i,e,e1,List.getElem_mem hk,List.mem_of_getElem? e1,c7 h.row (by rw[List.getElem?_map,e];rfl),e2⟩
theorem tu {b l:Nat}{bk:Bool}{rs:List Nat}{is:List In}(h:aD σ b l bk rs is):dc .len [.ref l] σ=some (.int rs.length,σ):=gC h.row (List.length_map _)
inductive Dg (σ:St)(b:Nat)(rs:List Nat)(n:Nat)(ρ:ag)(s:St):Prop
 |mk (q1:s=σ)(q2:ρ 57=some (.ref b))(q3:∃k:Nat,ρ 53=some (.int (k:Int))∧n=rs.length - k):Dg σ b rs n ρ s
theorem Ie {b l cm:Nat}{bk:Bool}{rs:List Nat}{is:List In}(h:aD σ b l bk rs is)(hs:∀i∈is,w7 i.code=false)(hn:rs.length≤90):ao T0 (d+2) 248 [.ref b,.ref cm] σ=some (.none,σ):=by
 refine b5 rfl rfl rfl (ba ar (pI ?_))
 refine pL (I:=Dg σ b rs) ?_ (n:=rs.length - 1) ⟨rfl,by rfl,1,by rfl,rfl⟩ (Nat.lt_of_le_of_lt (Nat.sub_le ..) (Nat.lt_of_le_of_lt hn (by decide)))
 rintro n ρ s ⟨rfl,h57,k,h53,hk⟩
 refine aJ (ay (ab h53) (cZ (ac (aM (ab h57) h.buf rfl) ak) (tu h)) rfl) (aA rfl ?_)
 by_cases bB:(k:Int)<(rs.length:Int)
 ·refine bT (decide_eq_true bB) ⟨rs.length - (k+1),hk.trans (Nat.succ_pred_eq_of_pos (Nat.sub_pos_of_lt (Int.ofNat_lt.mp bB))).symm,?_⟩
  refine cq (fk h (k:=k) (Int.ofNat_lt.mp bB)) fun r i _ _ _ hi e3 e4=>?_
  refine ba ar (aW (bR (ac (aM (aQ (aM (ab h57) h.buf rfl) (ab h53) e3) e4 rfl) ak) ⟨ON⟩) rfl (bA (hs i hi) (bt ?_)))
  refine aW (t:=false) (ay (ab rfl) ar rfl) rfl (bt (ba (bI (ab h53) ar rfl) ?_))
  exact Dg.mk rfl h57 ⟨k+1,rfl,rfl⟩
 ·exact bA (decide_eq_false bB) (tE (Hs ⟨rfl,rfl⟩))
end
theorem iT {σ l:St}{o:ae}:σ.length<(σ++o::l).length:=by rw[List.length_append];exact Nat.lt_add_of_pos_right (Nat.succ_pos _)
theorem co {σ l:St}:σ.length≤(σ++l).length:=by rw[List.length_append];exact Nat.le_add_right ..
theorem AC {σ:St}{r:Nat}{v:AV}{us:List AV}(h:σ[r]?=some (.list us))(e:us.length<1000000):d6 51 (.ref r) [v] σ=some (.none,σ.set r (.list (us++[v]))):=by
 rw[uP,h]
 show gO (decide (us.length<1000000)) _=_
 rw[decide_eq_true e];rfl
theorem pH {ρ:ag}{x y:Nat}{v:AV}(h:y≠x):aF ρ x v y=ρ y:=by rw[Xw,beq_eq_false_iff_ne.mpr h];rfl
theorem xT {cf:Cf}{QF:Fl→ag→St→Prop}{ρ:ag}{σ:St}{x n:Nat}{b:List S}(I:Nat→ag→St→Prop)(h1:∀k ρ σ,k<n→I k ρ σ→WB cf b (aF ρ x (.int (k:Int))) σ (Kf QF (I (k+1))))(h2:∀ρ σ,I n ρ σ→QF .next ρ σ)(h:I 0 ρ σ):OF (dt none [x] true (fun ρ σ=>bJ aP cf b ρ σ) (di 0 (n:Int)) ρ σ) QF:=by
 rw[tr,List.range_eq_range']
 refine xS (w:=fun k:Nat=>.int (k:Int)) (I:=fun l ρ σ=>∃k,l=List.range' k (n - k)∧k≤n∧I k ρ σ) ?_ ?_ ⟨0,rfl,Nat.zero_le _,h⟩
 ·rintro a l ρ σ ⟨k,e,hk,h⟩
  refine⟨rfl,?_⟩
  rcases Nat.lt_or_eq_of_le hk with q |rfl
  ·rw[show n - k=(n - (k+1))+1 from(Nat.succ_pred_eq_of_pos (Nat.sub_pos_of_lt q)).symm,List.range'_succ]at e
   cases e
   exact(h1 a ρ σ q h).mono fun f r s j=>by cases f<;>first |exact j |exact⟨a+1,rfl,q,j⟩
  ·rw[Nat.sub_self]at e;cases e
 ·rintro ρ σ ⟨k,e,hk,h⟩
  refine⟨rfl,h2 _ _ ?_⟩
  rcases Nat.lt_or_eq_of_le hk with q |rfl
  ·rw[show n - k=(n - (k+1))+1 from(Nat.succ_pred_eq_of_pos (Nat.sub_pos_of_lt q)).symm,List.range'_succ]at e;cases e
  ·exact h
section
variable {d:Nat}{σ:St}{Q:AV→St→Prop}{c:Int}
theorem ec {σ':St}{r:Nat}{ρ:ag}(h:σ.length≤r)(q:Q (.ref r) σ'):dk σ Q (.ret (.ref r)) ρ σ':=by
 show Q (bF σ (.ref r,σ')).1 (bF σ (.ref r,σ')).2
 rcases lD σ σ' (.ref r)with e | ⟨e,l,rfl⟩
 ·rw[e];exact q
 ·unfold bF at e ⊢
  rw[show AV.under σ.length (.ref r)=false from decide_eq_false (Nat.not_lt.mpr h)]
  exact q
theorem Oj (h:c<44032):ao T0 (d+1) 98 [.int c] σ=some (.none,σ):=
 b5 rfl rfl rfl (ba (bI (ab rfl) (dq rfl) rfl) (aW (gp (pX (t:=false) ar (ab rfl) (congrArg some (decide_eq_false (by lia))) rfl) rfl) rfl (a6 ew (bE rfl rfl))))
noncomputable def Fw (c:Int):AV:=if c=224 then .tup [.int 97,.int 768]else .none
theorem H7 {nm:Nat}(h:NM σ nm)(hc:c<44032):ao T0 (d+2) 196 [.ref nm,.int c] σ=some (Fw c,σ):=by
 refine bH h fun kk kk' h1 h2 h3=>b5 rfl rfl rfl ?_
 unfold Fw
 by_cases q:c=224
 ·rw[if_pos q]
  subst q
  exact aW (ay (ab rfl) (aM (ab rfl) h1 rfl) (yt h2 rfl rfl)) rfl (a6 (aQ (aM (ab rfl) h1 rfl) (ab rfl) (mh h2 rfl rfl)) (bE rfl rfl))
 ·rw[if_neg q]
  have e:bc [(.int 224,.tup [.int 97,.int 768])] (.int c)=none:=if_neg fun e=>q (eq_of_beq e).symm
  exact aW (ay (ab rfl) (aM (ab rfl) h1 rfl) (yt (t:=false) h2 rfl (congrArg _ e))) rfl (bt (a6 (bR (ac (ab rfl) ak) ⟨Oj hc⟩) (bE rfl rfl)))
theorem Ic {nm r:Nat}{rest:List AV}(h:NM σ nm)(hc:c<44032)(hq:c≠224)(hr:σ[r]?=some (.list (.int c::rest))):ao T0 (d+3) 233 [.ref nm,.ref r] σ=some (.none,σ):=
 have e:Fw c=.none:=if_neg hq
 b5 rfl rfl rfl (ba (v:=.none) (bR (ac (ab rfl) (ac (aQ (ab rfl) ar (c7 (k:=0) hr rfl)) ak)) ⟨e▸H7 h hc⟩) (aW (ay (ab rfl) ew rfl) rfl (a6 ew (bE rfl rfl))))
theorem OS {nm r:Nat}(h:NM σ nm)(hr:σ[r]?=some (.list [.int 224]))(q:Q (.ref (σ.length+2)) (σ++[.list [.int 97,.int 768],.list [],.list [.int 97,.int 768]])):WC (ao T0 (d+3)) 233 [.ref nm,.ref r] σ Q:=by
 refine bM rfl rfl rfl (ba (v:=.tup [.int 97,.int 768]) (bR (ac (ab rfl) (ac (aQ (ab rfl) ar (c7 (k:=0) hr rfl)) ak)) ⟨H7 h (by decide)⟩) ?_)
 refine aW (ay (ab rfl) ew rfl) rfl (bt (aW (t:=false) (ay (aQ (v:=.int 768) (ab rfl) ar rfl) ar rfl) rfl (bt (eK (pM (c9 (aL (ac (aQ (ab rfl) ar rfl) (ac (aQ (ab rfl) ar rfl) ak)) (jm (aJ (ab rfl) (aJ ar (aJ ew (aZ (pE (al hr) rfl rfl) (aZ (by exact lO (al aw) aw (by decide)) ?_)))))))))))))
 rw[List.append_assoc,List.append_assoc,List.length_append]
 exact ec (Nat.le_add_right ..) q
noncomputable def uu (c:Int):List Int:=if c=224 then[97,768]else[c]
theorem uU {s:St}{r:Nat}{vs:List AV}{v:AV}(h:s[r]?=some (.list (vs++[v]))):eh s (.ref r) (.int (-1))=some v:=by
 rw[yr,h]
 show(dK (-1) (vs++[v]).length).bind _=_
 have:dK (-1) (vs++[v]).length=some vs.length:=by
  rw[dK,if_neg (by decide),List.length_append,if_pos (by simp only[List.length_singleton];lia)]
  exact congrArg some (by simp only[List.length_singleton];lia)
 rw[this]
 exact List.getElem?_concat_length
inductive JZ (σ:St)(c:Int)(nm:Nat)(n:Nat)(ρ:ag)(s:St):Prop
 |mk (q1:n=1)(q2:s=σ++[.list [.int c],.list [.ref σ.length],.list [.int c]])(q3:ρ 90=some (.ref (σ.length+1)))(q4:ρ 184=some (.ref nm)):JZ σ c nm n ρ s
theorem MJ {nm:Nat}(q:WB (ao T0 (d+3)) [A9.body.getLast (by decide)] (aF (aF (cX [184,67] [.ref nm,.int c]) 90 (.ref (σ.length+1))) 176 (.ref (σ.length+2))) (σ++[.list [.int c],.list [.ref σ.length],.list [.int c]]) (dk σ Q)):WC (ao T0 (d+4)) 234 [.ref nm,.int c] σ Q:=by
 refine bM rfl rfl rfl (bS (c9 (bu (c9 (aL (ac (ab rfl) ak) (a8 (pS (ac (ab rfl) ak) ?_)))))))
 rw[List.append_assoc,List.append_assoc,List.length_append,List.length_append]
 exact q
theorem OX {nm:Nat}(h:NM σ nm)(hc:c<44032)(hq:c≠224)(q:Q (.ref (σ.length+1)) (σ++[.list [.int c],.list [.ref σ.length],.list [.int c]])):WC (ao T0 (d+4)) 234 [.ref nm,.int c] σ Q:=by
 refine MJ (pI (pL (I:=JZ σ c nm) ?_ (n:=1) ⟨rfl,rfl,rfl,rfl⟩ (by decide)))
 rintro n ρ s ⟨rfl,rfl,bL,h184⟩
 exact⟨0,rfl,ba (bR (ac (ab h184) (ac (aQ (ab bL) (gW ar) (uU (vs:=[]) (b9 rfl))) ak)) ⟨Ic h.app hc hq (b9 (k:=0) rfl)⟩) (aW (jD (ay (ab rfl) ew rfl) rfl rfl) rfl (a6 (ab bL) (ec (Nat.le_add_right ..) q)))⟩
inductive Dh (σ:St)(nm:Nat)(n:Nat)(ρ:ag)(s:St):Prop
 |mk (q1:ρ 90=some (.ref (σ.length+1)))(q2:ρ 176=some (.ref (σ.length+2)))(q3:ρ 184=some (.ref nm))(q4:((n=2∧s=σ++[.list [.int 224],.list [.ref σ.length],.list [.int 224]])∨(n=1∧∃l,s=σ++l∧l[1]?=some (.list [.ref σ.length,.ref (σ.length+5)])∧l[5]?=some (.list [.int 97,.int 768])))):Dh σ nm n ρ s
theorem OW {nm:Nat}(h:NM σ nm)(q:∀l,(σ++l)[σ.length+1]?=some (.list [.ref σ.length,.ref (σ.length+5)])→(σ++l)[σ.length+5]?=some (.list [.int 97,.int 768])→Q (.ref (σ.length+1)) (σ++l)):WC (ao T0 (d+4)) 234 [.ref nm,.int 224] σ Q:=by
 refine MJ (pI (pL (I:=Dh σ nm) ?_ (n:=2) ⟨rfl,rfl,rfl,.inl ⟨rfl,rfl⟩⟩ (by decide)))
 rintro n ρ s ⟨bL,B1,h184,⟨rfl,rfl⟩ | ⟨rfl,l,rfl,k1,k2⟩⟩
 ·refine⟨1,rfl,Bp (ac (ab h184) (ac (aQ (ab bL) (gW ar) (uU (vs:=[]) (b9 rfl))) ak)) (OS h.app (b9 (k:=0) rfl) ?_)⟩
  rw[List.append_assoc]
  rw[List.length_append]
  show WB _ _ (aF ρ 154 (.ref (σ.length+5))) _ _
  refine aW (jD (t:=false) (ay (ab rfl) ew rfl) rfl (ay (x:=.int 97) (y:=.ref (σ.length+2)) (t:=false) (aQ (ab rfl) ar (c7 (k:=0) (us:=[.int 97,.int 768]) (b9 rfl) rfl)) (ab B1) (Dk (b9 rfl) rfl))) rfl (bt ?_)
  refine lS (ab bL) (b9 rfl) rfl (ac (ab rfl) ak) (push (b9 rfl) rfl) ?_
  rw[jh]
  refine lS (ab B1) (b9 rfl) rfl (ac (aQ (ab rfl) ar (c7 (k:=0) (us:=[.int 97,.int 768]) (b9 rfl) rfl)) ak) (push (b9 rfl) rfl) ?_
  rw[jh]
  exact Dh.mk bL B1 h184 (.inr ⟨rfl,_,rfl,rfl,rfl⟩)
 ·exact⟨0,rfl,ba (bR (ac (ab h184) (ac (aQ (ab bL) (gW ar) (uU (vs:=[_]) (b9 k1))) ak)) ⟨Ic h.app (by decide) (by decide) (b9 k2)⟩) (aW (jD (ay (ab rfl) ew rfl) rfl rfl) rfl (a6 (ab bL) (ec (Nat.le_add_right ..) (q l (b9 k1) (b9 k2)))))⟩
noncomputable def DH (v:AV):Option AV:=(bz v).bind fun c=>if dX c=0 then some (.int c)else none
theorem KI (cs:List Int):((cs.map AV.int).filterMap DH).length=([]:List AV).length↔(cs.all fun c=>dX c !=0)=true:=by
 induction cs with
 |nil=>exact⟨fun _=>rfl,fun _=>rfl⟩
 |cons c cs ih=>
  rw[List.map_cons,List.filterMap_cons,List.all_cons,show DH (.int c)=if dX c=0 then some (.int c)else none from rfl]
  by_cases g:dX c=0
  ·rw[if_pos g,g]
   exact⟨fun e=>Nat.noConfusion e,fun e=>Bool.noConfusion e⟩
  ·rw[if_neg g,bne_iff_ne.mpr g];exact ih
theorem KK {cm r:Nat}{cs:List Int}{ρ:ag}(h:CM σ cm)(hr:σ[r]?=some (.list (cs.map .int)))(hn:cs.length≤100)(h60:ρ 60=some (.ref cm))(Qw:ρ 214=some (.ref r))
  (q:∀l,Q (.bool (cs.all fun c=>dX c !=0)) (σ++l)):WE (ao T0 (d+1)) (.cmp .eq (.lcomp [187] true .seq [.v 214] [.cmp .eq (.meth 92 (.v 60) [.v 187]) (.ci 0)] (.v 187)) (.lst [])) ρ σ Q:=by
 have hc:ca (some (r,.list (cs.map .int))) [187] true (dA (ao T0 (d+1)) [.cmp .eq (.meth 92 (.v 60) [.v 187]) (.ci 0)] (.v 187)) ρ (cs.map .int) σ=some ((cs.map .int).filterMap DH,σ):=by
  refine xJ (bg hr) fun v hv=>?_
  refine am (List.mem_map.mp hv) fun c _ e29=>?_
  subst e29
  refine⟨_,rfl,?_⟩
  refine am h fun kk h1 h2=>?_
  refine Eq.trans (xi (ay (gn (ab h60) h1 (.i rfl (ac (ab rfl) ak) ⟨tV h⟩)) ar rfl) rfl (ab rfl)) ?_
  show some (bif (dX c==0)then _ else _,_)=some ((if dX c=0 then _ else _),_)
  by_cases g:dX c=0
  ·rw[if_pos g,g];rfl
  ·rw[if_neg g,beq_eq_false_iff_ne.mpr g];rfl
 refine iq (cO (aL (ac (ab Qw) ak) (aA (cx hr) (aZ hc ⟨?_,c9 (a8 (aA (v:=cs.all fun c=>dX c !=0) ?_ ?_))⟩))))
 ·exact Nat.lt_of_le_of_lt (List.length_filterMap_le ..) (by rw[List.length_map];lia)
 ·refine t7 (al aw) aw ?_
  unfold gX
  by_cases g:(cs.all fun c=>dX c !=0)=true
  ·have e:=(KI cs).mpr g
   rw[if_pos e,g,List.length_eq_zero_iff.mp e];rfl
  ·rw[if_neg fun e=>g ((KI cs).mp e),eq_false_of_ne_true g]
 ·rw[List.append_assoc];exact q _
end
section
variable {d:Nat}{σ:St}{Q:AV→St→Prop}{c:Int}
inductive J0 (σ l:St)(cm:Nat)(vs:List AV)(ρ:ag)(s:St):Prop
 |mk (q1:vs=[.ref (σ.length+5),.ref σ.length])(q2:s=σ++l)(q3:ρ 60=some (.ref cm)):J0 σ l cm vs ρ s
inductive Di (σ:St)(c:Int)(cm:Nat)(vs:List AV)(ρ:ag)(s:St):Prop
 |mk (l':_)(q1:s=σ++[ae.list [AV.int c],.list [.ref σ.length],.list [.int c]]++l')(q2:ρ 60=some (.ref cm))(q3:ρ 67=some (.int c))(q4:(vs=[.ref σ.length]∨vs=[])):Di σ c cm vs ρ s
theorem Og {nm cm:Nat}(h:NM σ nm)(hm:CM σ cm)(hc:c<44032)(q:∀l r,σ.length≤r→(σ++l)[r]?=some (.list ((uu c).map .int))→Q (.ref r) (σ++l)):WC (ao T0 (d+5)) 96 [.ref nm,.ref cm,.int c] σ Q:=by
 refine bM rfl rfl rfl (gK (bu (bG (aL (ac (ab rfl) (ac (ab rfl) ak)) ?_))))
 by_cases h224:c=224
 ·subst h224
  refine OW h fun l k1 k2=>a8 (aA (AK k1) ?_)
  refine xR (I:=J0 σ l cm) ?_ (fun ρ s e=>by obtain⟨e,_⟩:=e;cases e) ⟨rfl,rfl,rfl⟩
  rintro v vs ρ s ⟨e,rfl,h60⟩
  cases e
  refine⟨bg k1,_,rfl,io (KK (cs:=[97,768]) hm.app k2 (by decide) h60 rfl fun l'=>aA FX (bT (by decide) (a6 (ab rfl) (ec (Nat.le_add_right ..) ?_))))⟩
  exact List.append_assoc ..▸q _ _ (Nat.le_add_right ..) (List.append_assoc ..▸al k2)
 ·refine OX h hc h224 (a8 (aA (AK (b9 rfl)) ?_))
  have hh:uu c=[c]:=if_neg h224
  rw[hh]at q
  refine xR (I:=Di σ c cm) ?_ ?_ ⟨[],(List.append_nil _).symm,rfl,rfl,.inl rfl⟩
  ·rintro v vs ρ s ⟨l',rfl,h60,dZ,e |e⟩
   ·cases e
    refine⟨bg (al (b9 rfl)),_,rfl,io (KK (cs:=[c]) hm.app.app (al (b9 (k:=0) rfl)) (Nat.le_of_ble_eq_true rfl) h60 rfl fun l''=>aA FX ?_)⟩
    cases g:[c].all (fun c=>dX c !=0)with
    |true=>
     refine a6 (ab rfl) (ec (Nat.le_refl _) ?_)
     rw[List.append_assoc,List.append_assoc]
     exact q _ _ (Nat.le_refl _) (b9 (k:=0) rfl)
    |false=>exact Di.mk (l'++l'') (List.append_assoc ..) h60 dZ (.inr rfl)
   ·cases e
  ·rintro ρ s ⟨l',rfl,h60,dZ,e⟩
   refine⟨bg (al (b9 rfl)),eK (c9 (aL (ac (ab dZ) ak) ?_))⟩
   rw[List.append_assoc,List.append_assoc]
   refine ec co (q _ _ co ?_)
   rw[←List.append_assoc,←List.append_assoc]
   exact aw
noncomputable def tB (is:List In)(k:Nat):Bool:=(is[k]?).elim false fun i=>dX i.code !=0&&(is[k+1]?).elim true fun j=>eu j.code==0
theorem OY {b l nm cm:Nat}{bk:Bool}{rs:List Nat}{is:List In}(h:aD σ b l bk rs is)(hN:NM σ nm)(hC:CM σ cm){k:Nat}(hk:k<rs.length):ao T0 (d+3) 240 [.ref l,.int (k:Int),.ref nm,.ref cm] σ=some (.bool (tB is k),σ):=by
 refine cq (fk h hk) fun r i e1 e2 hr hi e3 e4=>am hC fun kk h1 h2=>?_
 rw[show tB is k=(dX i.code !=0&&(is[k+1]?).elim true fun j=>eu j.code==0) by rw[tB,e2];rfl]
 refine b5 rfl rfl rfl (aW (t:=false) (ay (aM (aQ (ab rfl) (ab rfl) e3) e4 rfl) ar (congrArg (fun g:Int=>some (decide (g > 0))) (h.gl i hi))) rfl (bt ?_))
 refine aW (ay (gn (ab rfl) h1 (.i rfl (ac (aM (aQ (ab rfl) (ab rfl) e3) e4 rfl) ak) ⟨tV hC⟩)) ar rfl) rfl ?_
 by_cases g:dX i.code=0
 ·rw[g];exact a6 gV (bE rfl rfl)
 ·refine bA (beq_eq_false_iff_ne.mpr g) (bt ?_)
  rw[bne_iff_ne.mpr g]
  by_cases z:k+1=rs.length
  ·have z2:is[k+1]?=none:=by rw[List.getElem?_eq_none_iff,←h.infos.len];exact Nat.le_of_eq z.symm
   rw[z2]
   exact a6 (jD (ay (bI (ab rfl) ar rfl) (cZ (ac (ab rfl) ak) (tu h)) rfl) rfl (bT (beq_iff_eq.mpr (congrArg Nat.cast z)) rfl)) (bE rfl (congrArg AV.bool (beq_iff_eq.mpr (congrArg Nat.cast z))))
  ·refine cq (fk h (k:=k+1) (by lia)) fun r' j f1 f2 gy hj f3 f4=>?_
   rw[f2]
   exact a6 (jD (t:=false) (ay (bI (ab rfl) ar rfl) (cZ (ac (ab rfl) ak) (tu h)) (congrArg some (beq_eq_false_iff_ne.mpr fun e=>z (Int.ofNat_inj.mp e)))) rfl (ay (bR (ac (ab rfl) (ac (aQ (ab rfl) (bI (ab rfl) ar rfl) f3) ak)) ⟨Bu hN f4 (h.gl j hj)⟩) ar rfl)) (bE rfl rfl)
end
noncomputable def AM (i:In)(rest:List In):Bool:=dX i.code !=0&&rest.head?.elim true fun j=>eu j.code==0
noncomputable def lw (i:In)(rest:List In):List Int:=if AM i rest then[i.code]else uu i.code
noncomputable def apart:List In→List In
 | []=>[]
 |i::rest=>(lw i rest).map (fun c=>{i with code:=c})++apart rest
theorem W1 {is:List In}{k:Nat}{i:In}{rest:List In}(h:is.drop k=i::rest):tB is k=AM i rest:=by
 have e (j):is[k+j]?=(i::rest)[j]?:=by rw[←h,List.getElem?_drop]
 have e0:is[k]?=some i:=e 0
 unfold tB AM
 rw[e0,e 1,List.head?_eq_getElem?];rfl
structure AP (σ s:St)(nrs:List Nat)(nis:List In):Prop where
 ext:∃l,s=σ++l
 fd:s[σ.length]?=some (.list (nrs.map .ref))
 inf:a9 s nrs nis
 nd:nrs.Nodup
 gt:∀r∈nrs,σ.length<r
 gl:∀i∈nis,i.glyph=0
theorem AP.app {σ s m:St}{nrs:List Nat}{nis:List In}(h:AP σ s nrs nis):AP σ (s++m) nrs nis:=⟨let⟨l,e⟩:=h.ext;⟨l++m,by rw[e,List.append_assoc]⟩,al h.fd,h.inf.app,h.nd,h.gt,h.gl⟩
theorem AP.push {σ s:St}{nrs:List Nat}{nis:List In}(h:AP σ s nrs nis){j:In}(hj:j.glyph=0):AP σ ((s++[a7 j]).set σ.length (.list (nrs.map .ref++[.ref s.length]))) (nrs++[s.length]) (nis++[j]):=by
 refine xj h.ext fun l e=>?_
 have bB:=cu h.fd
 refine⟨⟨(l++[a7 j]).set 0 (.list (nrs.map .ref++[.ref s.length])),?_⟩,?_,?_,?_,fun r hr=>?_,fun i hi=>?_⟩
 ·rw[e,List.append_assoc];exact jh (k:=0)
 ·rw[dy (al h.fd),List.map_append];rfl
 ·refine a9.cat (h.inf.same fun r m=>?_) ⟨?_,trivial⟩
  ·rw[List.getElem?_set_ne (Nat.ne_of_lt (h.gt r m)),List.getElem?_append_left (h.inf.lt m)]
  ·rw[List.getElem?_set_ne (Nat.ne_of_lt bB)];exact aw
 ·refine List.nodup_append.mpr ⟨h.nd,List.nodup_cons.mpr ⟨List.not_mem_nil,List.nodup_nil⟩,fun a ha b hb=>?_⟩
  rw[List.mem_singleton.mp hb]
  exact Nat.ne_of_lt (h.inf.lt ha)
 ·exact(List.mem_append.mp hr).elim (h.gt r) fun q=>List.mem_singleton.mp q▸bB
 ·exact(List.mem_append.mp hi).elim (h.gl i) fun q=>List.mem_singleton.mp q▸hj
theorem AP.old {σ s:St}{nrs:List Nat}{nis:List In}(h:AP σ s nrs nis){r:Nat}{o:ae}(e:σ[r]?=some o):s[r]?=some o:=by
 obtain⟨l,rfl⟩:=h.ext;exact al e
noncomputable def J3:List S:=[.asg (.name 194) (.meth 69 (.v 109) []),.asg (.attr (.v 194) 67) (.v 67),.expr (.meth 51 (.v 90) [.v 194])]
section
variable {d:Nat}{σ:St}{Q:AV→St→Prop}{QF:Fl→ag→St→Prop}
inductive Dj (σ:St)(ρ:ag)(w:Nat)(i:In)(pl:List Int)(nrs:List Nat)(nis:List In)(rest:List Int)(ρ':ag)(s':St):Prop
 |mk (done nrs':_)(q1:pl=done++rest)(q3:AP σ s' nrs' (nis++done.map fun c=>{i with code:=c}))(q4:nrs'.length=nrs.length+done.length)(q5:s'[w]?=some (.list (pl.map .int)))(q6:(∀x,x≠67→x≠194→ρ' x=ρ x)):Dj σ ρ w i pl nrs nis rest ρ' s'
theorem Pr {w r:Nat}{i:In}{pl:List Int}{nrs:List Nat}{nis:List In}{s:St}{ρ:ag}(hA:AP σ s nrs nis)(hi:σ[r]?=some (a7 i))(hg:i.glyph=0)(hw:s[w]?=some (.list (pl.map .int)))(R9:w≠σ.length)(hn:nrs.length+pl.length≤1000)
  (Qv:ρ 109=some (.ref r))(bL:ρ 90=some (.ref σ.length))
  (q:∀ρ' s' nrs',AP σ s' nrs' (nis++pl.map fun c=>{i with code:=c})→nrs'.length=nrs.length+pl.length→(∀x,x≠67→x≠194→ρ' x=ρ x)→QF .next ρ' s'):
  OF (dt (some (w,.list (pl.map .int))) [67] true (fun ρ s=>bJ aP (ao T0 (d+2)) J3 ρ s) (pl.map .int) ρ s) QF:=by
 refine xS (I:=Dj σ ρ w i pl nrs nis) ?_ ?_ ⟨[],nrs,rfl,(List.append_nil nis).symm▸hA,rfl,hw,fun _ _ _=>rfl⟩
 ·rintro c rest ρ' s' ⟨done,nrs',e1,gr,hl,qm,hρ⟩
  have hf:(s'++[a7 {i with code:=c}])[σ.length]?=some (.list (nrs'.map .ref)):=al gr.fd
  refine⟨bg qm,HG (ab ((hρ 109 (by decide) (by decide)).trans Qv)) (gr.old hi) rfl ak (Oa (gr.old hi) (gR (ab rfl) (ab rfl) aw rfl rfl ?_))⟩
  rw[tw]
  refine lS (ab ((hρ 90 (by decide) (by decide)).trans bL)) hf rfl (ac (ab rfl) ak) (AC hf ?_) ?_
  ·rw[List.length_map,hl]
   have:=congrArg List.length e1
   rw[List.length_append]at this;lia
  ·refine Dj.mk (done++[c]) (nrs'++[s'.length]) (by rw[e1,List.append_assoc];rfl) ?_ (by rw[List.length_append,hl,List.length_append];rfl) ?_ fun x h1 h2=>?_
   ·rw[List.map_append,←List.append_assoc];exact gr.push (j:={i with code:=c}) hg
   ·rw[List.getElem?_set_ne (Ne.symm R9)];exact al qm
   ·rw[pH h2,pH h1];exact hρ x h1 h2
 ·rintro ρ' s' ⟨done,nrs',e1,gr,hl,qm,hρ⟩
  rw[List.append_nil]at e1
  subst e1
  exact⟨bg qm,q _ _ _ gr hl hρ⟩
theorem Bh {σ':St}{v:AV}{r:Nat}{o:ae}{ρ:ag}(h:σ[r]?=some o)(h':σ'[r]?≠some o)(q:Q v σ'):dk σ Q (.ret v) ρ σ':=by
 show Q (bF σ (v,σ')).1 (bF σ (v,σ')).2
 rcases lD σ σ' v with e | ⟨e,l,rfl⟩
 ·rw[e];exact q
 ·exact absurd (al h) h'
theorem Hr {σ':St}{r:Nat}{o:ae}{ρ:ag}(h:σ[r]?=some o)(h':σ'[r]?≠some o)(q:Q .none σ'):dk σ Q .next ρ σ':=Bh (ρ:=ρ) h h' q
noncomputable def fP (b:Nat)(σ σ':St):Prop:=σ.length≤σ'.length∧∀r,r<σ.length→r≠b→σ'[r]?=σ[r]?
inductive yq (σ:St)(b nm cm:Nat)(is:List In)(k:Nat)(ρ:ag)(s:St):Prop
 |mk (nrs nis:_)(q3:AP σ s nrs nis)(q4:nis++apart (is.drop k)=apart is)(q5:nrs.length≤2*k)(q6:ρ 57=some (.ref b))(q7:ρ 184=some (.ref nm))(q8:ρ 60=some (.ref cm))(q9:ρ 90=some (.ref σ.length)):yq σ b nm cm is k ρ s
theorem Mc {i:In}{l:List In}:(lw i l).length≤2:=by
 unfold lw uu
 cases AM i l
 ·rw[if_neg Bool.false_ne_true]
  by_cases q:i.code=224
  ·rw[if_pos q];exact Nat.le_refl 2
  ·rw[if_neg q];exact Nat.le_succ 1
 ·exact Nat.le_succ 1
theorem N6 {b l nm cm:Nat}{bk:Bool}{rs:List Nat}{is:List In}(h:aD σ b l bk rs is)(hN:NM σ nm)(hC:CM σ cm)(QW:∀i∈is,i.code<44032)(hn:rs.length≤90)
  (q:∀σ' f nrs,fP b σ σ'→aD σ' b f bk nrs (apart is)→(∀r∈nrs,σ.length<r)→Q .none σ'):WC (ao T0 (d+6)) 247 [.ref b,.ref nm,.ref cm] σ Q:=by
 refine bM rfl rfl rfl (pS ak (fb (ac (cZ (ac (aM (ab rfl) (al h.buf) rfl) ak) (tu h.app)) ak) (lC (Nat.le_trans hn (by decide))) ?_))
 refine xT (I:=yq σ b nm cm is) ?_ ?_ ⟨[],[],⟨⟨_,rfl⟩,aw,trivial,List.nodup_nil,fun r hr=>(List.not_mem_nil hr).elim,fun r hr=>(List.not_mem_nil hr).elim⟩,rfl,Nat.le_refl _,rfl,rfl,rfl,rfl⟩
 ·rintro k ρ s hk ⟨nrs,nis,hA,he,RA,h57,h184,h60,bL⟩
  have hR:aD s b l bk rs is:=by obtain⟨l',rfl⟩:=hA.ext;exact h.app
  have Ja:NM s nm:=by obtain⟨l',rfl⟩:=hA.ext;exact hN.app
  have I6:CM s cm:=by obtain⟨l',rfl⟩:=hA.ext;exact hC.app
  obtain⟨r,i,e1,e2,CW,um,e3,e4⟩:=fk hR hk
  have Jm:is.drop k=i::is.drop (k+1):=by
   obtain⟨p,e⟩:=List.getElem?_eq_some_iff.mp e2
   rw[List.drop_eq_getElem_cons p,e]
  have hiσ:σ[r]?=some (a7 i):=by
   obtain⟨l',rfl⟩:=hA.ext
   rwa [List.getElem?_append_left (h.infos.lt CW)]at e4
  have fin:∀(w:Nat) (l':St),s.length≤w→(s++l')[w]?=some (.list ((lw i (is.drop (k+1))).map .int))→
    WB (ao T0 (d+5)) [.for [67] true .seq [.v 214] J3] (aF (aF (aF ρ 53 (.int (k:Int))) 109 (.ref r)) 214 (.ref w)) (s++l') (Kf (Kn (ao T0 (d+5)) [.asg (.attr (.v 57) 214) (.v 90)] (dk σ Q)) (yq σ b nm cm is (k+1))):=by
   intro w l' uA hw
   refine fb (ac (ab rfl) ak) (cx hw) (Pr (d:=d+3) hA.app hiσ (h.gl i um) hw (Nat.ne_of_gt (Nat.lt_of_lt_of_le (cu hA.fd) uA)) ?_ rfl bL fun ρ' s' nrs' gr cQ hρ'=>?_)
   ·have:=Mc (i:=i) (l:=is.drop (k+1));lia
   ·refine yq.mk nrs' _ gr ?_ ?_ ((hρ' 57 (by decide) (by decide)).trans h57) ((hρ' 184 (by decide) (by decide)).trans h184) ((hρ' 60 (by decide) (by decide)).trans h60) ((hρ' 90 (by decide) (by decide)).trans bL)
    ·rw[List.append_assoc,←he,Jm];rfl
    ·have:=Mc (i:=i) (l:=is.drop (k+1));lia
  refine ba (aQ (aM (ab h57) hR.buf rfl) (ab rfl) e3) (bS (AZ (aJ (bR (ac (aM (ab h57) hR.buf rfl) (ac (ab rfl) (ac (ab h184) (ac (ab h60) ak)))) ⟨OY hR Ja I6 hk⟩) (aA rfl ?_))))
  unfold lw at fin
  rw[←W1 Jm]at fin
  cases bj:tB is k with
  |true=>
   rw[bj]at fin
   refine bT rfl (c9 (aL (ac (aM (ab rfl) e4 rfl) ak) ?_))
   exact fin _ _ (Nat.le_refl _) aw
  |false=>
   rw[bj]at fin
   exact bA rfl (bG (aL (ac (ab h184) (ac (ab h60) (ac (aM (ab rfl) e4 rfl) ak))) (Og Ja I6 (QW i um) fun l' w uA hw=>fin w l' uA hw)))
 ·rintro ρ s ⟨nrs,nis,hA,he,RA,h57,h184,h60,bL⟩
  have hd:is.drop rs.length=[]:=by rw[List.drop_eq_nil_iff,←h.infos.len];exact Nat.le_refl _
  rw[hd]at he
  have he:nis=apart is:=(List.append_nil nis).symm.trans he
  subst he
  have hR:aD s b l bk rs is:=by obtain⟨l',rfl⟩:=hA.ext;exact h.app
  have ug:=cu h.buf
  have Jf:(s.set b (et σ.length bk))[b]?=some (et σ.length bk):=dy hR.buf
  refine gR (ab bL) (ab h57) hR.buf rfl rfl (tE (Hr h.buf ?_ (q _ σ.length nrs ⟨?_,fun r hr hb=>?_⟩ ⟨Jf,?_,hA.inf.same fun r hr=>?_,hA.nd,hA.gl⟩ hA.gt)))
  ·intro e
   cases Option.some.inj (Jf.symm.trans e)
   exact Nat.lt_irrefl _ (cu h.row)
  ·obtain⟨l',rfl⟩:=hA.ext
   rw[List.length_set];exact co
  ·obtain⟨l',rfl⟩:=hA.ext
   rw[List.getElem?_set_ne (Ne.symm hb),List.getElem?_append_left hr]
  ·rw[List.getElem?_set_ne (Nat.ne_of_lt ug)];exact hA.fd
  ·rw[List.getElem?_set_ne (Nat.ne_of_lt (Nat.lt_trans ug (hA.gt r hr)))]
end
noncomputable def dN (p:Nat×Nat):AV:=.tup [.int p.1,.int p.2]
noncomputable def xm (cs:List Int)(p:Nat×Nat):Prop:=p.1<p.2∧p.2≤cs.length∧∀i,p.1≤i→i<p.2→cs[i]?=some 230
noncomputable def cD (ns:List Nat):List AV:=ns.map fun(n:Nat)=>AV.int (n:Int)
theorem PJ (l:List Int):eA (ce 3) (l.map .int) (l.map .int)=some true:=by
 induction l with
 |nil=>rfl
 |cons a l ih=>
  show(some (a==a)).bind (fun r=>(eA (ce 3) (l.map .int) (l.map .int)).map (r&&·))=_
  rw[ih,beq_self_eq_true];rfl
theorem PF (l:List Int):gX (l.map .int) (l.map .int)=some true:=by unfold gX;rw[if_pos rfl,PJ]
theorem SH (ns:List Nat):cD ns=(ns.map fun(n:Nat)=>(n:Int)).map .int:=(List.map_map ..).symm
theorem FC {a b:Nat}(h:a≤b):di (a:Int) (b:Int)=cD (List.range' a (b - a)):=by
 unfold di cD
 rw[Int.toNat_sub b a,List.range'_eq_map_range,List.map_map]
 rfl
section
variable {d:Nat}{σ:St}{Q:AV→St→Prop}
theorem DB {r:Nat}{cs:List Int}(h:σ[r]?=some (.list (cs.map .int))){k:Nat}(hk:k<cs.length):eh σ (.ref r) (.int (k:Int))=some (.int cs[k]):=
 c7 h (by rw[List.getElem?_map,List.getElem?_eq_getElem hk];rfl)
inductive qo (σ:St)(r:Nat)(cs:List Int)(k:Nat)(ρ:ag)(s:St):Prop
 |mk (rns:List (Nat×Nat))(q3:s=σ++[.list (rns.map dN)])(q4:rns.length≤k)(q5:∀p∈rns,xm cs p)(q6:ρ 64=some (.ref r))(q7:ρ 217=some (.ref σ.length))(q8:ρ 54=some (.int (-1))∨∃a:Nat,ρ 54=some (.int (a:Int))∧a<k∧k≤cs.length∧∀i,a≤i→i<k→cs[i]?=some 230):qo σ r cs k ρ s
theorem OM {r:Nat}{cs:List Int}(h:σ[r]?=some (.list (cs.map .int)))(hc:∀c∈cs,c=0∨c=230)(hn:cs.length≤200)
  (q:∀l f (rns:List (Nat×Nat)),σ.length≤f→(σ++l)[f]?=some (.list (rns.map dN))→(∀p∈rns,xm cs p)→Q (.ref f) (σ++l)):WC (ao T0 (d+1)) 169 [.ref r] σ Q:=by
 have aX (l:St):dc .len [.ref r] (σ++l)=some (.int cs.length,σ++l):=gC (al h) (List.length_map _)
 refine bM rfl rfl rfl (pS ak (ba (gW ar) (fb (ac (bI (cZ (ac (ab rfl) ak) (aX _)) ar rfl) ak) (lC (n:=cs.length+1) (Nat.le_trans (Nat.succ_le_succ hn) (by decide))) ?_)))
 refine xT (I:=qo σ r cs) ?_ ?_ ⟨[],rfl,Nat.le_refl _,fun p hp=>(List.not_mem_nil hp).elim,rfl,rfl,.inl rfl⟩
 ·rintro k ρ _ hk ⟨rns,rfl,ff,hg,dR,lX,dI⟩
  obtain⟨u,hu,e⟩:∃u:Bool,(u=true→k<cs.length∧cs[k]?=some 230)∧Ev ⟨ao T0 d,aF ρ 53 (.int (k:Int)),σ++[.list (rns.map dN)]⟩ (.and (.cmp .lt (.v 53) (.bi .len [.v 64])) (.cmp .gt (.idx (.v 64) (.v 53)) (.ci 0))) (.bool u):=by
   have e1:=ay (op:=.lt) (ab (c:=⟨ao T0 d,aF ρ 53 (.int (k:Int)),σ++[.list (rns.map dN)]⟩) (n:=53) rfl) (cZ (ac (ab (n:=64) dR) ak) (aX _)) rfl
   by_cases bB:k<cs.length
   ·have e2:=ay (op:=.gt) (aQ (ab (c:=⟨ao T0 d,aF ρ 53 (.int (k:Int)),σ++[.list (rns.map dN)]⟩) (n:=64) dR) (ab (n:=53) rfl) (DB (al h) bB)) (ar (j:=0)) rfl
    have e3:=decide_eq_true (Int.ofNat_lt.mpr bB)
    rcases hc cs[k] (List.getElem_mem bB)with g |g
    ·rw[g]at e2
     exact⟨false,nofun,b0 e1 rfl (bT e3 e2)⟩
    ·rw[g]at e2
     exact⟨true,fun _=>⟨bB,(List.getElem?_eq_getElem bB).trans (congrArg some g)⟩,b0 e1 rfl (bT e3 e2)⟩
   ·exact⟨false,nofun,b0 e1 rfl (bA (decide_eq_false fun e=>bB (Int.ofNat_lt.mp e)) (congrArg AV.bool (decide_eq_false fun e=>bB (Int.ofNat_lt.mp e))))⟩
  refine ba e ?_
  cases u with
  |true=>
   obtain⟨bB,ul⟩:=hu rfl
   rcases dI with dI | ⟨a,dI,ha,Jc,eP⟩
   ·refine aW (b0 (ab rfl) rfl (ay (ab dI) ar rfl)) rfl (ba (ab rfl) (bt (aW (b0 (t:=false) (gp (ab rfl) rfl) rfl rfl) rfl ?_)))
    exact qo.mk rns rfl (Nat.le_succ_of_le ff) hg dR lX (.inr ⟨k,rfl,Nat.lt_succ_self k,bB,fun i h1 h2=>Nat.le_antisymm (Nat.le_of_lt_succ h2) h1▸ul⟩)
   ·refine aW (b0 (ab rfl) rfl (ay (ab dI) ar rfl)) rfl (bA (decide_eq_false (Int.not_lt.mpr (Int.natCast_nonneg a))) (bt (aW (b0 (t:=false) (gp (ab rfl) rfl) rfl rfl) rfl ?_)))
    exact qo.mk rns rfl (Nat.le_succ_of_le ff) hg dR lX (.inr ⟨a,dI,Nat.lt_succ_of_lt ha,bB,fun i h1 h2=>(Nat.lt_succ_iff_lt_or_eq.mp h2).elim (eP i h1) fun e=>e▸ul⟩)
  |false=>
   refine aW (b0 (ab rfl) rfl rfl) rfl (bt ?_)
   rcases dI with dI | ⟨a,dI,ha,Jc,eP⟩
   ·refine aW (b0 (gp (ab rfl) rfl) rfl (ay (ab dI) ar rfl)) rfl ?_
    exact qo.mk rns rfl (Nat.le_succ_of_le ff) hg dR lX (.inl dI)
   ·refine aW (b0 (gp (ab rfl) rfl) rfl (ay (ab dI) ar rfl)) rfl (bT (decide_eq_true (Int.natCast_nonneg a)) (lS (ab lX) aw rfl (ac (cG (ac (ab dI) (ac (ab rfl) ak))) ak) (AC aw ?_) (ba (gW ar) ?_)))
    ·rw[List.length_map];lia
    ·refine qo.mk (rns++[(a,k)]) ?_ ?_ (fun p hp=>(List.mem_append.mp hp).elim (hg p) fun hp=>List.mem_singleton.mp hp▸⟨ha,Jc,eP⟩) dR lX (.inl rfl)
     ·rw[tw,List.map_append];rfl
     ·rw[List.length_append];exact Nat.succ_le_succ ff
 ·rintro ρ _ ⟨rns,rfl,ff,hg,dR,lX,dI⟩
  exact a6 (ab lX) (ec (Nat.le_refl _) (q _ _ rns (Nat.le_refl _) aw hg))
end
noncomputable def mu (n:Nat):AV:=.tup [.int 230,.int (n:Int)]
theorem U5 (m a:Nat):ly ((List.range' a m).map mu)=true:=by
 induction m generalizing a with
 |zero=>rfl
 |succ m ih=>
  rw[List.range'_succ]
  cases m with
  |zero=>rfl
  |succ m=>
   refine gh (a:=jR (mu a) (mu (a+1))) ?_ (ih (a+1))
   show(decide ((230:Int)<230)||(decide ((230:Int)=230)&&decide ((a:Int)<(a+1:Nat))))=true
   rw[decide_eq_true (Int.ofNat_lt.mpr (Nat.lt_succ_self a))];rfl
theorem AJ {σ:St}{a b:Nat}(h:a≤b)(h1:b≤1000000):dz .range [.int (a:Int),.int (b:Int)] σ=some (cD (List.range' a (b - a)),none):=FC h▸WV h h1
theorem Tw {σ:St}{a b:Nat}(h:a≤b)(h1:b≤1000000):dc .listrange [.int (a:Int),.int (b:Int)] σ=some (.ref σ.length,σ++[.list (cD (List.range' a (b - a)))]):=FC h▸Tv h h1
theorem yP {σ:St}{r q:Nat}{us ws:List AV}(h:σ[r]?=some (.list us))(h1:σ[q]?=some (.list ws))(e:gX us ws=some true):fA σ .ne (.ref r) (.ref q)=some false:=congrArg (Option.map (!·)) (t7 h h1 e)
theorem BE {σ:St}{ρ:ag}{g:In→AV}{n:Nat}{gd:Option (Nat×ae)}{turn:ag→St→Option (Option AV×St)}(hs:b8 gd σ=true):∀{rs:List Nat} {is:List In},a9 σ rs is→(∀r i,r∈rs→i∈is→σ[r]?=some (a7 i)→turn (aF ρ n (.ref r)) σ=some (some (g i),σ))→ca gd [n] true turn ρ (rs.map .ref) σ=some (is.map g,σ):=by
 intro rs
 induction rs with
 |nil=>
  intro is hI _
  cases is with
  |nil=>exact xJ (g:=some) (vs:=[]) hs nofun
  |cons i is=>exact hI.elim
 |cons r rs ih=>
  intro is hI h
  cases is with
  |nil=>exact hI.elim
  |cons i is=>
   rw[List.map_cons,pU,hs]
   exact(bN (h r i (List.mem_cons_self ..) (List.mem_cons_self ..) hI.1)).trans (bN (ih hI.2 fun q j hq hj=>h q j (List.mem_cons_of_mem _ hq) (List.mem_cons_of_mem _ hj)))
section
variable {d:Nat}{σ:St}{Q:AV→St→Prop}
theorem Bj {l:St}{ρ:ag}(q:Q .none σ):dk σ Q .next ρ (σ++l):=lQ (v:=.none) (ρ:=ρ) rfl q
theorem OD {r:Nat}{cs:List Int}{a b:Nat}(h:σ[r]?=some (.list (cs.map .int)))(hg:xm cs (a,b))(hn:b<60)(hq:∀l:St,l.length=2→Q (.ref (σ.length+2)) (σ++l++[.list (cD (List.range' a (b - a)))])):WC (ao T0 (d+1)) 189 [.ref r,.int (a:Int),.int (b:Int)] σ Q:=by
 refine cJ hg fun g1 g2 g3=>?_
 have ha:a≤b:=Nat.le_of_lt g1
 have hl:(List.range' a (b - a)).length<60:=by rw[List.length_range'];exact Nat.lt_of_le_of_lt (Nat.sub_le ..) hn
 have hc (ρ:ag) (dR:ρ 64=some (.ref r)):ca none [235] true (dA (ao T0 d) [] (.tup [.idx (.v 64) (.v 235),.v 235])) ρ (cD (List.range' a (b - a))) σ=some ((List.range' a (b - a)).map mu,σ):=fS rfl fun k hk=>by
  have hk:=List.mem_range'_1.mp hk
  have e:(cs.map AV.int)[k]?=some (.int 230):=by rw[List.getElem?_map,g3 k hk.1 (by dsimp only;lia)];rfl
  exact⟨_,rfl,eJ (cG (ac (aQ (ab dR) (ab rfl) (c7 h e)) (ac (ab rfl) ak)))⟩
 have cQ {g:Nat→AV} {n:Nat} (e:60≤n):((List.range' a (b - a)).map g).length<n:=by rw[List.length_map];exact Nat.lt_of_lt_of_le hl e
 have hs:(decide (((List.range' a (b - a)).map mu).length<64)&&((List.range' a (b - a)).map mu).all uH&&ly ((List.range' a (b - a)).map mu))=true:=by
  rw[U5,decide_eq_true (cQ (by decide)),List.all_map]
  exact gh (gh rfl (List.all_eq_true.mpr fun _ _=>rfl)) rfl
 refine bM rfl rfl rfl (eK (cO (bu (lG (bu (cO (aL (ac (ab rfl) (ac (ab rfl) ak)) (aA (AJ ha (Nat.le_trans (Nat.le_of_lt hn) (by decide))) (aZ (hc _ rfl) ⟨cQ (by decide),a8 (aZ (WX aw hs) (a8 (aA (cx aw) (aZ (fS (g:=fun k:Nat=>.int (k:Int)) (bg aw) fun k _=>⟨_,rfl,eJ (ab rfl)⟩) ⟨cQ (by decide),?_⟩))))⟩)))))))))
 rw[List.append_assoc σ,List.length_append]
 exact ec (Nat.le_add_right ..) (hq _ rfl)
inductive C4 (σ l0:St)(is:List In)(rest:List (Nat×Nat))(ρ:ag)(s:St):Prop
 |mk (l':St)(q1:s=σ++[.list ((is.map fun i=>eu i.code).map .int)]++l0++l')(q3:(∀p∈rest,xm (is.map fun i=>eu i.code) p))(q4:ρ 64=some (.ref σ.length)):C4 σ l0 is rest ρ s
theorem Oz {b l nm:Nat}{bk:Bool}{rs:List Nat}{is:List In}(h:aD σ b l bk rs is)(hN:NM σ nm)(hn:rs.length≤50):ao T0 (d+3) 188 [.ref b,.ref nm] σ=some (.none,σ):=by
 have hl:(is.map fun i=>eu i.code).length≤50:=by rw[List.length_map,←h.infos.len];exact hn
 have hc (ρ:ag) (h184:ρ 184=some (.ref nm)):ca (some (l,.list (rs.map .ref))) [109] true (dA (ao T0 (d+2)) [] (.call 62 [.v 184,.v 109])) ρ (rs.map .ref) σ=some ((is.map fun i=>eu i.code).map .int,σ):=by
  rw[List.map_map]
  exact BE (bg h.row) h.infos fun r i _ hi e=>eJ (bR (ac (ab h184) (ac (ab rfl) ak)) ⟨Bu hN e (h.gl i hi)⟩)
 refine xO (bM rfl rfl rfl (bS (cO (aL (ac (aM (ab rfl) h.buf rfl) ak) (aA (cx h.row) (aZ (hc _ rfl) ⟨by rw[List.length_map];lia,gK (bu (bG (aL (ac (ab rfl) ak) (OM aw (fun c hc=>?_) (Nat.le_trans hl (by decide)) fun l0 f rns hf fW Rg=>a8 (aA (cx fW) ?_)))))⟩))))))
 ·refine am (List.mem_map.mp hc) fun i _ e29=>?_
  subst e29
  unfold eu
  by_cases q:i.code=768
  ·exact .inr (if_pos q)
  ·exact .inl (if_neg q)
 refine fV (B:=fun p ρ=>aF (aF ρ 54 (.int (p.1:Int))) 79 (.int (p.2:Int))) (I:=C4 σ l0 is) (fun _ _=>rfl) ?_ ?_ ⟨[],(List.append_nil _).symm,Rg,rfl⟩
 ·rintro⟨a,b'⟩ rest ρ s ⟨l',rfl,hg,dR⟩
  have Co:=hg (a,b') (List.mem_cons_self ..)
  have qc:b'≤50:=Nat.le_trans Co.2.1 hl
  have ha:a≤b':=Nat.le_of_lt Co.1
  refine⟨bg (al fW),Bp (ac (ab dR) (ac (ab rfl) (ac (ab rfl) ak))) (OD (al (al aw)) Co (Nat.lt_of_le_of_lt qc (by decide)) fun l2 eH=>?_)⟩
  rw[List.append_assoc (_++l')]
  have g1 (X m:St) (o:ae):(X++(l2++[o])++m)[X.length+2]?=some o:=al (b9 (eH▸List.getElem?_concat_length))
  refine io (iq (aJ (ab rfl) (lG (aL (ac (ab rfl) (ac (ab rfl) ak)) (aZ (Tw ha (Nat.le_trans qc (by decide))) (aA (v:=false) (yP (g1 _ _ _) aw (SH _▸PF _)) (aA FX ?_)))))))
  exact C4.mk _ ((List.append_assoc ..).trans (List.append_assoc ..)) (fun p hp=>hg p (List.mem_cons_of_mem _ hp)) dR
 ·rintro ρ s ⟨l',rfl,hg,dR⟩
  refine⟨bg (al fW),?_⟩
  rw[List.append_assoc,List.append_assoc]
  exact Bj ⟨rfl,rfl⟩
end
theorem t9 {cf:Cf}{gd:Option (Nat×ae)}{xs:List Nat}{one:Bool}{b:List S}{v:AV}{vs:List AV}{ρ ρ':ag}{σ:St}{QF:Fl→ag→St→Prop}(hs:b8 gd σ=true)(hb:ed xs one v ρ=some ρ')
  (h:WB cf b ρ' σ (Kf QF fun ρ σ=>OF (dt gd xs one (fun ρ σ=>bJ aP cf b ρ σ) vs ρ σ) QF)):OF (dt gd xs one (fun ρ σ=>bJ aP cf b ρ σ) (v::vs) ρ σ) QF:=by
 rw[Qi,hs,hb]
 show OF (jT (bJ aP cf b ρ' σ) _) _
 rw[ip]at h
 cases hx:bJ aP cf b ρ' σ with
 |none=>rw[hx]at h;exact False.elim h
 |some p=>
  rw[hx]at h
  obtain⟨f,r,s⟩:=p
  cases f<;>exact h
theorem BQ {cf:Cf}{gd:Option (Nat×ae)}{xs:List Nat}{one:Bool}{b:List S}{ρ:ag}{σ:St}{QF:Fl→ag→St→Prop}(hs:b8 gd σ=true)(h:QF .next ρ σ):OF (dt gd xs one (fun ρ σ=>bJ aP cf b ρ σ) [] ρ σ) QF:=by
 rw[Qj,hs];exact h
noncomputable def gL:List (AV×AV):=[(.tup [.int 97,.int 768],.int 224)]
noncomputable def gM (a b:Int):Int:=if a=97∧b=768 then 224 else 0
section
variable {d:Nat}{σ:St}{Q:AV→St→Prop}
theorem O3 {nm:Nat}(h:NM σ nm)(q:∀l r,σ.length≤r→(σ++l)[r]?=some (.dict gL)→Q (.ref r) (σ++l)):WC (ao T0 (d+1)) 21258 [.ref nm] σ Q:=by
 refine bH h fun kk kk' h1 h2 h3=>?_
 have e (s:St):dc .sorted [.ref kk] (σ++s)=some (.ref (σ++s).length,σ++s++[.list [.int 224]]):=by
  show((σ++s)[kk]?).bind _=_
  rw[al h2];rfl
 refine bM rfl rfl rfl (bS (gN (a8 (aA (v:=[]) rfl (gK (bu (lG (aL (ac (aM (ab rfl) (al h1) rfl) ak) (aZ (e _) (a8 (aA (cx aw) (t9 (bg aw) rfl (aW (ay (aQ (aQ (aM (ab rfl) (al (al h1)) rfl) (ab rfl) (mh (al (al h2)) rfl rfl)) ar rfl) ar rfl) rfl ?_)))))))))))))
 refine iy (σ':=σ++[.dict gL]++[.list [.int 224]]) (ab rfl) (ab rfl) (aQ (aM (ab rfl) (al (al h1)) rfl) (ab rfl) (mh (al (al h2)) rfl rfl)) ?_ ?_
 ·rw[w9,al aw]
  refine congrArg some (?_:List.set (σ++[ae.dict []]++[ae.list [AV.int 224]]) σ.length (ae.dict gL)=_)
  rw[List.append_assoc,List.append_assoc]
  exact jh (k:=0)
 ·refine BQ (bg (by rw[List.append_assoc,List.length_append];exact b9 rfl)) (a6 (ab rfl) (ec (Nat.le_refl _) ?_))
  rw[List.append_assoc]
  exact q _ _ (Nat.le_refl _) (b9 (k:=0) rfl)
theorem N7 {a b:Int}:ao T0 (d+1) 115 [.int a,.int b] σ=some (.bool (a !=0&&decide (b≤a)),σ):=by
 have:Ev ⟨ao T0 d,cX [151,105] [.int a,.int b],σ⟩ (.and (.cmp .ne (.v 151) (.ci 0)) (.cmp .ge (.v 151) (.v 105))) (.bool (a !=0&&decide (b≤a))):=by
  refine b0 (ay (ab rfl) ar rfl) rfl ?_
  show cond (a !=0) _ (AV.bool (a !=0)=_)
  cases a !=0
  ·exact rfl
  ·exact ay (ab rfl) (ab rfl) rfl
 exact b5 rfl rfl rfl (a6 this (bE rfl rfl))
theorem Ok {a b:Int}(ha:a<4352∨4371≤a)(lY:a<44032):ao T0 (d+1) 99 [.int a,.int b] σ=some (.int 0,σ):=by
 refine b5 rfl rfl rfl (ba (bI (ab rfl) (dq rfl) rfl) (ba (bI (ab rfl) (dq rfl) rfl) (aW (t:=false) (b0 (t:=false) (v:=.bool false) ?_ rfl rfl) rfl (bt (ba (bI (ab rfl) (dq rfl) rfl) (ba (b0 (t:=false) (v:=.bool false) (pX (t:=false) ar (ab rfl) (congrArg some (decide_eq_false (by lia))) rfl) rfl rfl) (aW (b0 (ab rfl) rfl rfl) rfl (bt (a6 ar (bE rfl rfl))))))))))
 rcases ha with ha |ha
 ·exact pX (t:=false) ar (ab rfl) (congrArg some (decide_eq_false (by lia))) rfl
 ·exact pX (t:=true) ar (ab rfl) (congrArg some (decide_eq_true (by lia))) (ay (ab rfl) (dq rfl) (congrArg some (decide_eq_false (by lia))))
theorem O2 {wd:Nat}{a b:Int}(h:σ[wd]?=some (.dict gL))(ha:a<4352∨4371≤a)(lY:a<44032):ao T0 (d+2) 257 [.ref wd,.int a,.int b] σ=some (.int (gM a b),σ):=by
 have gk:(bc gL (.tup [.int a,.int b])).getD (.int 0)=.int (gM a b):=by
  show(if(((97:Int)==a)&&(((768:Int)==b)&&true))=true then some (AV.int 224)else none).getD (.int 0)=_
  unfold gM
  by_cases z:a=97∧b=768
  ·rw[if_pos z,z.1,z.2];rfl
  ·rw[if_neg z,if_neg fun e=>z (by rw[Bool.and_true,Bool.and_eq_true]at e;exact⟨(eq_of_beq e.1).symm,(eq_of_beq e.2).symm⟩)];rfl
 refine b5 rfl rfl rfl (ba (gn (ab rfl) h (.b rfl (ac (cG (ac (ab rfl) (ac (ab rfl) ak))) (ac ar ak)) (jI h rfl gk))) (a6 (ey (ay (ab rfl) ar rfl) rfl ?_) (bE rfl rfl)))
 unfold gM
 by_cases z:a=97∧b=768
 ·rw[if_pos z];exact ab rfl
 ·rw[if_neg z];exact bR (ac (ab rfl) (ac (ab rfl) ak)) ⟨Ok ha lY⟩
theorem O1 {b l cm wd s k:Nat}{bk:Bool}{rs:List Nat}{is:List In}{i j:In}(h:aD σ b l bk rs is)(hC:CM σ cm)(hw:σ[wd]?=some (.dict gL))(hi:is[s]?=some i)(hj:is[k]?=some j)(ha:i.code<4352∨4371≤i.code)(lY:i.code<44032):
  ao T0 (d+3) 256 [.ref b,.ref wd,.ref cm,.int (s:Int),.int (k:Int)] σ=some (.int (gM i.code j.code),σ):=by
 refine cq (fk h (k:=s) (by rw[h.infos.len];exact(List.getElem?_eq_some_iff.mp hi).1)) fun r1 i' _ e2 _ um e3 e4=>?_
 refine cq (fk h (k:=k) (by rw[h.infos.len];exact(List.getElem?_eq_some_iff.mp hj).1)) fun r2 j' _ f2 _ Cp f3 f4=>?_
 rw[hi]at e2;cases e2
 rw[hj]at f2;cases f2
 refine am hC fun kk h1 h2=>b5 rfl rfl rfl (ba (aQ (aM (ab rfl) h.buf rfl) (ab rfl) e3) (ba (aQ (aM (ab rfl) h.buf rfl) (ab rfl) f3) ?_))
 refine aW (t:=false) (jD (t:=false) (ay (aM (ab rfl) e4 rfl) ar (congrArg (fun g:Int=>some (decide (g > 0))) (h.gl i um))) rfl (ay (t:=false) (aM (ab rfl) f4 rfl) ar (congrArg (fun g:Int=>some (decide (g > 0))) (h.gl j Cp)))) rfl (bt ?_)
 refine ba (bR (ac (ab rfl) (ac (aM (ab rfl) e4 rfl) (ac (aM (ab rfl) f4 rfl) ak))) ⟨O2 hw ha lY⟩) ?_
 unfold gM
 by_cases z:i.code=97∧j.code=768
 ·rw[if_pos z]
  exact a6 (ey (b0 (ay (ab rfl) ar rfl) rfl (ay (gn (ab rfl) h1 (.i rfl (ac (ab rfl) ak) ⟨tV hC⟩)) ar rfl)) rfl (ab rfl)) (bE rfl rfl)
 ·rw[if_neg z]
  exact a6 (ey (b0 (ay (ab rfl) ar rfl) rfl rfl) rfl ar) (bE rfl rfl)
end
noncomputable def fq (i:In)(c:Int):In:=if i.cluster=c then i else{i with cluster:=c,uns:=false}
theorem Xk {α:Type}{l:List α}{s:Nat}{x y:α}(h:l[s]?=some x)(h':l[s+1]?=some y):(l.take (s+2)).drop s=[x,y]:=by
 obtain⟨a,e⟩:=List.getElem?_eq_some_iff.mp h
 obtain⟨b,f⟩:=List.getElem?_eq_some_iff.mp h'
 rw[List.take_succ_eq_append_getElem b,List.take_succ_eq_append_getElem a,List.append_assoc,List.drop_left' (List.length_take_of_le (Nat.le_of_lt a)),e,f];rfl
theorem tG {cf:Cf}{ρ:ag}{σ:St}{QF:Fl→ag→St→Prop}{l b:List S}{e:E}{x:AV}(h:Ev ⟨cf,ρ,σ⟩ e x)(h1:truthy σ x=some false)(q:WB cf l ρ σ QF):WB cf (.whl e b::l) ρ σ QF:=
 pI (pL (I:=fun _ r s=>r=ρ∧s=σ) (fun n r s e=>by obtain⟨rfl,rfl⟩:=e;exact aJ h (aA h1 q)) (n:=0) ⟨rfl,rfl⟩ (by decide))
section
variable {d:Nat}{σ:St}{Q:AV→St→Prop}
theorem H9 {r:Nat}{x:In}{c:Int}(h:σ[r]?=some (a7 x))(q:Q .none (σ.set r (a7 (fq x c)))):WC (ao T0 (d+1)) 223 [.ref r,.int c] σ Q:=by
 refine bM rfl rfl rfl (aW (ay (aM (ab rfl) h rfl) (ab rfl) rfl) rfl ?_)
 unfold fq at q
 by_cases z:x.cluster=c
 ·rw[if_pos z,AF h]at q
  exact Ij (beq_iff_eq.mpr z) (Hs (ρ:=fun _=>none) q)
 ·rw[if_neg z]at q
  refine IB (beq_eq_false_iff_ne.mpr z) (gR (ab rfl) (ab rfl) h rfl rfl (gR gV (ab rfl) (dy h) rfl rfl ?_))
  rw[List.set_set]
  exact Bi (ρ:=fun _=>none) (List.length_set ..) q
theorem yv {a b:Int}(h:a≠b):(a==b)=false:=beq_eq_false_iff_ne.mpr h
theorem O4 {b l s:Nat}{bk:Bool}{rs:List Nat}{is:List In}{i j:In}(h:aD σ b l bk rs is)(hi:is[s]?=some i)(hj:is[s+1]?=some j)(CN:∀k,is[s+2]?=some k→k.cluster≠j.cluster)(CT:∀k,0<s→is[s - 1]?=some k→k.cluster≠i.cluster):
  ao T0 (d+1) 259 [.ref l,.int (s:Int),.int ((s:Int)+2)] σ=some (.tup [.int (s:Int),.int ((s:Int)+2)],σ):=by
 have qk:s+1<rs.length:=by rw[h.infos.len];exact(List.getElem?_eq_some_iff.mp hj).1
 refine cq (fk h (k:=s) (Nat.lt_of_succ_lt qk)) fun r1 i' _ e2 _ _ e3 e4=>?_
 refine cq (fk h qk) fun r2 j' _ f2 _ _ f3 f4=>?_
 rw[hi]at e2;cases e2
 rw[hj]at f2;cases f2
 refine b5 rfl rfl rfl (ba (ab rfl) (ba (ab rfl) (tG (x:=.bool false) (b0 (ay (ab rfl) (cZ (ac (ab rfl) ak) (tu h)) rfl) rfl ?_) rfl (tG (x:=.bool false) (b0 (ay (ab rfl) ar rfl) rfl ?_) rfl (a6 (cG (ac (ab rfl) (ac (ab rfl) ak))) (bE rfl rfl))))))
 ·by_cases z:s+2<rs.length
  ·refine cq (fk h z) fun r0 k0 _ g2 _ _ g3 g4=>?_
   refine bT (decide_eq_true (Int.ofNat_lt.mpr z)) (ay (aM (aQ (ab rfl) (ab rfl) g3) g4 rfl) (aM (aQ (ab rfl) (bI (ab rfl) ar rfl) ?_) f4 rfl) (congrArg some (yv (CN k0 g2))))
   rwa [show(s:Int)+2 - 1=((s+1:Nat):Int) by lia]
  ·exact bA (decide_eq_false fun e=>z (Int.ofNat_lt.mp e)) (congrArg AV.bool (decide_eq_false fun e=>z (Int.ofNat_lt.mp e)))
 ·by_cases z:0<s
  ·refine cq (fk h (k:=s - 1) (by lia)) fun r0 k0 _ g2 _ _ g3 g4=>?_
   refine bT (decide_eq_true (Int.ofNat_lt.mpr z)) (ay (aM (aQ (ab rfl) (bI (ab rfl) ar rfl) ?_) g4 rfl) (aM (aQ (ab rfl) (ab rfl) e3) e4 rfl) (congrArg some (yv (CT k0 z g2))))
   rwa [show(s:Int) - 1=((s - 1:Nat):Int) by lia]
  ·exact bA (decide_eq_false fun e=>z (Int.ofNat_lt.mp e)) (congrArg AV.bool (decide_eq_false fun e=>z (Int.ofNat_lt.mp e)))
theorem H5 {b l s:Nat}{bk:Bool}{rs:List Nat}{is:List In}{i j:In}{rj:Nat}(h:aD σ b l bk rs is)(hi:is[s]?=some i)(hj:is[s+1]?=some j)(uw:rs[s+1]?=some rj)(Cz:i.cluster≤j.cluster)
  (CN:∀k,is[s+2]?=some k→k.cluster≠j.cluster)(CT:∀k,0<s→is[s - 1]?=some k→k.cluster≠i.cluster)
  (q:∀σ',fP rj σ σ'→σ'[rj]?=some (a7 (fq j i.cluster))→Q .none σ'):WC (ao T0 (d+2)) 175 [.ref b,.int (s:Int),.int ((s:Int)+2)] σ Q:=by
 have qk:=(List.getElem?_eq_some_iff.mp uw).1
 refine cq (fk h (k:=s) (Nat.lt_of_succ_lt qk)) fun r1 i' e1 e2 _ _ _ e4=>?_
 refine cq (fk h qk) fun r2 j' f1 f2 _ _ _ f4=>?_
 rw[hi]at e2;cases e2
 rw[hj]at f2;cases f2
 rw[uw]at f1;cases f1
 have sl (m:St):lA (σ++m) (.ref l) (.int (s:Int)) (.int ((s:Int)+2))=some (.ref (σ++m).length,σ++m++[.list [.ref r1,.ref rj]]):=by
  have:=pE (al (l:=m) h.row) (jz (k:=s)) (jz (k:=s+2))
  rwa [Xk (x:=.ref r1) (y:=.ref rj) (by rw[List.getElem?_map,e1];rfl) (by rw[List.getElem?_map,uw];rfl)]at this
 have sl0:=sl []
 rw[List.append_nil]at sl0
 have CJ (s:St):dc .min [.ref s.length] (s++[.list [.int i.cluster,.int j.cluster]])=some (.int i.cluster,s++[.list [.int i.cluster,.int j.cluster]]):=by
  show(((s++[ae.list _])[s.length]?).bind bX).bind _=_
  rw[aw]
  exact congrArg (Option.map fun m=>(AV.int m,s++[ae.list [.int i.cluster,.int j.cluster]])) (congrArg some (if_neg (Int.not_lt.mpr Cz)))
 refine bM rfl rfl rfl (aW (t:=false) (ay (x:=.int ((s:Int)+2 - s)) (bI (ab rfl) (ab rfl) rfl) ar (congrArg some (decide_eq_false (by lia)))) rfl (bt (bS (lG (bu (cO (bu (jm (aJ (aM (ab rfl) h.buf rfl) (aJ (ab rfl) (aJ (ab rfl) (aZ sl0 (a8 (aA (cx aw) (aZ (fS (l:=[(r1,i),(rj,j)]) (w:=fun p=>.ref p.1) (g:=fun p=>.int p.2.cluster) (bg aw) ?_) ⟨by exact Nat.le_of_ble_eq_true rfl,a8 (aZ (CJ _) ?_)⟩)))))))))))))))
 ·intro p hp
  cases hp with
  |head=>exact⟨_,rfl,eJ (aM (ab rfl) (al e4) rfl)⟩
  |tail _ hp=>
   cases hp with
   |head=>exact⟨_,rfl,eJ (aM (ab rfl) (al f4) rfl)⟩
   |tail _ hp=>cases hp
 ·rw[List.append_assoc]
  generalize [ae.list [.ref r1,.ref rj]]++[ae.list [.int i.cluster,.int j.cluster]]=X
  have hR:aD (σ++X) b l bk rs is:=h.app
  have g1:(σ++X++[ae.list [.ref r1,.ref rj]])[r1]?=some (a7 i):=al (al e4)
  have g2:(σ++X++[ae.list [.ref r1,.ref rj]])[rj]?=some (a7 j):=al (al f4)
  refine cV (tJ (aJ (bR (ac (aM (ab rfl) hR.buf rfl) (ac (ab rfl) (ac (ab rfl) ak))) ⟨O4 hR hi hj CN CT⟩) ⟨_,_,rfl,gK (bu (jm (aJ (aM (ab rfl) hR.buf rfl) (aJ (ab rfl) (aJ (ab rfl) (aZ (sl X) (a8 (aA (cx aw) (t9 (bg aw) rfl (jj (bG (aL (ac (ab rfl) (ac (ab rfl) ak)) (H9 g1 ?_)))))))))))))⟩))
  rw[show fq i i.cluster=i from if_pos rfl,AF g1]
  refine t9 (bg aw) rfl (jj (bG (aL (ac (ab rfl) (ac (ab rfl) ak)) (H9 g2 (BQ (bg ((List.getElem?_set_ne (Nat.ne_of_lt ?_)).trans aw)) ?_)))))
  ·exact Nat.lt_of_lt_of_le (cu f4) co
  ·by_cases z:j.cluster=i.cluster
   ·have e:fq j i.cluster=j:=if_pos z
    rw[e]at q ⊢
    rw[AF g2,List.append_assoc]
    exact Bj (q _ ⟨Nat.le_refl _,fun _ _ _=>rfl⟩ f4)
   ·have e:fq j i.cluster={j with cluster:=i.cluster,uns:=false}:=if_neg z
    refine Hr f4 (fun k=>z ?_) (q _ ⟨by rw[List.length_set,List.append_assoc];exact co,fun r hr hb=>?_⟩ (dy g2))
    ·rw[dy g2,e]at k
     exact(AV.int.inj (Option.some.inj (congrArg (fun o=>Option.bind o fun o=>(gQ o).bind fun p=>ef p.2 65) k))).symm
    ·rw[List.getElem?_set_ne (Ne.symm hb),List.append_assoc,List.getElem?_append_left hr]
end
noncomputable def pC (acc:List In)(x:In):List In:=match acc.getLast? with
 |some y=>if x.code=768∧y.code=97 then acc.dropLast++[{y with code:=224}]else acc++[x]
 |none=>acc++[x]
noncomputable def fj (acc rest:List In):List In:=rest.foldl pC acc
theorem tn {a:List In}{y x:In}:pC (a++[y]) x=if x.code=768∧y.code=97 then a++[{y with code:=224}]else a++[y]++[x]:=by
 simp[pC]
noncomputable def Gc (x y:In):Prop:=x.cluster<y.cluster∨(x.cluster=y.cluster∧x.code=97∧y.code=768)
noncomputable def eL:List In→Prop
 |x::y::l=>Gc x y∧eL (y::l)
 |_=>True
theorem xH {x:In}{b:List In}:∀{a:List In},eL (a++x::b)↔eL (a++[x])∧eL (x::b)
 | []=>by simp[eL]
 | [u]=>by simp[eL]
 |u::v::a=>by
  obtain ih:=xH (x:=x) (b:=b) (a:=v::a)
  simp only[List.cons_append,eL]at ih ⊢
  rw[ih,and_assoc]
theorem Il {y y':In}(hc:y'.cluster=y.cluster)(hy:y.code≠768):∀{a:List In},eL (a++[y])→eL (a++[y'])
 | [],_=>trivial
 | [u],h=>by
  simp only[List.cons_append,List.nil_append,eL,and_true]at h ⊢
  rcases h with h | ⟨_,_,h⟩
  ·exact .inl (by rw[hc];exact h)
  ·exact absurd h hy
 |u::v::a,h=>by
  simp only[List.cons_append,eL]at h ⊢
  exact⟨h.1,Il hc hy (a:=v::a) h.2⟩
theorem Im {z y:In}:∀{a:List In},eL (a++[y])→a.getLast?=some z→Gc z y
 | [u],h,e=>by cases e;exact h.1
 |u::v::a,h,e=>by
  refine Im (a:=v::a) h.2 ?_
  simpa using e
noncomputable def je (c:Int):Prop:=(c<4352∨4371≤c)∧c<44032
theorem TB {a b:List Nat}(h:a.map AV.ref=b.map AV.ref):a=b:=by
 induction a generalizing b with
 |nil=>cases b with
  |nil=>rfl
  |cons=>simp at h
 |cons x a ih=>cases b with
  |nil=>simp at h
  |cons y b=>
   simp only[List.map_cons,List.cons.injEq,AV.ref.injEq]at h
   refine(h.1).symm▸?_
   exact(ih h.2).symm▸rfl
theorem aD.down {σ m:St}{b l l':Nat}{bk bk':Bool}{rs rs':List Nat}{is is':List In}(h:aD σ b l bk rs is)(k:aD (σ++m) b l' bk' rs' is'):aD σ b l' bk' rs' is':=by
 obtain e:=k.buf
 rw[al h.buf]at e
 simp only[et,Option.some.injEq,ae.inst.injEq,List.cons.injEq,Prod.mk.injEq,AV.ref.injEq,AV.bool.injEq,true_and,and_true]at e
 obtain⟨rfl,rfl⟩:=e
 obtain e2:=k.row
 rw[al h.row]at e2
 simp only[Option.some.injEq,ae.list.injEq]at e2
 obtain rfl:=TB e2
 exact⟨h.buf,h.row,k.infos.same fun r hr=>(List.getElem?_append_left (h.infos.lt hr)).symm,k.nd,k.gl⟩
noncomputable def aU (b:Nat)(rs:List Nat)(σ s:St):Prop:=σ.length≤s.length∧∀r,r<σ.length→r≠b→r∉rs→s[r]?=σ[r]?
theorem aU.get {b:Nat}{rs:List Nat}{σ s:St}(h:aU b rs σ s){r:Nat}{o:ae}(e:σ[r]?=some o)(h1:r≠b)(h2:r∉rs):s[r]?=some o:=(h.2 r (cu e) h1 h2).trans e
theorem aD.up {b l:Nat}{bk:Bool}{rs:List Nat}{is:List In}{s t:St}(h:aD s b l bk rs is)(k:aU b rs s t){r:Nat}{o:ae}(e:s[r]?=some o)(h1:Nat.beq (qq o) 4=false)(h2:Nat.beq (qq o) 14=false):t[r]?=some o:=k.get e (fun z=>yO (o':=et l bk) h1 (Option.some.inj (e.symm.trans (z▸h.buf)))) (cC h.infos e h2)
theorem Du {b l nm:Nat}{bk:Bool}{rs:List Nat}{is:List In}{σ s:St}(h:aD σ b l bk rs is)(k:aU b rs σ s)(hN:NM σ nm):NM s nm:=
 bH hN fun x y h1 h2 h3=>⟨x,y,h.up k h1 rfl rfl,h.up k h2 rfl rfl,h.up k h3 rfl rfl⟩
theorem uL {b l cm:Nat}{bk:Bool}{rs:List Nat}{is:List In}{σ s:St}(h:aD σ b l bk rs is)(k:aU b rs σ s)(hC:CM σ cm):CM s cm:=
 am hC fun x h1 h2=>⟨x,h.up k h1 rfl rfl,h.up k h2 rfl rfl⟩
structure PT (σ s:St)(b:Nat)(bk:Bool)(rs:List Nat)(is:List In)(l':Nat)(ra rb:List Nat)(ia ib:List In):Prop where
 row:aD s b l' bk (ra++rb) (ia++ib)
 len:ra.length=ia.length
 pt:fj ia ib=fj [] is
 chn:eL (ia++ib)
 cod:∀i∈ia++ib,je i.code
 kp:aU b rs σ s
 sub:∀r∈ra++rb,r∈rs
theorem Uh:je 224:=⟨.inl (by decide),by decide⟩
section
variable {d:Nat}{σ:St}{Q:AV→St→Prop}
theorem PT.join {s:St}{b:Nat}{bk:Bool}{rs:List Nat}{is:List In}{l':Nat}{ra rb:List Nat}{a ib:List In}{y x:In}{ri rj:Nat}{s1:St}{lx:List ae}(h:PT σ s b bk rs is l' (ra++[ri]) (rj::rb) (a++[y]) (x::ib))(hy:y.code=97)(hx:x.code=768)
  (hk:fP rj s s1)(Yg:lx.length=2):
  PT σ (((s1.set ri (a7 {y with code:=224}))++lx++[ae.list ((ra++[ri]++rb).map .ref)]).set b (et ((s1.set ri (a7 {y with code:=224}))++lx).length bk)) b bk rs is ((s1.set ri (a7 {y with code:=224}))++lx).length (ra++[ri]) rb (a++[{y with code:=224}]) ib:=by
 obtain hb:=cu h.row.buf
 obtain qk:b<s1.length:=Nat.lt_of_lt_of_le hb hk.1
 have aX:ra.length=a.length:=by have:=h.len;simp at this;exact this
 have nd:=h.row.nd
 have iL:∀r∈ra++[ri]++rb,r∈ra++[ri]++rj::rb:=fun r hr=>by
  simp only[List.mem_append,List.mem_cons]at hr ⊢
  rcases hr with hr |hr
  ·exact .inl hr
  ·exact .inr (.inr hr)
 have yc:=h.row.infos
 have hu:=a9.uncat (rs:=ra++[ri]) (is:=a++[y]) (by simp[aX]) yc
 obtain jP:=a9.uncat (rs:=ra) (is:=a) aX hu.1
 obtain RG:s[ri]?=some (a7 y):=jP.2.1
 obtain uw:s[rj]?=some (a7 x):=hu.2.1
 obtain nd1:=List.nodup_append.mp nd
 obtain RJ:rj∉ra++[ri]:=fun m=>nd1.2.2 rj m rj (List.mem_cons_self ..) rfl
 obtain RK:rj∉rb:=(List.nodup_cons.mp nd1.2.1).1
 obtain nd2:=List.nodup_append.mp nd1.1
 obtain RH:ri∉ra:=fun m=>nd2.2.2 ri m ri (List.mem_cons_self ..) rfl
 obtain RI:ri∉rb:=fun m=>nd1.2.2 ri (List.mem_append_right _ (List.mem_cons_self ..)) ri (List.mem_cons_of_mem _ m) rfl
 have jJ:b∉ra++[ri]++rj::rb:=cC yc h.row.buf rfl
 obtain ff:∀r∈ra++[ri]++rb,r<s.length:=fun r hr=>yc.lt (iL r hr)
 have ul:∀r∈ra++[ri]++rb,r≠ri→(((s1.set ri (a7 {y with code:=224}))++lx++[ae.list ((ra++[ri]++rb).map .ref)]).set b (et ((s1.set ri (a7 {y with code:=224}))++lx).length bk))[r]?=s[r]?:=fun r hr aY=>by
  obtain h1:=ff r hr
  obtain h2:r<s1.length:=Nat.lt_of_lt_of_le h1 hk.1
  obtain h3:r≠b:=fun e=>jJ (e▸iL r hr)
  have h4:r≠rj:=fun e=>by
   clear uw yc nd
   subst e
   rcases List.mem_append.mp hr with m |m
   ·exact RJ m
   ·exact RK m
  rw[List.getElem?_set_ne (Ne.symm h3),List.getElem?_append_left (by simp;lia),List.getElem?_append_left (by simpa using h2),List.getElem?_set_ne (Ne.symm aY)]
  exact hk.2 r h1 h4
 obtain Rf:(((s1.set ri (a7 {y with code:=224}))++lx++[ae.list ((ra++[ri]++rb).map .ref)]).set b (et ((s1.set ri (a7 {y with code:=224}))++lx).length bk))[ri]?=some (a7 {y with code:=224}):=by
  have h1:=cu RG
  have h2:ri<s1.length:=Nat.lt_of_lt_of_le h1 hk.1
  have h3:ri≠b:=fun e=>jJ (by rw[←e];simp)
  rw[List.getElem?_set_ne (Ne.symm h3),List.getElem?_append_left (by simp;lia),List.getElem?_append_left (by simpa using h2),List.getElem?_set_self h2]
 refine⟨⟨?_,?_,?_,?_,?_⟩,by simp[aX],?_,?_,?_,⟨?_,fun r hr h1 h2=>?_⟩,fun r hr=>h.sub r (iL r hr)⟩
 ·rw[List.getElem?_set_self (by simp;lia)]
 ·rw[List.getElem?_set_ne (by simp;lia)];exact aw
 ·refine a9.cat (a9.cat (jP.1.same fun r m=>?_) ⟨Rf,trivial⟩) (hu.2.2.same fun r m=>?_)
  ·exact ul r (by simp[m]) (fun e=>RH (e▸m))
  ·exact ul r (by simp[m]) (fun e=>RI (e▸m))
 ·rw[List.nodup_append]
  exact⟨nd1.1,(List.nodup_cons.mp nd1.2.1).2,fun u hu v hv=>nd1.2.2 u hu v (List.mem_cons_of_mem _ hv)⟩
 ·intro i hi
  simp only[List.mem_append,List.mem_cons,List.not_mem_nil,or_false]at hi
  rcases hi with(hi |rfl) |hi
  ·exact h.row.gl i (by simp[hi])
  ·exact h.row.gl y (by simp)
  ·exact h.row.gl i (by simp[hi])
 ·have:=h.pt
  unfold fj at this ⊢
  rw[List.foldl_cons,tn,if_pos ⟨hx,hy⟩]at this
  exact this
 ·obtain hc:=h.chn
  rw[List.append_assoc,List.singleton_append,xH]at hc
  obtain⟨c1,c2⟩:=hc
  rw[List.append_assoc,List.singleton_append,xH]
  refine⟨Il (y:=y) (y':={y with code:=224}) rfl (by rw[hy];decide) c1,?_⟩
  cases ib with
  |nil=>trivial
  |cons k ib=>
   refine cJ c2 fun c3 c4 c5=>?_
   refine⟨.inl ?_,c5⟩
   show y.cluster<k.cluster
   obtain h1:y.cluster≤x.cluster:=by rcases c3 with c3 |c3<;>lia
   rcases c4 with c4 | ⟨_,c4,_⟩
   ·lia
   ·rw[hx]at c4;exact absurd c4 (by decide)
 ·intro i hi
  simp only[List.mem_append,List.mem_cons,List.not_mem_nil,or_false]at hi
  rcases hi with(hi |rfl) |hi
  ·exact h.cod i (by simp[hi])
  ·exact Uh
  ·exact h.cod i (by simp[hi])
 ·have:=h.kp.1
  have:=hk.1
  simp;lia
 ·have h3:r≠ri:=fun e=>h2 (h.sub r (by rw[e];simp))
  have h4:r≠rj:=fun e=>h2 (h.sub r (by rw[e];simp))
  have h5:r<s.length:=Nat.lt_of_lt_of_le hr h.kp.1
  obtain h6:r<s1.length:=Nat.lt_of_lt_of_le h5 hk.1
  rw[List.getElem?_set_ne (Ne.symm h1),List.getElem?_append_left (by simp;lia),List.getElem?_append_left (by simpa using h6),List.getElem?_set_ne (Ne.symm h3)]
  exact(hk.2 r h5 h4).trans (h.kp.2 r hr h1 h2)
end
theorem Bz {c:Int}:eu c=if c=768 then 230 else 0:=rfl
noncomputable def A2 (ia:List In)(last st:Int):Prop:=(ia=[]∧st= -1∧last=0)∨∃a y,ia=a++[y]∧((y.code=768∧last=230)∨(y.code≠768∧last=0∧st=(a.length:Int)))
noncomputable def uQ (ia:List In)(x:In):Int:=match ia.getLast? with
 |some y=>gM y.code x.code
 |none=>0
theorem yK {a:List In}{y x:In}:uQ (a++[y]) x=gM y.code x.code:=by rw[uQ,List.getLast?_concat]
noncomputable def Bs (last st c:Int):Bool:=decide (st≥0)&&!(last !=0&&decide (eu c≤last))
theorem Iz {ia:List In}{x:In}{last st:Int}(h:A2 ia last st):(Bs last st x.code=false∧uQ ia x=0)∨∃a y,ia=a++[y]∧last=0∧st=(a.length:Int):=by
 rcases h with⟨rfl,rfl,rfl⟩ | ⟨a,y,rfl,⟨hy,rfl⟩ | ⟨hy,rfl,rfl⟩⟩
 ·exact .inl ⟨rfl,rfl⟩
 ·refine .inl ⟨?_,by rw[yK,gM,if_neg fun e=>absurd (hy.symm.trans e.1) (by decide)]⟩
  have:decide (eu x.code≤230)=true:=by rw[Bz];split<;>rfl
  rw[Bs,this];exact Bool.and_false _
 ·exact .inr ⟨a,y,rfl,rfl,rfl⟩
structure PV (b nm cm wd n:Nat)(last st:Int)(ρ:ag):Prop where
 h57:ρ 57=some (.ref b)
 h184:ρ 184=some (.ref nm)
 h60:ρ 60=some (.ref cm)
 h258:ρ 258=some (.ref wd)
 h53:ρ 53=some (.int (n:Int))
 h151:ρ 151=some (.int last)
 h239:ρ 239=some (.int st)
noncomputable def UX:S:=.iff (.and (.cmp .ge (.v 239) (.ci 0)) (.not (.call 115 [.v 151,.v 105]))) [.asg (.name 255) (.call 256 [.v 57,.v 258,.v 60,.v 239,.v 53])] []
noncomputable def UW:List S:=[.iff (.cmp .eq (.v 105) (.ci 0)) [.asg (.name 239) (.v 53)] [],.asg (.name 151) (.v 105),.asg (.name 53) (.bin .add (.v 53) (.ci 1))]
noncomputable def UV:List S:=[.expr (.call 175 [.v 57,.v 239,.bin .add (.v 53) (.ci 1)]),.asg (.attr (.idx (.attr (.v 57) 214) (.v 239)) 67) (.v 255),.asg (.attr (.v 57) 214) (.bin .add (.slc (.attr (.v 57) 214) .cn (.v 53)) (.slc (.attr (.v 57) 214) (.bin .add (.v 53) (.ci 1)) .cn)),.cont]
inductive yo (σ:St)(b nm cm wd:Nat)(bk:Bool)(rs:List Nat)(is:List In)(n:Nat)(ρ:ag)(s:St):Prop
 |mk (l':Nat)(ra rb:List Nat)(ia ib:List In)(last st:Int)(q1:PT σ s b bk rs is l' ra rb ia ib)(q2:n=ib.length)(q3:s[wd]?=some (.dict gL))(q4:A2 ia last st)(q5:PV b nm cm wd ra.length last st ρ):yo σ b nm cm wd bk rs is n ρ s
section
variable {d:Nat}{σ s:St}{b nm cm wd l':Nat}{bk:Bool}{rs:List Nat}{is:List In}{ra rb:List Nat}{ia ib:List In}{x:In}{last st:Int}{ρ:ag}{QF:Fl→ag→St→Prop}{Q:AV→St→Prop}
theorem lP {b l l':Nat}{bk bk':Bool}{rs rs' R:List Nat}{is is':List In}{s:St}{ρ:ag}(h:aD σ b l bk rs is)(hR:aD s b l' bk' rs' is')(hk:aU b R σ s)(q:∀σ' l' rs',aU b R σ σ'→aD σ' b l' bk' rs' is'→Q .none σ'):dk σ Q .next ρ s:=by
 show Q (bF σ (.none,s)).1 (bF σ (.none,s)).2
 rcases lD σ s .none with e | ⟨e,m,rfl⟩
 ·rw[e];exact q _ _ _ hk hR
 ·rw[e];exact q _ _ _ ⟨Nat.le_refl _,fun _ _ _ _=>rfl⟩ (h.down hR)
theorem U0 (h:PT σ s b bk rs is l' ra rb ia (x::ib))(hC:CM s cm)(hw:s[wd]?=some (.dict gL))(hc:A2 ia last st)(hv:PV b nm cm wd ra.length last st ρ)(hE:ρ 105=some (.int (eu x.code)))(B2:ρ 255=some (.int 0))
  (q:∀ρ',PV b nm cm wd ra.length last st ρ'→ρ' 105=some (.int (eu x.code))→ρ' 255=some (.int (uQ ia x))→QF .next ρ' s):WS (ao T0 (d+3)) UX ρ s QF:=by
 refine aJ (v:=.bool (Bs last st x.code)) (xM (ay (ab hv.h239) ar rfl) (gp (bR (ac (ab hv.h151) (ac (ab hE) ak)) ⟨N7⟩) rfl)) (aA rfl ?_)
 rcases Iz (x:=x) hc with⟨e1,e2⟩ | ⟨a,y,rfl,rfl,rfl⟩
 ·exact bA e1 (q ρ hv hE (e2.symm▸B2))
 ·have aX:=h.len
  rw[List.length_append]at aX
  have ch:=h.cod y (List.mem_append_left _ (List.mem_append_right _ (List.mem_singleton_self y)))
  refine bT rfl (ba (bR (ac (ab hv.h57) (ac (ab hv.h258) (ac (ab hv.h60) (ac (ab hv.h239) (ac (ab hv.h53) ak))))) ⟨O1 (i:=y) (j:=x) h.row hC hw ?_ ?_ ch.1 ch.2⟩) (q _ ⟨hv.h57,hv.h184,hv.h60,hv.h258,hv.h53,hv.h151,hv.h239⟩ hE (congrArg (fun v=>some (AV.int v)) yK.symm)))
  ·rw[List.append_assoc,List.getElem?_append_right (Nat.le_refl _),Nat.sub_self];rfl
  ·rw[List.getElem?_append_right (by rw[List.length_append,aX];exact Nat.le_refl _),List.length_append,aX,Nat.sub_self];rfl
theorem UZ {cf:Cf}{rj:Nat}(hP:PT σ s b bk rs is l' ra (rj::rb) ia (x::ib))(hw:s[wd]?=some (.dict gL))(bj:pC ia x=ia++[x])(hv:PV b nm cm wd ra.length last st ρ)(hE:ρ 105=some (.int (eu x.code))):WB cf UW ρ s (Kf QF (yo σ b nm cm wd bk rs is ib.length)):=by
 have Jb:PT σ s b bk rs is l' (ra++[rj]) rb (ia++[x]) ib:=by
  have e1:ra++[rj]++rb=ra++rj::rb:=by rw[List.append_assoc];rfl
  have e2:ia++[x]++ib=ia++x::ib:=by rw[List.append_assoc];rfl
  refine⟨by rw[e1,e2];exact hP.row,by rw[List.length_append,List.length_append,hP.len];rfl,?_,by rw[e2];exact hP.chn,by rw[e2];exact hP.cod,hP.kp,by rw[e1];exact hP.sub⟩
  have:=hP.pt
  rw[fj,List.foldl_cons,bj]at this
  exact this
 have hl:(ra++[rj]).length=ra.length+1:=List.length_append
 by_cases hx:x.code=768
 ·rw[Bz,if_pos hx]at hE
  exact aW (t:=false) (ay (ab hE) ar rfl) rfl (bt (ba (ab hE) (ba (bI (ab hv.h53) ar rfl) (tD ⟨l',ra++[rj],rb,ia++[x],ib,230,st,Jb,rfl,hw,.inr ⟨ia,x,rfl,.inl ⟨hx,rfl⟩⟩,⟨hv.h57,hv.h184,hv.h60,hv.h258,hl▸rfl,rfl,hv.h239⟩⟩))))
 ·rw[Bz,if_neg hx]at hE
  exact aW (t:=true) (ay (ab hE) ar rfl) rfl (ba (ab hv.h53) (bt (ba (ab hE) (ba (bI (ab hv.h53) ar rfl) (tD ⟨l',ra++[rj],rb,ia++[x],ib,0,(ia.length:Int),Jb,rfl,hw,.inr ⟨ia,x,rfl,.inr ⟨hx,rfl,rfl⟩⟩,⟨hv.h57,hv.h184,hv.h60,hv.h258,hl▸rfl,rfl,hP.len▸rfl⟩⟩)))))
theorem UY {a:List In}{y:In}{ri rj:Nat}{l:List S}(hP:PT σ s b bk rs is l' (ra++[ri]) (rj::rb) (a++[y]) (x::ib))(hn:rs.length≤90)(eH:ra.length=a.length)(hw:s[wd]?=some (.dict gL))(hy:y.code=97)(hx:x.code=768)(hv:PV b nm cm wd (ra++[ri]).length 0 (a.length:Int) ρ)(g255:ρ 255=some (.int 224)):
  WB (ao T0 (d+3)) UV ρ s (Kn (ao T0 (d+3)) l (Kf QF (yo σ b nm cm wd bk rs is ib.length))):=by
 have CD:(ra++[ri]).length=a.length+1:=by rw[List.length_append,eH];rfl
 have ix1:(a++[y]++x::ib)[a.length]?=some y:=by rw[List.append_assoc,List.getElem?_append_right (Nat.le_refl _),Nat.sub_self];rfl
 have ix2:(a++[y]++x::ib)[a.length+1]?=some x:=by rw[←CD,hP.len,List.getElem?_append_right (Nat.le_refl _),Nat.sub_self];rfl
 have ix3:(ra++[ri]++rj::rb)[a.length+1]?=some rj:=by rw[←CD,List.getElem?_append_right (Nat.le_refl _),Nat.sub_self];rfl
 have ix4:(ra++[ri]++rj::rb)[a.length]?=some ri:=by rw[List.append_assoc,←eH,List.getElem?_append_right (Nat.le_refl _),Nat.sub_self];rfl
 have yb:=hP.chn
 rw[List.append_assoc,List.singleton_append,xH]at yb
 refine pR (ac (ab hv.h57) (ac (ab hv.h239) (ac (bI (z:=.int ((a.length:Int)+2)) (ab hv.h53) ar (by rw[CD];rfl)) ak))) (H5 hP.row ix1 ix2 ix3 ?_ (fun k hk=>?_) (fun k h0 hk=>?_) fun s1 iK Jw=>?_)
 ·rcases yb.2.1 with e |e
  ·exact Int.le_of_lt e
  ·exact Int.le_of_eq e.1
 ·have:(a++[y]++x::ib)[a.length+2]?=ib[0]?:=by
   rw[List.append_assoc,List.getElem?_append_right (Nat.le_add_right ..),Nat.add_sub_cancel_left];rfl
  rw[this]at hk
  cases ib with
  |nil=>exact aK hk
  |cons k' ib=>
   cases hk
   rcases yb.2.2.1 with e | ⟨_,e,_⟩
   ·exact(Int.ne_of_lt e).symm
   ·exact absurd (hx.symm.trans e) (by decide)
 ·have:(a++[y]++x::ib)[a.length - 1]?=a.getLast?:=by
   rw[List.append_assoc,List.getElem?_append_left (Nat.sub_lt h0 Nat.one_pos),List.getLast?_eq_getElem?]
  rw[this]at hk
  rcases Im yb.1 hk with e | ⟨_,_,e⟩
  ·exact Int.ne_of_lt e
  ·exact absurd (hy.symm.trans e) (by decide)
 have jJ:=cC hP.row.infos hP.row.buf rfl
 have uq:=cC hP.row.infos hP.row.row rfl
 have JT:=cC hP.row.infos hw rfl
 have mi:=List.mem_of_getElem? ix4
 have mj:=List.mem_of_getElem? ix3
 have eG:ri≠rj:=fun e=>(List.nodup_append.mp hP.row.nd).2.2 ri (List.mem_append_right _ (List.mem_singleton_self _)) rj (List.mem_cons_self ..) e
 have up1 {r:Nat} {o:ae} (e:s[r]?=some o) (aY:r≠rj):s1[r]?=some o:=(iK.2 r (cu e) aY).trans e
 have b1:=up1 hP.row.buf fun e=>jJ (e▸mj)
 have l1:=up1 hP.row.row fun e=>uq (e▸mj)
 have i1:=up1 (a9.uncat (rs:=ra) (is:=a) eH (a9.uncat (rs:=ra++[ri]) (is:=a++[y]) hP.len hP.row.infos).1).2.1 eG
 have w1:=up1 hw fun e=>JT (e▸mj)
 refine gR (ab g255) (aQ (aM (ab hv.h57) b1 rfl) (ab hv.h239) (c7 (k:=a.length) (v:=.ref ri) l1 (by rw[List.getElem?_map,ix4];rfl))) i1 rfl rfl ?_
 have hJ:=fun lx=>PT.join hP hy hx iK (lx:=lx)
 have b2:(s1.set ri (a7 {y with code:=224}))[b]?=some (et l' bk):=(List.getElem?_set_ne (show ri≠b from fun e=>jJ (e▸mi))).trans b1
 have l2:(s1.set ri (a7 {y with code:=224}))[l']?=some (.list ((ra++[ri]++rj::rb).map .ref)):=(List.getElem?_set_ne (show ri≠l' from fun e=>uq (e▸mi))).trans l1
 have w2:(s1.set ri (a7 {y with code:=224}))[wd]?=some (.dict gL):=(List.getElem?_set_ne (show ri≠wd from fun e=>JT (e▸mi))).trans w1
 show WB _ _ ρ (s1.set ri (a7 {y with code:=224})) _
 generalize s1.set ri (a7 {y with code:=224})=s2 at b2 l2 w2 hJ
 have t1:(((ra++[ri]++rj::rb).map AV.ref).take (ra++[ri]).length).drop 0=(ra++[ri]).map .ref:=by rw[List.drop_zero,←List.map_take,List.take_left]
 have t2:(((ra++[ri]++rj::rb).map AV.ref).take ((ra++[ri]++rj::rb).map AV.ref).length).drop ((ra++[ri]).length+1)=rb.map .ref:=by rw[List.take_length,←List.map_drop,List.drop_append,List.drop_of_length_le (Nat.le_succ _),Nat.add_sub_cancel_left];rfl
 have jM:((ra++[ri]).map AV.ref).length+(rb.map AV.ref).length<1000000:=by
  have:=List.Nodup.length_le_of_subset hP.row.nd (fun r hr=>hP.sub r hr)
  rw[List.length_append,List.length_cons]at this
  rw[List.length_map,List.length_map]
  lia
 have sl1:=pE (u:=.none) (w:=.int ((ra++[ri]).length:Nat)) l2 rfl jz
 rw[t1]at sl1
 have sl2:=pE (u:=.int (((ra++[ri]).length+1:Nat):Int)) (w:=.none) (al (l:=[.list ((ra++[ri]).map .ref)]) l2) jz rfl
 rw[t2]at sl2
 refine cV (tI (pM (jm (aJ (aM (ab hv.h57) b2 rfl) (aJ ew (aJ (ab hv.h53) (aZ sl1 (jm (aJ (aM (ab hv.h57) (al b2) rfl) (aJ (bI (z:=.int (((ra++[ri]).length+1:Nat):Int)) (ab hv.h53) ar rfl) (aJ ew (aZ sl2 (aZ (lO (al aw) aw jM) (aJ (ab hv.h57) ⟨_,_,_,rfl,al (al (al b2)),rfl,Nat.le_of_ble_eq_true rfl,?_⟩))))))))))))))
 have hJ:=hJ ([.list ((ra++[ri]).map .ref)]++[.list (rb.map .ref)]) rfl
 rw[←List.append_assoc,show(ra++[ri]++rb).map AV.ref=(ra++[ri]).map .ref++rb.map .ref from List.map_append]at hJ
 refine XB ⟨_,_,_,_,ib,0,(a.length:Int),hJ,rfl,(List.getElem?_set_ne fun e=>?_).trans (al (al (al w2))),.inr ⟨a,_,rfl,.inr ⟨(by decide:(224:Int)≠768),rfl,rfl⟩⟩,hv⟩
 rw[←e,b2]at w2;cases w2
theorem OE {l:Nat}(h:aD σ b l bk rs is)(hN:NM σ nm)(hC:CM σ cm)(hc:eL is)(ch:∀i∈is,je i.code)(hn:rs.length≤90)
  (q:∀σ' l' rs',aU b rs σ σ'→aD σ' b l' bk rs' (fj [] is)→Q .none σ'):WC (ao T0 (d+4)) 207 [.ref b,.ref nm,.ref cm] σ Q:=by
 refine bH hN fun n1 n2 n3 n4 n5=>bM rfl rfl rfl (HG (ab rfl) n3 rfl ak (O3 hN fun l0 wd uA R7=>ba (gW ar) (ba ar (ba ar (pI (pL (I:=yo σ b nm cm wd bk rs is) ?_ (n:=is.length)
  ⟨l,[],rs,[],is,0,-1,⟨h.app,rfl,rfl,hc,ch,⟨co,fun r hr _ _=>List.getElem?_append_left hr⟩,fun r hr=>hr⟩,rfl,R7,.inl ⟨rfl,rfl,rfl⟩,⟨rfl,rfl,rfl,rfl,rfl,rfl,rfl⟩⟩ (by rw[←h.infos.len];lia)))))))
 rintro n ρ s ⟨l',ra,rb,ia,ib,last,st,hP,rfl,hw,hcd,hv⟩
 have ff:=hP.row.infos.len
 have de:=hP.len
 rw[List.length_append,List.length_append]at ff
 refine aJ (ay (t:=decide ((ra.length:Int)<((ra++rb).length:Nat))) (ab hv.h53) (cZ (ac (aM (ab hv.h57) hP.row.buf rfl) ak) (tu hP.row)) rfl) (aA rfl ?_)
 cases ib with
 |nil=>
  have RE:rb=[]:=List.length_eq_zero_iff.mp (by rw[List.length_nil]at ff;lia)
  subst RE
  have RD:ia=fj [] is:=hP.pt
  have hR:=hP.row
  rw[List.append_nil ia,RD]at hR
  exact bA (decide_eq_false (by rw[List.append_nil];exact Int.lt_irrefl _)) (lP h hR hP.kp q)
 |cons x ib=>
  cases rb with
  |nil=>rw[List.length_nil,List.length_cons]at ff;lia
  |cons rj rb=>
   refine bT (decide_eq_true (Int.ofNat_lt.mpr (by rw[List.length_append];exact Nat.lt_add_of_pos_right (Nat.succ_pos _)))) ⟨ib.length,rfl,?_⟩
   have e1:(ra++rj::rb)[ra.length]?=some rj:=by rw[List.getElem?_append_right (Nat.le_refl _),Nat.sub_self];rfl
   have e2:(ia++x::ib)[ra.length]?=some x:=by rw[de,List.getElem?_append_right (Nat.le_refl _),Nat.sub_self];rfl
   refine cq (fk hP.row (k:=ra.length) (List.getElem?_eq_some_iff.mp e1).1) fun r2 j' f1 f2 Yh Cp f3 f4=>?_
   cases e1.symm.trans f1
   cases e2.symm.trans f2
   refine ba (bR (ac (ab hv.h184) (ac (aQ (aM (ab hv.h57) hP.row.buf rfl) (ab hv.h53) f3) ak)) ⟨Bu (Du h hP.kp hN) f4 (hP.row.gl _ Cp)⟩) (ba ar (cV (U0 (d:=d) hP (uL h hP.kp hC) hw hcd ⟨hv.h57,hv.h184,hv.h60,hv.h258,hv.h53,hv.h151,hv.h239⟩ rfl rfl fun ρ' b6 g105 g255=>?_)))
   by_cases z:uQ ia x=0
   ·rw[z]at g255
    refine aW (t:=false) (ay (ab g255) ar rfl) rfl (bt (UZ hP hw ?_ b6 g105))
    rcases List.eq_nil_or_concat ia with e | ⟨a,y,e⟩
    ·rw[e];rfl
    ·rw[e,List.concat_eq_append]at z ⊢
     rw[yK,gM]at z
     rw[tn,if_neg fun e=>by rw[if_pos ⟨e.2,e.1⟩]at z;exact absurd z (by decide)]
   ·rcases Iz (x:=x) hcd with⟨_,e⟩ | ⟨a,y,rfl,rfl,rfl⟩
    ·exact absurd e z
    ·rw[yK,gM]at z g255
     have zz:y.code=97∧x.code=768:=Decidable.byContradiction fun e=>z (if_neg e)
     rw[if_pos zz]at g255
     rcases List.eq_nil_or_concat ra with e | ⟨ra',ri,e⟩
     ·rw[e,List.length_append]at de;exact absurd de (Nat.succ_ne_zero _).symm
     ·rw[List.concat_eq_append]at e
      subst e
      rw[List.length_append,List.length_append]at de
      exact aW (t:=true) (ay (ab g255) ar rfl) rfl (UY hP hn (Nat.add_right_cancel de) hw zz.1 zz.2 b6 g255)
end
noncomputable def SI:List In→Prop
 |x::y::l=>x.cluster<y.cluster∧SI (y::l)
 |_=>True
theorem tl (i:In)(rest:List In):lw i rest=[i.code]∨(i.code=224∧lw i rest=[97,768]):=by
 unfold lw uu
 split
 ·exact .inl rfl
 ·split
  ·rename_i h;exact .inr ⟨h,rfl⟩
  ·exact .inl rfl
theorem Nk {j:In}{rest:List In}:∃x t,apart (j::rest)=x::t∧x.cluster=j.cluster:=by
 rcases tl j rest with e | ⟨_,e⟩
 ·refine⟨j,apart rest,?_,rfl⟩
  simp only[apart,e,List.map_cons,List.map_nil,List.cons_append,List.nil_append]
 ·refine⟨{j with code:=97},{j with code:=768}::apart rest,?_,rfl⟩
  simp only[apart,e,List.map_cons,List.map_nil,List.cons_append,List.nil_append]
theorem Ik:∀{is:List In},SI is→eL (apart is)
 | [],_=>trivial
 | [i],_=>by
  rcases tl i []with e | ⟨_,e⟩
  ·simp only[apart,e,List.map_cons,List.map_nil,List.append_nil];trivial
  ·simp only[apart,e,List.map_cons,List.map_nil,List.append_nil]
   exact⟨.inr ⟨rfl,rfl,rfl⟩,trivial⟩
 |i::j::rest,h=>by
  obtain ih:=Ik (is:=j::rest) h.2
  refine eX (Nk (j:=j) (rest:=rest)) fun x t ex hx=>?_
  rw[apart.eq_def]
  try dsimp only
  rw[ex]at ih ⊢
  obtain bB:i.cluster<x.cluster:=by rw[hx];exact h.1
  rcases tl i (j::rest)with e | ⟨_,e⟩
  ·rw[e]
   exact⟨.inl bB,ih⟩
  ·refine(e).symm▸?_
   exact⟨.inr ⟨rfl,rfl,rfl⟩,.inl bB,ih⟩
theorem LU:∀{is:List In},(∀i∈is,je i.code)→∀x∈apart is,je x.code
 | [],_,x,hx=>by simp[apart]at hx
 |i::rest,h,x,hx=>by
  rw[apart.eq_def]at hx
  dsimp only at hx
  rcases List.mem_append.mp hx with m |m
  ·refine am (List.mem_map.mp m) fun c hc e29=>?_
   subst e29
   rcases tl i rest with e | ⟨_,e⟩
   ·rw[e]at hc
    simp only[List.mem_singleton]at hc
    subst hc
    exact h i (List.mem_cons_self ..)
   ·rw[e]at hc
    simp only[List.mem_cons,List.not_mem_nil,or_false]at hc
    rcases hc with rfl |rfl
    ·exact⟨.inl (by decide:(97:Int)<4352),(by decide:(97:Int)<44032)⟩
    ·exact⟨.inl (by decide:(768:Int)<4352),(by decide:(768:Int)<44032)⟩
  ·exact LU (fun i hi=>h i (List.mem_cons_of_mem _ hi)) x m
theorem Hw:∀is:List In,(apart is).length≤2*is.length
 | []=>Nat.le_refl _
 |i::rest=>by
  obtain ih:=Hw rest
  rw[apart.eq_def]
  try dsimp only
  rcases tl i rest with e | ⟨_,e⟩<;>rw[e]<;>simp<;>lia
section
variable {d:Nat}{σ:St}{Q:AV→St→Prop}
theorem Ox {b l nm cm:Nat}{bk:Bool}{rs:List Nat}{is:List In}(h:aD σ b l bk rs is)(hN:NM σ nm)(hC:CM σ cm)(hs:SI is)(ch:∀i∈is,je i.code)(hn:rs.length≤20)
  (q:∀σ' l' rs',aU b rs σ σ'→aD σ' b l' bk rs' (fj [] (apart is))→Q .none σ'):WC (ao T0 (d+7)) 185 [.ref b,.ref nm,.ref cm] σ Q:=by
 refine tF (fn:=tL) rfl rfl (Nat.le_of_ble_eq_true rfl) (Nat.le_of_ble_eq_true rfl) ?_
 show WB _ tL.body _ _ _
 unfold tL
 refine N6 h hN hC (fun i hi=>(ch i hi).2) (by lia) fun s1 f nrs k1 r1 gt=>?_
 have k1':aU b rs σ s1:=⟨k1.1,fun r hr hb _=>k1.2 r hr hb⟩
 obtain xZ:=Du h k1' hN
 obtain B4:=uL h k1' hC
 have aX:nrs.length≤40:=by
  rw[r1.infos.len]
  have:=Hw is
  have:=h.infos.len
  lia
 refine jk (Oz r1 xZ (by lia)) ?_
 refine OE r1 xZ B4 (Ik hs) (LU ch) (by lia) fun s2 l2 rs2 k2 r2=>?_
 refine lP h r2 ⟨Nat.le_trans k1.1 k2.1,fun r hr hb hm=>?_⟩ q
 rw[k2.2 r (Nat.lt_of_lt_of_le hr k1.1) hb fun m=>by have:=gt r m;lia]
 exact k1.2 r hr hb
theorem Hq:∀{is:List In},SI is→SI (is.map fJ)
 | [],_=>trivial
 | [i],_=>trivial
 |i::j::rest,h=>⟨h.1,Hq (is:=j::rest) h.2⟩
theorem OH {b l cm:Nat}{bk:Bool}{rs:List Nat}{is:List In}(h:aD σ b l bk rs is)(hs:∀i∈is,w7 i.code=false)(hn:rs.length≤90)
  (q:∀σ',eM rs σ σ'→aD σ' b l bk rs (is.map fJ)→Q .none σ'):WC (ao T0 (d+5)) 210 [.ref b,.ref cm,.none] σ Q:=by
 refine tF (fn:=js) rfl rfl (Nat.le_of_ble_eq_true rfl) (Nat.le_of_ble_eq_true rfl) ?_
 show WB _ js.body _ _ _
 unfold js
 refine H4 h fun s1 k1 r1=>?_
 refine jk (Ie r1 (fun i hi=>by obtain⟨j,hj,rfl⟩:=List.mem_map.mp hi;exact hs j hj) hn) ?_
 first |refine tD ?_ |refine bt ?_ |refine tE ?_
 try dsimp only
 first |refine tD ?_ |refine bt ?_ |refine tE ?_
 exact Bi k1.1 (q _ k1 r1)
theorem OG {b l nm cm:Nat}{bk:Bool}{rs:List Nat}{is:List In}(h:aD σ b l bk rs is)(hN:NM σ nm)(hC:CM σ cm)(hs:∀i∈is,w7 i.code=false)(RM:SI is)(ch:∀i∈is,je i.code)(hn:rs.length≤20)
  (q:∀σ' l' rs',aU b rs σ σ'→aD σ' b l' bk rs' (fj [] (apart (is.map fJ)))→Q .none σ'):WC (ao T0 (d+8)) 210 [.ref b,.ref cm,.ref nm] σ Q:=by
 refine tF (fn:=js) rfl rfl (Nat.le_of_ble_eq_true rfl) (Nat.le_of_ble_eq_true rfl) ?_
 show WB _ js.body _ _ _
 unfold js
 refine H4 (d:=d+3) h fun s1 k1 r1=>?_
 obtain k1':aU b rs σ s1:=⟨by rw[k1.1];exact Nat.le_refl _,fun r hr _ hm=>k1.2 r hm⟩
 obtain xZ:=Du h k1' hN
 obtain B4:=uL h k1' hC
 refine jk (Ie (d:=d+5) r1 (fun i hi=>by obtain⟨j,hj,rfl⟩:=List.mem_map.mp hi;exact hs j hj) (by lia)) ?_
 refine Ox r1 xZ B4 (Hq RM) (fun i hi=>by obtain⟨j,hj,rfl⟩:=List.mem_map.mp hi;exact ch j hj) hn fun s2 l2 rs2 k2 r2=>?_
 first |refine tD ?_ |refine bt ?_ |refine tE ?_
 refine lP h r2 ⟨by rw[←k1.1];exact k2.1,fun r hr hb hm=>?_⟩ q
 rw[k2.2 r (by rw[k1.1];exact hr) hb hm]
 exact k1.2 r hm
end
noncomputable def eT (acc:List Int×List Int)(p:Int×Int):List Int×List Int:=if p.1=768∧acc.1.getLast?=some 97 then(acc.1.dropLast++[224],acc.2)else(acc.1++[p.1],acc.2++[p.2])
theorem Fy:∀{is:List In} {acc:List In} {A:List Int×List Int},acc.map (·.code)=A.1→acc.map (·.cluster)=A.2→
  (fj acc (apart is)).map (·.code)=((is.map fun i=>(i.code,i.cluster)).foldl eT A).1∧(fj acc (apart is)).map (·.cluster)=((is.map fun i=>(i.code,i.cluster)).foldl eT A).2
 | [],acc,A,h1,h2=>⟨h1,h2⟩
 |i::rest,acc,A,h1,h2=>by
  rw[apart.eq_def]
  unfold fj
  refine(List.foldl_append).symm▸?_
  refine(List.map_cons).symm▸?_
  refine(List.foldl_cons).symm▸?_
  rcases tl i rest with e | ⟨hc,e⟩
  ·rw[e]
   simp only[List.map_cons,List.map_nil,List.foldl_cons,List.foldl_nil]
   refine Fy (is:=rest) ?_ ?_
   ·rcases List.eq_nil_or_concat acc with rfl | ⟨a,y,rfl⟩
    ·simp only[List.map_nil]at h1
     simp[eT,←h1,pC]
    ·rw[List.concat_eq_append]at*
     rw[tn]
     have hl:A.1.getLast?=some y.code:=by rw[←h1];simp
     by_cases z:i.code=768∧y.code=97
     ·have:(i.code,i.cluster).1=768∧A.1.getLast?=some 97:=⟨z.1,by rw[hl,z.2]⟩
      rw[if_pos z];unfold eT;rw[if_pos this]
      simp[←h1]
     ·have:¬((i.code,i.cluster).1=768∧A.1.getLast?=some 97):=fun k=>z ⟨k.1,by have:=k.2;rw[hl]at this;exact Option.some.inj this⟩
      rw[if_neg z];unfold eT;rw[if_neg this]
      simp[←h1]
   ·rcases List.eq_nil_or_concat acc with rfl | ⟨a,y,rfl⟩
    ·simp only[List.map_nil]at h1 h2
     simp[eT,←h1,←h2,pC]
    ·rw[List.concat_eq_append]at*
     rw[tn]
     have hl:A.1.getLast?=some y.code:=by rw[←h1];simp
     by_cases z:i.code=768∧y.code=97
     ·have:(i.code,i.cluster).1=768∧A.1.getLast?=some 97:=⟨z.1,by rw[hl,z.2]⟩
      rw[if_pos z];unfold eT;rw[if_pos this]
      simp[←h2]
     ·have:¬((i.code,i.cluster).1=768∧A.1.getLast?=some 97):=fun k=>z ⟨k.1,by have:=k.2;rw[hl]at this;exact Option.some.inj this⟩
      rw[if_neg z];unfold eT;rw[if_neg this]
      simp[←h2]
  ·refine(e).symm▸?_
   simp only[List.map_cons,List.map_nil,List.foldl_cons,List.foldl_nil]
   obtain e1:pC acc {i with code:=97}=acc++[{i with code:=97}]:=by
    rcases List.eq_nil_or_concat acc with rfl | ⟨a,y,rfl⟩
    ·rfl
    ·rw[List.concat_eq_append,tn,if_neg fun k=>absurd k.1 (by decide:¬((97:Int)=768))]
   rw[e1,tn,if_pos ⟨rfl,rfl⟩]
   refine ah fun aa=>?_
   obtain e2:eT A (i.code,i.cluster)=(A.1++[224],A.2++[i.cluster]):=by
    unfold eT
    rw[if_neg fun k=>by have:=k.1;simp only[hc]at this;exact absurd this (by decide)]
    rw[hc]
   refine aa ?_
   refine(e2).symm▸?_
   refine Fy (is:=rest) ?_ ?_
   ·simp[h1]
   ·simp[h2]
noncomputable def dm (σ:St)(p q:Nat):Prop:=p≠q∧∃(ds:List Int) (k r:Int),σ[p]?=some (.list [.ref q,.int k,.int r])∧σ[q]?=some (.list (ds.map .int))
noncomputable def dO (p q:Nat)(σ σ':St):Prop:=σ.length≤σ'.length∧∀r,r<σ.length→r≠p→r≠q→σ'[r]?=σ[r]?
theorem dO.refl {p q:Nat}{σ:St}:dO p q σ σ:=⟨Nat.le_refl _,fun _ _ _ _=>rfl⟩
theorem dO.trans {p q:Nat}{σ s t:St}(h:dO p q σ s)(k:dO p q s t):dO p q σ t:=⟨Nat.le_trans h.1 k.1,fun r hr h1 h2=>(k.2 r (Nat.lt_of_lt_of_le hr h.1) h1 h2).trans (h.2 r hr h1 h2)⟩
theorem dO.get {p q:Nat}{σ s:St}(h:dO p q σ s){r:Nat}{o:ae}(e:σ[r]?=some o)(h1:r≠p)(h2:r≠q):s[r]?=some o:=(h.2 r (cu e) h1 h2).trans e
theorem dO.app {p q:Nat}{σ s m:St}(h:dO p q σ s):dO p q σ (s++m):=⟨Nat.le_trans h.1 co,fun r hr h1 h2=>by rw[List.getElem?_append_left (Nat.lt_of_lt_of_le hr h.1)];exact h.2 r hr h1 h2⟩
theorem dm.app {σ m:St}{p q:Nat}(h:dm σ p q):dm (σ++m) p q:=let⟨a,ds,k,r,b,c⟩:=h;⟨a,ds,k,r,al b,al c⟩
section
variable {d:Nat}{σ:St}{Q:AV→St→Prop}
theorem AG {r k:Nat}{us:List AV}{v:AV}(h:σ[r]?=some (.list us))(e:Nat.ble (k+1) us.length=true):ie σ (.ref r) (.int (k:Int)) v=some (σ.set r (.list (us.set k v))):=by
 rw[w9,h]
 show(dK k us.length).map _=_
 rw[DI (Nat.le_of_ble_eq_true e)];rfl
theorem UO {r:Nat}{us:List AV}{v:AV}(h:σ[r]?=some (.list (v::us))):d6 204 (.ref r) [.int 0] σ=some (v,σ.set r (.list us)):=by
 rw[uP,h];rfl
theorem OC {ns:List Int}(hn:ns.length≤63)(q:∀σ',dm σ' 3 2→σ'.length=4→Q (.ref 3) σ'):WC (ao T0 (d+1)) 45 [.ref 0] [.ext (ns.map .int)] Q:=by
 have sl:lA [.ext (ns.map .int)] (.ref 0) .none (.int 63)=some (.ref 1,[.ext (ns.map .int),.list (ns.map .int)]):=by
  show some (AV.ref 1,[ae.ext (ns.map .int),.list (((ns.map AV.int).take 63).drop 0)])=_
  rw[List.take_of_length_le (by rw[List.length_map];exact hn)];rfl
 have e1:([ae.ext (ns.map .int),.list (ns.map .int)]:St)[1]?=some (.list (ns.map .int)):=rfl
 have hc (ρ:ag):ca (some (1,.list (ns.map .int))) [59] true (dA (ao T0 d) [] (.bin .add (.bin .mul (.ci 2) (.bi .abs [.bi .int [.v 59]])) (.bi .int [.cmp .lt (.v 59) (.ci 0)]))) ρ (ns.map .int) [.ext (ns.map .int),.list (ns.map .int)]=some ((ns.map fun n=>2*(n.natAbs:Int)+if decide (n<0)=true then 1 else 0).map .int,[.ext (ns.map .int),.list (ns.map .int)]):=by
  rw[List.map_map]
  exact fS (bg e1) fun n _=>⟨_,rfl,eJ (bI (bI ar (cZ (ac (cZ (ac (ab rfl) ak) rfl) ak) rfl) rfl) (cZ (ac (ay (ab rfl) ar rfl) ak) rfl) rfl)⟩
 exact bM rfl rfl rfl (eK (c9 (bu (cO (bu (jm (aJ (ab rfl) (aJ ew (aJ ar (aZ sl (a8 (aA (cx e1) (aZ (hc _) ⟨by rw[List.length_map,List.length_map];exact Nat.lt_of_le_of_lt hn (by decide),aL (ac ar (ac ar ak)) (ec (by exact Nat.le_add_left 1 2) (q _ ⟨by decide,_,0,0,rfl,rfl⟩ rfl))⟩)))))))))))))
theorem Qe (a:Int){n:Int}(h:0<n):0≤Int.fmod a n∧Int.fmod a n<n:=by
 rw[Int.fmod_eq_emod_of_nonneg a (Int.le_of_lt h)]
 exact⟨Int.emod_nonneg a (Int.ne_of_gt h),Int.emod_lt_of_pos a h⟩
theorem HZ {p q:Nat}{m:Int}(h:dm σ p q)(hm:0<m)(CH:m<1000000000)(k:∀v σ',0≤v→v<m→dO p q σ σ'→dm σ' p q→σ'[p]?≠σ[p]?→Q (.int v) σ'):WC (ao T0 (d+1)) 42 [.ref p,.int m] σ Q:=by
 obtain⟨jN,ds,kk,r,hp,hq⟩:=h
 have s9:xa m=true:=decide_eq_true ⟨hm,CH⟩
 have fm (x:Int) (s:St):fR .fmod (.int x) (.int m) s=some (.int (Int.fmod x m),s):=by
  show(gO (xa m) _).map _=_
  rw[s9];rfl
 have fd (x:Int) (s:St):fR .fdiv (.int x) (.int m) s=some (.int (Int.fdiv x m),s):=by
  show(gO (xa m) _).map _=_
  rw[s9];rfl
 refine bM rfl rfl rfl (iy (σ':=σ.set p (.list [.ref q,.int (kk+1),.int r])) (bI (aQ (ab rfl) ar (c7 (k:=1) hp rfl)) ar rfl) (ab rfl) ar (AG (k:=1) hp rfl) ?_)
 have ut:(σ.set p (.list [.ref q,.int (kk+1),.int r]))[p]?=some (.list [.ref q,.int (kk+1),.int r]):=dy hp
 have CV:(σ.set p (.list [.ref q,.int (kk+1),.int r]))[q]?=some (.list (ds.map .int)):=by rw[List.getElem?_set_ne jN];exact hq
 have kp1:dO p q σ (σ.set p (.list [.ref q,.int (kk+1),.int r])):=⟨Nat.le_of_eq (List.length_set ..).symm,fun x _ h1 _=>List.getElem?_set_ne (Ne.symm h1)⟩
 generalize σ.set p (.list [.ref q,.int (kk+1),.int r])=s1 at ut CV kp1
 have rest (ds':List Int) (r':Int) (s:St) (ρ:ag) (eB:ρ 200=some (.ref p)) (BY:ρ 167=some (.int m)) (e1:s[p]?=some (.list [.ref q,.int (kk+1),.int r'])) (e2:s[q]?=some (.list (ds'.map .int))) (kp:dO p q σ s):
   WB (ao T0 d) [.asg (.name 76) (.bin .fmod (.bi .int [.idx (.v 200) (.ci 2)]) (.v 167)),.asg (.idx (.v 200) (.ci 2)) (.bin .fdiv (.bi .int [.idx (.v 200) (.ci 2)]) (.v 167)),.ret (.bin .fmod (.bin .add (.v 76) (.idx (.v 200) (.ci 1))) (.v 167))] ρ s (dk σ Q):=by
  have hf:=Qe (Int.fmod r' m+(kk+1)) hm
  have e3:(s.set p (.list [.ref q,.int (kk+1),.int (Int.fdiv r' m)]))[p]?=some (.list [.ref q,.int (kk+1),.int (Int.fdiv r' m)]):=dy e1
  have aY:(s.set p (.list [.ref q,.int (kk+1),.int (Int.fdiv r' m)]))[p]?≠σ[p]?:=fun e=>by
   have:=AV.int.inj (List.cons.inj (List.cons.inj (ae.list.inj (Option.some.inj (e3.symm.trans (e.trans hp))))).2).1
   exact absurd this (Int.ne_of_gt (Int.lt_succ kk))
  refine ba (bI (cZ (ac (aQ (ab eB) ar (c7 (k:=2) e1 rfl)) ak) rfl) (ab BY) (fm ..)) (iy (σ':=s.set p (.list [.ref q,.int (kk+1),.int (Int.fdiv r' m)])) (bI (cZ (ac (aQ (ab eB) ar (c7 (k:=2) e1 rfl)) ak) rfl) (ab BY) (fd ..)) (ab eB) ar (AG (k:=2) e1 rfl) (a6 (bI (bI (ab rfl) (aQ (ab eB) ar (c7 (k:=1) e3 rfl)) rfl) (ab BY) (fm ..)) (Bh hp (by rw[←hp];exact aY) (k _ _ hf.1 hf.2 ⟨by rw[List.length_set];exact kp.1,fun x hx h1 h2=>by rw[List.getElem?_set_ne (Ne.symm h1)];exact kp.2 x hx h1 h2⟩ ⟨jN,ds',kk+1,_,e3,by rw[List.getElem?_set_ne jN];exact e2⟩ aY))))
 refine io (F3 (aJ (ay (aQ (ab rfl) ar (c7 (k:=2) ut rfl)) ar rfl) (aA rfl ?_)))
 show cond (r==0) _ _
 cases z:r==0 with
 |false=>exact bA rfl (aA (v:=false) (congrArg some z) (bA rfl (bt (rest ds r s1 _ rfl rfl ut CV kp1))))
 |true=>
  have g1:=al (l:=[ae.list []]) CV
  have g0:=al (l:=[ae.list []]) ut
  refine bT rfl (iq (aJ (aQ (ab rfl) ar (c7 (k:=0) ut rfl)) (c9 (a8 ?_))))
  cases ds with
  |nil=>exact aA (v:=false) (yP g1 aw rfl) (aA (v:=false) rfl (bA rfl (bt (rest [] r _ _ rfl rfl g0 g1 kp1.app))))
  |cons x ds=>
   have g3:((s1++[ae.list []]).set q (.list (ds.map .int)))[p]?=some (.list [.ref q,.int (kk+1),.int r]):=by rw[List.getElem?_set_ne (Ne.symm jN)];exact g0
   refine aA (v:=true) (congrArg (Option.map (!·)) (t7 (t:=false) g1 aw (if_neg nofun))) (aA (v:=true) rfl (bT rfl (cV (F8 (pJ (aJ (aQ (ab rfl) ar (c7 (k:=0) g0 rfl)) ⟨_,_,rfl,g1,rfl,aL (ac ar ak) (aZ (UO g1) (aJ (ab rfl) (aJ ar (aA (AG (k:=2) g3 rfl) ?_))))⟩))))))
   refine bt (rest ds x _ _ rfl rfl (dy g3) (by rw[List.getElem?_set_ne jN];exact dy g1) ⟨by rw[List.length_set,List.length_set];exact kp1.app.1,fun y hy h1 h2=>?_⟩)
   rw[List.getElem?_set_ne (Ne.symm h1),List.getElem?_set_ne (Ne.symm h2)]
   exact kp1.app.2 y hy h1 h2
theorem H8 {p q s:Nat}{vs:List AV}(h:dm σ p q)(hs:σ[s]?=some (.list vs))(h1:s≠p)(h2:s≠q)(hv:vs≠[])(hl:vs.length≤1000)(k:∀x σ',x∈vs→dO p q σ σ'→dm σ' p q→Q x σ'):WC (ao T0 (d+2)) 46 [.ref p,.ref s] σ Q:=by
 have mc:=List.length_pos_iff.mpr hv
 have⟨o,ho⟩:∃o,σ[p]?=some o:=let⟨_,_,_,_,e,_⟩:=h;⟨_,e⟩
 refine bM rfl rfl rfl (eK (M8 (aJ (ab rfl) (bG (aL (ac (ab rfl) (ac (cZ (ac (ab rfl) ak) (gC hs rfl)) ak)) (HZ h (by lia) (by lia) fun v s1 v0 v1 kp pn ne=>?_))))))
 obtain⟨n,rfl⟩:∃n:Nat,v=n:=⟨v.toNat,(Int.toNat_of_nonneg v0).symm⟩
 have hn:n<vs.length:=Int.ofNat_lt.mp v1
 exact aA (c7 (kp.get hs h1 h2) (List.getElem?_eq_getElem hn)) (Bh ho (by rw[←ho];exact ne) (k _ _ (List.getElem_mem hn) kp pn))
theorem Pl {p q s:Nat}{ρ:ag}{ls:Nat}{vs:List AV}(h1:s≠p)(h2:s≠q)(hv:vs≠[])(hl:vs.length≤1000)(eB:ρ 200=some (.ref p))(CE:ρ ls=some (.ref s))(aY:ls≠235)
  {us:List AV}{σ:St}(hP:dm σ p q)(hs:σ[s]?=some (.list vs)):∃xs σ',ca none [235] true (dA (ao T0 (d+2)) [] (.call 46 [.v 200,.v ls])) ρ us σ=some (xs,σ')∧xs.length=us.length∧(∀y∈xs,y∈vs)∧dO p q σ σ'∧dm σ' p q:=by
 induction us generalizing σ with
 |nil=>exact⟨[],σ,rfl,rfl,fun y hy=>(List.not_mem_nil hy).elim,.refl,hP⟩
 |cons u us ih=>
  have:WE (ao T0 (d+2)) (.call 46 [.v 200,.v ls]) (aF ρ 235 u) σ fun y t=>y∈vs∧dO p q σ t∧dm t p q:=
   bG (aL (ac (ab eB) (ac (ab ((pH aY).trans CE)) ak)) (H8 hP hs h1 h2 hv hl fun y t a b c=>⟨a,b,c⟩))
  refine lJ (WE.elim this) fun y t e hy kp pn=>?_
  refine lK (ih pn (kp.get hs h1 h2)) fun xs t' e' cQ hm kp' pn'=>?_
  refine⟨y::xs,t',?_,congrArg Nat.succ cQ,fun z hz=>(List.mem_cons.mp hz).elim (fun e=>e▸hy) (hm z),kp.trans kp',pn'⟩
  rw[pU]
  exact(bN (bN e:)).trans (bN e')
end
noncomputable def Kh:List S:=pP.body.take 5
noncomputable def Dz:List S:=(pP.body.drop 5).take 6
noncomputable def qs:List S:=(pP.body.drop 11).take 10
noncomputable def yD:List S:=pP.body.drop 21
noncomputable def jS:List Int:=[97,768,173,98,224,8204]
structure SA (σ:St)(cm cd b1 b2 l1 l2:Nat)(cs:List Int)(rs1 rs2:List Nat):Prop where
 pen:dm σ 3 2
 cm:CM σ cm
 cd:σ[cd]?=some (.list (cs.map .int))
 r1:aD σ b1 l1 false rs1 (bq cs)
 r2:aD σ b2 l2 false rs2 (bq cs)
 gt1:∀r∈rs1,3<r
 gt2:∀r∈rs2,3<r
 gb1:3<b1
 gb2:3<b2
 dis:∀r∈rs1,r∉rs2
 ne:b1≠b2
 sub:∀c∈cs,c∈jS
 len:cs.length≤7
theorem N1 {d:Nat}{cd:Nat}{σ:St}:ao T0 (d+1) 58 [.ref cd] σ=ao T0 (d+1) 58 [.ref cd,.bool false] σ:=rfl
theorem So {xs:List AV}{L:List Int}(h:∀y∈xs,y∈L.map AV.int):∃cs:List Int,xs=cs.map .int∧∀c∈cs,c∈L:=by
 induction xs with
 |nil=>exact⟨[],rfl,fun c hc=>(List.not_mem_nil hc).elim⟩
 |cons x xs ih=>
  refine am (ih fun y hy=>h y (List.mem_cons_of_mem _ hy)) fun cs e hc=>?_
  refine am (List.mem_map.mp (h x (List.mem_cons_self ..))) fun c QS e29=>?_
  exact⟨c::cs,by rw[e,←e29];rfl,fun z hz=>(List.mem_cons.mp hz).elim (fun e=>e▸QS) (hc z)⟩
section
variable {d:Nat}{σ:St}{Q:AV→St→Prop}{QF:Fl→ag→St→Prop}
theorem IE {p q s ls:Nat}{L:List Int}{ρ:ag}(h:dm σ p q)(hs:σ[s]?=some (.list (L.map .int)))(h1:s≠p)(h2:s≠q)(hv:L≠[])(hl:L.length≤1000)(eB:ρ 200=some (.ref p))(CE:ρ ls=some (.ref s))(aY:ls≠235)
  (k:∀(cs:List Int)(s':St),cs.length≤7→(∀c∈cs,c∈L)→dO p q σ s'→dm s' p q→Q (.ref s'.length) (s'++[.list (cs.map .int)])):WE (ao T0 (d+3)) (.lcomp [235] true .range [.call 42 [.v 200,.ci 8]] [] (.call 46 [.v 200,.v ls])) ρ σ Q:=by
 refine cO (bu (bG (aL (ac (ab eB) (ac ar ak)) (HZ h (by decide) (by decide) fun v s1 v0 v8 kp pn _=>?_))))
 obtain⟨n,rfl⟩:∃n:Nat,v=n:=⟨v.toNat,(Int.toNat_of_nonneg v0).symm⟩
 have hn:n≤7:=by lia
 refine lK (Pl (d:=d+1) h1 h2 (vs:=L.map .int) (fun e=>hv (List.map_eq_nil_iff.mp e)) (by rw[List.length_map];exact hl) eB CE aY (us:=di 0 n) pn (kp.get hs h1 h2)) fun xs s2 e JV Sd kp2 pn2=>?_
 refine am (So Sd) fun cs e19 hc=>?_
 subst e19
 rw[tr,List.length_map,List.length_map,List.length_range]at JV
 exact a8 (aA (lC (Nat.le_trans hn (by decide))) (aZ e ⟨by rw[List.length_map];lia,k _ _ (JV▸hn) hc (kp.trans kp2) pn2⟩))
theorem HY {cd:Nat}{cs:List Int}(h:σ[cd]?=some (.list (cs.map .int)))(hn:cs.length≤7)
  (q:∀σ',σ'=σ++(bq cs).map a7++[.list ((List.range' σ.length cs.length).map .ref),et (σ.length+cs.length) false]→aD σ' (σ.length+cs.length+1) (σ.length+cs.length) false (List.range' σ.length cs.length) (bq cs)→Q (.ref (σ.length+cs.length+1)) σ'):WC (ao T0 (d+2)) 58 [.ref cd] σ Q:=by
 unfold WC
 rw[N1]
 exact Bt h (Nat.le_trans hn (by decide)) q
theorem S5 {ns:List Int}(hn:ns.length≤63)(k:∀ρ σ cm cd b1 b2 l1 l2 cs rs1 rs2,SA σ cm cd b1 b2 l1 l2 cs rs1 rs2→ρ 200=some (.ref 3)→ρ 68=some (.ref cd)→ρ 60=some (.ref cm)→ρ 57=some (.ref b1)→ρ 202=some (.ref b2)→QF .next ρ σ):
  WB (ao T0 (d+3)) Kh (cX [218] [.ref 0]) [.ext (ns.map .int)] QF:=by
 refine bS (bG (aL (ac (ab rfl) ak) (OC hn fun s1 pn1 de=>bS (c9 (aL (vs:=jS.map .int) ⟨rfl⟩ (bS (IE (L:=jS) pn1.app aw (by rw[de];decide) (by rw[de];decide) nofun (by decide) rfl rfl (by decide) fun cs s2 cr hcm kp2 pn2=>
  bS (bG (bu (gN (aL ⟨rfl⟩ (aA (v:=cY) rfl (a8 (N3 aw ?_))))))))))))))
 have hcd:(s2++[ae.list (cs.map .int)])[s2.length]?=some (.list (cs.map .int)):=aw
 have pn3:=pn2.app (m:=[ae.list (cs.map .int)])
 have Cy:(s2++[ae.list (cs.map .int)]).length=s2.length+1:=List.length_append
 have eH:5≤s2.length:=Nat.le_trans (Nat.le_of_eq (by rw[List.length_append,de];rfl)) kp2.1
 clear kp2 pn2 pn1 de
 generalize s2++[ae.list (cs.map .int)]=s3 at hcd pn3 Cy
 have B5:CM (s3++[ae.dict cY]++[ae.inst 4 [(68,.ref ((s3++[ae.dict cY]).length+1)),(253,.none)],.dict cY]) (s3++[ae.dict cY]).length:=⟨_,b9 (k:=0) rfl,b9 (k:=1) rfl⟩
 have pn4:=pn3.app (m:=[ae.dict cY]) |>.app (m:=[ae.inst 4 [(68,.ref ((s3++[ae.dict cY]).length+1)),(253,.none)],.dict cY])
 have x9:=al (l:=[ae.inst 4 [(68,.ref ((s3++[ae.dict cY]).length+1)),(253,.none)],.dict cY]) (al (l:=[ae.dict cY]) hcd)
 have uo:s3.length<(s3++[ae.dict cY]++[ae.inst 4 [(68,.ref ((s3++[ae.dict cY]).length+1)),(253,.none)],.dict cY]).length:=Nat.lt_trans iT iT
 generalize s3++[ae.dict cY]++[ae.inst 4 [(68,.ref ((s3++[ae.dict cY]).length+1)),(253,.none)],.dict cY]=s4 at B5 pn4 x9 uo
 generalize (s3++[ae.dict cY]).length=cm at B5
 refine cV (tJ (F4 (bu (bG (aL (ac (ab rfl) ak) (HY (d:=d+1) x9 cr fun s5 e5 r5=>bu (bG (aL (ac (ab rfl) ak) (HY (d:=d+1) (σ:=s5) ?_ cr fun s6 e6 r6=>a8 ⟨_,_,rfl,?_⟩)))))))))
 ·exact e5▸al (al x9)
 have Yc:s5.length=s4.length+cs.length+2:=by rw[e5,List.length_append,List.length_append,List.length_map,bq,List.length_map,List.length_zipIdx];rfl
 have r5':aD s6 (s4.length+cs.length+1) (s4.length+cs.length) false (List.range' s4.length cs.length) (bq cs):=by rw[e6];exact r5.app.app
 refine k _ s6 cm s2.length (s4.length+cs.length+1) (s5.length+cs.length+1) _ _ cs _ _
  ⟨by rw[e6,e5];exact pn4.app.app.app.app,by rw[e6,e5];exact B5.app.app.app.app,by rw[e6,e5];exact al (al (al (al x9))),r5',r6,fun r hr=>?_,fun r hr=>?_,by lia,by lia,fun r hr gy=>?_,by lia,hcm,cr⟩ rfl rfl rfl rfl rfl
 ·have:=(List.mem_range'_1.mp hr).1;lia
 ·have:=(List.mem_range'_1.mp hr).1;lia
 ·have h1:=List.mem_range'_1.mp hr
  have h2:=List.mem_range'_1.mp gy
  lia
end
theorem PL {l:List AV}(h:∀v∈l,ce 3 v v=some true):eA (ce 3) l l=some true:=by
 induction l with
 |nil=>rfl
 |cons v l ih=>
  show(ce 3 v v).bind (fun r=>(eA (ce 3) l l).map (r&&·))=_
  rw[ih fun u hu=>h u (List.mem_cons_of_mem _ hu),h v (List.mem_cons_self ..)];rfl
theorem IQ {l:List AV}(h:∀v∈l,ce 3 v v=some true):gX l l=some true:=by unfold gX;rw[if_pos rfl,PL h]
theorem BD {gd:Option (Nat×ae)}{xs:List Nat}{one:Bool}{turn:ag→St→Option (Option AV×St)}{ρ:ag}{g:AV→AV}{vs:List AV}:∀{σ:St},(∀l,b8 gd (σ++l)=true)→
  (∀v∈vs,∀l,∃ρ',ed xs one v ρ=some ρ'∧∃l',turn ρ' (σ++l)=some (some (g v),σ++l++l'))→∃l',ca gd xs one turn ρ vs σ=some (vs.map g,σ++l'):=by
 induction vs with
 |nil=>
  intro σ hs _
  have h:=hs []
  rw[List.append_nil]at h
  exact⟨[],by rw[It,h,List.append_nil];rfl⟩
 |cons v vs ih=>
  intro σ hs h
  have h0:=hs []
  have⟨ρ',h1,l1,h2⟩:=h v (List.mem_cons_self ..) []
  rw[List.append_nil]at h0 h2
  have⟨l2,e⟩:=ih (σ:=σ++l1) (fun l=>by rw[List.append_assoc];exact hs _) fun u hu l=>by
   rw[List.append_assoc];exact h u (List.mem_cons_of_mem _ hu) (l1++l)
  refine⟨l1++l2,?_⟩
  rw[pU,h0,h1,←List.append_assoc]
  exact(bN h2).trans (bN e)
section
variable {cf:Cf}{σ:St}{Q:AV→St→Prop}
theorem gG {b l x:Nat}{bk:Bool}{rs:List Nat}{is:List In}{ρ:ag}{elt:E}{val:In→AV}(h:aD σ b l bk rs is)(hx:ρ x=some (.ref b))(hn:rs.length≤1000)
  (he:∀r i,σ[r]?=some (a7 i)→ev aP cf elt (aF ρ 109 (.ref r)) σ=some (val i,σ))(q:Q (.ref σ.length) (σ++[.list (is.map val)])):WE cf (.lcomp [109] true .seq [.attr (.v x) 214] [] elt) ρ σ Q:=by
 exact cO (aL (ac (aM (ab hx) h.buf rfl) ak) (aA (cx h.row) (aZ (BE (bg h.row) h.infos fun r i _ _ e=>eJ ⟨he r i e⟩) ⟨by rw[List.length_map,←h.infos.len];exact Nat.lt_of_le_of_lt hn (by decide),q⟩)))
theorem jG {ρ:ag}{r:Nat}{i:In}(h:σ[r]?=some (a7 i)):ev aP cf (.attr (.v 109) 67) (aF ρ 109 (.ref r)) σ=some (.int i.code,σ):=
 (aM (c:=⟨cf,aF ρ 109 (.ref r),σ⟩) (ab rfl) h rfl).h
theorem PM {ρ:ag}{r:Nat}{i:In}(h:σ[r]?=some (a7 i)):ev aP cf (.attr (.v 109) 144) (aF ρ 109 (.ref r)) σ=some (.str i.kind,σ):=
 (aM (c:=⟨cf,aF ρ 109 (.ref r),σ⟩) (ab rfl) h rfl).h
theorem IW {ρ:ag}{r:Nat}{i:In}(h:σ[r]?=some (a7 i)):ev aP cf (.attr (.v 109) 65) (aF ρ 109 (.ref r)) σ=some (.int i.cluster,σ):=
 (aM (c:=⟨cf,aF ρ 109 (.ref r),σ⟩) (ab rfl) h rfl).h
theorem PN {ρ:ag}{r:Nat}{i:In}(h:σ[r]?=some (a7 i)):ev aP cf (.tup [.attr (.v 109) 67,.attr (.v 109) 170]) (aF ρ 109 (.ref r)) σ=some (.tup [.int i.code,.int i.mask],σ):=
 (cG (c:=⟨cf,aF ρ 109 (.ref r),σ⟩) (ac (aM (ab rfl) h rfl) (ac (aM (ab rfl) h rfl) ak))).h
end
section
variable {d:Nat}{σ:St}{Q:AV→St→Prop}
theorem N9 {b l:Nat}{bk:Bool}{rs:List Nat}{is:List In}(h:aD σ b l bk rs is)(hn:rs.length≤1000)(q:Q (.ref σ.length) (σ++[.list (is.map fun i=>.int i.cluster)])):WC (ao T0 (d+1)) 2066 [.ref b] σ Q:=by
 exact bM rfl rfl rfl (eK (gG h rfl hn (fun r i e=>IW e) (iw q)))
theorem N4 {k1 k2:Nat}(q:Q (.ref σ.length) (σ++[.inst 20 [(195,.ref k1),(64,.ref k2)]])):WC (ao T0 (d+1)) 20 [.ref k1,.ref k2] σ Q:=
 AY (ini:=21040) (fn:=A7) (l:=[(195,.v 195),(64,.v 64)]) (vs:=[.ref k1,.ref k2]) (o:=222) rfl rfl (Nat.le_of_ble_eq_true rfl) (Nat.le_of_ble_eq_true rfl) rfl (by decide) (by exact Nat.le_of_ble_eq_true rfl) rfl ⟨fun _=>rfl,fun _=>rfl,trivial⟩ q
noncomputable def xb:List (AV×AV):=[(.int 8204,.str 265),(.int 8205,.str 264),(.int 173,.str 106)]
theorem OT (q:Q (.ref σ.length) (σ++[.dict xb])):WC (ao T0 (d+1)) 47 [] σ Q:=by
 exact bM rfl rfl rfl (eK (gN (aL (ac ar (ac aT (ac ar (ac aT (ac ar (ac aT ak)))))) (aA (v:=xb) rfl (iw q)))))
theorem Hp:∀{cs:List Int} {n:Nat},SI ((cs.zipIdx n).map fun p=>(⟨p.1,0,p.2,0,0,false⟩:In))
 | [],_=>trivial
 | [c],_=>trivial
 |c::c'::cs,n=>by
  obtain ih:=Hp (cs:=c'::cs) (n:=n+1)
  simp only[List.zipIdx_cons,List.map_cons]at ih ⊢
  exact⟨by show(n:Int)<((n+1:Nat):Int);lia,ih⟩
theorem aD.move {s:St}{b l:Nat}{bk:Bool}{rs:List Nat}{is:List In}(h:aD σ b l bk rs is)(hb:s[b]?=σ[b]?)(hl:s[l]?=σ[l]?)(hr:∀r∈rs,s[r]?=σ[r]?):aD s b l bk rs is:=⟨hb.trans h.buf,hl.trans h.row,h.infos.same hr,h.nd,h.gl⟩
end
theorem Mt:∀c∈jS,w7 c=false:=by decide
theorem Ul:∀c∈jS,je c:=by unfold je;decide
theorem ST:∀c∈jS,(bc xb (.int c)).getD (.str 0)=.str (fY c):=by
 intro c hc
 unfold jS at hc
 simp only[List.mem_cons,List.not_mem_nil,or_false]at hc
 rcases hc with rfl |rfl |rfl |rfl |rfl |rfl<;>rfl
theorem uO {cs:List Int}{i:In}(h:i∈bq cs):i.code∈cs:=by
 unfold bq at h
 refine am (List.mem_map.mp h) fun p hp e29=>?_
 subst e29
 exact(List.mem_zipIdx hp).2.2▸List.getElem_mem _
theorem Sk (cs:List Int):(bq cs).map (fun i=>AV.int i.code)=cs.map .int:=by
 unfold bq
 rw[List.map_map]
 have:((fun i=>AV.int i.code)∘fun p:Int×Nat=>(⟨p.1,0,p.2,0,0,false⟩:In))=(AV.int∘Prod.fst):=rfl
 rw[this,←List.map_map,List.zipIdx_map_fst]
section
variable {d:Nat}{σ:St}{Q:AV→St→Prop}{QF:Fl→ag→St→Prop}
theorem uT {σ:St}{a b:Nat}{l:List AV}(ha:σ[a]?=some (.list l))(hb:σ[b]?=some (.list l))(h:∀v∈l,ce 3 v v=some true):fA σ .ne (.ref a) (.ref b)=some false:=yP ha hb (IQ h)
theorem IT {σ:St}{a b:Nat}{l:List AV}(ha:σ[a]?=some (.list l))(hb:σ[b]?=some (.list l))(h:∀v∈l,ce 3 v v=some true):fA σ .eq (.ref a) (.ref b)=some true:=t7 ha hb (IQ h)
theorem w8 {L:List Int}:∀v∈L.map AV.int,ce 3 v v=some true:=fun v hv=>by
 obtain⟨c,_,rfl⟩:=List.mem_map.mp hv
 exact congrArg some (beq_self_eq_true c)
theorem Ta {cd:Nat}{cs:List Int}{ρ:ag}(h:σ[cd]?=some (.list (cs.map .int)))(hx:ρ 68=some (.ref cd))(ql:∀c∈cs,c∈jS)(hn:cs.length≤7)(q:∀l,Q (.ref (σ++l).length) (σ++l++[.list (cs.map fun c=>.str (fY c))])):
  WE (ao T0 (d+1)) (.lcomp [67] true .seq [.v 68] [] (.meth 91 (.call 47 []) [.v 67,.cs 0])) ρ σ Q:=by
 have⟨l',e⟩:=BD (gd:=some (cd,.list (cs.map .int))) (xs:=[67]) (one:=true) (turn:=dA (ao T0 (d+1)) [] (.meth 91 (.call 47 []) [.v 67,.cs 0])) (ρ:=ρ) (σ:=σ) (vs:=cs.map .int)
  (g:=fun v=>(bz v).elim v fun c=>.str (fY c)) (fun l=>bg (al h)) (fun v hv l=>by
   refine am (List.mem_map.mp hv) fun c hc e29=>?_
   subst e29
   have:WE (ao T0 (d+1)) (.meth 91 (.call 47 []) [.v 67,.cs 0]) (aF ρ 67 (.int c)) (σ++l) fun x s=>x=.str (fY c)∧s=σ++l++[.dict xb]:=
    pJ (bG (a8 (OT ⟨_,_,rfl,aw,rfl,aL (ac (ab rfl) (ac aT ak)) (aZ (jI aw rfl (ST c (ql c hc))) ⟨rfl,rfl⟩)⟩)))
   refine bH (WE.elim this) fun x s e e39 e49=>?_
   subst e39
   subst e49
   exact⟨_,rfl,[.dict xb],bN e⟩)
 refine cO (aL (ac (ab hx) ak) (aA (cx h) (aZ e ⟨by rw[List.length_map,List.length_map];lia,?_⟩)))
 rw[List.map_map]
 exact q l'
noncomputable def uN (done:List (Int×Nat)):List Int×List Int:=(done.map fun p=>(p.1,(p.2:Int))).foldl eT ([],[])
structure LI (σ:St)(ρ:ag)(B:Nat)(done:List (Int×Nat))(W K:List Int)(w k:Nat)(ρ':ag)(s:St):Prop where
 fold:uN done=(W,K)
 loc:∀x,x≠53→x≠67→x≠255→x≠66→ρ' x=ρ x
 g255:ρ' 255=some (.ref w)
 g66:ρ' 66=some (.ref k)
 len:σ.length≤s.length
 keep:∀r,r<B→s[r]?=σ[r]?
 wB:B≤w
 kB:B≤k
 wk:w≠k
 hw:s[w]?=some (.list (W.map .int))
 hk:s[k]?=some (.list (K.map .int))
 l1:W.length≤done.length
 l2:K.length≤done.length
theorem Kv (done:List (Int×Nat))(p:Int×Nat):uN (done++[p])=eT (uN done) (p.1,(p.2:Int)):=by
 unfold uN;rw[List.map_append,List.foldl_append];rfl
theorem MN {r:Nat}{cs:List Int}(h:σ[r]?=some (.list (cs.map .int))):dz .enum [.ref r] σ=some (cs.zipIdx.map fun p=>.tup [.int p.2,.int p.1],some (r,.list (cs.map .int))):=by
 rw[ML,h]
 show some ((cs.map AV.int).zipIdx.map _,_)=_
 rw[List.zipIdx_map,List.map_map];rfl
theorem Tx {B w k:Nat}{done:List (Int×Nat)}{p:Int×Nat}{W K:List Int}{ρ ρ2:ag}{s m:St}{ρ':ag}{X:Fl→ag→St→Prop}(h:LI σ ρ B done W K w k ρ' s)(hd:done.length≤7)(pZ:B≤s.length)
  (z53:ρ2 53=some (.int (p.2:Int)))(z67:ρ2 67=some (.int p.1))(z255:ρ2 255=some (.ref w))(z66:ρ2 66=some (.ref k))(zρ:∀x,x≠53→x≠67→x≠255→x≠66→ρ2 x=ρ x)
  (bj:eT (W,K) (p.1,(p.2:Int))=(W++[p.1],K++[(p.2:Int)]))(q:∀w' k' ρ3 s3,LI σ ρ B (done++[p]) (W++[p.1]) (K++[(p.2:Int)]) w' k' ρ3 s3→X .next ρ3 s3):
  WB (ao T0 d) [.asg (.names [255,66]) (.tup [.bin .add (.v 255) (.lst [.v 67]),.bin .add (.v 66) (.lst [.v 53])])] ρ2 (s++m) X:=by
 have hl {L:List Int} (e:L.length≤done.length):(L.map AV.int).length+1<1000000:=by rw[List.length_map];lia
 refine cV (tJ (F4 (bu (pM (aJ (ab z255) (c9 (aL (ac (ab z67) ak) (aZ (lO (al (al h.hw)) aw (hl h.l1)) (bu (pM (aJ (ab z66) (c9 (aL (ac (ab z53) ak) (aZ (lO (al (al (al (al h.hk)))) aw (hl h.l2)) (a8 ⟨_,_,rfl,?_⟩)))))))))))))))
 refine q _ _ _ _ ⟨by rw[Kv,h.fold,bj],fun x a b c e=>?_,rfl,rfl,?_,fun r hr=>?_,?_,?_,?_,?_,?_,?_,?_⟩
 ·rw[pH e,pH c];exact zρ x a b c e
 ·simp only[List.append_assoc];exact Nat.le_trans h.len co
 ·simp only[List.append_assoc]
  rw[List.getElem?_append_left (Nat.lt_of_lt_of_le hr pZ)]
  exact h.keep r hr
 ·rw[List.append_assoc];exact Nat.le_trans pZ co
 ·simp only[List.append_assoc];exact Nat.le_trans pZ co
 ·rw[List.append_assoc (s++m++[_])];exact Nat.ne_of_lt iT
 ·rw[List.map_append];exact al (al aw)
 ·rw[List.map_append];exact aw
 ·rw[List.length_append,List.length_append];exact Nat.succ_le_succ h.l1
 ·rw[List.length_append,List.length_append];exact Nat.succ_le_succ h.l2
inductive uB (σ:St)(ρ0:ag)(B:Nat)(cs:List Int)(rest:List (Int×Nat))(ρ':ag)(s:St):Prop
 |mk (done:List (Int×Nat))(W K:List Int)(w k:Nat)(q1:cs.zipIdx=done++rest)(q3:LI σ ρ0 B done W K w k ρ' s):uB σ ρ0 B cs rest ρ' s
theorem Tc {cd w0 k0 B:Nat}{cs:List Int}{ρ0:ag}(hcd:σ[cd]?=some (.list (cs.map .int)))(hB:B≤σ.length)(Jh:cd<B)(hw:σ[w0]?=some (.list []))(hk:σ[k0]?=some (.list []))(R6:B≤w0)(Rl:B≤k0)(R8:w0≠k0)(hn:cs.length≤7)
  (cj:ρ0 68=some (.ref cd))(B2:ρ0 255=some (.ref w0))(Qz:ρ0 66=some (.ref k0))
  (q:∀ρ' s w k W K,LI σ ρ0 B cs.zipIdx W K w k ρ' s→QF .next ρ' s):
  WS (ao T0 d) (.for [53,67] false .enum [.v 68] [.iff (.and (.cmp .eq (.v 67) (.ci 768)) (.and (.cmp .ne (.v 255) (.lst [])) (.cmp .eq (.idx (.v 255) (.neg (.ci 1))) (.ci 97)))) [.asg (.idx (.v 255) (.neg (.ci 1))) (.ci 224)] [.asg (.names [255,66]) (.tup [.bin .add (.v 255) (.lst [.v 67]),.bin .add (.v 66) (.lst [.v 53])])]]) ρ0 σ QF:=by
 refine aL (ac (ab cj) ak) (aA (MN hcd) (fV (B:=fun p ρ=>aF (aF ρ 53 (.int (p.2:Int))) 67 (.int p.1)) (I:=uB σ ρ0 B cs) (fun _ _=>rfl) ?_ ?_
  ⟨[],[],[],w0,k0,rfl,⟨rfl,fun _ _ _ _ _=>rfl,B2,Qz,Nat.le_refl _,fun _ _=>rfl,R6,Rl,R8,hw,hk,Nat.le_refl _,Nat.le_refl _⟩⟩))
 ·rintro p rest ρ' s ⟨done,W,K,w,k,e1,h⟩
  refine⟨bg ((h.keep cd Jh).trans hcd),?_⟩
  have l7:done.length≤7:=by
   have:=congrArg List.length e1
   rw[List.length_zipIdx,List.length_append]at this;lia
  have pZ:B≤s.length:=Nat.le_trans hB h.len
  have z53:aF (aF ρ' 53 (.int (p.2:Int))) 67 (.int p.1) 53=some (.int (p.2:Int)):=rfl
  have z67:aF (aF ρ' 53 (.int (p.2:Int))) 67 (.int p.1) 67=some (.int p.1):=rfl
  have z255:aF (aF ρ' 53 (.int (p.2:Int))) 67 (.int p.1) 255=some (.ref w):=h.g255
  have z66:aF (aF ρ' 53 (.int (p.2:Int))) 67 (.int p.1) 66=some (.ref k):=h.g66
  have zρ:∀x,x≠53→x≠67→x≠255→x≠66→aF (aF ρ' 53 (.int (p.2:Int))) 67 (.int p.1) x=ρ0 x:=fun x a b c e=>by rw[pH b,pH a];exact h.loc x a b c e
  generalize aF (aF ρ' 53 (.int (p.2:Int))) 67 (.int p.1)=ρ2 at z53 z67 z255 z66 zρ
  have e1':cs.zipIdx=(done++[p])++rest:=by rw[e1,List.append_assoc];rfl
  have grow (m:St) (bj:eT (W,K) (p.1,(p.2:Int))=(W++[p.1],K++[(p.2:Int)])):WB (ao T0 d) [.asg (.names [255,66]) (.tup [.bin .add (.v 255) (.lst [.v 67]),.bin .add (.v 66) (.lst [.v 53])])] ρ2 (s++m) (Kn (ao T0 d) [] (Kf QF (uB σ ρ0 B cs rest))):=
   Tx h l7 pZ z53 z67 z255 z66 zρ bj fun w' k' ρ3 s3 h3=>uB.mk (done++[p]) _ _ w' k' e1' h3
  refine io (F3 (aJ (ay (ab z67) ar rfl) (aA rfl ?_)))
  by_cases hp:p.1=768
  ·refine bT (beq_iff_eq.mpr hp) (F3 (iq (aJ (ab z255) (c9 (a8 ?_)))))
   rcases List.eq_nil_or_concat W with hW | ⟨V,y,hW⟩
   ·subst hW
    exact aA (v:=false) (yP (al h.hw) aw rfl) (aA (v:=false) rfl (bA rfl (aA (v:=false) rfl (bA rfl (grow _ (if_neg fun k=>aK (k.2:(none:Option Int)=some 97)))))))
   ·rw[List.concat_eq_append]at hW
    subst hW
    have C2:=h.hw
    rw[List.map_append]at C2
    refine aA (v:=true) (congrArg (Option.map (!·)) (t7 (t:=false) (al h.hw) aw (if_neg fun e=>?_))) (aA (v:=true) rfl (bT rfl (aJ (ay (aQ (ab z255) (gW ar) (uU (vs:=V.map .int) (al C2))) ar rfl) (aA rfl ?_))))
    ·rw[List.map_append,List.length_append]at e;exact Nat.noConfusion e
    by_cases hy:y=97
    ·refine bT (beq_iff_eq.mpr hy) (iy (σ':=(s++[ae.list []]).set w (.list ((V++[224]).map .int))) ar (ab z255) (gW ar) ?_ ?_)
     ·rw[w9,al C2]
      show(dK (-1) (V.map AV.int++[AV.int y]).length).map _=_
      rw[dK,if_neg (by decide),List.length_append,if_pos (by simp only[List.length_singleton];lia),show(-1+(((V.map AV.int).length+ [AV.int y].length:Nat):Int)).toNat=(V.map AV.int).length by simp only[List.length_singleton];lia]
      show some (List.set _ w (ae.list ((V.map AV.int++[AV.int y]).set _ _)))=_
      rw[List.set_append_right _ _ (Nat.le_refl _),Nat.sub_self,List.map_append];rfl
     ·refine uB.mk (done++[p]) (V++[224]) K w k e1' ⟨?_,zρ,z255,z66,?_,fun r hr=>?_,h.wB,h.kB,h.wk,dy (al h.hw),?_,?_,?_⟩
      ·rw[Kv,h.fold]
       unfold eT
       rw[if_pos ⟨hp,by rw[List.getLast?_concat,hy]⟩,List.dropLast_concat]
      ·rw[List.length_set];exact Nat.le_trans h.len co
      ·rw[List.getElem?_set_ne (Nat.ne_of_gt (Nat.lt_of_lt_of_le hr h.wB)),List.getElem?_append_left (Nat.lt_of_lt_of_le hr pZ)]
       exact h.keep r hr
      ·rw[List.getElem?_set_ne h.wk];exact al h.hk
      ·have:=h.l1
       rw[List.length_append]at this ⊢
       rw[List.length_append];exact Nat.le_succ_of_le this
      ·rw[List.length_append];exact Nat.le_succ_of_le h.l2
    ·exact bA (beq_eq_false_iff_ne.mpr hy) (grow _ (if_neg fun k=>hy (Option.some.inj (List.getLast?_concat.symm.trans k.2))))
  ·have g:=grow [] (if_neg fun k=>hp k.1)
   rw[List.append_nil]at g
   exact bA (beq_eq_false_iff_ne.mpr hp) (aA (v:=false) (congrArg some (beq_eq_false_iff_ne.mpr hp)) (bA rfl g))
 ·rintro ρ' s ⟨done,W,K,w,k,e1,h⟩
  rw[List.append_nil]at e1
  subst e1
  exact⟨bg ((h.keep cd Jh).trans hcd),q _ _ _ _ _ _ h⟩
end
theorem VN (cs:List Int):((bq cs).map fJ).map (fun i=>AV.int i.code)=cs.map .int:=by
 rw[List.map_map];exact Sk cs
theorem VO (cs:List Int):((bq cs).map fJ).map (fun i=>AV.str i.kind)=cs.map fun c=>.str (fY c):=by
 rw[List.map_map]
 unfold bq
 rw[List.map_map]
 have:(((fun i=>AV.str i.kind)∘fJ)∘fun p:Int×Nat=>(⟨p.1,0,p.2,0,0,false⟩:In))=((fun c=>AV.str (fY c))∘Prod.fst):=rfl
 rw[this,←List.map_map,List.zipIdx_map_fst]
theorem VQ (cs:List Int):((bq cs).map fJ).map (fun i=>(i.code,i.cluster))=cs.zipIdx.map fun p=>(p.1,(p.2:Int)):=by
 rw[List.map_map]
 unfold bq
 rw[List.map_map]
 rfl
section
variable {d:Nat}{σ:St}{Q:AV→St→Prop}{QF:Fl→ag→St→Prop}
theorem S6 {cm cd b1 b2 l1 l2:Nat}{cs:List Int}{rs1 rs2:List Nat}{ρ:ag}(h:SA σ cm cd b1 b2 l1 l2 cs rs1 rs2)(eB:ρ 200=some (.ref 3))(cj:ρ 68=some (.ref cd))(h60:ρ 60=some (.ref cm))(h57:ρ 57=some (.ref b1))(uc:ρ 202=some (.ref b2))
  (k:∀ρ' s,dm s 3 2→CM s cm→ρ' 200=some (.ref 3)→ρ' 60=some (.ref cm)→QF .next ρ' s):WB (ao T0 (d+9)) Dz ρ σ QF:=by
 have Yi:rs1.length=cs.length:=by rw[h.r1.infos.len,bq,List.length_map,List.length_zipIdx]
 have Yj:rs2.length=cs.length:=by rw[h.r2.infos.len,bq,List.length_map,List.length_zipIdx]
 have aX:=h.len
 refine jj (bG (aL (ac (ab uc) (ac (ab h60) (ac ew ak))) (OH (d:=d+4) h.r2 (fun i hi=>Mt _ (h.sub _ (uO hi))) (by lia) fun s1 k1 r1=>?_)))
 obtain nb1:b1∉rs2:=cC h.r2.infos h.r1.buf rfl
 obtain nl1:l1∉rs2:=cC h.r2.infos h.r1.row rfl
 have ncd:cd∉rs2:=cC h.r2.infos h.cd rfl
 have n3:(3:Nat)∉rs2:=fun m=>by have:=h.gt2 3 m;lia
 have n2:(2:Nat)∉rs2:=fun m=>by have:=h.gt2 2 m;lia
 have R1:aD s1 b1 l1 false rs1 (bq cs):=h.r1.move (k1.2 _ nb1) (k1.2 _ nl1) fun r m=>k1.2 r (h.dis r m)
 have cd1:s1[cd]?=some (.list (cs.map .int)):=k1.get h.cd ncd
 have pen1:dm s1 3 2:=let⟨a,ds,x,y,e1,e2⟩:=h.pen;⟨a,ds,x,y,k1.get e1 n3,k1.get e2 n2⟩
 have cm1:CM s1 cm:=let⟨x,e1,e2⟩:=h.cm;⟨x,k1.get e1 (cC h.r2.infos e1 rfl),k1.get e2 (cC h.r2.infos e2 rfl)⟩
 obtain l3:3<s1.length:=let⟨_,_,_,_,e,_⟩:=pen1;cu e
 obtain l2':2<s1.length:=let⟨_,_,_,_,_,e⟩:=pen1;cu e
 refine io (M9 (iq (gG r1 uc (by lia) (fun r i e=>jG e) ?_)))
 rw[VN]
 have A1:=al (l:=[ae.list (cs.map .int)]) cd1
 refine aJ (ab cj) (aA (uT aw A1 w8) (aA (v:=false) rfl (bA rfl (iq (gG r1.app uc (by lia) (fun r i e=>PM e) ?_)))))
 rw[VO]
 refine Ta (d:=d+8) (al A1) cj h.sub h.len fun m=>aA (v:=false) (uT (al (al aw)) aw fun v hv=>by obtain⟨c,_,rfl⟩:=List.mem_map.mp hv;exact congrArg some (beq_self_eq_true (fY c))) (aA (v:=false) rfl (bA rfl (bt ?_)))
 generalize hT:s1++[ae.list (cs.map .int)]++[ae.list (cs.map fun c=>AV.str (fY c))]++m++[ae.list (cs.map fun c=>AV.str (fY c))]=t
 obtain up:∀{r:Nat} {o:ae},s1[r]?=some o→t[r]?=some o:=fun e=>by rw[←hT];exact al (al (al (al e)))
 obtain lt1:s1.length≤t.length:=by rw[←hT];simp only[List.append_assoc];exact co
 have R2:aD t b1 l1 false rs1 (bq cs):=by rw[←hT];exact R1.app.app.app.app
 obtain pen2:dm t 3 2:=by rw[←hT];exact pen1.app.app.app.app
 have cm2:CM t cm:=by rw[←hT];exact cm1.app.app.app.app
 have cd2:=up cd1
 clear hT
 obtain NMt:NM (t++[ae.dict [(.int 224,.tup [.int 97,.int 768])]]++[ae.dict [(.int 768,.int 230)]]++[.inst 20 [(195,.ref t.length),(64,.ref (t++[ae.dict [(.int 224,.tup [.int 97,.int 768])]]).length)]]) (t++[ae.dict [(.int 224,.tup [.int 97,.int 768])]]++[ae.dict [(.int 768,.int 230)]]).length:=
  ⟨_,_,aw,al (al aw),al aw⟩
 refine jj (bG (bu (aJ (ab h57) (bu (aJ (ab h60) (bu (bG (bu (gN (aL (ac ar (ac (cG (ac ar (ac ar ak))) ak)) (aA (v:=[(.int 224,.tup [.int 97,.int 768])]) rfl (bu (gN (aL (ac ar (ac ar ak)) (aA (v:=[(.int 768,.int 230)]) rfl (a8 (N4 (a8 ?_))))))))))))))))))
 refine OG (d:=d+1) R2.app.app.app NMt cm2.app.app.app (fun i hi=>Mt _ (h.sub _ (uO hi))) Hp (fun i hi=>Ul _ (h.sub _ (uO hi))) (by lia) fun s3 l3' rs3 k3 r3=>?_
 generalize hU:t++[ae.dict [(.int 224,.tup [.int 97,.int 768])]]++[ae.dict [(.int 768,.int 230)]]++[ae.inst 20 [(195,.ref t.length),(64,.ref (t++[ae.dict [(.int 224,.tup [.int 97,.int 768])]]).length)]]=u at k3
 have R3:aD u b1 l1 false rs1 (bq cs):=by rw[←hU];exact R2.app.app.app
 have up2:∀{r:Nat} {o:ae},t[r]?=some o→u[r]?=some o:=fun e=>by rw[←hU];exact al (al (al e))
 obtain m3:(3:Nat)∉rs1:=fun m=>by have:=h.gt1 3 m;lia
 have m2:(2:Nat)∉rs1:=fun m=>by have:=h.gt1 2 m;lia
 have pen3:dm s3 3 2:=let⟨a,ds,x,y,e1,e2⟩:=pen2;⟨a,ds,x,y,k3.get (up2 e1) (by have:=h.gb1;lia) m3,k3.get (up2 e2) (by have:=h.gb1;lia) m2⟩
 have cm3:CM s3 cm:=uL R3 k3 (by rw[←hU];exact cm2.app.app.app)
 have cd3:s3[cd]?=some (.list (cs.map .int)):=by
  refine k3.get (up2 cd2) (fun e=>?_) (cC R3.infos (up2 cd2) rfl)
  have:=up2 cd2
  rw[e,R3.buf]at this
  cases this
 obtain hB:=cu cd3
 obtain c1:(s3++[ae.list []]++[ae.list []])[s3.length]?=some (.list []):=al aw
 obtain c2:(s3++[ae.list []]++[ae.list []])[(s3++[ae.list []]).length]?=some (.list []):=aw
 refine cV (tJ (F4 (bu (c9 (a8 (bu (c9 (a8 (a8 ⟨_,_,rfl,cV ?_⟩)))))))))
 refine Tc (B:=s3.length) (cs:=cs) (al (al cd3)) (by rw[List.append_assoc];exact co) hB c1 c2 (Nat.le_refl _) co (Nat.ne_of_lt iT) h.len cj rfl rfl fun ρ4 s4 w k' W K hL=>?_
 have key:∀{r:Nat} {o:ae},s3[r]?=some o→s4[r]?=some o:=fun e=>by
  rw[hL.keep _ (cu e)];exact al (al e)
 have R4:aD s4 b1 l3' false rs3 (fj [] (apart ((bq cs).map fJ))):=⟨key r3.buf,key r3.row,r3.infos.same fun r m=>by
  refine am (r3.infos.mem m) fun i _ e=>?_
  rw[key e,e],r3.nd,r3.gl⟩
 have pen4:dm s4 3 2:=let⟨a,ds,x,y,e1,e2⟩:=pen3;⟨a,ds,x,y,key e1,key e2⟩
 obtain cm4:CM s4 cm:=let⟨x,e1,e2⟩:=cm3;⟨x,key e1,key e2⟩
 obtain g57:ρ4 57=some (.ref b1):=by rw[hL.loc 57 (by decide) (by decide) (by decide) (by decide)];exact h57
 obtain g200:ρ4 200=some (.ref 3):=by rw[hL.loc 200 (by decide) (by decide) (by decide) (by decide)];exact eB
 obtain g60:ρ4 60=some (.ref cm):=by rw[hL.loc 60 (by decide) (by decide) (by decide) (by decide)];exact h60
 obtain fe:=Fy (is:=(bq cs).map fJ) (acc:=[]) (A:=([],[])) rfl rfl
 rw[VQ]at fe
 have hf:=hL.fold
 unfold uN at hf
 rw[hf]at fe
 have Jg:(fj [] (apart ((bq cs).map fJ))).map (fun i=>AV.int i.code)=W.map .int:=by
  obtain e:=congrArg (List.map AV.int) fe.1
  rw[List.map_map]at e
  exact e
 have QR:(fj [] (apart ((bq cs).map fJ))).map (fun i=>AV.int i.cluster)=K.map .int:=by
  obtain e:=congrArg (List.map AV.int) fe.2
  rw[List.map_map]at e
  exact e
 have Yk:rs3.length≤100:=by
  rw[r3.infos.len]
  have e:=congrArg List.length Jg
  simp only[List.length_map]at e
  rw[e]
  have:=hL.l1
  simp at this;lia
 refine io (M9 (iq (gG R4 g57 (by lia) (fun r i e=>jG e) ?_)))
 rw[Jg]
 refine aJ (ab hL.g255) (aA (uT aw (al hL.hw) w8) (aA (v:=false) rfl (bA rfl (iq (F2 (aJ (ab g57) ⟨_,_,_,2066,rfl,al R4.buf,rfl,a8 (N9 R4.app (by lia) ?_)⟩))))))
 rw[QR]
 exact aJ (ab hL.g66) (aA (uT aw (al (al hL.hk)) w8) (aA (v:=false) rfl (bA rfl (bt (k _ _ pen4.app.app cm4.app.app g200 g60)))))
end
noncomputable def gD:List (AV×AV):=[(.str 127,.tup [.int 1,.int 1]),(.str 111,.tup [.int 2,.int 1]),(.str 174,.tup [.int 3,.int 1]),(.str 82,.tup [.int 4,.int 1]),(.str 216,.tup [.int 5,.int 1])]
noncomputable def ij:List AV:=[.str 82,.str 111,.str 127,.str 174,.str 216]
noncomputable def fw (σ:St)(pl tag:Nat)(bk:Bool):Prop:=∃mk st ps,σ[pl]?=some (.inst 21 [(218,.str tag),(150,.str 74),(114,.bool bk),(171,.ref mk),(72,.int 1),(224,.tup ij),(238,.ref st),(205,.ref ps),(103,.bool false)])∧σ[mk]?=some (.dict gD)
noncomputable def xD (t:Nat):Int:=if t=127 then 2 else if t=111 then 4 else if t=174 then 8 else if t=82 then 16 else 32
noncomputable def yH:List (Int×Int):=[(60,62),(91,93),(123,125),(171,187),(8712,8715),(8713,8716),(8714,8717),(65124,65125),(65308,65310),(65339,65341),(65371,65373),(10637,10640)]
noncomputable def tx:List (Int×Int):=[(40,1),(8249,1),(8261,1),(8317,1),(8333,1),(8804,4),(8814,14),(8842,1),(8847,2),(8866,1),(8905,2),(8912,1),(8918,1),(8920,4),(8928,7),(8968,2),(9001,1),(10088,7),(10214,5),(10627,5),(12296,5),(12308,4),(65113,3),(65288,1),(65375,1),(65378,1),(8764,1),(8786,2),(8880,4),(10638,1),(10641,4),(10712,2),(10748,1),(11810,4)]
noncomputable def pD (p:Int×Int):List (Int×Int):=(List.range p.2.toNat).map fun(k:Nat)=>(p.1+2*(k:Int),p.1+2*(k:Int)+1)
noncomputable def qy:List (Int×Int):=yH++tx.flatMap pD
noncomputable def mC (kv:List (AV×AV))(p:Int×Int):List (AV×AV):=bU (bU kv (.int p.1) (.int p.2)) (.int p.2) (.int p.1)
noncomputable def DG:List (AV×AV):=qy.foldl mC []
section
variable {d:Nat}{σ:St}{Q:AV→St→Prop}
theorem N5 {tag mk st ps:Nat}{bk:Bool}(q:Q (.ref σ.length) (σ++[.inst 21 [(218,.str tag),(150,.str 74),(114,.bool bk),(171,.ref mk),(72,.int 1),(224,.tup ij),(238,.ref st),(205,.ref ps),(103,.bool false)]])):
  WC (ao T0 (d+1)) 21 [.str tag,.str 74,.bool bk,.ref mk,.ref st,.ref ps,.bool false,.int 1,.tup ij] σ Q:=
 AY (ini:=22040) (fn:=A8) (l:=[(218,.v 218),(150,.v 150),(114,.v 114),(171,.v 171),(72,.v 72),(224,.v 224),(238,.v 238),(205,.v 205),(103,.v 103)]) (vs:=[.str tag,.str 74,.bool bk,.ref mk,.int 1,.tup ij,.ref st,.ref ps,.bool false]) (o:=222) rfl rfl (Nat.le_of_ble_eq_true rfl) (Nat.le_of_ble_eq_true rfl) rfl (by decide) (by exact Nat.le_of_ble_eq_true rfl) rfl ⟨fun _=>rfl,fun _=>rfl,fun _=>rfl,fun _=>rfl,fun _=>rfl,fun _=>rfl,fun _=>rfl,fun _=>rfl,fun _=>rfl,trivial⟩ q
theorem HX {pl tag t:Nat}{bk:Bool}(h:fw σ pl tag bk)(ht:t∈[82,111,127,174,216]):ao T0 (d+1) 85 [.ref pl,.str t] σ=some (.int (xD t),σ):=by
 refine ir h fun mk st ps h1 h2=>?_
 have hk:∃n:Int,fZ (.str t) ij=some true∧bc gD (.str t)=some (.tup [.int n,.int 1])∧fR .shl (.int 1) (.int n) σ=some (.int (xD t),σ):=by
  simp only[List.mem_cons,List.not_mem_nil,or_false]at ht
  rcases ht with rfl |rfl |rfl |rfl |rfl<;>exact⟨_,rfl,rfl,rfl⟩
 refine cW hk fun n e e1 e2=>?_
 exact b5 rfl rfl rfl (a6 (ey (t:=true) (ay (ab rfl) (aM (ab rfl) h1 rfl) e) rfl (bI ar (aQ (aQ (aM (ab rfl) h1 rfl) (ab rfl) (mh h2 rfl e1)) ar rfl) e2)) (bE rfl rfl))
theorem Os (q:Q (.ref σ.length) (σ++[.list (c8 yH)])):WC (ao T0 (d+1)) 166 [] σ Q:=bM rfl rfl rfl (eK (c9 (aL ⟨rfl⟩ (iw q))))
theorem OQ (q:Q (.ref σ.length) (σ++[.list (c8 tx)])):WC (ao T0 (d+1)) 226 [] σ Q:=bM rfl rfl rfl (eK (c9 (aL ⟨rfl⟩ (iw q))))
theorem PP {r q:Nat}{us ws:List AV}(h:σ[r]?=some (.list us))(h1:σ[q]?=some (.list ws))(aY:r≠q)(e:us.length+ws.length<1000000):d6 81 (.ref r) [.ref q] σ=some (.none,σ.set r (.list (us++ws))):=by
 rw[uP,h]
 show((σ[q]?).bind bX).bind _=_
 rw[h1]
 show gO (!(r==q)&&decide (us.length+ws.length<1000000)) _=_
 rw[decide_eq_true e,beq_eq_false_iff_ne.mpr aY];rfl
inductive C5 (σ:St)(rest:List (Int×Int))(ρ:ag)(s:St):Prop
 |mk (done:List (Int×Int))(l:St)(q1:tx=done++rest)(q3:s=σ++l)(q4:s[σ.length]?=some (.list (c8 (yH++done.flatMap pD))))(q5:s[σ.length+1]?=some (.list (c8 tx)))(q6:ρ 90=some (.ref σ.length)):C5 σ rest ρ s
theorem Ov (q:∀l r,σ.length≤r→(σ++l)[r]?=some (.list (c8 qy))→Q (.ref r) (σ++l)):WC (ao T0 (d+2)) 178 [] σ Q:=by
 refine bM rfl rfl rfl (bS (bG (a8 (Os (gK (bu (bG (a8 (OQ (a8 (aA (cx aw) ?_)))))))))))
 rw[List.append_assoc,List.length_append]
 have RN:∀p∈tx,0≤p.2∧p.2≤20:=by decide
 refine fV (w:=fun p:Int×Int=>.tup [.int p.1,.int p.2]) (B:=fun p ρ=>aF (aF ρ 84 (.int p.1)) 70 (.int p.2)) (I:=C5 σ) (fun _ _=>rfl) ?_ ?_ ⟨[],_,rfl,rfl,b9 (k:=0) rfl,b9 rfl,rfl⟩
 ·rintro p rest ρ s ⟨done,l,e1,rfl,k1,k2,bL⟩
  have hp:=RN p (by rw[e1];exact List.mem_append_right _ (List.mem_cons_self ..))
  have en:p.2=(p.2.toNat:Int):=(Int.toNat_of_nonneg hp.1).symm
  have hl:(pD p).length≤20:=by rw[pD,List.length_map,List.length_range];lia
  have hN:(tx.flatMap pD).length<1000:=by decide
  rw[e1,List.flatMap_append,List.flatMap_cons,List.length_append,List.length_append]at hN
  have hc (ρ:ag) (I5:ρ 84=some (.int p.1)):ca none [143] true (dA (ao T0 (d+1)) [] (.tup [.bin .add (.v 84) (.bin .mul (.ci 2) (.v 143)),.bin .add (.bin .add (.v 84) (.bin .mul (.ci 2) (.v 143))) (.ci 1)])) ρ (di 0 (p.2.toNat:Int)) (σ++l)=some (c8 (pD p),σ++l):=by
   rw[tr,c8,pD,List.map_map]
   exact fS rfl fun k _=>⟨_,rfl,eJ (cG (ac (bI (ab I5) (bI ar (ab rfl) rfl) rfl) (ac (bI (bI (ab I5) (bI ar (ab rfl) rfl) rfl) ar rfl) ak)))⟩
  refine⟨bg k2,jj (pJ (aJ (ab bL) ⟨_,_,rfl,k1,rfl,bu (cO (aL (ac (ab (congrArg (fun i=>some (AV.int i)) en)) ak) (aA (lC (by lia)) (aZ (hc _ rfl) ⟨by rw[c8,List.length_map];lia,a8 (aZ (PP (al k1) aw (Nat.ne_of_lt (cu k1)) ?_) ?_)⟩))))⟩))⟩
  ·rw[c8,c8,List.length_map,List.length_map,List.length_append]
   have:yH.length=12:=rfl
   lia
  ·refine C5.mk (done++[p]) _ (by rw[e1,List.append_assoc];rfl) (by rw[List.append_assoc];exact jh (k:=0)) ?_ ?_ bL
   ·rw[dy (al k1),List.flatMap_append,List.flatMap_singleton,←List.append_assoc]
    exact congrArg (fun l=>some (ae.list l)) List.map_append.symm
   ·rw[List.getElem?_set_ne (Nat.ne_of_lt (Nat.lt_succ_self _))];exact al k2
 ·rintro ρ s ⟨done,l,e1,rfl,k1,k2,bL⟩
  rw[List.append_nil]at e1
  subst e1
  exact⟨bg k2,a6 (ab bL) (ec (Nat.le_refl _) (q _ _ (Nat.le_refl _) k1))⟩
end
noncomputable def ix (kv:List (AV×AV)):Bool:=kv.all fun p=>bx p.1==1
theorem mm {kv:List (AV×AV)}{c:Int}(h:ix kv=true):cR kv (.int c)=true:=by
 unfold cR
 have:(bx (.int c) !=0)=true:=rfl
 rw[this,Bool.true_and];exact h
theorem AE {kv:List (AV×AV)}{k v:AV}:(bU kv k v).length≤kv.length+1:=by
 induction kv with
 |nil=>exact Nat.le_refl 1
 |cons p kv ih=>
  unfold bU
  by_cases q:p.1.beq k=true
  ·rw[if_pos q];exact Nat.le_succ _
  ·rw[if_neg q];exact Nat.succ_le_succ ih
theorem AD {kv:List (AV×AV)}{c:Int}{v:AV}(h:ix kv=true):ix (bU kv (.int c) v)=true:=by
 induction kv with
 |nil=>rfl
 |cons p kv ih=>
  have⟨a,b⟩:=bo (a:=bx p.1==1) (b:=ix kv) h
  unfold bU
  by_cases q:p.1.beq (.int c)=true
  ·rw[if_pos q];exact gh (a:=bx p.1==1) (b:=ix kv) a b
  ·rw[if_neg q];exact gh (a:=bx p.1==1) (b:=ix (bU kv (.int c) v)) a (ih b)
theorem KG {L:List (Int×Int)}{kv:List (AV×AV)}(h:ix kv=true):ix (L.foldl mC kv)=true∧(L.foldl mC kv).length≤kv.length+2*L.length:=by
 induction L generalizing kv with
 |nil=>exact⟨h,Nat.le_refl _⟩
 |cons p L ih=>
  have⟨a,b⟩:=ih (kv:=mC kv p) (AD (AD h))
  refine⟨a,Nat.le_trans b ?_⟩
  have c:(mC kv p).length≤kv.length+1+1:=Nat.le_trans AE (Nat.succ_le_succ AE)
  rw[List.length_cons];lia
noncomputable def iA:List Int:=[1576,1575,1611,8205,40,41,60,1600,97,2325,2367]
noncomputable def iU (c:Int):Int:=if c=40 then 41 else if c=41 then 40 else if c=60 then 62 else c
theorem TP:iA.all (fun c=>((bc DG (.int c)).getD (.int c)).beq (.int (iU c)))=true:=by kernel_rfl
theorem TQ {c:Int}(h:c∈iA):(bc DG (.int c)).getD (.int c)=.int (iU c):=(AV.beq_iff _ _).mp (List.all_eq_true.mp TP c h)
noncomputable def mt (m:Int)(i:In):In:=if iU i.code≠i.code∧dX (iU i.code)≠0 then{i with code:=iU i.code}else{i with mask:=PySem.Builtin.bitOr i.mask m}
section
variable {d:Nat}{σ:St}{Q:AV→St→Prop}
theorem FH {r:Nat}{k v:AV}{kvs:List (AV×AV)}(h:σ[r]?=some (.dict kvs))(ko:cR kvs k=true)(e:kvs.length<1000000):ie σ (.ref r) k v=some (σ.set r (.dict (bU kvs k v))):=by
 rw[w9,h]
 show gO (cR kvs k&&decide (kvs.length<1000000)) _=_
 rw[ko,decide_eq_true e];rfl
inductive C6 (σ:St)(r:Nat)(rest:List (Int×Int))(ρ:ag)(s:St):Prop
 |mk (done:List (Int×Int))(l:St)(q1:qy=done++rest)(q3:s=σ++l)(q4:s[σ.length]?=some (.dict (done.foldl mC [])))(q5:s[r]?=some (.list (c8 qy)))(q6:ρ 244=some (.ref σ.length)):C6 σ r rest ρ s
theorem Ow (q:∀l,(σ++l)[σ.length]?=some (.dict DG)→Q (.ref σ.length) (σ++l)):WC (ao T0 (d+3)) 180 [] σ Q:=by
 refine bM rfl rfl rfl (bS (gN (a8 (aA (v:=[]) rfl (gK (bu (bG (a8 (Ov fun l r hr hl=>a8 (aA (cx hl) ?_))))))))))
 have Ry:qy.length≤400:=by decide
 refine fV (w:=fun p:Int×Int=>.tup [.int p.1,.int p.2]) (B:=fun p ρ=>aF (aF ρ 187 (.int p.1)) 190 (.int p.2)) (I:=C6 σ r) (fun _ _=>rfl) ?_ ?_ ⟨[],_,rfl,List.append_assoc ..,al aw,hl,rfl⟩
 ·rintro p rest ρ s ⟨done,l,e1,rfl,k1,k2,iF⟩
  have⟨ok,aX⟩:=KG (L:=done) (kv:=[]) rfl
  rw[e1,List.length_append]at Ry
  have aY:σ.length≠r:=Nat.ne_of_lt (Nat.lt_of_lt_of_le iT hr)
  have eH:(done.foldl mC []).length≤800:=Nat.le_trans aX (by rw[List.length_nil];lia)
  refine⟨bg k2,iy (ab rfl) (ab iF) (ab rfl) (FH k1 (mm ok) (Nat.lt_of_le_of_lt eH (by decide))) (iy (ab rfl) (ab iF) (ab rfl) (FH (dy k1) (mm (AD ok)) (Nat.lt_of_le_of_lt (Nat.le_trans AE (Nat.succ_le_succ eH)) (by decide))) ?_)⟩
  rw[List.set_set]
  refine C6.mk (done++[p]) _ (by rw[e1,List.append_assoc];rfl) (jh (k:=0)) ?_ ((List.getElem?_set_ne aY).trans k2) iF
  rw[dy k1,List.foldl_append];rfl
 ·rintro ρ s ⟨done,l,e1,rfl,k1,k2,iF⟩
  rw[List.append_nil]at e1
  subst e1
  exact⟨bg k2,a6 (ab iF) (ec (Nat.le_refl _) (q _ k1))⟩
theorem Ot {b l cm:Nat}{m:Int}{rs:List Nat}{is:List In}(h:aD σ b l true rs is)(hC:CM σ cm)(fC:∀i∈is,i.code∈iA)(q:∀σ',aU b rs σ σ'→aD σ' b l true rs (is.map (mt m))→Q .none σ'):WC (ao T0 (d+4)) 179 [.ref b,.ref cm,.int m] σ Q:=by
 refine bM rfl rfl rfl (aW (gp (t:=true) (aM (ab rfl) h.buf rfl) rfl) rfl (bt (bS (bG (a8 (Ow fun l0 hd=>?_))))))
 have h1:aD (σ++l0) b l true rs is:=h.app
 refine fb (ac (aM (ab rfl) h1.buf rfl) ak) (cx h1.row) (FZ (g:=mt m) (is:=is) (P:=fun ρ=>ρ 60=some (.ref cm)∧ρ 170=some (.int m)∧ρ 244=some (.ref σ.length)) h1.nd h1.infos ?_ ?_ ?_ ⟨rfl,rfl,rfl⟩)
 ·exact fun σ' hS=>bg (hS.get h1.row (cC h1.infos h1.row rfl))
 ·rintro ρ s r i hr hi ⟨h60,BZ,iF⟩ hS e
  have Jn:=hS.get hd (cC h1.infos hd rfl)
  have B6:CM s cm:=let⟨x,e1,e2⟩:=hC.app;⟨x,hS.get e1 (cC h1.infos e1 rfl),hS.get e2 (cC h1.infos e2 rfl)⟩
  have⟨kk,c1,c2⟩:=B6
  refine ba (gn (ab iF) Jn (.b rfl (ac (aM (ab rfl) e rfl) (ac (aM (ab rfl) e rfl) ak)) (jI Jn (mm (KG (L:=qy) (kv:=[]) rfl).1) (TQ (fC i hi))))) ?_
  by_cases z:iU i.code≠i.code∧dX (iU i.code)≠0
  ·rw[show mt m i={i with code:=iU i.code}from if_pos z]
   exact aW (t:=true) (b0 (t:=true) (ay (ab rfl) (aM (ab rfl) e rfl) (congrArg some (bne_iff_ne.mpr z.1))) rfl (b0 (t:=true) (ay (aM (ab rfl) e rfl) ar (congrArg some (beq_iff_eq.mpr (h.gl i hi)))) rfl (ay (t:=true) (gn (ab h60) c1 (.i rfl (ac (ab rfl) ak) ⟨tV B6⟩)) ar (congrArg some (bne_iff_ne.mpr z.2))))) rfl (gR (ab rfl) (ab rfl) e rfl rfl ⟨.inl rfl,⟨h60,BZ,iF⟩,rfl⟩)
  ·rw[show mt m i={i with mask:=PySem.Builtin.bitOr i.mask m}from if_neg z]
   refine aW (t:=false) (x:=.bool false) ?_ rfl (gR (bI (aM (ab rfl) e rfl) (ab BZ) rfl) (ab rfl) e rfl rfl ⟨.inl rfl,⟨h60,BZ,iF⟩,rfl⟩)
   by_cases z1:iU i.code=i.code
   ·exact b0 (t:=false) (ay (t:=false) (ab rfl) (aM (ab rfl) e rfl) (congrArg some (bne_eq_false_iff_eq.mpr z1))) rfl rfl
   ·exact b0 (t:=true) (ay (ab rfl) (aM (ab rfl) e rfl) (congrArg some (bne_iff_ne.mpr z1))) rfl (b0 (t:=true) (ay (aM (ab rfl) e rfl) ar (congrArg some (beq_iff_eq.mpr (h.gl i hi)))) rfl (ay (t:=false) (gn (ab h60) c1 (.i rfl (ac (ab rfl) ak) ⟨tV B6⟩)) ar (congrArg some (bne_eq_false_iff_eq.mpr (Decidable.not_not.mp fun e=>z ⟨z1,e⟩)))))
 ·rintro ρ s _ hS hI
  have hR:aD s b l true rs (is.map (mt m)):=h1.same hS hI fun i hi=>by
   obtain⟨j,hj,rfl⟩:=List.mem_map.mp hi
   unfold mt
   split<;>exact h.gl j hj
  show Q (bF σ (.none,s)).1 (bF σ (.none,s)).2
  rcases lD σ s .none with e | ⟨e,m',rfl⟩
  ·rw[e];exact q _ ⟨hS.1▸co,fun r hr _ hm=>(hS.2 r hm).trans (List.getElem?_append_left hr)⟩ hR
  ·rw[e];exact q _ ⟨Nat.le_refl _,fun _ _ _ _=>rfl⟩ (h.down hR)
end
noncomputable def br (ts:List Nat):List AV:=ts.map .str
noncomputable def ek (t:Nat):Bool:=t==5||t==2
noncomputable def dG (t:Nat):Bool:=t==5||(t==2||t==22)
noncomputable def TD (done:List Int)(kv:List (AV×AV)):Prop:=ix kv=true∧kv.length≤done.length∧(∀c∈done,bc kv (.int c)=some (.str (dg c)))∧∀c v,bc kv (.int c)=some v→v=.str (dg c)
theorem HI {a b:Int}:AV.beq (.int a) (.int b)=(a==b):=rfl
theorem I3 {kv:List (AV×AV)}{a b:Int}{v:AV}:bc (bU kv (.int a) v) (.int b)=if a=b then some v else bc kv (.int b):=by
 induction kv with
 |nil=>
  try simp only[bU,bc,HI]
  by_cases h:a=b
  ·simp[h]
  ·have:(a==b)=false:=by simpa using h
   simp[h,this]
 |cons p kv ih=>
  unfold bU
  by_cases hp:p.1.beq (.int a)=true
  ·obtain e:=(AV.beq_iff _ _).mp hp
   rw[if_pos hp]
   try simp only[bc,e,HI]
   by_cases h:a=b
   ·simp[h]
   ·have:(a==b)=false:=by simpa using h
    simp[h,this]
  ·rw[if_neg hp]
   unfold bc
   by_cases hb:p.1.beq (.int b)=true
   ·obtain e:=(AV.beq_iff _ _).mp hb
    have:a≠b:=fun q=>hp (by rw[e,q];exact(AV.beq_iff _ _).mpr rfl)
    rw[if_pos hb,if_pos hb,if_neg this]
   ·rw[if_neg hb,if_neg hb,ih]
section
variable {d:Nat}{σ:St}{Q:AV→St→Prop}
theorem fu {r:Nat}{ts:List Nat}(h:σ[r]?=some (.list (br ts))){k:Nat}(hk:k<ts.length):eh σ (.ref r) (.int (k:Int))=some (.str ts[k]):=
 c7 h (by rw[br,List.getElem?_map,List.getElem?_eq_getElem hk];rfl)
inductive yp (σ:St)(r:Nat)(cs rest:List Int)(ρ:ag)(s:St):Prop
 |mk (done:List Int)(kv:List (AV×AV))(q1:cs=done++rest)(q3:s=σ++[.dict kv])(q4:TD done kv)(q5:ρ 149=some (.ref σ.length))(q6:ρ 68=some (.ref r)):yp σ r cs rest ρ s
theorem OZ {r:Nat}{cs:List Int}(h:σ[r]?=some (.list (cs.map .int)))(hn:cs.length≤100)(q:∀l r',σ.length≤r'→(σ++l)[r']?=some (.list (br (cs.map dg)))→Q (.ref r') (σ++l)):WC (ao T0 (d+3)) 252 [.ref r] σ Q:=by
 refine bM rfl rfl rfl (bS (gN (a8 (aA (v:=[]) rfl (fb (ac (ab rfl) ak) (cx (al h)) (xS (I:=yp σ r cs) ?_ ?_ ⟨[],[],rfl,rfl,⟨rfl,Nat.le_refl _,fun c hc=>(List.not_mem_nil hc).elim,fun c v e=>aK e⟩,rfl,rfl⟩))))))
 ·rintro c rest ρ s ⟨done,kv,e1,rfl,⟨t1,t2,t3,t4⟩,lW,cj⟩
  have e1':cs=(done++[c])++rest:=by rw[e1,List.append_assoc];rfl
  have hl:(done++[c]).length=done.length+1:=List.length_append
  refine⟨bg (al h),?_⟩
  cases hg:bc kv (.int c)with
  |some x=>
   refine aW (t:=false) (ay (ab rfl) (ab lW) (congrArg (Option.map (!·)) (yt (t:=true) aw (mm t1) (by rw[hg];rfl)))) rfl ?_
   exact yp.mk (done++[c]) kv e1' rfl ⟨t1,hl▸Nat.le_succ_of_le t2,fun z hz=>(List.mem_append.mp hz).elim (t3 z) fun hz=>by rw[List.mem_singleton.mp hz,hg,t4 c x hg],t4⟩ lW cj
  |none=>
   have Rp:kv.length<1000000:=by rw[e1,List.length_append]at hn;lia
   refine aW (t:=true) (ay (ab rfl) (ab lW) (congrArg (Option.map (!·)) (yt (t:=false) aw (mm t1) (by rw[hg];rfl)))) rfl (iy (bR (ac (ab rfl) ak) ⟨On⟩) (ab lW) (ab rfl) (FH aw (mm t1) Rp) ?_)
   rw[tw]
   refine yp.mk (done++[c]) _ e1' rfl ⟨AD t1,hl▸Nat.le_trans AE (Nat.succ_le_succ t2),fun z hz=>?_,fun z v e=>?_⟩ lW cj
   ·rw[I3]
    by_cases hcz:c=z
    ·rw[if_pos hcz,hcz]
    ·rw[if_neg hcz]
     exact(List.mem_append.mp hz).elim (t3 z) fun hz=>absurd (List.mem_singleton.mp hz).symm hcz
   ·rw[I3]at e
    by_cases hcz:c=z
    ·rw[if_pos hcz]at e;cases e;rw[hcz]
    ·rw[if_neg hcz]at e;exact t4 z v e
 ·rintro ρ s ⟨done,kv,e1,rfl,⟨t1,t2,t3,t4⟩,lW,cj⟩
  rw[List.append_nil]at e1
  subst e1
  have hc:ca (some (r,.list (cs.map .int))) [67] true (dA (ao T0 (d+2)) [] (.idx (.v 149) (.v 67))) ρ (cs.map .int) (σ++[.dict kv])=some (br (cs.map dg),σ++[.dict kv]):=by
   rw[br,List.map_map]
   exact fS (bg (al h)) fun c hc=>⟨_,rfl,eJ (aQ (ab lW) (ab rfl) (mh aw (mm t1) (t3 c hc)))⟩
  refine⟨bg (al h),eK (cO (aL (ac (ab cj) ak) (aA (cx (al h)) (aZ hc ⟨by rw[br,List.length_map,List.length_map];lia,?_⟩))))⟩
  refine ec co ?_
  rw[List.append_assoc]
  exact q _ _ co (by rw[←List.append_assoc];exact aw)
theorem Oy {t:Nat}:ao T0 (d+1) 142 [.str t] σ=some (.bool (ek t),σ):=
 b5 rfl rfl rfl (a6 (jE (ay (ab rfl) aT rfl) (ay (ab rfl) aT rfl)) (bE rfl rfl))
theorem HW {t:Nat}:ao T0 (d+1) 141 [.str t] σ=some (.bool (dG t),σ):=
 b5 rfl rfl rfl (a6 (jE (ay (ab rfl) aT rfl) (jE (ay (ab rfl) aT rfl) (ay (ab rfl) aT rfl))) (bE rfl rfl))
noncomputable def ua (a b:Bool):Nat:=if a then(if b then 174 else 82)else if b then 111 else 127
theorem Oe {a b:Bool}:ao T0 (d+1) 87 [.bool a,.bool b] σ=some (.str (ua a b),σ):=by
 cases a<;>cases b
 ·exact b5 rfl rfl rfl (aW (ab rfl) rfl (bt (a6 (ey (ab rfl) rfl aT) (bE rfl rfl))))
 ·exact b5 rfl rfl rfl (aW (ab rfl) rfl (bt (a6 (ey (ab rfl) rfl aT) (bE rfl rfl))))
 ·exact b5 rfl rfl rfl (aW (ab rfl) rfl (a6 (ey (ab rfl) rfl aT) (bE rfl rfl)))
 ·exact b5 rfl rfl rfl (aW (ab rfl) rfl (a6 (ey (ab rfl) rfl aT) (bE rfl rfl)))
end
noncomputable def b4 (ts:List Nat)(k:Nat):Nat:=ts.getD k 25
noncomputable def jQ (ts:List Nat)(st:Option Nat×List (Nat×Nat))(k:Nat):Option Nat×List (Nat×Nat):=
 if b4 ts k=25 then st else(some k,st.1.elim st.2 fun p=>if ek (b4 ts p)&&dG (b4 ts k)then st.2++[(p,k)]else st.2)
noncomputable def d5 (ts:List Nat)(n:Nat):Option Nat×List (Nat×Nat):=(List.range n).foldl (jQ ts) (none,[])
theorem Dr (ts:List Nat)(n:Nat):d5 ts (n+1)=jQ ts (d5 ts n) n:=by
 unfold d5;rw[List.range_succ,List.foldl_append];rfl
noncomputable def S3 (o:Option Nat):Int:=o.elim (-1) fun p=>p
theorem lF {ts:List Nat}{k:Nat}(h:k<ts.length):b4 ts k=ts[k]:=by rw[b4,List.getD_eq_getElem?_getD,List.getElem?_eq_getElem h];rfl
section
variable {d:Nat}{σ:St}{Q:AV→St→Prop}
inductive uC (σ:St)(r:Nat)(ts:List Nat)(k:Nat)(ρ:ag)(s:St):Prop
 |mk (u:Option Nat)(F:List (Nat×Nat))(q2:d5 ts k=(u,F))(q3:s=σ++[.list (F.map dN)])(q4:F.length≤k)(q5:(∀p,u=some p→p<k))(q6:ρ 251=some (.ref r))(q7:ρ 90=some (.ref σ.length))(q8:ρ 151=some (.int (S3 u))):uC σ r ts k ρ s
theorem H3 {r:Nat}{ts:List Nat}(h:σ[r]?=some (.list (br ts)))(hn:ts.length≤100)(q:∀l f,σ.length≤f→(σ++l)[f]?=some (.list ((d5 ts ts.length).2.map dN))→Q (.ref f) (σ++l)):WC (ao T0 (d+2)) 129 [.ref r] σ Q:=by
 refine bM rfl rfl rfl (pS ak (ba (gW ar) (fb (ac (cZ (ac (ab rfl) ak) (gC (al h) (List.length_map _))) ak) (lC (Nat.le_trans hn (by decide))) (xT (I:=uC σ r ts) ?_ ?_ ⟨none,[],rfl,rfl,Nat.le_refl _,nofun,rfl,rfl,rfl⟩))))
 ·rintro k ρ _ hk ⟨u,F,e,rfl,hl,hp,eC,bL,h151⟩
  have Cg:=fu (al (l:=[.list (F.map dN)]) h) hk
  have stp:=Dr ts k
  rw[e,jQ,lF hk]at stp
  by_cases z:ts[k]=25
  ·rw[if_pos z]at stp
   refine aW (t:=false) (ay (aQ (ab eC) (ab rfl) Cg) aT (congrArg some (bne_eq_false_iff_eq.mpr z))) rfl ?_
   exact uC.mk u F stp rfl (Nat.le_succ_of_le hl) (fun p e=>Nat.lt_succ_of_lt (hp p e)) eC bL h151
  ·rw[if_neg z]at stp
   refine aW (t:=true) (ay (aQ (ab eC) (ab rfl) Cg) aT (congrArg some (bne_iff_ne.mpr z))) rfl ?_
   have go (F:List (Nat×Nat)) (eF:d5 ts (k+1)=(some k,F)) (hF:F.length≤k+1):WB (ao T0 (d+1)) [.asg (.name 151) (.v 53)] (aF ρ 53 (.int (k:Int))) (σ++[.list (F.map dN)]) (Kn (ao T0 (d+1)) [] (Kf (Kn (ao T0 (d+1)) [.ret (.v 90)] (dk σ Q)) (uC σ r ts (k+1)))):=
    ba (ab rfl) (uC.mk _ F eF rfl hF (fun p e=>Option.some.inj e▸Nat.lt_succ_self k) eC bL rfl)
   cases u with
   |none=>exact aW (b0 (t:=false) (ay (ab h151) ar rfl) rfl rfl) rfl (bt (go F stp (Nat.le_succ_of_le hl)))
   |some p=>
    have JH:p<ts.length:=Nat.lt_trans (hp p rfl) hk
    have QO:=fu (al (l:=[.list (F.map dN)]) h) JH
    have stp:d5 ts (k+1)=(some k,if ek (b4 ts p)&&dG ts[k]then F++[(p,k)]else F):=stp
    rw[lF JH]at stp
    refine aW (t:=ek ts[p]&&dG ts[k]) (b0 (t:=true) (ay (ab h151) ar (congrArg some (decide_eq_true (Int.natCast_nonneg p)))) rfl (xM (bR (ac (aQ (ab eC) (ab h151) QO) ak) ⟨Oy⟩) (bR (ac (aQ (ab eC) (ab rfl) Cg) ak) ⟨HW⟩))) rfl ?_
    cases ho:ek ts[p]&&dG ts[k]with
    |false=>
     rw[ho]at stp
     exact go F stp (Nat.le_succ_of_le hl)
    |true=>
     rw[ho]at stp
     refine lS (ab bL) aw rfl (ac (cG (ac (ab h151) (ac (ab rfl) ak))) ak) (AC aw (by rw[List.length_map];lia)) ?_
     have:=go _ stp (by rw[if_pos rfl,List.length_append];exact Nat.succ_le_succ hl)
     rw[if_pos rfl,List.map_append]at this
     rw[tw];exact this
 ·rintro ρ _ ⟨u,F,e,rfl,hl,hp,eC,bL,h151⟩
  rw[e]at q
  exact a6 (ab bL) (ec (Nat.le_refl _) (q _ _ (Nat.le_refl _) aw))
end
theorem Dt (ts:List Nat)(n:Nat):(∀p,(d5 ts n).1=some p→p<n)∧(d5 ts n).2.length≤n∧∀x∈(d5 ts n).2,x.1<n∧x.2<n:=by
 induction n with
 |zero=>exact⟨fun p e=>aK e,Nat.le_refl _,fun x hx=>(List.not_mem_nil hx).elim⟩
 |succ n ih=>
  rw[Dr]
  generalize d5 ts n=st at ih
  obtain⟨u,F⟩:=st
  obtain⟨h1,h2,h3⟩:=ih
  have h4:∀x∈F,x.1<n+1∧x.2<n+1:=fun x hx=>⟨Nat.lt_succ_of_lt (h3 x hx).1,Nat.lt_succ_of_lt (h3 x hx).2⟩
  have hG:=Nat.le_succ_of_le h2
  unfold jQ
  by_cases z:b4 ts n=25
  ·rw[if_pos z]
   exact⟨fun p e=>Nat.lt_succ_of_lt (h1 p e),hG,h4⟩
  ·rw[if_neg z]
   refine⟨fun p e=>Option.some.inj e▸Nat.lt_succ_self _,?_⟩
   cases u with
   |none=>exact⟨hG,h4⟩
   |some p=>
    show(if ek (b4 ts p)&&dG (b4 ts n)then F++[(p,n)]else F).length≤_∧∀x∈if ek (b4 ts p)&&dG (b4 ts n)then F++[(p,n)]else F,_
    cases ek (b4 ts p)&&dG (b4 ts n)with
    |false=>exact⟨hG,h4⟩
    |true=>exact⟨by rw[if_pos rfl,List.length_append];exact Nat.succ_le_succ h2,fun x hx=>(List.mem_append.mp hx).elim (h4 x) fun hx=>List.mem_singleton.mp hx▸⟨Nat.lt_succ_of_lt (h1 p rfl),Nat.lt_succ_self _⟩⟩
noncomputable def bl (f:Nat→Bool)(n:Nat):List AV:=(List.range n).map fun k=>.bool (f k)
theorem NN (f:Nat→Bool)(n j:Nat):(bl f n).set j (.bool true)=bl (fun k=>f k||k==j) n:=by
 apply List.ext_getElem?
 intro k
 rw[List.getElem?_set]
 unfold bl
 simp only[List.length_map,List.length_range,List.getElem?_map]
 by_cases hk:k<n
 ·have e:(List.range n)[k]?=some k:=by simp[hk]
  rw[e]
  by_cases hj:j=k
  ·subst hj;simp[hk]
  ·have:(k==j)=false:=by simpa using fun q=>hj q.symm
   simp[hj,this]
 ·have e:(List.range n)[k]?=none:=by simp;lia
  rw[e]
  split
  ·split
   ·lia
   ·rfl
  ·rfl
theorem HQ {σ:St}{r n k:Nat}{f:Nat→Bool}(h:σ[r]?=some (.list (bl f n)))(hk:k<n):eh σ (.ref r) (.int (k:Int))=some (.bool (f k)):=
 c7 h (by rw[bl,List.getElem?_map,List.getElem?_range hk];rfl)
theorem HR {σ:St}{r n k:Nat}{f:Nat→Bool}(h:σ[r]?=some (.list (bl f n)))(hk:k<n):ie σ (.ref r) (.int (k:Int)) (.bool true)=some (σ.set r (.list (bl (fun x=>f x||x==k) n))):=by
 rw[w9,h]
 show(dK k (bl f n).length).map _=_
 rw[DI (by rw[bl,List.length_map,List.length_range];exact hk)]
 exact congrArg (fun l=>some (σ.set r (ae.list l))) (NN f n k)
noncomputable def fB (ts:List Nat)(k:Nat):Nat:=if dG (b4 ts k)then ua ((d5 ts ts.length).2.any fun p=>p.2==k) ((d5 ts ts.length).2.any fun p=>p.1==k)else 0
noncomputable def dH (ts:List Nat):List Nat:=(List.range ts.length).map (fB ts)
section
variable {d:Nat}{σ:St}{Q:AV→St→Prop}
theorem Nj {α:Type}(l:List α)(p:α)(f:α→Bool):(l++[p]).any f=(l.any f||f p):=by rw[List.any_append,List.any_cons,List.any_nil,Bool.or_false]
inductive C7 (σ:St)(r f:Nat)(ts:List Nat)(rest:List (Nat×Nat))(ρ:ag)(s:St):Prop
 |mk (done:List (Nat×Nat))(l:St)(q1:(d5 ts ts.length).2=done++rest)(q3:s=σ++l)(q4:s[σ.length]?=some (.list (bl (fun k=>done.any fun p=>p.2==k) ts.length)))(q5:s[σ.length+1]?=some (.list (bl (fun k=>done.any fun p=>p.1==k) ts.length)))(q6:s[f]?=some (.list ((d5 ts ts.length).2.map dN)))(q7:ρ 251=some (.ref r))(q8:ρ 100=some (.ref σ.length))(q9:ρ 101=some (.ref (σ.length+1))):C7 σ r f ts rest ρ s
theorem Of {r:Nat}{ts:List Nat}(h:σ[r]?=some (.list (br ts)))(hn:ts.length≤100)(q:∀l r',σ.length≤r'→(σ++l)[r']?=some (.list (br (dH ts)))→Q (.ref r') (σ++l)):WC (ao T0 (d+3)) 89 [.ref r] σ Q:=by
 have e0:bl (fun _=>false) ts.length=ts.map fun _=>.bool false:=by rw[bl,List.map_const',List.map_const',List.length_range]
 have Jp (s:St) (h:s[r]?=some (.list (br ts))) (ρ:ag):ca (some (r,.list (br ts))) [229] true (dA (ao T0 (d+2)) [] (.cb false)) ρ (br ts) s=some (bl (fun _=>false) ts.length,s):=by
  rw[e0]
  exact fS (bg h) fun t _=>⟨_,rfl,eJ gV⟩
 have ug (f:Nat→Bool):(bl f ts.length).length<1000000:=by rw[bl,List.length_map,List.length_range];lia
 refine bM rfl rfl rfl (bS (cO (aL (ac (ab rfl) ak) (aA (cx h) (aZ (Jp _ h _) ⟨ug _,bS (cO (aL (ac (ab rfl) ak) (aA (cx (al h)) (aZ (Jp _ (al h) _) ⟨ug _,gK (bu (bG (aL (ac (ab rfl) ak) (H3 (al (al h)) hn fun l0 f hf fW=>a8 (aA (cx fW) ?_)))))⟩))))⟩)))))
 rw[List.append_assoc,List.append_assoc]at fW ⊢
 rw[List.length_append,List.length_append]at hf
 rw[List.length_append]
 refine cJ (Dt ts ts.length) fun _ jl jlt=>?_
 refine fV (w:=dN) (B:=fun p ρ=>aF (aF ρ 187 (.int (p.1:Int))) 190 (.int (p.2:Int))) (I:=C7 σ r f ts) (fun _ _=>rfl) ?_ ?_ ⟨[],_,rfl,rfl,b9 (k:=0) rfl,b9 rfl,fW,rfl,rfl,rfl⟩
 ·rintro p rest ρ s ⟨done,l,e1,rfl,k1,k2,k3,eC,xV,xW⟩
  have hp:=jlt p (by rw[e1];exact List.mem_append_right _ (List.mem_cons_self ..))
  have k1':=(List.getElem?_set_ne (a:=ae.list (bl (fun x=>(done.any fun p=>p.1==x)||x==p.1) ts.length)) (Nat.ne_of_gt (Nat.lt_succ_self σ.length))).trans k1
  have sw (l:List (Nat×Nat)) (g:Nat×Nat→Nat):(fun k=>(l.any fun p=>g p==k)||k==g p)=fun k=>(l++[p]).any fun p=>g p==k:=funext fun k=>by
   rw[Nj,show(k==g p)=(g p==k)from Bool.eq_iff_iff.mpr (by rw[beq_iff_eq,beq_iff_eq];exact eq_comm)]
  refine⟨bg k3,iy gV (ab xW) (ab rfl) (HR k2 hp.1) (iy gV (ab xV) (ab rfl) (HR k1' hp.2) ?_)⟩
  refine C7.mk (done++[p]) _ (by rw[e1,List.append_assoc];rfl) ((congrArg (fun s=>List.set s _ _) jh).trans (jh (k:=0))) ?_ ?_ ?_ eC xV xW
  ·rw[dy k1',sw done Prod.snd]
  ·rw[List.getElem?_set_ne (Nat.ne_of_lt (Nat.lt_succ_self _)),dy k2,sw done Prod.fst]
  ·have:σ.length+1+1≤f:=hf
   rw[List.getElem?_set_ne (by lia),List.getElem?_set_ne (by lia)];exact k3
 ·rintro ρ s ⟨done,l,e1,rfl,k1,k2,k3,eC,xV,xW⟩
  rw[List.append_nil]at e1
  subst e1
  have hc:ca none [53] true (dA (ao T0 (d+2)) [] (.ife (.call 141 [.idx (.v 251) (.v 53)]) (.call 87 [.idx (.v 100) (.v 53),.idx (.v 101) (.v 53)]) (.cs 0))) ρ (di 0 (ts.length:Int)) (σ++l)=some (br (dH ts),σ++l):=by
   rw[tr,br,dH,List.map_map]
   refine fS rfl fun k hk=>?_
   have hk:=List.mem_range.mp hk
   refine⟨_,rfl,eJ (ey (bR (ac (aQ (ab eC) (ab rfl) (fu (al h) hk)) ak) ⟨HW⟩) rfl ?_)⟩
   show cond _ (Ev _ _ (.str (fB ts k))) (Ev _ _ (.str (fB ts k)))
   rw[fB,lF hk]
   cases dG ts[k]with
   |false=>exact aT
   |true=>exact bR (ac (aQ (ab xV) (ab rfl) (HQ k1 hk)) (ac (aQ (ab xW) (ab rfl) (HQ k2 hk)) ak)) ⟨Oe⟩
  refine⟨bg k3,eK (cO (aL (ac (cZ (ac (ab eC) ak) (gC (al h) (List.length_map _))) ak) (aA (lC (Nat.le_trans hn (by decide))) (aZ hc ⟨by rw[br,dH,List.length_map,List.length_map,List.length_range];lia,?_⟩))))⟩
  refine ec co ?_
  rw[List.append_assoc]
  exact q _ _ co (by rw[←List.append_assoc];exact aw)
end
noncomputable def dW (i:In):In:={i with uns:=false}
theorem TM {l:List In}{m:Int}:∃x,qx m (l.map fun i=>.int i.cluster)=some x:=by
 induction l generalizing m with
 |nil=>exact⟨m,rfl⟩
 |cons a l ih=>exact ih
section
variable {d:Nat}{σ:St}{Q:AV→St→Prop}
theorem IC {α:Type}{l:List α}{x e:Nat}(hx:x≤e)(he:e≤l.length):∃A B C,l=A++B++C∧A.length=x∧B=(l.take e).drop x∧B.length=e - x:=
 ⟨l.take x,(l.take e).drop x,l.drop e,by rw[show l.take x=(l.take e).take x by rw[List.take_take,Nat.min_eq_left hx],List.take_append_drop,List.take_append_drop],by rw[List.length_take,Nat.min_eq_left (Nat.le_trans hx he)],rfl,by rw[List.length_drop,List.length_take,Nat.min_eq_left he]⟩
theorem Oh {b l x e:Nat}{bk:Bool}{rs:List Nat}{is:List In}(h:aD σ b l bk rs is)(hx:x<e)(he:e≤rs.length)(hn:rs.length≤100)(q:∀σ' is',aU b rs σ σ'→aD σ' b l bk rs is'→is'.map dW=is.map dW→Q .none σ'):
  WC (ao T0 (d+1)) 97 [.ref b,.int (x:Int),.int (e:Int)] σ Q:=by
 obtain aX:=h.infos.len
 obtain⟨A,B,C,hr,hA,hB,QC⟩:=IC (l:=rs) (Nat.le_of_lt hx) he
 obtain⟨A',B',C',hi,gr,Yb,xY⟩:=IC (l:=is) (Nat.le_of_lt hx) (aX▸he)
 have sl:=pE h.row (jz (k:=x)) (jz (k:=e))
 rw[←List.map_take,←List.map_drop,←hB]at sl
 have h1:aD (σ++[ae.list (B.map .ref)]) b l bk rs is:=h.app
 refine bM rfl rfl rfl (bS (jm (aJ (aM (ab rfl) h.buf rfl) (aJ (ab rfl) (aJ (ab rfl) (aZ sl (aW (ay (cZ (ac (ab rfl) ak) (gC aw (List.length_map _))) ar rfl) rfl ?_)))))))
 by_cases z:(B.length:Int)<2
 ·exact bT (decide_eq_true z) (a6 ew (lQ rfl (q _ _ ⟨Nat.le_refl _,fun _ _ _ _=>rfl⟩ h rfl)))
 ·refine bA (decide_eq_false z) (bt ?_)
  have hu:=a9.uncat (rs:=A++B) (is:=A'++B') (by simp[hA,gr,QC,xY]) (by have:=h1.infos;rw[hr,hi]at this;exact this)
  have jP:=a9.uncat (rs:=A) (is:=A') (by rw[hA,gr]) hu.1
  obtain I8:=jP.2
  obtain⟨i0,B0,QB⟩:∃i0 B0,B'=i0::B0:=by
   cases hq:B' with
   |nil=>rw[hq]at xY;simp at xY;lia
   |cons i0 B0=>exact⟨i0,B0,rfl⟩
  have⟨mn,hmn⟩:=TM (l:=B0) (m:=i0.cluster)
  have CJ (s:St):dc .min [.ref s.length] (s++[.list (B'.map fun i=>.int i.cluster)])=some (.int mn,s++[.list (B'.map fun i=>.int i.cluster)]):=by
   show(((s++[ae.list _])[s.length]?).bind bX).bind _=_
   rw[aw,QB]
   exact congrArg (Option.map fun m=>(AV.int m,s++[ae.list ((i0::B0).map fun i=>.int i.cluster)])) hmn
  refine bS (lG (bu (cO (aL (ac (ab rfl) ak) (aA (cx aw) (aZ (BE (g:=fun i=>.int i.cluster) (bg aw) I8 fun r i _ _ e=>eJ ⟨IW e⟩) ⟨by rw[List.length_map,xY];lia,a8 (aZ (CJ _) (fb (ac (ab rfl) ak) (cx (al aw)) ?_))⟩))))))
  obtain nd:=h.nd
  rw[hr]at nd
  have nd1:=List.nodup_append.mp nd
  have nd2:=List.nodup_append.mp nd1.1
  have Rv:∀r∈B,r<σ.length:=fun r m=>h.infos.lt (by rw[hr];simp[m])
  refine FZ (g:=fun i=>if i.cluster=mn then i else{i with uns:=true}) (is:=B') (P:=fun ρ=>ρ 159=some (.int mn)) nd2.2.1 I8.app ?_ ?_ ?_ rfl
  ·exact fun s hS=>bg (hS.get (al aw) fun m=>Nat.lt_irrefl _ (Rv _ m))
  ·intro ρ s r i gy qg BX hS e'
   refine aW (ay (aM (ab rfl) e' rfl) (ab BX) rfl) rfl ?_
   by_cases zc:i.cluster=mn
   ·rw[if_pos zc]
    exact Ij (beq_iff_eq.mpr zc) ⟨.inl rfl,BX,(AF e').symm⟩
   ·rw[if_neg zc]
    exact IB (beq_eq_false_iff_ne.mpr zc) (gR gV (ab rfl) e' rfl rfl ⟨.inl rfl,BX,rfl⟩)
  ·intro ρ s _ hS hI
   have hRσ:aD (σ++[ae.list (B.map .ref)]++[ae.list (B'.map fun i=>.int i.cluster)]) b l bk rs is:=h.app.app
   have nb:b∉B:=fun m=>cC h.infos h.buf rfl (by rw[hr];simp[m])
   have nl:l∉B:=fun m=>cC h.infos h.row rfl (by rw[hr];simp[m])
   have hR:aD s b l bk rs (A'++B'.map (fun i=>if i.cluster=mn then i else{i with uns:=true})++C'):=by
    refine⟨hS.get hRσ.buf nb,hS.get hRσ.row nl,?_,h.nd,fun i qg=>?_⟩
    ·rw[hr]
     refine a9.cat (a9.cat (jP.1.app.same fun r m=>hS.2 r fun m'=>nd2.2.2 r m r m' rfl) hI) (hu.2.app.same fun r m=>hS.2 r fun m'=>nd1.2.2 r (by simp[m']) r m rfl)
    ·rcases List.mem_append.mp qg with m |m
     ·rcases List.mem_append.mp m with m |m
      ·exact h.gl i (by rw[hi];simp[m])
      ·refine am (List.mem_map.mp m) fun j hj e29=>?_
       clear qg
       subst e29
       have:=h.gl j (by rw[hi];simp[hj])
       split<;>exact this
     ·exact h.gl i (by rw[hi];simp[m])
   have hk:aU b rs σ s:=⟨by rw[hS.1];simp,fun r gy _ hm=>by
    rw[hS.2 r fun m=>hm (by rw[hr];simp[m]),List.append_assoc,List.getElem?_append_left gy]⟩
   have Ji:(A'++B'.map (fun i=>if i.cluster=mn then i else{i with uns:=true})++C').map dW=is.map dW:=by
    rw[hi]
    simp only[List.map_append,List.map_map]
    congr 2
    apply List.map_congr_left
    intro i _
    show dW (if i.cluster=mn then i else{i with uns:=true})=dW i
    split<;>rfl
   show Q (bF σ (.none,s)).1 (bF σ (.none,s)).2
   rcases lD σ s .none with e' | ⟨e',m',rfl⟩
   ·rw[e'];exact q _ _ hk hR Ji
   ·rw[e'];exact q _ _ ⟨Nat.le_refl _,fun _ _ _ _=>rfl⟩ (h.down hR) Ji
end
noncomputable def yB:List (AV×AV):=[(.str 127,.int 2),(.str 111,.int 4),(.str 174,.int 8),(.str 82,.int 16)]
noncomputable def mB (f:Nat):Int:=if f=127 then 2 else if f=111 then 4 else if f=174 then 8 else if f=82 then 16 else 0
theorem NE {a b:Nat}:AV.beq (.str a) (.str b)=(a==b):=rfl
theorem TY (f:Nat):(bc yB (.str f)).getD (.int 0)=.int (mB f):=by
 unfold mB yB
 try simp only[bc,NE,beq_iff_eq]
 repeat' split
 all_goals first |rfl |lia
noncomputable def As (i:In)(f:Nat):In:={i with mask:=PySem.Builtin.bitOr i.mask (mB f)}
noncomputable def dh (is:List In)(fs:List Nat):List In:=List.zipWith As is fs
theorem Sj {σ:St}{r:Nat}{j:In}{rs:List Nat}:∀{is:List In} {k:Nat},a9 σ rs is→rs.Nodup→rs[k]?=some r→a9 (σ.set r (a7 j)) rs (is.set k j):=by
 induction rs with
 |nil=>exact fun _ _ e=>aK e
 |cons a rs ih=>
  intro is k h nd e
  have nd:=List.nodup_cons.mp nd
  cases is with
  |nil=>exact h.elim
  |cons i is=>
   cases k with
   |zero=>cases e;exact⟨dy h.1,Dm h.2 nd.1⟩
   |succ k=>exact⟨by rw[List.getElem?_set_ne fun q=>nd.1 ((q:r=a)▸List.mem_of_getElem? (e:rs[k]?=some r))];exact h.1,ih h.2 nd.2 e⟩
theorem Kc {is:List In}{fs:List Nat}(h:∀i∈is,i.glyph=0) (j)(hj:j∈dh is fs):j.glyph=0:=by
 induction is generalizing fs with
 |nil=>rw[dh,List.zipWith_nil_left]at hj;cases hj
 |cons i is ih=>
  cases fs with
  |nil=>rw[dh,List.zipWith_nil_right]at hj;cases hj
  |cons f fs=>
   rcases List.mem_cons.mp hj with rfl |hj
   ·exact h i (List.mem_cons_self ..)
   ·exact ih (fun x hx=>h x (List.mem_cons_of_mem _ hx)) hj
noncomputable def gJ (is:List In):List Nat:=(is.map (·.code)).map dg
theorem SL (ts:List Nat)(n:Nat):∀x∈(d5 ts n).2,x.1<x.2:=by
 induction n with
 |zero=>exact fun x hx=>(List.not_mem_nil hx).elim
 |succ n ih=>
  have hl:=(Dt ts n).1
  rw[Dr]
  generalize d5 ts n=st at ih hl
  obtain⟨u,F⟩:=st
  unfold jQ
  by_cases z:b4 ts n=25
  ·rw[if_pos z];exact ih
  ·rw[if_neg z]
   cases u with
   |none=>exact ih
   |some p=>
    show∀x∈if ek (b4 ts p)&&dG (b4 ts n)then F++[(p,n)]else F,_
    cases ek (b4 ts p)&&dG (b4 ts n)with
    |false=>exact ih
    |true=>exact fun x hx=>(List.mem_append.mp hx).elim (ih x) fun hx=>List.mem_singleton.mp hx▸hl p rfl
section
variable {d:Nat}{σ:St}{Q:AV→St→Prop}
inductive C8 (s0:St)(b md fo ty:Nat)(rs:List Nat)(is:List In)(fs:List Nat)(k:Nat)(ρ:ag)(s:St):Prop
 |mk (q3:eM rs s0 s)(q4:a9 s rs (dh (is.take k) (fs.take k)++is.drop k))(q5:ρ 57=some (.ref b))(q6:ρ 171=some (.ref md))(q7:ρ 88=some (.ref fo))(q8:ρ 251=some (.ref ty)):C8 s0 b md fo ty rs is fs k ρ s
inductive C9 (s:St)(b l:Nat)(bk:Bool)(rs:List Nat)(is is0:List In)(rest:List (Nat×Nat))(ρ:ag)(s':St):Prop
 |mk (is':List In)(q2:∀x∈rest,x.1<x.2∧x.2<rs.length)(q3:aU b rs s s')(q4:aD s' b l bk rs is')(q5:is'.map dW=is0.map dW)(q6:ρ 57=some (.ref b)):C9 s b l bk rs is is0 rest ρ s'
theorem aU.trans {b:Nat}{rs:List Nat}{σ s t:St}(h:aU b rs σ s)(k:aU b rs s t):aU b rs σ t:=⟨Nat.le_trans h.1 k.1,fun r hr hb hm=>(k.2 r (Nat.lt_of_lt_of_le hr h.1) hb hm).trans (h.2 r hr hb hm)⟩
theorem aU.app {b:Nat}{rs:List Nat}{s m:St}:aU b rs s (s++m):=⟨co,fun _ hr _ _=>List.getElem?_append_left hr⟩
theorem Ol {b l md:Nat}{bk:Bool}{rs:List Nat}{is:List In}(h:aD σ b l bk rs is)(hm:σ[md]?=some (.dict yB))(hn:rs.length≤90)
  (q:∀σ' is',aU b rs σ σ'→aD σ' b l bk rs is'→is'.map dW=(dh is (dH (gJ is))).map dW→Q .none σ'):WC (ao T0 (d+4)) 128 [.ref b,.ref md] σ Q:=by
 have aX:=h.infos.len
 have JN:(gJ is).length=rs.length:=by rw[gJ,List.length_map,List.length_map,aX]
 have gu:(σ++[ae.list (is.map fun i=>AV.int i.code)])[σ.length]?=some (.list ((is.map (·.code)).map .int)):=by
  rw[List.map_map];exact aw
 have fW:(dH (gJ is)).length=rs.length:=by rw[dH,List.length_map,List.length_range,JN]
 refine bM rfl rfl rfl (bS (bG (bu (gG h rfl (by lia) (fun r i e=>jG e) (a8 (OZ gu (by rw[List.length_map];lia) fun l1 ty h1 JO=>Bp (ac (ab rfl) ak) (Of (d:=d) (ts:=gJ is) JO (by lia) fun l2 fo h2 uk=>?_)))))))
 have C0:(σ++[ae.list (is.map fun i=>AV.int i.code)]++l1++l2)[ty]?=some (.list (br (gJ is))):=al JO
 have hH:aD (σ++[ae.list (is.map fun i=>AV.int i.code)]++l1++l2) b l bk rs is:=h.app.app.app
 have CG:=al (l:=l2) (al (l:=l1) (al (l:=[.list (is.map fun i=>.int i.code)]) hm))
 have iJ:aU b rs σ (σ++[ae.list (is.map fun i=>AV.int i.code)]++l1++l2):=aU.app.trans (aU.app.trans aU.app)
 generalize σ++[ae.list (is.map fun i=>AV.int i.code)]++l1++l2=s0 at uk C0 hH CG iJ
 refine fb (ac (cZ (ac (ab rfl) ak) (gC uk ((List.length_map _).trans fW))) ak) (lC (Nat.le_trans hn (by decide))) ?_
 generalize dH (gJ is)=fs at uk fW q
 refine xT (I:=C8 s0 b md fo ty rs is fs) ?_ ?_ ⟨.refl,by rw[List.take_zero,List.take_zero];exact hH.infos,rfl,rfl,rfl,rfl⟩
 ·rintro k ρ s hk ⟨hS,hI,h57,h171,h88,eC⟩
  have Cs:k<is.length:=aX▸hk
  have JA:k<fs.length:=fW.symm▸hk
  have x7:(dh (is.take k) (fs.take k)).length=k:=by rw[dh,List.length_zipWith,List.length_take,List.length_take];lia
  have hR:aD s b l bk rs (dh (is.take k) (fs.take k)++is.drop k):=hH.same hS hI fun i hi=>(List.mem_append.mp hi).elim (Kc (fun x hx=>hH.gl x (List.mem_of_mem_take hx)) i) fun m=>hH.gl i (List.mem_of_mem_drop m)
  refine cq (fk hR hk) fun r i e1 e2 CW um e3 e4=>?_
  have hi:i=is[k]:=by
   rw[List.getElem?_append_right (Nat.le_of_eq x7),x7,Nat.sub_self,List.getElem?_drop,Nat.add_zero,List.getElem?_eq_getElem Cs]at e2
   exact(Option.some.inj e2).symm
  have Q9:=fu (hS.get uk (cC hH.infos uk rfl)) JA
  have JB:=hS.get CG (cC hH.infos CG rfl)
  refine gR (bI (aM (aQ (aM (ab h57) hR.buf rfl) (ab rfl) e3) e4 rfl) (gn (ab h171) JB (.b rfl (ac (aQ (ab h88) (ab rfl) Q9) (ac ar ak)) (jI JB rfl (TY _)))) rfl) (aQ (aM (ab h57) hR.buf rfl) (ab rfl) e3) e4 rfl rfl ?_
  refine C8.mk (hS.set CW) ?_ h57 h171 h88 eC
  have RL:=Sj (j:=As i fs[k]) hI h.nd e1
  rwa [List.set_append_right _ _ (Nat.le_of_eq x7),x7,Nat.sub_self,List.drop_eq_getElem_cons Cs,List.set_cons_zero,hi,show dh (is.take k) (fs.take k)++As is[k] fs[k]::is.drop (k+1)=dh (is.take (k+1)) (fs.take (k+1))++is.drop (k+1) by
   rw[List.take_succ_eq_append_getElem Cs,List.take_succ_eq_append_getElem JA,dh,dh,List.zipWith_append (by rw[List.length_take,List.length_take];lia),List.append_assoc];rfl,←hi]at RL
 ·rintro ρ s ⟨hS,hI,h57,h171,h88,eC⟩
  rw[List.take_of_length_le (Nat.le_of_eq aX.symm),List.take_of_length_le (Nat.le_of_eq fW),List.drop_of_length_le (Nat.le_of_eq aX.symm),List.append_nil]at hI
  have hR:aD s b l bk rs (dh is fs):=hH.same hS hI (Kc hH.gl)
  have iK:aU b rs σ s:=iJ.trans ⟨Nat.le_of_eq hS.1.symm,fun r _ _ CF=>hS.2 r CF⟩
  have RU:=hS.get C0 (cC hH.infos C0 rfl)
  refine gK (bG (aL (ac (ab eC) ak) (H3 (d:=d+1) RU (by lia) fun l3 f hf Cn=>aA (cx Cn) ?_)))
  have Jr {s':St} (hk:aU b rs (s++l3) s'):=hk.get Cn (Nat.ne_of_gt (Nat.lt_of_lt_of_le (cu hR.buf) hf)) (cC hR.app.infos Cn rfl)
  refine fV (w:=dN) (B:=fun p ρ=>aF (aF ρ 187 (.int (p.1:Int))) 190 (.int (p.2:Int))) (I:=C9 (s++l3) b l bk rs is (dh is fs)) (fun _ _=>rfl) ?_ ?_
   ⟨_,fun x hx=>⟨SL _ _ x hx,JN▸((Dt _ _).2.2 x hx).2⟩,⟨Nat.le_refl _,fun _ _ _ _=>rfl⟩,hR.app,rfl,h57⟩
  ·rintro p rest ρ s' ⟨is',iL,hk,x6,hc,h57⟩
   have⟨ho,hp⟩:=iL p (List.mem_cons_self ..)
   refine⟨bg (Jr hk),pR (ac (ab h57) (ac (ab rfl) (ac (bI (ab rfl) ar rfl) ak))) (Oh (d:=d+2) (e:=p.2+1) x6 (Nat.lt_succ_of_lt ho) hp (by lia) fun s2 is2 k2 r2 c2=>?_)⟩
   exact C9.mk is2 (fun x hx=>iL x (List.mem_cons_of_mem _ hx)) (hk.trans k2) r2 (c2.trans hc) h57
  ·rintro ρ s' ⟨is',iL,hk,x6,hc,h57⟩
   refine⟨bg (Jr hk),?_⟩
   show Q (bF σ (.none,s')).1 (bF σ (.none,s')).2
   rcases lD σ s' .none with e' | ⟨e',m',rfl⟩
   ·rw[e'];exact q _ _ (iK.trans (aU.app.trans hk)) x6 hc
   ·rw[e'];exact q _ _ ⟨Nat.le_refl _,fun _ _ _ _=>rfl⟩ (h.down x6) hc
end
noncomputable def Pm:List (Int×Int):=[(2325,2361),(2392,2399)]
noncomputable def XA:List (Int×Int):=[(2308,2324),(2400,2401)]
noncomputable def TC:List (Int×Int):=[(2366,2366),(2368,2380),(2402,2403)]
noncomputable def VY:List (Int×Int):=[(2304,2307),(2385,2388)]
noncomputable def mq (c:Int):List (Nat×List (Int×Int))→Nat
 | []=>0
 |p::l=>if du p.2 c then p.1 else mq c l
noncomputable def cS (c:Int):Nat:=if c==2367 then 10 else if c==2381 then 8 else if c==2364 then 18 else if c==8205||c==8204 then 12 else mq c [(2,Pm),(30,XA),(15,TC),(23,VY)]
section
variable {d:Nat}{σ:St}{Q:AV→St→Prop}{c:Int}
theorem O5 {l:List (Int×Int)}:ao T0 (d+1) 126 [.int c,.tup (c8 l)] σ=some (.bool (du l c),σ):=by
 refine b5 rfl rfl rfl (fb (ac (ab rfl) ak) rfl (Fz (l:=l) rfl rfl ?_))
 cases du l c with
 |true=>exact fun ρ'=>Ht rfl ⟨rfl,rfl⟩
 |false=>exact fun ρ'=>a6 gV (bE rfl rfl)
inductive Da (c:Int)(σ:St)(n:Nat)(l:List (Nat×List (Int×Int)))(ρ:ag)(s:St):Prop
 |mk (q1:s=σ)(q2:ρ 67=some (.int c))(q3:mq c l=n):Da c σ n l ρ s
theorem SY {ρ:ag}{src:E}{L:List (Nat×List (Int×Int))}(h:El ⟨ao T0 (d+1),ρ,σ⟩ [src] [.tup (L.map fun p=>.tup [.str p.1,.tup (c8 p.2)])])(dZ:ρ 67=some (.int c)):WB (ao T0 (d+1)) [.for [144,231] false .seq [src] [.iff (.call 126 [.v 67,.v 231]) [.ret (.v 144)] []],.ret (.cs 0)] ρ σ (dk σ fun x t=>x=.str (mq c L)∧t=σ):=by
 refine fb h rfl (fV (B:=fun p ρ=>aF (aF ρ 144 (.str p.1)) 231 (.tup (c8 p.2))) (I:=Da c σ (mq c L)) (fun _ _=>rfl) ?_ ?_ ⟨rfl,dZ,rfl⟩)
 ·rintro p l ρ s ⟨rfl,dZ,e⟩
  refine⟨rfl,aW (bR (ac (ab dZ) (ac (ab rfl) ak)) ⟨O5⟩) rfl ?_⟩
  have e:(if du p.2 c then p.1 else mq c l)=mq c L:=e
  cases hb:du p.2 c with
  |true=>
   rw[hb]at e
   exact a6 (ab rfl) (bE rfl (congrArg AV.str e))
  |false=>
   rw[hb]at e
   exact Da.mk rfl dZ e
 ·rintro ρ s ⟨rfl,dZ,e⟩
  exact⟨rfl,a6 aT (bE rfl (congrArg AV.str e))⟩
theorem Op:ao T0 (d+2) 148 [.int c] σ=some (.str (cS c),σ):=by
 have hm:fZ (.int c) [.int 8205,.int 8204]=some (c==8205||c==8204):=by
  show some ((8205==c)||((8204==c)||false))=_
  rw[Bool.or_false,show((8205:Int)==c)=(c==8205)from Bool.eq_iff_iff.mpr (by rw[beq_iff_eq,beq_iff_eq];exact eq_comm),show((8204:Int)==c)=(c==8204)from Bool.eq_iff_iff.mpr (by rw[beq_iff_eq,beq_iff_eq];exact eq_comm)]
 unfold cS
 refine b5 rfl rfl rfl ?_
 refine aW (ay (ab rfl) (dq rfl) rfl) rfl ?_
 show cond (c==2367) _ _
 cases c==2367 with
 |true=>exact bT rfl (a6 aT (bE rfl rfl))
 |false=>
 refine bA rfl (bt ?_)
 refine aW (ay (ab rfl) (dq rfl) rfl) rfl ?_
 show cond (c==2381) _ _
 cases c==2381 with
 |true=>exact bT rfl (a6 aT (bE rfl rfl))
 |false=>
 refine bA rfl (bt ?_)
 refine aW (ay (ab rfl) (dq rfl) rfl) rfl ?_
 show cond (c==2364) _ _
 cases c==2364 with
 |true=>exact bT rfl (a6 aT (bE rfl rfl))
 |false=>
 refine bA rfl (bt ?_)
 refine aW (ay (ab rfl) (cG (ac (dq rfl) (ac (dq rfl) ak))) hm) rfl ?_
 show cond (c==8205||c==8204) _ _
 cases c==8205||c==8204 with
 |true=>exact bT rfl (a6 aT (bE rfl rfl))
 |false=>
 refine bA rfl (bt ?_)
 rw[if_neg Bool.false_ne_true,if_neg Bool.false_ne_true,if_neg Bool.false_ne_true,if_neg Bool.false_ne_true]
 refine SY ?_ rfl
 exact ac (cG (ac (cG (ac aT (ac (dq rfl) ak))) (ac (cG (ac aT (ac (dq rfl) ak))) (ac (cG (ac aT (ac (dq rfl) ak))) (ac (cG (ac aT (ac (dq rfl) ak))) ak))))) ak
end
section
variable {d:Nat}{σ:St}{Q:AV→St→Prop}
theorem xF {r:Nat}{ks:List Nat}(h:σ[r]?=some (.list (br ks)))(k:Nat):ao T0 (d+1) 145 [.ref r,.int (k:Int)] σ=some (.str (ks.getD k 0),σ):=by
 refine b5 rfl rfl rfl (a6 (ey (ay (ab rfl) (cZ (ac (ab rfl) ak) (gC h (List.length_map _))) rfl) rfl ?_) (bE rfl rfl))
 rw[List.getD_eq_getElem?_getD]
 by_cases z:k<ks.length
 ·rw[List.getElem?_eq_getElem z]
  exact bT (decide_eq_true (Int.ofNat_lt.mpr z)) (aQ (ab rfl) (ab rfl) (fu h z))
 ·rw[List.getElem?_eq_none (Nat.not_lt.mp z)]
  exact bA (decide_eq_false fun e=>z (Int.ofNat_lt.mp e)) aT
theorem MQ {a b:Nat}(h:a≠b):(a==b)=false:=beq_eq_false_iff_ne.mpr h
theorem OB {r:Nat}{ks:List Nat}{k t:Nat}(h:σ[r]?=some (.list (br ks)))(hk:ks.getD k 0≠t):ao T0 (d+2) 198 [.ref r,.int (k:Int),.str t] σ=some (.int (k:Int),σ):=
 b5 rfl rfl rfl (tG (x:=.bool false) (ay (bR (ac (ab rfl) (ac (ab rfl) ak)) ⟨xF h k⟩) (ab rfl) (congrArg some (MQ hk))) rfl (a6 (ab rfl) (bE rfl rfl)))
theorem O0 {r:Nat}{ks:List Nat}{k:Nat}(h:σ[r]?=some (.list (br ks)))(hk:ks.getD k 0≠8):ao T0 (d+2) 199 [.ref r,.int (k:Int)] σ=some (.tup [.int (k:Int),.bool false],σ):=
 b5 rfl rfl rfl (tG (x:=.bool false) (ay (bR (ac (ab rfl) (ac (ab rfl) ak)) ⟨xF h k⟩) aT (congrArg some (MQ hk))) rfl (a6 (cG (ac (ab rfl) (ac gV ak))) (bE rfl rfl)))
theorem Oc {r:Nat}{ks:List Nat}{k:Nat}(h:σ[r]?=some (.list (br ks)))(hk:k<ks.length)(hz:ks[k]=0∨ks[k]=12):ao T0 (d+3) 242 [.ref r,.int (k:Int)] σ=some (.int ((k+1:Nat):Int),σ):=by
 have hs:=fu h hk
 refine b5 rfl rfl rfl (ba (aQ (ab rfl) (ab rfl) hs) (aW (t:=true) (jE (ay (ab rfl) aT rfl) (ay (ab rfl) aT rfl)) (congrArg some ?_) (a6 (bI (ab rfl) ar rfl) (bE rfl rfl))))
 show(ks[k]==0||ks[k]==12)=true
 rcases hz with hz |hz<;>rw[hz]<;>rfl
inductive Db (σ:St)(r:Nat)(n:Nat)(ρ:ag)(s:St):Prop
 |mk (q1:s=σ)(q2:ρ 147=some (.ref r))(q3:((n=1∧ρ 53=some (.int ((1:Nat):Int)))∨(n=0∧ρ 53=some (.int ((2:Nat):Int))))):Db σ r n ρ s
theorem Od {r:Nat}(h:σ[r]?=some (.list (br [2,10,0]))):ao T0 (d+3) 242 [.ref r,.int ((0:Nat):Int)] σ=some (.int ((2:Nat):Int),σ):=by
 have p (k t:Nat) (e:[2,10,0].getD k 0≠t):=OB (d:=d) h e
 refine b5 rfl rfl rfl (ba (aQ (ab rfl) (ab rfl) (fu (k:=0) h (by decide))) (aW (jE (ay (ab rfl) aT rfl) (ay (ab rfl) aT rfl)) rfl (bt (ba (v:=.int ((1:Nat):Int)) (ey (t:=true) (ay (ab rfl) (cG (ac aT (ac aT ak))) rfl) rfl (bI (ab rfl) ar rfl)) (cV (tJ (aJ (bR (ac (ab rfl) (ac (bR (ac (ab rfl) (ac (ab rfl) (ac aT ak))) ⟨p 1 18 (by decide)⟩) ak)) ⟨O0 (k:=1) h (by decide)⟩) ⟨_,_,rfl,?_⟩)))))))
 refine aW (gp (ab rfl) rfl) rfl (pI (pL (I:=Db σ r) ?_ (n:=1) ⟨rfl,rfl,.inl ⟨rfl,rfl⟩⟩ (by decide)))
 rintro n ρ s ⟨rfl,cA,⟨rfl,h53⟩ | ⟨rfl,h53⟩⟩
 ·refine aJ (ay (t:=true) (bR (ac (ab cA) (ac (ab h53) ak)) ⟨xF h 1⟩) (cG (ac aT (ac aT ak))) rfl) (aA rfl ⟨0,rfl,ba (bR (ac (ab cA) (ac (bI (ab h53) ar rfl) (ac aT ak))) ⟨p 2 18 (by decide)⟩) ?_⟩)
  exact Db.mk rfl cA (.inr ⟨rfl,rfl⟩)
 ·exact aJ (ay (t:=false) (bR (ac (ab cA) (ac (ab h53) ak)) ⟨xF h 2⟩) (cG (ac aT (ac aT ak))) rfl) (aA rfl (bA rfl (bt (a6 (bR (ac (ab cA) (ac (ab h53) (ac aT ak))) ⟨p 2 23 (by decide)⟩) (bE rfl rfl)))))
end
noncomputable def xp (ks:List Nat):Nat→List (Nat×Nat)→Prop
 |k,[]=>k=ks.length
 |k,p::l=>p.1=k∧k<p.2∧k<ks.length∧((p.2=k+1∧(ks.getD k 9=0∨ks.getD k 9=12))∨(ks=[2,10,0]∧k=0∧p.2=2))∧xp ks p.2 l
section
variable {d:Nat}{σ:St}{Q:AV→St→Prop}
inductive Dc (σ:St)(cs:List Int)(segs:List (Nat×Nat))(n:Nat)(ρ:ag)(s:St):Prop
 |mk (done rest k:_)(q1:segs=done++rest)(q2:n=rest.length)(q3:xp (cs.map cS) k rest)(q4:s=σ++[ae.list (br (cs.map cS))]++[.list (done.map dN)])(q5:ρ 147=some (.ref σ.length))(q6:ρ 90=some (.ref (σ.length+1)))(q7:ρ 54=some (.int ((k:Nat):Int))):Dc σ cs segs n ρ s
theorem Id {r:Nat}{cs:List Int}{segs:List (Nat×Nat)}(h:σ[r]?=some (.list (cs.map .int)))(hn:cs.length≤50)(hs:xp (cs.map cS) 0 segs)(iO:segs.length≤60)(q:∀l f,σ.length≤f→(σ++l)[f]?=some (.list (segs.map dN))→Q (.ref f) (σ++l)):WC (ao T0 (d+4)) 243 [.ref r] σ Q:=by
 have hc (ρ:ag):ca (some (r,.list (cs.map .int))) [67] true (dA (ao T0 (d+3)) [] (.call 148 [.v 67])) ρ (cs.map .int) σ=some (br (cs.map cS),σ):=by
  rw[br,List.map_map]
  exact fS (bg h) fun c _=>⟨_,rfl,eJ (bR (ac (ab rfl) ak) ⟨Op (d:=d+1)⟩)⟩
 refine bM rfl rfl rfl (bS (cO (aL (ac (ab rfl) ak) (aA (cx h) (aZ (hc _) ⟨by rw[br,List.length_map,List.length_map];lia,pS ak (ba ar (pI ?_))⟩)))))
 have iJ (m:St):(σ++[ae.list (br (cs.map cS))]++m)[σ.length]?=some (.list (br (cs.map cS))):=al aw
 have CB:(σ++[ae.list (br (cs.map cS))]).length=σ.length+1:=List.length_append
 rw[CB]
 refine pL (I:=Dc σ cs segs) ?_ (n:=segs.length) ⟨[],segs,0,rfl,rfl,hs,rfl,rfl,rfl,rfl⟩ (by lia)
 rintro n ρ s ⟨done,rest,k,e1,rfl,JL,rfl,cA,bL,dI⟩
 have hf:=aw (σ:=σ++[ae.list (br (cs.map cS))]) (o:=.list (done.map dN))
 rw[CB]at hf
 refine aJ (ay (ab dI) (cZ (ac (ab cA) ak) (gC (iJ _) (List.length_map _))) rfl) (aA rfl ?_)
 cases rest with
 |nil=>
  have Ro:k=(cs.map cS).length:=JL
  rw[List.append_nil]at e1
  subst e1
  refine bA (decide_eq_false fun e=>Nat.ne_of_lt (Int.ofNat_lt.mp e) Ro) (a6 (ab bL) (ec (Nat.le_succ _) ?_))
  rw[List.append_assoc]at hf ⊢
  exact q _ _ (Nat.le_succ _) hf
 |cons p rest=>
  refine F9 JL fun s1 s2 s3 s4 s5=>bT (decide_eq_true (Int.ofNat_lt.mpr s3)) ⟨rest.length,rfl,?_⟩
  have Q6:ao T0 (d+3) 242 [.ref σ.length,.int ((k:Nat):Int)] (σ++[ae.list (br (cs.map cS))]++[.list (done.map dN)])=some (.int ((p.2:Nat):Int),σ++[ae.list (br (cs.map cS))]++[.list (done.map dN)]):=by
   rcases s4 with⟨e,hz⟩ | ⟨e,e0,e2⟩
   ·rw[List.getD_eq_getElem?_getD,List.getElem?_eq_getElem s3]at hz
    rw[e]
    exact Oc (iJ _) s3 hz
   ·have:=iJ [.list (done.map dN)]
    rw[e]at this ⊢
    rw[e2,e0]
    exact Od this
  refine ba (bR (ac (ab cA) (ac (ab dI) ak)) ⟨Q6⟩) (lS (ab bL) hf rfl (ac (cG (ac (ab dI) (ac (ab rfl) ak))) ak) (AC hf ?_) (ba (ab rfl) ?_))
  ·rw[e1,List.length_append]at iO
   rw[List.length_map];lia
  ·refine Dc.mk (done++[p]) rest p.2 (by rw[e1,List.append_assoc];rfl) rfl s5 ?_ cA bL rfl
   rw[←CB,tw,List.map_append,←s1];rfl
end
section
variable {d:Nat}{σ:St}{Q:AV→St→Prop}
theorem BC {α:Type}{w g:α→AV}{p:α→Bool}{gd:Option (Nat×ae)}{xs:List Nat}{one:Bool}{turn:ag→St→Option (Option AV×St)}{ρ:ag}(hs:b8 gd σ=true){l:List α}(h:∀a∈l,∃ρ',ed xs one (w a) ρ=some ρ'∧turn ρ' σ=some (bif p a then some (g a)else none,σ)):ca gd xs one turn ρ (l.map w) σ=some ((l.filter p).map g,σ):=by
 induction l with
 |nil=>exact xJ (g:=some) (vs:=[]) hs nofun
 |cons a l ih=>
  obtain⟨ρ',h1,h2⟩:=h a (List.mem_cons_self ..)
  rw[List.map_cons,pU,hs,h1,List.filter_cons]
  refine(bN h2).trans ((bN (ih fun u hu=>h u (List.mem_cons_of_mem _ hu))).trans ?_)
  cases p a<;>rfl
inductive Dd (σ:St)(r a:Nat)(cs:List Int)(l:List Nat)(ρ:ag)(s:St):Prop
 |mk (q1:s=σ)(q2:∀k∈l,k<cs.length)(q3:ρ 68=some (.ref r))(q4:ρ 95=some (.int (a:Int))):Dd σ r a cs l ρ s
theorem Mq {a b k:Nat}(h:k∈List.range' a (b - a)):k<b:=by
 have h:=List.mem_range'_1.mp h
 rcases Nat.le_total a b with q |q
 ·exact Nat.add_sub_of_le q▸h.2
 ·rw[Nat.sub_eq_zero_of_le q]at h;exact absurd h.2 (Nat.not_lt.mpr h.1)
theorem H0 {r a b:Nat}{cs:List Int}(h:σ[r]?=some (.list (cs.map .int)))(hb:b≤cs.length)(gs:a<b)(hn:cs.length≤100)(hc:∀c∈cs,c≠2381):ao T0 (d+1) 172 [.ref r,.int (a:Int),.int (b:Int)] σ=some (.int (a:Int),σ):=by
 refine b5 rfl rfl rfl (ba (ab rfl) (fb (ac (ab rfl) (ac (bI (z:=.int ((b - 1:Nat):Int)) (ab rfl) ar (congrArg (fun i=>some (AV.int i,σ)) (Int.natCast_sub (Nat.succ_le_of_lt (Nat.zero_lt_of_lt gs))).symm)) ak)) (AJ (Nat.le_sub_one_of_lt gs) (Nat.le_trans (Nat.sub_le ..) (Nat.le_trans hb (Nat.le_trans hn (by decide))))) (xS (I:=Dd σ r a cs) ?_ ?_ ⟨rfl,fun k hk=>Nat.lt_of_lt_of_le (Mq hk) (Nat.le_trans (Nat.sub_le ..) hb),rfl,rfl⟩)))
 ·rintro k l ρ s ⟨rfl,hv,cj,ue⟩
  have hk:=hv k (List.mem_cons_self ..)
  refine⟨rfl,aW (t:=false) (b0 (t:=false) (ay (aQ (ab cj) (ab rfl) (DB h hk)) (dq rfl) (congrArg some (yv (hc cs[k] (List.getElem_mem hk))))) rfl rfl) rfl ?_⟩
  exact Dd.mk rfl (fun k hk=>hv k (List.mem_cons_of_mem _ hk)) cj ue
 ·rintro ρ s ⟨rfl,hv,cj,ue⟩
  exact⟨rfl,a6 (ab ue) (bE rfl rfl)⟩
noncomputable def tz (cs:List Int)(a b:Nat):List Nat:=(List.range' a (b - a)).filter fun k=>cs.getD k 0==2367
theorem MK {r a b:Nat}{cs:List Int}{s:St}{ρ:ag}{Q:AV→St→Prop}(h:s[r]?=some (.list (cs.map .int)))(hb:b≤cs.length)(gs:a<b)(hn:cs.length≤100)(cj:ρ 68=some (.ref r))(ue:ρ 95=some (.int (a:Int)))(B3:ρ 79=some (.int (b:Int)))
  (q:Q (.ref s.length) (s++[.list (cD (tz cs a b))])):WE (ao T0 d) (.lcomp [53] true .range [.v 95,.v 79] [.cmp .eq (.idx (.v 68) (.v 53)) (.g 17)] (.v 53)) ρ s Q:=by
 have hc:ca none [53] true (dA (ao T0 d) [.cmp .eq (.idx (.v 68) (.v 53)) (.g 17)] (.v 53)) ρ (cD (List.range' a (b - a))) s=some (cD (tz cs a b),s):=BC rfl fun k hk=>by
  have hk:k<cs.length:=Nat.lt_of_lt_of_le (Mq hk) hb
  rw[List.getD_eq_getElem?_getD,List.getElem?_eq_getElem hk]
  exact⟨_,rfl,xi (ay (aQ (ab cj) (ab rfl) (DB h hk)) (dq rfl) rfl) rfl (ab rfl)⟩
 have:=List.length_filter_le (fun k=>cs.getD k 0==2367) (List.range' a (b - a))
 rw[List.length_range']at this
 exact cO (aL (ac (ab ue) (ac (ab B3) ak)) (aA (AJ (Nat.le_of_lt gs) (Nat.le_trans hb (Nat.le_trans hn (by decide)))) (aZ hc ⟨by rw[cD,List.length_map,tz];exact Nat.lt_of_le_of_lt this (Nat.lt_of_le_of_lt (Nat.le_trans (Nat.sub_le ..) (Nat.le_trans hb hn)) (by decide)),q⟩)))
theorem H6 {b l x e:Nat}{bk:Bool}{rs:List Nat}{is:List In}(h:aD σ b l bk rs is)(hx:x<e)(he:e≤rs.length)(hn:rs.length≤90)(hc:∀i∈is,i.code≠2381)(RO:tz (is.map (·.code)) x e=[]):ao T0 (d+2) 181 [.ref b,.int (x:Int),.int (e:Int)] σ=some (.none,σ):=by
 have aX:=h.infos.len
 have cr:(is.map (·.code)).length=rs.length:=by rw[List.length_map,aX]
 have gu:(σ++[ae.list (is.map fun i=>AV.int i.code)])[σ.length]?=some (.list ((is.map (·.code)).map .int)):=by
  rw[List.map_map];exact aw
 refine xO (bM rfl rfl rfl (bS (gG h rfl (by lia) (fun r i e=>jG e) (ba (bR (ac (ab rfl) (ac (ab rfl) (ac (ab rfl) ak))) ⟨H0 gu (by lia) hx (by lia) fun c qe=>by obtain⟨i,hi,rfl⟩:=List.mem_map.mp qe;exact hc i hi⟩) (bS (MK gu (by lia) hx (by lia) rfl rfl rfl ?_))))))
 rw[RO]
 have ht (X:St):truthy (X++[ae.list (cD [])]) (.ref X.length)=some false:=by rw[M0,aw];rfl
 refine tG (b0 (ab rfl) (ht _) rfl) (ht _) (aW (gp (ab rfl) (ht _)) rfl (a6 ew ?_))
 rw[List.append_assoc]
 exact lQ rfl ⟨rfl,rfl⟩
end
section
variable {d:Nat}{σ:St}{Q:AV→St→Prop}
theorem Ou {b l r0 r1 r2:Nat}{bk:Bool}{i0 i1 i2:In}(h:aD σ b l bk [r0,r1,r2] [i0,i1,i2])(e0:i0.code=2325)(e1:i1.code=2367)(e2:i2.code=97)(BV:i0.cluster<i1.cluster)(BW:i1.cluster<i2.cluster)
  (q:∀σ' l' rs' is',aU b [r0,r1,r2] σ σ'→aD σ' b l' bk rs' is'→is'.map (·.code)=[2367,2325,97]→Q .none σ'):WC (ao T0 (d+3)) 181 [.ref b,.int ((0:Nat):Int),.int ((2:Nat):Int)] σ Q:=by
 have ui:[i0,i1,i2].map (·.code)=[2325,2367,97]:=by rw[List.map_cons,List.map_cons,List.map_cons,e0,e1,e2];rfl
 have gu:(σ++[ae.list ([i0,i1,i2].map fun i=>AV.int i.code)])[σ.length]?=some (.list (([2325,2367,97]:List Int).map .int)):=by
  rw[←ui,List.map_map];exact aw
 refine bM rfl rfl rfl (bS (gG h rfl (Nat.le_of_ble_eq_true rfl) (fun r i e=>jG e) (ba (bR (ac (ab rfl) (ac (ab rfl) (ac (ab rfl) ak))) ⟨H0 (a:=0) (b:=2) gu (by decide) (by decide) (by decide) (by decide)⟩) (bS (MK (a:=0) (b:=2) gu (by decide) (by decide) (by decide) rfl rfl rfl ?_)))))
 rw[show tz [2325,2367,97] 0 2=[1]from rfl]
 have eD:aD (σ++[ae.list ([i0,i1,i2].map fun i=>AV.int i.code)]++[ae.list (cD [1])]) b l bk [r0,r1,r2] [i0,i1,i2]:=h.app.app
 have iO:(σ++[ae.list ([i0,i1,i2].map fun i=>AV.int i.code)]++[ae.list (cD [1])])[(σ++[ae.list ([i0,i1,i2].map fun i=>AV.int i.code)]).length]?=some (.list [.int 1]):=aw
 have iK:aU b [r0,r1,r2] σ (σ++[ae.list ([i0,i1,i2].map fun i=>AV.int i.code)]++[ae.list (cD [1])]):=aU.app.trans aU.app
 generalize (σ++[ae.list ([i0,i1,i2].map fun i=>AV.int i.code)]).length=sp at iO
 generalize σ++[ae.list ([i0,i1,i2].map fun i=>AV.int i.code)]++[ae.list (cD [1])]=s at eD iO iK
 have ht:truthy s (.ref sp)=some true:=by rw[M0,iO];rfl
 refine tG (b0 (ab rfl) ht (ay (t:=false) (aQ (ab rfl) ar (c7 (k:=0) iO rfl)) (ab rfl) rfl)) rfl (aW (gp (ab rfl) ht) rfl (bt (ba (v:=.int 2) (bI (aQ (ab rfl) (gW ar) (uU (vs:=[]) iO)) ar rfl) (pR (ac (ab rfl) (ac (ab rfl) (ac (ab rfl) ak))) (H5 (d:=d) (s:=0) eD (i:=i0) (j:=i1) (rj:=r1) rfl rfl rfl (Int.le_of_lt BV) (fun k hk=>by cases hk;exact Int.ne_of_gt BW) (fun k h0 _=>absurd h0 (Nat.lt_irrefl 0)) fun s2 k2 g2=>?_)))))
 obtain Jd:=eD.buf
 obtain nd:=eD.nd
 simp only[List.nodup_cons,List.mem_cons,List.not_mem_nil,or_false,not_or]at nd
 have jJ:b∉[r0,r1,r2]:=cC eD.infos eD.buf rfl
 obtain uq:l∉[r0,r1,r2]:=cC eD.infos eD.row rfl
 obtain JM:sp∉[r0,r1,r2]:=cC eD.infos iO rfl
 simp only[List.mem_cons,List.not_mem_nil,or_false,not_or]at jJ uq JM
 have up:∀{r:Nat} {o:ae},s[r]?=some o→r≠r1→s2[r]?=some o:=fun{r o} e aY=>(k2.2 r (cu e) aY).trans e
 refine tK eD.infos fun x0 x1 x2 _=>?_
 have R2:aD s2 b l bk [r0,r1,r2] [i0,fq i1 i0.cluster,i2]:=by
  refine⟨up eD.buf jJ.2.1,up eD.row uq.2.1,⟨up x0 nd.1.1,g2,up x2 fun e=>nd.2.1 e.symm,trivial⟩,eD.nd,fun i hi=>?_⟩
  simp only[List.mem_cons,List.not_mem_nil,or_false]at hi
  rcases hi with rfl |rfl |rfl
  ·exact eD.gl i (by simp)
  ·have:=eD.gl i1 (by simp)
   unfold fq
   split<;>exact this
  ·exact eD.gl i (by simp)
 obtain jO:=up iO JM.2.1
 have Jw:aU b [r0,r1,r2] σ s2:=⟨Nat.le_trans iK.1 k2.1,fun r hr hb hm=>by
  rw[k2.2 r (Nat.lt_of_lt_of_le hr iK.1) (fun e=>hm (by simp[e]))]
  exact iK.2 r hr hb hm⟩
 refine bS (cO (aL (ac (ab rfl) ak) (aA (cx jO) (aZ (fS (l:=[()]) (w:=fun _=>.int 1) (g:=fun _=>.ref r1) (bg jO) fun _ _=>⟨_,rfl,eJ (aQ (aM (ab rfl) R2.buf rfl) (ab rfl) (c7 (k:=1) R2.row rfl))⟩) ⟨by exact Nat.le_of_ble_eq_true rfl,?_⟩))))
 refine bS (cO (aL (ac (ab rfl) (ac (ab rfl) ak)) (aA (AJ (a:=0) (b:=2) (by decide) (by decide)) (aZ (BC (p:=fun k:Nat=>!((1:Int)==k)) (g:=fun k=>bif k==0 then .ref r0 else .ref r1) rfl fun k hk=>?_) ⟨by exact Nat.le_of_ble_eq_true rfl,?_⟩))))
 ·have hk:=(List.mem_range'_1.mp hk).2
  rcases(by lia:k=0∨k=1)with rfl |rfl
  ·exact⟨_,rfl,xi (ay (t:=true) (ab rfl) (ab rfl) (congrArg (Option.map (!·)) (Dk (t:=false) (al jO) rfl))) rfl (aQ (aM (ab rfl) (al R2.buf) rfl) (ab rfl) (c7 (k:=0) (al R2.row) rfl))⟩
  ·exact⟨_,rfl,xi (ay (t:=false) (ab rfl) (ab rfl) (congrArg (Option.map (!·)) (Dk (t:=true) (al jO) rfl))) rfl (aQ (aM (ab rfl) (al R2.buf) rfl) (ab rfl) (c7 (k:=1) (al R2.row) rfl))⟩
 have R3:aD (s2++[ae.list [.ref r1]]++[ae.list [.ref r0]]) b l bk [r0,r1,r2] [i0,fq i1 i0.cluster,i2]:=R2.app.app
 have Jx:aU b [r0,r1,r2] σ (s2++[ae.list [.ref r1]]++[ae.list [.ref r0]]):=Jw.trans (aU.app.trans aU.app)
 have t1:(s2++[ae.list [.ref r1]]++[ae.list [.ref r0]])[s2.length]?=some (.list [.ref r1]):=al aw
 have t2:(s2++[ae.list [.ref r1]]++[ae.list [.ref r0]])[(s2++[ae.list [.ref r1]]).length]?=some (.list [.ref r0]):=aw
 show WB _ _ _ (s2++[ae.list [.ref r1]]++[ae.list [.ref r0]]) _
 generalize s2++[ae.list [.ref r1]]++[ae.list [.ref r0]]=s3 at R3 Jx t1 t2
 refine cV (tI (pM (pM (pM (jm (aJ (aM (ab rfl) R3.buf rfl) (aJ ew (aJ (ab rfl) (aZ (s:=s3++[.list []]) (pE (j:=0) (k:=0) R3.row rfl jz) (aJ (ab rfl) (aZ (s:=s3++[.list []]++[.list [.ref r1]]) (lO aw (al t1) (by exact Nat.le_of_ble_eq_true rfl)) (aJ (ab rfl) (aZ (s:=s3++[.list []]++[.list [.ref r1]]++[.list [.ref r1,.ref r0]]) (lO aw (al (al t2)) (by exact Nat.le_of_ble_eq_true rfl)) ?_)))))))))))))
 have R4:aD (s3++[ae.list []]++[ae.list [.ref r1]]++[ae.list [.ref r1,.ref r0]]) b l bk [r0,r1,r2] [i0,fq i1 i0.cluster,i2]:=R3.app.app.app
 have Jy:aU b [r0,r1,r2] σ (s3++[ae.list []]++[ae.list [.ref r1]]++[ae.list [.ref r1,.ref r0]]):=Jx.trans (aU.app.trans (aU.app.trans aU.app))
 have ad2l:=aw (σ:=s3++[ae.list []]++[ae.list [.ref r1]]) (o:=ae.list [.ref r1,.ref r0])
 generalize (s3++[ae.list []]++[ae.list [.ref r1]]).length=x4 at ad2l
 generalize s3++[ae.list []]++[ae.list [.ref r1]]++[ae.list [.ref r1,.ref r0]]=s4 at R4 Jy ad2l
 have R5:aD (s4++[ae.list [.ref r2]]++[ae.list [.ref r1,.ref r0,.ref r2]]) b l bk [r0,r1,r2] [i0,fq i1 i0.cluster,i2]:=R4.app.app
 have Cq:aU b [r0,r1,r2] σ (s4++[ae.list [.ref r2]]++[ae.list [.ref r1,.ref r0,.ref r2]]):=Jy.trans (aU.app.trans aU.app)
 have l5:=aw (σ:=s4++[ae.list [.ref r2]]) (o:=ae.list [.ref r1,.ref r0,.ref r2])
 have ln:(s4++[ae.list [.ref r2]]).length≠b:=Nat.ne_of_gt (Nat.lt_trans (cu R4.buf) iT)
 refine jm (aJ (aM (ab rfl) R4.buf rfl) (aJ (ab rfl) (aJ ew (aZ (s:=s4++[.list [.ref r2]]) (pE (j:=2) (k:=3) R4.row jz rfl) (aZ (s:=s4++[.list [.ref r2]]++[.list [.ref r1,.ref r0,.ref r2]]) (lO (al ad2l) aw (by exact Nat.le_of_ble_eq_true rfl)) (aJ (ab rfl) ⟨_,_,_,rfl,R5.buf,rfl,by exact Nat.le_of_ble_eq_true rfl,?_⟩))))))
 generalize (s4++[ae.list [.ref r2]]).length=x5 at l5 ln
 generalize s4++[ae.list [.ref r2]]++[ae.list [.ref r1,.ref r0,.ref r2]]=s5 at R5 Cq l5
 refine tK R5.infos fun y0 y1 y2 _=>?_
 have nb:∀r∈[r0,r1,r2],r≠b:=fun r hr e=>by
  subst e
  simp only[List.mem_cons,List.not_mem_nil,or_false]at hr
  lia
 refine lP h (l':=x5) (rs':=[r1,r0,r2]) (is':=[fq i1 i0.cluster,i0,i2]) (bk':=bk) ⟨dy R5.buf,?_,⟨?_,?_,?_,trivial⟩,?_,?_⟩ ⟨?_,fun r hr hb hm=>?_⟩ fun σ' l' rs' k1 k2=>q _ _ _ _ k1 k2 ?_
 ·rw[List.getElem?_set_ne (by exact fun e=>ln e.symm)];exact l5
 ·rw[List.getElem?_set_ne (by exact fun e=>nb r1 (by simp) e.symm)];exact y1
 ·rw[List.getElem?_set_ne (by exact fun e=>nb r0 (by simp) e.symm)];exact y0
 ·rw[List.getElem?_set_ne (by exact fun e=>nb r2 (by simp) e.symm)];exact y2
 ·have nd:=R5.nd
  simp only[List.nodup_cons,List.mem_cons,List.not_mem_nil,or_false,not_or,not_false_eq_true,List.nodup_nil,and_true]at nd ⊢
  exact⟨⟨fun e=>nd.1.1 e.symm,nd.2⟩,nd.1.2⟩
 ·intro i hi
  refine R5.gl i ?_
  simp only[List.mem_cons,List.not_mem_nil,or_false]at hi ⊢
  rcases hi with rfl |rfl |rfl<;>simp
 ·rw[List.length_set];exact Cq.1
 ·rw[List.getElem?_set_ne (by exact fun e=>hb e.symm)];exact Cq.2 r hr hb hm
 ·have:(fq i1 i0.cluster).code=i1.code:=by unfold fq;split<;>rfl
  simp[this,e0,e1,e2]
end
noncomputable def AT (k m:Nat):List (Nat×Nat):=(List.range' k m).map fun k=>(k,k+1)
theorem VD {ks:List Nat}(hk:∀j,j<ks.length→ks.getD j 9=0∨ks.getD j 9=12)(m k:Nat)(h:k+m=ks.length):xp ks k (AT k m):=by
 induction m generalizing k with
 |zero=>exact h
 |succ m ih=>
  unfold AT
  rw[List.range'_succ,List.map_cons]
  have:k<ks.length:=by lia
  exact⟨rfl,Nat.lt_succ_self _,this,.inl ⟨rfl,hk k this⟩,ih (k+1) (by lia)⟩
noncomputable def Uq:List S:=[.asg (.name 121) (.and (.v 102) (.call 116 [.v 68,.v 54])),.iff (.v 121) [.expr (.call 206 [.v 57,.v 54])] [],.expr (.call 181 [.v 57,.v 54,.ife (.v 121) (.bin .add (.v 79) (.ci 1)) (.v 79)])]
section
variable {d:Nat}{σ:St}{Q:AV→St→Prop}
theorem Ft {cf:Cf}{x e b:Nat}{ρ:ag}{QF:Fl→ag→St→Prop}(dI:ρ 54=some (.int (x:Int)))(B3:ρ 79=some (.int (e:Int)))(h57:ρ 57=some (.ref b))(xX:ρ 102=some (.bool false))
  (q:WC cf 181 [.ref b,.int (x:Int),.int (e:Int)] σ fun v s=>QF .next (aF ρ 121 (.bool false)) s):WB cf Uq ρ σ QF:=by
 exact ba (b0 (ab xX) rfl rfl) (aW (ab rfl) rfl (bt (pR (ac (ab h57) (ac (ab dI) (ac (ey (ab rfl) rfl (ab B3)) ak))) q)))
inductive De (σ:St)(b n:Nat)(l:List (Nat×Nat))(ρ:ag)(s:St):Prop
 |mk (q1:s=σ)(q2:∀p∈l,p.2=p.1+1∧p.1<n)(q3:ρ 57=some (.ref b))(q4:ρ 102=some (.bool false)):De σ b n l ρ s
theorem OI {b l:Nat}{bk:Bool}{rs:List Nat}{is:List In}(h:aD σ b l bk rs is)(hn:rs.length≤40)(hk:∀i∈is,cS i.code=0∨cS i.code=12):ao T0 (d+5) 211 [.ref b] σ=some (.none,σ):=by
 have aX:=h.infos.len
 have gu:(σ++[ae.list (is.map fun i=>AV.int i.code)])[σ.length]?=some (.list ((is.map (·.code)).map .int)):=by
  rw[List.map_map];exact aw
 have cr:((is.map (·.code)).map cS).length=is.length:=by rw[List.length_map,List.length_map]
 have Rm (j:Nat) (hj:j<((is.map (·.code)).map cS).length):((is.map (·.code)).map cS).getD j 9=0∨((is.map (·.code)).map cS).getD j 9=12:=by
  have Jv:j<is.length:=cr▸hj
  rw[List.getD_eq_getElem?_getD,List.getElem?_map,List.getElem?_map,List.getElem?_eq_getElem Jv]
  exact hk _ (List.getElem_mem Jv)
 refine xO (tF (fn:=xl) rfl rfl (Nat.le_of_ble_eq_true rfl) (Nat.le_of_ble_eq_true rfl) (bS (gG h rfl (by lia) (fun r i e=>jG e) (gK (bu (bG (aL (ac (ab rfl) ak) (Id (d:=d) (segs:=AT 0 is.length) gu (by rw[List.length_map];lia) (VD Rm is.length 0 ((Nat.zero_add _).trans cr.symm)) (by rw[AT,List.length_map,List.length_range'];lia) fun m f hf hl=>a8 (aA (AK hl) ?_)))))))))
 have hR:aD (σ++[ae.list (is.map fun i=>AV.int i.code)]++m) b l bk rs is:=h.app.app
 rw[←List.map_reverse]
 refine fV (w:=dN) (B:=fun p ρ=>aF (aF ρ 54 (.int (p.1:Int))) 79 (.int (p.2:Int))) (I:=De (σ++[ae.list (is.map fun i=>AV.int i.code)]++m) b is.length) (fun _ _=>rfl) ?_ ?_ ⟨rfl,fun p hp=>?_,rfl,rfl⟩
 ·rintro⟨k,e⟩ rest ρ s ⟨rfl,hv,h57,xX⟩
  obtain⟨ee,fX⟩:e=k+1∧k<is.length:=hv (k,e) (List.mem_cons_self ..)
  subst ee
  have e9:is[k]?=some is[k]:=List.getElem?_eq_getElem fX
  refine⟨bg hl,Ft (x:=k) (e:=k+1) (b:=b) rfl rfl h57 xX (jk (H6 (d:=d+2) hR (Nat.lt_succ_self k) (by lia) (by lia) (fun i hi e=>?_) ?_) ?_)⟩
  ·have:=hk i hi
   rw[e]at this
   revert this;decide
  ·have aY:is[k].code≠2367:=fun e'=>by
    have:=hk is[k] (List.getElem_mem fX)
    rw[e']at this
    revert this;decide
   rw[tz,Nat.add_sub_cancel_left,List.range'_one,List.filter_cons,List.getD_eq_getElem?_getD,List.getElem?_map,e9]
   exact if_neg (ne_true_of_eq_false (yv aY))
  ·exact De.mk rfl (fun v b6=>hv v (List.mem_cons_of_mem _ b6)) h57 xX
 ·rintro ρ s ⟨rfl,_,_,_⟩
  refine⟨bg hl,?_⟩
  rw[List.append_assoc]
  exact Bj ⟨rfl,rfl⟩
 ·refine am (List.mem_map.mp (List.mem_reverse.mp hp)) fun k fX e29=>?_
  subst e29
  have:=List.mem_range'_1.mp fX
  exact⟨rfl,by dsimp only;lia⟩
theorem OJ {b l r0 r1 r2:Nat}{bk:Bool}{i0 i1 i2:In}(h:aD σ b l bk [r0,r1,r2] [i0,i1,i2])(e0:i0.code=2325)(e1:i1.code=2367)(e2:i2.code=97)(BV:i0.cluster<i1.cluster)(BW:i1.cluster<i2.cluster)
  (q:∀σ' l' rs' is',aU b [r0,r1,r2] σ σ'→aD σ' b l' bk rs' is'→is'.map (·.code)=[2367,2325,97]→Q .none σ'):WC (ao T0 (d+5)) 211 [.ref b] σ Q:=by
 have ui:[i0,i1,i2].map (·.code)=[2325,2367,97]:=by rw[List.map_cons,List.map_cons,List.map_cons,e0,e1,e2];rfl
 have gu:(σ++[ae.list ([i0,i1,i2].map fun i=>AV.int i.code)])[σ.length]?=some (.list (([2325,2367,97]:List Int).map .int)):=by
  rw[←ui,List.map_map];exact aw
 have yd:([2325,2367,97]:List Int).map cS=[2,10,0]:=by decide
 refine tF (fn:=xl) rfl rfl (Nat.le_of_ble_eq_true rfl) (Nat.le_of_ble_eq_true rfl) (bS (gG h rfl (by exact Nat.le_of_ble_eq_true rfl) (fun r i e=>jG e) (gK (bu (bG (aL (ac (ab rfl) ak) (Id (d:=d) (segs:=[(0,2),(2,3)]) gu (by decide) (by rw[yd];exact⟨rfl,by decide,by decide,.inr ⟨rfl,rfl,rfl⟩,rfl,by decide,by decide,.inl ⟨rfl,.inl rfl⟩,rfl⟩) (by decide) fun m f hf hl=>a8 (aA (AK hl) ?_))))))))
 have hR:aD (σ++[ae.list ([i0,i1,i2].map fun i=>AV.int i.code)]++m) b l bk [r0,r1,r2] [i0,i1,i2]:=h.app.app
 have iJ:aU b [r0,r1,r2] σ (σ++[ae.list ([i0,i1,i2].map fun i=>AV.int i.code)]++m):=aU.app.trans aU.app
 have hf:σ.length≤f:=Nat.le_trans co hf
 generalize σ++[ae.list ([i0,i1,i2].map fun i=>AV.int i.code)]++m=s0 at hR iJ hl
 refine t9 (bg hl) rfl (Ft (x:=2) (e:=3) (b:=b) rfl rfl rfl rfl (jk (H6 (d:=d+2) hR (by decide) (by exact Nat.le_of_ble_eq_true rfl) (by exact Nat.le_of_ble_eq_true rfl) (fun i hi=>?_) (by rw[ui];rfl)) ?_))
 ·have:i.code∈[i0,i1,i2].map (·.code):=List.mem_map_of_mem hi
  rw[ui]at this
  exact fun e=>absurd (e▸this) (by decide)
 refine t9 (bg hl) rfl (Ft (x:=0) (e:=2) (b:=b) rfl rfl rfl rfl (Ou (d:=d+1) hR e0 e1 e2 BV BW fun s l' rs' is' k1 k2 k3=>?_))
 exact BQ (bg (k1.get hl (Nat.ne_of_gt (Nat.lt_of_lt_of_le (cu h.buf) hf)) fun hm=>Nat.lt_irrefl _ (Nat.lt_of_lt_of_le (h.infos.lt hm) hf))) (lP h k2 (iJ.trans k1) fun σ' l' rs' a1 a2=>q _ _ _ _ a1 a2 k3)
end
noncomputable def VU:S:=.iff (.attr (.v 203) 114) [.expr (.call 179 [.v 57,.v 60,.call 85 [.v 203,.cs 216]])] []
noncomputable def VV:S:=.iff (.cmp .eq (.attr (.v 203) 218) (.cs 52)) [.expr (.call 128 [.v 57,.bi .dict [.lcomp [86] true .seq [.g 7] [] (.tup [.v 86,.call 85 [.v 203,.v 86]])]])] []
noncomputable def Mw:S:=.iff (.cmp .eq (.attr (.v 203) 218) (.cs 73)) [.expr (.call 211 [.v 57])] []
noncomputable def d0 (bk:Bool)(is:List In):List In:=if bk then is.map (mt 32)else is
noncomputable def iR (tag:Nat)(is:List In):List In:=if tag=52 then dh is (dH (gJ is))else is
theorem aU.refl {b:Nat}{rs:List Nat}{σ:St}:aU b rs σ σ:=⟨Nat.le_refl _,fun _ _ _ _=>rfl⟩
theorem yC {b l pl tag:Nat}{bk bk':Bool}{rs:List Nat}{is:List In}{σ s:St}(h:aD σ b l bk rs is)(k:aU b rs σ s)(hC:fw σ pl tag bk'):fw s pl tag bk':=
 ir hC fun x y z h1 h2=>⟨x,y,z,h.up k h1 rfl rfl,h.up k h2 rfl rfl⟩
section
variable {d:Nat}{σ:St}{Q:AV→St→Prop}{QF:Fl→ag→St→Prop}{ρ:ag}
theorem Pv {r:Nat}{us:List AV}{p:AV×St}(h:σ[r]?=some (.list us))(e:BF σ us=some p):dc .dict [.ref r] σ=some p:=by
 show((σ[r]?).bind bX).bind _=_
 rw[h];exact e
theorem Mx {b l cm pl tag:Nat}{bk:Bool}{rs:List Nat}{is:List In}(h:aD σ b l bk rs is)(hC:CM σ cm)(hP:fw σ pl tag bk)(fC:∀i∈is,i.code∈iA)(h57:ρ 57=some (.ref b))(h60:ρ 60=some (.ref cm))(iD:ρ 203=some (.ref pl))
  (q:∀s,aU b rs σ s→aD s b l bk rs (d0 bk is)→QF .next ρ s):WS (ao T0 (d+4)) VU ρ σ QF:=
 ir hP fun mk st ps h1 h2=>aJ (aM (ab iD) h1 rfl) (aA rfl (by
 cases bk with
 |false=>exact bA rfl (q σ aU.refl h)
 |true=>exact bT rfl (pR (ac (ab h57) (ac (ab h60) (ac (bR (ac (ab iD) (ac aT ak)) ⟨HX (d:=d+3) hP (by decide)⟩) ak))) (Ot (m:=32) h hC fC q))))
noncomputable def SJ:List AV:=[127,111,174,82].map fun t=>.tup [.str t,.int (xD t)]
theorem W8:∀t∈[127,111,174,82],t∈[82,111,127,174,216]:=by decide
theorem My {b l pl tag:Nat}{bk:Bool}{rs:List Nat}{is:List In}(h:aD σ b l bk rs is)(hP:fw σ pl tag bk)(hn:rs.length≤90)(h57:ρ 57=some (.ref b))(iD:ρ 203=some (.ref pl))
  (q:∀s is',aU b rs σ s→aD s b l bk rs is'→is'.map dW=(iR tag is).map dW→QF .next ρ s):WS (ao T0 (d+4)) VV ρ σ QF:=
 ir hP fun mk st ps h1 h2=>aJ (ay (t:=tag==52) (aM (ab iD) h1 rfl) aT rfl) (aA rfl (by
 by_cases z:tag=52
 ·subst z
  refine bT rfl (jj (bG (bu (aJ (ab h57) (bu (lG (bu (cO (aL (ac (dq rfl) ak) (aA (v:=([127,111,174,82].map .str,none)) rfl ?_))))))))))
  refine aZ (fS (g:=fun t=>.tup [.str t,.int (xD t)]) rfl fun t ht=>⟨_,rfl,eJ (cG (ac (ab rfl) (ac (bR (ac (ab iD) (ac (ab rfl) ak)) ⟨HX (d:=d+3) hP (W8 t ht)⟩) ak)))⟩) ⟨Nat.le_of_ble_eq_true rfl,a8 (aZ (s:=σ++[.list SJ]++[.dict yB]) (Pv aw rfl) (a8
   (Ol (d:=d) h.app.app aw hn fun s is' k1 k2 k3=>q s is' (aU.app.trans (aU.app.trans k1)) k2 (by rw[iR,if_pos rfl];exact k3))))⟩
 ·exact bA (beq_eq_false_iff_ne.mpr z) (q σ is aU.refl h (by rw[iR,if_neg z]))))
theorem VW {pl tag:Nat}{bk:Bool}(hP:fw σ pl tag bk)(iD:ρ 203=some (.ref pl))(ht:tag≠73)(q:QF .next ρ σ):WS (ao T0 d) Mw ρ σ QF:=
 ir hP fun mk st ps h1 h2=>aJ (ay (t:=tag==73) (aM (ab iD) h1 rfl) aT rfl) (aA rfl (bA (beq_eq_false_iff_ne.mpr ht) q))
theorem VX {pl b:Nat}{bk:Bool}(hP:fw σ pl 73 bk)(iD:ρ 203=some (.ref pl))(h57:ρ 57=some (.ref b))(q:WC (ao T0 d) 211 [.ref b] σ fun _ s=>QF .next ρ s):WS (ao T0 d) Mw ρ σ QF:=
 ir hP fun mk st ps h1 h2=>aJ (ay (t:=true) (aM (ab iD) h1 rfl) aT rfl) (aA rfl (bT rfl (pR (ac (ab h57) ak) q)))
theorem Ia {b l cm pl tag:Nat}{bk:Bool}{rs:List Nat}{is:List In}(h:aD σ b l bk rs is)(hC:CM σ cm)(hP:fw σ pl tag bk)(hn:rs.length≤40)(fC:∀i∈is,i.code∈iA)(ht:tag≠73)
  (q:∀σ' l' rs' is',aU b rs σ σ'→aD σ' b l' bk rs' is'→is'.map dW=(iR tag (d0 bk is)).map dW→Q .none σ'):WC (ao T0 (d+5)) 225 [.ref b,.ref cm,.ref pl] σ Q:=
 bM rfl rfl rfl (cV (Mx h hC hP fC rfl rfl rfl fun s k1 k2=>
  have uf:=yC h k1 hP
  cV (My k2 uf (Nat.le_trans hn (by decide)) rfl rfl fun s2 is2 k3 k4 k5=>
   cV (VW (yC k2 k3 uf) rfl ht (lP h k4 (k1.trans k3) fun σ' l' rs' a1 a2=>q _ _ _ _ a1 a2 k5)))))
theorem Ib {b l cm pl:Nat}{bk:Bool}{rs:List Nat}{is:List In}(h:aD σ b l bk rs is)(hC:CM σ cm)(hP:fw σ pl 73 bk)(fC:∀i∈is,i.code∈iA)
  (q:∀s is2,aD s b l bk rs is2→aU b rs σ s→is2.map dW=(d0 bk is).map dW→WC (ao T0 (d+5)) 211 [.ref b] s fun v σ'=>∃l' rs' is',aU b rs s σ'∧aD σ' b l' bk rs' is'∧(∀σ' l' rs',aU b rs σ σ'→aD σ' b l' bk rs' is'→Q .none σ'))(hn:rs.length≤40):WC (ao T0 (d+6)) 225 [.ref b,.ref cm,.ref pl] σ Q:=
 bM rfl rfl rfl (cV (Mx (d:=d+1) h hC hP fC rfl rfl rfl fun s k1 k2=>
  have uf:=yC h k1 hP
  cV (My (d:=d+1) k2 uf (Nat.le_trans hn (by decide)) rfl rfl fun s2 is2 k3 k4 k5=>
   cV (VX (yC k2 k3 uf) rfl rfl (WC.mono (q s2 is2 k4 (k1.trans k3) (k5.trans rfl)) fun v σ' hh=>jp hh fun l' rs' is' a1 a2 a3=>lP h a2 ((k1.trans k3).trans a1) a3)))))
end
noncomputable def jg (ts:List Nat):List Nat→List (Nat×Nat)
 |a::b::l=>(if ek (b4 ts a)&&dG (b4 ts b)then[(a,b)]else[])++jg ts (b::l)
 |_=>[]
noncomputable def lB (ts:List Nat)(L:List Nat):List Nat:=L.filter fun k=>b4 ts k !=25
theorem Ds (ts:List Nat):∀(L:List Nat) (o:Option Nat) (acc:List (Nat×Nat)),(L.foldl (jQ ts) (o,acc)).2=acc++jg ts (o.toList++lB ts L)
 | [],none,acc=>(List.append_nil acc).symm
 | [],some a,acc=>(List.append_nil acc).symm
 |k::L,o,acc=>by
  by_cases z:b4 ts k=25
  ·rw[List.foldl_cons,jQ,if_pos z,Ds ts L,lB,lB,List.filter_cons_of_neg (by rw[z];decide)]
  ·rw[List.foldl_cons,jQ,if_neg z,Ds ts L,lB,lB,List.filter_cons_of_pos (p:=fun k=>b4 ts k !=25) (bne_iff_ne.mpr z)]
   cases o with
   |none=>rfl
   |some a=>
    show(if _ then _ else _)++jg ts (k::lB ts L)=acc++((if _ then _ else _)++jg ts (k::lB ts L))
    split
    ·rw[List.append_assoc]
    ·rfl
theorem tm (ts:List Nat):∀{L:List Nat} {p:Nat×Nat},p∈jg ts L↔∃j:Nat,L[j]?=some p.1∧L[j+1]?=some p.2∧(ek (b4 ts p.1)&&dG (b4 ts p.2))=true
 | [],p=>⟨nofun,fun⟨j,h,_⟩=>aK h⟩
 | [a],p=>⟨nofun,fun⟨j,_,h,_⟩=>aK h⟩
 |a::b::l,(x,y)=>by
  rw[jg,List.mem_append]
  refine⟨fun h=>h.elim (fun h=>?_) fun h=>?_,fun⟨j,h1,h2,h3⟩=>?_⟩
  ·split at h
   ·cases List.mem_singleton.mp h;exact⟨0,rfl,rfl,‹_›⟩
   ·cases h
  ·have⟨j,h⟩:=(tm ts).mp h
   exact⟨j+1,h⟩
  ·cases j with
   |zero=>cases h1;cases h2;exact .inl (by rw[if_pos h3];exact List.mem_singleton_self _)
   |succ j=>exact .inr ((tm ts).mpr ⟨j,h1,h2,h3⟩)
noncomputable def cU (ts:List Nat):List Nat:=lB ts (List.range ts.length)
theorem MH (ts:List Nat):(cU ts).Nodup:=List.Pairwise.filter _ List.nodup_range
theorem FO {ts:List Nat}{k:Nat}(h:k∈cU ts):k<ts.length:=List.mem_range.mp (List.mem_filter.mp h).1
noncomputable def jw (ts:List Nat)(j:Nat):Bool:=match j with
 |0=>false
 |i+1=>ek (b4 ts ((cU ts).getD i 0))
noncomputable def gS (ts:List Nat)(j k:Nat):Bool:=match (cU ts)[j+1]? with
 |some y=>ek (b4 ts k)&&dG (b4 ts y)
 |none=>false
theorem UU {ts:List Nat}{j k:Nat}(h:(cU ts)[j]?=some k):(jg ts (cU ts)).any (fun p=>p.1==k)=gS ts j k:=by
 refine Bool.eq_iff_iff.mpr ⟨fun q=>?_,fun q=>?_⟩
 ·obtain⟨p,hp,e⟩:=List.any_eq_true.mp q
  obtain⟨i,h1,h2,h3⟩:=(tm ts).mp hp
  rw[eq_of_beq e]at h1 h3
  cases(List.getElem?_inj (List.getElem?_eq_some_iff.mp h1).1 (MH ts)).mp (h1.trans h.symm)
  rw[gS,h2];exact h3
 ·rw[gS]at q
  cases e:(cU ts)[j+1]? with
  |none=>rw[e]at q;cases q
  |some y=>rw[e]at q;exact List.any_eq_true.mpr ⟨(k,y),(tm ts).mpr ⟨j,h,e,q⟩,beq_self_eq_true k⟩
theorem UT {ts:List Nat}{j k:Nat}(h:(cU ts)[j]?=some k)(hb:dG (b4 ts k)=true):(jg ts (cU ts)).any (fun p=>p.2==k)=jw ts j:=by
 refine Bool.eq_iff_iff.mpr ⟨fun q=>?_,fun q=>?_⟩
 ·obtain⟨p,hp,e⟩:=List.any_eq_true.mp q
  obtain⟨i,h1,h2,h3⟩:=(tm ts).mp hp
  rw[eq_of_beq e]at h2
  cases(List.getElem?_inj (List.getElem?_eq_some_iff.mp h2).1 (MH ts)).mp (h2.trans h.symm)
  rw[jw,List.getD_eq_getElem?_getD,h1];exact(bo h3).1
 ·cases j with
  |zero=>cases q
  |succ i=>
   have e:=List.getElem?_eq_getElem (Nat.lt_of_succ_lt (List.getElem?_eq_some_iff.mp h).1)
   rw[jw,List.getD_eq_getElem?_getD,e]at q
   exact List.any_eq_true.mpr ⟨(_,k),(tm ts).mpr ⟨i,e,h,Bool.and_eq_true_iff.mpr ⟨q,hb⟩⟩,beq_self_eq_true k⟩
theorem Qd {ts:List Nat}{j k:Nat}(h:(cU ts)[j]?=some k):fB ts k=if dG (b4 ts k)then ua (jw ts j) (gS ts j k)else 0:=by
 rw[fB,show(d5 ts ts.length).2=jg ts (cU ts)from Ds ts _ none [],UU h]
 split
 ·rw[UT h ‹_›]
 ·rfl
theorem Qc {ts:List Nat}{k:Nat}(hk:k<ts.length)(h:k∉cU ts):fB ts k=0:=by
 rw[fB,Decidable.byContradiction fun z:¬b4 ts k=25=>h (List.mem_filter.mpr ⟨List.mem_range.mpr hk,bne_iff_ne.mpr z⟩)]
 rfl
noncomputable def ej:List Int:=[1576,1575,1611,8205,1576,40,41,60,1600,97]
noncomputable def uI:List (AV×AV):=[(.int 1576,.str 5),(.int 1575,.str 22),(.int 1611,.str 25),(.int 1600,.str 2)]
theorem Nu {v:AV}{n:Nat}(h:tT v=some n):v=.str n:=by
 cases v<;>first |exact congrArg _ (Option.some.inj h) |exact aK h
theorem SK (c:Int)(hc:c∈ej):(bc uI (.int c)).getD (bif c==8205 then .str 2 else .str 29)=.str (dg c):=
 Nu (eq_of_beq (List.all_eq_true.mp (show(ej.all fun c=>tT ((bc uI (.int c)).getD (bif c==8205 then .str 2 else .str 29))==some (dg c))=true by decide+kernel) c hc))
noncomputable def FD (ts:List Nat)(done:List Nat):List Nat:=(List.range ts.length).map fun x=>if x∈done then fB ts x else 0
theorem BK {ts done:List Nat}:(br (FD ts done)).length=ts.length:=by rw[br,List.length_map,FD,List.length_map,List.length_range]
theorem P5 {ts done:List Nat}{k:Nat}(hk:k<ts.length):(br (FD ts done)).set k (.str (fB ts k))=br (FD ts (done++[k])):=by
 refine List.ext_getElem (by rw[List.length_set,BK,BK]) fun i h1 h2=>?_
 rw[List.getElem_set]
 simp only[br,FD,List.getElem_map,List.getElem_range,List.mem_append,List.mem_singleton]
 by_cases e:k=i
 ·rw[if_pos e,if_pos (.inr e.symm),e]
 ·rw[if_neg e,ite_congr (propext (or_iff_left fun q:i=k=>e q.symm)) (fun _=>rfl) fun _=>rfl]
theorem P3 {ts done:List Nat}{k:Nat}(h:fB ts k=0):FD ts (done++[k])=FD ts done:=by
 refine List.map_congr_left fun x _=>?_
 by_cases e:x=k
 ·rw[e,h,ite_self,ite_self]
 ·exact ite_congr (propext ⟨fun m=>(List.mem_append.mp m).elim id fun m=>absurd (List.mem_singleton.mp m) e,List.mem_append_left _⟩) (fun _=>rfl) fun _=>rfl
theorem P0 (ts:List Nat):FD ts (cU ts)=dH ts:=by
 refine List.map_congr_left fun x hx=>?_
 split
 ·rfl
 ·exact(Qc (List.mem_range.mp hx) ‹_›).symm
theorem P4 (ts:List Nat):FD ts []=ts.map fun _=>0:=by
 rw[FD,List.map_congr_left (g:=fun _=>0) fun _ _=>if_neg List.not_mem_nil,List.map_const',List.map_const',List.length_range]
theorem xf (a b:Nat):(a==b)=(b==a):=Bool.eq_iff_iff.mpr (by rw[beq_iff_eq,beq_iff_eq];exact eq_comm)
theorem KB (t:Nat):fZ (.str t) [.str 5,.str 2]=some (ek t):=by
 show some (5==t||(2==t||false))=some (t==5||t==2)
 rw[xf 5,xf 2,Bool.or_false]
theorem KA (t:Nat):fZ (.str t) [.str 5,.str 22,.str 2]=some (dG t):=by
 show some (5==t||(22==t||(2==t||false)))=some (t==5||(t==2||t==22))
 rw[xf 5,xf 2,xf 22,Bool.or_false,Bool.or_comm (t==22)]
theorem Ka {σ:St}{r:Nat}{ns:List Nat}(h:σ[r]?=some (.list (cD ns))){j:Nat}(hj:j<ns.length):eh σ (.ref r) (.int (j:Int))=some (.int ((ns[j]:Nat):Int)):=
 c7 h (by rw[cD,List.getElem?_map,List.getElem?_eq_getElem hj];rfl)
noncomputable def BR:List (AV×AV):=[(.tup [.bool false,.bool false],.str 127),(.tup [.bool false,.bool true],.str 111),(.tup [.bool true,.bool true],.str 174),(.tup [.bool true,.bool false],.str 82)]
theorem Qn (a b:Bool):cR BR (.tup [.bool a,.bool b])=true∧bc BR (.tup [.bool a,.bool b])=some (.str (ua a b)):=by
 cases a<;>cases b<;>exact⟨rfl,rfl⟩
section
variable {d:Nat}{σ:St}{Q:AV→St→Prop}
theorem Om (q:Q (.ref σ.length) (σ++[.dict uI])):WC (ao T0 (d+1)) 44 [] σ Q:=bM rfl rfl rfl (eK (gN (aL ⟨rfl⟩ (aA (v:=uI) rfl (iw q)))))
noncomputable def Hu:E:=.and (.cmp .gt (.v 235) (.ci 0)) (.cmp .isin (.idx (.v 147) (.idx (.v 227) (.bin .sub (.v 235) (.ci 1)))) (.tup [.cs 5,.cs 2]))
noncomputable def HK:E:=.and (.cmp .lt (.bin .add (.v 235) (.ci 1)) (.bi .len [.v 227])) (.and (.cmp .isin (.idx (.v 147) (.v 53)) (.tup [.cs 5,.cs 2])) (.cmp .isin (.idx (.v 147) (.idx (.v 227) (.bin .add (.v 235) (.ci 1)))) (.tup [.cs 5,.cs 22,.cs 2])))
noncomputable def Ko:List S:=[.iff (.cmp .isin (.idx (.v 147) (.v 53)) (.tup [.cs 5,.cs 22,.cs 2])) [.asg (.name 50) Hu,.asg (.name 55) HK,.asg (.idx (.v 90) (.v 53)) (.idx (.dct [.tup [.cb false,.cb false],.cs 127,.tup [.cb false,.cb true],.cs 111,.tup [.cb true,.cb true],.cs 174,.tup [.cb true,.cb false],.cs 82]) (.tup [.v 50,.v 55]))] []]
section
variable {c:Cx}{ts:List Nat}{j kd sd:Nat}(hk:c.σ[kd]?=some (.list (br ts)))(hs:c.σ[sd]?=some (.list (cD (cU ts))))(cA:c.ρ 147=some (.ref kd))(eO:c.ρ 227=some (.ref sd))(iE:c.ρ 235=some (.int (j:Int)))
include hk hs cA eO iE
theorem Tj (hj:j<(cU ts).length):Ev c Hu (.bool (jw ts j)):=by
 cases j with
 |zero=>exact b0 (t:=false) (ay (t:=false) (ab iE) ar rfl) rfl rfl
 |succ i=>
  have hi:i<(cU ts).length:=Nat.lt_of_succ_lt hj
  have iI:=FO (List.getElem_mem hi)
  rw[show jw ts (i+1)=ek ts[(cU ts)[i]] by rw[jw,List.getD_eq_getElem?_getD,List.getElem?_eq_getElem hi,Option.getD_some,lF iI]]
  exact b0 (t:=true) (ay (t:=true) (ab iE) ar (congrArg some (decide_eq_true (Int.ofNat_lt.mpr (Nat.succ_pos i))))) rfl (ay (aQ (ab cA) (aQ (ab eO) (bI (z:=.int i) (ab iE) ar (by rw[NI,Int.natCast_succ,Int.add_sub_cancel])) (Ka hs hi)) (fu hk iI)) (cG (ac aT (ac aT ak))) (KB _))
theorem Tk {k:Nat}(eS:k<ts.length)(h53:c.ρ 53=some (.int (k:Int))):Ev c HK (.bool (gS ts j k)):=by
 have hL:Ev c (.cmp .lt (.bin .add (.v 235) (.ci 1)) (.bi .len [.v 227])) (.bool (decide (((j+1:Nat):Int)<((cU ts).length:Nat)))):=ay (bI (z:=.int ((j+1:Nat):Int)) (ab iE) ar rfl) (cZ (ac (ab eO) ak) (gC hs (List.length_map _))) rfl
 by_cases y:j+1<(cU ts).length
 ·have hl:=FO (List.getElem_mem y)
  rw[show gS ts j k=(ek ts[k]&&dG ts[(cU ts)[j+1]]) by rw[gS,List.getElem?_eq_getElem y,←lF eS,←lF hl]]
  exact b0 hL (t:=true) (congrArg some (decide_eq_true (Int.ofNat_lt.mpr y))) (xM (ay (aQ (ab cA) (ab h53) (fu hk eS)) (cG (ac aT (ac aT ak))) (KB _)) (ay (aQ (ab cA) (aQ (ab eO) (bI (z:=.int ((j+1:Nat):Int)) (ab iE) ar rfl) (Ka hs y)) (fu hk hl)) (cG (ac aT (ac aT (ac aT ak)))) (KA _)))
 ·have z:=decide_eq_false fun h=>y (Int.ofNat_lt.mp h)
  rw[show gS ts j k=false by rw[gS,List.getElem?_eq_none (Nat.le_of_not_lt y)]]
  exact b0 (t:=false) hL (congrArg some z) (congrArg AV.bool z)
end
structure LF (σ s:St)(ts done:List Nat)(kd sd:Nat):Prop where
 ext:∃l,s=σ++l
 hf:s[σ.length]?=some (.list (br (FD ts done)))
 hk:s[kd]?=some (.list (br ts))
 hs:s[sd]?=some (.list (cD (cU ts)))
 k1:σ.length<kd
 k2:kd<sd
theorem LF.put {s:St}{ts done:List Nat}{kd sd k:Nat}{l:St}(h:LF σ s ts done kd sd)(eS:k<ts.length):LF σ ((s++l).set σ.length (.list ((br (FD ts done)).set k (.str (fB ts k))))) ts (done++[k]) kd sd:=by
 rw[P5 eS]
 refine⟨?_,dy (al h.hf),?_,?_,h.k1,h.k2⟩
 ·obtain⟨m,rfl⟩:=h.ext
  rw[List.append_assoc,List.set_append_right _ _ (Nat.le_refl _)]
  exact⟨_,rfl⟩
 ·rw[List.getElem?_set_ne (Nat.ne_of_lt h.k1)];exact al h.hk
 ·rw[List.getElem?_set_ne (Nat.ne_of_lt (Nat.lt_trans h.k1 h.k2))];exact al h.hs
theorem To {cf:Cf}{s:St}{ts done:List Nat}{kd sd k:Nat}{ρ:ag}{QF:Fl→ag→St→Prop}(h:LF σ s ts done kd sd)(hk:(cU ts)[done.length]?=some k)(cA:ρ 147=some (.ref kd))(eO:ρ 227=some (.ref sd))(bL:ρ 90=some (.ref σ.length))(h53:ρ 53=some (.int (k:Int)))(iE:ρ 235=some (.int ((done.length:Nat):Int)))
  (q:∀ρ' s',LF σ s' ts (done++[k]) kd sd→ρ' 147=some (.ref kd)→ρ' 227=some (.ref sd)→ρ' 90=some (.ref σ.length)→QF .next ρ' s'):WB cf Ko ρ s QF:=by
 obtain⟨hj,Rk⟩:=List.getElem?_eq_some_iff.mp hk
 have eS:k<ts.length:=FO (Rk▸List.getElem_mem hj)
 have l8:=Qd hk
 rw[lF eS]at l8
 refine aW (ay (aQ (ab cA) (ab h53) (fu h.hk eS)) (cG (ac aT (ac aT (ac aT ak)))) (KA _)) rfl ?_
 cases z:dG ts[k]with
 |true=>
  rw[if_pos z]at l8
  have⟨g1,g2⟩:=Qn (jw ts done.length) (gS ts done.length k)
  rw[←l8]at g2
  exact bT rfl (ba (Tj h.hk h.hs cA eO iE hj) (ba (Tk h.hk h.hs cA eO iE eS h53) (cV (F8 (M8 (gN (aL ⟨rfl⟩ (aA (v:=BR) rfl (aJ (cG (ac (ab rfl) (ac (ab rfl) ak))) (aA (mh aw g1 g2) (aJ (ab bL) (aJ (ab h53) (aA (AG (al h.hf) (BK▸Nat.ble_eq_true_of_le eS)) (q _ _ (h.put eS) cA eO bL))))))))))))))
 |false=>
  rw[if_neg (z▸Bool.false_ne_true)]at l8
  exact bA rfl (q _ _ ⟨h.ext,(P3 l8).symm▸h.hf,h.hk,h.hs,h.k1,h.k2⟩ cA eO bL)
end
theorem IX {cf:Cf}{e:E}{ρ:ag}{σ s:St}{v:AV}(h:WE cf e ρ σ fun x t=>x=v∧t=s):ev aP cf e ρ σ=some (v,s):=by
 obtain⟨_,_,e,rfl,rfl⟩:=WE.elim h
 exact e
theorem WW {σ:St}{r:Nat}{ns:List Nat}(h:σ[r]?=some (.list (cD ns))):dz .enum [.ref r] σ=some (ns.zipIdx.map fun p=>.tup [.int p.2,.int p.1],some (r,.list (cD ns))):=by
 rw[ML,h]
 show some ((cD ns).zipIdx.map _,_)=_
 rw[cD,List.zipIdx_map,List.map_map];rfl
theorem U6 (n:Nat):di 0 (n:Int)=cD (List.range n):=(FC (a:=0) (Nat.zero_le n)).trans (by rw[Nat.sub_zero,←List.range_eq_range'])
section
variable {d:Nat}{σ:St}{Q:AV→St→Prop}{ρ:ag}{r:Nat}{cs:List Int}(h:σ[r]?=some (.list (cs.map .int)))(cj:ρ 68=some (.ref r))(hn:cs.length≤7)
include h cj hn
theorem Tp {cf:Cf}(q:Q (.ref σ.length) (σ++[.list (br (FD (cs.map dg) []))])):WE cf (.lcomp [67] true .seq [.v 68] [] (.cs 0)) ρ σ Q:=by
 rw[P4,br,List.map_map,List.map_map]at q
 exact cO (aL (ac (ab cj) ak) (aA (cx h) (aZ (fS (g:=fun _=>.str 0) (bg h) fun c _=>⟨_,rfl,eJ aT⟩) ⟨by rw[List.length_map];exact Nat.lt_of_le_of_lt hn (by decide),q⟩)))
theorem Tl (hs:∀c∈cs,c∈ej)(q:∀l,Q (.ref (σ++l).length) (σ++l++[.list (br (cs.map dg))])):
  WE (ao T0 (d+1)) (.lcomp [67] true .seq [.v 68] [] (.meth 91 (.call 44 []) [.v 67,.ife (.cmp .eq (.v 67) (.ci 8205)) (.cs 2) (.cs 29)])) ρ σ Q:=by
 obtain⟨l',e⟩:=BD (gd:=some (r,.list (cs.map .int))) (xs:=[67]) (one:=true) (turn:=dA (ao T0 (d+1)) [] (.meth 91 (.call 44 []) [.v 67,.ife (.cmp .eq (.v 67) (.ci 8205)) (.cs 2) (.cs 29)])) (ρ:=ρ) (σ:=σ) (vs:=cs.map .int)
  (g:=fun v=>.str (dg ((bz v).getD 0))) (fun l=>bg (al h)) (fun v hv l=>by
   obtain⟨c,hc,rfl⟩:=List.mem_map.mp hv
   exact⟨_,rfl,[.dict uI],bN (IX (pJ (bG (a8 (Om ⟨_,_,rfl,aw,rfl,aL (ac (ab rfl) (ac (IL (ay (ab rfl) ar rfl) aT aT) ak)) (aZ (jI aw rfl (SK c (hs c hc))) ⟨rfl,rfl⟩)⟩)))))⟩)
 refine cO (aL (ac (ab cj) ak) (aA (cx h) (aZ e ⟨by rw[List.length_map,List.length_map];exact Nat.lt_of_le_of_lt hn (by decide),?_⟩)))
 have:=q l'
 rw[br,List.map_map]at this
 rw[List.map_map];exact this
theorem Tn {cf:Cf}{kd:Nat}{ts:List Nat}(hk:σ[kd]?=some (.list (br ts)))(cA:ρ 147=some (.ref kd))(hl:ts.length=cs.length)(q:Q (.ref σ.length) (σ++[.list (cD (cU ts))])):
  WE cf (.lcomp [53] true .range [.bi .len [.v 68]] [.cmp .ne (.idx (.v 147) (.v 53)) (.cs 25)] (.v 53)) ρ σ Q:=by
 have fX:=Nat.le_trans hn (show 7≤1000000 by decide)
 refine cO (aL (ac (cZ (ac (ab cj) ak) (gC h ((List.length_map _).trans hl.symm))) ak) (aA (v:=(cD (List.range ts.length),none)) ((lC (hl▸fX)).trans (by rw[U6])) ?_))
 refine aZ (BC (α:=Nat) (w:=fun k=>.int (k:Int)) (p:=fun k=>b4 ts k !=25) (g:=fun k=>.int (k:Int)) rfl fun k fX=>⟨_,rfl,xi (ay (t:=b4 ts k !=25) (aQ (ab cA) (ab rfl) (v:=.str (b4 ts k)) ?_) aT rfl) rfl (ab rfl)⟩) ⟨?_,q⟩
 ·have eS:=List.mem_range.mp fX
  rw[lF eS];exact fu hk eS
 rw[List.length_map]
 exact Nat.lt_of_le_of_lt (Nat.le_trans (List.length_filter_le ..) (List.length_range.trans hl▸hn)) (by decide)
end
section
variable {d:Nat}{σ:St}{Q:AV→St→Prop}
inductive JX (σ:St)(ts:List Nat)(kd sd:Nat)(vs:List (Nat×Nat))(ρ:ag)(s:St):Prop
 |mk (done rest:List Nat)(q1:cU ts=done++rest)(q2:vs=rest.zipIdx done.length)(q3:LF σ s ts done kd sd)(q4:ρ 147=some (.ref kd))(q5:ρ 227=some (.ref sd))(q6:ρ 90=some (.ref σ.length)):JX σ ts kd sd vs ρ s
theorem Tm {cf:Cf}{s:St}{ts:List Nat}{kd sd:Nat}{ρ:ag}(h:LF σ s ts [] kd sd)(cA:ρ 147=some (.ref kd))(eO:ρ 227=some (.ref sd))(bL:ρ 90=some (.ref σ.length))(q:∀l r',σ.length≤r'→(σ++l)[r']?=some (.list (br (dH ts)))→Q (.ref r') (σ++l)):WB cf [.for [235,53] false .enum [.v 227] Ko,.ret (.v 90)] ρ s (dk σ Q):=by
 refine gK (aL (ac (ab eO) ak) (aA (WW h.hs) ?_))
 refine fV (B:=fun p ρ=>aF (aF ρ 235 (.int (p.2:Int))) 53 (.int (p.1:Int))) (I:=JX σ ts kd sd) (fun _ _=>rfl) ?_ ?_ ⟨[],_,rfl,rfl,h,cA,eO,bL⟩
 ·rintro p vs ρ s ⟨done,rest,e1,e2,hL,cA,eO,bL⟩
  cases rest with
  |nil=>cases e2
  |cons k rest=>
   cases e2
   exact⟨bg hL.hs,To (k:=k) hL (by rw[e1,List.getElem?_append_right (Nat.le_refl _),Nat.sub_self];rfl) cA eO bL rfl rfl fun ρ' s' QG a1 a2 a3=>⟨done++[k],rest,by rw[e1,List.append_assoc];rfl,by rw[List.length_append];rfl,QG,a1,a2,a3⟩⟩
 ·rintro ρ s ⟨done,rest,e1,e2,hL,cA,eO,bL⟩
  cases rest with
  |cons k rest=>cases e2
  |nil=>
   refine⟨bg hL.hs,a6 (ab bL) (ec (Nat.le_refl _) ?_)⟩
   have Jq:=hL.hf
   rw[List.append_nil]at e1
   rw[←e1,P0]at Jq
   obtain⟨l,rfl⟩:=hL.ext
   exact q l _ (Nat.le_refl _) Jq
theorem Oq {r:Nat}{cs:List Int}(h:σ[r]?=some (.list (cs.map .int)))(hn:cs.length≤7)(hs:∀c∈cs,c∈ej)(q:∀l r',σ.length≤r'→(σ++l)[r']?=some (.list (br (dH (cs.map dg))))→Q (.ref r') (σ++l)):WC (ao T0 (d+2)) 43 [.ref r] σ Q:=
 bM rfl rfl rfl (bS (Tp h rfl hn (bS (Tl (al h) rfl hn hs fun l=>bS (Tn (al (al (al h))) rfl hn aw rfl (List.length_map ..)
  (Tm ⟨⟨_,by rw[List.append_assoc,List.append_assoc,List.append_assoc]⟩,al (al (al aw)),al aw,aw,Nat.lt_of_lt_of_le iT co,iT⟩ rfl rfl rfl q))))))
end
noncomputable def ji (c:Int):Int:=if c=40 then 41 else if c=41 then 40 else c
noncomputable def fF (bk:Bool)(c:Int):Int:=if bk then ji c else c
noncomputable def m0 (bk:Bool)(o c:Int):Int:=if(o !=c)||!bk then 0 else 32
noncomputable def qA (tag:Nat)(bk:Bool)(c:Int)(f:Nat):Int:=if tag=52∧f≠0 then m0 bk (fF bk c) c+mB f else m0 bk (fF bk c) c
noncomputable def gU (tag:Nat)(bk:Bool)(c:Int)(f:Nat):AV:=.tup [.int (fF bk c),.int (qA tag bk c f)]
noncomputable def gF (f:Nat):Prop:=f∈[0,82,111,127,174]
noncomputable def ga (i:In):AV:=.tup [.int i.code,.int i.mask]
theorem Qk (a b:Bool):gF (ua a b):=by unfold gF;cases a<;>cases b<;>decide
theorem I1 (ts:List Nat):∀f∈dH ts,gF f:=by
 intro f hf
 unfold dH at hf
 obtain⟨k,_,rfl⟩:=List.mem_map.mp hf
 unfold fB
 split
 ·exact Qk _ _
 ·unfold gF;decide
theorem BN (ts:List Nat):(dH ts).length=ts.length:=by unfold dH;simp
theorem Fs (bk:Bool)(c k:Int)(h:c∈ej):∃i,d0 bk [⟨c,0,k,0,0,false⟩]=[i]∧i.code=fF bk c∧i.mask=m0 bk (fF bk c) c∧i.cluster=k:=by
 unfold ej at h
 simp only[List.mem_cons,List.not_mem_nil,or_false]at h
 obtain e:PySem.Builtin.bitOr 0 32=32:=by decide+kernel
 rcases h with rfl |rfl |rfl |rfl |rfl |rfl |rfl |rfl |rfl |rfl<;>cases bk<;>exact⟨_,rfl,rfl,by first |rfl |exact e,rfl⟩
theorem Dp (bk:Bool)(i:In)(is:List In):d0 bk (i::is)=d0 bk [i]++d0 bk is:=by
 unfold d0;cases bk<;>rfl
noncomputable def iV (n:Nat)(cs:List Int):List In:=(cs.zipIdx n).map fun p=>⟨p.1,0,p.2,0,0,false⟩
theorem DF (n:Nat)(c:Int)(cs:List Int):iV n (c::cs)=⟨c,0,n,0,0,false⟩::iV (n+1) cs:=by
 unfold iV;rw[List.zipIdx_cons];rfl
theorem Up (bk:Bool)(o c:Int)(f:Nat)(h:gF f):PySem.Builtin.bitOr (m0 bk o c) (mB f)=if f≠0 then m0 bk o c+mB f else m0 bk o c:=by
 obtain hm:m0 bk o c=0∨m0 bk o c=32:=by unfold m0;split<;>simp
 unfold gF at h
 simp only[List.mem_cons,List.not_mem_nil,or_false]at h
 rcases hm with e |e<;>rw[e]<;>rcases h with rfl |rfl |rfl |rfl |rfl<;>decide+kernel
theorem II (bk:Bool):∀(cs:List Int) (n:Nat) (fs:List Nat),(∀c∈cs,c∈ej)→(∀f∈fs,gF f)→(dh (d0 bk (iV n cs)) fs).map ga=List.zipWith (gU 52 bk) cs fs
 | [],n,fs,_,_=>by cases bk<;>simp[iV,d0,dh]
 |c::cs,n,[],_,_=>by simp[dh]
 |c::cs,n,f::fs,hc,hf=>by
  refine ah fun aa=>?_
  refine pN (Fs bk c n (hc c (List.mem_cons_self ..))) fun i e1 e2 e3 _=>?_
  refine aa ?_
  rw[DF,Dp]
  refine(e1).symm▸?_
  obtain ih:=II bk cs (n+1) fs (fun c h=>hc c (List.mem_cons_of_mem _ h)) fun f h=>hf f (List.mem_cons_of_mem _ h)
  unfold dh at ih ⊢
  rw[List.singleton_append,List.zipWith_cons_cons,List.zipWith_cons_cons,List.map_cons,ih]
  congr 1
  unfold ga As gU qA
  try dsimp only
  rw[e2,e3,Up bk _ c f (hf f (List.mem_cons_self ..))]
  by_cases z:f=0<;>simp[z]
theorem IJ {tag:Nat}(ht:tag≠52)(bk:Bool):∀(cs:List Int) (n:Nat) (fs:List Nat),(∀c∈cs,c∈ej)→fs.length=cs.length→(d0 bk (iV n cs)).map ga=List.zipWith (gU tag bk) cs fs
 | [],n,fs,_,_=>by cases bk<;>simp[iV,d0]
 |c::cs,n,[],_,h=>by cases h
 |c::cs,n,f::fs,hc,hl=>by
  refine ah fun aa=>?_
  refine pN (Fs bk c n (hc c (List.mem_cons_self ..))) fun i e1 e2 e3 _=>?_
  refine aa ?_
  rw[DF,Dp]
  refine(e1).symm▸?_
  obtain ih:=IJ ht bk cs (n+1) fs (fun c h=>hc c (List.mem_cons_of_mem _ h)) (by simpa using hl)
  rw[List.singleton_append,List.zipWith_cons_cons,List.map_cons,ih]
  congr 1
  unfold ga gU qA
  rw[e2,e3,if_neg fun h=>ht h.1]
theorem BB (bk:Bool):∀(cs:List Int) (n:Nat),(∀c∈cs,c∈ej)→(d0 bk (iV n cs)).map (·.code)=cs.map (fF bk)
 | [],n,_=>by cases bk<;>rfl
 |c::cs,n,hc=>by
  refine ah fun aa=>?_
  refine pN (Fs bk c n (hc c (List.mem_cons_self ..))) fun i e1 e2 _ _=>?_
  refine aa ?_
  rw[DF,Dp,e1,List.singleton_append,List.map_cons,BB bk cs (n+1) (fun c h=>hc c (List.mem_cons_of_mem _ h)),e2]
  rfl
theorem uK (bk:Bool):∀c∈ej,dg (fF bk c)=dg c∧fF bk c∈ej∧(cS (fF bk c)=0∨cS (fF bk c)=12)∧c∈iA:=by
 intro c hc
 unfold ej at hc
 simp only[List.mem_cons,List.not_mem_nil,or_false]at hc
 rcases hc with rfl |rfl |rfl |rfl |rfl |rfl |rfl |rfl |rfl |rfl<;>cases bk<;>decide
theorem Xu {bk:Bool}{cs:List Int}(h:∀c∈cs,c∈ej):gJ (d0 bk (bq cs))=cs.map dg:=by
 unfold gJ
 rw[show bq cs=iV 0 cs from rfl,BB bk cs 0 h,List.map_map]
 exact List.map_congr_left fun c hc=>(uK bk c (h c hc)).1
theorem IK {tag:Nat}{bk:Bool}{cs:List Int}{is:List In}(h:∀c∈cs,c∈ej)(e:is.map dW=(iR tag (d0 bk (bq cs))).map dW):is.map ga=List.zipWith (gU tag bk) cs (dH (cs.map dg)):=by
 have e1:is.map ga=(iR tag (d0 bk (bq cs))).map ga:=by
  have:=congrArg (List.map ga) e
  rw[List.map_map,List.map_map]at this
  exact this
 rw[e1]
 unfold iR
 by_cases z:tag=52
 ·clear e1 e
  subst z
  rw[if_pos rfl,Xu h]
  exact II bk cs 0 _ h (I1 _)
 ·rw[if_neg z]
  exact IJ z bk cs 0 _ h (by rw[BN];simp)
section
variable {d:Nat}{σ:St}{Q:AV→St→Prop}
theorem OO {b l cm pl tag:Nat}{bk:Bool}{rs:List Nat}{cs:List Int}(h:aD σ b l bk rs (bq cs))(hC:CM σ cm)(hP:fw σ pl tag bk)(hn:cs.length≤7)(hs:∀c∈cs,c∈ej)
  (q:∀σ' l' rs' is',aU b rs σ σ'→aD σ' b l' bk rs' is'→is'.map ga=List.zipWith (gU tag bk) cs (dH (cs.map dg))→Q .none σ'):WC (ao T0 (d+6)) 225 [.ref b,.ref cm,.ref pl] σ Q:=by
 have ff:rs.length=cs.length:=by rw[h.infos.len];simp[bq]
 have fC:∀i∈bq cs,i.code∈iA:=fun i hi=>(uK true _ (hs _ (uO hi))).2.2.2
 refine ah fun aa=>?_
 by_cases z:tag=73
 ·subst z
  refine aa ?_
  refine Ib h hC hP fC (fun s is2 k1 k2 k3=>?_) (by lia)
  obtain hk:∀i∈is2,cS i.code=0∨cS i.code=12:=fun i hi=>by
   obtain e:=congrArg (List.map In.code) k3
   rw[List.map_map,List.map_map]at e
   obtain e':is2.map In.code=cs.map (fF bk):=e.trans (BB bk cs 0 hs)
   have:i.code∈is2.map In.code:=List.mem_map_of_mem hi
   rw[e']at this
   refine am (List.mem_map.mp this) fun c hc QU=>?_
   refine(QU)▸?_
   exact(uK bk c (hs c hc)).2.2.1
  refine jk (OI (d:=d) k1 (by lia) hk) ⟨l,rs,is2,aU.refl,k1,fun σ' l' rs' a1 a2=>?_⟩
  exact q σ' l' rs' is2 a1 a2 (IK (tag:=73) hs k3)
 ·exact aa (Ia (d:=d+1) h hC hP (by lia) fC z fun σ' l' rs' is' a1 a2 a3=>q σ' l' rs' is' a1 a2 (IK hs a3))
noncomputable def fU:List Int:=[2325,2367,97]
noncomputable def t8 (tag:Nat):List Int:=if tag=73 then[2367,2325,97]else[2325,2367,97]
theorem P7 (bk:Bool):∃i0 i1 i2,d0 bk (bq fU)=[i0,i1,i2]∧i0.code=2325∧i1.code=2367∧i2.code=97∧i0.cluster=0∧i1.cluster=1∧i2.cluster=2:=by
 cases bk<;>exact⟨_,_,_,rfl,rfl,rfl,rfl,rfl,rfl,rfl⟩
theorem Kb:∀(is:List In) (fs:List Nat),fs.length=is.length→(dh is fs).map (·.code)=is.map (·.code)
 | [],fs,_=>by simp[dh]
 |i::is,[],h=>by cases h
 |i::is,f::fs,h=>by
  have:=Kb is fs (by simpa using h)
  unfold dh at this ⊢
  rw[List.zipWith_cons_cons,List.map_cons,List.map_cons,this]
  rfl
theorem Kl {α:Type}{l:List α}(h:l.length=3):∃a b c,l=[a,b,c]:=by
 rcases l with _ | ⟨a,_ | ⟨b,_ | ⟨c,_ | ⟨d,l⟩⟩⟩⟩<;>first |exact⟨_,_,_,rfl⟩ | (simp at h;done) | (simp at h;lia)
theorem OP {b l cm pl tag:Nat}{bk:Bool}{rs:List Nat}(h:aD σ b l bk rs (bq fU))(hC:CM σ cm)(hP:fw σ pl tag bk)
  (q:∀σ' l' rs' is',aU b rs σ σ'→aD σ' b l' bk rs' is'→is'.map (·.code)=t8 tag→Q .none σ'):WC (ao T0 (d+6)) 225 [.ref b,.ref cm,.ref pl] σ Q:=by
 have ff:rs.length=3:=by rw[h.infos.len];rfl
 obtain fC:∀i∈bq fU,i.code∈iA:=fun i hi=>by
  have:=uO hi
  simp only[fU,List.mem_cons,List.not_mem_nil,or_false]at this
  rcases this with e |e |e<;>rw[e]<;>decide
 refine ah fun aa=>?_
 obtain⟨i0,i1,i2,e,c0,c1,c2,k0,k1,k2⟩:=P7 bk
 by_cases z:tag=73
 ·subst z
  refine aa ?_
  refine Ib h hC hP fC (fun s is2 a1 a2 a3=>?_) (by lia)
  rw[e]at a3
  refine jo (Kl ff) fun r0 r1 r2 e9=>?_
  subst e9
  refine jo (Kl (show is2.length=3 by have:=congrArg List.length a3;simpa using this)) fun j0 j1 j2 e9=>?_
  subst e9
  simp only[List.map_cons,List.map_nil,List.cons.injEq,and_true]at a3
  refine ah fun aa=>?_
  refine cJ a3 fun x0 x1 x2=>?_
  obtain y0:j0.code=2325:=(congrArg In.code x0).trans c0
  have y1:j1.code=2367:=(congrArg In.code x1).trans c1
  have y2:j2.code=97:=(congrArg In.code x2).trans c2
  obtain z0:j0.cluster=0:=(congrArg In.cluster x0).trans k0
  have z1:j1.cluster=1:=(congrArg In.cluster x1).trans k1
  have z2:j2.cluster=2:=(congrArg In.cluster x2).trans k2
  refine aa ?_
  refine OJ (d:=d) a1 y0 y1 y2 (by lia) (by lia) fun σ' l' rs' is' b1 b2 b3=>⟨l',rs',is',b1,b2,fun σ'' l'' rs'' d1 d2=>?_⟩
  exact q _ _ _ _ d1 d2 b3
 ·refine aa ?_
  refine Ia (d:=d+1) h hC hP (by lia) fC z fun σ' l' rs' is' a1 a2 a3=>q σ' l' rs' is' a1 a2 ?_
  refine ah fun aa=>?_
  obtain e1:=congrArg (List.map In.code) a3
  rw[List.map_map,List.map_map]at e1
  have e2:is'.map In.code=(iR tag (d0 bk (bq fU))).map In.code:=e1
  refine aa ?_
  rw[e2]
  unfold t8 iR
  rw[if_neg z]
  refine(e).symm▸?_
  split
  ·rw[Kb _ _ (by rw[BN];simp[gJ])]
   simp[c0,c1,c2]
  ·simp[c0,c1,c2]
end
noncomputable def xe:List (AV×AV):=[(.int 40,.int 41),(.int 41,.int 40)]
theorem I4 {l:List (AV×AV)}{a c:Int}{v:AV}(h:a≠c):bc ((.int a,v)::l) (.int c)=bc l (.int c):=if_neg fun e=>h (eq_of_beq (α:=Int) e)
theorem Xa (c:Int):(bc xe (.int c)).getD (.int c)=.int (ji c):=by
 rw[ji]
 by_cases z:c=40
 ·rw[if_pos z,z];rfl
 ·by_cases y:c=41
  ·rw[if_neg z,if_pos y,y];rfl
  ·rw[if_neg z,if_neg y,xe,I4 (Ne.symm z),I4 (Ne.symm y)];rfl
noncomputable def xd (x:Nat):E:=.meth 91 (.dct [.ci 40,.ci 41,.ci 41,.ci 40]) [.v x,.v x]
theorem MU {cf:Cf}{x:Nat}{c:Int}{ρ:ag}{σ:St}{Q:AV→St→Prop}(h:ρ x=some (.int c))(q:Q (.int (ji c)) (σ++[.dict xe])):WE cf (xd x) ρ σ Q:=
 pJ (gN (aL ⟨rfl⟩ (aA (v:=xe) rfl ⟨_,_,rfl,aw,rfl,aL (ac (ab h) (ac (ab h) ak)) (aZ (jI aw rfl (Xa c)) q)⟩)))
theorem Ur {cf:Cf}{c:Int}{bk:Bool}{ρ:ag}{σ:St}{Q:AV→St→Prop}(h:ρ 67=some (.int c))(h1:ρ 114=some (.bool bk))(q:∀m,Q (.int (fF bk c)) (σ++m)):WE cf (.ife (.v 114) (xd 67) (.v 67)) ρ σ Q:=
 AZ (aJ (ab h1) (aA rfl (by
  cases bk with
  |false=>exact bA rfl (aJ (ab h) (List.append_nil σ▸q []))
  |true=>exact bT rfl (MU h (q _)))))
noncomputable def Kw:E:=.ife (.or (.cmp .ne (.v 190) (.v 67)) (.not (.v 114))) (.ci 0) (.ci 32)
theorem Ty {c:Cx}{o k:Int}{bk:Bool}(h:c.ρ 190=some (.int o))(h1:c.ρ 67=some (.int k))(h2:c.ρ 114=some (.bool bk)):Ev c Kw (.int (m0 bk o k)):=by
 have:=IL (jE (ay (op:=.ne) (t:=o !=k) (ab h) (ab h1) rfl) (gp (ab h2) rfl)) (ar (j:=0)) (ar (j:=32))
 rw[m0]
 cases e:o !=k||!bk<;>rw[e]at this<;>exact this
noncomputable def PA:E:=.and (.cmp .eq (.v 245) (.cs 52)) (.cmp .ne (.idx (.v 88) (.v 53)) (.cs 0))
noncomputable def IH:List S:=[.asg (.name 190) (.ife (.v 114) (xd 67) (.v 67)),.asg (.name 170) Kw,.iff PA [.asg (.name 170) (.bin .add (.v 170) (.bin .pow (.ci 2) (.idx (.idx (.v 171) (.idx (.v 88) (.v 53))) (.ci 0))))] [],.expr (.meth 51 (.v 78) [.tup [.v 190,.v 170]])]
theorem TZ {σ:St}{mk f:Nat}(h:σ[mk]?=some (.dict gD))(hf:gF f)(hz:f≠0):∃n:Int,eh σ (.ref mk) (.str f)=some (.tup [.int n,.int 1])∧∀s,fR .pow (.int 2) (.int n) s=some (.int (mB f),s):=by
 unfold gF at hf
 simp only[List.mem_cons,List.not_mem_nil,or_false]at hf
 rcases hf with rfl |rfl |rfl |rfl |rfl
 ·exact absurd rfl hz
 all_goals exact⟨_,mh h rfl rfl,fun s=>rfl⟩
structure DL (dl mk fm:Nat)(tag:Nat)(bk:Bool)(F:List Nat)(ρ:ag)(s:St):Prop where
 h114:ρ 114=some (.bool bk)
 h245:ρ 245=some (.str tag)
 h88:ρ 88=some (.ref fm)
 h171:ρ 171=some (.ref mk)
 h78:ρ 78=some (.ref dl)
 hm:s[mk]?=some (.dict gD)
 hF:s[fm]?=some (.list (br F))
 n1:dl≠mk
 n2:dl≠fm
theorem fP.trans {b:Nat}{σ s t:St}(h:fP b σ s)(k:fP b s t):fP b σ t:=⟨Nat.le_trans h.1 k.1,fun r hr hb=>(k.2 r (Nat.lt_of_lt_of_le hr h.1) hb).trans (h.2 r hr hb)⟩
theorem fP.set {b:Nat}{σ m:St}{o:ae}:fP b σ ((σ++m).set b o):=⟨by rw[List.length_set];exact co,fun r hr hb=>(List.getElem?_set_ne hb.symm).trans (List.getElem?_append_left hr)⟩
noncomputable def Sm (ρ ρ':ag):Prop:=∀x,x≠190→x≠170→x≠53→x≠67→ρ' x=ρ x
theorem DL.set {dl mk fm tag:Nat}{bk:Bool}{F:List Nat}{ρ ρ':ag}{s m:St}{o:ae}(h:DL dl mk fm tag bk F ρ s)(g:Sm ρ ρ'):DL dl mk fm tag bk F ρ' ((s++m).set dl o):=
 have up {x:Nat} {v:AV} (e:ρ x=some v) (q:(Nat.beq x 190||Nat.beq x 170||Nat.beq x 53||Nat.beq x 67)=false):ρ' x=some v:=(g x (fun e=>by subst e;cases q) (fun e=>by subst e;cases q) (fun e=>by subst e;cases q) fun e=>by subst e;cases q).trans e
 ⟨up h.h114 rfl,up h.h245 rfl,up h.h88 rfl,up h.h171 rfl,up h.h78 rfl,(List.getElem?_set_ne h.n1).trans (al h.hm),(List.getElem?_set_ne h.n2).trans (al h.hF),h.n1,h.n2⟩
theorem PC {cf:Cf}{dl mk fm tag k:Nat}{bk:Bool}{F:List Nat}{c:Int}{D:List AV}{ρ:ag}{s:St}{QF:Fl→ag→St→Prop}(h:DL dl mk fm tag bk F ρ s)(hD:s[dl]?=some (.list D))(Cc:D.length≤100)(hk:k<F.length)(ch:gF F[k])(dZ:ρ 67=some (.int c))(h53:ρ 53=some (.int (k:Int)))
  (q:∀ρ' s',DL dl mk fm tag bk F ρ' s'→Sm ρ ρ'→s'[dl]?=some (.list (D++[gU tag bk c F[k]]))→fP dl s s'→QF .next ρ' s'):WB cf IH ρ s QF:=by
 refine bS (Ur dZ h.h114 fun m=>ba (Ty rfl dZ h.h114) (aW (t:=tag==52&&F[k] !=0) (xM (ay (ab h.h245) aT rfl) (ay (aQ (ab h.h88) (ab h53) (fu (al h.hF) hk)) aT rfl)) rfl ?_))
 have fin:∀ρ',ρ' 190=some (.int (fF bk c))→ρ' 170=some (.int (qA tag bk c F[k]))→Sm ρ ρ'→ρ' 78=some (.ref dl)→WB cf [.expr (.meth 51 (.v 78) [.tup [.v 190,.v 170]])] ρ' (s++m) QF:=fun ρ' a190 a170 g a78=>
  lS (ab a78) (al hD) rfl (ac (cG (ac (ab a190) (ac (ab a170) ak))) ak) (push (al hD) (Nat.ble_eq_true_of_le (Nat.le_trans Cc (by decide)))) (q _ _ (h.set g) g (dy (al hD)) .set)
 cases z:tag==52&&F[k] !=0 with
 |false=>
  exact bA rfl (bt (fin _ rfl (by rw[qA,if_neg fun e=>by rw[e.1,bne_iff_ne.mpr e.2]at z;cases z];rfl) (fun x h1 h2 _ _=>by rw[cN,if_neg h2,cN,if_neg h1]) h.h78))
 |true=>
  have⟨z1,z2⟩:=bo z
  have z2:=bne_iff_ne.mp z2
  refine am (TZ (σ:=s++m) (al h.hm) ch z2) fun n e1 e2=>?_
  exact bT rfl (ba (bI (ab rfl) (bI ar (aQ (aQ (ab h.h171) (aQ (ab h.h88) (ab h53) (fu (al h.hF) hk)) e1) ar rfl) (e2 _)) rfl) (bt (fin _ rfl (by rw[qA,if_pos ⟨eq_of_beq z1,z2⟩];rfl) (fun x h1 h2 _ _=>by rw[cN,if_neg h2,cN,if_neg h2,cN,if_neg h1]) h.h78)))
theorem Nb {α β γ:Type}(f:α→β→γ):∀(a:List α) (x:α) (F:List β) (h:a.length<F.length),List.zipWith f (a++[x]) F=List.zipWith f a F++[f x F[a.length]]
 | [],x,b::F,h=>by rw[List.nil_append,List.zipWith_cons_cons,List.zipWith_nil_left,List.zipWith_nil_left];rfl
 |a::l,x,b::F,h=>by
  rw[List.cons_append,List.zipWith_cons_cons,Nb f l x F (Nat.lt_of_succ_lt_succ h)];rfl
inductive JY (s:St)(ρ:ag)(dl mk fm tag:Nat)(bk:Bool)(F:List Nat)(cs:List Int)(vs:List (Int×Nat))(ρ':ag)(s':St):Prop
 |mk (done rest:List Int)(q1:cs=done++rest)(q2:vs=rest.zipIdx done.length)(q3:DL dl mk fm tag bk F ρ' s')(q4:Sm ρ ρ')(q5:s'[dl]?=some (.list (List.zipWith (gU tag bk) done F)))(q6:fP dl s s'):JY s ρ dl mk fm tag bk F cs vs ρ' s'
theorem PB {cf:Cf}{dl mk fm cd tag:Nat}{bk:Bool}{F:List Nat}{cs:List Int}{ρ:ag}{s:St}{QF:Fl→ag→St→Prop}(h:DL dl mk fm tag bk F ρ s)(hD:s[dl]?=some (.list []))(hcd:s[cd]?=some (.list (cs.map .int)))(Jk:dl≠cd)(cj:ρ 68=some (.ref cd))(hn:cs.length≤7)(hl:F.length=cs.length)(ch:∀f∈F,gF f)
  (q:∀ρ' s',DL dl mk fm tag bk F ρ' s'→Sm ρ ρ'→s'[dl]?=some (.list (List.zipWith (gU tag bk) cs F))→fP dl s s'→QF .next ρ' s'):WS cf (.for [53,67] false .enum [.v 68] IH) ρ s QF:=by
 refine aL (ac (ab cj) ak) (aA (MN hcd) (fV (B:=fun p ρ=>aF (aF ρ 53 (.int (p.2:Int))) 67 (.int p.1)) (I:=JY s ρ dl mk fm tag bk F cs) (fun _ _=>rfl) ?_ ?_ ⟨[],cs,rfl,rfl,h,fun _ _ _ _ _=>rfl,hD,⟨Nat.le_refl _,fun _ _ _=>rfl⟩⟩))
 ·rintro p vs ρ' s' ⟨done,rest,e1,e2,hL,hx,hd,hk⟩
  cases rest with
  |nil=>cases e2
  |cons c rest=>
   cases e2
   have aX:=congrArg List.length e1
   rw[List.length_append,List.length_cons]at aX
   have l7:done.length<F.length:=by lia
   refine⟨bg ((hk.2 cd (cu hcd) Jk.symm).trans hcd),PC (k:=done.length) (c:=c) (F:=F) ⟨hL.h114,hL.h245,hL.h88,hL.h171,hL.h78,hL.hm,hL.hF,hL.n1,hL.n2⟩ hd (by rw[List.length_zipWith];lia) l7 (ch _ (List.getElem_mem l7)) rfl rfl fun ρ2 s2 a1 a2 a3 a4=>
    ⟨done++[c],rest,by rw[e1,List.append_assoc];rfl,by rw[List.length_append];rfl,a1,fun x x1 x2 x3 x4=>?_,(Nb _ _ _ _ l7).symm▸a3,hk.trans a4⟩⟩
   rw[a2 x x1 x2 x3 x4,cN,if_neg x4,cN,if_neg x3,hx x x1 x2 x3 x4]
 ·rintro ρ' s' ⟨done,rest,e1,e2,hL,hx,hd,hk⟩
  cases rest with
  |cons k rest=>cases e2
  |nil=>
   rw[List.append_nil]at e1
   exact⟨bg ((hk.2 cd (cu hcd) Jk.symm).trans hcd),q _ _ hL hx (e1▸hd) hk⟩
noncomputable def UM:E:=.call 21 [.v 245,.cs 74,.v 114,.v 171,.lst [],.lst [],.cb false,.ci 1,.bi .tuple [.bi .sorted [.v 171]]]
noncomputable def Xj:List AV:=[(52,true),(155,false),(73,false),(104,true)].map fun p=>.tup [.str p.1,.bool p.2]
theorem Ke {p q cm:Nat}{σ s:St}(hP:dm σ p q)(k:dO p q σ s)(h:CM σ cm):CM s cm:=
 am h fun x e1 e2=>
  have n1 {r:Nat} {o:ae} (e:σ[r]?=some o) (ho:Nat.beq (qq o) 0=false):s[r]?=some o:=
   let⟨_,ds,a,b,p1,p2⟩:=hP
   k.get e (fun z=>yO (o':=.list _) ho (Option.some.inj (e.symm.trans (z▸p1)))) fun z=>yO (o':=.list _) ho (Option.some.inj (e.symm.trans (z▸p2)))
  ⟨x,n1 e1 rfl,n1 e2 rfl⟩
section
variable {d:Nat}{σ:St}{Q:AV→St→Prop}{QF:Fl→ag→St→Prop}{ρ:ag}
theorem fM {cf:Cf}{e:E}{es:List E}{v:AV}{QL:List AV→St→Prop}(h:Ev ⟨cf,ρ,σ⟩ e v)(q:WL cf es ρ σ fun xs σ=>QL (v::xs) σ):WL cf (e::es) ρ σ QL:=aJ h q
theorem WY {r:Nat}(h:σ[r]?=some (.dict gD)):dc .sorted [.ref r] σ=some (.ref σ.length,σ++[.list ij]):=by
 show(σ[r]?).bind _=_
 rw[h];rfl
theorem Xq {r:Nat}{vs:List AV}(h:σ[r]?=some (.list vs)):dc .tuple [.ref r] σ=some (.tup vs,σ):=by
 show((σ[r]?).bind bX).map _=_
 rw[h];rfl
theorem Mb {mk tag:Nat}{bk:Bool}(h245:ρ 245=some (.str tag))(h114:ρ 114=some (.bool bk))(h171:ρ 171=some (.ref mk))(hm:σ[mk]?=some (.dict gD))(q:∀l pl,fw (σ++l) pl tag bk→Q (.ref pl) (σ++l)):WE (ao T0 (d+1)) UM ρ σ Q:=by
 refine bG (fM (ab h245) (fM aT (fM (ab h114) (fM (ab h171) (bu (c9 (a8 (bu (c9 (a8 (fM gV (fM ar (bu (lG (bu (lG (fM (ab h171) (a8 (aZ (WY (al (al hm))) (a8 (aZ (Xq aw) (a8 (N5 ?_)))))))))))))))))))))))
 have key (a b:Nat):fw (σ++[ae.list []]++[ae.list []]++[ae.list ij]++[.inst 21 [(218,.str tag),(150,.str 74),(114,.bool bk),(171,.ref mk),(72,.int 1),(224,.tup ij),(238,.ref a),(205,.ref b),(103,.bool false)]]) (σ++[ae.list []]++[ae.list []]++[ae.list ij]).length tag bk:=⟨_,_,_,aw,al (al (al (al hm)))⟩
 generalize (σ++[ae.list []]++[ae.list []]++[ae.list ij]).length=pl at key
 rw[List.append_assoc,List.append_assoc,List.append_assoc]
 exact q _ _ (by have:=key σ.length (σ++[ae.list []]).length;rwa [List.append_assoc,List.append_assoc,List.append_assoc]at this)
structure SC (s:St)(cm b l cd mk tag:Nat)(bk:Bool)(rs:List Nat)(is:List In)(cs:List Int):Prop where
 hcm:CM s cm
 hcd:s[cd]?=some (.list (cs.map .int))
 hmk:s[mk]?=some (.dict gD)
 row:aD s b l bk rs is
 pr:is.map ga=List.zipWith (gU tag bk) cs (dH (cs.map dg))
 sub:∀c∈cs,c∈ej
 len:cs.length≤7
noncomputable def Ki:List S:=qs.take 6
noncomputable def Kj:List S:=qs.drop 6
theorem S4:qs=Ki++Kj:=rfl
theorem S7 {cm:Nat}(hP:dm σ 3 2)(hC:CM σ cm)(eB:ρ 200=some (.ref 3))(h60:ρ 60=some (.ref cm))
  (k:∀ρ' s b l cd mk tag bk rs is cs,SC s cm b l cd mk tag bk rs is cs→ρ' 60=some (.ref cm)→ρ' 57=some (.ref b)→ρ' 68=some (.ref cd)→ρ' 171=some (.ref mk)→ρ' 245=some (.str tag)→ρ' 114=some (.bool bk)→QF .next ρ' s):WB (ao T0 (d+9)) Ki ρ σ QF:=by
 have l3:3<σ.length:=let⟨_,_,_,_,e,_⟩:=hP;cu e
 refine cV (tJ (bG (fM (ab eB) (bu (c9 (aL (vs:=Xj) ⟨rfl⟩ (a8 (H8 (d:=d+7) hP.app aw (Nat.ne_of_gt l3) (Nat.ne_of_gt (Nat.lt_of_succ_lt l3)) nofun (by decide+kernel) fun x s1 hx kp pn=>?_))))))))
 refine am (List.mem_map.mp hx) fun⟨tag,bk⟩ _ e=>⟨_,_,e.symm,?_⟩
 have cm1:=Ke hP.app kp hC.app
 have l31:3<s1.length:=Nat.lt_of_lt_of_le (Nat.lt_of_lt_of_le l3 co) kp.1
 clear hP hC kp hx l3 e
 refine bS (gN (aL ⟨rfl⟩ (aA (v:=gD) rfl (bS (c9 (aL (vs:=ej.map .int) ⟨rfl⟩ (bS (IE (d:=d+6) (ls:=228) pn.app.app aw (Nat.ne_of_gt (Nat.lt_of_lt_of_le l31 co)) (Nat.ne_of_gt (Nat.lt_of_lt_of_le (Nat.lt_of_succ_lt l31) co)) nofun (by decide) eB rfl (by decide) fun cs s2 cr hcm kp2 pn2=>?_))))))))
 have cm3:=(Ke pn.app.app kp2 cm1.app.app).app (l:=[ae.list (cs.map .int)])
 have mk3:(s2++[ae.list (cs.map .int)])[s1.length]?=some (.dict gD):=al (kp2.get (al aw) (Nat.ne_of_gt l31) (Nat.ne_of_gt (Nat.lt_of_succ_lt l31)))
 have hcd:(s2++[ae.list (cs.map .int)])[s2.length]?=some (.list (cs.map .int)):=aw
 generalize s2++[ae.list (cs.map .int)]=s3 at hcd mk3 cm3
 generalize s2.length=cd at hcd
 generalize s1.length=mk at mk3
 clear kp2 pn2 pn cm1 l31
 refine bS (bG (aL (ac (ab rfl) (ac (ab rfl) ak)) (Bt (d:=d+7) hcd (Nat.le_trans cr (by decide)) fun s4 e4 r4=>?_)))
 have up4 {r:Nat} {o:ae} (e:s3[r]?=some o):s4[r]?=some o:=by rw[e4,List.append_assoc];exact al e
 have cm4:CM s4 cm:=let⟨x,a,b⟩:=cm3;⟨x,up4 a,up4 b⟩
 have cd4:=up4 hcd
 have mk4:=up4 mk3
 clear e4 up4
 generalize s3.length+cs.length+1=b at r4
 generalize s3.length+cs.length=l at r4
 generalize List.range' s3.length cs.length=rs at r4
 refine jj (bG (fM (ab rfl) (fM (ab h60) (bu (Mb (d:=d+8) rfl rfl rfl mk4 fun m pl Cd=>a8 (OO (d:=d+3) r4.app cm4.app Cd cr hcm fun s5 l5 rs5 is5 k5 r5 p5=>?_))))))
 exact k _ _ _ _ _ _ _ _ _ _ _ ⟨uL r4.app k5 cm4.app,r4.app.up k5 (al cd4) rfl rfl,r4.app.up k5 (al mk4) rfl rfl,r5,p5,hcm,cr⟩ h60 rfl rfl rfl rfl rfl
end
theorem UP (i:In):ce 3 (ga i) (ga i)=some true:=by
 show some (i.code==i.code&&(i.mask==i.mask&&true))=some true
 rw[beq_self_eq_true,beq_self_eq_true];rfl
section
variable {d:Nat}{σ:St}{Q:AV→St→Prop}{QF:Fl→ag→St→Prop}{ρ:ag}
theorem W9 {cf:Cf}{cd:Nat}{cs:List Int}(h:σ[cd]?=some (.list (cs.map .int)))(cj:ρ 68=some (.ref cd))(hn:cs.length≤7)(q:∀l,Q (.ref (σ++l).length) (σ++l++[.list ((cs.map ji).map .int)])):
  WE cf (.lcomp [67] true .seq [.v 68] [] (xd 67)) ρ σ Q:=by
 obtain⟨l',e⟩:=BD (gd:=some (cd,.list (cs.map .int))) (xs:=[67]) (one:=true) (turn:=dA cf [] (xd 67)) (ρ:=ρ) (σ:=σ) (vs:=cs.map .int)
  (g:=fun v=>.int (ji ((bz v).getD 0))) (fun l=>bg (al h)) (fun v hv l=>by
   obtain⟨c,hc,rfl⟩:=List.mem_map.mp hv
   exact⟨_,rfl,[.dict xe],bN (IX (MU rfl ⟨rfl,rfl⟩))⟩)
 refine cO (aL (ac (ab cj) ak) (aA (cx h) (aZ e ⟨by rw[List.length_map,List.length_map];exact Nat.lt_of_le_of_lt hn (by decide),?_⟩)))
 have:=q l'
 rw[List.map_map]at this
 rw[List.map_map];exact this
theorem S8 {cm b l cd mk tag:Nat}{bk:Bool}{rs:List Nat}{is:List In}{cs:List Int}(h:SC σ cm b l cd mk tag bk rs is cs)(h60:ρ 60=some (.ref cm))(h57:ρ 57=some (.ref b))(cj:ρ 68=some (.ref cd))(h171:ρ 171=some (.ref mk))(h245:ρ 245=some (.str tag))(h114:ρ 114=some (.bool bk))
  (k:∀ρ' s,CM s cm→s[mk]?=some (.dict gD)→ρ' 60=some (.ref cm)→ρ' 171=some (.ref mk)→ρ' 245=some (.str tag)→ρ' 114=some (.bool bk)→QF .next ρ' s):WB (ao T0 (d+9)) Kj ρ σ QF:=by
 refine pS ak (bS (bG (bu (W9 (al h.hcd) cj h.len fun l1=>a8 (Oq (d:=d+7) aw (Nat.le_trans (Nat.le_of_eq (List.length_map _)) h.len) (fun c hc=>?_) fun l2 fm l8 hF=>?_)))))
 ·obtain⟨x,hx,rfl⟩:=List.mem_map.mp hc
  exact(uK true x (h.sub x hx)).2.1
 have hj:(cs.map ji).map dg=cs.map dg:=List.map_map.trans (List.map_congr_left fun c hc=>(uK true c (h.sub c hc)).1)
 rw[hj]at hF
 have Ra:σ.length<fm:=Nat.lt_of_lt_of_le iT (Nat.le_trans co (Nat.le_trans co l8))
 have uj:(σ++[ae.list []]++l1++[ae.list ((cs.map ji).map .int)]++l2)[σ.length]?=some (.list []):=al (al (al aw))
 rw[List.append_assoc,List.append_assoc,List.append_assoc]at hF uj ⊢
 generalize [ae.list []]++(l1++([ae.list ((cs.map ji).map .int)]++l2))=m at hF uj
 have Rx:=Nat.ne_of_gt (cu h.hmk)
 have QT:=Nat.ne_of_gt (cu h.hcd)
 refine cV (PB (dl:=σ.length) (mk:=mk) (fm:=fm) (cd:=cd) (tag:=tag) (bk:=bk) (F:=dH (cs.map dg)) (cs:=cs) ⟨h114,h245,rfl,h171,rfl,al h.hmk,hF,Rx,Nat.ne_of_lt Ra⟩ uj (al h.hcd) QT cj h.len ((BN _).trans (List.length_map _)) (I1 _) fun ρ3 s3 a1 a2 a3 a4=>?_)
 have up {r:Nat} {o:ae} (e:σ[r]?=some o):s3[r]?=some o:=(a4.2 r (Nat.lt_of_lt_of_le (cu e) co) (Nat.ne_of_lt (cu e))).trans (al e)
 have R3:aD s3 b l bk rs is:=h.row.move ((up h.row.buf).trans h.row.buf.symm) ((up h.row.row).trans h.row.row.symm) fun r hr=>am (h.row.infos.mem hr) fun i _ e=>(up e).trans e.symm
 have cm3:CM s3 cm:=let⟨x,e1,e2⟩:=h.hcm;⟨x,up e1,up e2⟩
 have fe:rs.length≤1000:=by
  have:=congrArg List.length h.pr
  rw[List.length_map,List.length_zipWith]at this
  have:=h.len
  have:=R3.infos.len
  lia
 refine io (iq (gG R3 ((a2 57 (by decide) (by decide) (by decide) (by decide)).trans h57) fe (fun r i e=>PN e) (aJ (ab a1.h78) (aA (v:=false) (uT aw (by rw[←h.pr]at a3;exact al a3) fun v hv=>?_) (aA (v:=false) rfl (bA rfl (bt (k _ _ cm3.app (al (up h.hmk)) ((a2 60 (by decide) (by decide) (by decide) (by decide)).trans h60) a1.h171 a1.h245 a1.h114))))))))
 obtain⟨i,_,rfl⟩:=List.mem_map.mp hv
 exact UP i
end
section
variable {d:Nat}{σ:St}{Q:AV→St→Prop}{QF:Fl→ag→St→Prop}{ρ:ag}
theorem S9 {cm mk tag:Nat}{bk:Bool}(hC:CM σ cm)(hm:σ[mk]?=some (.dict gD))(h60:ρ 60=some (.ref cm))(h171:ρ 171=some (.ref mk))(h245:ρ 245=some (.str tag))(h114:ρ 114=some (.bool bk))(k:∀ρ' s,QF (.ret (.bool true)) ρ' s):WB (ao T0 (d+9)) yD ρ σ QF:=by
 refine bS (bG (bu (c9 (aL (vs:=fU.map .int) ⟨rfl⟩ (fM (ab h114) (a8 (Bt (d:=d+7) aw (by decide) fun s4 e4 r4=>?_)))))))
 have up4 {r:Nat} {o:ae} (e:σ[r]?=some o):s4[r]?=some o:=by rw[e4,List.append_assoc];exact al (al e)
 have cm4:CM s4 cm:=let⟨x,a,b⟩:=hC;⟨x,up4 a,up4 b⟩
 have mk4:=up4 hm
 clear e4 up4
 generalize (σ++[ae.list (fU.map .int)]).length+fU.length+1=b at r4
 generalize (σ++[ae.list (fU.map .int)]).length+fU.length=l at r4
 generalize List.range' (σ++[ae.list (fU.map .int)]).length fU.length=rs at r4
 refine jj (bG (fM (ab rfl) (fM (ab h60) (bu (Mb (d:=d+8) h245 h114 h171 mk4 fun m pl Cd=>a8 (OP (d:=d+3) r4.app cm4.app Cd fun s5 l5 rs5 is5 k5 r5 p5=>?_))))))
 have iI:rs5.length≤1000:=by
  rw[r5.infos.len,←List.length_map (f:=In.code),p5,t8]
  split<;>decide
 have pe:(is5.map fun i=>AV.int i.code)=(t8 tag).map .int:=by
  rw[←p5,List.map_map];rfl
 refine eK (iq (gG r5 rfl iI (fun r i e=>jG e) (AZ (aJ (ay (t:=tag==73) (ab h245) aT rfl) (aA rfl ?_)))))
 rw[pe,t8]
 cases z:tag==73 with
 |true=>
  rw[if_pos (eq_of_beq z)]
  exact bT rfl (c9 (aL (vs:=([2367,2325,97]:List Int).map .int) ⟨rfl⟩ (aA (IT (al aw) aw w8) (k _ _))))
 |false=>
  rw[if_neg fun e=>by rw[e]at z;cases z]
  exact bA rfl (c9 (aL (vs:=([2325,2367,97]:List Int).map .int) ⟨rfl⟩ (aA (IT (al aw) aw w8) (k _ _))))
end
theorem plain_law (ns:List Int)(hn:ns.length≤63):∃σ',ao T0 20 156 [.ref 0] [.ext (ns.map .int)]=some (.bool true,σ'):=by
 have key:WC (ao T0 20) 156 [.ref 0] [.ext (ns.map .int)] fun x _=>x=.bool true:=by
  refine bM (d:=19) (A:=Kh++(Dz++(qs++yD))) rfl rfl rfl ?_
  rw[AX]
  refine S5 (d:=16) hn fun ρ σ cm cd b1 b2 l1 l2 cs rs1 rs2 QH eB cj h60 h57 uc=>?_
  show WB _ (Dz++(qs++yD)) _ _ _
  rw[AX]
  refine S6 (d:=10) QH eB cj h60 h57 uc fun ρ1 s1 pn cm1 g200 g60=>?_
  show WB _ (qs++yD) _ _ _
  rw[AX,S4,AX]
  refine S7 (d:=10) pn cm1 g200 g60 fun ρ2 s2 b l cd mk tag bk rs is cs QI f60 f57 f68 f171 f245 f114=>S8 (d:=10) QI f60 f57 f68 f171 f245 f114 fun ρ3 s3 cm3 mk3 e60 e171 e245 e114=>S9 (d:=10) cm3 mk3 e60 e171 e245 e114 fun ρ4 s4=>?_
  show(bF _ (AV.bool true,s4)).1=.bool true
  rcases lD [.ext (ns.map .int)] s4 (.bool true)with e | ⟨e,_⟩<;>rw[e]
 obtain⟨_,s,e,rfl⟩:=OK.elim key
 exact⟨s,e⟩
end Mine
theorem PySem.Challenge.cw_nz0118_01_holds : PySem.Challenge.rw_nz0118_01.Holds := by
 exact Mine.joined Mine.plain_law
