import PyProof.Rows.All
import OpenK.KLine
import KE.KDictList
import KE.KRevSl
import Wide.FinOn
import Lean
import PySem.Challenge.RW_xm0314_01
set_option linter.all false
set_option Elab.async false
set_option maxHeartbeats 1000000
set_option genSizeOf false
set_option genInjectivity false
set_option backward.match.sparseCases false
set_option bootstrap.genMatcherCode false
set_option tactic.hygienic false
open PySem PySem.W PyProof.Rows
namespace Mine
inductive V where
 | none | bool (b:Bool) | int (i:Int) | str (c:Nat) | tup (vs:List V) | loc (n:Nat) | cd (n:Nat) | ext (ns:List Int)
noncomputable abbrev Ky:=Int×Int×Option (List Int)
inductive O where
 | list (vs:List V)
 | dI (kvs:List (Int×V))
 | dS (kvs:List (Nat×V))
 | dT (kvs:List (Ky×V))
 | inst (c d:Nat)
 | ns (fs:List (Nat×V))
noncomputable abbrev Store:=List O
noncomputable abbrev Rho:=List (Option V)
noncomputable abbrev Post:=V→Store→Prop
noncomputable abbrev Calls:=Nat→List V→Store→Post→Prop
inductive BOp | add | sub | mul | div | mod | pow | band
inductive COp | eq | ne | lt | le | gt | ge | is | isnot | inn | notin
set_option genCtorIdx false
mutual
inductive ME where
 | stuck
 | lit (v:V)
 | var (i:Nat)
 | bop (o:BOp) (a b:ME)
 | neg (a:ME)
 | not (a:ME)
 | andE (es:List ME)
 | orE (es:List ME)
 | cmp (o:COp) (a b:ME)
 | ite (c:MC) (a b:ME)
 | tup (es:List ME)
 | list (es:List ME)
 | dict (sort:Nat) (kvs:List ME)
 | attr (e:ME) (f:Nat)
 | sub (e i:ME)
 | rev (e:ME)
 | from_ (e lo:ME)
 | to_ (e hi:ME)
 | call (f:Nat) (es:List ME)
 | new (c:Nat) (es:List ME)
 | meth (e:ME) (m:Nat) (es:List ME)
 | append (e x:ME)
 | pop (e:ME)
 | get1 (e k:ME)
 | get2 (e k d:ME)
 | len (e:ME)
 | listOf (e:ME)
 | tupOf (e:ME)
 | comp (x:Nat) (it:ME) (conds:List MC) (elt:ME)
inductive MC where
 | ex (e:ME)
 | not (c:MC)
 | all (cs:List MC)
 | any (cs:List MC)
 | ite (c a b:MC)
end
inductive MS where
 | stuck
 | assign (x:Nat) (e:ME)
 | unpack (xs:List Nat) (e:ME)
 | setattr (o:ME) (f:Nat) (e:ME)
 | setitem (o k e:ME)
 | aug (x:Nat) (op:BOp) (e:ME)
 | expr (e:ME)
 | ret (e:ME)
 | ifS (c:MC) (t f:List MS)
 | whileS (c:MC) (b:List MS)
 | forS (xs:Nat ⊕ List Nat) (e:ME) (b:List MS)
 | forR (x:Nat) (e:ME) (b:List MS)
 | tryS (b:List MS)
 | cont
noncomputable def cdTab:Nat→List (Int×V)
 | 0=>[(0,.int 20),(1,.int 9),(2,.int 10),(3,.int 11),(4,.int 12),(5,.int 13),(6,.int 14),(7,.int 15),(8,.int 16),(9,.int 17),(10,.int 18),(11,.int 19),(12,.int 1),(13,.int 4)]
 | 1=>[(20,.int 0),(9,.int 1),(10,.int 2),(11,.int 3),(12,.int 4),(13,.int 5),(14,.int 6),(15,.int 7),(16,.int 8),(17,.int 9),(18,.int 10),(19,.int 11),(1,.int 12),(4,.int 13)]
 | 2=>[(1,.tup [.int 0,.int 255]),(2,.tup [.int 0,.int 65535]),(3,.tup [.int (-128),.int 127]),(4,.tup [.int 0,.int 255]),(5,.tup [.int (-32768),.int 32767]),(6,.tup [.int 0,.int 65535]),
   (7,.tup [.int (-2147483648),.int 2147483647]),(8,.tup [.int 0,.int 4294967295]),(9,.tup [.int (-9223372036854775808),.int 9223372036854775807]),(10,.tup [.int 0,.int 18446744073709551615]),(11,.tup [.int (-2147483648),.int 2147483647])]
 | 3=>[(4,.int 3),(6,.int 5),(8,.int 7),(10,.int 9)]
 | 4=>[(3,.tup [.int 5,.int 7,.int 9]),(4,.tup [.int 5,.int 6,.int 7,.int 8,.int 9,.int 10]),(5,.tup [.int 7,.int 9]),(6,.tup [.int 7,.int 8,.int 9,.int 10]),(7,.tup [.int 9]),(8,.tup [.int 9,.int 10]),(2,.tup [.int 6,.int 7,.int 8,.int 9,.int 10])]
 | 5=>[(3,.tup [.int 4,.int 6,.int 8,.int 10]),(5,.tup [.int 6,.int 8,.int 10]),(7,.tup [.int 8,.int 10]),(9,.tup [.int 10])]
 | _=>[]
noncomputable def eqf:V→V→Option Bool
 | .none,.none=>some true
 | .none,.int _=>some false
 | .int _,.none=>some false
 | .bool a,.bool b=>some (a==b)
 | .int a,.int b=>some (a==b)
 | _,_=>none
noncomputable def eqfs:List V→List V→Option Bool
 | [],[]=>some true
 | x :: xs,y :: ys=>(eqf x y).bind fun a=>(eqfs xs ys).map fun b=>a&&b
 | _,_=>some false
noncomputable def eqv:V→V→Option Bool
 | .tup a,.tup b=>eqfs a b
 | a,b=>eqf a b
noncomputable def nev:V→V→Option Bool
 | .tup a,.tup b=>eqfs a b
 | .bool a,.bool b=>some (a==b)
 | .int a,.int b=>some (a==b)
 | _,_=>none
noncomputable def intsOf:List V→Option (List Int)
 | []=>some []
 | .int i :: r=>(intsOf r).map (i :: ·)
 | _=>none
noncomputable def boolsOf:List V→Option (List Bool)
 | []=>some []
 | .bool i :: r=>(boolsOf r).map (i :: ·)
 | _=>none
noncomputable def anyEq:V→List V→Option Bool
 | .int k,vs=>(intsOf vs).map fun l=>l.contains k
 | .bool k,vs=>(boolsOf vs).map fun l=>l.contains k
 | _,_=>none
noncomputable def agets {K:Type} [DecidableEq K] (kvs:List (K×V)) (k:K):Option V:=(kvs.find? fun p=>decide (p.1=k)).map (·.2)
noncomputable def asets {K:Type} [DecidableEq K] (kvs:List (K×V)) (k:K) (v:V):List (K×V):=
 if kvs.any (fun p=>decide (p.1=k)) then kvs.map (fun p=>if p.1=k then (p.1,v) else p) else kvs++[(k,v)]
noncomputable def kyOf:V→Option Ky
 | .tup [.int a,.int b]=>some (a,b,none)
 | .tup [.int a,.int b,.tup l]=>(intsOf l).map fun l=>(a,b,some l)
 | _=>none
noncomputable def lookO (σ:Store) (d k:V):Option (Option V):=
 match d,k with
 | .cd n,.int i=>some (agets (cdTab n) i)
 | .loc l,.int i=>(match σ[l]? with
  | some (.dI kvs)=>some (agets kvs i)
  | _=>none)
 | .loc l,.str c=>(match σ[l]? with
  | some (.dS kvs)=>some (agets kvs c)
  | _=>none)
 | .loc l,.tup vs=>(match σ[l]?,kyOf (.tup vs) with
  | some (.dT kvs),some ky=>some (agets kvs ky)
  | _,_=>none)
 | _,_=>none
noncomputable def isDict (σ:Store):V→Bool
 | .cd _=>true
 | .loc l=>(match σ[l]? with | some (.dI _) | some (.dS _) | some (.dT _)=>true | _=>false)
 | _=>false
noncomputable def line:Nat:=1000000
inductive bopI (σ:Store) (Q:Post):BOp→V→V→Prop
 | addI {x y:Int} (q:Q (.int (x+y)) σ):bopI σ Q .add (.int x) (.int y)
 | addT {x y:List V} (h:x.length+y.length≤line) (q:Q (.tup (x++y)) σ):bopI σ Q .add (.tup x) (.tup y)
 | addL {i j:Nat} {x y:List V} (h1:σ[i]?=some (.list x)) (h2:σ[j]?=some (.list y)) (h:x.length+y.length≤line) (q:Q (.loc σ.length) (σ++[.list (x++y)])):bopI σ Q .add (.loc i) (.loc j)
 | sub {x y:Int} (q:Q (.int (x - y)) σ):bopI σ Q .sub (.int x) (.int y)
 | mul {x y:Int} (h1:x.natAbs < 2 ^ 62) (h2:y.natAbs < 2 ^ 62) (q:Q (.int (x * y)) σ):bopI σ Q .mul (.int x) (.int y)
 | div {x y:Int} (h1:0 < y) (h2:y < 2 ^ 30) (q:Q (.int (x / y)) σ):bopI σ Q .div (.int x) (.int y)
 | mod {x y:Int} (h:0 < y) (q:Q (.int (x % y)) σ):bopI σ Q .mod (.int x) (.int y)
 | pow {x y:Int} (h1:x=12) (h2:0≤y) (h3:y < 4) (q:Q (.int (x ^ y.toNat)) σ):bopI σ Q .pow (.int x) (.int y)
 | band {x y:Int} (h:0≤x∧x < 4∧0≤y∧y < 4) (q:Q (.int ((x.toNat &&& y.toNat:Nat):Int)) σ):bopI σ Q .band (.int x) (.int y)
noncomputable abbrev bopR (o:BOp) (a b:V) (σ:Store) (Q:Post):Prop:=bopI σ Q o a b
inductive inI (σ:Store) (Q:Bool→Prop) (a:V):V→Prop
 | tup {vs:List V} {r:Bool} (h:anyEq a vs=some r) (q:Q r):inI σ Q a (.tup vs)
 | list {l:Nat} {vs:List V} {r:Bool} (hl:σ[l]?=some (.list vs)) (h:anyEq a vs=some r) (q:Q r):inI σ Q a (.loc l)
 | look {b:V} {r:Option V} (h:lookO σ b a=some r) (q:Q r.isSome):inI σ Q a b
noncomputable abbrev inR (a b:V) (σ:Store) (Q:Bool→Prop):Prop:=inI σ Q a b
inductive cmpI (σ:Store) (Q:Post):COp→V→V→Prop
 | eq {a b:V} {r:Bool} (h:eqv a b=some r) (q:Q (.bool r) σ):cmpI σ Q .eq a b
 | ne {a b:V} {r:Bool} (h:nev a b=some r) (q:Q (.bool (!r)) σ):cmpI σ Q .ne a b
 | lt {x y:Int} (q:Q (.bool (decide (x < y))) σ):cmpI σ Q .lt (.int x) (.int y)
 | le {x y:Int} (q:Q (.bool (decide (x≤y))) σ):cmpI σ Q .le (.int x) (.int y)
 | gt {x y:Int} (q:Q (.bool (decide (x > y))) σ):cmpI σ Q .gt (.int x) (.int y)
 | ge {x y:Int} (q:Q (.bool (decide (x≥y))) σ):cmpI σ Q .ge (.int x) (.int y)
 | isN (q:Q (.bool true) σ):cmpI σ Q .is .none .none
 | isI {x:Int} (q:Q (.bool false) σ):cmpI σ Q .is (.int x) .none
 | isnN (q:Q (.bool false) σ):cmpI σ Q .isnot .none .none
 | isnI {x:Int} (q:Q (.bool true) σ):cmpI σ Q .isnot (.int x) .none
 | inn {a b:V} (h:inI σ (fun r=>Q (.bool r) σ) a b):cmpI σ Q .inn a b
 | notin {a b:V} (h:inI σ (fun r=>Q (.bool (!r)) σ) a b):cmpI σ Q .notin a b
noncomputable abbrev cmpR (o:COp) (a b:V) (σ:Store) (Q:Post):Prop:=cmpI σ Q o a b
inductive truthLI (σ:Store) (Q:Bool→Prop):V→Prop
 | mk {l:Nat} {vs:List V} (h:σ[l]?=some (.list vs)) (h2:vs.length≤line) (q:Q (!vs.isEmpty)):truthLI σ Q (.loc l)
noncomputable abbrev truthL (v:V) (σ:Store) (Q:Bool→Prop):Prop:=truthLI σ Q v
@[irreducible] noncomputable def truthI (i:Int) (Q:Bool→Prop):Prop:=Q (i != 0)
noncomputable abbrev truthR (v:V) (σ:Store) (Q:Bool→Prop):Prop:=
 match v with
 | .bool b=>Q b
 | .int i=>truthI i Q
 | .loc l=>truthL (.loc l) σ Q
 | _=>False
noncomputable def seqOf (σ:Store):V→Option (List V)
 | .tup vs=>some vs
 | .loc l=>(match σ[l]? with | some (.list vs)=>some vs | _=>none)
 | _=>none
noncomputable def itemsOf (σ:Store):V→Option (List V)
 | .tup vs=>some vs
 | .loc l=>(match σ[l]? with
  | some (.list vs)=>some vs
  | some (.dI kvs)=>some (kvs.map fun p=>.int p.1)
  | _=>none)
 | _=>none
inductive subI (σ:Store) (Q:Post):V→V→Prop
 | at_ {e:V} {vs:List V} {k:Int} {v:V} (h:seqOf σ e=some vs) (h0:0≤k) (h2:vs.length≤line) (h3:vs[k.toNat]?=some v) (q:Q v σ):subI σ Q e (.int k)
 | look {e i v:V} (hn:seqOf σ e=none) (h:lookO σ e i=some (some v)) (q:Q v σ):subI σ Q e i
noncomputable abbrev subR (e i:V) (σ:Store) (Q:Post):Prop:=subI σ Q e i
inductive attrI (σ:Store) (Q:Post) (f:Nat):V→Prop
 | mk {l c d:Nat} {fs:List (Nat×V)} {v:V} (h1:σ[l]?=some (.inst c d)) (h2:σ[d]?=some (.ns fs)) (h3:agets fs f=some v) (q:Q v σ):attrI σ Q f (.loc l)
noncomputable abbrev attrR (e:V) (f:Nat) (σ:Store) (Q:Post):Prop:=attrI σ Q f e
inductive listI (σ:Store) (Q:List V→Prop):V→Prop
 | list {l:Nat} {vs:List V} (h:σ[l]?=some (.list vs)) (h2:vs.length≤line) (q:Q vs):listI σ Q (.loc l)
 | ext {ns:List Int} (h2:ns.length≤line) (q:Q (ns.map .int)):listI σ Q (.ext ns)
noncomputable abbrev listR (e:V) (σ:Store) (Q:List V→Prop):Prop:=listI σ Q e
noncomputable def methFn (c m:Nat):Option Nat:=
 match c,m with
 | 0,0=>some 101
 | 0,1=>some 102
 | 1,2=>some 104
 | 1,3=>some 105
 | 1,4=>some 106
 | 1,5=>some 107
 | 1,6=>some 108
 | _,_=>none
noncomputable def initFn (c:Nat):Nat:=
 match c with
 | 0=>100
 | 1=>103
 | _=>109
noncomputable def listAt (σ:Store) (l:Nat):Option (List V):=match σ[l]? with | some (.list vs)=>some vs | _=>none
noncomputable def dictI:List V→Option (List (Int×V))
 | []=>some []
 | .int k :: v :: r=>(dictI r).map ((k,v) :: ·)
 | _=>none
noncomputable def dictS:List V→Option (List (Nat×V))
 | []=>some []
 | .str k :: v :: r=>(dictS r).map ((k,v) :: ·)
 | _=>none
inductive dictRI (σ:Store) (Q:Post):Nat→List V→Prop
 | int {kvs:List V} {l:List (Int×V)} (h1:kvs.length≤30) (h:dictI kvs=some l) (h2:(l.map (·.1)).Nodup) (q:Q (.loc σ.length) (σ++[.dI l])):dictRI σ Q 0 kvs
 | str {kvs:List V} {l:List (Nat×V)} (h1:kvs.length≤30) (h:dictS kvs=some l) (h2:(l.map (·.1)).Nodup) (q:Q (.loc σ.length) (σ++[.dS l])):dictRI σ Q 1 kvs
 | tup {s:Nat} (q:Q (.loc σ.length) (σ++[.dT []])):dictRI σ Q s []
noncomputable abbrev dictR (sort:Nat) (kvs:List V) (σ:Store) (Q:Post):Prop:=dictRI σ Q sort kvs
inductive methI (σ:Store) (K:Nat→Prop) (m:Nat):V→Prop
 | mk {l c d f:Nat} {fs:List (Nat×V)} (h1:σ[l]?=some (.inst c d)) (h2:σ[d]?=some (.ns fs)) (h3:methFn c m=some f) (q:K f):methI σ K m (.loc l)
noncomputable abbrev methR (v:V) (m:Nat) (σ:Store) (K:Nat→Prop):Prop:=methI σ K m v
inductive appR (l:Nat) (y:V) (σ:Store) (Q:Post):Prop
 | mk {vs:List V} (h:σ[l]?=some (.list vs)) (h2:vs.length≤line) (q:Q .none (σ.set l (.list (vs++[y])))):appR l y σ Q
inductive popI (σ:Store) (Q:Post):V→Prop
 | mk {l:Nat} {vs:List V} {x:V} (h:σ[l]?=some (.list vs)) (h2:vs.length≤line) (h3:vs.getLast?=some x) (q:Q x (σ.set l (.list vs.dropLast))):popI σ Q (.loc l)
noncomputable abbrev popR (v:V) (σ:Store) (Q:Post):Prop:=popI σ Q v
inductive lookR (v y:V) (σ:Store) (K:Option V→Prop):Prop
 | mk {r:Option V} (h:lookO σ v y=some r) (q:K r):lookR v y σ K
inductive seqR (v:V) (σ:Store) (K:List V→Prop):Prop
 | mk {vs:List V} (h:seqOf σ v=some vs) (q:K vs):seqR v σ K
inductive itemsR (v:V) (σ:Store) (K:List V→Prop):Prop
 | mk {vs:List V} (h:itemsOf σ v=some vs) (q:K vs):itemsR v σ K
noncomputable def compItems (cond:V→Rho→Store→(Bool→Store→Prop)→Prop) (elt:V→Rho→Store→Post→Prop) (src:Store→Prop) (acc:Nat) (ρ:Rho):List V→List V→Store→(Store→Prop)→Prop
 | [],out,σ,Q=>src σ∧σ[acc]?=some (.list out)∧Q σ
 | x :: xs,out,σ,Q=>src σ∧σ[acc]?=some (.list out)∧out.length≤line∧cond x ρ σ fun b σ=>
   match b with
   | false=>compItems cond elt src acc ρ xs out σ Q
   | true=>elt x ρ σ fun v σ=>σ[acc]?=some (.list out)∧compItems cond elt src acc ρ xs (out++[v]) (σ.set acc (.list (out++[v]))) Q
noncomputable def srcOk (v:V) (σ₀:Store) (σ:Store):Prop:=
 match v with
 | .loc l=>σ[l]?=σ₀[l]?
 | _=>True
noncomputable abbrev ifK {τ:Type}(A B:Rho→Store→τ→Prop) (ρ:Rho) (Q:τ):Bool→Store→Prop:=fun b σ=>match b with | true=>A ρ σ Q | false=>B ρ σ Q
noncomputable abbrev tstK (Q:Bool→Store→Prop):Post:=fun v σ=>truthR v σ fun b=>Q b σ
noncomputable abbrev notK (Q:Bool→Store→Prop):Bool→Store→Prop:=fun b σ=>Q (!b) σ
noncomputable abbrev allK (W:Rho→Store→(Bool→Store→Prop)→Prop) (ρ:Rho) (Q:Bool→Store→Prop):Bool→Store→Prop:=fun b σ=>match b with | true=>W ρ σ Q | false=>Q false σ
noncomputable abbrev anyK (W:Rho→Store→(Bool→Store→Prop)→Prop) (ρ:Rho) (Q:Bool→Store→Prop):Bool→Store→Prop:=fun b σ=>match b with | false=>W ρ σ Q | true=>Q true σ
noncomputable abbrev andK (W:Rho→Store→Post→Prop) (ρ:Rho) (Q:Post):Post:=fun v σ=>truthR v σ fun b=>(match b with | true=>W ρ σ Q | false=>Q v σ)
noncomputable abbrev orK (W:Rho→Store→Post→Prop) (ρ:Rho) (Q:Post):Post:=fun v σ=>truthR v σ fun b=>(match b with | false=>W ρ σ Q | true=>Q v σ)
noncomputable abbrev binK (W:Rho→Store→Post→Prop) (op:V→V→Store→Post→Prop) (ρ:Rho) (Q:Post):Post:=fun x σ=>W ρ σ fun y σ=>op x y σ Q
noncomputable abbrev negK (Q:Post):Post:=fun x σ=>(match x with | .int i=>Q (.int (-i)) σ | _=>False)
noncomputable abbrev nopK (Q:Post):Post:=fun x σ=>truthR x σ fun b=>Q (.bool (!b)) σ
noncomputable abbrev tupK (Q:Post):List V→Store→Prop:=fun vs σ=>vs.length≤line∧Q (.tup vs) σ
noncomputable abbrev lstK (Q:Post):List V→Store→Prop:=fun vs σ=>vs.length≤line∧Q (.loc σ.length) (σ++[.list vs])
noncomputable abbrev dctK (sort:Nat) (Q:Post):List V→Store→Prop:=fun kvs σ=>dictR sort kvs σ Q
noncomputable abbrev atK (f:Nat) (Q:Post):Post:=fun v σ=>attrR v f σ Q
noncomputable abbrev revK (Q:Post):Post:=fun v σ=>listR v σ fun vs=>Q (.loc σ.length) (σ++[.list vs.reverse])
noncomputable abbrev fromR (v k:V) (σ:Store) (Q:Post):Prop:=match k with | .int i=>0≤i∧i < 64∧listR v σ fun vs=>Q (.loc σ.length) (σ++[.list (vs.drop i.toNat)]) | _=>False
noncomputable abbrev toR (v k:V) (σ:Store) (Q:Post):Prop:=match k with | .int i=>0≤i∧i < 64∧listR v σ fun vs=>Q (.loc σ.length) (σ++[.list (vs.take i.toNat)]) | _=>False
noncomputable abbrev callK (Φ:Calls) (f:Nat) (Q:Post):List V→Store→Prop:=fun vs σ=>Φ f vs σ Q
noncomputable abbrev newK (Φ:Calls) (c:Nat) (Q:Post):List V→Store→Prop:=fun vs σ=>Φ (initFn c) (.loc (σ.length+1) :: vs) (σ++[.ns [],.inst c σ.length]) fun r σ'=>r = .none∧Q (.loc (σ.length+1)) σ'
noncomputable abbrev metK (Φ:Calls) (W:Rho→Store→(List V→Store→Prop)→Prop) (m:Nat) (ρ:Rho) (Q:Post):Post:=fun v σ=>methR v m σ fun f=>W ρ σ fun vs σ=>Φ f (v :: vs) σ Q
noncomputable abbrev appK (W:Rho→Store→Post→Prop) (ρ:Rho) (Q:Post):Post:=fun v σ=>(match v with
 | .loc l=>(listAt σ l).isSome=true∧W ρ σ fun y σ=>appR l y σ Q
 | _=>False)
noncomputable abbrev popK (Q:Post):Post:=fun v σ=>popR v σ Q
noncomputable abbrev g1K (W:Rho→Store→Post→Prop) (ρ:Rho) (Q:Post):Post:=fun v σ=>isDict σ v=true∧W ρ σ fun y σ=>lookR v y σ fun r=>Q (r.getD .none) σ
noncomputable abbrev g2K (W W':Rho→Store→Post→Prop) (ρ:Rho) (Q:Post):Post:=fun v σ=>isDict σ v=true∧W ρ σ fun y σ=>W' ρ σ fun z σ=>lookR v y σ fun r=>Q (r.getD z) σ
noncomputable abbrev lenK (Q:Post):Post:=fun v σ=>seqR v σ fun vs=>vs.length≤line∧Q (.int vs.length) σ
noncomputable abbrev lofK (Q:Post):Post:=fun v σ=>itemsR v σ fun vs=>vs.length≤line∧Q (.loc σ.length) (σ++[.list vs])
noncomputable abbrev tofK (Q:Post):Post:=fun v σ=>listR v σ fun vs=>Q (.tup vs) σ
noncomputable abbrev cmpK (W:Rho→Store→(Bool→Store→Prop)→Prop) (W':Rho→Store→Post→Prop) (x:Nat) (ρ:Rho) (Q:Post):Post:=fun v σ=>itemsR v σ fun items=>
 compItems (fun y ρ σ' K=>W (ρ.set x (some y)) σ' K) (fun y ρ σ' K=>W' (ρ.set x (some y)) σ' K) (srcOk v σ) σ.length ρ items [] (σ++[.list []]) fun σ'=>Q (.loc σ.length) σ'
noncomputable abbrev consK (W:Rho→Store→(List V→Store→Prop)→Prop) (ρ:Rho) (Q:List V→Store→Prop):Post:=fun v σ=>W ρ σ fun vs σ=>Q (v :: vs) σ
mutual
noncomputable def wpE (Φ:Calls):ME→Rho→Store→Post→Prop
 | .stuck,_,_,_=>False
 | .lit v,_,σ,Q=>Q v σ
 | .var i,ρ,σ,Q=>(match ρ[i]? with | some (some v)=>Q v σ | _=>False)
 | .bop o a b,ρ,σ,Q=>wpE Φ a ρ σ (binK (wpE Φ b) (bopR o) ρ Q)
 | .neg a,ρ,σ,Q=>wpE Φ a ρ σ (negK Q)
 | .not a,ρ,σ,Q=>wpE Φ a ρ σ (nopK Q)
 | .andE es,ρ,σ,Q=>wpAnd Φ es ρ σ Q
 | .orE es,ρ,σ,Q=>wpOr Φ es ρ σ Q
 | .cmp o a b,ρ,σ,Q=>wpE Φ a ρ σ (binK (wpE Φ b) (cmpR o) ρ Q)
 | .ite c a b,ρ,σ,Q=>wpC Φ c ρ σ (ifK (wpE Φ a) (wpE Φ b) ρ Q)
 | .tup es,ρ,σ,Q=>wpEs Φ es ρ σ (tupK Q)
 | .list es,ρ,σ,Q=>wpEs Φ es ρ σ (lstK Q)
 | .dict sort kvs,ρ,σ,Q=>wpEs Φ kvs ρ σ (dctK sort Q)
 | .attr e f,ρ,σ,Q=>wpE Φ e ρ σ (atK f Q)
 | .sub e i,ρ,σ,Q=>wpE Φ e ρ σ (binK (wpE Φ i) subR ρ Q)
 | .rev e,ρ,σ,Q=>wpE Φ e ρ σ (revK Q)
 | .from_ e lo,ρ,σ,Q=>wpE Φ e ρ σ (binK (wpE Φ lo) fromR ρ Q)
 | .to_ e hi,ρ,σ,Q=>wpE Φ e ρ σ (binK (wpE Φ hi) toR ρ Q)
 | .call f es,ρ,σ,Q=>wpEs Φ es ρ σ (callK Φ f Q)
 | .new c es,ρ,σ,Q=>wpEs Φ es ρ σ (newK Φ c Q)
 | .meth e m es,ρ,σ,Q=>wpE Φ e ρ σ (metK Φ (wpEs Φ es) m ρ Q)
 | .append e x,ρ,σ,Q=>wpE Φ e ρ σ (appK (wpE Φ x) ρ Q)
 | .pop e,ρ,σ,Q=>wpE Φ e ρ σ (popK Q)
 | .get1 e k,ρ,σ,Q=>wpE Φ e ρ σ (g1K (wpE Φ k) ρ Q)
 | .get2 e k d,ρ,σ,Q=>wpE Φ e ρ σ (g2K (wpE Φ k) (wpE Φ d) ρ Q)
 | .len e,ρ,σ,Q=>wpE Φ e ρ σ (lenK Q)
 | .listOf e,ρ,σ,Q=>wpE Φ e ρ σ (lofK Q)
 | .tupOf e,ρ,σ,Q=>wpE Φ e ρ σ (tofK Q)
 | .comp x it conds elt,ρ,σ,Q=>wpE Φ it ρ σ (cmpK (wpAll Φ conds) (wpE Φ elt) x ρ Q)
noncomputable def wpEs (Φ:Calls):List ME→Rho→Store→(List V→Store→Prop)→Prop
 | [],_,σ,Q=>Q [] σ
 | e :: es,ρ,σ,Q=>wpE Φ e ρ σ (consK (wpEs Φ es) ρ Q)
noncomputable def wpAnd (Φ:Calls):List ME→Rho→Store→Post→Prop
 | [],_,_,_=>False
 | e :: es,ρ,σ,Q=>(match es with
  | []=>wpE Φ e ρ σ Q
  | _ :: _=>wpE Φ e ρ σ (andK (wpAnd Φ es) ρ Q))
noncomputable def wpOr (Φ:Calls):List ME→Rho→Store→Post→Prop
 | [],_,_,_=>False
 | e :: es,ρ,σ,Q=>(match es with
  | []=>wpE Φ e ρ σ Q
  | _ :: _=>wpE Φ e ρ σ (orK (wpOr Φ es) ρ Q))
noncomputable def wpC (Φ:Calls):MC→Rho→Store→(Bool→Store→Prop)→Prop
 | .ex e,ρ,σ,Q=>wpE Φ e ρ σ (tstK Q)
 | .not c,ρ,σ,Q=>wpC Φ c ρ σ (notK Q)
 | .all cs,ρ,σ,Q=>wpAll Φ cs ρ σ Q
 | .any cs,ρ,σ,Q=>wpAny' Φ cs ρ σ Q
 | .ite c a b,ρ,σ,Q=>wpC Φ c ρ σ (ifK (wpC Φ a) (wpC Φ b) ρ Q)
noncomputable def wpAll (Φ:Calls):List MC→Rho→Store→(Bool→Store→Prop)→Prop
 | [],_,σ,Q=>Q true σ
 | c :: cs,ρ,σ,Q=>wpC Φ c ρ σ (allK (wpAll Φ cs) ρ Q)
noncomputable def wpAny' (Φ:Calls):List MC→Rho→Store→(Bool→Store→Prop)→Prop
 | [],_,σ,Q=>Q false σ
 | c :: cs,ρ,σ,Q=>wpC Φ c ρ σ (anyK (wpAny' Φ cs) ρ Q)
end
inductive setattrI (f:Nat) (u:V) (σ:Store) (Q:Store→Prop):V→Prop
 | mk {l c d:Nat} {fs:List (Nat×V)} (h1:σ[l]?=some (.inst c d)) (h2:σ[d]?=some (.ns fs)) (h3:fs.length≤30) (q:Q (σ.set d (.ns (asets fs f u)))):setattrI f u σ Q (.loc l)
noncomputable abbrev setattrR (t:V) (f:Nat) (u:V) (σ:Store) (Q:Store→Prop):Prop:=setattrI f u σ Q t
inductive setitemI (u:V) (σ:Store) (Q:Store→Prop):V→V→Prop
 | int {l:Nat} {kvs:List (Int×V)} {i:Int} (h:σ[l]?=some (.dI kvs)) (h2:kvs.length≤line) (q:Q (σ.set l (.dI (asets kvs i u)))):setitemI u σ Q (.loc l) (.int i)
 | str {l:Nat} {kvs:List (Nat×V)} {c:Nat} (h:σ[l]?=some (.dS kvs)) (h2:kvs.length≤line) (q:Q (σ.set l (.dS (asets kvs c u)))):setitemI u σ Q (.loc l) (.str c)
 | tup {l:Nat} {kvs:List (Ky×V)} {y:V} {ky:Ky} (h:σ[l]?=some (.dT kvs)) (h2:kvs.length≤line) (hk:kyOf y=some ky) (q:Q (σ.set l (.dT (asets kvs ky u)))):setitemI u σ Q (.loc l) y
noncomputable abbrev setitemR (t k u:V) (σ:Store) (Q:Store→Prop):Prop:=setitemI u σ Q t k
inductive Out | nx | cont | ret (v:V)
noncomputable abbrev PostS:=Out→Rho→Store→Prop
noncomputable def forItems (src:Store→Prop) (step:V→Rho→Store→PostS→Prop):List V→Rho→Store→PostS→Prop
 | [],ρ,σ,Q=>src σ∧Q .nx ρ σ
 | x :: xs,ρ,σ,Q=>src σ∧step x ρ σ fun o ρ σ=>(match o with
  | .nx=>forItems src step xs ρ σ Q
  | .cont=>forItems src step xs ρ σ Q
  | .ret v=>Q (.ret v) ρ σ)
noncomputable def setAll:List Nat→List V→Rho→Rho
 | i :: is,v :: vs,ρ=>setAll is vs (ρ.set i (some v))
 | _,_,ρ=>ρ
noncomputable abbrev bindR (σ:Store) (xs:Nat ⊕ List Nat) (v:V) (ρ:Rho) (Q:Rho→Prop):Prop:=
 match xs with
 | .inl i=>Q (ρ.set i (some v))
 | .inr is=>(match seqOf σ v with
  | some vs=>vs.length=is.length∧Q (setAll is vs ρ)
  | none=>False)
noncomputable abbrev seqK (W:Rho→Store→PostS→Prop) (Q:PostS):PostS:=fun o ρ σ=>match o with
 | .nx=>W ρ σ Q
 | .cont=>Q .cont ρ σ
 | .ret v=>Q (.ret v) ρ σ
noncomputable abbrev rtn (Q:Post):PostS:=fun o Z σ=>match o with
 | .nx=>Q .none σ
 | .cont=>False
 | .ret v=>Q v σ
noncomputable abbrev asgK (x:Nat) (ρ:Rho) (Q:PostS):Post:=fun v σ=>Q .nx (ρ.set x (some v)) σ
noncomputable abbrev unpK (xs:List Nat) (ρ:Rho) (Q:PostS):Post:=fun v σ=>bindR σ (.inr xs) v ρ fun ρ=>Q .nx ρ σ
noncomputable abbrev satK (W:Rho→Store→Post→Prop) (f:Nat) (ρ:Rho) (Q:PostS):Post:=fun v σ=>W ρ σ fun t σ=>setattrR t f v σ fun σ=>Q .nx ρ σ
noncomputable abbrev sitK (W W':Rho→Store→Post→Prop) (ρ:Rho) (Q:PostS):Post:=fun v σ=>W ρ σ fun t σ=>W' ρ σ fun y σ=>setitemR t y v σ fun σ=>Q .nx ρ σ
noncomputable abbrev augK (x:Nat) (i:Int) (op:BOp) (ρ:Rho) (Q:PostS):Post:=fun v σ=>(match op,v with
 | .add,.int j=>Q .nx (ρ.set x (some (.int (i+j)))) σ
 | _,_=>False)
noncomputable abbrev expK (ρ:Rho) (Q:PostS):Post:=fun Z σ=>Q .nx ρ σ
noncomputable abbrev retK (ρ:Rho) (Q:PostS):Post:=fun v σ=>Q (.ret v) ρ σ
noncomputable abbrev stpK (W:Rho→Store→PostS→Prop) (xs:Nat ⊕ List Nat):V→Rho→Store→PostS→Prop:=fun y ρ σ' K=>bindR σ' xs y ρ fun ρ=>W ρ σ' K
noncomputable abbrev strK (W:Rho→Store→PostS→Prop) (x:Nat):V→Rho→Store→PostS→Prop:=fun y ρ σ' K=>W (ρ.set x (some y)) σ' K
noncomputable abbrev forK (W:Rho→Store→PostS→Prop) (xs:Nat ⊕ List Nat) (ρ:Rho) (Q:PostS):Post:=fun v σ=>itemsR v σ fun items=>items.length≤line∧forItems (srcOk v σ) (stpK W xs) items ρ σ Q
noncomputable abbrev frgK (W:Rho→Store→PostS→Prop) (x:Nat) (ρ:Rho) (Q:PostS):Post:=fun v σ=>(match v with
 | .int n=>(0≤n∧n≤1000000)∧forItems (fun Z=>True) (strK W x) ((List.range n.toNat).map fun i:Nat=>V.int (i:Int)) ρ σ Q
 | _=>False)
mutual
noncomputable def wpS (Φ:Calls):MS→Rho→Store→PostS→Prop
 | .stuck,_,_,_=>False
 | .assign x e,ρ,σ,Q=>wpE Φ e ρ σ (asgK x ρ Q)
 | .unpack xs e,ρ,σ,Q=>wpE Φ e ρ σ (unpK xs ρ Q)
 | .setattr o f e,ρ,σ,Q=>wpE Φ e ρ σ (satK (wpE Φ o) f ρ Q)
 | .setitem o k e,ρ,σ,Q=>wpE Φ e ρ σ (sitK (wpE Φ o) (wpE Φ k) ρ Q)
 | .aug x op e,ρ,σ,Q=>(match ρ[x]? with
   | some (some (.int i))=>wpE Φ e ρ σ (augK x i op ρ Q)
   | _=>False)
 | .expr e,ρ,σ,Q=>wpE Φ e ρ σ (expK ρ Q)
 | .ret e,ρ,σ,Q=>wpE Φ e ρ σ (retK ρ Q)
 | .ifS c t f,ρ,σ,Q=>wpC Φ c ρ σ (ifK (wpSs Φ t) (wpSs Φ f) ρ Q)
 | .whileS c b,ρ,σ,Q=>∃I:Nat→Rho→Store→Prop,(∃n,I n ρ σ)∧∀n ρ σ,I n ρ σ→wpC Φ c ρ σ fun t σ=>(match t with
   | true=>wpSs Φ b ρ σ fun o ρ σ=>(match o with
    | .nx=>∃m,m < n∧I m ρ σ
    | .cont=>∃m,m < n∧I m ρ σ
    | .ret v=>Q (.ret v) ρ σ)
   | false=>Q .nx ρ σ)
 | .forS xs e b,ρ,σ,Q=>wpE Φ e ρ σ (forK (wpSs Φ b) xs ρ Q)
 | .forR x e b,ρ,σ,Q=>wpE Φ e ρ σ (frgK (wpSs Φ b) x ρ Q)
 | .tryS b,ρ,σ,Q=>wpSs Φ b ρ σ Q
 | .cont,ρ,σ,Q=>Q .cont ρ σ
noncomputable def wpSs (Φ:Calls):List MS→Rho→Store→PostS→Prop
 | [],ρ,σ,Q=>Q .nx ρ σ
 | s :: ss,ρ,σ,Q=>wpS Φ s ρ σ (seqK (wpSs Φ ss) Q)
end
noncomputable abbrev rho0 (slots:Nat) (args:List V):Rho:=args.map some++List.replicate (slots - args.length) none
noncomputable abbrev wpF (Φ:Calls) (slots:Nat) (body:List MS) (args:List V) (σ:Store) (Q:Post):Prop:=wpSs Φ body (rho0 slots args) σ (rtn Q)
noncomputable def strTab:List Str:=(["enum","over","flags","classes","refs","arrays","faces","way","opt","roots","bare","plain","numbers"]:List String).map Str.ofString
noncomputable def fldTab:List Str:=(["rows","index","depths","weights","opens","kt","bases","ifaces","sorts","variances","unders","bounds","gflags","news","strict","pairs","listed","proved"]:List String).map Str.ofString
noncomputable def methTab:List Str:=(["row","put","base","ifaces_at","sort","variance","under"]:List String).map Str.ofString
noncomputable def clsTab:List Str:=(["KindTable","KindHost","Book"]:List String).map Str.ofString
noncomputable def funTab:List Str:=(["inner_kinds","row_level","row_length","check_kind_row","check_named","check_args","may_stand","class_kind","value_kind","prim_kind","array_kind","var_kind","mvar_kind","boxed_kind","kind_sort","elem_of","tid_of","args_of",
 "is_value","is_ref","is_var","int_range","is_number","bound_kinds","param_is_value","surely_class","is_iface","base_chain","all_ifaces","add_ifaces","stands_for_ref","reduced","is_nullable","plain_base","plain_sort","loose_base","loose_ifaces",
 "ref_assignable","source_assignable","assign_settled","settle_book","has_proof","assign_within","assign_look","param_within","var_within","inner_within","elems_within","nullable_inner","conv_plain","is_enum","const_fits","implicit_of","implicit_null",
 "implicit_wrap","implicit_number","implicit_param","goes","better_conv","_law_span","_law_number","_law_up","_law_sure","_law_lies","_law_ref","_law_way","_law_apart","_law_better","_law_bound","_law_params","_law_world","_law_ask","_law_pools","law"]:List String).map Str.ofString
noncomputable def intTab:List (String×Int):=[("VOID",0),("BOOL",1),("CHAR",2),("I1",3),("U1",4),("I2",5),("U2",6),("I4",7),("U4",8),("I8",9),("U8",10),("NINT",11),("OBJECT",12),("STRING",13),("NULLK",14),("BAD",15),("PRIM_END",16),
 ("R_PRIM",1),("R_CLASS",2),("R_VALUE",3),("R_ARRAY",4),("R_BYREF",5),("R_VAR",6),("R_MVAR",7),("R_BOXED",8),("R_ROREF",9),("R_FTN",10),("R_RAW",11),("DEEPEST_KIND",24),("HEAVIEST_KIND",4096),("ARRAY_TID",5),
 ("S_CLASS",1),("S_STRUCT",2),("S_IFACE",3),("S_DELEGATE",4),("S_ENUM",5),("VA_NONE",0),("VA_OUT",1),("VA_IN",2),("GB_CLASS",1),("GB_STRUCT",2),("T_OBJECT",1),("T_VALUETYPE",2),("T_ENUM",3),("T_ARRAY",5),("T_DELEGATE",6),("T_NULLABLE",8),
 ("MOST_QUESTIONS",512),("CV_NUM",1),("CV_REF",2),("CV_BOX",4),("CV_WRAP",6),("CV_NULL",8),("CV_LIFT",9),("CV_SAME",10),("C_NONE",0),("C_IDENT",1),("C_IMPLICIT",2)]
noncomputable def constTab:List (Str×V):=(intTab.map fun p=>(Str.ofString p.1,V.int p.2)) ++
 (([("VALUE_ROOTS",.tup [.int 1,.int 2,.int 3]),("NO_WAY",.tup [.int 0,.int 0]),("NARROW",.tup [.int 3,.int 4,.int 5,.int 6,.int 8,.int 10]),
  ("PRIM_TID",.cd 0),("TID_PRIM",.cd 1),("INT_RANGES",.cd 2),("SIGNED_TWIN",.cd 3),("WIDER",.cd 4),("SIGNED_OVER",.cd 5)]:List (String×V)).map fun p=>(Str.ofString p.1,p.2))
noncomputable def tupAttrs:List Str:=(["index","listed","proved"]:List String).map Str.ofString
noncomputable def codeOf (t:List Str) (x:Str):Option Nat:=t.findIdx? (·==x)
structure Cx where
 kinds:List (Str×NameKind)
 slot:List (Str×Nat)
 next:Nat
noncomputable def isGlob (G:Cx) (x:Str):Bool:=G.kinds.lookup x==some .globalImplicit
noncomputable def som {α:Type}(x:Option α) (f:α→ME):ME:=match x with | some a=>f a | none=>.stuck
noncomputable def ifm:Bool→ME→ME | true,m=>m | false,_=>.stuck
noncomputable def sos {α:Type}(x:Option α) (f:α→MS):MS:=match x with | some a=>f a | none=>.stuck
noncomputable def ifst:Bool→MS→MS | true,m=>m | false,_=>.stuck
noncomputable def compK:Option NameKind→Option Nat→Option V→ME
 | some .local,i,_ | some .cell,i,_ | some .free,i,_=>som i .var
 | some .globalImplicit,_,v=>som v .lit
 | _,_,_=>.stuck
noncomputable def compName (G:Cx) (x:Str):ME:=compK (G.kinds.lookup x) (G.slot.lookup x) (constTab.lookup x)
noncomputable def bopOf:Operator→Option BOp
 | .Add=>some .add | .Sub=>some .sub | .Mult=>some .mul | .FloorDiv=>some .div | .Mod=>some .mod | .Pow=>some .pow | .BitAnd=>some .band | _=>none
noncomputable def copOf:CmpOp→COp
 | .Eq=>.eq | .NotEq=>.ne | .Lt=>.lt | .LtE=>.le | .Gt=>.gt | .GtE=>.ge | .Is=>.is | .IsNot=>.isnot | .In=>.inn | .NotIn=>.notin
noncomputable def isLocalIn (G:Cx) (x:Str):Option Nat:=match G.kinds.lookup x with
 | some .local | some .cell=>G.slot.lookup x
 | _=>none
noncomputable def zipKV:List ME→List ME→List ME
 | k :: ks,v :: vs=>k :: v :: zipKV ks vs
 | _,_=>[]
noncomputable def callB1:Bool→Bool→Bool→ME→ME
 | true,_,_,e=>.len e
 | false,true,_,e=>.listOf e
 | false,false,true,e=>.tupOf e
 | false,false,false,_=>.stuck
noncomputable def callB (f:Str):List ME→ME
 | [e]=>callB1 (f==("len":Str)) (f==("list":Str)) (f==("tuple":Str)) e
 | _=>.stuck
noncomputable def callCl:Option Nat→Str→List ME→ME
 | some c,_,es=>.new c es
 | none,f,es=>callB f es
noncomputable def callFn:Option Nat→Str→List ME→ME
 | some c,_,es=>.call c es
 | none,f,es=>callCl (codeOf clsTab f) f es
noncomputable def callName (G:Cx) (f:Str) (es:List ME):ME:=ifm (isGlob G f) (callFn (codeOf funTab f) f es)
noncomputable def callApp (o:ME):List ME→ME | [x]=>.append o x | _=>.stuck
noncomputable def callPop (o:ME):List ME→ME | []=>.pop o | _=>.stuck
noncomputable def callGet (o:ME):List ME→ME | [k]=>.get1 o k | [k,d]=>.get2 o k d | _=>.stuck
noncomputable def callAt:Bool→Bool→Bool→ME→List ME→ME
 | true,_,_,o,es=>callApp o es
 | false,true,_,o,es=>callPop o es
 | false,false,true,o,es=>callGet o es
 | false,false,false,_,_=>.stuck
noncomputable def callMe:Option Nat→Str→ME→List ME→ME
 | some m,_,o,es=>.meth o m es
 | none,n,o,es=>callAt (n==("append":Str)) (n==("pop":Str)) (n==("get":Str)) o es
noncomputable def callAttr (o:ME) (n:Str) (es:List ME):ME:=callMe (codeOf methTab n) n o es
noncomputable def cxComp (G:Cx) (x:Str) (sc:Scope):Cx:=⟨sc.names,(x,G.next) :: G.slot.filter (fun p=>sc.names.lookup p.1==some .free),G.next+1⟩
noncomputable def compOk (G:Cx) (x:Str) (sc:Scope):Bool:=sc.kind == .function&&sc.names.lookup x==some .local&&(sc.names.map (·.1)).all (fun n=>(sc.names.filter fun p=>p.1==n).length==1) &&
 sc.names.all fun p=>p.2 != .cell&&(p.2 != .free || ((G.kinds.lookup p.1==some .cell || G.kinds.lookup p.1==some .free)&&(G.slot.lookup p.1).isSome))&&(p.2 != .local || p.1==x || p.1==(".0":Str))
noncomputable def ex (m:ME):ME×MC:=(m,.ex m)
noncomputable def isMinus1:Expr→Bool
 | .UnaryOp .USub (.Constant (.int i) _ _) _=>i==1
 | _=>false
noncomputable def sortOf:List (Option Expr)→Nat
 | some (.Constant (.str _) _ _) :: _=>1
 | _=>0
noncomputable def plainLine (a b:Pos):Bool:=a.endLine==b.line
noncomputable def notStar (e:Expr):Bool:=!Nat.beq e.ctorIdx 22
noncomputable def isSetE (e:Expr):Bool:=Nat.beq e.ctorIdx 7
noncomputable def constM:Const→ME
 | .none=>.lit .none
 | .bool b=>.lit (.bool b)
 | .int i=>.lit (.int i)
 | .str s=>som (codeOf strTab s) fun i=>.lit (.str i)
 | _=>.stuck
mutual
noncomputable def compE (G:Cx):Expr→ME×MC
 | .Constant c _ _=>ex (constM c)
 | .Name x _=>ex (ifm (!(x==("__debug__":Str) || x==("__classdict__":Str))) (compName G x))
 | .BoolOp op vs _=>(match op with
  | .And=>(.andE ((compEs G vs).map (·.1)),.all ((compEs G vs).map (·.2)))
  | .Or=>(.orE ((compEs G vs).map (·.1)),.any ((compEs G vs).map (·.2))))
 | .BinOp l op r _=>ex (som (bopOf op) fun o=>.bop o (compE G l).1 (compE G r).1)
 | .UnaryOp op x _=>(match op with
  | .Not=>(.not (compE G x).1,.not (compE G x).2)
  | .USub=>ex (.neg (compE G x).1)
  | _=>ex .stuck)
 | .IfExp t b o _=>(.ite (compE G t).2 (compE G b).1 (compE G o).1,.ite (compE G t).2 (compE G b).2 (compE G o).2)
 | .Dict keys values _=>ex (ifm (keys.length==values.length&&keys.all (·.isSome)&&keys.length≤15) (.dict (sortOf keys) (zipKV (compOpts G keys) ((compEs G values).map (·.1)))))
 | .Compare l ops rs _=>ex (match ops,rs with
  | [op],[r]=>ifm (!isSetE r) (.cmp (copOf op) (compE G l).1 (compE G r).1)
  | _,_=>.stuck)
 | .Call f args kws pos=>ex (match kws,f with
  | [],.Name g _=>ifm (args.length≤20&&args.all notStar&&g != ("__debug__":Str)) (callName G g ((compEs G args).map (·.1)))
  | [],.Attribute o n apos=>ifm (args.length≤20&&args.all notStar&&plainLine apos pos) (callAttr (compE G o).1 n ((compEs G args).map (·.1)))
  | _,_=>.stuck)
 | .Attribute v n _=>ex (som (codeOf fldTab n) fun f=>.attr (compE G v).1 f)
 | .Subscript v s _=>ex (match s with
  | .Slice lo hi st _=>(match lo,hi,st with
   | none,none,some st=>ifm (isMinus1 st) (.rev (compE G v).1)
   | some lo,none,none=>.from_ (compE G v).1 (compE G lo).1
   | none,some hi,none=>.to_ (compE G v).1 (compE G hi).1
   | _,_,_=>.stuck)
  | i=>.sub (compE G v).1 (compE G i).1)
 | .List es _=>ex (.list ((compEs G es).map (·.1)))
 | .Tuple es _ _=>ex (.tup ((compEs G es).map (·.1)))
 | .ListComp elt gens sc _=>ex (match gens with
  | [⟨.Name x _,it,ifs,a⟩]=>ifm (a==0&&(compOk G x sc&&!isSetE it)) (.comp G.next (compE G it).1 ((compEs (cxComp G x sc) ifs).map (·.2)) (compE (cxComp G x sc) elt).1)
  | _=>.stuck)
 | _=>ex .stuck
noncomputable def compEs (G:Cx):List Expr→List (ME×MC)
 | []=>[]
 | e :: es=>compE G e :: compEs G es
noncomputable def compOpts (G:Cx):List (Option Expr)→List ME
 | []=>[]
 | some e :: es=>(compE G e).1 :: compOpts G es
 | none :: es=>.stuck :: compOpts G es
end
noncomputable def namesOf (G:Cx):List Expr→Option (List Nat)
 | []=>some []
 | .Name x _ :: r=>(match isLocalIn G x,namesOf G r with
  | some i,some l=>some (i :: l)
  | _,_=>none)
 | _=>none
noncomputable def isTupleE (e:Expr):Bool:=Nat.beq e.ctorIdx 25
noncomputable def isListCompE (e:Expr):Bool:=Nat.beq e.ctorIdx 8
noncomputable def isSliceE (e:Expr):Bool:=Nat.beq e.ctorIdx 26
noncomputable def isDict0:Expr→Bool
 | .Dict [] [] _=>true
 | _=>false
noncomputable def attrV (n:Str) (v:Expr) (m:ME):ME:=match isDict0 v,tupAttrs.contains n with
 | true,true=>.dict 2 []
 | true,false=>.dict 0 []
 | false,_=>m
noncomputable def isRange (G:Cx):Expr→Option ME
 | .Call (.Name f _) [e] [] _=>(match f==("range":Str)&&isGlob G f with
  | true=>some (compE G e).1
  | false=>none)
 | _=>none
noncomputable def forM (i:Nat):Option ME→ME→List MS→MS
 | some e,_,b=>.forR i e b
 | none,it,b=>.forS (.inl i) it b
mutual
noncomputable def compS (G:Cx):Stmt→MS
 | .Assign ts v _=>(match ts with
  | [.Name x _]=>sos (isLocalIn G x) fun i=>.assign i (compE G v).1
  | [.Tuple es _ _]=>sos (namesOf G es) fun is=>ifst (!isTupleE v) (.unpack is (compE G v).1)
  | [.Attribute o n _]=>ifst (!isListCompE v) (sos (codeOf fldTab n) fun f=>.setattr (compE G o).1 f (attrV n v (compE G v).1))
  | [.Subscript o i _]=>ifst (!isListCompE v) (ifst (!isSliceE i) (.setitem (compE G o).1 (compE G i).1 (compE G v).1))
  | _=>.stuck)
 | .AugAssign t op v _=>(match t with
  | .Name x _=>sos (isLocalIn G x) fun i=>sos (bopOf op) fun o=>.aug i o (compE G v).1
  | _=>.stuck)
 | .Expr e _=>ifst (!isListCompE e) (.expr (compE G e).1)
 | .Return v _=>(match v with
  | some e=>.ret (compE G e).1
  | none=>.ret (.lit .none))
 | .If t b o _=>.ifS (compE G t).2 (compSs G b) (compSs G o)
 | .While t b o _=>(match o with
  | []=>.whileS (compE G t).2 (compSs G b)
  | _=>.stuck)
 | .For t it b o _=>(match o with
  | []=>(match t with
   | .Name x _=>sos (isLocalIn G x) fun i=>forM i (isRange G it) (compE G it).1 (compSs G b)
   | .Tuple es _ _=>sos (namesOf G es) fun is=>.forS (.inr is) (compE G it).1 (compSs G b)
   | _=>.stuck)
  | _=>.stuck)
 | .Try b _ o f _=>(match o,f with
  | [],[]=>.tryS (compSs G b)
  | _,_=>.stuck)
 | .Continue _=>.cont
 | _=>.stuck
noncomputable def compSs (G:Cx):List Stmt→List MS
 | []=>[]
 | s :: ss=>compS G s :: compSs G ss
end
noncomputable def slotsOf (sc:Scope):List (Str×Nat):=((sc.names.filter fun p=>p.2 == .local || p.2 == .cell).map (·.1)).zipIdx
noncomputable def cxOf (sc:Scope):Cx:=⟨sc.names,slotsOf sc,(slotsOf sc).length⟩
inductive All2 {α β:Type} (R:α→β→Prop):List α→List β→Prop
 | nil:All2 R [] []
 | cons {a b as bs}:R a b→All2 R as bs→All2 R (a :: as) (b :: bs)
theorem All2.length {α β:Type}{R:α→β→Prop}{as:List α}{bs:List β}(h:All2 R as bs):as.length=bs.length:=by
 induction h with
 | nil=>rfl
 | cons _ _ ih=>simp[ih]
theorem All2.mono {α β:Type}{R S:α→β→Prop}(hRS:∀a b,R a b→S a b) {as:List α}{bs:List β}(h:All2 R as bs):All2 S as bs:=by
 induction h with
 | nil=>exact .nil
 | cons h _ ih=>exact .cons (hRS _ _ h) ih
theorem All2.append {α β:Type}{R:α→β→Prop}{as as':List α}{bs bs':List β}(h:All2 R as bs) (h':All2 R as' bs'):All2 R (as++as') (bs++bs'):=by
 induction h with
 | nil=>exact h'
 | cons h _ ih=>exact .cons h ih
theorem All2.get {α β:Type}{R:α→β→Prop}{as:List α}{bs:List β}(h:All2 R as bs):∀{i:Nat}{b:β},bs[i]?=some b→∃a,as[i]?=some a∧R a b:=by
 induction h with
 | nil=>intro i b e;simp at e
 | cons h _ ih=>
  intro i b e
  induction i with
  | zero=>simp only[List.getElem?_cons_zero,Option.some.injEq]at e ⊢;subst e;exact⟨_,rfl,h⟩
  | succ i=>simp only[List.getElem?_cons_succ]at e ⊢;exact ih e
theorem All2.get' {α β:Type}{R:α→β→Prop}{as:List α}{bs:List β}(h:All2 R as bs):∀{i:Nat}{a:α},as[i]?=some a→∃b,bs[i]?=some b∧R a b:=by
 induction h with
 | nil=>intro i b e;simp at e
 | cons h _ ih=>
  intro i b e
  induction i with
  | zero=>simp only[List.getElem?_cons_zero,Option.some.injEq]at e ⊢;subst e;exact⟨_,rfl,h⟩
  | succ i=>simp only[List.getElem?_cons_succ]at e ⊢;exact ih e
theorem All2.drop {α β:Type}{R:α→β→Prop}{as:List α}{bs:List β}(h:All2 R as bs):∀n,All2 R (as.drop n) (bs.drop n):=by
 induction h with
 | nil=>intro n;simpa using All2.nil
 | cons h t ih=>intro n;induction n with
  | zero=>exact .cons h t
  | succ n=>exact ih n
theorem All2.take {α β:Type}{R:α→β→Prop}{as:List α}{bs:List β}(h:All2 R as bs):∀n,All2 R (as.take n) (bs.take n):=by
 induction h with
 | nil=>intro n;simpa using All2.nil
 | cons h t ih=>intro n;induction n with
  | zero=>exact .nil
  | succ n=>exact .cons h (ih n)
theorem All2.reverse {α β:Type}{R:α→β→Prop}{as:List α}{bs:List β}(h:All2 R as bs):All2 R as.reverse bs.reverse:=by
 induction h with
 | nil=>exact .nil
 | cons h _ ih=>rw[List.reverse_cons,List.reverse_cons];exact ih.append (.cons h .nil)
structure Bx where
 p:Program
 w:World
 K:Frag
 hb:Heap
section
variable (U:Bx)
noncomputable def KVal (val:Value) (v:V):Prop:=
 (∃i t,val = .int i t∧v = .int i) ∨
 (∃a items n vs,val = .ref a∧U.K.lookup a=some ⟨.type "tuple",none,.seq items n,#[]⟩∧v = .tup vs∧All2 (fun x y=>∃i t,x = .int i t∧y = .int i) items.toList vs)
noncomputable def CdObj (n:Nat) (o:Obj):Prop:=∃kvs:List (Int×Value),o.IsDictOf (intKind U.p U.w) kvs∧All2 (fun p q=>p.1=q.1∧KVal U p.2 q.2) kvs (cdTab n)
mutual
inductive RepV (h:Heap) (μ:List Addr):Value→V→Prop
 | none:RepV h μ .none .none
 | bool (b):RepV h μ (.bool b) (.bool b)
 | int (i t):RepV h μ (.int i t) (.int i)
 | str {c s} (t):strTab[c]?=some s→RepV h μ (.str s t) (.str c)
 | tup {a items n vs}:h.get? a=some ⟨.type "tuple",Option.none,.seq items n,#[]⟩→RepVs h μ items.toList vs→RepV h μ (.ref a) (.tup vs)
 | loc {n a}:μ[n]?=some a→RepV h μ (.ref a) (.loc n)
 | cd {n a o}:U.K.lookup a=some o→(a==sysModules)=false→CdObj U n o→RepV h μ (.ref a) (.cd n)
 | ext {a o items m ns}:U.K.lookup a=some o→o.cls = .type "list"→o.data = .seq items m→All2 (fun x y=>∃t,x = .int y t) items.toList ns→RepV h μ (.ref a) (.ext ns)
inductive RepVs (h:Heap) (μ:List Addr):List Value→List V→Prop
 | nil:RepVs h μ [] []
 | cons {x y xs ys}:RepV h μ x y→RepVs h μ xs ys→RepVs h μ (x :: xs) (y :: ys)
end
end
section
variable {U:Bx}{h h' h₁:Heap}{μ μ':List Addr}
theorem RepVs.all2 {xs:List Value}{ys:List V}(r:RepVs U h μ xs ys):All2 (RepV U h μ) xs ys:=by
 induction ys generalizing xs with
 | nil=>cases r;exact .nil
 | cons y ys ih=>cases r with | cons a b=>exact .cons a (ih b)
theorem RepVs.of_all2 {xs:List Value}{ys:List V}(r:All2 (RepV U h μ) xs ys):RepVs U h μ xs ys:=by
 induction r with
 | nil=>exact .nil
 | cons a _ ih=>exact .cons a ih
noncomputable def IsTupObj (o:Obj):Prop:=o.cls = .type "tuple"∧∃items n,o.data = .seq items n
noncomputable def TupKeep (h h':Heap):Prop:=∀a o,h.get? a=some o→IsTupObj o→h'.get? a=some o
theorem TupKeep.refl:TupKeep h h:=fun Z Z e Z=>e
theorem TupKeep.trans (x:TupKeep h h') (y:TupKeep h' h₁):TupKeep h h₁:=fun a o e c=>y a o (x a o e c) c
theorem pre_get {n:Nat}{a:Addr}(p:μ <+:μ') (e:μ[n]?=some a):μ'[n]?=some a:=by
 obtain⟨r,rfl⟩:=p
 rw[List.getElem?_append_left];exact e
 exact(List.getElem?_eq_some_iff.mp e).1
theorem RepV.mono {x:Value}{y:V}(tk:TupKeep h h') (p:μ <+:μ') (r:RepV U h μ x y):RepV U h' μ' x y:=
 RepV.rec (motive_1:=fun x y Z=>RepV U h' μ' x y) (motive_2:=fun x y Z=>RepVs U h' μ' x y) .none .bool .int (fun t e=>.str t e) (fun e Z i=>.tup (tk _ _ e ⟨rfl,_,_,rfl⟩) i) (fun e=>.loc (pre_get p e)) .cd .ext .nil (fun Z Z a b=>.cons a b) r
theorem RepVs.mono {x:List Value}{y:List V}(tk:TupKeep h h') (p:μ <+:μ') (r:RepVs U h μ x y):RepVs U h' μ' x y:=by
 induction r.all2 with
 | nil=>exact .nil
 | cons a _ ih=>exact .cons (a.mono tk p) (ih (.of_all2 (by assumption)))
end
section
variable {prog:Program}{w:World}{h h':Heap}
theorem isTupleKey_mono (tk:TupKeep h h') {l:List Int}{b:Addr}(x:IsTupleKey (intKind prog w) h l b):IsTupleKey (intKind prog w) h' l b:=by
 refine Classical.byContradiction fun kk=>?_
 obtain⟨o,items,n,e,c,d,i⟩:=x
 refine kk ?_
 exact⟨o,items,n,tk _ _ e ⟨c,_,_,d⟩,c,d,i⟩
inductive KyT (prog:Program) (w:World) (h:Heap):Option (List Int)→List Value→Prop
 | no:KyT prog w h none []
 | yes {l:List Int} {r:Addr} (hr:IsTupleKey (intKind prog w) h l r):KyT prog w h (some l) [.ref r]
inductive KyItems (prog:Program) (w:World) (h:Heap):Ky→List Value→Prop
 | mk {a b:Int} {z:Option (List Int)} (t u:Tok) {r:List Value} (hz:KyT prog w h z r):KyItems prog w h (a,b,z) (.int a t :: .int b u :: r)
inductive IsKy (prog:Program) (w:World) (h:Heap) (k:Ky) (a:Addr):Prop
 | mk (o:Obj) (items:Array Value) (n:Nat) (ho:h.get? a=some o) (hc:o.cls = .type "tuple") (hd:o.data = .seq items n) (hi:KyItems prog w h k items.toList)
theorem kyItems_mono (tk:TupKeep h h') {k:Ky}{l:List Value}(x:KyItems prog w h k l):KyItems prog w h' k l:=by
 induction x with
 | mk t u hz=>exact .mk t u (by induction hz with | no=>exact .no | yes hr=>exact .yes (isTupleKey_mono tk hr))
theorem isKy_mono (tk:TupKeep h h') {k:Ky}{a:Addr}(x:IsKy prog w h k a):IsKy prog w h' k a:=by
 obtain⟨o,items,n,e,c,d,i⟩:=x
 exact⟨o,items,n,tk _ _ e ⟨c,_,_,d⟩,c,d,kyItems_mono tk i⟩
theorem IsKy.typeIs {s:Shared}{k:Ky}{a:Addr}(x:IsKy prog w s.heap k a):s.TypeIs (.ref a) "tuple":=by obtain⟨o,_,_,ho,hc,_,_⟩:=x;exact⟨o,ho,hc⟩
theorem KyItems.inj {k k':Ky}{L:List Value}(x:KyItems prog w h k L) (y:KyItems prog w h k' L):k=k':=by
 induction x with
 | mk t u hz=>cases y with
  | mk t' u' hz'=>
   induction hz with
   | no=>cases hz' with | no=>rfl
   | yes hr=>cases hz' with | yes hr'=>rw[hr.inj hr']
theorem IsKy.inj {k k':Ky}{a:Addr}(x:IsKy prog w h k a) (y:IsKy prog w h k' a):k=k':=by
 obtain⟨o,items,n,e,c,d,i⟩:=x
 obtain⟨o',items',n',e',c',d',i'⟩:=y
 have e2:Data.seq items n = .seq items' n':=by rw[←d,←d',Option.some.inj (e.symm.trans e')]
 exact i.inj ((Data.seq.inj e2).1▸i')
end
section
variable {prog:Program}{w:World}{A:Around}{E:Value→Shared→Prop}{s:Shared}
noncomputable def hashKy (prog:Program) (w:World) (k:Ky):Int:=
 reduceHash (Builtin.Tuple.tupleHashOf (match k.2.2 with | none=>[hashInt k.1,hashInt k.2.1] | some l=>[hashInt k.1,hashInt k.2.1,tupleKeyHash (intKind prog w) l]))
noncomputable def drawsKy (k:Ky):Nat:=match k.2.2 with | none=>3 | some l=>l.length+4
theorem units1 {A:Around}{n m:Nat}(h:A.units+m < n) (e:1≤m):A.in1.units < n:=by
 show A.units+1 < n;lia
theorem hash_end {h:Int}{Q:Int→Shared→Prop}(q:Q (reduceHash h) s):wpAny (model prog w) A (pyHashByItsType.reduced h) Q E s:=by
 show wpAny _ _ (if (decide (-(2:Int) ^ 63≤h)&&decide (h < 2 ^ 63))=true then _ else _) Q E _
 unfold reduceHash at q
 by_cases hr:(decide (-(2:Int) ^ 63≤h)&&decide (h < 2 ^ 63))=true
 ·rw[if_pos hr]at q ⊢;exact wpAny_pure q
 ·rw[if_neg hr]at q ⊢;exact wpAny_bind (wpAny_rule (wpAny_pure q))
theorem pyHash_ky {k:Ky}{a:Addr}{Q:Int→Shared→Prop}(hu:A.units+4 < cLine) (hk:IsKy prog w s.heap k a) (h:Q (hashKy prog w k) { s with toks:=s.toks+drawsKy k }) :
  wpAny (model prog w) A (pyHash (.ref a)) Q E s:=by
 have hT:=hk.typeIs
 have hu':A.units < cLine:=by lia
 have hu1:A.in1.units < cLine:=units1 hu (by decide)
 obtain⟨o,items,n,ho,_,hd,hi⟩:=hk
 unfold pyHash
 refine wpAny_bind (wpAny_cRoomFor_or (.inr hu') ?_)
 refine wpAny_bind (wpAny_specialOf hT F.slot_tuple_hash.lookup ?_)
 show wpAny _ _ (if (some (Value.builtin "tuple.__hash__")==some Value.none)=true then _ else _) Q E s
 rw[if_neg (by rw[beq_builtin_none];exact Bool.false_ne_true)]
 refine wpAny_bind (wpAny_specialOf hT F.slot_tuple_hash.lookup ?_)
 show wpAny _ _ (callSpecialIfBoundUnlessNone? (.ref a) "__hash__" _ >>= _) Q E s
 refine wpAny_bind (wpAny_callSpecialIfBoundUnlessNone?_slot hT F.slot_tuple_hash (wpAny_call_entry F.slot_tuple_hash hT F.entry_tuple_hash ?_ (F.args_tuple_hash_1 _)))
 show wpAny _ _ (Builtin.Tuple.tupleItemsOf (.ref a) >>= _) _ _ s
 refine wpAny_bind (wpAny_tupleItemsOf ho hd ?_)
 refine wpAny_bind ?_
 rw[←Array.forIn_toList]
 generalize items.toList=L at hi
 induction hi with
 | @mk x1 x2 z t u r hz=>
  refine wpAny_bind (wpAny_bind (wpAny_pyHash_int (wpAny_pure ?_)))
  refine wpAny_bind (wpAny_bind (wpAny_pyHash_int (wpAny_pure ?_)))
  induction hz with
  | no=>
   refine wpAny_pure ?_
   exact wpAny_ret_mkInt (hash_end h)
  | @yes l r hr=>
   refine wpAny_bind (wpAny_bind (wpAny_pyHash_tuple hu1 hr (wpAny_pure (wpAny_pure ?_))))
   refine wpAny_ret_mkInt (hash_end ?_)
   have e:s.toks+drawsKy (x1,x2,some l)=s.toks+1+1+(l.length+1)+1:=(show s.toks+(l.length+4)=_ by lia)
   rw[e]at h
   exact h
end
section
variable {prog:Program}{w:World}{A:Around}{E:Value→Shared→Prop}{s:Shared}
theorem ky_eq_tree {x y:Ky}{a b:Addr}{P:Fin→Shared→Prop}(hu:A.units < cLine) (hx:IsKy prog w s.heap x a) (hy:IsKy prog w s.heap y b) (h:P (.done (.ret (.bool (decide (x=y))))) s) :
  wpAny (model prog w) A (Builtin.«tuple.__eq__» ⟨[.ref a,.ref b],[]⟩) P E s:=by
 refine Classical.byContradiction fun kk=>?_
 have hTb:=hy.typeIs
 obtain⟨oa,xs,na,hoa,_,hda,hia⟩:=hx
 obtain⟨ob,ys,nb,hob,_,hdb,hib⟩:=hy
 refine kk ?_
 show wpAny _ _ (isInstance (.ref b) (.type "tuple") >>= _) _ _ s
 refine wpAny_bind (wpAny_isInstance hTb isSubtype_tuple_tuple ?_)
 refine wpAny_bind (wpAny_tupleItemsOf hoa hda ?_)
 refine wpAny_bind (wpAny_tupleItemsOf hob hdb ?_)
 refine wpAny_bind ?_
 have sx:xs.size=xs.toList.length:=by simp
 have sy:ys.size=ys.toList.length:=by simp
 rw[sx,sy]
 generalize xs.toList=X at hia
 generalize ys.toList=Y at hib
 induction hia with
 | @mk x1 x2 x3 t u r hz=>induction hib with
  | @mk y1 y2 y3 t' u' r' hz'=>
   refine wpAny_bind (wpAny_bind (wpAny_eqBool_int ?_))
   by_cases e1:x1=y1
   ·rw[beq_iff_eq.mpr e1]
    refine wpAny_pure (wpAny_bind (wpAny_bind (wpAny_eqBool_int ?_)))
    by_cases e2:x2=y2
    ·rw[beq_iff_eq.mpr e2]
     refine wpAny_pure ?_
     rw[e1,e2]at h
     induction hz with
     | no=>induction hz' with
      | no=>
       rw[decide_eq_true rfl]at h
       exact wpAny_pure (wpAny_pure h)
      | yes=>
       rw[decide_eq_false (fun e=>by cases e)]at h
       exact wpAny_pure (wpAny_pure h)
     | @yes l r hr=>induction hz' with
      | no=>
       rw[decide_eq_false (fun e=>by cases e)]at h
       exact wpAny_pure (wpAny_pure h)
      | @yes l' r' hr'=>
       refine wpAny_bind (wpAny_bind (wpAny_eqBool_tuple hu hr hr' ?_))
       by_cases e3:l=l'
       ·rw[decide_eq_true e3]
        rw[decide_eq_true (by rw[e3])]at h
        exact wpAny_pure (wpAny_pure (wpAny_pure h))
       ·rw[decide_eq_false e3]
        rw[decide_eq_false fun e=>e3 (by cases e;rfl)]at h
        exact wpAny_bind (wpAny_pure (wpAny_pure (wpAny_pure (wpAny_pure h))))
    ·rw[beq_eq_false_iff_ne.mpr e2]
     rw[decide_eq_false fun e=>e2 (by cases e;rfl)]at h
     exact wpAny_bind (wpAny_pure (wpAny_pure (wpAny_pure (wpAny_pure h))))
   ·rw[beq_eq_false_iff_ne.mpr e1]
    rw[decide_eq_false fun e=>e1 (by cases e;rfl)]at h
    exact wpAny_bind (wpAny_pure (wpAny_pure (wpAny_pure (wpAny_pure h))))
theorem eqBool_ky {x y:Ky}{a b:Addr}{Q:Bool→Shared→Prop}(hu:A.units+4 < cLine) (hx:IsKy prog w s.heap x a) (hy:IsKy prog w s.heap y b) (h:Q (decide (x=y)) s) :
  wpAny (model prog w) A (eqBool (.ref a) (.ref b)) Q E s:=by
 have hu1:A.in1.units < cLine:=units1 hu (by decide)
 unfold eqBool
 try with_reducible refine wpAny_holding ?_
 show wpAny _ _ (if (Value.ref a==Value.ref b)=true then _ else _) Q E s
 by_cases hab:(Value.ref a==Value.ref b)=true
 ·rw[if_pos hab]
  have e:a=b:=by have:=eq_of_beq hab;injection this
  subst e
  obtain rfl:=hx.inj hy
  exact wpAny_bind (wpAny_rule (wpAny_pure (by simpa using h)))
 ·rw[if_neg hab]
  exact wpAny_bind (wpAny_richCompare_same_room (op:=.Eq) hx.typeIs hy.typeIs F.slot_tuple_eq
   (wpAny_call_entry F.slot_tuple_eq hx.typeIs F.entry_tuple_eq (ky_eq_tree hu1 hx hy ⟨_,rfl,(fun e=>nomatch e),wpAny_truthy_bool h⟩) (F.args_tuple_eq_2 _ _)) (by lia))
theorem quiet_n {ks:List Int}{a:Addr}{Q:Bool→Shared→Prop}{n:Nat}(hk:IsTupleKey (intKind prog w) s.heap ks a) (h:Q true s):wpAny (model prog w) A (eqIsQuiet (n+1) (.ref a)) Q E s:=by
 refine Classical.byContradiction fun kk=>?_
 have hT:=hk.typeIs
 obtain⟨o,items,m,ho,_,hd,hi⟩:=hk
 refine kk ?_
 unfold eqIsQuiet
 refine wpAny_bind (wpAny_specialOf hT F.slot_tuple_eq.lookup ?_)
 show wpAny _ _ (isInstance (.ref a) (.type "tuple") >>= _) _ _ s
 refine wpAny_bind (wpAny_isInstance hT isSubtype_tuple_tuple ?_)
 refine wpAny_bind (wpAny_seqItems ho hd ?_)
 refine wpAny_bind ?_
 show wpAny _ _ (forIn items _ _) _ _ s
 rw[←Array.forIn_toList]
 refine wpAny_forIn_list _ (fun rest r s'=>r.1=none∧s'=s∧∀v∈rest,carriedByValue v=true) _ ?_ ?_ _ _ ⟨rfl,rfl,hi.byValue⟩
 ·rintro v rest r s' ⟨hr,rfl,hall⟩
  rw[eqIsQuiet_byValue _ (hall v List.mem_cons_self)]
  refine wpAny_bind (wpAny_pure ?_)
  exact wpAny_pure ⟨rfl,rfl,fun u hu'=>hall u (List.mem_cons_of_mem _ hu')⟩
 ·rintro⟨r1,r2⟩ s' ⟨hr,rfl,_⟩
  cases(show r1=none from hr)
  exact wpAny_pure h
theorem ky_quiet {k:Ky}{L:List Value}(hk:KyItems prog w s.heap k L) {v:Value}(hv:v∈L) {Q:Bool→Shared→Prop}(q:Q true s):wpAny (model prog w) A (eqIsQuiet 7 v) Q E s:=by
 induction hk with
 | mk t u hz=>
  rcases hv with _ | ⟨_,_ | ⟨_,hv⟩⟩
  ·rw[eqIsQuiet_byValue _ rfl];exact wpAny_pure q
  ·rw[eqIsQuiet_byValue _ rfl];exact wpAny_pure q
  ·induction hz with
   | no=>cases hv
   | yes hr=>
    rw[List.mem_singleton.mp hv]
    exact quiet_n hr q
theorem quiet_ky {k:Ky}{a:Addr}{Q:Bool→Shared→Prop}(hk:IsKy prog w s.heap k a) (h:Q true s):wpAny (model prog w) A (eqIsQuiet 8 (.ref a)) Q E s:=by
 have hT:=hk.typeIs
 obtain⟨o,items,m,ho,_,hd,hi⟩:=hk
 unfold eqIsQuiet
 refine wpAny_bind (wpAny_specialOf hT F.slot_tuple_eq.lookup ?_)
 show wpAny _ _ (isInstance (.ref a) (.type "tuple") >>= _) _ _ s
 refine wpAny_bind (wpAny_isInstance hT isSubtype_tuple_tuple ?_)
 refine wpAny_bind (wpAny_seqItems ho hd ?_)
 refine wpAny_bind ?_
 show wpAny _ _ (forIn items _ _) _ _ s
 rw[←Array.forIn_toList]
 refine wpAny_forIn_list _ (fun rest r s'=>r.1=none∧s'=s∧∀v∈rest,v∈items.toList) _ ?_ ?_ _ _ ⟨rfl,rfl,fun Z h=>h⟩
 ·rintro v rest r s' ⟨hr,rfl,hall⟩
  exact wpAny_bind (ky_quiet hi (hall v List.mem_cons_self) (wpAny_pure ⟨rfl,rfl,fun u hu'=>hall u (List.mem_cons_of_mem _ hu')⟩))
 ·rintro⟨r1,r2⟩ s' ⟨hr,rfl,_⟩
  cases(show r1=none from hr)
  exact wpAny_pure h
end
noncomputable def kyKind (prog:Program) (w:World):HeapKind prog w Ky where
 is:=IsKy prog w
 hash:=hashKy prog w
 draws:=drawsKy
 room:=fun A=>A.units+4 < cLine
 inj:=fun hx hy=>hx.inj hy
 keeps:=fun{h h' k a d o es ep} x ho hd hs=>by
  obtain⟨o',items,n,e,c,q,i⟩:=x
  refine⟨o',items,n,(hs.2 a fun z=>?_).trans e,c,q,?_⟩
  ·have e2:o'=o:=Option.some.inj (e.symm.trans (z▸ho))
   rw[e2,hd]at q;cases q
  ·generalize items.toList=L at i ⊢
   induction i with
   | mk t u hz=>exact .mk t u (by induction hz with | no=>exact .no | yes hr=>exact .yes (hr.keeps ho hd hs))
 pyHash:=fun hu hk h=>pyHash_ky hu hk h
 eqBool:=fun hu hx hy h=>eqBool_ky hu hx hy h
 quiet:=fun hk h=>quiet_ky hk h
noncomputable def clsAt (K:Frag) (c:Nat):Option Addr:=match (clsTab[c]?).bind (nsIn K mainGlobals) with
 | some (some (.ref C))=>some C
 | _=>none
section
variable (U:Bx)
noncomputable def NsRel (h:Heap) (μ:List Addr) (es:List DictEntry) (fs:List (Nat×V)):Prop:=
 All2 (fun e q=>∃s t,e.key = .str s t∧fldTab[q.1]?=some s∧RepV U h μ e.val q.2) es fs∧(fs.map (·.1)).Nodup
noncomputable def ORel (h:Heap) (μ:List Addr) (o:Obj):O→Prop
 | .list vs=>∃items n,o=⟨.type "list",none,.seq items n,#[]⟩∧RepVs U h μ items.toList vs
 | .dI kvs=>∃kv:List (Int×Value),o.IsDictOf (intKind U.p U.w) kv∧(∃es,o.data = .dict es kv.length)∧All2 (fun p q=>p.1=q.1∧RepV U h μ p.2 q.2) kv kvs
 | .dS kvs=>∃kv:List (Str×Value),o.IsDictOf (PySem.strKind U.p U.w) kv∧All2 (fun p q=>strTab[q.1]?=some p.1∧RepV U h μ p.2 q.2) kv kvs
 | .dT kvs=>∃xs:List (Ky×Addr×Value),(∃es ep,o.ExactDict∧o.data = .dict es ep∧es.toList=xs.map (entryOfKey (kyKind U.p U.w))∧(∀x∈xs,IsKy U.p U.w h x.1 x.2.1)∧(xs.map (·.1)).Nodup) ∧
   All2 (fun p q=>p.1=q.1∧RepV U h μ p.2.2 q.2) xs kvs
 | .inst c d=>∃dx C,μ[d]?=some dx∧clsAt U.K c=some C∧o=⟨.ref C,some dx,.plain,#[]⟩
 | .ns fs=>∃es n,o=⟨.type "dict",none,.dict es n,#[]⟩∧NsRel U h μ es.toList fs
structure HRel (h:Heap) (μ:List Addr) (σ:Store):Prop where
 len:μ.length=σ.length
 nodup:μ.Nodup
 fresh:∀a∈μ,U.hb.get? a=none
 obj:∀(i:Nat) (a:Addr) (o:O),μ[i]?=some a→σ[i]?=some o→∃ob,h.get? a=some ob∧ORel U h μ ob o
 base:∀b o,U.hb.get? b=some o→h.get? b=some o
 sys:∀a∈μ,cStatics < a
 big:∃o,U.hb.get? cStatics=some o
noncomputable def Keep (μ:List Addr) (h h':Heap):Prop:=∀b o,h.get? b=some o→b∉μ→h'.get? b=some o
structure Step (s:Shared) (μ:List Addr) (s':Shared) (μ':List Addr) (σ':Store):Prop where
 hrel:HRel U s'.heap μ' σ'
 keep:Keep μ s.heap s'.heap
 pre:μ <+:μ'
 new:∀a∈μ',a∉μ→s.heap.get? a=none
 same:∃h t,s' = { s with heap:=h,toks:=t }
end
section
variable {U:Bx}{h h':Heap}{μ μ' μ₁:List Addr}{σ σ' σ₁:Store}{s s' s₁:Shared}
theorem NsRel.mono {es:List DictEntry}{fs:List (Nat×V)}(tk:TupKeep h h') (p:μ <+:μ') (x:NsRel U h μ es fs):NsRel U h' μ' es fs:=
 ⟨x.1.mono fun Z Z zz=>by obtain⟨s,t,a,b,c⟩:=zz;exact⟨s,t,a,b,c.mono tk p⟩,x.2⟩
theorem ORel.mono {ob:Obj}{o:O}(tk:TupKeep h h') (p:μ <+:μ') (x:ORel U h μ ob o):ORel U h' μ' ob o:=by
 induction o with
 | list vs=>obtain⟨items,n,e,r⟩:=x;exact⟨items,n,e,r.mono tk p⟩
 | dI kvs=>obtain⟨kv,a,a',b⟩:=x;exact⟨kv,a,a',b.mono fun Z Z zz=>by obtain⟨c,d⟩:=zz;exact⟨c,d.mono tk p⟩⟩
 | dS kvs=>obtain⟨kv,a,b⟩:=x;exact⟨kv,a,b.mono fun Z Z zz=>by obtain⟨c,d⟩:=zz;exact⟨c,d.mono tk p⟩⟩
 | dT kvs=>
  obtain⟨xs,⟨es,ep,a,b,c,d,e⟩,f⟩:=x
  exact⟨xs,⟨es,ep,a,b,c,fun x hx=>isKy_mono tk (d x hx),e⟩,f.mono fun Z Z zz=>by obtain⟨c,d⟩:=zz;exact⟨c,d.mono tk p⟩⟩
 | inst c d=>obtain⟨dx,C,a,b,e⟩:=x;exact⟨dx,C,pre_get p a,b,e⟩
 | ns fs=>obtain⟨es,n,e,r⟩:=x;exact⟨es,n,e,r.mono tk p⟩
theorem ty_ne {a b:String}(h:a≠b):Value.type a≠Value.type b:=fun e=>h (by injection e)
theorem ORel.notTup {ob:Obj}{o:O}(x:ORel U h μ ob o):ob.cls≠.type "tuple":=by
 cases o with
 | list vs=>obtain⟨items,n,e,r⟩:=x;rw[e];exact ty_ne (by decide)
 | dI kvs=>obtain⟨kv,⟨es,ep,a,_⟩,b⟩:=x;rw[a.1];exact ty_ne (by decide)
 | dS kvs=>obtain⟨kv,⟨es,ep,a,_⟩,b⟩:=x;rw[a.1];exact ty_ne (by decide)
 | dT kvs=>obtain⟨xs,⟨es,ep,a,_⟩,f⟩:=x;rw[a.1];exact ty_ne (by decide)
 | inst c d=>obtain⟨dx,C,a,b,e⟩:=x;rw[e];intro q;cases q
 | ns fs=>obtain⟨es,n,e,r⟩:=x;rw[e];exact ty_ne (by decide)
theorem ORel.notFreed {ob:Obj}{o:O}(x:ORel U h μ ob o):ob.isFreed=false:=by
 cases o with
 | list vs=>obtain⟨items,n,e,r⟩:=x;rw[e];rfl
 | dI kvs=>obtain⟨kv,⟨es,ep,a,d,_⟩,b⟩:=x;exact Obj.isFreed_of_dict d
 | dS kvs=>obtain⟨kv,⟨es,ep,a,d,_⟩,b⟩:=x;exact Obj.isFreed_of_dict d
 | dT kvs=>obtain⟨xs,⟨es,ep,a,d,_⟩,f⟩:=x;exact Obj.isFreed_of_dict d
 | inst c d=>obtain⟨dx,C,a,b,e⟩:=x;rw[e];rfl
 | ns fs=>obtain⟨es,n,e,r⟩:=x;rw[e];rfl
theorem HRel.lt (x:HRel U h μ σ) {i:Nat}{a:Addr}(e:μ[i]?=some a):i < σ.length:=by rw[←x.len];exact(List.getElem?_eq_some_iff.mp e).1
theorem HRel.at (x:HRel U h μ σ) {i:Nat}{a:Addr}(e:μ[i]?=some a):∃ob o,h.get? a=some ob∧σ[i]?=some o∧ORel U h μ ob o:=by
 refine Classical.byContradiction fun kk=>?_
 have hi:=x.lt e
 obtain⟨ob,h1,h2⟩:=x.obj i a σ[i] e (List.getElem?_eq_getElem hi)
 refine kk ?_
 exact⟨ob,_,h1,List.getElem?_eq_getElem hi,h2⟩
theorem HRel.addr (x:HRel U h μ σ) {i:Nat}{o:O}(e:σ[i]?=some o):∃a ob,μ[i]?=some a∧h.get? a=some ob∧ORel U h μ ob o:=by
 refine Classical.byContradiction fun kk=>?_
 have hi:i < μ.length:=by rw[x.len];exact(List.getElem?_eq_some_iff.mp e).1
 obtain⟨ob,h1,h2⟩:=x.obj i μ[i] o (List.getElem?_eq_getElem hi) e
 refine kk ?_
 exact⟨_,ob,List.getElem?_eq_getElem hi,h1,h2⟩
theorem HRel.mem (x:HRel U h μ σ) {a:Addr}(m:a∈μ):∃ob,h.get? a=some ob∧ob.cls≠.type "tuple":=by
 refine Classical.byContradiction fun kk=>?_
 obtain⟨i,e⟩:=List.mem_iff_getElem?.mp m
 obtain⟨ob,o,h1,_,h2⟩:=x.at e
 refine kk ?_
 exact⟨ob,h1,h2.notTup⟩
theorem HRel.tupKeep (x:HRel U h μ σ) (k:Keep μ h h'):TupKeep h h':=fun a o e c=>k a o e fun m=>by
 obtain⟨ob,h1,h2⟩:=x.mem m
 rw[e]at h1;cases h1;exact h2 c.1
theorem Step.refl (x:HRel U s.heap μ σ):Step U s μ s μ σ:=
 ⟨x,fun Z Z e Z=>e,List.prefix_refl _,fun Z a b=>absurd a b,s.heap,s.toks,rfl⟩
theorem Step.trans {σ₁ σ₂:Store}{s₂:Shared}{μ₂:List Addr}(x:Step U s μ s₁ μ₁ σ₁) (y:Step U s₁ μ₁ s₂ μ₂ σ₂):Step U s μ s₂ μ₂ σ₂:=by
 refine⟨y.hrel,fun b o e m=>y.keep b o (x.keep b o e m) fun m'=>?_,x.pre.trans y.pre,fun a m m'=>?_,?_⟩
 ·have:=x.new b m' m;rw[e]at this;cases this
 ·by_cases q:a∈μ₁
  ·exact x.new a q m'
  ·have h1:=y.new a m q
   cases e:s.heap.get? a with
   | none=>rfl
   | some o=>rw[x.keep a o e m']at h1;cases h1
 ·refine Classical.byContradiction fun kk=>?_
  obtain⟨h1,t1,e1⟩:=x.same
  obtain⟨h2,t2,e2⟩:=y.same
  refine kk ?_
  exact⟨h2,t2,by rw[e2,e1]⟩
theorem Step.tk {σ₀:Store}(x₀:HRel U s.heap μ σ₀) (x:Step U s μ s' μ' σ'):TupKeep s.heap s'.heap:=x₀.tupKeep x.keep
theorem Heap.push_fresh {h:Heap}{a:Addr}{o:Obj}(e:h.get? a=some o):a≠h.objs.size:=Nat.ne_of_lt (Heap.lt_size e)
theorem Heap.get?_size_none (h:Heap):h.get? h.objs.size=none:=by
 cases e:h.get? h.objs.size with
 | none=>rfl
 | some o=>exact absurd rfl (Heap.push_fresh e)
theorem HRel.freshAt (x:HRel U h μ σ):h.objs.size∉μ:=fun m=>by
 obtain⟨ob,e,_⟩:=x.mem m
 rw[Heap.get?_size_none]at e;cases e
theorem TupKeep.push (o:Obj):TupKeep h (h.push o):=fun Z Z e Z=>Heap.get?_push_of_some o e
theorem HRel.push (x:HRel U h μ σ) {ob:Obj}{o:O}(r:ORel U (h.push ob) (μ++[h.objs.size]) ob o):HRel U (h.push ob) (μ++[h.objs.size]) (σ++[o]):=by
 refine⟨by simp[x.len],?_,?_,?_,fun b o e=>Heap.get?_push_of_some _ (x.base b o e),?_,x.big⟩
 ·rw[List.nodup_append]
  refine⟨x.nodup,by simp,fun a ha b hb=>?_⟩
  simp only[List.mem_singleton]at hb
  rintro rfl;exact x.freshAt (hb▸ha)
 ·intro a ha
  rcases List.mem_append.mp ha with ha | ha
  ·exact x.fresh a ha
  ·simp only[List.mem_singleton]at ha
   subst ha
   cases e:U.hb.get? h.objs.size with
   | none=>rfl
   | some o=>exact absurd rfl (Heap.push_fresh (x.base _ _ e))
 ·intro i a o' e1 e2
  by_cases hi:i < μ.length
  ·refine Classical.byContradiction fun kk=>?_
   rw[List.getElem?_append_left hi]at e1
   rw[List.getElem?_append_left (x.len▸hi)]at e2
   obtain⟨ob',h1,h2⟩:=x.obj i a o' e1 e2
   refine kk ?_
   exact⟨ob',Heap.get?_push_of_some _ h1,h2.mono (TupKeep.push _) (List.prefix_append _ _)⟩
  ·have hi':i=μ.length:=by
    have:=(List.getElem?_eq_some_iff.mp e1).1
    simp at this;lia
   subst hi'
   rw[List.getElem?_append_right (Nat.le_refl _)]at e1
   rw[List.getElem?_append_right (by rw[x.len];exact Nat.le_refl _)]at e2
   simp[x.len]at e1 e2
   subst e1;subst e2
   exact⟨ob,Heap.get?_push_size _ r.notFreed,r⟩
 ·intro a ha
  rcases List.mem_append.mp ha with ha | ha
  ·exact x.sys a ha
  ·simp only[List.mem_singleton]at ha
   subst ha
   obtain⟨o,ho⟩:=x.big
   exact Heap.lt_size (x.base _ _ ho)
theorem Step.push (x:HRel U s.heap μ σ) {ob:Obj}{o:O}{t:Nat}(r:ORel U (s.heap.push ob) (μ++[s.heap.objs.size]) ob o) :
  Step U s μ { s with heap:=s.heap.push ob,toks:=t } (μ++[s.heap.objs.size]) (σ++[o]):=by
 refine⟨x.push r,fun b o e Z=>Heap.get?_push_of_some _ e,List.prefix_append _ _,fun a m m'=>?_,_,_,rfl⟩
 rcases List.mem_append.mp m with m | m
 ·exact absurd m m'
 ·simp only[List.mem_singleton]at m;subst m;exact Heap.get?_size_none _
theorem HRel.notSys (x:HRel U h μ σ) {i:Nat}{a:Addr}(e:μ[i]?=some a):(a==sysModules)=false:=by
 have:=x.sys a (List.mem_of_getElem? e)
 exact beq_eq_false_iff_ne.mpr fun q=>by rw[q]at this;exact absurd this (by decide)
theorem HRel.keeps (x:HRel U h μ σ) (k:∀b o,h.get? b=some o→h'.get? b=some o):HRel U h' μ σ:=
 ⟨x.len,x.nodup,x.fresh,fun i a o e1 e2=>by obtain⟨ob,h1,h2⟩:=x.obj i a o e1 e2;exact⟨ob,k _ _ h1,h2.mono (fun Z Z e Z=>k _ _ e) (List.prefix_refl _)⟩,fun b o e=>k _ _ (x.base b o e),x.sys,x.big⟩
theorem Step.keeps (x:HRel U s.heap μ σ) (k:∀b o,s.heap.get? b=some o→h'.get? b=some o) {t:Nat}:Step U s μ { s with heap:=h',toks:=t } μ σ:=
 ⟨x.keeps k,fun b o e Z=>k b o e,List.prefix_refl _,fun Z a b=>absurd a b,_,_,rfl⟩
theorem Step.toks (x:HRel U s.heap μ σ) {t:Nat}:Step U s μ { s with toks:=t } μ σ:=Step.keeps (h':=s.heap) x fun Z Z e=>e
theorem HRel.set (x:HRel U h μ σ) {i:Nat}{a:Addr}{ob:Obj}{o:O}(e:μ[i]?=some a) (hs:Heap.SameBut a h h') (hg:h'.get? a=some ob) (r:TupKeep h h'→ORel U h' μ ob o) :
  HRel U h' μ (σ.set i o):=by
 have tk:TupKeep h h':=fun b o' e' c=>(hs.2 b fun q=>by
  obtain⟨ob',h1,h2⟩:=x.mem (List.mem_of_getElem? e)
  subst q;rw[e']at h1;cases h1;exact h2 c.1).trans e'
 refine⟨by simp[x.len],x.nodup,x.fresh,fun j b o' e1 e2=>?_,fun b o' e'=>?_,x.sys,x.big⟩
 ·by_cases q:j=i
  ·subst q
   rw[e]at e1;cases e1
   rw[List.getElem?_set_self (x.lt e)]at e2
   cases e2
   exact⟨ob,hg,r tk⟩
  ·rw[List.getElem?_set_ne (Ne.symm q)]at e2
   obtain⟨ob',h1,h2⟩:=x.obj j b o' e1 e2
   have hne:b≠a:=fun z=>q (by
    have h3:=(List.getElem?_inj (x.lt e1 |> fun h=>x.len▸h) x.nodup).mp (e1.trans (z▸e.symm))
    exact h3)
   exact⟨ob',(hs.2 b hne).trans h1,h2.mono tk (List.prefix_refl _)⟩
 ·have hne:b≠a:=by rintro rfl;rw[x.fresh _ (List.mem_of_getElem? e)]at e';cases e'
  exact(hs.2 b hne).trans (x.base b o' e')
theorem Step.set (x:HRel U s.heap μ σ) {i:Nat}{a:Addr}{ob:Obj}{o:O}{t:Nat}(e:μ[i]?=some a) (hs:Heap.SameBut a s.heap h') (hg:h'.get? a=some ob) (r:TupKeep s.heap h'→ORel U h' μ ob o) :
  Step U s μ { s with heap:=h',toks:=t } μ (σ.set i o):=
 ⟨x.set e hs hg r,fun b o e' m=>(hs.2 b fun q=>m (q▸List.mem_of_getElem? e)).trans e',List.prefix_refl _,fun Z a b=>absurd a b,_,_,rfl⟩
end
end Mine
open PySem.SeqAt
namespace Mine
section
variable {U:Bx}{h h':Heap}{μ μ':List Addr}{σ:Store}{s:Shared}{A:Around}{E:Value→Shared→Prop}
inductive Res (U:Bx) (s:Shared) (μ:List Addr) (Q:Post) (val:Value) (s':Shared):Prop
 | in_ (v:V) (μ':List Addr) (σ':Store) (st:Step U s μ s' μ' σ') (r:RepV U s'.heap μ' val v) (q:Q v σ')
theorem Res.mk {Q:Post}{val:Value}{v:V}{s':Shared}{μ':List Addr}{σ':Store}(a:Step U s μ s' μ' σ') (b:RepV U s'.heap μ' val v) (c:Q v σ'):Res U s μ Q val s':=⟨v,μ',σ',a,b,c⟩
theorem Res.trans {Q:Post}{val:Value}{s₁ s₂:Shared}{μ₁:List Addr}{σ₁:Store}(a:Step U s μ s₁ μ₁ σ₁) (b:Res U s₁ μ₁ Q val s₂):Res U s μ Q val s₂:=by
 obtain⟨v,μ',σ',x,y,z⟩:=b
 exact⟨v,μ',σ',a.trans x,y,z⟩
theorem Res.here {Q:Post}{val:Value}{v:V}(x:HRel U s.heap μ σ) (b:RepV U s.heap μ val v) (c:Q v σ) {t:Nat}:Res U s μ Q val { s with toks:=t }:=
 ⟨v,μ,σ,Step.toks x,b,c⟩
theorem nS {α:Type}{a:α}{P:Prop}(h:(none:Option α)=some a):P:=nomatch h
theorem bff {P:Prop}(h:false=true):P:=nomatch h
theorem bft {P:Prop}(h:true=false):P:=nomatch h
inductive IsI (i:Int):Value→Prop
 | mk (t:Tok):IsI i (.int i t)
inductive IsS (c:Nat):Value→Prop
 | mk (s:Str) (t:Tok) (h:strTab[c]?=some s):IsS c (.str s t)
inductive IsT (U:Bx) (h:Heap) (μ:List Addr) (vs:List V):Value→Prop
 | mk (a:Addr) (items:Array Value) (n:Nat) (h1:h.get? a=some ⟨.type "tuple",none,.seq items n,#[]⟩) (h2:RepVs U h μ items.toList vs):IsT U h μ vs (.ref a)
inductive IsL (μ:List Addr) (l:Nat):Value→Prop
 | mk (a:Addr) (h:μ[l]?=some a):IsL μ l (.ref a)
theorem isInt_eq {x:Value}{i:Int}(r:IsI i x):∃t,x = .int i t:=by cases r;exact⟨_,rfl⟩
theorem isStr_eq {x:Value}{c:Nat}(r:IsS c x):∃s t,x = .str s t∧strTab[c]?=some s:=by cases r;exact⟨_,_,rfl,by assumption⟩
theorem repV_int {x:Value}{i:Int}(r:RepV U h μ x (.int i)):IsI i x:=by cases r;exact⟨_⟩
theorem repV_bool {x:Value}{i:Bool}(r:RepV U h μ x (.bool i)):x = .bool i:=by cases r;rfl
theorem repV_none {x:Value}(r:RepV U h μ x .none):x = .none:=by cases r;rfl
theorem repV_str {x:Value}{c:Nat}(r:RepV U h μ x (.str c)):IsS c x:=by cases r;exact⟨_,_,by assumption⟩
theorem repV_tup {x:Value}{vs:List V}(r:RepV U h μ x (.tup vs)):IsT U h μ vs x:=by cases r;exact⟨_,_,_,by assumption,by assumption⟩
theorem repV_loc {x:Value}{l:Nat}(r:RepV U h μ x (.loc l)):IsL μ l x:=by cases r;exact⟨_,by assumption⟩
theorem repV_cd {x:Value}{l:Nat}(r:RepV U h μ x (.cd l)):∃a o,x = .ref a∧U.K.lookup a=some o∧(a==sysModules)=false∧CdObj U l o:=by cases r;exact⟨_,_,rfl,by assumption,by assumption,by assumption⟩
theorem isTuple_of {a:Addr}{items:Array Value}{n:Nat}(e:h.get? a=some ⟨.type "tuple",none,.seq items n,#[]⟩):h.IsTuple a items:=⟨_,e,rfl,n,rfl⟩
theorem RepVs.length {xs:List Value}{vs:List V}(r:RepVs U h μ xs vs):xs.length=vs.length:=r.all2.length
inductive ListV (U:Bx) (h:Heap) (μ:List Addr) (l:Nat) (vs:List V):Value→Prop
 | mk (a:Addr) (items:Array Value) (n:Nat) (ha:μ[l]?=some a) (h1:h.get? a=some ⟨.type "list",none,.seq items n,#[]⟩) (h2:RepVs U h μ items.toList vs):ListV U h μ l vs (.ref a)
inductive ObjV (U:Bx) (h:Heap) (μ:List Addr) (l:Nat) (o:O):Value→Prop
 | mk (a:Addr) (ob:Obj) (ha:μ[l]?=some a) (h1:h.get? a=some ob) (h2:ORel U h μ ob o):ObjV U h μ l o (.ref a)
theorem HRel.objv (x:HRel U h μ σ) {y:Value}{l:Nat}{o:O}(r:RepV U h μ y (.loc l)) (e:σ[l]?=some o):ObjV U h μ l o y:=by
 refine Classical.byContradiction fun kk=>?_
 obtain⟨a,ha⟩:=repV_loc r
 obtain⟨a',ob,g1,g2,g3⟩:=x.addr e
 rw[ha]at g1;cases g1
 refine kk ?_
 exact⟨a,ob,ha,g2,g3⟩
theorem HRel.listv (x:HRel U h μ σ) {y:Value}{l:Nat}{vs:List V}(r:RepV U h μ y (.loc l)) (e:σ[l]?=some (.list vs)):ListV U h μ l vs y:=by
 obtain⟨a,ob,ha,g2,items,n,g3,g4⟩:=x.objv r e
 exact⟨a,items,n,ha,g3▸g2,g4⟩
theorem HRel.list (x:HRel U h μ σ) {l:Nat}{vs:List V}(e:σ[l]?=some (.list vs)):∃a items n,μ[l]?=some a∧h.get? a=some ⟨.type "list",none,.seq items n,#[]⟩∧RepVs U h μ items.toList vs:=by
 refine Classical.byContradiction fun kk=>?_
 obtain⟨a,ob,h1,h2,items,n,h3,h4⟩:=x.addr e
 refine kk ?_
 exact⟨a,items,n,h1,h3▸h2,h4⟩
theorem isList_of {a:Addr}{items:Array Value}{n:Nat}(e:h.get? a=some ⟨.type "list",none,.seq items n,#[]⟩):h.IsList a items:=⟨_,e,rfl,n,rfl⟩
inductive EqF:V→V→Bool→Prop
 | nn:EqF .none .none true
 | ni {i:Int}:EqF .none (.int i) false
 | in_ {i:Int}:EqF (.int i) .none false
 | bb {a b:Bool}:EqF (.bool a) (.bool b) (a==b)
 | ii {a b:Int}:EqF (.int a) (.int b) (a==b)
theorem eqf_inv {a b:V}{r:Bool}(e:eqf a b=some r):EqF a b r:=by
 induction a using V.casesOn with
 | none=>induction b using V.casesOn with
  | none=>cases e;exact .nn
  | int=>cases e;exact .ni
  | _=>exact nS e
 | bool=>induction b using V.casesOn with
  | bool=>cases e;exact .bb
  | _=>exact nS e
 | int=>induction b using V.casesOn with
  | none=>cases e;exact .in_
  | int=>cases e;exact .ii
  | _=>exact nS e
 | _=>exact nS e
theorem eqAt_of {x y:Value}{vx vy:V}{b:Bool}(rx:RepV U s.heap μ x vx) (ry:RepV U s.heap μ y vy) (e:eqf vx vy=some b):EqAt A s x y b:=by
 cases eqf_inv e with
 | nn=>rw[repV_none rx,repV_none ry];exact EqAt.same _
 | ni=>rw[repV_none rx];obtain⟨t⟩:=repV_int ry;exact EqAt.none_int _ _
 | in_=>rw[repV_none ry];obtain⟨t⟩:=repV_int rx;exact EqAt.int_none _ _
 | bb=>rw[repV_bool rx,repV_bool ry];exact EqAt.bool_bool _ _
 | ii=>obtain⟨t⟩:=repV_int rx;obtain⟨u⟩:=repV_int ry;exact EqAt.int_int _ _ _ _
theorem all_range_succ (e:Nat→Bool) (n:Nat):(List.range (n+1)).all e=(e 0&&(List.range n).all fun i=>e (i+1)):=by
 rw[List.range_succ_eq_map,List.all_cons,List.all_map];rfl
theorem eqfs_all {xs ys:List V}{b:Bool}(e:eqfs xs ys=some b) :
  (∀(j:Nat) (x y:V),xs[j]?=some x→ys[j]?=some y→∃c,eqf x y=some c) ∧
  ((List.range (min xs.length ys.length)).all (fun j=>((xs[j]?.bind fun x=>ys[j]?.bind fun y=>eqf x y).getD false))&&xs.length==ys.length)=b:=by
 induction xs generalizing ys b with
 | nil=>
  refine⟨fun j x y h=>nS (show(none:Option V)=some x from h),?_⟩
  induction ys with
  | nil=>cases e;rfl
  | cons y ys=>cases e;exact Bool.and_false _
 | cons x xs ih=>
  induction ys with
  | nil=>
   refine⟨fun j x y h h'=>nS (show(none:Option V)=some y from h'),?_⟩
   cases e;exact Bool.and_false _
  | cons y ys=>
   refine Classical.byContradiction fun kk=>?_
   obtain⟨a,h1,e⟩:=Option.bind_eq_some_iff.mp (show(eqf x y).bind (fun a=>(eqfs xs ys).map fun b=>a&&b)=some b from e)
   obtain⟨c,h2,rfl⟩:=Option.map_eq_some_iff.mp e
   obtain⟨i1,i2⟩:=ih h2
   refine kk ?_
   refine⟨fun j u v hu hv=>?_,?_⟩
   ·induction j with
    | zero=>cases hu;cases hv;exact⟨a,h1⟩
    | succ j=>exact i1 j u v hu hv
   ·rw[show min (x :: xs).length (y :: ys).length=min xs.length ys.length+1 by simp[Nat.succ_min_succ],all_range_succ,←i2]
    simp[h1,Bool.and_assoc]
theorem tup_items {xs:Array Value}{ys:Array Value}{vx vy:List V}{b:Bool}(rx:RepVs U s.heap μ xs.toList vx) (ry:RepVs U s.heap μ ys.toList vy) (e:eqfs vx vy=some b) :
  ∃f:Nat→Bool,(∀j (h1:j < xs.size) (h2:j < ys.size),EqAt A s xs[j] ys[j] (f j))∧((List.range (min xs.size ys.size)).all f&&xs.size==ys.size)=b:=by
 refine Classical.byContradiction fun kk=>?_
 obtain⟨i1,i2⟩:=eqfs_all e
 have l1:xs.size=vx.length:=by rw[←rx.length];simp
 have l2:ys.size=vy.length:=by rw[←ry.length];simp
 refine kk ?_
 refine⟨fun j=>((vx[j]?.bind fun x=>vy[j]?.bind fun y=>eqf x y).getD false),fun j h1 h2=>?_,by rw[l1,l2];exact i2⟩
 refine Classical.byContradiction fun kk=>?_
 obtain⟨u,hu,ru⟩:=rx.all2.get' (i:=j) (a:=xs[j]) (by simp[h1])
 obtain⟨v,hv,rv⟩:=ry.all2.get' (i:=j) (a:=ys[j]) (by simp[h2])
 obtain⟨c,hc⟩:=i1 j u v hu hv
 refine kk ?_
 simp only[hu,hv,Option.bind_some,hc,Option.getD_some]
 exact eqAt_of ru rv hc
theorem eq_sound {x y:Value}{vx vy:V}{b:Bool}{Q:Value→Shared→Prop}(hu:A.units+20 < cLine) (rx:RepV U s.heap μ x vx) (ry:RepV U s.heap μ y vy) (e:eqv vx vy=some b) (h:Q (.bool b) s) :
  wpAny (model U.p U.w) A (compareOp .Eq x y) Q E s:=by
 have plain:eqf vx vy=some b→wpAny (model U.p U.w) A (compareOp .Eq x y) Q E s:=fun e=>by
  cases eqf_inv e with
  | nn=>rw[repV_none rx,repV_none ry];exact EqNone.eq_none_none h
  | ni=>rw[repV_none rx];obtain⟨t⟩:=repV_int ry;exact EqNone.eq_none_int h
  | in_=>rw[repV_none ry];obtain⟨t⟩:=repV_int rx;exact EqNone.eq_int_none h
  | bb=>rw[repV_bool rx,repV_bool ry];exact eq_bool h
  | ii=>obtain⟨t⟩:=repV_int rx;obtain⟨u⟩:=repV_int ry;exact P.eq_int h
 induction vx using V.casesOn with
 | tup vs=>induction vy using V.casesOn with
  | tup us=>
   obtain⟨a,xs,n,h1,h2⟩:=repV_tup rx
   obtain⟨a',ys,n',h1',h2'⟩:=repV_tup ry
   obtain⟨f,hf,hb⟩:=tup_items (A:=A.in1) h2 h2' e
   exact eq_tupleAt (isTuple_of h1) (isTuple_of h1') (by lia) hf (hb▸h)
  | _=>exact plain e
 | _=>exact plain e
theorem ne_sound {x y:Value}{vx vy:V}{b:Bool}{Q:Value→Shared→Prop}(hu:A.units+20 < cLine) (rx:RepV U s.heap μ x vx) (ry:RepV U s.heap μ y vy) (e:nev vx vy=some b) (h:Q (.bool (!b)) s) :
  wpAny (model U.p U.w) A (compareOp .NotEq x y) Q E s:=by
 induction vx using V.casesOn with
 | tup vs=>induction vy using V.casesOn with
  | tup us=>
   refine Classical.byContradiction fun kk=>?_
   obtain⟨a,xs,n,h1,h2⟩:=repV_tup rx
   obtain⟨a',ys,n',h1',h2'⟩:=repV_tup ry
   obtain⟨f,hf,hb⟩:=tup_items (A:=A.in1) h2 h2' e
   refine kk ?_
   exact RcNeAt.tuples (isTuple_of h1) (isTuple_of h1') (by lia) hf U.p U.w E Q (hb▸h)
  | _=>exact nS e
 | bool=>induction vy using V.casesOn with
  | bool=>cases e;rw[repV_bool rx,repV_bool ry];exact ne_bool h
  | _=>exact nS e
 | int=>induction vy using V.casesOn with
  | int=>cases e;obtain⟨t⟩:=repV_int rx;obtain⟨u⟩:=repV_int ry;exact P.ne_int h
  | _=>exact nS e
 | _=>exact nS e
theorem line_le {n:Nat}(h:n≤line):n≤sizeLine:=Nat.le_trans h (by rw[sizeLine_eq];decide)
theorem truth_sound {x:Value}{v:V}{Q:Bool→Prop}{R:Bool→Shared→Prop}(hr:HRel U s.heap μ σ) (rx:RepV U s.heap μ x v) (e:truthR v σ Q) (h:∀b t,Q b→R b { s with toks:=t }) :
  wpAny (model U.p U.w) A (truthy x) R E s:=by
 induction v using V.casesOn with
 | bool b=>rw[repV_bool rx];exact wpAny_truthy_bool (h _ s.toks e)
 | int i=>obtain⟨t⟩:=repV_int rx;have e:truthI i Q:=e;unfold truthI at e;exact P.truthy_int (h _ s.toks e)
 | loc l=>
  cases e with
  | @mk _ vs hl h2 q=>
   obtain⟨a,items,n,ha,h2',h3⟩:=hr.listv rx hl
   have hlen:items.size=vs.length:=by rw[←h3.length];simp
   have he:items.isEmpty=vs.isEmpty:=by
    rw[show items.isEmpty=decide (items.size=0) from rfl,hlen];induction vs <;> simp
   have:=line_le h2
   rw[sizeLine_eq]at this
   exact wpAny_truthy_list (isList_of h2') (by rw[hlen];lia) (by rw[he];exact h _ _ q)
 | _=>exact e.elim
theorem repVs_append {xs ys:List Value}{vs us:List V}(a:RepVs U h μ xs vs) (b:RepVs U h μ ys us):RepVs U h μ (xs++ys) (vs++us):=.of_all2 (a.all2.append b.all2)
theorem res_tup {items:List Value}{vs:List V}{Q:Post}{t:Nat}(hr:HRel U s.heap μ σ) (r:RepVs U s.heap μ items vs) (q:Q (.tup vs) σ) :
  Res U s μ Q (.ref s.heap.objs.size) { s with heap:=s.heap.push { cls:=.type "tuple",data:=.seq items.toArray },toks:=t }:=
 ⟨_,μ,σ,Step.keeps hr fun Z Z e=>Heap.get?_push_of_some _ e,.tup (Heap.get?_push_size _ rfl) (r.mono (TupKeep.push _) (List.prefix_refl _)),q⟩
theorem res_list {items:List Value}{vs:List V}{Q:Post}{t:Nat}(hr:HRel U s.heap μ σ) (r:RepVs U s.heap μ items vs) (q:Q (.loc σ.length) (σ++[.list vs])) :
  Res U s μ Q (.ref s.heap.objs.size) { s with heap:=s.heap.push { cls:=.type "list",data:=.seq items.toArray },toks:=t }:=
 ⟨_,_,_,Step.push (o:=.list vs) hr ⟨_,_,rfl,r.mono (TupKeep.push _) (List.prefix_append _ _)⟩,.loc (by rw[←hr.len];simp),q⟩
noncomputable def opOf:BOp→Operator | .add=>.Add | .sub=>.Sub | .mul=>.Mult | .div=>.FloorDiv | .mod=>.Mod | .pow=>.Pow | .band=>.BitAnd
theorem bopOf_inv {o:BOp}{op:Operator}(h:bopOf op=some o):op=opOf o:=by
 induction op <;> first | exact nS h | (cases h;rfl)
theorem repVs_size {xs:Array Value}{vs:List V}(h:RepVs U s.heap μ xs.toList vs):xs.size=vs.length:=by rw[←h.length];simp
theorem band_ok {x y:Int}(h:0≤x∧x < 4∧0≤y∧y < 4):Builtin.bitAnd x y=((x.toNat &&& y.toNat:Nat):Int):=by
 obtain⟨a,rfl⟩:=Int.eq_ofNat_of_zero_le h.1
 obtain⟨b,rfl⟩:=Int.eq_ofNat_of_zero_le h.2.2.1
 have:∀a < 4,∀b < 4,Builtin.bitAnd (a:Nat) (b:Nat)=(((a:Int).toNat &&& (b:Int).toNat:Nat):Int):=by decide
 exact this a ((Int.ofNat_lt (m:=4)).mp h.2.1) b ((Int.ofNat_lt (m:=4)).mp h.2.2.2)
theorem bop_sound {o:BOp}{op:Operator}{x y:Value}{vx vy:V}{Q:Post}(ho:bopOf op=some o) (hr:HRel U s.heap μ σ) (rx:RepV U s.heap μ x vx) (ry:RepV U s.heap μ y vy) (e:bopR o vx vy σ Q) :
  wpAny (model U.p U.w) A (binaryOp op x y) (Res U s μ Q) E s:=by
 obtain rfl:=bopOf_inv ho
 induction e with
 | addI e=>obtain⟨t⟩:=repV_int rx;obtain⟨u⟩:=repV_int ry;exact P.add_int (Res.here hr (.int _ _) e)
 | @addT vs us hsz e=>
  obtain⟨a,xs,n,h1,h2⟩:=repV_tup rx
  obtain⟨a',ys,n',h1',h2'⟩:=repV_tup ry
  have hl:xs.size+ys.size≤sizeLine:=by rw[repVs_size h2,repVs_size h2'];exact line_le hsz
  by_cases hv:xs.toList=[]
  ·have:vs=[]:=by cases vs with | nil=>rfl | cons _ _=>rw[hv]at h2;cases h2
   subst this
   exact concat_meets ⟨_,h1,rfl⟩ ⟨_,h1',rfl⟩ noFill_tuple_add seq_tuple_add PySem.F.slot_tuple_add PySem.F.entry_tuple_add (PySem.F.args_tuple_add_2 _ _)
    (tuple_addW0 a a' xs ys n n' none none #[] #[] (by simpa using hv)) ⟨h1,h1',Res.here (t:=s.toks) hr ry e⟩
  ·by_cases hw:ys.toList=[]
   ·have:us=[]:=by induction us with | nil=>rfl | cons _ _=>rw[hw]at h2';cases h2'
    subst this
    exact concat_meets ⟨_,h1,rfl⟩ ⟨_,h1',rfl⟩ noFill_tuple_add seq_tuple_add PySem.F.slot_tuple_add PySem.F.entry_tuple_add (PySem.F.args_tuple_add_2 _ _)
     (tuple_addW1 a a' xs ys n n' none none #[] #[] (by simpa using hv) (by simpa using hw)) ⟨h1,h1',Res.here (t:=s.toks) hr rx (by rw[List.append_nil]at e;exact e)⟩
   ·refine concat_meets ⟨_,h1,rfl⟩ ⟨_,h1',rfl⟩ noFill_tuple_add seq_tuple_add PySem.F.slot_tuple_add PySem.F.entry_tuple_add (PySem.F.args_tuple_add_2 _ _)
     (tuple_addW2 a a' xs ys n n' none none #[] #[] (by simpa using hv) (by simpa using hw) hl) ⟨h1,h1',?_⟩
    have:=res_tup (t:=s.toks) hr (repVs_append h2 h2') e
    rw[show(xs.toList++ys.toList).toArray=xs++ys by simp]at this
    exact this
 | addL hi hj hsz e=>
  refine Classical.byContradiction fun kk=>?_
  obtain⟨a,ha⟩:=repV_loc rx
  obtain⟨a',ha'⟩:=repV_loc ry
  obtain⟨b,xs,n,q1,h1,h2⟩:=hr.list hi
  obtain⟨b',ys,n',q1',h1',h2'⟩:=hr.list hj
  rw[ha]at q1;cases q1
  rw[ha']at q1';cases q1'
  have hl:xs.size+ys.size≤sizeLine:=by rw[repVs_size h2,repVs_size h2'];exact line_le hsz
  refine kk ?_
  refine concat_meets ⟨_,h1,rfl⟩ ⟨_,h1',rfl⟩ noFill_list_add seq_list_add PySem.F.slot_list_add PySem.F.entry_list_add (PySem.F.args_list_add_2 _ _) (list_addW a a' xs ys n n' none none #[] #[] hl) ⟨h1,h1',?_⟩
  have:=res_list (t:=s.toks) hr (repVs_append h2 h2') e
  rw[show(xs.toList++ys.toList).toArray=xs++ys by simp]at this
  exact this
 | sub e=>obtain⟨t⟩:=repV_int rx;obtain⟨u⟩:=repV_int ry;exact P.sub_int (Res.here hr (.int _ _) e)
 | mul b1 b2 e=>
  obtain⟨t⟩:=repV_int rx;obtain⟨u⟩:=repV_int ry
  refine P.mul_int (Res.here hr (.int _ _) e) (IntMulOk.of_left ?_)
  unfold Builtin.Int.intBits
  split
  ·decide
  ·rename_i hne
   have:(Int.natAbs _).log2 < 62:=(Nat.log2_lt (by simpa using hne)).mpr b1
   lia
 | div b1 b2 e=>
  obtain⟨t⟩:=repV_int rx;obtain⟨u⟩:=repV_int ry
  refine floordiv_int (Int.ne_of_gt b1) (Res.here hr (.int _ _) ?_) (.inl ?_)
  ·rw[Int.fdiv_eq_ediv_of_nonneg _ (Int.le_of_lt b1)];exact e
  ·exact PyProof.noPylong_small ((Int.ofNat_lt (m:=1073741824)).mp (by rw[Int.natAbs_of_nonneg (Int.le_of_lt b1)];exact b2))
 | mod b e=>
  obtain⟨t⟩:=repV_int rx;obtain⟨u⟩:=repV_int ry
  refine mod_int' (Int.ne_of_gt b) (Res.here hr (.int _ _) ?_)
  rw[Int.fmod_eq_emod_of_nonneg _ (Int.le_of_lt b)];exact e
 | pow b1 b2 b3 e=>
  subst b1
  obtain⟨t⟩:=repV_int rx;obtain⟨u⟩:=repV_int ry
  refine pow_int b2 ?_ (Res.here hr (.int _ _) e)
  have:(Builtin.Int.intBits 12:Int)=4:=by decide
  rw[this];lia
 | band b e=>
  obtain⟨t⟩:=repV_int rx;obtain⟨u⟩:=repV_int ry
  refine and_int (Res.here hr (.int _ _) ?_)
  rw[band_ok b];exact e
end
section
variable {U:Bx}{h:Heap}{μ:List Addr}{σ:Store}{s:Shared}{A:Around}{E:Value→Shared→Prop}
inductive OptR {β:Type} (R:β→V→Prop):Option β→Option V→Prop
 | no:OptR R none none
 | yes {x:β} {v:V} (h:R x v):OptR R (some x) (some v)
theorem OptR.map {β γ:Type}{R:β→V→Prop}{R':γ→V→Prop}(f:β→γ) {o:Option β}{r:Option V}(h:OptR R o r) (g:∀x v,R x v→R' (f x) v):OptR R' (o.map f) r:=by
 induction h with
 | no=>exact .no
 | yes h=>exact .yes (g _ _ h)
theorem OptR.isSome {β:Type}{R:β→V→Prop}{o:Option β}{r:Option V}(h:OptR R o r):o.isSome=r.isSome:=by induction h <;> rfl
theorem OptR.inv {β:Type}{R:β→V→Prop}{o:Option β}{v:V}(h:OptR R o (some v)):∃x,o=some x∧R x v:=by cases h with | yes h=>exact⟨_,rfl,h⟩
theorem all2_agets {β:Type}{κ κ':Type} [DecidableEq κ] [DecidableEq κ'] {R:β→V→Prop}(g:β→κ') (c:κ→κ') (hinj:∀a b,c a=c b→a=b) {xs:List β}{kvs:List (κ×V)}
  (r:All2 (fun p q=>g p=c q.1∧R p q.2) xs kvs) (k:κ):OptR R (xs.find? (fun p=>decide (g p=c k))) (agets kvs k):=by
 induction r with
 | nil=>exact .no
 | @cons p q ps qs h _ ih=>
  unfold agets at ih ⊢
  rw[List.find?_cons,List.find?_cons]
  by_cases e:q.1=k
  ·rw[decide_eq_true (show g p=c k by rw[h.1,e]),decide_eq_true e];exact .yes h.2
  ·rw[decide_eq_false (fun z=>e (hinj _ _ (h.1.symm.trans z)):¬g p=c k),decide_eq_false e];exact ih
inductive LookAt (U:Bx) (s:Shared) (μ:List Addr):Value→Value→Option V→Prop
 | int {a:Addr} {k:Int} {f:Int→Option Value} {key:Value} {r:Option V} (lo:(a==sysModules)=false) (h1:(intKind U.p U.w).is k key=true) (h2:s.heap.MapOf (intKind U.p U.w) a f) (h3:OptR (RepV U s.heap μ) (f k) r):LookAt U s μ (.ref a) key r
 | str {a:Addr} {k:Str} {f:Str→Option Value} {key:Value} {r:Option V} (lo:(a==sysModules)=false) (h1:(PySem.strKind U.p U.w).is k key=true) (h2:s.heap.MapOf (PySem.strKind U.p U.w) a f) (h3:OptR (RepV U s.heap μ) (f k) r):LookAt U s μ (.ref a) key r
 | tup {a b:Addr} {k:Ky} {xs:List (Ky×Addr×Value)} {r:Option V} (lo:(a==sysModules)=false) (h1:IsKy U.p U.w s.heap k b) (h2:s.heap.DictOfH (kyKind U.p U.w) a xs) (h3:OptR (fun p v=>RepV U s.heap μ p.2 v) (atKey xs k) r):LookAt U s μ (.ref a) (.ref b) r
theorem in1_room {A:Around}(hu:A.units+20 < cLine):A.in1.units+4 < cLine:=Nat.lt_of_le_of_lt (Nat.add_le_add_left (show 5≤20 by decide) A.units) hu
theorem repVs_ints {xs:List Value}{vs:List V}{l:List Int}(r:RepVs U h μ xs vs) (e:intsOf vs=some l):ItemsAre (intKind U.p U.w) l xs:=by
 induction vs generalizing xs l with
 | nil=>cases e;cases r;exact .nil
 | cons v vs ih=>
  cases r with
  | cons a b=>
   induction v using V.casesOn with
   | int i=>
    obtain⟨l',e1,rfl⟩:=Option.map_eq_some_iff.mp e
    obtain⟨t⟩:=repV_int a
    exact .cons (by simp[intKind,Value.isInt]) (ih b e1)
   | _=>exact nS e
inductive KyI:V→Ky→Prop
 | two {a b:Int}:KyI (.tup [.int a,.int b]) (a,b,none)
 | three {a b:Int} {vs:List V} {l:List Int} (h:intsOf vs=some l):KyI (.tup [.int a,.int b,.tup vs]) (a,b,some l)
theorem kyOf_inv {v:V}{ky:Ky}(e:kyOf v=some ky):KyI v ky:=by
 induction v using V.casesOn with
 | tup vs=>cases vs with
  | nil=>exact nS e
  | cons x xs=>induction x using V.casesOn with
   | int a=>cases xs with
    | nil=>exact nS e
    | cons y ys=>induction y using V.casesOn with
     | int b=>cases ys with
      | nil=>cases e;exact .two
      | cons z zs=>induction z using V.casesOn with
       | tup l=>induction zs with
        | nil=>
         obtain⟨l',h,rfl⟩:=Option.map_eq_some_iff.mp e
         exact .three h
        | cons=>exact nS e
       | _=>exact nS e
     | _=>exact nS e
   | _=>exact nS e
 | _=>exact nS e
inductive LookI (σ:Store):V→V→Option V→Prop
 | cd {n:Nat} {i:Int}:LookI σ (.cd n) (.int i) (agets (cdTab n) i)
 | dI {l:Nat} {i:Int} {kvs:List (Int×V)} (h:σ[l]?=some (.dI kvs)):LookI σ (.loc l) (.int i) (agets kvs i)
 | dS {l c:Nat} {kvs:List (Nat×V)} (h:σ[l]?=some (.dS kvs)):LookI σ (.loc l) (.str c) (agets kvs c)
 | dT {l:Nat} {vs:List V} {ky:Ky} {kvs:List (Ky×V)} (h:σ[l]?=some (.dT kvs)) (hk:kyOf (.tup vs)=some ky):LookI σ (.loc l) (.tup vs) (agets kvs ky)
inductive SeqI (σ:Store):V→List V→Prop
 | tup {vs:List V}:SeqI σ (.tup vs) vs
 | list {l:Nat} {vs:List V} (h:σ[l]?=some (.list vs)):SeqI σ (.loc l) vs
theorem seq_inv {v:V}{vs:List V}(e:seqOf σ v=some vs):SeqI σ v vs:=by
 induction v using V.casesOn with
 | tup us=>cases e;exact .tup
 | loc l=>
  have e:(match σ[l]? with | some (.list vs)=>some vs | _=>none)=some vs:=e
  cases h:σ[l]? with
  | none=>rw[h]at e;exact nS e
  | some o=>rw[h]at e;induction o with
   | list=>cases e;exact .list h
   | _=>exact nS e
 | _=>exact nS e
inductive ItsI (σ:Store):V→List V→Prop
 | tup {vs:List V}:ItsI σ (.tup vs) vs
 | list {l:Nat} {vs:List V} (h:σ[l]?=some (.list vs)):ItsI σ (.loc l) vs
 | dict {l:Nat} {kvs:List (Int×V)} (h:σ[l]?=some (.dI kvs)):ItsI σ (.loc l) (kvs.map fun p=>.int p.1)
theorem its_inv {v:V}{vs:List V}(e:itemsOf σ v=some vs):ItsI σ v vs:=by
 induction v using V.casesOn with
 | tup us=>cases e;exact .tup
 | loc l=>
  have e:(match σ[l]? with | some (.list vs)=>some vs | some (.dI kvs)=>some (kvs.map fun p=>.int p.1) | _=>none)=some vs:=e
  cases h:σ[l]? with
  | none=>rw[h]at e;exact nS e
  | some o=>rw[h]at e;induction o with
   | list=>cases e;exact .list h
   | dI=>cases e;exact .dict h
   | _=>exact nS e
 | _=>exact nS e
theorem look_inv {d k:V}{r:Option V}(e:lookO σ d k=some r):LookI σ d k r:=by
 induction d using V.casesOn with
 | cd n=>induction k using V.casesOn with
  | int i=>cases e;exact .cd
  | _=>exact nS e
 | loc l=>induction k using V.casesOn with
  | int i=>
   have e:(match σ[l]? with | some (.dI kvs)=>some (agets kvs i) | _=>none)=some r:=e
   cases h:σ[l]? with
   | none=>rw[h]at e;exact nS e
   | some o=>rw[h]at e;induction o with
    | dI=>cases e;exact .dI h
    | _=>exact nS e
  | str c=>
   have e:(match σ[l]? with | some (.dS kvs)=>some (agets kvs c) | _=>none)=some r:=e
   cases h:σ[l]? with
   | none=>rw[h]at e;exact nS e
   | some o=>rw[h]at e;induction o with
    | dS=>cases e;exact .dS h
    | _=>exact nS e
  | tup vs=>
   have e:(match σ[l]?,kyOf (.tup vs)with | some (.dT kvs),some ky=>some (agets kvs ky) | _,_=>none)=some r:=e
   cases h:σ[l]? with
   | none=>rw[h]at e;exact nS e
   | some o=>rw[h]at e;induction o with
    | dT=>cases hk:kyOf (.tup vs) with
     | none=>rw[hk]at e;exact nS e
     | some ky=>rw[hk]at e;cases e;exact .dT h hk
    | _=>exact nS e
  | _=>exact nS e
 | _=>exact nS e
theorem RepVs.uncons {xs:List Value}{v:V}{vs:List V}(r:RepVs U h μ xs (v :: vs)):∃x xs',xs=x :: xs'∧RepV U h μ x v∧RepVs U h μ xs' vs:=by cases r with | cons a b=>exact⟨_,_,rfl,a,b⟩
theorem RepVs.unnil {xs:List Value}(r:RepVs U h μ xs []):xs=[]:=by cases r;rfl
theorem isKy_of {x:Value}{v:V}{ky:Ky}(r:RepV U h μ x v) (e:kyOf v=some ky):∃a,x = .ref a∧IsKy U.p U.w h ky a:=by
 cases kyOf_inv e with
 | two=>
  obtain⟨a,items,n,h1,h2⟩:=repV_tup r
  refine⟨a,rfl,_,items,n,h1,rfl,rfl,?_⟩
  refine Classical.byContradiction fun kk=>?_
  obtain⟨x,l,e1,p,h2⟩:=h2.uncons
  obtain⟨y,l',e2,q,h2⟩:=h2.uncons
  obtain⟨t⟩:=repV_int p;obtain⟨u⟩:=repV_int q
  refine kk ?_
  rw[e1,e2,h2.unnil]
  exact .mk t u .no
 | three e1=>
  obtain⟨a,items,n,h1,h2⟩:=repV_tup r
  refine⟨a,rfl,_,items,n,h1,rfl,rfl,?_⟩
  refine Classical.byContradiction fun kk=>?_
  obtain⟨x,l,e2,p,h2⟩:=h2.uncons
  obtain⟨y,l',e3,q,h2⟩:=h2.uncons
  obtain⟨z,l'',e4,o,h2⟩:=h2.uncons
  obtain⟨t⟩:=repV_int p;obtain⟨u⟩:=repV_int q
  obtain⟨b,it,m,g1,g2⟩:=repV_tup o
  refine kk ?_
  rw[e2,e3,e4,h2.unnil]
  exact .mk t u (.yes ⟨_,it,m,g1,rfl,rfl,repVs_ints g2 e1⟩)
theorem strTab_inj:∀a b:Nat,∀x,strTab[a]?=some x→strTab[b]?=some x→a=b:=by
 intro a b x ha hb
 have hn:strTab.Nodup:=by decide +kernel
 exact(List.getElem?_inj (List.getElem?_eq_some_iff.mp ha).1 hn).mp (ha.trans hb.symm)
theorem str_agets {x:Str}{c:Nat}(hx:strTab[c]?=some x) {kv:List (Str×Value)}{kvs:List (Nat×V)}(r:All2 (fun p q=>strTab[q.1]?=some p.1∧RepV U h μ p.2 q.2) kv kvs):OptR (RepV U h μ) (valueAt kv x) (agets kvs c):=by
 induction r with
 | nil=>exact .no
 | @cons p q ps qs h1 _ ih=>
  unfold valueAt agets at ih ⊢
  rw[List.find?_cons,List.find?_cons]
  by_cases e:q.1=c
  ·rw[decide_eq_true (Option.some.inj (h1.1.symm.trans ((congrArg (strTab[·]?) e).trans hx)):p.1=x),decide_eq_true e];exact .yes h1.2
  ·rw[decide_eq_false (fun z=>e (strTab_inj _ _ x (z▸h1.1) hx):¬p.1=x),decide_eq_false e];exact ih
theorem look_of {d k:V}{dv key:Value}{r:Option V}(hr:HRel U s.heap μ σ) (X:U.K.In s.heap) (rd:RepV U s.heap μ dv d) (rk:RepV U s.heap μ key k) (e:lookO σ d k=some r):LookAt U s μ dv key r:=by
 cases look_inv e with
 | @cd n i=>
  refine Classical.byContradiction fun kk=>?_
  obtain⟨a,o,rfl,h1,h2,kvs,h3,h4⟩:=repV_cd rd
  obtain⟨t⟩:=repV_int rk
  refine kk ?_
  refine .int (k:=i) (f:=valueAt kvs) h2 (by simp[intKind,Value.isInt]) (Heap.dictOf_iff.mpr ⟨o,X _ _ h1,h3⟩).mapOf ((all2_agets (R:=fun p v=>KVal U p.2 v) (fun p:Int×Value=>p.1) (fun z:Int=>z) (fun Z Z z=>z) h4 i).map (fun p=>p.2) fun p v q=>?_)
  rcases q with⟨i,t,z1,z2⟩ | ⟨b,it,m,us,z1,z2,z3,z4⟩
  ·rw[z1,z2];exact .int _ _
  ·rw[z1,z3]
   exact .tup (X _ _ z2) (.of_all2 (z4.mono fun Z Z zz=>by obtain⟨i,t,y1,y2⟩:=zz;exact by rw[y1,y2];exact .int _ _))
 | @dI l i kvs hl=>
  obtain⟨a,ob,ha,g2,kv,g3,_,g4⟩:=hr.objv rd hl
  obtain⟨t⟩:=repV_int rk
  exact .int (k:=i) (f:=valueAt kv) (hr.notSys ha) (by simp[intKind,Value.isInt]) (Heap.dictOf_iff.mpr ⟨ob,g2,g3⟩).mapOf ((all2_agets (R:=fun p v=>RepV U s.heap μ p.2 v) (fun p:Int×Value=>p.1) (fun z:Int=>z) (fun Z Z z=>z) g4 i).map (fun p=>p.2) fun p v q=>q)
 | @dS l c kvs hl=>
  obtain⟨a,ob,ha,g2,kv,g3,g4⟩:=hr.objv rd hl
  obtain⟨x,t,hx⟩:=repV_str rk
  exact .str (k:=x) (f:=valueAt kv) (hr.notSys ha) (by simp[PySem.strKind,Value.isStrOf]) (Heap.dictOf_iff.mpr ⟨ob,g2,g3⟩).mapOf (str_agets hx g4)
 | @dT l vs ky kvs hl hk=>
  refine Classical.byContradiction fun kk=>?_
  obtain⟨a,ob,ha,g2,xs,⟨es,ep,g3,g4,g5,g6,g7⟩,g8⟩:=hr.objv rd hl
  obtain⟨b,rfl,hb'⟩:=isKy_of rk hk
  refine kk ?_
  exact .tup (hr.notSys ha) hb' ⟨ob,es,ep,g2,g3,g4,g5,g6,g7⟩ ((all2_agets (R:=fun p v=>RepV U s.heap μ p.2.2 v) (fun p:Ky×Addr×Value=>p.1) (fun z:Ky=>z) (fun Z Z z=>z) g8 ky).map (fun p=>p.2) fun p v q=>q)
theorem in_dict {key dv:Value}{r:Option V}{Q:Value→Shared→Prop}(hu:A.units+20 < cLine) (l:LookAt U s μ dv key r) (h:∀t,Q (.bool r.isSome) { s with toks:=t }) :
  wpAny (model U.p U.w) A (compareOp .In key dv) Q E s:=by
 induction l with
 | int lo h1 h2 h3=>exact wpAny_in_of h1 lo h2 (by rw[h3.isSome];exact h _)
 | str lo h1 h2 h3=>exact wpAny_in_of h1 lo h2 (by rw[h3.isSome];exact h _)
 | tup lo h1 h2 h3=>exact wpAny_in_heap (knd:=kyKind U.p U.w) (in1_room hu) h1 lo h2 (by rw[h3.isSome];exact h _)
theorem notin_dict {key dv:Value}{r:Option V}{Q:Value→Shared→Prop}(hu:A.units+20 < cLine) (l:LookAt U s μ dv key r) (h:∀t,Q (.bool (!r.isSome)) { s with toks:=t }) :
  wpAny (model U.p U.w) A (compareOp .NotIn key dv) Q E s:=by
 induction l with
 | int lo h1 h2 h3=>exact wpAny_notIn_of h1 lo h2 (by rw[h3.isSome];exact h _)
 | str lo h1 h2 h3=>exact wpAny_notIn_of h1 lo h2 (by rw[h3.isSome];exact h _)
 | tup lo h1 h2 h3=>exact wpAny_notIn_heap (knd:=kyKind U.p U.w) (in1_room hu) h1 lo h2 (by rw[h3.isSome];exact h _)
noncomputable def eInt (k:Int):Value→Bool
 | .int i _=>i==k
 | _=>false
noncomputable def eBool (k:Bool):Value→Bool
 | .bool i=>i==k
 | _=>false
theorem any_eInt {xs:List Value}{l:List Int}{k:Int}(r:ItemsAre (intKind U.p U.w) l xs):xs.any (eInt k)=l.contains k:=by
 induction r with
 | nil=>rfl
 | cons h _ ih=>
  obtain⟨t,rfl⟩:=Value.isInt_shape h
  rw[List.any_cons,ih,List.contains_cons]
  congr 1
  show(_==k)=(k==_)
  rw[Bool.beq_comm] <;> rfl
theorem repVs_bools {xs:List Value}{vs:List V}{l:List Bool}(r:RepVs U h μ xs vs) (e:boolsOf vs=some l):xs=l.map .bool:=by
 induction vs generalizing xs l with
 | nil=>cases e;cases r;rfl
 | cons v vs ih=>
  cases r with
  | cons a b=>
   induction v using V.casesOn with
   | bool i=>
    obtain⟨l',e1,rfl⟩:=Option.map_eq_some_iff.mp e
    rw[repV_bool a,ih b e1];rfl
   | _=>exact nS e
theorem any_of {x:Value}{v:V}{items:Array Value}{vs:List V}{b:Bool}(rx:RepV U s.heap μ x v) (rs:RepVs U s.heap μ items.toList vs) (e:anyEq v vs=some b) :
  ∃f:Value→Bool,(∀A:Around,∀y,y∈items→EqAt A s y x (f y))∧items.any f=b:=by
 induction v using V.casesOn with
 | int k=>
  obtain⟨l,e1,rfl⟩:=Option.map_eq_some_iff.mp e
  obtain⟨t⟩:=repV_int rx
  have hi:=repVs_ints rs e1
  refine⟨eInt k,fun A y hy=>?_,?_⟩
  ·have hy':y∈items.toList:=by simpa using hy
   have:∀{xs:List Value} {l:List Int},ItemsAre (intKind U.p U.w) l xs→∀y∈xs,∃i u,y = .int i u:=by
    intro xs l r
    induction r with
    | nil=>intro y hy;simp at hy
    | cons h _ ih=>
     intro y hy
     obtain⟨t,rfl⟩:=Value.isInt_shape h
     rcases List.mem_cons.mp hy with rfl | hy
     ·exact⟨_,_,rfl⟩
     ·exact ih y hy
   obtain⟨i,u,rfl⟩:=this hi y hy'
   exact EqAt.int_int _ _ _ _
  ·rw[←Array.any_toList];exact any_eInt hi
 | bool k=>
  obtain⟨l,e1,rfl⟩:=Option.map_eq_some_iff.mp e
  rw[repV_bool rx]
  have hi:=repVs_bools rs e1
  refine⟨eBool k,fun A y hy=>?_,?_⟩
  ·have hy':y∈items.toList:=by simpa using hy
   rw[hi]at hy'
   obtain⟨c,_,rfl⟩:=List.mem_map.mp hy'
   exact EqAt.bool_bool _ _
  ·rw[←Array.any_toList,hi,List.any_map]
   clear e hi e1
   induction l with
   | nil=>rfl
   | cons c l ih=>
    rw[List.any_cons,ih,List.contains_cons]
    congr 1
    show(c==k)=(k==c)
    induction c <;> induction k <;> rfl
 | _=>exact nS e
theorem in_sound {x y:Value}{vx vy:V}{P:Bool→Prop}{Q:Value→Shared→Prop}(neg:Bool) (hu:A.units+20 < cLine) (hr:HRel U s.heap μ σ) (X:U.K.In s.heap) (rx:RepV U s.heap μ x vx) (ry:RepV U s.heap μ y vy)
  (e:inR vx vy σ P) (h:∀b t,P b→Q (.bool (if neg=true then !b else b)) { s with toks:=t }) :
  wpAny (model U.p U.w) A (compareOp (if neg=true then .NotIn else .In) x y) Q E s:=by
 induction e with
 | tup hb' e=>
  obtain⟨a,items,n,h1,h2⟩:=repV_tup ry
  obtain⟨f,f1,f2⟩:=any_of rx h2 hb'
  induction neg
  ·exact in_tupleAt f (isTuple_of h1) (f1 _) (by rw[f2];exact h _ s.toks e)
  ·exact notIn_tupleAt f (isTuple_of h1) (f1 _) (by rw[f2];exact h _ s.toks e)
 | list hl hb' e=>
  obtain⟨a,items,n,ha,h1,h2⟩:=hr.listv ry hl
  obtain⟨f,f1,f2⟩:=any_of rx h2 hb'
  induction neg
  ·exact in_listAt f (isList_of h1) (f1 _) (by rw[f2];exact h _ s.toks e)
  ·exact notIn_listAt f (isList_of h1) (f1 _) (by rw[f2];exact h _ s.toks e)
 | look hk e=>
  have la:=look_of hr X ry rx hk
  induction neg
  ·exact in_dict hu la fun t=>h _ _ e
  ·exact notin_dict hu la fun t=>h _ _ e
noncomputable def opC:COp→CmpOp | .eq=>.Eq | .ne=>.NotEq | .lt=>.Lt | .le=>.LtE | .gt=>.Gt | .ge=>.GtE | .is=>.Is | .isnot=>.IsNot | .inn=>.In | .notin=>.NotIn
theorem cmp_sound {op:CmpOp}{x y:Value}{vx vy:V}{Q:Post}(hu:A.units+20 < cLine) (hr:HRel U s.heap μ σ) (X:U.K.In s.heap) (rx:RepV U s.heap μ x vx) (ry:RepV U s.heap μ y vy) (e:cmpR (copOf op) vx vy σ Q) :
  wpAny (model U.p U.w) A (compareOp op x y) (Res U s μ Q) E s:=by
 obtain⟨o,rfl⟩:∃o,op=opC o:=⟨copOf op,by induction op <;> rfl⟩
 have e0:cmpI σ Q o vx vy:=by rw[show o=copOf (opC o) by induction o <;> rfl];exact e
 clear e
 induction e0 with
 | eq hq e=>exact eq_sound hu rx ry hq (Res.here (t:=s.toks) hr (.bool _) e)
 | ne hq e=>exact ne_sound hu rx ry hq (Res.here (t:=s.toks) hr (.bool _) e)
 | lt e=>obtain⟨t⟩:=repV_int rx;obtain⟨u⟩:=repV_int ry;exact P.lt_int (Res.here (t:=s.toks) hr (.bool _) e)
 | le e=>obtain⟨t⟩:=repV_int rx;obtain⟨u⟩:=repV_int ry;exact P.le_int (Res.here (t:=s.toks) hr (.bool _) e)
 | gt e=>obtain⟨t⟩:=repV_int rx;obtain⟨u⟩:=repV_int ry;exact P.gt_int (Res.here (t:=s.toks) hr (.bool _) e)
 | ge e=>obtain⟨t⟩:=repV_int rx;obtain⟨u⟩:=repV_int ry;exact P.ge_int (Res.here (t:=s.toks) hr (.bool _) e)
 | isN e=>rw[repV_none rx,repV_none ry];exact wpAny_is_self rfl (Res.here (t:=s.toks) hr (.bool _) e)
 | isI e=>rw[repV_none ry];obtain⟨t⟩:=repV_int rx;exact is_int_none (Res.here (t:=s.toks) hr (.bool _) e)
 | isnN e=>rw[repV_none rx,repV_none ry];exact isnot_none_none (Res.here (t:=s.toks) hr (.bool _) e)
 | isnI e=>rw[repV_none ry];obtain⟨t⟩:=repV_int rx;exact isnot_int_none (Res.here (t:=s.toks) hr (.bool _) e)
 | inn e=>exact in_sound false hu hr X rx ry e fun b t q=>Res.here hr (.bool _) q
 | notin e=>exact in_sound true hu hr X rx ry e fun b t q=>Res.here hr (.bool _) q
end
section
variable {U:Bx}{h h':Heap}{μ:List Addr}{σ:Store}{s:Shared}{A:Around}{E:Value→Shared→Prop}
theorem HRel.grow (x:HRel U h μ σ) {a:Addr}{ob:Obj}{o:O}(k:∀b o,h.get? b=some o→b≠a→h'.get? b=some o) (ht:∀o,h.get? a=some o→¬IsTupObj o) (ha:a∉μ) (hn:U.hb.get? a=none) (hc:cStatics < a)
  (hg:h'.get? a=some ob) (r:TupKeep h h'→ORel U h' (μ++[a]) ob o):HRel U h' (μ++[a]) (σ++[o]):=by
 have tk:TupKeep h h':=fun b o' e c=>k b o' e fun q=>ht o' (q▸e) c
 refine⟨by simp[x.len],?_,?_,?_,fun b o e=>k b o (x.base b o e) fun q=>?_,?_,x.big⟩
 ·rw[List.nodup_append]
  refine⟨x.nodup,by simp,fun c hc b hb=>?_⟩
  simp only[List.mem_singleton]at hb
  rintro rfl;exact ha (hb▸hc)
 ·intro c hc
  rcases List.mem_append.mp hc with hc | hc
  ·exact x.fresh c hc
  ·simp only[List.mem_singleton]at hc
   subst hc;exact hn
 ·intro i c o' e1 e2
  by_cases hi:i < μ.length
  ·refine Classical.byContradiction fun kk=>?_
   rw[List.getElem?_append_left hi]at e1
   rw[List.getElem?_append_left (x.len▸hi)]at e2
   obtain⟨ob',h1,h2⟩:=x.obj i c o' e1 e2
   refine kk ?_
   exact⟨ob',k _ _ h1 (fun q=>ha (q▸List.mem_of_getElem? e1)),h2.mono tk (List.prefix_append _ _)⟩
  ·have hi':i=μ.length:=by
    have:=(List.getElem?_eq_some_iff.mp e1).1
    simp at this;lia
   subst hi'
   rw[List.getElem?_append_right (Nat.le_refl _)]at e1
   rw[List.getElem?_append_right (by rw[x.len];exact Nat.le_refl _)]at e2
   simp[x.len]at e1 e2
   subst e1;subst e2
   exact⟨ob,hg,r tk⟩
 ·rw[q,hn]at e;cases e
 ·intro c hc'
  rcases List.mem_append.mp hc' with hc' | hc'
  ·exact x.sys c hc'
  ·simp only[List.mem_singleton]at hc'
   subst hc';exact hc
theorem HRel.sizeBig (x:HRel U h μ σ):cStatics < h.objs.size:=by
 obtain⟨o,ho⟩:=x.big
 exact Heap.lt_size (x.base _ _ ho)
theorem HRel.sizeNone (x:HRel U h μ σ):U.hb.get? h.objs.size=none:=by
 cases e:U.hb.get? h.objs.size with
 | none=>rfl
 | some o=>exact absurd rfl (Heap.push_fresh (x.base _ _ e))
theorem Step.grow (x:HRel U s.heap μ σ) {ob:Obj}{o:O}{t:Nat}(k:∀b o,s.heap.get? b=some o→h'.get? b=some o) (hg:h'.get? s.heap.objs.size=some ob) (r:TupKeep s.heap h'→ORel U h' (μ++[s.heap.objs.size]) ob o) :
  Step U s μ { s with heap:=h',toks:=t } (μ++[s.heap.objs.size]) (σ++[o]):=by
 refine⟨x.grow (fun b o e Z=>k b o e) (fun o e=>absurd rfl (Heap.push_fresh e)) x.freshAt x.sizeNone x.sizeBig hg r,fun b o e Z=>k b o e,List.prefix_append _ _,fun a m m'=>?_,_,_,rfl⟩
 rcases List.mem_append.mp m with m | m
 ·exact absurd m m'
 ·simp only[List.mem_singleton]at m;subst m;exact Heap.get?_size_none _
theorem subscripted_plain {e:PySem.Expr}{o i:Value}(hs:isSliceE e=false):subscripted e false o i=operate [o,i] (getItem o i):=by
 induction e using PySem.Expr.casesOn <;> first | rfl | exact bft hs
theorem seqItem {x i:Value}{v k:V}{vs:List V}{Q:Post}{value slice:PySem.Expr}(hsl:isSliceE slice=false) (hr:HRel U s.heap μ σ) (rx:RepV U s.heap μ x v) (ri:RepV U s.heap μ i k)
  (e:seqOf σ v=some vs) {j:Int} (hk:k = .int j) (h0:0≤j) {u:V} (hu:vs[j.toNat]?=some u) (hq:Q u σ) (hsz:j < 2 ^ 63) :
  wpAny (model U.p U.w) A (subscriptTail value slice x i) (Res U s μ Q) E s:=by
 subst hk
 obtain⟨t⟩:=repV_int ri
 cases seq_inv e with
 | tup=>
  obtain⟨a,items,n,h1,h2⟩:=repV_tup rx
  obtain⟨y,hy,ry⟩:=h2.all2.get hu
  have hlt:=(List.getElem?_eq_some_iff.mp hy).1
  refine tail_any (isTuple_of h1:s.heap.IsTuple a items).typeIs slot_tuple_getitem.lookup (getItem_tuple (isTuple_of h1) (j:=j.toNat) (by lia) hsz ?_ (by rw[←Array.getElem?_toList];exact hy) (Res.here (t:=s.toks) hr ry hq)) (subscripted_plain hsl)
  rw[Array.length_toList]at hlt
  have hj:¬j < 0:=Int.not_lt.mpr h0
  simp only[seqIndex?,if_neg hj]
  rw[if_pos (by simp only[Bool.and_eq_true,decide_eq_true_eq];exact⟨h0,(Int.toNat_lt h0).mp hlt⟩)]
 | list hl=>
   obtain⟨a,items,n,ha,h1,h2⟩:=hr.listv rx hl
   obtain⟨y,hy,ry⟩:=h2.all2.get hu
   exact tail_any (isList_of h1:s.heap.IsList a items).typeIs slot_list_getitem.lookup (wpAny_getItem_list (isList_of h1) h0 hsz (by rw[←Array.getElem?_toList];exact hy) (Res.here (t:=s.toks) hr ry hq)) (subscripted_plain hsl)
theorem dictItem {x i:Value}{v k u:V}{Q:Post}{value slice:PySem.Expr}(hsl:isSliceE slice=false) (hu:A.units+20 < cLine) (hr:HRel U s.heap μ σ) (X:U.K.In s.heap) (rx:RepV U s.heap μ x v) (ri:RepV U s.heap μ i k)
  (e:lookO σ v k=some (some u)) (hq:Q u σ):wpAny (model U.p U.w) A (subscriptTail value slice x i) (Res U s μ Q) E s:=by
 cases look_of hr X rx ri e with
 | int lo h1 h2 h3=>obtain⟨y,h3,h4⟩:=h3.inv;exact tail_any h2.typeIs slot_dict_getitem.lookup (wpAny_getItem_of h1 h2 h3 (Res.here hr h4 hq)) (subscripted_plain hsl)
 | str lo h1 h2 h3=>obtain⟨y,h3,h4⟩:=h3.inv;exact tail_any h2.typeIs slot_dict_getitem.lookup (wpAny_getItem_of h1 h2 h3 (Res.here hr h4 hq)) (subscripted_plain hsl)
 | tup lo h1 h2 h3=>obtain⟨p,h3,h4⟩:=h3.inv;exact tail_any h2.typeIs slot_dict_getitem.lookup (wpAny_getItem_heap (knd:=kyKind U.p U.w) (in1_room hu) h1 h2 h3 (Res.here hr h4 hq)) (subscripted_plain hsl)
theorem sub_sound {x i:Value}{v k:V}{Q:Post}{value slice:PySem.Expr}(hsl:isSliceE slice=false) (hu:A.units+20 < cLine) (hr:HRel U s.heap μ σ) (X:U.K.In s.heap) (rx:RepV U s.heap μ x v) (ri:RepV U s.heap μ i k)
  (e:subR v k σ Q):wpAny (model U.p U.w) A (subscriptTail value slice x i) (Res U s μ Q) E s:=by
 induction e with
 | at_ hs h0 hll hu' e=>
  have hlt:=(List.getElem?_eq_some_iff.mp hu').1
  unfold line at hll
  exact seqItem hsl hr rx ri hs rfl h0 hu' e (Int.lt_of_lt_of_le ((Int.toNat_lt h0).mp hlt) (Int.le_trans (Int.ofNat_le.mpr hll) (by decide)))
 | look hn hl e=>exact dictItem hsl hu hr X rx ri hl e
theorem slice_sound {x:Value}{v:V}{value slice:PySem.Expr}{ops:List Value}{Q:Post}{vl vu vk:Value}{lo hi st:Option Int}(f:{α:Type}→List α→List α)
  (hf:∀items:Array Value,slicePick items lo hi st=(f items.toList).toArray) (hm:∀{xs:List Value} {vs:List V},All2 (RepV U s.heap μ) xs vs→All2 (RepV U s.heap μ) (f xs) (f vs))
  (hlen:∀{α:Type} (l:List α),(f l).length≤l.length)
  (hr:HRel U s.heap μ σ) (X:U.K.In s.heap) (rx:RepV U s.heap μ x v) (pl:IsPart vl lo) (pu:IsPart vu hi) (pk:IsPart vk st) (h0:st≠some 0)
  (hs:∀i,subscripted slice false x i=operate (ops++[i]) (getItem x i)∨subscripted slice false x i=operate (i :: ops) (getItem x i))
  (e:listR v σ fun vs=>Q (.loc σ.length) (σ++[.list (f vs)])) :
  wpAny (model U.p U.w) A (subscriptTail value slice x (.ref s.heap.objs.size)) (Res U s μ Q) E { s with heap:=s.heap.push { cls:=.type "slice",data:=.fields #[vl,vu,vk] } }:=by
 have main:∀(a:Addr) (items:Array Value) (vs:List V),x = .ref a→s.heap.IsList a items→RepVs U s.heap μ items.toList vs→items.size≤line→Q (.loc σ.length) (σ++[.list (f vs)]) →
   wpAny (model U.p U.w) A (subscriptTail value slice x (.ref s.heap.objs.size)) (Res U s μ Q) E { s with heap:=s.heap.push { cls:=.type "slice",data:=.fields #[vl,vu,vk] } }:=by
  intro a items vs hx hl hrep hsz hq
  subst hx
  have hg:wpAny (model U.p U.w) A (getItem (.ref a) (.ref s.heap.objs.size)) (Res U s μ Q) E { s with heap:=s.heap.push { cls:=.type "slice",data:=.fields #[vl,vu,vk] } }:=by
   refine wpAny_getItem_list_slice (hl.push _) (Heap.IsSliceOf.new ..) pl pu pk h0 ?_ (line_le hsz)
   have k1:∀b o,s.heap.get? b=some o→(s.heap.push { cls:=.type "slice",data:=.fields #[vl,vu,vk] }).get? b=some o:=fun b o e=>Heap.get?_push_of_some _ e
   have hr1:=hr.keeps k1
   have:=res_list (s:={ s with heap:=s.heap.push { cls:=.type "slice",data:=.fields #[vl,vu,vk] } }) (t:=s.toks) (Q:=Q) (items:=f items.toList) (vs:=f vs) hr1
    ((RepVs.of_all2 (hm hrep.all2)).mono (TupKeep.push _) (List.prefix_refl _)) hq
   rw[←hf]at this
   exact Res.trans (Step.keeps (t:=s.toks) hr k1) this
  rcases hs (.ref s.heap.objs.size)with hs | hs
  ·exact tail_any (Heap.IsList.typeIs (s:={ s with heap:=s.heap.push { cls:=.type "slice",data:=.fields #[vl,vu,vk] } }) (hl.push _)) slot_list_getitem.lookup hg hs
  ·exact tail_any (Heap.IsList.typeIs (s:={ s with heap:=s.heap.push { cls:=.type "slice",data:=.fields #[vl,vu,vk] } }) (hl.push _)) slot_list_getitem.lookup hg hs
 induction e with
 | list hl hz e=>
  refine Classical.byContradiction fun kk=>?_
  obtain⟨a,items,n,ha,h1,h2⟩:=hr.listv rx hl
  refine kk ?_
  exact main a items _ rfl (isList_of h1) h2 (by rw[←Array.length_toList,h2.length];exact hz) e
 | @ext ns hz e=>cases rx with
  | ext g1 g2 g3 g4=>
   refine main a items (ns.map .int) rfl ⟨o,X _ _ g1,g2,m,g3⟩ ?_ (by rw[←Array.length_toList,g4.length];exact hz) e
   clear e g3 main hz
   generalize items.toList=l at g4
   induction g4 with
   | nil=>exact .nil
   | cons h _ ih=>obtain⟨t,rfl⟩:=h;exact .cons (.int _ _) ih
end
noncomputable def clsOk (K:Frag) (c:Nat):Bool:=match clsAt K c with
 | some C=>makesIn K C&&hasDictIn K C&&plainOver K C&&findIn K (.ref C) "__setattr__"==some (some (.builtin "object.__setattr__"))&&plainGet K C "" &&
   fldTab.all (fun n=>(match findIn K (.ref C) n with | some a=>noGet K a | none=>false)&&takerIn K C n==some none)
 | none=>false
inductive ClsR (K:Frag) (C:Addr):Prop
 | mk (k1:makesIn K C=true) (k2:hasDictIn K C=true) (k3:plainOver K C=true) (k4:findIn K (.ref C) "__setattr__"=some (some (.builtin "object.__setattr__"))) (k5:findIn K (.ref C) "__getattribute__"=some (some (.builtin "object.__getattribute__"))∧findIn K (.ref C) "__getattr__"=some none)
  (k6:∀n∈fldTab,(∃a,findIn K (.ref C) n=some a∧noGet K a=true)∧takerIn K C n=some none):ClsR K C
theorem clsOk_of {K:Frag}{c:Nat}{C:Addr}(h:clsOk K c=true) (hc:clsAt K c=some C):ClsR K C:=by
 unfold clsOk at h
 rw[hc]at h
 simp only[Bool.and_eq_true,List.all_eq_true]at h
 obtain⟨⟨⟨⟨⟨h1,h2⟩,h3⟩,h4⟩,h5⟩,h6⟩:=h
 refine⟨h1,h2,h3,beq_iff_eq.mp h4,plainGet_of h5,fun n hn=>?_⟩
 obtain⟨a,b⟩:=h6 n hn
 refine⟨?_,beq_iff_eq.mp b⟩
 split at a
 ·exact⟨_,by assumption,a⟩
 ·exact bff a
section
variable {U:Bx}{h h':Heap}{μ:List Addr}{σ:Store}{s:Shared}{A:Around}{E:Value→Shared→Prop}
theorem fldTab_inj:∀a b:Nat,∀x,fldTab[a]?=some x→fldTab[b]?=some x→a=b:=by
 intro a b x ha hb
 have hn:fldTab.Nodup:=by decide +kernel
 exact(List.getElem?_inj (List.getElem?_eq_some_iff.mp ha).1 hn).mp (ha.trans hb.symm)
theorem isStr_iff {s t:Str}{k:Tok}:(Value.str s k).isStr t=true↔s=t:=by simp[Value.isStr]
theorem ns_get {es:List DictEntry}{fs:List (Nat×V)}{f:Nat}{n:Str}(hf:fldTab[f]?=some n) (r:All2 (fun e q=>∃s t,e.key = .str s t∧fldTab[q.1]?=some s∧RepV U h μ e.val q.2) es fs) :
  match agets fs f with | some v=>∃x,getL n es=some (some x)∧RepV U h μ x v | none=>getL n es=some none:=by
 induction r with
 | nil=>rfl
 | @cons e q es qs h1 _ ih=>
  obtain⟨s,t,a,b,c⟩:=h1
  by_cases he:q.1=f
  ·have:s=n:=by rw[he,hf]at b;exact(Option.some.inj b).symm
   subst this
   have hk:e.key.isStr s=true:=by rw[a];exact isStr_iff.mpr rfl
   simp only[agets,List.find?_cons,he,decide_true,Option.map_some,getL,hk]
   exact⟨e.val,rfl,c⟩
  ·have hk:e.key.isStr n=false:=by
    rw[a]
    cases q':(Value.str s t).isStr n with
    | false=>rfl
    | true=>exact absurd (fldTab_inj _ _ n ((isStr_iff.mp q')▸b) hf) he
   have hr:e.refKey=false:=by simp[DictEntry.refKey,a]
   simp only[agets,List.find?_cons,decide_eq_false he,getL,hk,List.any_cons,hr,Bool.false_or]at ih ⊢
   exact ih
inductive InstV (U:Bx) (h:Heap) (μ:List Addr) (l c d:Nat) (fs:List (Nat×V)):Value→Prop
 | mk (a dx C:Addr) (es:Array DictEntry) (n:Nat) (ha:μ[l]?=some a) (g2:μ[d]?=some dx) (g3:clsAt U.K c=some C) (g4:h.get? a=some ⟨.ref C,some dx,.plain,#[]⟩) (g5:h.get? dx=some ⟨.type "dict",none,.dict es n,#[]⟩) (g6:NsRel U h μ es.toList fs)
   (I:InstAt h a ⟨.ref C,some dx,.plain,#[]⟩ C (some (dictOf es.toList n))):InstV U h μ l c d fs (.ref a)
theorem HRel.instv (x:HRel U h μ σ) {y:Value}{l c d:Nat}{fs:List (Nat×V)}(r:RepV U h μ y (.loc l)) (e:σ[l]?=some (.inst c d)) (e':σ[d]?=some (.ns fs)):InstV U h μ l c d fs y:=by
 refine Classical.byContradiction fun kk=>?_
 obtain⟨a,ob,ha,h2,dx,C,h3,h4,e1⟩:=x.objv r e
 obtain⟨dx',ob',g1,g2,es,n,e2,g3⟩:=x.addr e'
 rw[h3]at g1;cases g1
 rw[e1]at h2
 rw[e2]at g2
 refine kk ?_
 exact⟨a,dx,C,es,n,ha,h3,h4,h2,g2,g3,h2,rfl,rfl,by rw[show dictOf es.toList n=(⟨.type "dict",none,.dict es n,#[]⟩:Obj) from rfl];exact g2⟩
theorem handed {x:Value}{v:V}(r:RepV U h μ x v):handedIn x=true:=by cases r <;> rfl
theorem attr_sound {x:Value}{v:V}{f:Nat}{n:Str}{ex:Bool}{Q:Post}(hok:∀c C,clsAt U.K c=some C→clsOk U.K c=true) (hf:fldTab[f]?=some n) (hr:HRel U s.heap μ σ) (X:U.K.In s.heap) (rx:RepV U s.heap μ x v) (e:attrR v f σ Q) :
  wpAny (model U.p U.w) A (getAttr x n ex) (Res U s μ Q) E s:=by
 induction e with
 | mk hl hd hu e=>
  refine Classical.byContradiction fun kk=>?_
  obtain⟨a,dx,C,es,m,ha,g2,g3,g4,g5,g6,I⟩:=hr.instv rx hl hd
  obtain⟨k1,k2,k3,k4,k5,k6⟩:=clsOk_of (hok _ C g3) g3
  have:=ns_get hf g6.1
  rw[hu]at this
  obtain⟨y,y1,y2⟩:=this
  obtain⟨⟨at',z1,z2⟩,z3⟩:=k6 n (List.mem_of_getElem? hf)
  refine kk ?_
  exact get_value X I k5.1 (findObj_own (od:=dictOf es.toList m) k2 z1 z2 (by rw[lookIn_dict];exact y1)) (handed y2) (Res.here hr y2 e)
theorem putL_rel {es:List DictEntry}{fs:List (Nat×V)}{f:Nat}{n:Str}{hsh:Int}{t:Tok}{x:Value}{v:V}(hf:fldTab[f]?=some n) (r:NsRel U h μ es fs) (rv:RepV U h μ x v) :
  NsRel U h μ (putL n hsh (.str n t) x es) (asets fs f v):=by
 obtain⟨r,hn⟩:=r
 have key:All2 (fun e q=>∃s t,e.key = .str s t∧fldTab[q.1]?=some s∧RepV U h μ e.val q.2) (putL n hsh (.str n t) x es) (asets fs f v):=by
  unfold asets
  by_cases hany:fs.any (fun p=>decide (p.1=f))=true
  ·rw[if_pos hany]
   induction r with
   | nil=>simp at hany
   | @cons e q es qs h1 h2 ih=>
    obtain⟨s,t',a,b,c⟩:=h1
    rw[List.map_cons,List.nodup_cons]at hn
    by_cases he:q.1=f
    ·have hs:s=n:=by rw[he,hf]at b;exact(Option.some.inj b).symm
     have hk:e.key.isStr n=true:=by rw[a];exact isStr_iff.mpr hs
     have hid:qs.map (fun p=>if p.1=f then (p.1,v) else p)=qs:=by
      have:∀p∈qs,(if p.1=f then (p.1,v) else p)=p:=fun p hp=>if_neg fun z=>hn.1 (by rw[he,←z];exact List.mem_map_of_mem hp)
      exact(List.map_congr_left this).trans (List.map_id _)
     rw[putL,if_pos hk,List.map_cons,if_pos he,hid]
     exact .cons ⟨s,t',a,b,rv⟩ h2
    ·have hk:e.key.isStr n=false:=by
      rw[a]
      cases q':(Value.str s t').isStr n with
      | false=>rfl
      | true=>exact absurd (fldTab_inj _ _ n ((isStr_iff.mp q')▸b) hf) he
     rw[List.any_cons,decide_eq_false he,Bool.false_or]at hany
     rw[putL,if_neg (by rw[hk];decide),List.map_cons,if_neg he]
     exact .cons ⟨s,t',a,b,c⟩ (ih hn.2 hany)
  ·rw[if_neg hany]
   induction r with
   | nil=>exact .cons ⟨n,t,rfl,hf,rv⟩ .nil
   | @cons e q es qs h1 _ ih=>
    obtain⟨s,t',a,b,c⟩:=h1
    rw[List.any_cons,Bool.or_eq_true,not_or]at hany
    have hk:e.key.isStr n=false:=by
     rw[a]
     cases q':(Value.str s t').isStr n with
     | false=>rfl
     | true=>exact absurd (decide_eq_true (fldTab_inj _ _ n ((isStr_iff.mp q')▸b) hf)) hany.1
    rw[putL,if_neg (by rw[hk];decide)]
    exact .cons ⟨s,t',a,b,c⟩ (ih (List.nodup_cons.mp (by simpa using hn)).2 hany.2)
 refine⟨key,?_⟩
 unfold asets
 by_cases hany:fs.any (fun p=>decide (p.1=f))=true
 ·rw[if_pos hany,List.map_map]
  have:((fun p:Nat×V=>p.1) ∘ fun p=>if p.1=f then (p.1,v) else p)=fun p=>p.1:=funext fun p=>by
   show(if p.1=f then (p.1,v) else p).1=p.1
   by_cases e:p.1=f
   ·rw[if_pos e]
   ·rw[if_neg e]
  rw[this];exact hn
 ·rw[if_neg hany,List.map_append,List.nodup_append]
  refine⟨hn,by simp,fun a ha b hb=>?_⟩
  simp only[List.map_cons,List.map_nil,List.mem_singleton]at hb
  subst hb
  rintro rfl
  obtain⟨p,hp,hpe⟩:=List.mem_map.mp ha
  exact hany (List.any_eq_true.mpr ⟨p,hp,decide_eq_true hpe⟩)
theorem any_isStr {es:List DictEntry}{fs:List (Nat×V)}(r:NsRel U h μ es fs):es.any (·.refKey)=false:=by
 have:=r.1
 clear r
 induction this with
 | nil=>rfl
 | cons h1 _ ih=>obtain⟨s,t,a,b,c⟩:=h1;rw[List.any_cons,ih];simp[DictEntry.refKey,a]
theorem ns_look {es:List DictEntry}{fs:List (Nat×V)}{m:Nat}(n:Str) (r:NsRel U h μ es fs):(lookIn n (dictOf es m)).isSome=true:=by
 show(match es.find? (fun e:DictEntry=>e.key.isStr n)with | some e=>some (some e.val) | none=>if es.any (·.refKey) then none else some none).isSome=true
 cases es.find? (fun e:DictEntry=>e.key.isStr n) with
 | some e=>rfl
 | none=>rw[any_isStr r];rfl
theorem setattr_dict {a:Addr}{dx C:Addr}{es:Array DictEntry}{m:Nat}{n:Str}{x:Value}{Q:Unit→Shared→Prop}(X:U.K.In s.heap) (I:InstAt s.heap a ⟨.ref C,some dx,.plain,#[]⟩ C (some (dictOf es.toList m)))
  (D:s.heap.get? dx=some ⟨.type "dict",none,.dict es m,#[]⟩) (hs:findIn U.K (.ref C) "__setattr__"=some (some (.builtin "object.__setattr__"))) (hp:plainOver U.K C=true) (ht:takerIn U.K C n=some none) (hh:hasDictIn U.K C=true)
  (hl:(lookIn n (dictOf es.toList m)).isSome=true) (hz:es.size≤900)
  (h:∀h' t,h'.get? dx=some (dictOf (putL n (PyData.keyHash U.w.params n) (.str n t) x es.toList) (putN n es.toList m))→Heap.SameBut dx s.heap h'→Q () { s with heap:=h',toks:=s.toks+2 }) :
  wpAny (model U.p U.w) A (setAttr (.ref a) n x) Q E s:=by
 refine set_plain X I hs ?_
 refine osa_open (s:={ s with toks:=s.toks+1 }) X I hp ht fun b=>?_
 refine Classical.byContradiction fun kk=>?_
 obtain⟨cd,hc,hd'⟩:=any_some hh
 obtain⟨hx,-,-,-⟩:=I
 have D0:s.heap.get? dx=some (dictOf es.toList m):=D
 have D':(s.heap.update dx (Obj.putName n (PyData.keyHash U.w.params n) (.str n (s.toks+1)) x)).get? dx=some (dictOf (putL n (PyData.keyHash U.w.params n) (.str n (s.toks+1)) x es.toList) (putN n es.toList m)):=by
  have:=Heap.get?_update_self (Obj.putName n (PyData.keyHash U.w.params n) (.str n (s.toks+1)) x) D0 (by rw[putName_dict];rfl)
  rw[putName_dict]at this
  exact this
 refine kk ?_
 refine wpAny_bind (wpAny_pure (wpAny_bind (wpAny_bind (wpAny_loadPart hx (wpAny_bind (looks_clsIn X hc _ _ _ _ (fun Z Z e=>e) ?_))))))
 rw[hd']
 refine wpAny_pure (a:=some dx) (wpAny_bind (wpAny_pure (wpAny_bind ?_)))
 unfold nsSet
 refine wpAny_bind (wpAny_bind (wpAny_askSetting (wpAny_pure (wpAny_bind (wpAny_mkText (wpAny_bind (wpAny_loadPart D0 ?_)))))))
 ·have c:(!es.toList.toArray.any (·.key.isStr n)&&es.toList.toArray.any (·.refKey))=false:=by
   rw[←Array.any_toList,←Array.any_toList]
   have hl:(match es.toList.find? (fun e:DictEntry=>e.key.isStr n)with | some e=>some (some e.val) | none=>if es.toList.any (·.refKey) then none else some none).isSome=true:=hl
   cases he:es.toList.find? (fun e:DictEntry=>e.key.isStr n) with
   | some en=>rw[List.any_eq_true.mpr ⟨en,List.mem_of_find?_eq_some he,List.find?_some he⟩];rfl
   | none=>
    rw[he]at hl
    cases z:es.toList.any (·.refKey) with
    | true=>rw[z]at hl;exact bff hl
    | false=>rw[Bool.and_false]
  show wpAny _ _ (if aRefKeyMayBeTheName n es.toList.toArray then _ else _) _ _ _
  rw[aRefKeyMayBeTheName_at,c]
  refine wpAny_updatePart D0 ?_
  refine wpAny_bind (wpAny_lookBehind D' ?_ ?_)
  ·refine pastItsLine_dict ?_
   rw[sizeLine_eq]
   change (putL n (PyData.keyHash U.w.params n) (.str n (s.toks+1)) x es.toList).length≤_
   have:(putL n (PyData.keyHash U.w.params n) (.str n (s.toks+1)) x es.toList).length≤es.toList.length+1:=by
    clear D0 D' hl c hx D
    generalize es.toList=l
    induction l with
    | nil=>simp[putL]
    | cons e r ih=>unfold putL;split <;> simp <;> omega
   exact Nat.le_trans this (Nat.le_trans (Nat.add_le_add_right (Array.length_toList▸hz) 1) (by decide))
  ·exact wpAny_pure (h _ _ D' (Heap.SameBut.update ..))
end
section
variable {U:Bx}{h h':Heap}{μ μ':List Addr}{σ:Store}{s:Shared}{A:Around}{E:Value→Shared→Prop}
inductive ResS (U:Bx) (s:Shared) (μ:List Addr) (P:Store→Prop) (s':Shared):Prop
 | in_ (μ':List Addr) (σ':Store) (st:Step U s μ s' μ' σ') (q:P σ')
theorem all2_asets {β:Type}{κ κ':Type} [DecidableEq κ] [DecidableEq κ'] {R:β→κ×V→Prop}{g:β→κ'}{put:β→β}{new:β}{k:κ}{k':κ'}{v:V}{xs:List β}{kvs:List (κ×V)}
  (hk:∀p q,R p q→(decide (g p=k')=decide (q.1=k))) (hp:∀p q,R p q→q.1=k→R (put p) (q.1,v)) (hn:R new (k,v)) (r:All2 R xs kvs) :
  All2 R (if xs.any (fun p=>decide (g p=k')) then xs.map (fun p=>if g p=k' then put p else p) else xs++[new]) (asets kvs k v):=by
 have e:xs.any (fun p=>decide (g p=k'))=kvs.any (fun p=>decide (p.1=k)):=by
  induction r with
  | nil=>rfl
  | cons a _ ih=>rw[List.any_cons,List.any_cons,hk _ _ a,ih]
 unfold asets
 rw[e]
 split
 ·rename_i hq
  clear e hq
  induction r with
  | nil=>exact .nil
  | @cons p q ps qs a _ ih=>
   have hd:=hk _ _ a
   rw[List.map_cons,List.map_cons]
   by_cases z:q.1=k
   ·rw[decide_eq_true z]at hd
    rw[if_pos z,if_pos (of_decide_eq_true hd)]
    exact .cons (hp _ _ a z) ih
   ·rw[decide_eq_false z]at hd
    rw[if_neg z,if_neg (of_decide_eq_false hd)]
    exact .cons a ih
 ·exact r.append (.cons hn .nil)
theorem dictSet_at {κ:Type} [DecidableEq κ] {knd:KeyKind U.p U.w κ}{d:Addr}{kvs:List (κ×Value)}{k:κ}{key v:Value}{Q:Unit→Shared→Prop}(hkey:knd.is k key=true) (hm:s.heap.DictAt knd d kvs kvs.length)
  (hQ:∀h',h'.DictAt knd d (stored kvs k v) (stored kvs k v).length→Heap.SameBut d s.heap h'→Q () { s with heap:=h',toks:=s.toks+1 })
  (hsz:kvs.length≤sizeLine):wpAny (model U.p U.w) A (dictSet d key v) Q E s:=by
 refine Classical.byContradiction fun kk=>?_
 obtain⟨o,es,ho,hc,hd,hk,hp,hn⟩:=hm
 have e1:es.size=kvs.length:=by rw[←hp.length,Array.length_toList]
 have hes:es.size≤sizeLine:=by lia
 refine kk ?_
 unfold dictSet
 try with_reducible refine wpAny_holding ?_
 refine wpAny_bind (knd.pyHash hkey ?_)
 unfold dictSetHashed
 try with_reducible refine wpAny_holding ?_
 refine wpAny_bind (wpAny_dictFind_of (s:={ s with toks:=s.toks+1 }) hkey ho hd hk ?_)
 have hidx:(es.findIdx? fun e=>knd.is k e.key)=kvs.findIdx? fun kv=>decide (kv.1=k):=by
  rw[←hp.findIdx k];obtain⟨l⟩:=es;simp
 cases hi:es.findIdx? fun e=>knd.is k e.key with
 | some i=>
  have hst:stored kvs k v=kvs.map (fun kv=>if kv.1=k then (kv.1,v) else kv):=by rw[stored,if_pos (any_of_findIdx_some (hidx▸hi))]
  have hep:(stored kvs k v).length=kvs.length:=by rw[hst,List.length_map]
  rw[hep]at hQ
  refine wpAny_bind (wpAny_rule (wpAny_bind (wpAny_updateDict (s:={ s with toks:=s.toks+1 }) ho hd (wpAny_point (hQ _ ⟨_,_,Heap.get?_update_self _ ho (Obj.isFreed_of_dict (Obj.data_mapDict hd _)),
   hc.mapDict _,Obj.data_mapDict hd _,hk.modify _ _,?_,?_⟩ (Heap.SameBut.update ..))))))
  ·rw[hst]
   have hl:(es.toList.findIdx? fun e=>knd.is k e.key)=some i:=by rw[←hi];obtain⟨l⟩:=es;simp
   have:=hp.modify hn hl v
   obtain⟨l⟩:=es
   simpa using this
  ·rw[hst,keys_map_store];exact hn
 | none=>
  have hnot:k∉kvs.map (·.1):=not_mem_of_findIdx_none (hidx▸hi)
  have hany:¬(kvs.any fun kv=>decide (kv.1=k))=true:=by
   rw[List.any_eq_true];rintro⟨kv,hkv,he⟩
   exact hnot (List.mem_map.mpr ⟨kv,hkv,of_decide_eq_true he⟩)
  have hst:stored kvs k v=kvs++[(k,v)]:=by rw[stored,if_neg hany]
  have hep:(stored kvs k v).length=kvs.length+1:=by rw[hst,List.length_append];rfl
  rw[hep]at hQ
  refine wpAny_bind (wpAny_rule (wpAny_updateDictKeys (hz:=hes) (s:={ s with toks:=s.toks+1 }) ho hd (hQ _ ⟨_,_,Heap.get?_update_self _ ho (Obj.isFreed_of_dict (Obj.data_mapDictKeys hd _)),
   hc.mapDictKeys _,Obj.data_mapDictKeys hd _,hk.push hkey _,?_,?_⟩ (Heap.SameBut.update ..))))
  ·rw[hst]
   have:=hp.append hkey (knd.hash k) v
   obtain⟨l⟩:=es
   simpa using this
  ·rw[hst,List.map_append,List.nodup_append]
   refine⟨hn,by simp,?_⟩
   intro a ha b hb
   simp only[List.map_cons,List.map_nil,List.mem_singleton]at hb
   subst hb
   exact fun e=>hnot (e▸ha)
theorem setItem_at {κ:Type} [DecidableEq κ] {knd:KeyKind U.p U.w κ}{d:Addr}{kvs:List (κ×Value)}{k:κ}{key v:Value}{Q:Unit→Shared→Prop}(hkey:knd.is k key=true) (hm:s.heap.DictAt knd d kvs kvs.length)
  (hQ:∀h',h'.DictAt knd d (stored kvs k v) (stored kvs k v).length→Heap.SameBut d s.heap h'→Q () { s with heap:=h',toks:=s.toks+1 })
  (hsz:kvs.length≤sizeLine):wpAny (model U.p U.w) A (setItem (.ref d) key v) Q E s:=by
 have hT:s.TypeIs (.ref d) "dict":=hm.dictOf.typeIs
 unfold setItem
 try with_reducible refine wpAny_holding ?_
 refine wpAny_bind (wpAny_sequenceKey hT (by decide) ?_)
 refine wpAny_bind (wpAny_callSpecial?_slot (name:=Str.ofString "__setitem__") hT slot_dict_setitem
  (wpAny_call_entry slot_dict_setitem hT entry_dict_setitem ?_ (args_dict_setitem _ _ _)))
 show wpAny _ _ (Builtin.Dict.notOrdered "__setitem__" ⟨[.ref d,key,v],[]⟩ >>= _) _ _ s
 refine wpAny_bind (wpAny_notOrdered_dict hT ?_)
 show wpAny _ _ (dictSet d key v >>= _) _ _ s
 exact wpAny_bind (dictSet_at hkey hm (fun h' hm' hs'=>wpAny_pure ⟨.none,rfl,wpAny_pure (hQ h' hm' hs')⟩) hsz)
theorem dictAt_of {κ:Type} [DecidableEq κ] {knd:KeyKind U.p U.w κ}{d:Addr}{ob:Obj}{kv:List (κ×Value)}(g:s.heap.get? d=some ob) (a:ob.IsDictOf knd kv) (b:∃es,ob.data = .dict es kv.length):s.heap.DictAt knd d kv kv.length:=by
 refine Classical.byContradiction fun kk=>?_
 obtain⟨es,ep,a1,a2,a3⟩:=a
 obtain⟨es',b⟩:=b
 rw[a2]at b;cases b
 refine kk ?_
 exact⟨ob,es,g,a1,a2,a3⟩
theorem of_dictAt {κ:Type} [DecidableEq κ] {knd:KeyKind U.p U.w κ}{d:Addr}{kv:List (κ×Value)}(x:h.DictAt knd d kv kv.length):∃ob,h.get? d=some ob∧ob.IsDictOf knd kv∧∃es,ob.data = .dict es kv.length:=by
 refine Classical.byContradiction fun kk=>?_
 obtain⟨o,es,h1,h2,h3,h4⟩:=x
 refine kk ?_
 exact⟨o,h1,⟨es,_,h2,h3,h4⟩,es,h3⟩
theorem setitem_sound {x i y:Value}{v k u:V}{Q:Store→Prop}{P:Unit→Shared→Prop}(hu:A.units+20 < cLine) (hr:HRel U s.heap μ σ) (rx:RepV U s.heap μ x v) (ri:RepV U s.heap μ i k) (ry:RepV U s.heap μ y u)
  (e:setitemR v k u σ Q)
  (hP:∀s',ResS U s μ Q s'→P () s'):wpAny (model U.p U.w) A (setItem x i y) P E s:=by
 obtain⟨l,rfl⟩:∃l,v = .loc l:=by induction e <;> exact⟨_,rfl⟩
 obtain⟨a,ha⟩:=repV_loc rx
 cases e with
 | @int _ kvs j hl e1 e2=>
   refine Classical.byContradiction fun kk=>?_
   obtain⟨t⟩:=repV_int ri
   obtain⟨a',ob,g1,g2,kv,g3,g4,g5⟩:=hr.addr hl
   rw[ha]at g1;cases g1
   refine kk ?_
   refine setItem_at (knd:=intKind U.p U.w) (k:=j) (by simp[intKind,Value.isInt]) (dictAt_of g2 g3 g4) (fun h' d' sb=>hP _ ⟨μ,_,?_,e2⟩) (by rw[g5.length];exact line_le e1)
   refine Classical.byContradiction fun kk=>?_
   obtain⟨ob',k1,k2,k3⟩:=of_dictAt d'
   refine kk ?_
   refine Step.set hr ha sb k1 fun tk=>⟨_,k2,k3,?_⟩
   exact all2_asets (R:=fun(p:Int×Value) (q:Int×V)=>p.1=q.1∧RepV U h' μ p.2 q.2) (g:=fun p:Int×Value=>p.1) (put:=fun p=>(p.1,y)) (new:=(j,y)) (k:=j) (v:=u) (fun p q z=>by rw[z.1]) (fun p q z Z=>⟨z.1,ry.mono tk (List.prefix_refl _)⟩) ⟨rfl,ry.mono tk (List.prefix_refl _)⟩
    (g5.mono fun Z Z zz=>by obtain⟨z1,z2⟩:=zz;exact⟨z1,z2.mono tk (List.prefix_refl _)⟩)
 | @str _ kvs c hl e1 e2=>
   obtain⟨n,t,hn⟩:=repV_str ri
   obtain⟨a',ob,g1,g2,kv,g3,g5⟩:=hr.addr hl
   rw[ha]at g1;cases g1
   refine wpAny_setItem_pairs (knd:=PySem.strKind U.p U.w) (k:=n) (by simp[PySem.strKind,Value.isStrOf]) (Heap.dictOf_iff.mpr ⟨ob,g2,g3⟩) (fun h' d' sb=>hP _ ⟨μ,_,?_,e2⟩) (by rw[g5.length];exact line_le e1)
   refine Classical.byContradiction fun kk=>?_
   obtain⟨ob',k1,k2⟩:=Heap.dictOf_iff.mp d'
   refine kk ?_
   refine Step.set hr ha sb k1 fun tk=>⟨_,k2,?_⟩
   exact all2_asets (k':=n) (R:=fun(p:Str×Value) (q:Nat×V)=>strTab[q.1]?=some p.1∧RepV U h' μ p.2 q.2) (g:=fun p:Str×Value=>p.1) (put:=fun p=>(p.1,y)) (new:=(n,y)) (k:=c) (v:=u) (fun p q z=>decide_eq_decide.mpr ⟨fun z'=>strTab_inj _ _ n (by rw[←z'];exact z.1) hn,fun z'=>by
     have:=z.1;rw[z',hn]at this;exact(Option.some.inj this).symm⟩) (fun p q z Z=>⟨z.1,ry.mono tk (List.prefix_refl _)⟩) ⟨hn,ry.mono tk (List.prefix_refl _)⟩
    (g5.mono fun Z Z zz=>by obtain⟨z1,z2⟩:=zz;exact⟨z1,z2.mono tk (List.prefix_refl _)⟩)
 | @tup _ kvs _ ky hl e1 hky e2=>
    refine Classical.byContradiction fun kk=>?_
    obtain⟨b,rfl,hb'⟩:=isKy_of ri hky
    obtain⟨a',ob,g1,g2,xs,⟨es,ep,g3,g4,g5,g6,g7⟩,g8⟩:=hr.addr hl
    rw[ha]at g1;cases g1
    refine kk ?_
    refine wpAny_setItem_heap (knd:=kyKind U.p U.w) (k:=ky) (show A.in1.units+4 < cLine by show A.units+1+4 < cLine;lia) hb' (xs:=xs) ⟨ob,es,ep,g2,g3,g4,g5,g6,g7⟩ (fun h' d' sb=>hP _ ⟨μ,_,?_,e2⟩) (by rw[g8.length];exact line_le e1)
    refine Classical.byContradiction fun kk=>?_
    obtain⟨ob',es',ep',k1,k2,k3,k4,k5,k6⟩:=d'
    refine kk ?_
    refine Step.set hr ha sb k1 fun tk=>⟨_,⟨es',ep',k2,k3,k4,k5,k6⟩,?_⟩
    have hany:(atKey xs ky).isSome=xs.any (fun p=>decide (p.1=ky)):=by
     unfold atKey;rw[Option.isSome_map]
     cases q:xs.find? (fun x=>decide (x.1=ky)) with
     | some z=>rw[List.any_eq_true.mpr ⟨z,List.mem_of_find?_eq_some q,List.find?_some q⟩];rfl
     | none=>
      rw[List.any_eq_false.mpr (fun z hz=>List.find?_eq_none.mp q z hz)];rfl
    unfold storedH
    rw[hany]
    exact all2_asets (R:=fun(p:Ky×Addr×Value) (q:Ky×V)=>p.1=q.1∧RepV U h' μ p.2.2 q.2) (g:=fun p:Ky×Addr×Value=>p.1) (put:=fun x=>(x.1,x.2.1,y)) (new:=(ky,b,y)) (k:=ky) (v:=u) (fun p q z=>by rw[z.1]) (fun p q z Z=>⟨z.1,ry.mono tk (List.prefix_refl _)⟩) ⟨rfl,ry.mono tk (List.prefix_refl _)⟩
     (g8.mono fun Z Z zz=>by obtain⟨z1,z2⟩:=zz;exact⟨z1,z2.mono tk (List.prefix_refl _)⟩)
theorem setattr_sound {x y:Value}{v u:V}{f:Nat}{n:Str}{Q:Store→Prop}{P:Unit→Shared→Prop}(hok:∀c C,clsAt U.K c=some C→clsOk U.K c=true) (hf:fldTab[f]?=some n) (hr:HRel U s.heap μ σ) (X:U.K.In s.heap)
  (rx:RepV U s.heap μ x v) (ry:RepV U s.heap μ y u)
  (e:setattrR v f u σ Q)
  (hP:∀s',ResS U s μ Q s'→P () s'):wpAny (model U.p U.w) A (setAttr x n y) P E s:=by
 induction e with
 | mk hl hd h30 e=>
  obtain⟨a,dx,C,es,m,ha,g2,g3,g4,g5,g6,I⟩:=hr.instv rx hl hd
  obtain⟨k1,k2,k3,k4,k5,k6⟩:=clsOk_of (hok _ C g3) g3
  obtain⟨-,z3⟩:=k6 n (List.mem_of_getElem? hf)
  have hz:es.size≤900:=by have:=g6.1.length;rw[Array.length_toList]at this;lia
  refine setattr_dict X I g5 k4 k3 z3 k2 (ns_look n g6) hz fun h' t k1 sb=>hP _ ⟨μ,_,Step.set hr g2 sb k1 fun tk=>?_,e⟩
  exact⟨(putL n (PyData.keyHash U.w.params n) (.str n t) y es.toList).toArray,putN n es.toList m,rfl,putL_rel hf (g6.mono tk (List.prefix_refl _)) (ry.mono tk (List.prefix_refl _))⟩
end
section
variable {U:Bx}{h h':Heap}{μ μ':List Addr}{σ:Store}{s:Shared}{A:Around}{E:Value→Shared→Prop}
theorem append_sound {x y:Value}{l:Nat}{u:V}{vs:List V}{Q:Post}(hr:HRel U s.heap μ σ) (rx:RepV U s.heap μ x (.loc l)) (hl:σ[l]?=some (.list vs)) (ry:RepV U s.heap μ y u) (hz:vs.length≤line)
  (q:Q .none (σ.set l (.list (vs++[u])))):wpAny (model U.p U.w) A (call (.builtin "list.append") [x,y]) (Res U s μ Q) E s:=by
 obtain⟨a,items,n,ha,h1,h2⟩:=hr.listv rx hl
 refine wpAny_list_append_plain ⟨n,h1⟩ (fun h' ⟨m,p⟩ sb=>Res.mk (v:=.none) (Step.set (o:=.list (vs++[u])) (t:=s.toks) hr ha sb p fun tk=>⟨_,_,rfl,?_⟩) .none q) (line_le (by rw[←Array.length_toList,h2.length];exact hz))
 rw[Array.toList_push]
 exact repVs_append (h2.mono tk (List.prefix_refl _)) (.cons (ry.mono tk (List.prefix_refl _)) .nil)
theorem dropLast_of {α:Type}{l:List α}:l.dropLast=l.take (l.length - 1):=List.dropLast_eq_take
theorem getLast_get {α:Type}{l:List α}{x:α}(h:l.getLast?=some x):l[l.length - 1]?=some x:=by rw[←List.getLast?_eq_getElem?];exact h
theorem pop_sound {x:Value}{l:Nat}{u:V}{vs:List V}{Q:Post}(hr:HRel U s.heap μ σ) (rx:RepV U s.heap μ x (.loc l)) (hl:σ[l]?=some (.list vs)) (hu:vs.getLast?=some u) (hz:vs.length≤line)
  (q:Q u (σ.set l (.list vs.dropLast))):wpAny (model U.p U.w) A (call (.builtin "list.pop") [x]) (Res U s μ Q) E s:=by
 refine Classical.byContradiction fun kk=>?_
 obtain⟨a,items,n,ha,h1,h2⟩:=hr.listv rx hl
 have hlen:items.size=vs.length:=by rw[←Array.length_toList];exact h2.length
 obtain⟨y,hy,ry⟩:=h2.all2.get (getLast_get hu)
 refine kk ?_
 refine call_meets F.slot_list_pop ⟨_,h1,rfl⟩ F.entry_list_pop (F.args_list_pop_1 _) (MeetsSeq.list_pop_last a items n y (by rw[←Array.getElem?_toList,hlen];exact hy) (line_le (by rw[hlen];exact hz))) ⟨h1,?_⟩
 have h3:=Heap.get?_update_self (Obj.mapSeq fun xs=>xs.eraseIdxIfInBounds (items.size - 1)) h1 rfl
 refine Res.mk (v:=u) (Step.set (o:=.list vs.dropLast) (t:=s.toks) hr ha (Heap.SameBut.update ..) h3 fun tk=>⟨_,_,rfl,?_⟩) (ry.mono (hr.tupKeep fun b o e' m=>(Heap.SameBut.update s.heap a _).2 b (fun q=>m (q▸List.mem_of_getElem? ha)) |>.trans e') (List.prefix_refl _)) q
 have:(items.eraseIdxIfInBounds (items.size - 1)).toList=items.toList.dropLast:=by
  rw[dropLast_of,Array.length_toList]
  obtain⟨z⟩:=items
  simp[List.eraseIdx_eq_take_drop_succ]
  exact Nat.sub_le_iff_le_add.mp (Nat.le_refl _)
 rw[this,dropLast_of,dropLast_of,h2.length]
 exact .of_all2 ((h2.mono tk (List.prefix_refl _)).all2.take _)
theorem getD_rep {r:Option V}{o:Option Value}{z:Value}{u:V}(rz:RepV U h μ z u) (e:OptR (RepV U h μ) o r):RepV U h μ (o.getD z) (r.getD u):=by
 induction e with
 | no=>exact rz
 | yes b=>exact b
theorem get1_sound {x i:Value}{v k:V}{r:Option V}{Q:Post}(hu:A.units+20 < cLine) (hr:HRel U s.heap μ σ) (X:U.K.In s.heap) (rx:RepV U s.heap μ x v) (ri:RepV U s.heap μ i k) (e:lookO σ v k=some r)
  (q:Q (r.getD .none) σ):wpAny (model U.p U.w) A (call (.builtin "dict.get") [x,i]) (Res U s μ Q) E s:=by
 cases look_of hr X rx ri e with
 | @int a k f _ _ lo h1 h2 h3=>exact call_meetsIn F.slot_dict_get h2.typeIs F.entry_dict_get (F.args_dict_get_2 _ _) (meets_dict_get _ a h1 lo) ⟨f,h2,Res.here hr (getD_rep .none h3) q⟩
 | @str a k f _ _ lo h1 h2 h3=>exact call_meetsIn F.slot_dict_get h2.typeIs F.entry_dict_get (F.args_dict_get_2 _ _) (meets_dict_get _ a h1 lo) ⟨f,h2,Res.here hr (getD_rep .none h3) q⟩
 | @tup a b k xs _ lo h1 h2 h3=>exact call_meetsIn F.slot_dict_get h2.typeIs F.entry_dict_get (F.args_dict_get_2 _ _) (meetsH_dict_get (kyKind U.p U.w) a b lo) ⟨in1_room hu,k,xs,h1,h2,Res.here hr (getD_rep .none (h3.map (·.2) fun Z Z z=>z)) q⟩
theorem get2_sound {x i z:Value}{v k u:V}{r:Option V}{Q:Post}(hu:A.units+20 < cLine) (hr:HRel U s.heap μ σ) (X:U.K.In s.heap) (rx:RepV U s.heap μ x v) (ri:RepV U s.heap μ i k) (rz:RepV U s.heap μ z u) (e:lookO σ v k=some r)
  (q:Q (r.getD u) σ):wpAny (model U.p U.w) A (call (.builtin "dict.get") [x,i,z]) (Res U s μ Q) E s:=by
 cases look_of hr X rx ri e with
 | @int a k f _ _ lo h1 h2 h3=>exact call_meetsIn F.slot_dict_get h2.typeIs F.entry_dict_get (F.args_dict_get_3 _ _ _) (meets_dict_get_default _ a h1 lo z) ⟨f,h2,Res.here hr (getD_rep rz h3) q⟩
 | @str a k f _ _ lo h1 h2 h3=>exact call_meetsIn F.slot_dict_get h2.typeIs F.entry_dict_get (F.args_dict_get_3 _ _ _) (meets_dict_get_default _ a h1 lo z) ⟨f,h2,Res.here hr (getD_rep rz h3) q⟩
 | @tup a b k xs _ lo h1 h2 h3=>exact call_meetsIn F.slot_dict_get h2.typeIs F.entry_dict_get (F.args_dict_get_3 _ _ _) (meetsH_dict_get_default (kyKind U.p U.w) a b lo z) ⟨in1_room hu,k,xs,h1,h2,Res.here hr (getD_rep rz (h3.map (·.2) fun Z Z z=>z)) q⟩
theorem small_line {n:Nat}(h:n≤line):(n:Int) < 2 ^ 63:=by unfold line at h;omega
theorem len_sound {x:Value}{v:V}{vs:List V}{Q:Post}(hr:HRel U s.heap μ σ) (rx:RepV U s.heap μ x v) (e:seqOf σ v=some vs) (hz:vs.length≤line) (q:Q (.int vs.length) σ) :
  wpAny (model U.p U.w) A (call (.builtin "len") [x]) (Res U s μ Q) E s:=by
 cases seq_inv e with
 | tup=>
  obtain⟨a,items,n,h1,h2⟩:=repV_tup rx
  have hlen:items.size=vs.length:=by rw[←Array.length_toList];exact h2.length
  exact P.len_tuple h1 (by have:=small_line (hlen▸hz);lia) (Res.here (t:=s.toks+1+1) hr (by rw[hlen];exact .int _ _) q)
 | list hl=>
  obtain⟨a,items,n,ha,h1,h2⟩:=hr.listv rx hl
  have hlen:items.size=vs.length:=by rw[←Array.length_toList];exact h2.length
  exact Calls.call_len_list (isList_of h1) (small_line (hlen▸hz)) (Res.here (t:=s.toks+1+1) hr (by rw[hlen];exact .int _ _) q)
theorem keys_rep {kv:List (Int×Value)}{kvs:List (Int×V)}{l:List Value}(r:All2 (fun p q=>p.1=q.1∧RepV U h μ p.2 q.2) kv kvs) (hsz:l.length=kv.length)
  (hget:∀(j:Nat) y,l[j]?=some y→∃k x,kv[j]?=some (k,x)∧(intKind U.p U.w).is k y=true):All2 (RepV U h' μ') l (kvs.map fun p=>V.int p.1):=by
 induction r generalizing l with
 | nil=>cases l with
  | nil=>exact .nil
  | cons=>simp at hsz
 | @cons p q' ps qs h1 _ ih=>
  cases l with
  | nil=>simp at hsz
  | cons y l=>
   obtain⟨k,x,e1,e2⟩:=hget 0 y rfl
   simp only[List.getElem?_cons_zero,Option.some.injEq]at e1
   subst e1
   rw[List.map_cons]
   refine .cons ?_ (ih (by simpa using hsz) fun j y hy=>hget (j+1) y hy)
   rw[show q'.1=k from h1.1.symm]
   induction y <;> simp[intKind,Value.isInt]at e2
   subst e2;exact .int _ _
theorem listOf_sound {x:Value}{v:V}{vs:List V}{Q:Post}(hh:A.handled=none) (hr:HRel U s.heap μ σ) (rx:RepV U s.heap μ x v) (e:itemsOf σ v=some vs) (hz:vs.length≤line) (q:Q (.loc σ.length) (σ++[.list vs])) :
  wpAny (model U.p U.w) A (call (.type "list") [x]) (Res U s μ Q) E s:=by
 have fin:∀h' t (items:Array Value) c',(∀b o',s.heap.get? b=some o'→h'.get? b=some o')→h'.get? s.heap.objs.size=some { cls:=.type "list",dict:=none,data:=.seq items c',slots:=#[] }→RepVs U s.heap μ items.toList vs →
   Res U s μ Q (.ref s.heap.objs.size) { s with heap:=h',toks:=t }:=fun h' t items c' k g r=>
  Res.mk (v:=.loc σ.length) (Step.grow (o:=.list vs) hr k g fun tk=>⟨items,c',rfl,r.mono tk (List.prefix_append _ _)⟩)
   (.loc (by rw[←hr.len];simp)) q
 cases its_inv e with
 | tup=>
  refine Classical.byContradiction fun kk=>?_
  obtain⟨a,items,n,h1,h2⟩:=repV_tup rx
  refine kk ?_
  exact call_list_seq a (.inr rfl) h1 rfl rfl (fun h' c' k g=>fin h' s.toks items c' k g h2) (line_le (by rw[←Array.length_toList,h2.length];exact hz))
 | list hl=>
   obtain⟨a,items,n,ha,h1,h2⟩:=hr.listv rx hl
   exact call_list_seq a (.inl rfl) h1 rfl rfl (fun h' c' k g=>fin h' s.toks items c' k g h2) (line_le (by rw[←Array.length_toList,h2.length];exact hz))
 | dict hl=>
   refine Classical.byContradiction fun kk=>?_
   obtain⟨a,ob,ha,g2,kv,g3,g4,g5⟩:=hr.objv rx hl
   refine kk ?_
   refine kdl_call (kdl_dict (hr.notSys ha)) hh (dictAt_of g2 g3 g4) (by rw[g5.length];simp at hz;exact line_le hz) fun h' tk acc' c' k g it=>fin h' tk acc' c' k g (.of_all2 ?_)
   exact keys_rep g5 (by rw[Array.length_toList];exact it.1) fun j y hy=>it.2 j y (by rw[←Array.getElem?_toList];exact hy)
theorem tupOf_sound {x:Value}{v:V}{Q:Post}(hr:HRel U s.heap μ σ) (X:U.K.In s.heap) (rx:RepV U s.heap μ x v) (e:listR v σ fun vs=>Q (.tup vs) σ) :
  wpAny (model U.p U.w) A (call (.type "tuple") [x]) (Res U s μ Q) E s:=by
 have main:∀(a:Addr) (items:Array Value) (vs:List V),s.heap.IsList a items→RepVs U s.heap μ items.toList vs→vs.length≤line→Q (.tup vs) σ→wpAny (model U.p U.w) A (call (.type "tuple") [.ref a]) (Res U s μ Q) E s:=by
  intro a items vs hl h2 hz q
  refine call_tuple_list hl (fun h' k=>?_) (line_le (by rw[←Array.length_toList,h2.length];exact hz))
  have hk:=Step.keeps (t:=s.toks) hr k
  have:=res_tup (s:={ s with heap:=h' }) (t:=s.toks) (Q:=Q) (items:=items.toList) (hr.keeps k) (h2.mono (fun Z Z e Z=>k _ _ e) (List.prefix_refl _)) q
  exact Res.trans hk this
 induction e with
 | list hl hz e=>
  obtain⟨a,items,n,ha,h1,h2⟩:=hr.listv rx hl
  exact main a items _ (isList_of h1) h2 hz e
 | @ext ns hz e=>cases rx with
  | ext g1 g2 g3 g4=>
   refine main a items (ns.map .int) ⟨o,X _ _ g1,g2,m,g3⟩ ?_ (by simpa using hz) e
   clear e g3 main hz
   generalize items.toList=l at g4
   induction g4 with
   | nil=>exact .nil
   | cons h _ ih=>obtain⟨t,rfl⟩:=h;exact .cons (.int _ _) ih
end
structure Room (n:Nat) (A:Around):Prop where
 handled:A.handled=none
 depth:A.depth+3 * n+10≤recursionLimit
 units:A.units+8 * n+40 < cLine
theorem Room.mono {n m:Nat}{A:Around}(x:Room n A) (h:m≤n):Room m A:=⟨x.handled,Nat.le_trans (Nat.add_le_add_right (Nat.add_le_add_left (Nat.mul_le_mul_left 3 h) _) 10) x.depth,Nat.lt_of_le_of_lt (Nat.add_le_add_right (Nat.add_le_add_left (Nat.mul_le_mul_left 8 h) _) 40) x.units⟩
theorem Room.u {n:Nat}{A:Around}(x:Room n A):A.units+20 < cLine:=Nat.lt_of_le_of_lt (Nat.le_trans (Nat.add_le_add_left (by decide:20≤40) _) (Nat.add_le_add_right (Nat.le_add_right ..) 40)) x.units
noncomputable def CellAt (h:Heap) (c:Addr) (v:Option Value):Prop:=∃o,h.get? c=some o∧o.data = .cell v
inductive LocR (U:Bx) (loc:Addr) (G:Cx) (h:Heap) (μ:List Addr) (ρ:Rho):Prop
 | mk (m:Str→Option Value) (hn:h.Ns loc m) (hl:∀x i v,G.kinds.lookup x=some .local→G.slot.lookup x=some i→ρ[i]?=some (some v)→∃val,m x=some val∧RepV U h μ val v)
inductive CellR (U:Bx) (F:List Addr) (env:Env) (G:Cx) (h:Heap) (μ:List Addr) (ρ:Rho) (x:Str) (i:Nat):Prop
 | mk (c:Addr) (v₀:Option Value) (h1:env.cells.lookup x=some c) (h2:CellAt h c v₀) (h3:c∉μ) (h4:c≠env.locals) (h5:G.kinds.lookup x=some .cell→c∈F) (h6:∀v,ρ[i]?=some (some v)→∃val,v₀=some val∧RepV U h μ val v)
structure Own (hb h:Heap) (μ:List Addr) (I:Addr):Prop where
 loc:I∉μ
 base:hb.get? I=none
 there:∃o,h.get? I=some o
 tup:∀o,h.get? I=some o→¬IsTupObj o
theorem Own.obj {hb h:Heap}{μ:List Addr}{I:Addr}{o:Obj}(loc:I∉μ) (base:hb.get? I=none) (e:h.get? I=some o) (nt:¬IsTupObj o):Own hb h μ I:=⟨loc,base,⟨o,e⟩,fun o' z=>Option.some.inj (e.symm.trans z)▸nt⟩
theorem nt_dict {o:Obj}{es:Array DictEntry}{ep:Nat}(d:o.data = .dict es ep):¬IsTupObj o:=fun⟨_,_,_,z⟩=>PySem.Data.noConfusion (d.symm.trans z)
theorem nt_fields {o:Obj}{fs:Array Value}(d:o.data = .fields fs):¬IsTupObj o:=fun⟨_,_,_,z⟩=>PySem.Data.noConfusion (d.symm.trans z)
theorem nt_cell {o:Obj}{v:Option Value}(d:o.data = .cell v):¬IsTupObj o:=fun⟨_,_,_,z⟩=>PySem.Data.noConfusion (d.symm.trans z)
theorem ns_own {hb h:Heap}{μ:List Addr}{C:Addr}{m}(hm:h.Ns C m) (h1:C∉μ) (h2:hb.get? C=none):Own hb h μ C:=by
 obtain⟨o,es,ep,e,d,_⟩:=hm
 exact .obj h1 h2 e (nt_dict d)
theorem ns_uniq {h:Heap}{C:Addr}{m m'}(h1:h.Ns C m) (h2:h.Ns C m'):m'=m:=by
 obtain⟨o,es,ep,a1,a2,a3,a4⟩:=h1
 obtain⟨o',es',ep',b1,b2,b3,b4⟩:=h2
 have e:o'=o:=Option.some.inj (b1.symm.trans a1)
 have e2:es'=es:=(PySem.Data.dict.inj (b2.symm.trans (e▸a2))).1
 exact funext fun z=>(b4 z).symm.trans (e2▸a4 z)
structure EnvR (U:Bx) (F:List Addr) (env:Env) (G:Cx) (h:Heap) (μ:List Addr) (ρ:Rho):Prop where
 names:∀x,env.kindOf x=G.kinds.lookup x∨(G.kinds.lookup x=some .free∧env.kindOf x=some .cell)
 kind:env.scope.kind = .function
 glob:env.globals=mainGlobals
 blt:env.builtins=builtinsNs
 own:∀a∈F,Own U.hb h μ a
 locF:env.locals∈F
 locs:LocR U env.locals G h μ ρ
 cells:∀x i,(G.kinds.lookup x=some .cell∨G.kinds.lookup x=some .free)→G.slot.lookup x=some i→CellR U F env G h μ ρ x i
 cinj:∀x y c,env.cells.lookup x=some c→env.cells.lookup y=some c→x=y
 sinj:∀x y i,G.slot.lookup x=some i→G.slot.lookup y=some i→x=y
 bound:∀x i,G.slot.lookup x=some i→i < G.next
section
variable {U:Bx}{h h':Heap}{μ μ':List Addr}{σ σ':Store}{s s':Shared}{A:Around}{E:Value→Shared→Prop}{F:List Addr}{env:Env}{G:Cx}{ρ:Rho}
theorem EnvR.step (x:EnvR U F env G s.heap μ ρ) (hr:HRel U s.heap μ σ) (st:Step U s μ s' μ' σ'):EnvR U F env G s'.heap μ' ρ:=by
 have tk:TupKeep s.heap s'.heap:=hr.tupKeep st.keep
 have nin:∀a,a∉μ→(∃o,s.heap.get? a=some o)→a∉μ':=fun a ha ⟨o,ho⟩ hm=>by
  have:=st.new a hm ha;rw[ho]at this;cases this
 refine⟨x.names,x.kind,x.glob,x.blt,fun a ha=>?_,x.locF,?_,fun y i hk hs=>?_,x.cinj,x.sinj,x.bound⟩
 ·obtain⟨h1,h2,⟨o,h3⟩,h4⟩:=x.own a ha
  refine⟨nin a h1 ⟨o,h3⟩,h2,⟨o,st.keep a o h3 h1⟩,fun o' e=>?_⟩
  rw[st.keep a o h3 h1]at e;cases e;exact h4 _ h3
 ·refine Classical.byContradiction fun kk=>?_
  obtain⟨m,⟨o,es,ep,ho,hn⟩,hl⟩:=x.locs
  refine kk ?_
  refine⟨m,⟨o,es,ep,st.keep _ _ ho (x.own _ x.locF).1,hn⟩,fun y i v a b c=>?_⟩
  refine Classical.byContradiction fun kk=>?_
  obtain⟨val,h1,h2⟩:=hl y i v a b c
  refine kk ?_
  exact⟨val,h1,h2.mono tk st.pre⟩
 ·refine Classical.byContradiction fun kk=>?_
  obtain⟨c,v₀,h1,⟨o,h2,h2'⟩,h3,h4,h5,h6⟩:=x.cells y i hk hs
  refine kk ?_
  refine⟨c,v₀,h1,⟨o,st.keep _ _ h2 h3,h2'⟩,nin c h3 ⟨o,h2⟩,h4,h5,fun v e=>?_⟩
  obtain⟨val,e1,e2⟩:=h6 v e
  exact⟨val,e1,e2.mono tk st.pre⟩
structure Gl (K:Frag) (hb:Heap):Prop where
 mg:∃mg,hb.Ns mainGlobals mg∧(∀x v,nsIn K mainGlobals x=some (some v)→mg x=some v)∧(∀x,nsIn K mainGlobals x=some none→mg x=none)
 mb:∃mb,hb.Ns builtinsNs mb∧mb "len"=some (.builtin "len")∧mb "list"=some (.type "list")∧mb "tuple"=some (.type "tuple")∧mb "range"=some (.type "range")
theorem Ns.keeps' {h h':Heap}{a:Addr}{m}(x:h.Ns a m) (k:∀b o,h.get? b=some o→h'.get? b=some o):h'.Ns a m:=by
 obtain⟨o,es,ep,ho,r⟩:=x;exact⟨o,es,ep,k _ _ ho,r⟩
theorem kindOf_eq (x:EnvR U F env G h μ ρ) {n:Str}{k:NameKind}(hk:G.kinds.lookup n=some k) (hf:k≠.free):env.kindOf n=some k:=by
 rcases x.names n with e | ⟨e,_⟩
 ·rw[e,hk]
 ·rw[hk]at e;cases e;exact absurd rfl hf
noncomputable def constOk (U:Bx):Prop:=∀x v,constTab.lookup x=some v→∃val,nsIn U.K mainGlobals x=some (some val)∧∀(h:Heap) (μ:List Addr),U.K.In h→RepV U h μ val v
theorem loadG (x:EnvR U F env G s.heap μ ρ) (hr:HRel U s.heap μ σ) (gl:Gl U.K U.hb) {n:Str}{pos:Pos}{val:Value}{Q:Value→Shared→Prop}(hd:(n==("__debug__":Str))=false) (hk:G.kinds.lookup n=some .globalImplicit)
  (e:nsIn U.K mainGlobals n=some (some val)) (q:Q val s):wpAny (model U.p U.w) A (eval (.Name n pos) env) Q E s:=by
 refine Classical.byContradiction fun kk=>?_
 obtain⟨mg,h1,h2,h3⟩:=gl.mg
 refine kk ?_
 exact Calls.Name_function_global x.kind (kindOf_eq x hk (by decide)) (Calls.loadGlobal_global (by rw[x.glob];exact Ns.keeps' h1 hr.base) (h2 _ _ e) q) hd
theorem loadB (x:EnvR U F env G s.heap μ ρ) (hr:HRel U s.heap μ σ) (gl:Gl U.K U.hb) {n:Str}{pos:Pos}{val:Value}{Q:Value→Shared→Prop}(hd:(n==("__debug__":Str))=false) (hk:G.kinds.lookup n=some .globalImplicit)
  (e:nsIn U.K mainGlobals n=some none) (hv:∀mb,U.hb.Ns builtinsNs mb→mb n=some val→Q val s) (hm:∀mb:Str→Option Value,mb "len"=some (.builtin "len")∧mb "list"=some (.type "list")∧mb "tuple"=some (.type "tuple")∧mb "range"=some (.type "range")→mb n=some val) :
  wpAny (model U.p U.w) A (eval (.Name n pos) env) Q E s:=by
 refine Classical.byContradiction fun kk=>?_
 obtain⟨mg,h1,h2,h3⟩:=gl.mg
 obtain⟨mb,g1,g2⟩:=gl.mb
 refine kk ?_
 exact Calls.Name_function_global x.kind (kindOf_eq x hk (by decide)) (Calls.loadGlobal_builtin (by rw[x.glob];exact Ns.keeps' h1 hr.base) (h3 _ e) (by rw[x.blt];exact Ns.keeps' g1 hr.base) (hm mb g2) (hv mb g1 (hm mb g2))) hd
theorem loadName_sound (x:EnvR U F env G s.heap μ ρ) (hr:HRel U s.heap μ σ) {n:Str}{i:Nat}{v:V}{Q:Value→Shared→Prop}(hd:(n==("__debug__":Str))=false) (hn:(n==("__classdict__":Str))=false)
  (hk:G.kinds.lookup n=some .local∨G.kinds.lookup n=some .cell∨G.kinds.lookup n=some .free) (hs:G.slot.lookup n=some i) (hv:ρ[i]?=some (some v)) (q:∀val,RepV U s.heap μ val v→Q val s) :
  wpAny (model U.p U.w) A (loadName env n) Q E s:=by
 rcases hk with hk | hk | hk
 ·refine Classical.byContradiction fun kk=>?_
  obtain⟨m,h1,h2⟩:=x.locs
  obtain⟨val,e1,e2⟩:=h2 n i v hk hs hv
  refine kk ?_
  exact wpAny_loadName_local x.kind (kindOf_eq x hk (by decide)) h1 e1 (q val e2)
 ·obtain⟨c,v₀,h1,h2,-,-,-,h3⟩:=x.cells n i (.inl hk) hs
  obtain⟨val,rfl,e2⟩:=h3 v hv
  exact wpAny_loadName_cell x.kind (kindOf_eq x hk (by decide)) h1 h2 (q val e2)
 ·obtain⟨c,v₀,h1,h2,-,-,-,h3⟩:=x.cells n i (.inr hk) hs
  obtain⟨val,rfl,e2⟩:=h3 v hv
  rcases x.names n with e | ⟨-,e⟩
  ·exact wpAny_loadName_free x.kind (e.trans hk) h1 h2 (q val e2) hn
  ·exact wpAny_loadName_cell x.kind e h1 h2 (q val e2)
noncomputable def methOf:Nat→Option (Nat×Str)
 | 100=>some (0,"__init__") | 101=>some (0,"row") | 102=>some (0,"put") | 103=>some (1,"__init__") | 104=>some (1,"base") | 105=>some (1,"ifaces_at") | 106=>some (1,"sort")
 | 107=>some (1,"variance") | 108=>some (1,"under") | 109=>some (2,"__init__") | _=>none
noncomputable def fnAddr (K:Frag) (f:Nat):Option Addr:=
 match methOf f with
 | some (c,n)=>(match (clsAt K c).map fun C=>findIn K (.ref C) n with | some (some (some (.ref a)))=>some a | _=>none)
 | none=>(match (funTab[f]?).map fun n=>nsIn K mainGlobals n with | some (some (some (.ref a)))=>some a | _=>none)
noncomputable def CallsOk (U:Bx) (n:Nat) (Φ:Calls):Prop:=
 ∀(f:Nat) (a:Addr),fnAddr U.K f=some a→∀{A:Around} {s:Shared} {μ:List Addr} {σ:Store} {args:List Value} {vs:List V} {Q:Post},Room n A→HRel U s.heap μ σ→RepVs U s.heap μ args vs→Φ f vs σ Q →
  codeAny (model U.p U.w) A (.call (.ref a) ⟨args,[]⟩) (fun r s'=>match r with | .ok (.ret v)=>Res U s μ Q v s' | _=>False) s
inductive ClsI (K:Frag) (c:Nat) (x:Str):Prop
 | mk (C i:Addr) (h1:nsIn K mainGlobals x=some (some (.ref C))) (h2:keepIn K (.ref C)=true) (h3:fnAddr K (initFn c)=some i) (h4:findIn K (.ref C) "__init__"=some (some (.ref i))) (h5:typeIn K (.ref i)=some (.type "function")):ClsI K c x
inductive MetI (K:Frag) (c m f:Nat):Prop
 | mk (C:Addr) (x:Str) (a:Addr) (h1:clsAt K c=some C) (h2:methTab[m]?=some x) (h3:findIn K (.ref C) x=some (some (.ref a))) (h4:fnAddr K f=some a) (h5:isFn K (.ref a)=true) (h6:keepIn K (.ref a)=true):MetI K c m f
structure Fk (U:Bx):Prop where
 X:U.K.In U.hb
 gl:Gl U.K U.hb
 con:constOk U
 cls:∀c C,clsAt U.K c=some C→clsOk U.K c=true
 funs:∀(f:Nat) x,funTab[f]?=some x→∃a,nsIn U.K mainGlobals x=some (some (.ref a))∧keepIn U.K (.ref a)=true
 clss:∀(c:Nat) x,clsTab[c]?=some x→ClsI U.K c x
 meths:∀(c m f:Nat),methFn c m=some f→MetI U.K c m f
 noB:nsIn U.K mainGlobals "len"=some none∧nsIn U.K mainGlobals "list"=some none∧nsIn U.K mainGlobals "tuple"=some none∧nsIn U.K mainGlobals "range"=some none
structure Fx (U:Bx) (n:Nat) (Φ:Calls):Prop extends Fk U where
 calls:CallsOk U n Φ
structure RoomE (n:Nat) (A:Around):Prop where
 handled:A.handled=none
 depth:A.depth+3 * n+12≤recursionLimit
 units:A.units+8 * n+44 < cLine
theorem RoomE.room {n:Nat}{A:Around}(x:RoomE n A):Room n A:=⟨x.handled,Nat.le_trans (Nat.add_le_add_left (by decide:10≤12) _) x.depth,Nat.lt_of_le_of_lt (Nat.add_le_add_left (by decide:40≤44) _) x.units⟩
theorem RoomE.u {n:Nat}{A:Around}(x:RoomE n A):A.units+20 < cLine:=x.room.u
theorem Room.deeper {n:Nat}{A:Around}{env:Env}(x:Room (n+1) A):RoomE n (A.deeper env):=⟨x.handled,by have:=x.depth;show A.depth+1+3 * n+12≤_;rw[Nat.add_right_comm A.depth];exact this,by have:=x.units;show A.units+3+8 * n+44 < _;rw[Nat.add_right_comm A.units];exact Nat.lt_of_le_of_lt (Nat.add_le_add_left (by decide:47≤48) (A.units+8 * n)) this⟩
inductive ResL (U:Bx) (s:Shared) (μ:List Addr) (Q:List V→Store→Prop) (vals:List Value) (s':Shared):Prop
 | in_ (vs:List V) (μ':List Addr) (σ':Store) (st:Step U s μ s' μ' σ') (r:RepVs U s'.heap μ' vals vs) (q:Q vs σ')
inductive ResB (U:Bx) (s:Shared) (μ:List Addr) (Q:Bool→Store→Prop) (b:Bool) (s':Shared):Prop
 | in_ (μ':List Addr) (σ':Store) (st:Step U s μ s' μ' σ') (q:Q b σ')
theorem ResB.trans {Q:Bool→Store→Prop}{b:Bool}{s₁ s₂:Shared}{μ₁:List Addr}{σ₁:Store}(a:Step U s μ s₁ μ₁ σ₁) (x:ResB U s₁ μ₁ Q b s₂):ResB U s μ Q b s₂:=by
 obtain⟨μ',σ',x,y⟩:=x;exact⟨μ',σ',a.trans x,y⟩
theorem ResL.trans {Q:List V→Store→Prop}{vs:List Value}{s₁ s₂:Shared}{μ₁:List Addr}{σ₁:Store}(a:Step U s μ s₁ μ₁ σ₁) (x:ResL U s₁ μ₁ Q vs s₂):ResL U s μ Q vs s₂:=by
 obtain⟨v,μ',σ',x,y,z⟩:=x;exact⟨v,μ',σ',a.trans x,y,z⟩
variable {n:Nat}{Φ:Calls}
noncomputable def SE (U:Bx) (n:Nat) (Φ:Calls) (e:PySem.Expr):Prop:=
 ∀{A:Around} {E:Value→Shared→Prop} {F:List Addr} {env:Env} {G:Cx} {ρ:Rho} {s:Shared} {μ:List Addr} {σ:Store} {Q:Post},RoomE n A→EnvR U F env G s.heap μ ρ→HRel U s.heap μ σ →
  wpE Φ (compE G e).1 ρ σ Q→wpAny (model U.p U.w) A (eval e env) (Res U s μ Q) E s
noncomputable def SC (U:Bx) (n:Nat) (Φ:Calls) (e:PySem.Expr):Prop:=
 ∀{A:Around} {E:Value→Shared→Prop} {F:List Addr} {env:Env} {G:Cx} {ρ:Rho} {s:Shared} {μ:List Addr} {σ:Store} {Q:Bool→Store→Prop},RoomE n A→EnvR U F env G s.heap μ ρ→HRel U s.heap μ σ →
  wpC Φ (compE G e).2 ρ σ Q→wpAny (model U.p U.w) A (isTrue e env (eval e env)) (ResB U s μ Q) E s
theorem stuckE {ρ:Rho}{Q:Post}(e:wpE Φ .stuck ρ σ Q):False:=e
theorem som_inv {α:Type}{x:Option α}{f:α→ME}{Q:Post}(e:wpE Φ (som x f) ρ σ Q):∃a,x=some a∧wpE Φ (f a) ρ σ Q:=by
 induction x with
 | none=>exact e.elim
 | some a=>exact⟨a,rfl,e⟩
theorem ifm_inv {b:Bool}{m:ME}{Q:Post}(e:wpE Φ (ifm b m) ρ σ Q):b=true∧wpE Φ m ρ σ Q:=by
 induction b with
 | false=>exact e.elim
 | true=>exact⟨rfl,e⟩
theorem var_inv {i:Nat}{Q:Post}(e:wpE Φ (.var i) ρ σ Q):∃v,ρ[i]?=some (some v)∧Q v σ:=by
 have e:(match ρ[i]? with | some (some v)=>Q v σ | _=>False):=e
 cases h:ρ[i]? with
 | none=>rw[h]at e;exact e.elim
 | some o=>induction o with
  | none=>rw[h]at e;exact e.elim
  | some v=>rw[h]at e;exact⟨v,rfl,e⟩
theorem Res.bind {Q':Post}{R:Value→Shared→Prop}{m:Sem Value}(hm:wpAny (model U.p U.w) A m (Res U s μ Q') E s)
  (k:∀v u s₁ μ₁ σ₁,Step U s μ s₁ μ₁ σ₁→RepV U s₁.heap μ₁ v u→Q' u σ₁→R v s₁):wpAny (model U.p U.w) A m R E s:=
 wpAny_mono hm (fun v s₁ zz=>by obtain⟨u,μ₁,σ₁,st,r,q⟩:=zz;exact k v u s₁ μ₁ σ₁ st r q) fun Z Z e=>e
theorem ResL.bind {Q':List V→Store→Prop}{R:List Value→Shared→Prop}{m:Sem (List Value)}(hm:wpAny (model U.p U.w) A m (ResL U s μ Q') E s)
  (k:∀v u s₁ μ₁ σ₁,Step U s μ s₁ μ₁ σ₁→RepVs U s₁.heap μ₁ v u→Q' u σ₁→R v s₁):wpAny (model U.p U.w) A m R E s:=
 wpAny_mono hm (fun v s₁ zz=>by obtain⟨u,μ₁,σ₁,st,r,q⟩:=zz;exact k v u s₁ μ₁ σ₁ st r q) fun Z Z e=>e
theorem ResB.bind {Q':Bool→Store→Prop}{R:Bool→Shared→Prop}{m:Sem Bool}(hm:wpAny (model U.p U.w) A m (ResB U s μ Q') E s)
  (k:∀b s₁ μ₁ σ₁,Step U s μ s₁ μ₁ σ₁→Q' b σ₁→R b s₁):wpAny (model U.p U.w) A m R E s:=
 wpAny_mono hm (fun v s₁ zz=>by obtain⟨μ₁,σ₁,st,q⟩:=zz;exact k v s₁ μ₁ σ₁ st q) fun Z Z e=>e
theorem star_of {e:PySem.Expr}{rest:List PySem.Expr}(hn:∀x p,e≠.Starred x p):starEach (e :: rest) env=(false,eval e env) :: starEach rest env:=by
 induction e using PySem.Expr.casesOn <;> first | rfl | exact absurd rfl (hn _ _)
theorem args_sound {es:List PySem.Expr}(ih:∀e∈es,SE U n Φ e) {pos:Pos}{Q:List V→Store→Prop}(hA:RoomE n A) (en:EnvR U F env G s.heap μ ρ) (hr:HRel U s.heap μ σ)
  (e:wpEs Φ ((compEs G es).map (·.1)) ρ σ Q):wpAny (model U.p U.w) A (spliced (backTo pos (starEach es env))) (ResL U s μ Q) E s:=by
 induction es generalizing s μ σ Q with
 | nil=>
  exact wpAny_items_nil ⟨[],μ,σ,Step.refl hr,.nil,e⟩
 | cons x xs ih'=>
  by_cases hn:∃y p,x = .Starred y p
  ·obtain⟨y,p,rfl⟩:=hn
   exact(stuckE e).elim
  refine wpAny_items_cons (Res.bind (ih x (.head _) hA en hr e) fun v u s₁ μ₁ σ₁ st r q=>?_) (star_of fun y p h=>hn ⟨y,p,h⟩)
  refine ResL.bind (ih' (fun e he=>ih e (.tail _ he)) (en.step hr st) st.hrel q) fun vs us s₂ μ₂ σ₂ st' r' q'=>?_
  exact⟨_,μ₂,σ₂,st.trans st',.cons (r.mono (st.hrel.tupKeep st'.keep) st'.pre) r',q'⟩
end
section
variable {U:Bx}{h:Heap}{μ μ':List Addr}{σ σ':Store}{s s':Shared}{A:Around}{E:Value→Shared→Prop}{F:List Addr}{env:Env}{G:Cx}{ρ:Rho}{n:Nat}{Φ:Calls}
theorem Fx.Xs (fx:Fx U n Φ) (hr:HRel U s.heap μ σ):U.K.In s.heap:=fx.X.keeps hr.base
theorem se_const {c:Const}{k:Nat}{p:Pos}:SE U n Φ (.Constant c k p):=by
 intro A E F env G ρ s μ σ Q hA en hr e
 induction c with
 | none=>exact wpAny_Constant_none (Res.here (t:=s.toks) hr .none e)
 | bool b=>exact wpAny_Constant_bool (Res.here (t:=s.toks) hr (.bool b) e)
 | int i=>exact wpAny_Constant_int (Res.here hr (.int i _) e)
 | str x=>
  refine Classical.byContradiction fun kk=>?_
  obtain⟨i,hi,e⟩:=som_inv e
  obtain⟨h1,h2,-⟩:=List.findIdx?_eq_some_iff_getElem.mp hi
  refine kk ?_
  exact wpAny_Constant_str (Res.here hr (.str _ (by rw[List.getElem?_eq_getElem h1,beq_iff_eq.mp h2])) e)
 | _=>exact(stuckE e).elim
theorem se_name (fx:Fx U n Φ) {x:Str}{p:Pos}:SE U n Φ (.Name x p):=by
 intro A E F env G ρ s μ σ Q hA en hr e
 obtain⟨hd,e⟩:=ifm_inv e
 rw[Bool.not_eq_true',Bool.or_eq_false_iff]at hd
 have e:wpE Φ (compK (G.kinds.lookup x) (G.slot.lookup x) (constTab.lookup x)) ρ σ Q:=e
 have loc:(G.kinds.lookup x=some .local∨G.kinds.lookup x=some .cell∨G.kinds.lookup x=some .free)→wpE Φ (som (G.slot.lookup x) .var) ρ σ Q→wpAny (model U.p U.w) A (eval (.Name x p) env) (Res U s μ Q) E s:=by
  intro hk e
  obtain⟨i,hi,e⟩:=som_inv e
  obtain⟨v,hv,e⟩:=var_inv e
  exact wpAny_Name (loadName_sound en hr hd.1 hd.2 hk hi hv fun val r=>Res.here (t:=s.toks) hr r e) hd.1
 cases hk:G.kinds.lookup x with
 | none=>rw[hk]at e;exact(stuckE e).elim
 | some k=>
  rw[hk]at e
  induction k with
  | «local»=>exact loc (.inl hk) e
  | cell=>exact loc (.inr (.inl hk)) e
  | free=>exact loc (.inr (.inr hk)) e
  | globalImplicit=>
   refine Classical.byContradiction fun kk=>?_
   obtain⟨v,hv,e⟩:=som_inv e
   obtain⟨val,h1,h2⟩:=fx.con x v hv
   refine kk ?_
   exact loadG en hr fx.gl hd.1 hk h1 (Res.here (t:=s.toks) hr (h2 _ _ (fx.Xs hr)) e)
  | _=>exact(stuckE e).elim
theorem se_binop (fx:Fx U n Φ) {l r:PySem.Expr}{op:Operator}{p:Pos}(hl:SE U n Φ l) (hrr:SE U n Φ r):SE U n Φ (.BinOp l op r p):=by
 intro A E F env G ρ s μ σ Q hA en hr e
 refine Classical.byContradiction fun kk=>?_
 obtain⟨o,ho,e⟩:=som_inv e
 refine kk ?_
 refine wpAny_BinOp (Res.bind (hl hA en hr e) fun v u s₁ μ₁ σ₁ st rv q=>Res.bind (hrr hA (en.step hr st) st.hrel q) fun v' u' s₂ μ₂ σ₂ st' rv' q'=>?_)
 exact wpAny_mono (bop_sound ho st'.hrel (rv.mono (st.hrel.tupKeep st'.keep) st'.pre) rv' q') (fun Z Z z=>Res.trans (st.trans st') z) fun Z Z e=>e
theorem cmp_parts (fx:Fx U n Φ) {l r:PySem.Expr}{op:CmpOp}(hl:SE U n Φ l) (hrr:SE U n Φ r) {Q:Post}{R:Value→Shared→Prop}(hA:RoomE n A) (en:EnvR U F env G s.heap μ ρ) (hr:HRel U s.heap μ σ)
  (e:wpE Φ (compE G l).1 ρ σ fun x σ=>wpE Φ (compE G r).1 ρ σ fun y σ=>cmpR (copOf op) x y σ Q) (hR:∀v s',Res U s μ Q v s'→R v s') :
  wpAny (model U.p U.w) A (eval l env) (fun a s₁=>wpAny (model U.p U.w) A (eval r env) (fun b s₂=>wpAny (model U.p U.w) A (compareOp op a b) R E s₂) E s₁) E s:=
 Res.bind (hl hA en hr e) fun v u s₁ μ₁ σ₁ st rv q=>Res.bind (hrr hA (en.step hr st) st.hrel q) fun v' u' s₂ μ₂ σ₂ st' rv' q'=>
  wpAny_mono (cmp_sound hA.u st'.hrel (fx.Xs st'.hrel) (rv.mono (st.hrel.tupKeep st'.keep) st'.pre) rv' q') (fun Z Z z=>hR _ _ (Res.trans (st.trans st') z)) fun Z Z e=>e
theorem marks_plain {op:CmpOp}{r:PySem.Expr}(h:isSetE r=false):behindInMarks op r=false:=by
 induction r using PySem.Expr.casesOn <;> first | rfl | exact bft h
theorem cmp_one {l:PySem.Expr}{ops:List CmpOp}{rs:List PySem.Expr}{p:Pos}{Q:Post}(e:wpE Φ (compE G (.Compare l ops rs p)).1 ρ σ Q):∃op r,ops=[op]∧rs=[r]∧isSetE r=false∧wpE Φ (compE G l).1 ρ σ fun x σ=>wpE Φ (compE G r).1 ρ σ fun y σ=>cmpR (copOf op) x y σ Q:=by
 rcases ops with _ | ⟨op,_ | ⟨_,_⟩⟩ <;> rcases rs with _ | ⟨r,_ | ⟨_,_⟩⟩ <;> try exact(stuckE e).elim
 obtain⟨hs,e⟩:=ifm_inv e
 exact⟨op,r,rfl,rfl,by simpa using hs,e⟩
theorem se_cmp (fx:Fx U n Φ) {l:PySem.Expr}{ops:List CmpOp}{rs:List PySem.Expr}{p:Pos}(hl:SE U n Φ l) (hrs:∀r∈rs,SE U n Φ r):SE U n Φ (.Compare l ops rs p):=by
 intro A E F env G ρ s μ σ Q hA en hr e
 obtain⟨op,r,rfl,rfl,hs,e⟩:=cmp_one e
 exact wpAny_Compare1 (cmp_parts fx hl (hrs r (.head _)) hA en hr e fun Z Z z=>z) (marks_plain hs)
theorem sc_cmp (fx:Fx U n Φ) {l:PySem.Expr}{ops:List CmpOp}{rs:List PySem.Expr}{p:Pos}(hl:SE U n Φ l) (hrs:∀r∈rs,SE U n Φ r):SC U n Φ (.Compare l ops rs p):=by
 intro A E F env G ρ s μ σ Q hA en hr e
 have e:wpC Φ (.ex (compE G (.Compare l ops rs p)).1) ρ σ Q:=by set_option smartUnfolding false in exact e
 have e:wpE Φ (compE G (.Compare l ops rs p)).1 ρ σ (tstK Q):=e
 obtain⟨op,r,rfl,rfl,hs,e⟩:=cmp_one e
 refine wpAny_isTrue_Compare1 (cmp_parts fx hl (hrs r (.head _)) hA en hr e fun v s' z=>?_) (marks_plain hs)
 obtain⟨u,μ',σ',st,rv,q⟩:=z
 exact truth_sound st.hrel rv q fun b t q'=>⟨μ',σ',st.trans (Step.toks st.hrel),q'⟩
theorem sc_plain {e:PySem.Expr}(he:SE U n Φ e) (hc:∀G,(compE G e).2 = .ex (compE G e).1) (hi:∀(env:Env) whole,isTrue e env whole=(do let v ←whole;standAt e.pos;holding [v] (truthy v))):SC U n Φ e:=by
 intro A E F env G ρ s μ σ Q hA en hr h
 rw[hc]at h
 refine isTrue_plain (Res.bind (he hA en hr h) fun v u s₁ μ₁ σ₁ st rv q=>?_) (hi env _)
 exact truth_sound st.hrel rv q fun b t q'=>⟨μ₁,σ₁,st.trans (Step.toks st.hrel),q'⟩
theorem se_ifexp {t b o:PySem.Expr}{p:Pos}(ht:SC U n Φ t) (hb':SE U n Φ b) (ho:SE U n Φ o):SE U n Φ (.IfExp t b o p):=by
 intro A E F env G ρ s μ σ Q hA en hr e
 refine wpAny_IfExp (ResB.bind (ht hA en hr e) fun c s₁ μ₁ σ₁ st q=>?_)
 cases c with
 | true=>exact wpAny_mono (hb' hA (en.step hr st) st.hrel q) (fun Z Z z=>Res.trans st z) fun Z Z e=>e
 | false=>exact wpAny_mono (ho hA (en.step hr st) st.hrel q) (fun Z Z z=>Res.trans st z) fun Z Z e=>e
theorem sc_ifexp {t b o:PySem.Expr}{p:Pos}(ht:SC U n Φ t) (hb':SC U n Φ b) (ho:SC U n Φ o):SC U n Φ (.IfExp t b o p):=by
 intro A E F env G ρ s μ σ Q hA en hr e
 refine isTrue_IfExp (ResB.bind (ht hA en hr e) fun c s₁ μ₁ σ₁ st q=>?_)
 cases c with
 | true=>exact wpAny_mono (hb' hA (en.step hr st) st.hrel q) (fun Z Z z=>ResB.trans st z) fun Z Z e=>e
 | false=>exact wpAny_mono (ho hA (en.step hr st) st.hrel q) (fun Z Z z=>ResB.trans st z) fun Z Z e=>e
theorem se_unary (fx:Fx U n Φ) {op:UnaryOp}{x:PySem.Expr}{p:Pos}(hx:SE U n Φ x):SE U n Φ (.UnaryOp op x p):=by
 intro A E F env G ρ s μ σ Q hA en hr e
 induction op with
 | Not=>
  refine wpAny_UnaryOp (Res.bind (hx hA en hr e) fun v u s₁ μ₁ σ₁ st rv q=>?_)
  exact not_value (truth_sound st.hrel rv q fun b t q'=>Res.trans st (Res.here st.hrel (.bool _) q'))
 | USub=>
  refine wpAny_UnaryOp (Res.bind (hx hA en hr e) fun v u s₁ μ₁ σ₁ st rv q=>?_)
  obtain⟨k,rfl⟩:∃k,u = .int k:=by induction u using V.casesOn <;> first | exact⟨_,rfl⟩ | exact q.elim
  obtain⟨t⟩:=repV_int rv
  exact neg_int (Res.trans st (Res.here (Q:=Q) st.hrel (.int (-k) _) q))
 | _=>exact(stuckE e).elim
theorem sc_not {x:PySem.Expr}{p:Pos}(hx:SC U n Φ x):SC U n Φ (.UnaryOp .Not x p):=by
 intro A E F env G ρ s μ σ Q hA en hr e
 exact isTrue_not (ResB.bind (hx hA en hr e) fun c s₁ μ₁ σ₁ st q=>⟨μ₁,σ₁,st,q⟩)
theorem ifm_stuck {b:Bool}:ifm b .stuck = .stuck:=by induction b <;> rfl
theorem super_stuck {q p:Pos}:(compE G (.Call (.Name "super" q) [] [] p)).1 = .stuck:=by
 have:callName G "super" [] = .stuck:=ifm_stuck (b:=isGlob G "super")
 show ifm (decide (List.length ([]:List PySem.Expr)≤20)&&List.all ([]:List PySem.Expr) notStar&&("super":Str) != ("__debug__":Str)) (callName G "super" [])=_
 rw[this];exact ifm_stuck
theorem attrBase {o:PySem.Expr}{x:Str}(h:∀q p,o≠.Call (.Name "super" q) [] [] p) (whole:Sem Value):attributeBase o x env whole=whole:=by
 induction o using PySem.Expr.casesOn with
 | Call f args kws p=>induction f using PySem.Expr.casesOn with
  | Name id q=>induction args with
   | nil=>induction kws with
    | nil=>
     have hne:(id != ("super":Str))=true:=bne_iff_ne.mpr fun e=>h q p (by rw[e])
     show(if (((id != ("super":Str)) || _) || _) || _ then _ else _)=_
     rw[hne,Bool.true_or,Bool.true_or,Bool.true_or,if_pos rfl]
    | cons=>rfl
   | cons=>rfl
  | _=>rfl
 | _=>rfl
theorem se_attr (fx:Fx U n Φ) {v:PySem.Expr}{x:Str}{p:Pos}(hv:SE U n Φ v):SE U n Φ (.Attribute v x p):=by
 intro A E F env G ρ s μ σ Q hA en hr e
 obtain⟨f,hf,e⟩:=som_inv e
 have hf':fldTab[f]?=some x:=by
  obtain⟨h1,h2,-⟩:=List.findIdx?_eq_some_iff_getElem.mp hf
  rw[List.getElem?_eq_getElem h1,beq_iff_eq.mp h2]
 have hs:∀q p,v≠.Call (.Name "super" q) [] [] p:=by
  rintro q p rfl
  have e:wpE Φ (compE G (.Call (.Name "super" q) [] [] p)).1 ρ σ fun v σ=>attrR v f σ Q:=e
  rw[super_stuck]at e
  exact stuckE e
 refine Attribute_any_ (Res.bind (hv hA en hr e) fun o u s₁ μ₁ σ₁ st rv q=>wpAny_mono (attr_sound fx.cls hf' st.hrel (fx.Xs st.hrel) rv q) (fun Z Z z=>Res.trans st z) fun Z Z e=>e) ?_
 show(do
  let o ←attributeBase v x env (eval v env)
  standAt p.atName
  let r ←holding [o] (getAttr o x true)
  letTemporaryGo v o r
  pure r)=_
 rw[attrBase hs]
set_option backward.match.sparseCases true in
theorem and_sound {vs:List PySem.Expr}(ih:∀e∈vs,SE U n Φ e) {pos:Pos}{Q:Post}(hA:RoomE n A) (en:EnvR U F env G s.heap μ ρ) (hr:HRel U s.heap μ σ) (e:wpAnd Φ ((compEs G vs).map (·.1)) ρ σ Q) :
  wpAny (model U.p U.w) A (boolOp pos .And (evalEach vs env)) (Res U s μ Q) E s:=by
 induction vs generalizing s μ σ Q with
 | nil=>exact e.elim
 | cons x xs ih'=>
  cases xs with
  | nil=>
   exact ih x (.head _) hA en hr e
  | cons y ys=>
   show wpAny _ _ (do
    let v ←eval x env
    standAt pos
    let t ←holding [v] (truthy v)
    match BoolOp.And,t with
    | .And,false | .Or,true=>pure v
    | _,_=>boolOp pos .And (evalEach (y :: ys) env)) _ _ _
   refine wpAny_bind (Res.bind (ih x (.head _) hA en hr e) fun v u s₁ μ₁ σ₁ st rv q=>wpAny_bind (wpAny_standAt (wpAny_bind (wpAny_holding (truth_sound st.hrel rv q fun b t q'=>?_)))))
   have st':=st.trans (Step.toks st.hrel (t:=t))
   cases b with
   | false=>exact wpAny_pure ⟨u,μ₁,σ₁,st',rv,q'⟩
   | true=>
    have hh:=ih' (s:={ s₁ with toks:=t }) (fun e he=>ih e (.tail _ he)) (en.step hr st') st'.hrel q'
    exact wpAny_mono hh (fun Z Z z=>Res.trans st' z) fun Z Z e=>e
set_option backward.match.sparseCases true in
theorem or_sound {vs:List PySem.Expr}(ih:∀e∈vs,SE U n Φ e) {pos:Pos}{Q:Post}(hA:RoomE n A) (en:EnvR U F env G s.heap μ ρ) (hr:HRel U s.heap μ σ) (e:wpOr Φ ((compEs G vs).map (·.1)) ρ σ Q) :
  wpAny (model U.p U.w) A (boolOp pos .Or (evalEach vs env)) (Res U s μ Q) E s:=by
 induction vs generalizing s μ σ Q with
 | nil=>exact e.elim
 | cons x xs ih'=>
  cases xs with
  | nil=>
   exact ih x (.head _) hA en hr e
  | cons y ys=>
   show wpAny _ _ (do
    let v ←eval x env
    standAt pos
    let t ←holding [v] (truthy v)
    match BoolOp.Or,t with
    | .And,false | .Or,true=>pure v
    | _,_=>boolOp pos .Or (evalEach (y :: ys) env)) _ _ _
   refine wpAny_bind (Res.bind (ih x (.head _) hA en hr e) fun v u s₁ μ₁ σ₁ st rv q=>wpAny_bind (wpAny_standAt (wpAny_bind (wpAny_holding (truth_sound st.hrel rv q fun b t q'=>?_)))))
   have st':=st.trans (Step.toks st.hrel (t:=t))
   cases b with
   | true=>exact wpAny_pure ⟨u,μ₁,σ₁,st',rv,q'⟩
   | false=>
    have hh:=ih' (s:={ s₁ with toks:=t }) (fun e he=>ih e (.tail _ he)) (en.step hr st') st'.hrel q'
    exact wpAny_mono hh (fun Z Z z=>Res.trans st' z) fun Z Z e=>e
theorem se_boolop {op:BoolOp}{vs:List PySem.Expr}{p:Pos}(ih:∀e∈vs,SE U n Φ e):SE U n Φ (.BoolOp op vs p):=by
 intro A E F env G ρ s μ σ Q hA en hr e
 induction op with
 | And=>exact and_sound ih hA en hr e
 | Or=>exact or_sound ih hA en hr e
theorem sc_boolop {op:BoolOp}{vs:List PySem.Expr}{p:Pos}(ih:∀e∈vs,SC U n Φ e):SC U n Φ (.BoolOp op vs p):=by
 intro A E F env G ρ s μ σ Q hA en hr e
 generalize hw:eval (.BoolOp op vs p) env=whole
 clear hw
 induction op with
 | And=>
  induction vs generalizing s μ σ Q with
  | nil=>exact isTrue_and_nil ⟨μ,σ,Step.refl hr,e⟩
  | cons x xs ih'=>
   refine isTrue_and (ResB.bind (ih x (.head _) hA en hr e) fun b s₁ μ₁ σ₁ st q=>?_)
   cases b with
   | false=>exact⟨μ₁,σ₁,st,q⟩
   | true=>exact wpAny_mono (ih' (fun e he=>ih e (.tail _ he)) (en.step hr st) st.hrel q) (fun Z Z z=>ResB.trans st z) fun Z Z e=>e
 | Or=>
  induction vs generalizing s μ σ Q with
  | nil=>exact isTrue_or_nil ⟨μ,σ,Step.refl hr,e⟩
  | cons x xs ih'=>
   refine isTrue_or (ResB.bind (ih x (.head _) hA en hr e) fun b s₁ μ₁ σ₁ st q=>?_)
   cases b with
   | true=>exact⟨μ₁,σ₁,st,q⟩
   | false=>exact wpAny_mono (ih' (fun e he=>ih e (.tail _ he)) (en.step hr st) st.hrel q) (fun Z Z z=>ResB.trans st z) fun Z Z e=>e
theorem se_list {es:List PySem.Expr}{p:Pos}(ih:∀e∈es,SE U n Φ e):SE U n Φ (.List es p):=by
 intro A E F env G ρ s μ σ Q hA en hr e
 refine wpAny_List (ResL.bind (args_sound ih hA en hr e) fun vs us s₁ μ₁ σ₁ st r q=>⟨by rw[r.length];exact line_le q.1,?_⟩)
 exact Res.trans st (res_list (t:=s₁.toks) st.hrel r q.2)
theorem se_tuple {es:List PySem.Expr}{k:Nat}{p:Pos}(ih:∀e∈es,SE U n Φ e):SE U n Φ (.Tuple es k p):=by
 intro A E F env G ρ s μ σ Q hA en hr e
 refine wpAny_Tuple (ResL.bind (args_sound ih hA en hr e) fun vs us s₁ μ₁ σ₁ st r q=>⟨by rw[r.length];exact line_le q.1,?_⟩)
 exact Res.trans st (res_tup (t:=s₁.toks) st.hrel r q.2)
theorem sl_parts {v sl:PySem.Expr}{p:Pos}{Q:Post}(e:wpE Φ (compE G (.Subscript v sl p)).1 ρ σ Q) :
  (∃st q,sl = .Slice none none (some st) q∧isMinus1 st=true∧wpE Φ (.rev (compE G v).1) ρ σ Q)∨(∃lo q,sl = .Slice (some lo) none none q∧wpE Φ (.from_ (compE G v).1 (compE G lo).1) ρ σ Q) ∨
  (∃hi q,sl = .Slice none (some hi) none q∧wpE Φ (.to_ (compE G v).1 (compE G hi).1) ρ σ Q)∨(isSliceE sl=false∧wpE Φ (.sub (compE G v).1 (compE G sl).1) ρ σ Q):=by
 induction sl using PySem.Expr.casesOn with
 | Slice lo hi st q=>induction lo with
  | none=>induction hi with
   | none=>induction st with
    | none=>exact(stuckE e).elim
    | some st=>
     obtain⟨h,e⟩:=ifm_inv e
     exact .inl ⟨st,q,rfl,h,e⟩
   | some hi=>induction st with
    | none=>exact .inr (.inr (.inl ⟨hi,q,rfl,e⟩))
    | some=>exact(stuckE e).elim
  | some lo=>induction hi with
   | none=>induction st with
    | none=>exact .inr (.inl ⟨lo,q,rfl,e⟩)
    | some=>exact(stuckE e).elim
   | some=>induction st <;> exact(stuckE e).elim
 | _=>exact .inr (.inr (.inr ⟨rfl,e⟩))
theorem minus1 {e:PySem.Expr}(h:isMinus1 e=true):∃k p q,e = .UnaryOp .USub (.Constant (.int 1) k p) q:=by
 induction e using PySem.Expr.casesOn with
 | UnaryOp op x q=>cases op with
  | USub=>induction x using PySem.Expr.casesOn with
   | Constant c k p=>induction c with
    | int i=>
     have:i=1:=beq_iff_eq.mp h
     exact⟨k,p,q,by rw[this]⟩
    | _=>exact bff h
   | _=>exact bff h
  | _=>exact bff h
 | _=>exact bff h
theorem se_sub (fx:Fx U n Φ) {v sl:PySem.Expr}{p:Pos}(hv:SE U n Φ v) (hs:SE U n Φ sl) (hlo:∀lo a b q,sl = .Slice (some lo) a b q→SE U n Φ lo) (hhi:∀hi a b q,sl = .Slice a (some hi) b q→SE U n Φ hi) :
  SE U n Φ (.Subscript v sl p):=by
 intro A E F env G ρ s μ σ Q hA en hr e
 obtain⟨st,q,rfl,h1,e⟩ | ⟨lo,q,rfl,e⟩ | ⟨hi,q,rfl,e⟩ | ⟨hsl,e⟩:=sl_parts e
 ·refine Classical.byContradiction fun kk=>?_
  obtain⟨ck,cp,cq,rfl⟩:=minus1 h1
  refine kk ?_
  refine Subscript_ (Res.bind (hv hA en hr e) fun x u s₁ μ₁ σ₁ stp rv q=>wpAny_Slice ?_)
  refine wpAny_pure (wpAny_pure ?_)
  rw[evalPart_some]
  refine wpAny_UnaryOp (wpAny_Constant_int (neg_int (s:={ s₁ with toks:=s₁.toks+1 }) ?_))
  have st2:=stp.trans (Step.toks stp.hrel (t:=s₁.toks+1+1))
  exact wpAny_mono (slice_sound (s:={ s₁ with toks:=s₁.toks+1+1 }) (ops:=[x]) (fun l=>l.reverse) krv_pick (fun r=>r.reverse) (fun l=>by simp) st2.hrel (fx.Xs stp.hrel) rv .none .none (.int _ _) (by simp) (fun i=>.inl rfl) q) (fun Z Z z=>Res.trans st2 z) fun Z Z e=>e
 ·refine Subscript_ (Res.bind (hv hA en hr e) fun x u s₁ μ₁ σ₁ st rv q=>wpAny_Slice ?_)
  rw[evalPart_some]
  refine Res.bind (hlo _ _ _ _ rfl hA (en.step hr st) st.hrel q) fun i k s₂ μ₂ σ₂ st' ri q'=>wpAny_pure (wpAny_pure ?_)
  obtain⟨k,rfl⟩:∃i,k = .int i:=by induction k using V.casesOn <;> first | exact⟨_,rfl⟩ | exact q'.elim
  obtain⟨t⟩:=repV_int ri
  obtain⟨h0,h1,q'⟩:=q'
  refine wpAny_mono (slice_sound (ops:=[x]) (lo:=some k) (fun l=>l.drop k.toNat) (fun items=>by rw[show some k=some ((k.toNat:Nat):Int) from by rw[Int.toNat_of_nonneg h0]];exact slicePick_from' items _) (fun r=>r.drop _) (fun l=>by simp) st'.hrel (fx.Xs st'.hrel) (rv.mono (st.hrel.tupKeep st'.keep) st'.pre) (.int _ _) .none .none (by simp) (fun i=>.inr rfl) q') (fun Z Z z=>Res.trans (st.trans st') z) fun Z Z e=>e
 ·refine Subscript_ (Res.bind (hv hA en hr e) fun x u s₁ μ₁ σ₁ st rv q=>wpAny_Slice (wpAny_pure ?_))
  rw[evalPart_some]
  refine Res.bind (hhi _ _ _ _ rfl hA (en.step hr st) st.hrel q) fun i k s₂ μ₂ σ₂ st' ri q'=>wpAny_pure ?_
  obtain⟨k,rfl⟩:∃i,k = .int i:=by induction k using V.casesOn <;> first | exact⟨_,rfl⟩ | exact q'.elim
  obtain⟨t⟩:=repV_int ri
  obtain⟨h0,h1,q'⟩:=q'
  refine wpAny_mono (slice_sound (ops:=[x]) (hi:=some k) (fun l=>l.take k.toNat) (fun items=>by rw[show some k=some ((k.toNat:Nat):Int) from by rw[Int.toNat_of_nonneg h0]];exact slicePick_upto' items _) (fun r=>r.take _) (fun l=>List.length_take_le' ..) st'.hrel (fx.Xs st'.hrel) (rv.mono (st.hrel.tupKeep st'.keep) st'.pre) .none (.int _ _) .none (by simp) (fun i=>.inr rfl) q') (fun Z Z z=>Res.trans (st.trans st') z) fun Z Z e=>e
 ·refine Subscript_ (Res.bind (hv hA en hr e) fun x u s₁ μ₁ σ₁ st rv q=>Res.bind (hs hA (en.step hr st) st.hrel q) fun i k s₂ μ₂ σ₂ st' ri q'=>?_)
  exact wpAny_mono (sub_sound hsl hA.u st'.hrel (fx.Xs st'.hrel) (rv.mono (st.hrel.tupKeep st'.keep) st'.pre) ri q') (fun Z Z z=>Res.trans (st.trans st') z) fun Z Z e=>e
end
section
variable {U:Bx}{h h':Heap}{μ μ':List Addr}{σ σ':Store}{s s':Shared}{A:Around}{E:Value→Shared→Prop}{F:List Addr}{env:Env}{G:Cx}{ρ:Rho}{n:Nat}{Φ:Calls}
theorem plain_args' {es:List PySem.Expr}{pos:Pos}(hn:es.all notStar=true):(backTo pos (starEach es env)).any (·.1)=false:=by
 induction es with
 | nil=>rfl
 | cons x xs ih=>
  rw[List.all_cons,Bool.and_eq_true]at hn
  rw[star_of fun y p h=>by rw[h]at hn;exact bff hn.1]
  show(false || _)=false
  rw[Bool.false_or]
  exact ih hn.2
theorem evalArgs_any {es:List PySem.Expr}{pos:Pos}{f:Value}{Q:Args→Shared→Prop}(hn:es.all notStar=true) (h:wpAny (model U.p U.w) A (spliced (backTo pos (starEach es env))) (fun vs s'=>Q ⟨vs,[]⟩ s') E s) :
  wpAny (model U.p U.w) A (evalArgs f true (backTo pos (starEach es env)) []) Q E s:=by
 induction es with
 | nil=>
  have h':wpAny (model U.p U.w) A (spliced []) (fun vs s'=>Q ⟨vs,[]⟩ s') E s:=h
  show wpAny (model U.p U.w) A (evalArgs f true [] []) Q E s
  unfold evalArgs
  show wpAny _ _ (spliced [] >>= _) _ _ _
  refine wpAny_bind (wpAny_mono h' (fun vs s' hq=>?_) fun Z Z e=>e)
  refine wpAny_bind (wpAny_pure ?_)
  refine wpAny_holding ?_
  exact wpAny_bind (wpAny_pure (wpAny_bind (wpAny_pure (wpAny_pure hq))))
 | cons x xs=>
  rw[star_of fun y p h=>by rw[h]at hn;exact bff hn]at h ⊢
  exact Calls.evalArgs_plain h
theorem fun_code {c:Nat}{x:Str}(h:funTab[c]?=some x):methOf c=none:=by
 have hc:c < 74:=(List.getElem?_eq_some_iff.mp h).1
 have:∀c < 74,methOf c=none:=by decide
 exact this c hc
theorem code_get {t:List Str}{x:Str}{c:Nat}(h:codeOf t x=some c):t[c]?=some x:=by
 obtain⟨h1,h2,-⟩:=List.findIdx?_eq_some_iff_getElem.mp h
 rw[List.getElem?_eq_getElem h1,beq_iff_eq.mp h2]
theorem call_known (fx:Fx U n Φ) {f:Nat}{a:Addr}(ha:fnAddr U.K f=some a) {args:List Value}{vs:List V}{Q:Post}(hA:Room n A) (hr:HRel U s.heap μ σ) (r:RepVs U s.heap μ args vs) (e:Φ f vs σ Q) :
  wpAny (model U.p U.w) A (call (.ref a) args) (Res U s μ Q) E s:=by
 refine wpAny_call (codeAny_mono (fx.calls f a ha hA hr r e) fun r s' z=>?_)
 rcases r with e | (v | _ | _ | _) <;> first | exact z.elim | exact z
theorem tc_weight (C:Addr) (rest:List Value):(Code.builtin "type.__call__" ⟨.ref C :: rest,[]⟩).weight=1∧(Code.builtin "type.__call__" ⟨.ref C :: rest,[]⟩).cUnits=1:=⟨by kernel_rfl,by kernel_rfl⟩
theorem RoomE.under (x:RoomE n A) (C:Addr) (rest:List Value):Room n (A.under (.builtin "type.__call__" ⟨.ref C :: rest,[]⟩)):=by
 obtain⟨h1,h2⟩:=tc_weight C rest
 exact⟨x.handled,by show A.depth+_+_+_≤_;rw[h1,Nat.add_right_comm A.depth 1];exact Nat.le_trans (Nat.add_le_add_left (by decide:11≤12) _) x.depth,by show A.units+_+_+_ < _;rw[h2,Nat.add_right_comm A.units 1];exact Nat.lt_of_le_of_lt (Nat.add_le_add_left (by decide:41≤44) _) x.units⟩
theorem new_sound (fx:Fx U n Φ) {c:Nat}{x:Str}{C i:Addr}(hx:clsTab[c]?=some x) (hC:nsIn U.K mainGlobals x=some (some (.ref C))) (hi:fnAddr U.K (initFn c)=some i) (hf:findIn U.K (.ref C) "__init__"=some (some (.ref i))) (ht:typeIn U.K (.ref i)=some (.type "function"))
  {args:List Value} {vs:List V} {Q:Post} (hA:RoomE n A) (hr:HRel U s.heap μ σ) (r:RepVs U s.heap μ args vs)
  (e:Φ (initFn c) (.loc (σ.length+1) :: vs) (σ++[.ns [],.inst c σ.length]) fun r σ'=>r = .none∧Q (.loc (σ.length+1)) σ') :
  wpAny (model U.p U.w) A (call (.ref C) args) (Res U s μ Q) E s:=by
 have hc:clsAt U.K c=some C:=by unfold clsAt;rw[hx];simp only[Option.bind_some,hC]
 obtain⟨k1,-⟩:=clsOk_of (fx.cls c C hc) hc
 have X:=fx.Xs hr
 refine wpAny_call ?_
 obtain⟨hh,g,d,t,os⟩:=s
 refine make_core (makes_of X k1) (looks_findIn X hf) (fun self=>bind_fn X self ht) (.inl rfl) ?_
 have st1:Step U ⟨hh,g,d,t,os⟩ μ ⟨hh.push emptyDict,g,d,t,os⟩ (μ++[hh.objs.size]) (σ++[.ns []]):=
  Step.push (s:=⟨hh,g,d,t,os⟩) (t:=t) hr (ob:=emptyDict) (o:=.ns []) ⟨#[],0,rfl,.nil,List.nodup_nil⟩
 have hd:(μ++[hh.objs.size])[σ.length]?=some hh.objs.size:=by rw[←hr.len];simp
 have st2:Step U ⟨hh.push emptyDict,g,d,t,os⟩ (μ++[hh.objs.size]) ⟨(hh.push emptyDict).push (instObj C hh.objs.size),g,d,t,os⟩ (μ++[hh.objs.size]++[(hh.push emptyDict).objs.size]) (σ++[.ns []]++[.inst c σ.length]):=
  Step.push (s:=⟨hh.push emptyDict,g,d,t,os⟩) (t:=t) st1.hrel (ob:=instObj C hh.objs.size) (o:=.inst c σ.length) ⟨_,C,pre_get (List.prefix_append _ _) hd,hc,rfl⟩
 have st:=st1.trans st2
 have hsz:(hh.push emptyDict).objs.size=hh.objs.size+1:=Heap.size_push ..
 have self:RepV U ((hh.push emptyDict).push (instObj C hh.objs.size)) (μ++[hh.objs.size]++[(hh.push emptyDict).objs.size]) (.ref (hh.objs.size+1)) (.loc (σ.length+1)):=.loc (by rw[hsz,←hr.len];simp)
 have hl:σ++[O.ns []]++[O.inst c σ.length]=σ++[.ns [],.inst c σ.length]:=by simp
 rw[hl]at st
 refine codeAny_mono (fx.calls _ i hi (hA.under _ _) st.hrel (.cons self (r.mono (hr.tupKeep st.keep) st.pre)) e) fun r s' z=>?_
 rcases r with e | (v | _ | _ | _) <;> first | exact z.elim | skip
 refine Classical.byContradiction fun kk=>?_
 obtain⟨u,μ',σ',st',rv,rfl,q⟩:=z
 refine kk ?_
 refine⟨repV_none rv,_,μ',σ',st.trans st',self.mono (st.hrel.tupKeep st'.keep) st'.pre,q⟩
theorem Call_one {x:PySem.Expr}{pos:Pos}{f:Value}(hx:notStar x=true) {Q:Args→Shared→Prop}(h:wpAny (model U.p U.w) A (eval x env) (fun v s'=>Q ⟨[v],[]⟩ s') E s):wpAny (model U.p U.w) A (evalArgs f true (backTo pos (starEach [x] env)) []) Q E s:=
 evalArgs_any (by simp[hx]) (wpAny_items_cons (wpAny_mono h (fun v s₁ q=>wpAny_items_nil q) fun Z Z e=>e) (star_of fun y p h=>by rw[h]at hx;exact bff hx))
theorem se_call_name (fx:Fx U n Φ) {g:Str}{q pos:Pos}{es:List PySem.Expr}(ih:∀e∈es,SE U n Φ e):SE U n Φ (.Call (.Name g q) es [] pos):=by
 intro A E F env G ρ s μ σ Q hA en hr e
 obtain⟨hcond,e⟩:=ifm_inv e
 simp only[Bool.and_eq_true]at hcond
 obtain⟨⟨hlen,hns⟩,hdb⟩:=hcond
 have hdb':(g==("__debug__":Str))=false:=by simpa using hdb
 obtain⟨hg,e⟩:=ifm_inv e
 have hk:G.kinds.lookup g=some .globalImplicit:=by simpa[isGlob] using hg
 cases hc:codeOf funTab g with
 | some c=>
  rw[hc]at e
  obtain⟨a,h1,h2⟩:=fx.funs c g (code_get hc)
  refine Call_Name rfl (loadG en hr fx.gl hdb' hk h1 (callWith_of (P:=fun h=>U.K.In h) (by rw[plain_args' hns];rfl) (keeps_K h2) (evalArgs_any hns ?_)))
  refine ResL.bind (args_sound ih hA en hr e) fun vs us s₁ μ₁ σ₁ st r q'=>⟨fx.Xs st.hrel,?_⟩
  exact wpAny_mono (call_known fx (by unfold fnAddr;rw[fun_code (code_get hc),code_get hc];simp only[Option.map_some,h1]) hA.room st.hrel r q') (fun Z Z z=>Res.trans st z) fun Z Z e=>e
 | none=>
  rw[hc]at e
  have e:wpE Φ (callCl (codeOf clsTab g) g ((compEs G es).map (·.1))) ρ σ Q:=e
  cases hc:codeOf clsTab g with
  | some c=>
   rw[hc]at e
   obtain⟨C,i,h1,h2,h3,h4,h5⟩:=fx.clss c g (code_get hc)
   refine Call_Name rfl (loadG en hr fx.gl hdb' hk h1 (callWith_of (P:=fun h=>U.K.In h) (by rw[plain_args' hns];rfl) (keeps_K h2) (evalArgs_any hns ?_)))
   refine ResL.bind (args_sound ih hA en hr e) fun vs us s₁ μ₁ σ₁ st r q'=>⟨fx.Xs st.hrel,?_⟩
   exact wpAny_mono (new_sound fx (code_get hc) h1 h3 h4 h5 hA st.hrel r q') (fun Z Z z=>Res.trans st z) fun Z Z e=>e
  | none=>
   rw[hc]at e
   rcases es with _ | ⟨x,_ | ⟨_,_⟩⟩
   ·exact(stuckE e).elim
   ·have hnx:notStar x=true:=by simpa using hns
    have e:wpE Φ (callB1 (g==("len":Str)) (g==("list":Str)) (g==("tuple":Str)) (compE G x).1) ρ σ Q:=e
    cases hgl:(g==("len":Str)) with
    | true=>
     rw[hgl]at e
     have hgl:=beq_iff_eq.mp hgl
     subst hgl
     refine Call_Name rfl (loadB en hr fx.gl hdb' hk fx.noB.1 (val:=.builtin "len") (fun mb Z Z=>Calls.callWith_builtin (plain_args' hns) (Call_one hnx ?_)) fun mb h=>h.1)
     refine Res.bind (ih x (.head _) hA en hr e) fun v u s₁ μ₁ σ₁ st rv q'=>?_
     obtain⟨hvs,q'⟩:=q'
     exact wpAny_mono (len_sound st.hrel rv hvs q'.1 q'.2) (fun Z Z z=>Res.trans st z) fun Z Z e=>e
    | false=>
     rw[hgl]at e
     cases hgl:(g==("list":Str)) with
     | true=>
      rw[hgl]at e
      have hgl:=beq_iff_eq.mp hgl
      subst hgl
      refine Call_Name rfl (loadB en hr fx.gl hdb' hk fx.noB.2.1 (val:=.type "list") (fun mb Z Z=>PyProof.Rows.callWith_type (plain_args' hns) (Call_one hnx ?_)) fun mb h=>h.2.1)
      refine Res.bind (ih x (.head _) hA en hr e) fun v u s₁ μ₁ σ₁ st rv q'=>?_
      obtain⟨hvs,q'⟩:=q'
      exact wpAny_mono (listOf_sound hA.handled st.hrel rv hvs q'.1 q'.2) (fun Z Z z=>Res.trans st z) fun Z Z e=>e
     | false=>
      rw[hgl]at e
      cases hgl:(g==("tuple":Str)) with
      | true=>
       rw[hgl]at e
       have hgl:=beq_iff_eq.mp hgl
       subst hgl
       refine Call_Name rfl (loadB en hr fx.gl hdb' hk fx.noB.2.2.1 (val:=.type "tuple") (fun mb Z Z=>PyProof.Rows.callWith_type (plain_args' hns) (Call_one hnx ?_)) fun mb h=>h.2.2.1)
       refine Res.bind (ih x (.head _) hA en hr e) fun v u s₁ μ₁ σ₁ st rv q'=>?_
       exact wpAny_mono (tupOf_sound st.hrel (fx.Xs st.hrel) rv q') (fun Z Z z=>Res.trans st z) fun Z Z e=>e
      | false=>rw[hgl]at e;exact(stuckE e).elim
   ·exact(stuckE e).elim
end
section
variable {U:Bx}{h:Heap}{μ:List Addr}{σ:Store}{s:Shared}{A:Around}{E:Value→Shared→Prop}{F:List Addr}{env:Env}{G:Cx}{ρ:Rho}{n:Nat}{Φ:Calls}
theorem methodCall_of {o:PySem.Expr}{x:Str}{apos pos:Pos}{ov:Value}{k:Nat}{args:List (Bool×Sem Value)}{Q:Value→Shared→Prop}(hf:methodCallForm k args []=true) (hp:(apos.endLine==pos.line)=true)
  (h:∀pl,wpAny (model U.p U.w) A (getMethod ov x pl) (fun fx s₁=>wpAny (model U.p U.w) A (callWith pos fx.1 fx.2 args []) Q E s₁) E s):wpAny (model U.p U.w) A (methodCall o x apos pos env ov k args []) Q E s:=by
 unfold methodCall
 rw[hf]
 refine wpAny_bind (wpAny_holding (wpAny_mono (h _) (fun fx s₁ h₁=>?_) fun Z Z e=>e))
 refine wpAny_bind ?_
 rw[show methodCallPos true o env apos pos=pure pos from if_pos hp]
 exact wpAny_pure h₁
theorem Call_attr {o:PySem.Expr}{x:Str}{apos pos:Pos}{es:List PySem.Expr}{Q:Value→Shared→Prop}(hs:∀q p,o≠.Call (.Name "super" q) [] [] p) (hlen:es.length≤20) (hns:es.all notStar=true) (hp:(apos.endLine==pos.line)=true)
  (h:wpAny (model U.p U.w) A (eval o env) (fun ov s₁=>∀pl,wpAny (model U.p U.w) A (getMethod ov x pl) (fun fx s₂=>wpAny (model U.p U.w) A (callWith pos fx.1 fx.2 (backTo pos (starEach es env)) []) Q E s₂) E s₁) E s) :
  wpAny (model U.p U.w) A (eval (.Call (.Attribute o x apos) es [] pos) env) Q E s:=by
 show wpAny _ _ (do
  let ov ←attributeBase o x env (eval o env)
  standAt apos.atName
  methodCall o x apos pos env ov (es.length+0) (backTo pos (starEach es env)) []) _ _ _
 rw[attrBase hs]
 refine wpAny_bind (wpAny_mono h (fun ov s₁ h₁=>wpAny_bind (wpAny_standAt (methodCall_of ?_ hp h₁))) fun Z Z e=>e)
 have h2:(backTo pos (starEach es env)).all (fun p=>!p.1)=true:=by
  have:=plain_args' (env:=env) (pos:=pos) hns
  rw[List.all_eq_not_any_not]
  simpa using this
 unfold methodCallForm
 simp only[h2,List.all_nil,List.isEmpty_nil,if_true,Bool.true_and,Nat.add_zero,decide_eq_true_eq]
 omega
theorem meth_names:∀x∈methTab,x∉fldTab:=by decide +kernel
theorem getL_none {es:List DictEntry}{fs:List (Nat×V)}{x:Str}(r:NsRel U h μ es fs) (hx:x∉fldTab):getL x es=some none:=by
 have:=r.1
 clear r
 induction this with
 | nil=>rfl
 | @cons e q es qs h1 _ ih=>
  obtain⟨s,t,a,b,c⟩:=h1
  have hk:e.key.isStr x=false:=by
   rw[a]
   cases q':(Value.str s t).isStr x with
   | false=>rfl
   | true=>exact absurd (isStr_iff.mp q'▸List.mem_of_getElem? b) hx
  have hr:e.refKey=false:=by simp[DictEntry.refKey,a]
  simp only[getL,List.find?_cons,hk,List.any_cons,hr,Bool.false_or]at ih ⊢
  exact ih
theorem listAt_eq {l:Nat}{vs:List V}(h:listAt σ l=some vs):σ[l]?=some (.list vs):=by
 cases seq_inv (v:=.loc l) h with
 | list h=>exact h
theorem dict_obj (hr:HRel U s.heap μ σ) (X:U.K.In s.heap) {x:Value}{v:V}(rx:RepV U s.heap μ x v) (e:isDict σ v=true):∃a o,x = .ref a∧s.heap.get? a=some o∧o.cls = .type "dict"∧o.dict=none:=by
 induction v using V.casesOn with
 | cd n=>
  refine Classical.byContradiction fun kk=>?_
  obtain⟨a,o,rfl,h1,h2,kvs,⟨es,ep,h3,_⟩,h4⟩:=repV_cd rx
  refine kk ?_
  exact⟨a,o,rfl,X _ _ h1,h3.1,h3.2.1⟩
 | loc l=>
  have e:(match σ[l]? with | some (.dI _) | some (.dS _) | some (.dT _)=>true | _=>false)=true:=e
  cases hl:σ[l]? with
  | none=>rw[hl]at e;exact bff e
  | some o=>
   rw[hl]at e
   obtain⟨a,ob,ha,g2,g3⟩:=hr.objv rx hl
   induction o with
   | dI=>obtain⟨kv,⟨es,ep,g3,_⟩,_⟩:=g3;exact⟨a,ob,rfl,g2,g3.1,g3.2.1⟩
   | dS=>obtain⟨kv,⟨es,ep,g3,_⟩,_⟩:=g3;exact⟨a,ob,rfl,g2,g3.1,g3.2.1⟩
   | dT=>obtain⟨kv,⟨es,ep,g3,_⟩,_⟩:=g3;exact⟨a,ob,rfl,g2,g3.1,g3.2.1⟩
   | _=>exact bff e
 | _=>exact bff e
theorem attr_stuck {m:Option Nat}{x:Str}{es:List ME}{Q:Post}(e:wpE Φ (callMe m x .stuck es) ρ σ Q):False:=by
 induction m with
 | some m=>exact e
 | none=>
  have e:wpE Φ (callAt (x==("append":Str)) (x==("pop":Str)) (x==("get":Str)) .stuck es) ρ σ Q:=e
  revert e
  cases(x==("append":Str)) with
  | true=>intro e;rcases es with _ | ⟨_,_ | ⟨_,_⟩⟩ <;> exact e
  | false=>cases(x==("pop":Str)) with
   | true=>intro e;rcases es with _ | ⟨_,_⟩ <;> exact e
   | false=>cases(x==("get":Str)) with
    | true=>intro e;rcases es with _ | ⟨_,_ | ⟨_,_ | ⟨_,_⟩⟩⟩ <;> exact e
    | false=>exact fun e=>e
theorem se_call_attr (fx:Fx U n Φ) {o:PySem.Expr}{x:Str}{apos pos:Pos}{es:List PySem.Expr}(ho:SE U n Φ o) (ih:∀e∈es,SE U n Φ e):SE U n Φ (.Call (.Attribute o x apos) es [] pos):=by
 intro A E F env G ρ s μ σ Q hA en hr e
 obtain⟨hcond,e⟩:=ifm_inv e
 simp only[Bool.and_eq_true,decide_eq_true_eq]at hcond
 obtain⟨⟨hlen,hns⟩,hpl⟩:=hcond
 have hsup':∀q p,o≠.Call (.Name "super" q) [] [] p:=by
  rintro q p rfl
  rw[super_stuck]at e
  exact attr_stuck e
 cases hm:codeOf methTab x with
 | some m=>
  have e:wpE Φ (callMe (codeOf methTab x) x (compE G o).1 ((compEs G es).map (·.1))) ρ σ Q:=e
  rw[hm]at e
  refine Call_attr hsup' hlen hns hpl (Res.bind (ho hA en hr e) fun v u s₁ μ₁ σ₁ st rv q pl=>?_)
  refine Classical.byContradiction fun kk=>?_
  obtain⟨hl,hd,hmf,q⟩:=q
  obtain⟨C,x',a,h1,h2,h3,h4,h5,h6⟩:=fx.meths c m f hmf
  have hxx:=code_get hm
  rw[hxx]at h2;cases h2
  obtain⟨ad,dx,C',ees,mm,ha,g2,g3,g4,g5,g6,I⟩:=st.hrel.instv rv hl hd
  rw[h1]at g3;cases g3
  obtain⟨k1,k2,k3,k4,k5,k6⟩:=clsOk_of (fx.cls c C h1) h1
  refine kk ?_
  refine method_fn (fx.Xs st.hrel) I k5.1 k5.2 h3 (beq_iff_eq.mp h5) (by show(lookIn x (dictOf ees.toList mm)).map _=_;rw[lookIn_dict,getL_none g6 (meth_names x (List.mem_of_getElem? hxx))];rfl) ?_
  refine callWith_of (P:=fun h=>U.K.In h) (by rw[plain_args' hns];rfl) (keeps_K h6) (evalArgs_any hns (ResL.bind (args_sound ih hA (en.step hr st) st.hrel q) fun vs us s₂ μ₂ σ₂ st' r q'=>⟨fx.Xs st'.hrel,?_⟩))
  exact wpAny_mono (call_known fx h4 hA.room st'.hrel (.cons (rv.mono (st.hrel.tupKeep st'.keep) st'.pre) r) q') (fun Z Z z=>Res.trans (st.trans st') z) fun Z Z e=>e
 | none=>
  have e:wpE Φ (callMe (codeOf methTab x) x (compE G o).1 ((compEs G es).map (·.1))) ρ σ Q:=e
  rw[hm]at e
  have e:wpE Φ (callAt (x==("append":Str)) (x==("pop":Str)) (x==("get":Str)) (compE G o).1 ((compEs G es).map (·.1))) ρ σ Q:=e
  cases hx:(x==("append":Str)) with
  | true=>
   rw[hx]at e
   have hx:=beq_iff_eq.mp hx
   subst hx
   rcases es with _ | ⟨y,_ | ⟨_,_⟩⟩
   ·exact(stuckE e).elim
   ·refine Call_attr hsup' hlen hns hpl (Res.bind (ho hA en hr e) fun v u s₁ μ₁ σ₁ st rv q pl=>?_)
    obtain⟨l,rfl⟩:∃l,u = .loc l:=by induction u using V.casesOn <;> first | exact⟨_,rfl⟩ | exact q.elim
    obtain⟨hs1,q⟩:=q
    obtain⟨vs0,hv0⟩:=Option.isSome_iff_exists.mp hs1
    obtain⟨ad,items,nn,ha,g2,g3⟩:=st.hrel.listv rv (listAt_eq hv0)
    refine Calls.getMethod_list_append g2 rfl rfl (Calls.callWith_builtin (plain_args' hns) (Call_one (by simpa using hns) (Res.bind (ih y (.head _) hA (en.step hr st) st.hrel q) fun b ub s₂ μ₂ σ₂ st' rb q'=>?_)))
    obtain⟨hvs,q1,q'⟩:=q'
    exact wpAny_mono (append_sound st'.hrel (rv.mono (st.hrel.tupKeep st'.keep) st'.pre) hvs rb q1 q') (fun Z Z z=>Res.trans (st.trans st') z) fun Z Z e=>e
   ·exact(stuckE e).elim
  | false=>
   rw[hx]at e
   cases hx:(x==("pop":Str)) with
   | true=>
    rw[hx]at e
    have hx:=beq_iff_eq.mp hx
    subst hx
    induction es with
    | cons=>exact(stuckE e).elim
    | nil=>
     refine Call_attr hsup' hlen hns hpl (Res.bind (ho hA en hr e) fun v u s₁ μ₁ σ₁ st rv q pl=>?_)
     refine Classical.byContradiction fun kk=>?_
     obtain⟨hvs,hz,hy,q⟩:=q
     obtain⟨ad,items,nn,ha,g2,g3⟩:=st.hrel.listv rv hvs
     refine kk ?_
     refine getMethod_builtin (T:="list") ⟨_,g2,rfl⟩ PySem.F.plainAttrs_list PySem.F.slot_list_pop PySem.F.type_list_pop (fun a ha=>by cases ha;exact⟨_,g2,rfl⟩) ?_
     refine Calls.callWith_builtin rfl (evalArgs_nil3 ?_)
     exact wpAny_mono (pop_sound st.hrel rv hvs hy hz q) (fun Z Z z=>Res.trans st z) fun Z Z e=>e
   | false=>
    rw[hx]at e
    cases hx:(x==("get":Str)) with
    | false=>rw[hx]at e;exact(stuckE e).elim
    | true=>
     rw[hx]at e
     have hx:=beq_iff_eq.mp hx
     subst hx
     rcases es with _ | ⟨y,_ | ⟨z,_ | ⟨_,_⟩⟩⟩
     ·exact(stuckE e).elim
     ·refine Call_attr hsup' hlen hns hpl (Res.bind (ho hA en hr e) fun v u s₁ μ₁ σ₁ st rv q pl=>?_)
      obtain⟨hd,q⟩:=q
      obtain⟨ad,ob,rfl,g2,g3,g4⟩:=dict_obj st.hrel (fx.Xs st.hrel) rv hd
      refine getMethod_builtin (T:="dict") ⟨_,g2,g3⟩ PySem.F.plainAttrs_dict PySem.F.slot_dict_get PySem.F.type_dict_get (fun a ha=>by cases ha;exact⟨_,g2,g4⟩) ?_
      refine Calls.callWith_builtin (plain_args' hns) (Call_one (by simpa using hns) (Res.bind (ih y (.head _) hA (en.step hr st) st.hrel q) fun b ub s₂ μ₂ σ₂ st' rb q'=>?_))
      refine Classical.byContradiction fun kk=>?_
      obtain⟨hlk,q'⟩:=q'
      refine kk ?_
      exact wpAny_mono (get1_sound hA.u st'.hrel (fx.Xs st'.hrel) (rv.mono (st.hrel.tupKeep st'.keep) st'.pre) rb hlk q') (fun Z Z z=>Res.trans (st.trans st') z) fun Z Z e=>e
     ·refine Call_attr hsup' hlen hns hpl (Res.bind (ho hA en hr e) fun v u s₁ μ₁ σ₁ st rv q pl=>?_)
      obtain⟨hd,q⟩:=q
      obtain⟨ad,ob,rfl,g2,g3,g4⟩:=dict_obj st.hrel (fx.Xs st.hrel) rv hd
      have hns1:notStar y=true∧notStar z=true:=by simpa using hns
      have star:∀{y:PySem.Expr},notStar y=true→∀y' p,y≠.Starred y' p:=fun hy y' p h=>by rw[h]at hy;exact bff hy
      refine getMethod_builtin (T:="dict") ⟨_,g2,g3⟩ PySem.F.plainAttrs_dict PySem.F.slot_dict_get PySem.F.type_dict_get (fun a ha=>by cases ha;exact⟨_,g2,g4⟩) ?_
      refine Calls.callWith_builtin (plain_args' hns) (evalArgs_any hns (wpAny_items_cons (Res.bind (ih y (.head _) hA (en.step hr st) st.hrel q) fun b ub s₂ μ₂ σ₂ st' rb q'=>
       wpAny_items_cons (Res.bind (ih z (.tail _ (.head _)) hA ((en.step hr st).step st.hrel st') st'.hrel q') fun b' ub' s₃ μ₃ σ₃ st'' rb' q''=>wpAny_items_nil ?_) (star_of (star hns1.2))) (star_of (star hns1.1))))
      obtain⟨hlk,q''⟩:=q''
      have tk2:=st'.hrel.tupKeep st''.keep
      exact wpAny_mono (get2_sound hA.u st''.hrel (fx.Xs st''.hrel) ((rv.mono (st.hrel.tupKeep st'.keep) st'.pre).mono tk2 st''.pre) (rb.mono tk2 st''.pre) rb' hlk q'') (fun Z Z z=>Res.trans ((st.trans st').trans st'') z) fun Z Z e=>e
     ·exact(stuckE e).elim
end
section
variable {U:Bx}{h h':Heap}{μ:List Addr}{σ:Store}{s s':Shared}{A:Around}{E:Value→Shared→Prop}{F:List Addr}{env:Env}{G:Cx}{ρ:Rho}{n:Nat}{Φ:Calls}
noncomputable def flat:List (Value×Value)→List Value
 | []=>[]
 | p :: r=>p.1 :: p.2 :: flat r
theorem pairs_sound {keys:List (Option PySem.Expr)}(hA:RoomE n A):∀{values:List PySem.Expr}(hk:∀k∈keys,∀e,k=some e→SE U n Φ e) (hv:∀e∈values,SE U n Φ e) (hall:keys.all (·.isSome)=true) (hl:keys.length=values.length)
  {pos:Pos} {s:Shared} {μ:List Addr} {σ:Store} {Q:List V→Store→Prop} (en:EnvR U F env G s.heap μ ρ) (hr:HRel U s.heap μ σ) (e:wpEs Φ (zipKV (compOpts G keys) ((compEs G values).map (·.1))) ρ σ Q),
  wpAny (model U.p U.w) A (evalPairs (pairTrees keys values env pos)) (fun ps s'=>ResL U s μ Q (flat ps) s') E s:=by
 induction keys with
 | nil=>
  intro values hk hv hall hl pos s μ σ Q en hr e
  induction values with
  | nil=>exact evalPairs_nil ⟨[],μ,σ,Step.refl hr,.nil,e⟩
  | cons=>exact absurd hl (Nat.succ_ne_zero _).symm
 | cons k ks ih=>
  intro values hk hv hall hl pos s μ σ Q en hr e
  induction values with
  | nil=>exact absurd hl (Nat.succ_ne_zero _)
  | cons v vs _=>
   induction k with
   | none=>exact bff hall
   | some k=>
    refine evalPairs_cons (Res.bind (hk _ (.head _) k rfl hA en hr e) fun a ua s₁ μ₁ σ₁ st ra q=>?_)
    refine wpAny_bind (Res.bind (hv v (.head _) hA (en.step hr st) st.hrel q) fun b ub s₂ μ₂ σ₂ st' rb q'=>wpAny_bind (wpAny_standAt (wpAny_pure ?_)))
    have st2:=st.trans st'
    refine wpAny_mono (ih (fun k h=>hk k (.tail _ h)) (fun e h=>hv e (.tail _ h)) hall (Nat.succ.inj hl) (en.step hr st2) st2.hrel q') (fun ps s₃ z=>?_) fun Z Z e=>e
    obtain⟨us,μ₃,σ₃,st3,r3,q3⟩:=z
    have tk:=st2.hrel.tupKeep st3.keep
    exact⟨_,μ₃,σ₃,st2.trans st3,.cons ((ra.mono (st.hrel.tupKeep st'.keep) st'.pre).mono tk st3.pre) (.cons (rb.mono tk st3.pre) r3),q3⟩
theorem stored_new {κ:Type} [DecidableEq κ] {kvs:List (κ×Value)}{k:κ}{v:Value}(h:k∉kvs.map (·.1)):stored kvs k v=kvs++[(k,v)]:=by
 unfold stored
 rw[if_neg]
 rw[List.any_eq_true]
 rintro⟨p,hp,e⟩
 exact h (List.mem_map.mpr ⟨p,hp,of_decide_eq_true e⟩)
theorem storeAll_at {κ:Type} [DecidableEq κ] {knd:KeyKind U.p U.w κ}{d:Addr}{ps:List (Value×Value)}{kvs:List (κ×Value)}(hc:All2 (fun p q=>knd.is q.1 p.1=true∧p.2=q.2) ps kvs) :
  ∀{acc:List (κ×Value)} {s:Shared} {Q:PUnit→Shared→Prop},s.heap.DictAt knd d acc acc.length →
  ((acc++kvs).map (·.1)).Nodup→acc.length+kvs.length≤sizeLine→(∀h' t,h'.DictAt knd d (acc++kvs) (acc++kvs).length→Heap.SameBut d s.heap h'→Q PUnit.unit { s with heap:=h',toks:=t }) →
  wpAny (model U.p U.w) A (storeAll d ps) Q E s:=by
 induction hc with
 | nil=>
  intro acc s Q hm _ _ hQ
  unfold storeAll
  rw[List.forIn_nil]
  exact wpAny_pure (by simpa using hQ s.heap s.toks (by simpa using hm) (Heap.SameBut.refl _ _))
 | @cons p q ps kvs h12 hc ih=>
  intro acc s Q hm hn hz hQ
  obtain⟨h1,h2⟩:=h12
  unfold storeAll
  rw[List.forIn_cons]
  have hnot:q.1∉acc.map (·.1):=by
   rw[List.map_append,List.nodup_append]at hn
   exact fun hm=>hn.2.2 q.1 hm q.1 (by simp) rfl
  rw[List.length_cons]at hz
  refine wpAny_bind (wpAny_bind (dictSet_at h1 hm (fun h₁ hm₁ hs₁=>wpAny_pure ?_) (by lia)))
  rw[stored_new hnot,h2]at hm₁
  have:=ih (acc:=acc++[(q.1,q.2)]) (s:={ s with heap:=h₁,toks:=s.toks+1 }) (Q:=Q) hm₁ (by simpa using hn) (by rw[List.length_append,List.length_singleton];lia) (fun h' t hd hs'=>hQ h' t (by simpa using hd) (hs₁.trans hs'))
  exact this
theorem late_push {D:Addr}{ob ob':Obj}{o:O}{s₁:Shared}{μ₁:List Addr}{σ₁:Store}{t:Nat}(hr:HRel U s.heap μ σ) (hD:D=s.heap.objs.size) (hob:ob.cls≠.type "tuple") (hfr:ob.isFreed=false)
  (st:Step U { s with heap:=s.heap.push ob } μ s₁ μ₁ σ₁) (sb:Heap.SameBut D s₁.heap h') (hg:h'.get? D=some ob') (r:TupKeep s₁.heap h'→ORel U h' (μ₁++[D]) ob' o) :
  Step U s μ { s₁ with heap:=h',toks:=t } (μ₁++[D]) (σ₁++[o]):=by
 subst hD
 have e0:(s.heap.push ob).get? s.heap.objs.size=some ob:=Heap.get?_push_size _ hfr
 have e1:s₁.heap.get? s.heap.objs.size=some ob:=st.keep _ _ e0 hr.freshAt
 have hn1:s.heap.objs.size∉μ₁:=fun m=>by have:=st.new _ m hr.freshAt;rw[show({ s with heap:=s.heap.push ob }:Shared).heap.get? s.heap.objs.size=some ob from e0]at this;cases this
 obtain⟨hh,tt,ee⟩:=st.same
 refine⟨st.hrel.grow (fun b o e hne=>(sb.2 b hne).trans e) (fun o e=>by rw[e1]at e;cases e;exact fun z=>hob z.1) hn1 hr.sizeNone hr.sizeBig hg r,fun b o e m=>?_,st.pre.trans (List.prefix_append _ _),fun a m m'=>?_,h',t,?_⟩
 ·exact(sb.2 b (Heap.push_fresh e)).trans (st.keep b o (Heap.get?_push_of_some _ e) m)
 ·rcases List.mem_append.mp m with m | m
  ·have:=st.new a m m'
   cases q:s.heap.get? a with
   | none=>rfl
   | some o=>rw[show({ s with heap:=s.heap.push ob }:Shared).heap.get? a=some o from Heap.get?_push_of_some _ q]at this;cases this
  ·simp only[List.mem_singleton]at m;subst m;exact Heap.get?_size_none _
 ·rw[ee]
theorem dictI_inv {va vb:V}{us:List V}{l:List (Int×V)}(e:dictI (va :: vb :: us)=some l):∃i l',va = .int i∧dictI us=some l'∧(i,vb) :: l'=l:=by
 induction va using V.casesOn with
 | int i=>obtain⟨l',h1,h2⟩:=Option.map_eq_some_iff.mp e;exact⟨i,l',rfl,h1,h2⟩
 | _=>exact nS e
theorem dictS_inv {va vb:V}{us:List V}{l:List (Nat×V)}(e:dictS (va :: vb :: us)=some l):∃i l',va = .str i∧dictS us=some l'∧(i,vb) :: l'=l:=by
 induction va using V.casesOn with
 | str i=>obtain⟨l',h1,h2⟩:=Option.map_eq_some_iff.mp e;exact⟨i,l',rfl,h1,h2⟩
 | _=>exact nS e
theorem RepVs.two {x y:Value}{xs:List Value}{vs:List V}(r:RepVs U h μ (x :: y :: xs) vs):∃a b us,vs=a :: b :: us∧RepV U h μ x a∧RepV U h μ y b∧RepVs U h μ xs us:=by
 cases r with | cons a r=>cases r with | cons b r=>exact⟨_,_,_,rfl,a,b,r⟩
theorem dictI_all {ps:List (Value×Value)}:∀{vs:List V}{l:List (Int×V)}(r:RepVs U h μ (flat ps) vs) (e:dictI vs=some l),
  ∃kv:List (Int×Value),All2 (fun p q=>(intKind U.p U.w).is q.1 p.1=true∧p.2=q.2) ps kv∧All2 (fun p q=>p.1=q.1∧RepV U h μ p.2 q.2) kv l:=by
 induction ps with
 | nil=>intro vs l r e;cases r;cases e;exact⟨[],.nil,.nil⟩
 | cons p ps ih=>
  intro vs l r e
  refine Classical.byContradiction fun kk=>?_
  obtain⟨va,vb,us,rfl,a,b,r'⟩:=RepVs.two r
  obtain⟨i,l',rfl,e1,rfl⟩:=dictI_inv e
  obtain⟨kv,h1,h2⟩:=ih r' e1
  obtain⟨t,ht⟩:=isInt_eq (repV_int a)
  refine kk ?_
  exact⟨(_,p.2) :: kv,.cons ⟨by rw[ht];simp[intKind,Value.isInt],rfl⟩ h1,.cons ⟨rfl,b⟩ h2⟩
theorem dictS_all {ps:List (Value×Value)}:∀{vs:List V}{l:List (Nat×V)}(r:RepVs U h μ (flat ps) vs) (e:dictS vs=some l),
  ∃kv:List (Str×Value),All2 (fun p q=>(PySem.strKind U.p U.w).is q.1 p.1=true∧p.2=q.2) ps kv∧All2 (fun p q=>strTab[q.1]?=some p.1∧RepV U h μ p.2 q.2) kv l:=by
 induction ps with
 | nil=>intro vs l r e;cases r;cases e;exact⟨[],.nil,.nil⟩
 | cons p ps ih=>
  intro vs l r e
  refine Classical.byContradiction fun kk=>?_
  obtain⟨va,vb,us,rfl,a,b,r'⟩:=RepVs.two r
  obtain⟨i,l',rfl,e1,rfl⟩:=dictS_inv e
  obtain⟨kv,h1,h2⟩:=ih r' e1
  obtain⟨x,t,ht,hx⟩:=isStr_eq (repV_str a)
  refine kk ?_
  exact⟨(x,p.2) :: kv,.cons ⟨by rw[ht];simp[PySem.strKind,Value.isStrOf],rfl⟩ h1,.cons ⟨hx,b⟩ h2⟩
theorem strs_nodup {kv:List (Str×Value)}{l:List (Nat×V)}(r:All2 (fun p q=>strTab[q.1]?=some p.1∧RepV U h μ p.2 q.2) kv l) (hn:(l.map (·.1)).Nodup):(kv.map (·.1)).Nodup:=by
 induction r with
 | nil=>exact List.nodup_nil
 | @cons p q ps qs a r' ih=>
  rw[List.map_cons,List.nodup_cons]at hn ⊢
  refine⟨fun hm=>hn.1 ?_,ih hn.2⟩
  obtain⟨p',hp',e⟩:=List.mem_map.mp hm
  clear ih hm hn
  induction r' with
  | nil=>cases hp'
  | @cons p₁ q₁ ps₁ qs₁ a₁ _ ih=>
   rcases List.mem_cons.mp hp' with rfl | hp'
   ·rw[List.map_cons]
    rw[strTab_inj q.1 q₁.1 p.1 a.1 (by rw[←e];exact a₁.1)]
    exact .head _
   ·exact .tail _ (ih hp')
theorem ints_keys {kv:List (Int×Value)}{l:List (Int×V)}(r:All2 (fun p q=>p.1=q.1∧RepV U h μ p.2 q.2) kv l):kv.map (·.1)=l.map (·.1):=by
 induction r with
 | nil=>rfl
 | cons a _ ih=>rw[List.map_cons,List.map_cons,ih,a.1]
theorem se_dict0 {sort:Nat}{p:Pos}{Q:Post}(hr:HRel U s.heap μ σ) (e:dictR sort [] σ Q):wpAny (model U.p U.w) A (eval (.Dict [] [] p) env) (Res U s μ Q) E s:=by
 refine wpAny_Dict_empty ?_
 have fin:∀o:O,ORel U (s.heap.push { cls:=.type "dict",data:=.dict #[] }) (μ++[s.heap.objs.size]) { cls:=.type "dict",data:=.dict #[] } o→Q (.loc σ.length) (σ++[o]) →
   Res U s μ Q (.ref s.heap.objs.size) { s with heap:=s.heap.push { cls:=.type "dict",data:=.dict #[] } }:=fun o r q=>
  Res.mk (v:=.loc σ.length) (Step.push (t:=s.toks) hr r) (.loc (by rw[←hr.len];simp)) q
 cases e with
 | int h1 h h2 e=>cases h;exact fin (.dI []) ⟨[],⟨#[],0,⟨rfl,rfl,rfl⟩,rfl,(fun Z he=>by simp at he),Pairs.nil,List.nodup_nil⟩,⟨#[],rfl⟩,.nil⟩ e
 | str h1 h h2 e=>cases h;exact fin (.dS []) ⟨[],⟨#[],0,⟨rfl,rfl,rfl⟩,rfl,(fun Z he=>by simp at he),Pairs.nil,List.nodup_nil⟩,.nil⟩ e
 | tup e=>exact fin (.dT []) ⟨[],⟨#[],0,⟨rfl,rfl,rfl⟩,rfl,rfl,(fun Z he=>by simp at he),List.nodup_nil⟩,.nil⟩ e
theorem se_dict {keys:List (Option PySem.Expr)}{values:List PySem.Expr}{p:Pos}(hk:∀k∈keys,∀e,k=some e→SE U n Φ e) (hv:∀e∈values,SE U n Φ e):SE U n Φ (.Dict keys values p):=by
 intro A E F env G ρ s μ σ Q hA en hr e
 obtain⟨hc,e⟩:=ifm_inv e
 simp only[Bool.and_eq_true,decide_eq_true_eq,beq_iff_eq]at hc
 obtain⟨⟨hl,hall⟩,h15⟩:=hc
 by_cases h0:keys=[]
 ·subst h0
  have:values=[]:=List.length_eq_zero_iff.mp hl.symm
  subst this
  exact se_dict0 hr e
 ·refine wpAny_Dict_any hall hl h0 h15 ?_
  have kp:∀b o,s.heap.get? b=some o→(s.heap.push { cls:=.type "dict",data:=.dict #[] }).get? b=some o:=fun b o e=>Heap.get?_push_of_some _ e
  have st0:Step U s μ { s with heap:=s.heap.push { cls:=.type "dict",data:=.dict #[] } } μ σ:=Step.keeps (t:=s.toks) hr kp
  refine wpAny_mono (pairs_sound hA hk hv hall hl (en.step hr st0) st0.hrel e) (fun ps s₁ z=>?_) fun Z Z e=>e
  obtain⟨us,μ₁,σ₁,st,r,q⟩:=z
  have e1:s₁.heap.get? s.heap.objs.size=some { cls:=.type "dict",data:=.dict #[] }:=st.keep _ _ (Heap.get?_push_size _ rfl) hr.freshAt
  have lenz:∀(m:Nat),m≤30→m≤sizeLine:=fun m hm=>by rw[sizeLine_eq];lia
  have q:dictR (sortOf keys) us σ₁ Q:=q
  generalize sortOf keys=so at q
  have h30:us.length≤30:=by induction q <;> first | assumption | exact Nat.zero_le _
  have hps:(flat ps).length≤30:=by rw[r.length];exact h30
  have hps2:ps.length≤(flat ps).length:=by
   clear hps r e
   induction ps with
   | nil=>simp[flat]
   | cons a b ih=>simp[flat];lia
  have fin:∀(h':Heap) (t:Nat) (ob:Obj) (o:O),Heap.SameBut s.heap.objs.size s₁.heap h'→h'.get? s.heap.objs.size=some ob→(TupKeep s₁.heap h'→ORel U h' (μ₁++[s.heap.objs.size]) ob o)→Q (.loc σ₁.length) (σ₁++[o]) →
    Res U s μ Q (.ref s.heap.objs.size) { s₁ with heap:=h',toks:=t }:=fun h' t ob o sb hg ro qq=>
   Res.mk (v:=.loc σ₁.length) (late_push hr rfl (ty_ne (by decide)) rfl st sb hg ro) (.loc (by rw[←st.hrel.len];simp)) qq
  induction q with
  | @int _ l _ hdl q1 q2=>
    obtain⟨kv,k1,k2⟩:=dictI_all r hdl
    have hlen:kv.length=ps.length:=k1.length.symm
    refine storeAll_at (knd:=intKind U.p U.w) k1 (acc:=[]) ⟨_,#[],e1,⟨rfl,rfl,rfl⟩,rfl,(fun Z he=>by simp at he),Pairs.nil,List.nodup_nil⟩ (by rw[List.nil_append,ints_keys k2];exact q1) (by simp only[List.length_nil];exact lenz _ (by lia)) fun h' t hd hs'=>?_
    rw[List.nil_append]at hd
    obtain⟨ob,g1,g2,g3⟩:=of_dictAt hd
    exact fin h' t ob (.dI l) hs' g1 (fun tk=>⟨kv,g2,g3,k2.mono fun Z Z zz=>by obtain⟨a,b⟩:=zz;exact⟨a,b.mono tk (List.prefix_append _ _)⟩⟩) q2
  | @str _ l _ hdl q1 q2=>
    obtain⟨kv,k1,k2⟩:=dictS_all r hdl
    have hlen:kv.length=ps.length:=k1.length.symm
    refine storeAll_at (knd:=PySem.strKind U.p U.w) k1 (acc:=[]) ⟨_,#[],e1,⟨rfl,rfl,rfl⟩,rfl,(fun Z he=>by simp at he),Pairs.nil,List.nodup_nil⟩ (by rw[List.nil_append];exact strs_nodup k2 q1) (by simp only[List.length_nil];exact lenz _ (by lia)) fun h' t hd hs'=>?_
    rw[List.nil_append]at hd
    obtain⟨ob,g1,g2,g3⟩:=of_dictAt hd
    exact fin h' t ob (.dS l) hs' g1 (fun tk=>⟨kv,g2,k2.mono fun Z Z zz=>by obtain⟨a,b⟩:=zz;exact⟨a,b.mono tk (List.prefix_append _ _)⟩⟩) q2
  | tup q3=>
   induction ps with
    | nil=>
     unfold storeAll
     rw[List.forIn_nil]
     exact wpAny_pure (fin s₁.heap s₁.toks _ (.dT []) (Heap.SameBut.refl _ _) e1 (fun tk=>⟨[],⟨#[],0,⟨rfl,rfl,rfl⟩,rfl,rfl,(fun Z he=>by simp at he),List.nodup_nil⟩,.nil⟩) q3)
    | cons a b=>cases r
end
section
variable {U:Bx}{h h':Heap}{μ μ' μ₁:List Addr}{σ σ' σ₁:Store}{s s' s₁:Shared}{A:Around}{E:Value→Shared→Prop}{F:List Addr}{env:Env}{G:Cx}{ρ:Rho}{n:Nat}
noncomputable def AllBut (I:Addr) (h h':Heap):Prop:=∀b o,b≠I→h.get? b=some o→h'.get? b=some o
theorem AllBut.of_same {I:Addr}(x:Heap.SameBut I h h'):AllBut I h h':=fun b o hb e=>(x.2 b hb).trans e
theorem HRel.ext (x:HRel U h μ σ) {I:Addr}(o:Own U.hb h μ I) (k:AllBut I h h'):HRel U h' μ σ:=by
 have tk:TupKeep h h':=fun a ob e c=>k a ob (fun q=>o.tup ob (q▸e) c) e
 refine⟨x.len,x.nodup,x.fresh,fun i a ob e1 e2=>?_,fun b ob e=>?_,x.sys,x.big⟩
 ·obtain⟨ob',h1,h2⟩:=x.obj i a ob e1 e2
  exact⟨ob',k a _ (fun q=>o.loc (q▸List.mem_of_getElem? e1)) h1,h2.mono tk (List.prefix_refl _)⟩
 ·exact k b ob (fun q=>by rw[q,o.base]at e;cases e) (x.base b ob e)
theorem Step.ext (x:Step U s μ s₁ μ₁ σ₁) {I:Addr}(o:Own U.hb s₁.heap μ₁ I) (hn:s.heap.get? I=none) (k:AllBut I s₁.heap h') {t:Nat}:Step U s μ { s₁ with heap:=h',toks:=t } μ₁ σ₁:=by
 refine Classical.byContradiction fun kk=>?_
 obtain⟨hh,tt,ee⟩:=x.same
 refine kk ?_
 refine⟨x.hrel.ext o k,fun b ob e m=>k b ob (fun q=>by rw[q,hn]at e;cases e) (x.keep b ob e m),x.pre,x.new,h',t,by rw[ee]⟩
theorem Own.step (o:Own U.hb s.heap μ F₀) (st:Step U s μ s' μ' σ'):Own U.hb s'.heap μ' F₀:=by
 obtain⟨ob,e⟩:=o.there
 have e':=st.keep _ _ e o.loc
 refine⟨fun m=>?_,o.base,⟨ob,e'⟩,fun ob' e''=>?_⟩
 ·have:=st.new _ m o.loc;rw[e]at this;cases this
 ·rw[e']at e'';cases e'';exact o.tup _ e
theorem Own.ext {I J:Addr}(o:Own U.hb h μ J) (hne:J≠I) (k:AllBut I h h'):Own U.hb h' μ J:=by
 obtain⟨ob,e⟩:=o.there
 refine⟨o.loc,o.base,⟨ob,k _ _ hne e⟩,fun ob' e'=>?_⟩
 rw[k _ _ hne e]at e';cases e';exact o.tup _ e
theorem EnvR.ext (x:EnvR U F env G h μ ρ) {I:Addr}(o:Own U.hb h μ I) (hF:I∉F) (hc:∀c v,CellAt h c v→c≠I) (k:AllBut I h h'):EnvR U F env G h' μ ρ:=by
 have tk:TupKeep h h':=fun a ob e c=>k a ob (fun q=>o.tup ob (q▸e) c) e
 refine⟨x.names,x.kind,x.glob,x.blt,fun a ha=>?_,x.locF,?_,fun y i hk hs=>?_,x.cinj,x.sinj,x.bound⟩
 ·obtain⟨h1,h2,⟨ob,h3⟩,h4⟩:=x.own a ha
  have hne:a≠I:=fun q=>hF (q▸ha)
  refine⟨h1,h2,⟨ob,k _ _ hne h3⟩,fun o' e=>?_⟩
  rw[k _ _ hne h3]at e;cases e;exact h4 _ h3
 ·refine Classical.byContradiction fun kk=>?_
  obtain⟨m,⟨ob,es,ep,ho,hn⟩,hl⟩:=x.locs
  refine kk ?_
  refine⟨m,⟨ob,es,ep,k _ _ (fun q=>hF (q▸x.locF)) ho,hn⟩,fun y i v a b c=>?_⟩
  refine Classical.byContradiction fun kk=>?_
  obtain⟨val,h1,h2⟩:=hl y i v a b c
  refine kk ?_
  exact⟨val,h1,h2.mono tk (List.prefix_refl _)⟩
 ·obtain⟨c,v₀,h1,h2,h3,h4,h5,h6⟩:=x.cells y i hk hs
  have hne:=hc c v₀ h2
  obtain⟨ob,h2,h2'⟩:=h2
  refine⟨c,v₀,h1,⟨ob,k _ _ hne h2,h2'⟩,h3,h4,h5,fun v e=>?_⟩
  obtain⟨val,e1,e2⟩:=h6 v e
  exact⟨val,e1,e2.mono tk (List.prefix_refl _)⟩
theorem EnvR.bindL (x:EnvR U F env G h μ ρ) {y:Str}{i:Nat}{v:V}{val:Value}(hk:G.kinds.lookup y=some .local) (hs:G.slot.lookup y=some i) (sb:Heap.SameBut env.locals h h')
  (hn:∀m,h.Ns env.locals m→h'.Ns env.locals (fun z=>if z=y then some val else m z)) (r:RepV U h' μ val v):EnvR U F env G h' μ (ρ.set i (some v)):=by
 have ow:=x.own _ x.locF
 have tk:TupKeep h h':=fun a ob e c=>(sb.2 a (fun q=>ow.tup ob (q▸e) c)).trans e
 obtain⟨m,hm,hl⟩:=x.locs
 have hm':=hn m hm
 have set_ne:∀{j:Nat} {u:V},j≠i→(ρ.set i (some v))[j]?=some (some u)→ρ[j]?=some (some u):=fun hne e=>by rwa [List.getElem?_set_ne (Ne.symm hne)]at e
 refine⟨x.names,x.kind,x.glob,x.blt,fun a ha=>?_,x.locF,⟨_,hm',fun z j u a b c=>?_⟩,fun z j hk' hs'=>?_,x.cinj,x.sinj,x.bound⟩
 ·obtain⟨h1,h2,⟨ob,h3⟩,h4⟩:=x.own a ha
  by_cases hne:a=env.locals
  ·subst hne
   obtain⟨o',es,ep,ho',hc',_⟩:=hm'
   refine⟨h1,h2,⟨o',ho'⟩,fun o'' e=>?_⟩
   rw[ho']at e;cases e
   rintro⟨-,its,k,e⟩
   rw[hc']at e;cases e
  ·refine⟨h1,h2,⟨ob,(sb.2 _ hne).trans h3⟩,fun o' e=>?_⟩
   rw[(sb.2 _ hne).trans h3]at e;cases e;exact h4 _ h3
 ·by_cases hz:z=y
  ·subst hz
   rw[hs]at b;cases b
   have:u=v:=by
    rw[List.getElem?_set_self']at c
    cases q:ρ[i]? with
    | none=>rw[q]at c;cases c
    | some _=>rw[q]at c;simpa using c.symm
   subst this
   exact⟨val,by simp,r⟩
  ·refine Classical.byContradiction fun kk=>?_
   have hne:j≠i:=fun q=>hz (x.sinj z y i (q▸b) hs)
   obtain⟨val',h1,h2⟩:=hl z j u a b (set_ne hne c)
   refine kk ?_
   exact⟨val',by simp[hz,h1],h2.mono tk (List.prefix_refl _)⟩
 ·refine Classical.byContradiction fun kk=>?_
  obtain⟨c,v₀,h1,⟨ob,h2,h2'⟩,h3,h4,h5,h6⟩:=x.cells z j hk' hs'
  have hne:j≠i:=fun q=>by
   have:z=y:=x.sinj z y i (q▸hs') hs
   subst this;rcases hk' with hk' | hk' <;> (rw[hk]at hk';cases hk')
  refine kk ?_
  refine⟨c,v₀,h1,⟨ob,(sb.2 _ h4).trans h2,h2'⟩,h3,h4,h5,fun u e=>?_⟩
  obtain⟨val',e1,e2⟩:=h6 u (set_ne hne e)
  exact⟨val',e1,e2.mono tk (List.prefix_refl _)⟩
inductive ItK | tup (t:Addr) | list (l:Nat) | dict (l:Nat)
noncomputable def ItSt (U:Bx) (k:ItK) (v:V) (I:Addr) (i:Nat) (items:List V) (h:Heap) (μ:List Addr):Prop:=
 match k with
 | .tup t=>v = .tup items∧h.IsTupleIter I t i∧∃its n,h.get? t=some ⟨.type "tuple",none,.seq its n,#[]⟩∧RepVs U h μ its.toList items
 | .list l=>v = .loc l∧∃a,μ[l]?=some a∧h.IsListIter I a i
 | .dict l=>v = .loc l∧∃a,μ[l]?=some a∧h.IsKeyIter I a i items.length items.length
theorem ItSt.data {k:ItK}{v:V}{I:Addr}{i:Nat}{items:List V}(x:ItSt U k v I i items h μ):∃o fs,h.get? I=some o∧o.data = .fields fs:=by
 induction k with
 | tup t=>obtain⟨-,⟨o,h1,-,h2⟩,-⟩:=x;exact⟨o,_,h1,h2⟩
 | list l=>obtain⟨-,a,-,o,h1,-,h2⟩:=x;exact⟨o,_,h1,h2⟩
 | dict l=>obtain⟨-,a,-,o,h1,-,h2⟩:=x;exact⟨o,_,h1,h2⟩
theorem ItSt.keep {k:ItK}{v:V}{I:Addr}{i:Nat}{items:List V}(x:ItSt U k v I i items h μ) (hI:∀o,h.get? I=some o→h'.get? I=some o) (tk:TupKeep h h') (p:μ <+:μ'):ItSt U k v I i items h' μ':=by
 induction k with
 | tup t=>obtain⟨e,⟨o,h1,h2⟩,its,m,h3,h4⟩:=x;exact⟨e,⟨o,hI _ h1,h2⟩,its,m,tk _ _ h3 ⟨rfl,_,_,rfl⟩,h4.mono tk p⟩
 | list l=>obtain⟨e,a,ha,o,h1,h2⟩:=x;exact⟨e,a,pre_get p ha,o,hI _ h1,h2⟩
 | dict l=>obtain⟨e,a,ha,o,h1,h2⟩:=x;exact⟨e,a,pre_get p ha,o,hI _ h1,h2⟩
theorem ItSt.own {k:ItK}{v:V}{I:Addr}{i:Nat}{items:List V}(x:ItSt U k v I i items h μ) (h1:I∉μ) (h2:U.hb.get? I=none):Own U.hb h μ I:=by
 obtain⟨o,fs,e,d⟩:=x.data
 exact .obj h1 h2 e (nt_fields d)
theorem ItSt.cell {k:ItK}{v:V}{I:Addr}{i:Nat}{items:List V}(x:ItSt U k v I i items h μ):∀c v₀,CellAt h c v₀→c≠I:=by
 obtain⟨o,fs,e,d⟩:=x.data
 rintro c v₀ ⟨o',e',d'⟩ rfl
 rw[e]at e';cases e';rw[d]at d';cases d'
noncomputable def Src (k:ItK) (σ:Store) (items:List V):Prop:=
 match k with
 | .tup _=>True
 | .list l=>σ[l]?=some (.list items)
 | .dict l=>∃kvs,σ[l]?=some (.dI kvs)∧items=kvs.map fun p=>.int p.1
theorem Src.keep {k:ItK}{v:V}{I:Addr}{i:Nat}{items:List V}(x:ItSt U k v I i items h μ) (sr:Src k σ items) (ok:srcOk v σ σ'):Src k σ' items:=by
 induction k with
 | tup t=>trivial
 | list l=>obtain⟨rfl,-⟩:=x;exact(show σ'[l]?=σ[l]? from ok).trans sr
 | dict l=>obtain⟨rfl,-⟩:=x;obtain⟨kvs,h1,h2⟩:=sr;exact⟨kvs,(show σ'[l]?=σ[l]? from ok).trans h1,h2⟩
theorem tk_allBut {I:Addr}(o:Own U.hb h μ I) (k:AllBut I h h'):TupKeep h h':=fun a ob e c=>k a ob (fun q=>o.tup ob (q▸e) c) e
theorem it_make {x:Value}{v:V}{items:List V}{Q:Value→Shared→Prop}(hr:HRel U s.heap μ σ) (rx:RepV U s.heap μ x v) (e:itemsOf σ v=some items)
  (hQ:∀k ob,¬IsTupObj ob→ob.isFreed=false→ItSt U k v s.heap.objs.size 0 items (s.heap.push ob) μ→Src k σ items→Q (.ref s.heap.objs.size) { s with heap:=s.heap.push ob }):wpAny (model U.p U.w) A (pyIter x) Q E s:=by
 have nt:∀{c:Value} {fs:Array Value},¬IsTupObj { cls:=c,data:=.fields fs }:=fun zz=>by obtain⟨_,_,_,z⟩:=zz;exact by cases z
 cases its_inv e with
 | tup=>
  obtain⟨a,its,m,h1,h2⟩:=repV_tup rx
  exact wpAny_pyIter_tuple (isTuple_of h1) (hQ (.tup a) _ nt rfl ⟨rfl,⟨_,Heap.get?_push_size _ rfl,rfl,rfl⟩,its,m,Heap.get?_push_of_some _ h1,h2.mono (TupKeep.push _) (List.prefix_refl _)⟩ trivial)
 | list hl=>
   obtain⟨a,its,m,ha,h1,h2⟩:=hr.listv rx hl
   exact wpAny_pyIter_list (isList_of h1) (hQ (.list _) _ nt rfl ⟨rfl,a,ha,_,Heap.get?_push_size _ rfl,rfl,rfl⟩ hl)
 | @dict l kvs hl=>
   refine Classical.byContradiction fun kk=>?_
   obtain⟨a,ob,ha,g2,kv,g3,g4,g5⟩:=hr.objv rx hl
   have hlen:kv.length=(kvs.map fun p=>V.int p.1).length:=by rw[List.length_map,g5.length]
   refine kk ?_
   refine wpAny_pyIter_dict (hr.notSys ha) (dictAt_of g2 g3 g4) (hQ (.dict l) _ nt rfl ⟨rfl,a,ha,_,Heap.get?_push_size _ rfl,rfl,?_⟩ ⟨kvs,hl,rfl⟩)
   rw[hlen];rfl
theorem it_next {k:ItK}{v u:V}{I:Addr}{i:Nat}{items:List V}{Q:Option Value→Shared→Prop}(hr:HRel U s.heap μ σ) (e:Src k σ items) (x:ItSt U k v I i items s.heap μ) (ow:Own U.hb s.heap μ I) (hu:items[i]?=some u)
  (hQ:∀val h',RepV U h' μ val u→ItSt U k v I (i+1) items h' μ→Heap.SameBut I s.heap h'→Q (some val) { s with heap:=h' }):wpAny (model U.p U.w) A (pyNext (.ref I)) Q E s:=by
 induction k with
 | tup t=>
  refine Classical.byContradiction fun kk=>?_
  obtain⟨e1,h1,its,m,h2,h3⟩:=x
  obtain⟨y,hy,ry⟩:=h3.all2.get hu
  refine kk ?_
  refine wpAny_pyNext_tuple_item h1 (isTuple_of h2) (by rw[←Array.getElem?_toList];exact hy) fun h' h1' sb=>?_
  have tk:=tk_allBut ow (AllBut.of_same sb)
  exact hQ y h' (ry.mono tk (List.prefix_refl _)) ⟨e1,h1',its,m,tk _ _ h2 ⟨rfl,_,_,rfl⟩,h3.mono tk (List.prefix_refl _)⟩ sb
 | list l=>
  obtain⟨rfl,a,ha,h1⟩:=x
  obtain⟨a',its,m,g1,h2,h3⟩:=hr.list e
  rw[ha]at g1;cases g1
  obtain⟨y,hy,ry⟩:=h3.all2.get hu
  refine wpAny_pyNext_list_item h1 (isList_of h2) (by rw[←Array.getElem?_toList];exact hy) fun h' h1' sb=>?_
  exact hQ y h' (ry.mono (tk_allBut ow (AllBut.of_same sb)) (List.prefix_refl _)) ⟨rfl,a,ha,h1'⟩ sb
 | dict l=>
  refine Classical.byContradiction fun kk=>?_
  obtain⟨rfl,a,ha,h1⟩:=x
  obtain⟨kvs,e1,rfl⟩:=e
  obtain⟨a',ob,g1,g2,kv,g3,g4,g5⟩:=hr.addr e1
  rw[ha]at g1;cases g1
  have hlen:(kvs.map fun p=>V.int p.1).length=kv.length:=by rw[List.length_map,g5.length]
  rw[List.getElem?_map]at hu
  obtain⟨p,hp,rfl⟩:=Option.map_eq_some_iff.mp hu
  obtain⟨q,hq,hq1,hq2⟩:=g5.get hp
  rw[hlen]at h1
  refine kk ?_
  refine wpAny_pyNext_dict_item h1 (dictAt_of g2 g3 g4) (show kv[i]?=some (q.1,q.2) from hq) fun key h' hkey h1' sb=>?_
  refine hQ key h' ?_ ⟨rfl,a,ha,by rw[hlen];exact h1'⟩ sb
  rw[←hq1]
  induction key <;> simp[intKind,Value.isInt]at hkey
  subst hkey;exact .int _ _
theorem it_done {k:ItK}{v:V}{I:Addr}{items:List V}{Q:Option Value→Shared→Prop}(hh:A.handled=none) (hr:HRel U s.heap μ σ) (e:Src k σ items) (x:ItSt U k v I items.length items s.heap μ)
  (hQ:∀h',AllBut I s.heap h'→Q none { s with heap:=h' }):wpAny (model U.p U.w) A (pyNext (.ref I)) Q E s:=by
 cases k with
 | tup t=>
  obtain⟨e1,h1,its,m,h2,h3⟩:=x
  exact wpAny_pyNext_tuple_end hh h1 (isTuple_of h2) (by rw[Array.getElem?_eq_none_iff,←Array.length_toList,h3.length];exact Nat.le_refl _) fun h' z=>hQ h' z
 | list l=>
  obtain⟨rfl,a,ha,h1⟩:=x
  obtain⟨a',its,m,g1,h2,h3⟩:=hr.list e
  rw[ha]at g1;cases g1
  exact wpAny_pyNext_list_end hh h1 (isList_of h2) (by rw[Array.getElem?_eq_none_iff,←Array.length_toList,h3.length];exact Nat.le_refl _) fun h' z=>hQ h' z
 | dict l=>
  obtain⟨rfl,a,ha,h1⟩:=x
  obtain⟨kvs,e1,rfl⟩:=e
  obtain⟨a',ob,g1,g2,kv,g3,g4,g5⟩:=hr.addr e1
  rw[ha]at g1;cases g1
  have hlen:(kvs.map fun p=>V.int p.1).length=kv.length:=by rw[List.length_map,g5.length]
  rw[hlen]at h1
  exact wpAny_pyNext_dict_end hh h1 (dictAt_of g2 g3 g4) (List.getElem?_eq_none (Nat.le_refl _)) fun h' z=>hQ h' z
end
section
variable {U:Bx}{h h':Heap}{μ μ':List Addr}{s:Shared}{A:Around}{E:Value→Shared→Prop}{F:List Addr}{env:Env}{G:Cx}{ρ:Rho}{n:Nat}
theorem it_self {k:ItK}{v:V}{I:Addr}{i:Nat}{items:List V}{Q:Value→Shared→Prop}(x:ItSt U k v I i items s.heap μ) (q:Q (.ref I) s):wpAny (model U.p U.w) A (pyIter (.ref I)) Q E s:=by
 induction k with
 | tup t=>exact wpAny_pyIter_tupleiter x.2.1 q
 | list l=>obtain⟨-,a,-,h⟩:=x;exact wpAny_pyIter_listiter h q
 | dict l=>obtain⟨-,a,-,h⟩:=x;exact wpAny_pyIter_keyiter h q
noncomputable def clOf (cells:List (Str×Addr)):List (Str×NameKind)→List (Str×Addr)→List (Str×Addr)
 | [],cs=>cs
 | (n,k) :: r,cs=>clOf cells r (if k == .free then (n,(cells.lookup n).getD 0) :: cs else cs)
theorem closure_of {sc:Scope}(hc:∀p∈sc.names,p.2 = .free→(env.cells.lookup p.1).isSome=true):closureFor sc env=pure (clOf env.cells sc.names []):=by
 have key:∀(names:List (Str×NameKind)) (cs:List (Str×Addr)),(∀p∈names,p.2 = .free→(env.cells.lookup p.1).isSome=true) →
   (forIn names cs fun(x:Str×NameKind) (cs:List (Str×Addr))=>(do
    match x with
    | (name,kind)=>if kind == .free then do let c ←cellOf env name;pure (ForInStep.yield ((name,c) :: cs)) else pure (ForInStep.yield cs):Sem (ForInStep (List (Str×Addr)))))=pure (clOf env.cells names cs):=by
  intro names
  induction names with
  | nil=>intro cs _;rfl
  | cons p r ih=>
   obtain⟨n,k⟩:=p
   intro cs hc
   rw[List.forIn_cons]
   cases hk:k==NameKind.free with
   | true=>
    obtain⟨c,hcc⟩:=Option.isSome_iff_exists.mp (hc (n,k) (.head _) (beq_iff_eq.mp hk))
    simp only[hk,if_true,cellOf,hcc,pure_bind]
    rw[clOf,hk,if_pos rfl,hcc]
    exact ih _ fun p hp=>hc p (.tail _ hp)
   | false=>
    simp only[hk,Bool.false_eq_true,if_false,pure_bind]
    rw[clOf,hk,if_neg (by decide)]
    exact ih _ fun p hp=>hc p (.tail _ hp)
 unfold closureFor
 have:=key sc.names [] hc
 simp only[bind_pure]
 exact this
theorem clOf_mem {cells:List (Str×Addr)}{names:List (Str×NameKind)}:∀{cs:List (Str×Addr)},(∀p∈names,p.2 = .free→(cells.lookup p.1).isSome=true)→(∀q∈cs,cells.lookup q.1=some q.2)→∀q∈clOf cells names cs,cells.lookup q.1=some q.2:=by
 induction names with
 | nil=>
  intro cs _ h q hq
  exact h q hq
 | cons p_ r ih=>
  intro cs hc h q hq
  obtain⟨n,k⟩:=p_
  rw[clOf]at hq
  refine ih (fun p hp=>hc p (.tail _ hp)) (fun q' hq'=>?_) q hq
  split at hq'
  ·rename_i hk
   rcases List.mem_cons.mp hq' with rfl | hq'
   ·obtain⟨c,hcc⟩:=Option.isSome_iff_exists.mp (hc (n,k) (.head _) (beq_iff_eq.mp hk))
    rw[hcc];rfl
   ·exact h _ hq'
  ·exact h _ hq'
theorem clOf_keep {cells:List (Str×Addr)}{names:List (Str×NameKind)}:∀{cs:List (Str×Addr)}{y:Str},(y∈cs.map (·.1)∨(y,NameKind.free)∈names)→y∈(clOf cells names cs).map (·.1):=by
 induction names with
 | nil=>
  intro cs y h
  rcases h with h | h;exact h;cases h
 | cons p_ r ih=>
  intro cs y h
  obtain⟨n,k⟩:=p_
  rw[clOf]
  refine ih ?_
  rcases h with h | h
  ·left;split
   ·exact .tail _ h
   ·exact h
  ·rcases List.mem_cons.mp h with h | h
   ·cases h;left;exact .head _
   ·exact .inr h
theorem lookup_mem {α:Type}{l:List (Str×α)}:∀{y:Str}{c:α},l.lookup y=some c→(y,c)∈l:=by
 induction l with
 | nil=>
  intro y c h
  cases h
 | cons p_ r ih=>
  intro y c h
  obtain⟨k,v⟩:=p_
  rw[List.lookup_cons]at h
  split at h
  ·rename_i e;cases h;rw[beq_iff_eq.mp e];exact .head _
  ·exact .tail _ (ih h)
theorem lookup_some {α:Type}{l:List (Str×α)}:∀{y:Str},y∈l.map (·.1)→∃c,l.lookup y=some c:=by
 induction l with
 | nil=>
  intro y h
  cases h
 | cons p_ r ih=>
  intro y h
  obtain⟨k,v⟩:=p_
  rw[List.lookup_cons]
  split
  ·exact⟨_,rfl⟩
  ·rename_i e
   rw[List.map_cons]at h
   rcases List.mem_cons.mp h with rfl | h
   ·simp at e
   ·exact ih h
theorem lookup_once {l:List (Str×NameKind)}:∀{y:Str}{k:NameKind},(l.filter fun p=>p.1==y).length=1→(y,k)∈l→l.lookup y=some k:=by
 induction l with
 | nil=>
  intro y k h1 h
  cases h
 | cons p_ r ih=>
  intro y k h1 h
  obtain⟨m,j⟩:=p_
  rw[List.lookup_cons]
  rw[List.filter_cons]at h1
  cases e:y==m with
  | true=>
   have e':=beq_iff_eq.mp e
   subst e'
   simp only[beq_self_eq_true,if_true,List.length_cons]at h1
   rcases List.mem_cons.mp h with h | h
   ·cases h;rfl
   ·have:(y,k)∈r.filter fun p=>p.1==y:=List.mem_filter.mpr ⟨h,by simp⟩
    have:=List.length_pos_of_mem this
    lia
  | false=>
   have hne:(m==y)=false:=by
    cases z:m==y with
    | false=>rfl
    | true=>rw[beq_iff_eq.mp z]at e;simp at e
   simp only[hne,Bool.false_eq_true,if_false]at h1
   rcases List.mem_cons.mp h with h | h
   ·cases h;simp at e
   ·exact ih h1 h
inductive CompR (G:Cx) (x:Str) (sc:Scope):Prop
 | mk (k1:sc.kind = .function) (k2:sc.names.lookup x=some .local) (k3:∀p∈sc.names,sc.names.lookup p.1=some p.2)
  (k4:∀p∈sc.names,p.2≠.cell∧(p.2 = .free→(G.kinds.lookup p.1=some .cell∨G.kinds.lookup p.1=some .free)∧(G.slot.lookup p.1).isSome=true)∧(p.2 = .local→p.1=x∨p.1 = ".0")):CompR G x sc
theorem compOk_of {x:Str}{sc:Scope}(h:compOk G x sc=true):CompR G x sc:=by
 unfold compOk at h
 simp only[Bool.and_eq_true,List.all_eq_true,beq_iff_eq]at h
 obtain⟨⟨⟨h1,h2⟩,h3⟩,h4⟩:=h
 refine⟨h1,h2,fun p hp=>lookup_once (h3 p.1 (List.mem_map_of_mem hp)) hp,fun p hp=>?_⟩
 refine Classical.byContradiction fun kk=>?_
 obtain⟨⟨a,b⟩,c⟩:=h4 p hp
 refine kk ?_
 refine⟨by simpa using a,fun e=>?_,fun e=>?_⟩
 ·rw[e]at b;simpa using b
 ·rw[e]at c;simpa using c
theorem relabel_lookup {env:Env}{names:List (Str×NameKind)}:∀{y:Str},
  (names.map fun(n,k)=>if (k==NameKind.free&&env.scope.kind == .function&&env.kindOf n==some .cell) then (n,NameKind.cell) else (n,k)).lookup y=names.lookup y ∨
  (names.lookup y=some .free∧(names.map fun(n,k)=>if (k==NameKind.free&&env.scope.kind == .function&&env.kindOf n==some .cell) then (n,NameKind.cell) else (n,k)).lookup y=some .cell):=by
 induction names with
 | nil=>
  intro y
  exact .inl rfl
 | cons p_ r ih=>
  intro y
  obtain⟨m,k⟩:=p_
  have ih:=@ih y
  rw[List.map_cons]
  by_cases c:(k==NameKind.free&&env.scope.kind == .function&&env.kindOf m==some .cell)=true
  ·simp only[c,if_true]
   rw[List.lookup_cons,List.lookup_cons]
   cases e:y==m with
   | true=>
    simp only[Bool.and_eq_true,beq_iff_eq]at c
    exact .inr ⟨by simp[c.1.1],rfl⟩
   | false=>exact ih
  ·rw[Bool.not_eq_true]at c
   simp only[c,Bool.false_eq_true,if_false]
   rw[List.lookup_cons,List.lookup_cons]
   cases e:y==m with
   | true=>exact .inl rfl
   | false=>exact ih
theorem EnvR.comp (x₀:EnvR U F env G s.heap μ ρ) {x:Str}{sc:Scope}(hok:compOk G x sc=true) {C:Addr}(ow:Own U.hb h' μ' C) (hC:s.heap.get? C=none) (hn:h'.Ns C (fun Z=>none)) (kp:∀b o,s.heap.get? b=some o→b∉μ→h'.get? b=some o) (hμ:∀a∈μ',a∉μ→s.heap.get? a=none)
  (tk:TupKeep s.heap h') (p:μ <+:μ'):EnvR U [C] (compEnvC sc (clOf env.cells sc.names []) C env) (cxComp G x sc) h' μ' (ρ.set G.next none):=by
 obtain⟨k1,k2,k3,k4⟩:=compOk_of hok
 have hcells:∀p∈sc.names,p.2 = .free→(env.cells.lookup p.1).isSome=true:=fun p hp hf=>by
  obtain⟨h1,h2⟩:=(k4 p hp).2.1 hf
  obtain⟨i,hi⟩:=Option.isSome_iff_exists.mp h2
  obtain⟨c,v₀,g1,-⟩:=x₀.cells p.1 i h1 hi
  rw[g1];rfl
 have hcl:∀{y c},(clOf env.cells sc.names []).lookup y=some c→env.cells.lookup y=some c:=fun{y c} e=>clOf_mem hcells (by simp) _ (lookup_mem e)
 have kinds:∀y,(cxComp G x sc).kinds.lookup y=sc.names.lookup y:=fun Z=>rfl
 have slots:∀y i,(cxComp G x sc).slot.lookup y=some i→(y=x∧i=G.next)∨(y≠x∧sc.names.lookup y=some .free∧G.slot.lookup y=some i):=by
  intro y i e
  have e:((x,G.next) :: G.slot.filter fun p=>sc.names.lookup p.1==some .free).lookup y=some i:=e
  rw[List.lookup_cons]at e
  split at e
  ·rename_i z;cases e;exact .inl ⟨beq_iff_eq.mp z,rfl⟩
  ·rename_i z
   refine .inr ⟨fun q=>by rw[q]at z;simp at z,?_⟩
   have hm:=List.mem_filter.mp (lookup_mem e)
   have hfree:sc.names.lookup y=some .free:=by simpa using hm.2
   refine⟨hfree,?_⟩
   clear hm z
   generalize G.slot=l at e
   induction l with
   | nil=>simp at e
   | cons q r ih=>
    rw[List.lookup_cons]
    rw[List.filter_cons]at e
    cases hq:y==q.1 with
    | true=>
     have hq':=beq_iff_eq.mp hq
     rw[if_pos (by rw[←hq',hfree];rfl),List.lookup_cons,hq]at e
     exact e
    | false=>
     dsimp only
     split at e
     ·rw[List.lookup_cons,hq]at e;exact ih e
     ·exact ih e
 refine⟨fun y=>?_,k1,x₀.glob,x₀.blt,fun a ha=>?_,.head _,⟨_,hn,fun y i v a b c=>?_⟩,fun y i hk hs=>?_,fun y z c a b=>x₀.cinj y z c (hcl a) (hcl b),fun y z i a b=>?_,fun y i e=>?_⟩
 ·show(relabel sc env).names.lookup y=_∨_
  exact relabel_lookup
 ·simp only[List.mem_singleton]at ha
  subst ha
  exact⟨ow.loc,ow.base,ow.there,ow.tup⟩
 ·rcases slots y i b with⟨rfl,rfl⟩ | ⟨-,e,-⟩
  ·rw[List.getElem?_set_self']at c
   cases q:ρ[G.next]? with
   | none=>rw[q]at c;cases c
   | some _=>rw[q]at c;cases c
  ·rw[kinds,e]at a;cases a
 ·rcases slots y i hs with⟨rfl,rfl⟩ | ⟨hne,e,hs'⟩
  ·rw[kinds,k2]at hk;rcases hk with hk | hk <;> cases hk
  ·refine Classical.byContradiction fun kk=>?_
   have hmem:(y,NameKind.free)∈sc.names:=lookup_mem e
   obtain⟨h1,-⟩:=(k4 _ hmem).2.1 rfl
   obtain⟨c,v₀,g1,⟨ob,g2,g2'⟩,g3,g4,g5,g6⟩:=x₀.cells y i h1 hs'
   obtain⟨c',hc'⟩:=lookup_some (clOf_keep (cells:=env.cells) (cs:=[]) (.inr hmem))
   have:c'=c:=by have:=hcl hc';rw[g1]at this;exact(Option.some.inj this).symm
   subst this
   refine kk ?_
   refine⟨c',v₀,hc',⟨ob,kp _ _ g2 g3,g2'⟩,fun m=>?_,fun q=>?_,fun z=>?_,fun v z=>?_⟩
   ·have:=hμ _ m g3;rw[g2]at this;cases this
   ·have q:c'=C:=q
    rw[q,hC]at g2;cases g2
   ·rw[kinds,e]at z;cases z
   ·have hne':i≠G.next:=Nat.ne_of_lt (x₀.bound y i hs')
    rw[List.getElem?_set_ne (Ne.symm hne')]at z
    obtain⟨val,e1,e2⟩:=g6 v z
    exact⟨val,e1,e2.mono tk p⟩
 ·rcases slots y i a with⟨rfl,rfl⟩ | ⟨hne,-,e⟩ <;> rcases slots z _ b with⟨rfl,e2⟩ | ⟨hne',-,e'⟩
  ·rfl
  ·exact absurd (x₀.bound z _ e') (Nat.lt_irrefl _)
  ·subst e2;exact absurd (x₀.bound y _ e) (Nat.lt_irrefl _)
  ·exact x₀.sinj y z i e e'
 ·show i < G.next+1
  rcases slots y i e with⟨-,rfl⟩ | ⟨-,-,e⟩
  ·exact Nat.lt_succ_self _
  ·exact Nat.lt_succ_of_lt (x₀.bound y i e)
end
section
variable {U:Bx}{h:Heap}{μ μ' μ₁:List Addr}{σ σ' σ₁:Store}{s s' s₁:Shared}{A:Around}{E:Value→Shared→Prop}{F:List Addr}{env:Env}{G:Cx}{ρ:Rho}{n:Nat}{Φ:Calls}
theorem tests_false {cs:List PySem.Expr}{Q:Bool→Shared→Prop}(q:Q false s) :
  wpAny (model U.p U.w) A (forIn cs false fun c r=>if r=true then do let ok ←isTrue c env (eval c env);pure (ForInStep.yield ok) else pure (ForInStep.yield r)) Q E s:=by
 induction cs with
 | nil=>exact wpAny_pure q
 | cons c cs ih=>
  rw[List.forIn_cons]
  rw[if_neg (by decide)]
  exact wpAny_bind (wpAny_pure ih)
theorem tests_sound {cs:List PySem.Expr}(ih:∀c∈cs,SC U n Φ c) {Q:Bool→Store→Prop}(hA:RoomE n A) (en:EnvR U F env G s.heap μ ρ) (hr:HRel U s.heap μ σ) (e:wpAll Φ ((compEs G cs).map (·.2)) ρ σ Q) :
  wpAny (model U.p U.w) A (forIn cs true fun c r=>if r=true then do let ok ←isTrue c env (eval c env);pure (ForInStep.yield ok) else pure (ForInStep.yield r)) (ResB U s μ Q) E s:=by
 induction cs generalizing s μ σ Q with
 | nil=>
  exact wpAny_pure ⟨μ,σ,Step.refl hr,e⟩
 | cons c cs ih'=>
  rw[List.forIn_cons,if_pos rfl]
  refine wpAny_bind (wpAny_bind (ResB.bind (ih c (.head _) hA en hr e) fun b s₁ μ₁ σ₁ st q=>wpAny_pure ?_))
  induction b with
  | false=>exact tests_false ⟨μ₁,σ₁,st,q⟩
  | true=>exact wpAny_mono (ih' (fun c hc=>ih c (.tail _ hc)) (en.step hr st) st.hrel q) (fun Z Z z=>ResB.trans st z) fun Z Z e=>e
theorem setset {α:Type}(l:List α) (i:Nat) (a b:α):(l.set i a).set i b=l.set i b:=by simp
noncomputable abbrev cmI (Φ:Calls) (G:Cx) (x:Str) (sc:Scope) (ifs:List PySem.Expr) (elt:PySem.Expr) (v:V) (σ:Store) (ρ:Rho):List V→List V→Store→(Store→Prop)→Prop:=
 compItems (fun y ρ σ' K=>wpAll Φ ((compEs (cxComp G x sc) ifs).map (·.2)) (ρ.set G.next (some y)) σ' K) (fun y ρ σ' K=>wpE Φ (compE (cxComp G x sc) elt).1 (ρ.set G.next (some y)) σ' K) (srcOk v σ) σ.length ρ
inductive CpI (U:Bx) (s:Shared) (μ:List Addr) (Φ:Calls) (G:Cx) (x:Str) (sc:Scope) (ifs:List PySem.Expr) (elt:PySem.Expr) (v:V) (σ:Store) (ρ:Rho) (Q:Store→Prop) (items:List V) (kk:ItK) (I C D:Addr) (env:Env):Nat→Shared→Prop
 | mk {i:Nat} {s':Shared} {μ':List Addr} {σ':Store} {out:List V} {ρ':Rho} (hi:i≤items.length) (sp:Step U s μ s' μ' σ') (st:ItSt U kk v I i items s'.heap μ') (oI:Own U.hb s'.heap μ' I) (oC:Own U.hb s'.heap μ' C)
   (en:EnvR U [C] (compEnvC sc (clOf env.cells sc.names []) C env) (cxComp G x sc) s'.heap μ' ρ') (hρ:∀o,ρ'.set G.next o=ρ.set G.next o) (pre:(μ++[D]) <+:μ') (c:cmI Φ G x sc ifs elt v σ ρ (items.drop i) out σ' Q) :
   CpI U s μ Φ G x sc ifs elt v σ ρ Q items kk I C D env (items.length+1 - i) s'
theorem cp_lt {n i:Nat}(h:i < n):n+1 - (i+1) < n+1 - i:=Nat.sub_lt_sub_left (Nat.lt_succ_of_lt h) (Nat.lt_succ_self i)
theorem comp_core {elt iter:PySem.Expr}{x:Str}{px pos:Pos}{ifs:List PySem.Expr}{sc:Scope}(hok:compOk G x sc=true) (ihE:SE U n Φ elt) (ihI:∀c∈ifs,SC U n Φ c) (hA:RoomE n A)
  (en:EnvR U F env G s.heap μ ρ) (hr:HRel U s.heap μ σ) {xv:Value} {v:V} {items:List V} (rx:RepV U s.heap μ xv v) (hit:itemsOf σ v=some items) {Q:Store→Prop}
  (e:cmI Φ G x sc ifs elt v σ ρ items [] (σ++[.list []]) Q)
  {RR:Value→Addr→Result→Shared→Prop}
  (hRR:∀D C s' μ' σ',Step U s μ s' μ' σ'→Own U.hb s'.heap μ' C→s.heap.get? C=none→(∃m,s'.heap.Ns C m)→RepV U s'.heap μ' (.ref D) (.loc σ.length)→Q σ'→RR (.ref D) C (.ok .next) s') :
  wpAny (model U.p U.w) A (pyIter xv) (fun it s₂=>wpAny (model U.p U.w) A (newList []) (fun acc s₃=>wpAny (model U.p U.w) A (newFunctionEnv sc env.globals (clOf env.cells sc.names []) [] env.qual none .none (some env)) (fun cenv s₄=>
   codeAny (model U.p U.w) A (.compStart (.ListComp elt [⟨.Name x px,iter,ifs,0⟩] sc pos) 0 it acc { cenv with scope:=relabel sc env }) (RR acc cenv.locals) s₄) E s₃) E s₂) E s:=by
 refine Classical.byContradiction fun kk=>?_
 obtain⟨k1,k2,k3,k4⟩:=compOk_of hok
 refine kk ?_
 refine it_make hr rx hit fun kk ob hnt hfr st0 src0=>?_
 have hI:s.heap.get? s.heap.objs.size=none:=Heap.get?_size_none _
 have hIμ:=hr.freshAt
 have hIb:=hr.sizeNone
 generalize hII:s.heap.objs.size=I at st0 hI hIμ hIb
 have kp0:∀b o,s.heap.get? b=some o→(s.heap.push ob).get? b=some o:=fun b o e=>Heap.get?_push_of_some _ e
 have sp0:Step U s μ { s with heap:=s.heap.push ob } μ σ:=Step.keeps (t:=s.toks) hr kp0
 refine wpAny_newObj_type ?_
 dsimp only
 have sp1:Step U { s with heap:=s.heap.push ob } μ { s with heap:=(s.heap.push ob).push { cls:=.type "list",data:=.seq ([]:List Value).toArray } } (μ++[(s.heap.push ob).objs.size]) (σ++[.list []]):=
  Step.push (s:={ s with heap:=s.heap.push ob }) (t:=s.toks) sp0.hrel (o:=.list []) ⟨_,0,rfl,.nil⟩
 have hsz1:(s.heap.push ob).objs.size=s.heap.objs.size+1:=Heap.size_push ..
 generalize hDD:(s.heap.push ob).objs.size=D at sp1 hsz1
 generalize hH2:(s.heap.push ob).push { cls:=.type "list",data:=.seq ([]:List Value).toArray }=H2 at sp1
 have hD:μ.length=σ.length:=hr.len
 have own1:Own U.hb H2 (μ++[D]) I:=by
  obtain⟨o,fs,z1,z2⟩:=st0.data
  refine .obj (o:=o) (fun m=>?_) hIb ?_ ?_
  ·rcases List.mem_append.mp m with m | m
   ·exact hIμ m
   ·simp only[List.mem_singleton]at m
    rw[←hII,hsz1]at m
    exact Nat.ne_of_lt (Nat.lt_succ_self _) m
  ·exact hH2▸Heap.get?_push_of_some _ z1
  ·exact nt_fields z2
 refine wpAny_newFunctionEnv (by intro y hy;exact(k4 y hy).1) (by intro y hy;simp at hy) (fun h₁ hns₁ hsb₁=>?_) k1
 dsimp only at hns₁ hsb₁ ⊢
 have hC2:H2.get? H2.objs.size=none:=Heap.get?_size_none _
 have kpH:∀b o,s.heap.get? b=some o→H2.get? b=some o:=fun b o e=>by rw[←hH2];exact Heap.get?_push_of_some _ (kp0 _ _ e)
 have hCs:s.heap.get? H2.objs.size=none:=by
  cases q:s.heap.get? H2.objs.size with
  | none=>rfl
  | some o=>rw[kpH _ _ q]at hC2;cases hC2
 have hCμ:=sp1.hrel.freshAt
 have hCb:=sp1.hrel.sizeNone
 dsimp only at hCμ hCb
 have kp1:∀b o,H2.get? b=some o→h₁.get? b=some o:=fun b o e=>(hsb₁.2 b (Heap.push_fresh e)).trans (Heap.get?_push_of_some _ e)
 have hIC:I≠H2.objs.size:=by
  obtain⟨o,ho⟩:=own1.there
  exact Heap.push_fresh ho
 generalize hCC:H2.objs.size=C at hns₁ hsb₁ hC2 hCs hCμ hCb hIC
 have sp2:Step U { s with heap:=H2 } (μ++[D]) { s with heap:=h₁,toks:=s.toks+([]:List (Str×Value)).length } (μ++[D]) (σ++[.list []]):=Step.keeps (s:={ s with heap:=H2 }) (t:=_) sp1.hrel kp1
 have spA:=(sp0.trans sp1).trans sp2
 have ownI:Own U.hb h₁ (μ++[D]) I:=own1.step (s:={ s with heap:=H2 }) sp2
 have hns₁':h₁.Ns C (fun Z=>none):=hns₁
 have ownC:Own U.hb h₁ (μ++[D]) C:=ns_own hns₁' hCμ hCb
 have en1:EnvR U [C] (compEnvC sc (clOf env.cells sc.names []) C env) (cxComp G x sc) h₁ (μ++[D]) (ρ.set G.next none):=
  en.comp hok ownC hCs hns₁' spA.keep spA.new (hr.tupKeep spA.keep) spA.pre
 have st1:ItSt U kk v I 0 items h₁ (μ++[D]):=st0.keep (fun o e=>kp1 _ _ (by rw[←hH2];exact Heap.get?_push_of_some _ e)) (fun a o e c=>kp1 _ _ (by rw[←hH2];exact Heap.get?_push_of_some _ e)) (List.prefix_append _ _)
 have hDloc:(μ++[D])[σ.length]?=some D:=by rw[←hD];simp
 have loop:codeAny (model U.p U.w) A (.compLoop (.ListComp elt [⟨.Name x px,iter,ifs,0⟩] sc pos) 0 (.ref I) (.ref D) (compEnvC sc (clOf env.cells sc.names []) C env)) (RR (.ref D) C) { s with heap:=h₁,toks:=s.toks+([]:List (Str×Value)).length }:=by
  refine codeAny_compLoop_tests (CpI U s μ Φ G x sc ifs elt v σ ρ Q items kk I C D env) ?_ (items.length+1) (.mk (i:=0) (Nat.zero_le _) spA st1 ownI ownC en1 (fun o=>setset _ _ _ _) (List.prefix_refl _) (by simpa using e))
  rintro k s' ⟨hi,sp,st,oI,oC,en',hρ,pre,ce⟩
  by_cases hlt:i < items.length
  ·obtain⟨u,hu⟩:∃u,items[i]?=some u:=⟨_,List.getElem?_eq_getElem hlt⟩
   have hdrop:items.drop i=u :: items.drop (i+1):=by
    rw[List.drop_eq_getElem_cons hlt]
    rw[List.getElem?_eq_getElem hlt]at hu;cases hu;rfl
   rw[hdrop]at ce
   obtain⟨hsrc,hacc,hout,ce⟩:=ce
   refine it_next sp.hrel (Src.keep st src0 hsrc) st oI hu fun val h₂ rv st' sb=>?_
   have spB:=sp.ext oI hI (AllBut.of_same sb) (t:=s'.toks)
   have oI2:Own U.hb h₂ μ' I:=st'.own oI.loc hIb
   have oC2:Own U.hb h₂ μ' C:=oC.ext (Ne.symm hIC) (AllBut.of_same sb)
   have en2:EnvR U [C] (compEnvC sc (clOf env.cells sc.names []) C env) (cxComp G x sc) h₂ μ' ρ':=en'.ext oI (by simpa using hIC) st.cell (AllBut.of_same sb)
   obtain⟨m,hm,-⟩:=en2.locs
   have hslot:(cxComp G x sc).slot.lookup x=some G.next:=by
    show((x,G.next) :: _).lookup x=_
    rw[List.lookup_cons];simp
   have hknd:(cxComp G x sc).kinds.lookup x=some .local:=k2
   refine wpAny_assign_Name (wpAny_storeName_local (kindOf_eq en2 hknd (by decide)) hm (fun h₃ hn₃ hs₃=>?_) (by simp[compEnvC,relabel,k1]))
   have spC:=spB.ext oC2 hCs (AllBut.of_same hs₃) (t:=s'.toks+1)
   have tk3:TupKeep h₂ h₃:=tk_allBut oC2 (AllBut.of_same hs₃)
   have rv3:RepV U h₃ μ' val u:=rv.mono tk3 (List.prefix_refl _)
   have en3:=en2.bindL (i:=G.next) (v:=u) hknd hslot hs₃ (fun m' hm'=>ns_uniq hm hm'▸hn₃) rv3
   rw[hρ]at en3
   have st3:ItSt U kk v I (i+1) items h₃ μ':=st'.keep (fun o e=>(hs₃.2 _ hIC).trans e) tk3 (List.prefix_refl _)
   have oI3:Own U.hb h₃ μ' I:=st3.own oI.loc hIb
   have oC3:Own U.hb h₃ μ' C:=ns_own (C:=C) hn₃ oC2.loc hCb
   refine ResB.bind (tests_sound ihI hA en3 spC.hrel ce) fun b s₄ μ₄ σ₄ sp4 q4=>?_
   have spD:=spC.trans sp4
   have go:∀{s₅:Shared} {μ₅:List Addr} {σ₅:Store} {out':List V},Step U { s' with heap:=h₃,toks:=s'.toks+1 } μ' s₅ μ₅ σ₅ →
     cmI Φ G x sc ifs elt v σ ρ (items.drop (i+1)) out' σ₅ Q →
     ∃m,m < items.length+1 - i∧CpI U s μ Φ G x sc ifs elt v σ ρ Q items kk I C D env m s₅:=by
    intro s₅ μ₅ σ₅ out' sp5 ce5
    exact⟨_,cp_lt hlt,.mk hlt (spC.trans sp5) (st3.keep (fun o e=>sp5.keep _ _ e oI3.loc) (spC.hrel.tupKeep sp5.keep) sp5.pre) (oI3.step sp5) (oC3.step sp5) (en3.step spC.hrel sp5) (fun o=>setset _ _ _ _) (pre.trans sp5.pre) ce5⟩
   induction b with
   | false=>simp only[Bool.false_eq_true,if_false];exact go sp4 q4
   | true=>
    simp only[if_true]
    refine Res.bind (ihE hA (en3.step spC.hrel sp4) spD.hrel q4) fun y uy s₅ μ₅ σ₅ sp5 ry q5=>?_
    have spE:=sp4.trans sp5
    have pre5:(μ++[D]) <+:μ₅:=pre.trans spE.pre
    have rD:RepV U s₅.heap μ₅ (.ref D) (.loc σ.length):=.loc (pre_get pre5 hDloc)
    refine wpAny_mono (append_sound (Q:=fun Z σ₆=>cmI Φ G x sc ifs elt v σ ρ (items.drop (i+1)) (out++[uy]) σ₆ Q)
     sp5.hrel rD q5.1 ry hout q5.2) (fun r s₆ z=>?_) fun Z Z e=>e
    obtain⟨ur,μ₆,σ₆,sp6,-,q6⟩:=z
    exact go (spE.trans sp6) q6
  ·have hin:i=items.length:=Nat.le_antisymm hi (Nat.le_of_not_lt hlt)
   subst hin
   rw[List.drop_eq_nil_of_le (Nat.le_refl _)]at ce
   obtain⟨hsrc,hacc,ce⟩:=ce
   refine it_done hA.handled sp.hrel (Src.keep st src0 hsrc) st fun h₂ ab=>?_
   have spB:=sp.ext oI hI ab (t:=s'.toks)
   have en2:EnvR U [C] (compEnvC sc (clOf env.cells sc.names []) C env) (cxComp G x sc) h₂ μ' ρ':=en'.ext oI (by simpa using hIC) st.cell ab
   obtain⟨m,hm,-⟩:=en2.locs
   exact hRR D C _ μ' σ' spB (oC.ext (Ne.symm hIC) ab) hCs ⟨m,hm⟩ (.loc (pre_get pre hDloc)) ce
 exact codeAny_compStart_list loop (it_self st1 loop)
theorem folded_plain {e:PySem.Expr}(h:isSetE e=false) (x:Value):foldedSetIterable e env x=pure x:=by
 induction e using PySem.Expr.casesOn <;> first | rfl | exact bft h
theorem comp_one {elt:PySem.Expr}{gens:List Comprehension}{sc:Scope}{p:Pos}{Q:Post}(e:wpE Φ (compE G (.ListComp elt gens sc p)).1 ρ σ Q):∃x px iter ifs,gens=[⟨.Name x px,iter,ifs,0⟩]∧compOk G x sc=true∧isSetE iter=false ∧
  wpE Φ (.comp G.next (compE G iter).1 ((compEs (cxComp G x sc) ifs).map (·.2)) (compE (cxComp G x sc) elt).1) ρ σ Q:=by
 rcases gens with _ | ⟨⟨t,iter,ifs,a⟩,_ | ⟨_,_⟩⟩
 ·exact(stuckE e).elim
 ·induction t using PySem.Expr.casesOn with
  | Name x px=>
   obtain⟨hc,e1⟩:=ifm_inv e
   simp only[Bool.and_eq_true,Bool.not_eq_true',beq_iff_eq]at hc
   obtain⟨rfl,hc⟩:=hc
   exact⟨x,px,iter,ifs,rfl,hc.1,hc.2,e1⟩
  | _=>exact(stuckE e).elim
 ·induction t using PySem.Expr.casesOn <;> exact(stuckE e).elim
theorem clos_ok {x:Str}{sc:Scope}(hok:compOk G x sc=true) (en:EnvR U F env G h μ ρ):closureFor sc env=pure (clOf env.cells sc.names []):=closure_of fun q hq hf=>by
 refine Classical.byContradiction fun kk=>?_
 obtain⟨-,-,-,k4⟩:=compOk_of hok
 obtain⟨h1,h2⟩:=(k4 q hq).2.1 hf
 obtain⟨i,hi⟩:=Option.isSome_iff_exists.mp h2
 obtain⟨c,v₀,g1,-⟩:=en.cells q.1 i h1 hi
 refine kk ?_
 rw[g1];rfl
theorem se_comp {elt:PySem.Expr}{gens:List Comprehension}{sc:Scope}{p:Pos}(ihE:SE U n Φ elt) (ihT:∀g∈gens,SE U n Φ g.iter) (ihI:∀g∈gens,∀c∈g.ifs,SC U n Φ c):SE U n Φ (.ListComp elt gens sc p):=by
 intro A E F env G ρ s μ σ Q hA en hr e
 refine Classical.byContradiction fun kk=>?_
 obtain⟨x,px,iter,ifs,rfl,hok,hset,e⟩:=comp_one e
 obtain⟨k1,k2,k3,k4⟩:=compOk_of hok
 refine kk ?_
 rw[eval_ListComp]
 refine wpAny_comprehension_free (use:=none) rfl (folded_plain hset) (clos_ok hok en) k1 (fun y hy hl=>by rw[k3 y hy,hl]) (Res.bind (ihT _ (.head _) hA en hr e) fun xv v s₁ μ₁ σ₁ st rv q=>?_)
 refine Classical.byContradiction fun kk=>?_
 obtain⟨hit,q⟩:=q
 refine kk ?_
 refine comp_core (RR:=fun acc C=>compPost (model U.p U.w) A E none (Res U s μ Q) acc C) hok ihE (ihI _ (.head _)) hA (en.step hr st) st.hrel rv hit q ?_
 intro D C s' μ' σ' sp oC hC ⟨m,hm⟩ rD q'
 exact⟨m,hm,fun h'' hs''=>Res.trans st ⟨_,μ',σ',sp.ext oC hC (AllBut.of_same hs''),rD.mono (tk_allBut oC (AllBut.of_same hs'')) (List.prefix_refl _),q'⟩⟩
end
section
variable {U:Bx}{h:Heap}{μ:List Addr}{σ:Store}{s:Shared}{A:Around}{E:Value→Shared→Prop}{F:List Addr}{env:Env}{G:Cx}{ρ:Rho}{n:Nat}{Φ:Calls}
theorem both_stuck {e:PySem.Expr}(h:∀G,compE G e=Mine.ex .stuck):SE U n Φ e∧SC U n Φ e:=by
 constructor
 ·intro A E F env G ρ s μ σ Q hA en hr z
  rw[h]at z;exact(stuckE z).elim
 ·intro A E F env G ρ s μ σ Q hA en hr z
  rw[h]at z
  exact(stuckE z).elim
theorem both_plain {e:PySem.Expr}(he:SE U n Φ e) (hc:∀G,(compE G e).2 = .ex (compE G e).1) (hi:∀(env:Env) whole,PySem.isTrue e env whole=(do let v ←whole;standAt e.pos;holding [v] (truthy v))):SE U n Φ e∧SC U n Φ e:=
 ⟨he,sc_plain he hc hi⟩
theorem szl {a b N:Nat}(e:b=a) (h:b < N+1):a≤N:=e▸Nat.le_of_lt_succ h
theorem zdr {a b N:Nat}(h:a+b≤N):a≤N:=Nat.le_trans (Nat.le_add_right ..) h
theorem zl {p x N:Nat}(hp:0 < p) (h:p+x≤N):x < N:=Nat.lt_of_lt_of_le (Nat.lt_add_of_pos_left hp) h
theorem zl0 {x N:Nat}(h:1+x≤N):x < N:=zl Nat.one_pos h
theorem zp {a:Nat}:0 < 1+a:=Nat.lt_add_right _ Nat.one_pos
theorem zl1 {a x N:Nat}(h:1+a+x≤N):x < N:=zl zp h
theorem zl2 {a b x N:Nat}(h:1+a+b+x≤N):x < N:=zl (Nat.lt_add_right _ zp) h
theorem zsome {α:Type} [SizeOf α] (e:α):sizeOf e < sizeOf (some e):=zl0 (Nat.le_of_eq (Option.some.sizeOf_spec e).symm)
theorem expr_sound (fx:Fx U n Φ):∀N (e:PySem.Expr),sizeOf e < N→SE U n Φ e∧SC U n Φ e:=by
 intro N
 induction N with
 | zero=>intro e h;exact absurd h (Nat.not_lt_zero _)
 | succ N ih=>
  intro e
  have mem:∀{es:List PySem.Expr} {e:PySem.Expr},e∈es→sizeOf es < N→SE U n Φ e∧SC U n Φ e:=fun m h=>ih _ (Nat.lt_trans (List.sizeOf_lt_of_mem m) h)
  induction e using PySem.Expr.casesOn with
  | Constant c k p=>exact fun Z=>both_plain se_const (fun Z=>rfl) (fun Z Z=>rfl)
  | Name x p=>exact fun Z=>both_plain (se_name fx) (fun Z=>rfl) (fun Z Z=>rfl)
  | BoolOp op vs p=>
   intro hN
   have hN:=szl (Expr.BoolOp.sizeOf_spec ..) hN
   exact⟨se_boolop fun e m=>(mem m (zl1 (zdr hN))).1,sc_boolop fun e m=>(mem m (zl1 (zdr hN))).2⟩
  | BinOp l op r p=>
   intro hN
   have hN:=szl (Expr.BinOp.sizeOf_spec ..) hN
   exact both_plain (se_binop fx (ih l (zl0 (zdr (zdr (zdr hN))))).1 (ih r (zl2 (zdr hN))).1) (fun Z=>rfl) (fun Z Z=>rfl)
  | UnaryOp op x p=>
   intro hN
   have hN:=szl (Expr.UnaryOp.sizeOf_spec ..) hN
   induction op with
   | Not=>exact⟨se_unary fx (ih x (zl1 (zdr hN))).1,sc_not (ih x (zl1 (zdr hN))).2⟩
   | _=>exact both_plain (se_unary fx (ih x (zl1 (zdr hN))).1) (fun Z=>rfl) (fun Z Z=>rfl)
  | IfExp t b o p=>
   intro hN
   have hN:=szl (Expr.IfExp.sizeOf_spec ..) hN
   exact⟨se_ifexp (ih t (zl0 (zdr (zdr (zdr hN))))).2 (ih b (zl1 (zdr (zdr hN)))).1 (ih o (zl2 (zdr hN))).1,sc_ifexp (ih t (zl0 (zdr (zdr (zdr hN))))).2 (ih b (zl1 (zdr (zdr hN)))).2 (ih o (zl2 (zdr hN))).2⟩
  | Dict keys values p=>
   intro hN
   have hN:=szl (Expr.Dict.sizeOf_spec ..) hN
   refine both_plain (se_dict (fun k hk e he=>?_) fun e he=>(mem he (zl1 (zdr hN))).1) (fun Z=>rfl) (fun Z Z=>rfl)
   subst he
   exact @(ih e (Nat.lt_trans (Nat.lt_trans (zsome e) (List.sizeOf_lt_of_mem hk)) (zl0 (zdr (zdr hN))))).1
  | Compare l ops rs p=>
   intro hN
   have hN:=szl (Expr.Compare.sizeOf_spec ..) hN
   exact⟨se_cmp fx (ih l (zl0 (zdr (zdr (zdr hN))))).1 fun r m=>(mem m (zl2 (zdr hN))).1,sc_cmp fx (ih l (zl0 (zdr (zdr (zdr hN))))).1 fun r m=>(mem m (zl2 (zdr hN))).1⟩
  | Call f args kws p=>
   induction kws with
   | cons kw r=>exact fun Z=>both_stuck fun Z=>rfl
   | nil=>
    induction f using PySem.Expr.casesOn with
    | Name g q=>
     intro hN
     have hN:=szl (Expr.Call.sizeOf_spec ..) hN
     exact both_plain (se_call_name fx fun e m=>(mem m (zl1 (zdr (zdr hN)))).1) (fun Z=>rfl) (fun Z Z=>rfl)
    | Attribute o x q=>
     intro hN
     have hN:=szl (Expr.Call.sizeOf_spec ..) hN
     exact both_plain (se_call_attr fx (ih o (Nat.lt_trans (zl0 (zdr (zdr (Nat.le_of_eq (Expr.Attribute.sizeOf_spec o x q).symm)))) (zl0 (zdr (zdr (zdr hN)))))).1 fun e m=>(mem m (zl1 (zdr (zdr hN)))).1) (fun Z=>rfl) (fun Z Z=>rfl)
    | _=>exact fun Z=>both_stuck fun Z=>rfl
  | Attribute v x p=>
   intro hN
   have hN:=szl (Expr.Attribute.sizeOf_spec ..) hN
   exact both_plain (se_attr fx (ih v (zl0 (zdr (zdr hN)))).1) (fun Z=>rfl) (fun Z Z=>rfl)
  | Subscript v s p=>
   intro hN
   have hN:=szl (Expr.Subscript.sizeOf_spec ..) hN
   refine both_plain (se_sub fx (ih v (zl0 (zdr (zdr hN)))).1 (ih s (zl1 (zdr hN))).1 (fun lo a b q e=>?_) (fun hi a b q e=>?_)) (fun Z=>by set_option smartUnfolding false in rfl) (fun Z Z=>rfl)
   ·subst e;exact(ih lo (Nat.lt_trans (Nat.lt_trans (zsome lo) (zl0 (zdr (zdr (zdr (Nat.le_of_eq (Expr.Slice.sizeOf_spec ..).symm)))))) (zl1 (zdr hN)))).1
   ·subst e;exact(ih hi (Nat.lt_trans (Nat.lt_trans (zsome hi) (zl1 (zdr (zdr (Nat.le_of_eq (Expr.Slice.sizeOf_spec ..).symm))))) (zl1 (zdr hN)))).1
  | List es p=>
   intro hN
   have hN:=szl (Expr.List.sizeOf_spec ..) hN
   exact both_plain (se_list fun e m=>(mem m (zl0 (zdr hN))).1) (fun Z=>rfl) (fun Z Z=>rfl)
  | Tuple es k p=>
   intro hN
   have hN:=szl (Expr.Tuple.sizeOf_spec ..) hN
   exact both_plain (se_tuple fun e m=>(mem m (zl0 (zdr (zdr hN)))).1) (fun Z=>rfl) (fun Z Z=>rfl)
  | ListComp elt gens sc p=>
   intro hN
   have hN:=szl (Expr.ListComp.sizeOf_spec ..) hN
   refine both_plain (se_comp (ih elt (zl0 (zdr (zdr (zdr hN))))).1 (fun g m=>?_) (fun g m c mc=>?_)) (fun Z=>by set_option smartUnfolding false in rfl) (fun Z Z=>rfl)
   ·obtain⟨t,it,ifs,a⟩:=g
    exact @(ih it (Nat.lt_trans (zl1 (zdr (zdr (Nat.le_of_eq (Comprehension.mk.sizeOf_spec ..).symm)))) (Nat.lt_trans (List.sizeOf_lt_of_mem m) (zl1 (zdr (zdr hN)))))).1
   ·obtain⟨t,it,ifs,a⟩:=g
    exact @(mem (es:=ifs) mc (Nat.lt_trans (zl2 (zdr (Nat.le_of_eq (Comprehension.mk.sizeOf_spec ..).symm))) (Nat.lt_trans (List.sizeOf_lt_of_mem m) (zl1 (zdr (zdr hN)))))).2
  | _=>exact fun Z=>both_stuck fun Z=>rfl
theorem SE.of (fx:Fx U n Φ) (e:PySem.Expr):SE U n Φ e:=(expr_sound fx _ e (Nat.lt_succ_self _)).1
theorem SC.of (fx:Fx U n Φ) (e:PySem.Expr):SC U n Φ e:=(expr_sound fx _ e (Nat.lt_succ_self _)).2
end
structure StepF (U:Bx) (F:List Addr) (s:Shared) (μ:List Addr) (s':Shared) (μ':List Addr) (σ':Store):Prop where
 hrel:HRel U s'.heap μ' σ'
 keep:∀b o,s.heap.get? b=some o→b∉μ→b∉F→s'.heap.get? b=some o
 pre:μ <+:μ'
 new:∀a∈μ',a∉μ→s.heap.get? a=none
 own:∀a∈F,a∉μ'
 same:∃h t,s' = { s with heap:=h,toks:=t }
section
variable {U:Bx}{h h':Heap}{μ μ' μ₁:List Addr}{σ σ' σ₁:Store}{s s' s₁:Shared}{A:Around}{E:Value→Shared→Prop}{F:List Addr}{env:Env}{G:Cx}{ρ:Rho}{n:Nat}{Φ:Calls}
theorem Step.toF (st:Step U s μ s' μ' σ') (hr:HRel U s.heap μ σ) (en:EnvR U F env G s.heap μ ρ):StepF U F s μ s' μ' σ':=
 ⟨st.hrel,fun b o e m Z=>st.keep b o e m,st.pre,st.new,fun a ha=>((en.step hr st).own a ha).1,st.same⟩
theorem StepF.trans {s₂:Shared}{μ₂:List Addr}{σ₂:Store}(x:StepF U F s μ s₁ μ₁ σ₁) (y:StepF U F s₁ μ₁ s₂ μ₂ σ₂):StepF U F s μ s₂ μ₂ σ₂:=by
 refine⟨y.hrel,fun b o e m f=>y.keep b o (x.keep b o e m f) (fun m'=>?_) f,x.pre.trans y.pre,fun a m m'=>?_,y.own,?_⟩
 ·have:=x.new b m' m;rw[e]at this;cases this
 ·by_cases q:a∈μ₁
  ·exact x.new a q m'
  ·have h1:=y.new a m q
   cases e:s.heap.get? a with
   | none=>rfl
   | some o=>rw[x.keep a o e m' fun f=>y.own a f m]at h1;cases h1
 ·refine Classical.byContradiction fun kk=>?_
  obtain⟨h1,t1,e1⟩:=x.same
  obtain⟨h2,t2,e2⟩:=y.same
  refine kk ?_
  exact⟨h2,t2,by rw[e2,e1]⟩
theorem StepF.refl (hr:HRel U s.heap μ σ) (en:EnvR U F env G s.heap μ ρ):StepF U F s μ s μ σ:=
 ⟨hr,fun Z Z e Z Z=>e,List.prefix_refl _,fun Z a b=>absurd a b,fun a ha=>(en.own a ha).1,s.heap,s.toks,rfl⟩
theorem StepF.tk (x:StepF U F s μ s' μ' σ') (hr:HRel U s.heap μ σ) (en:EnvR U F env G s.heap μ ρ):TupKeep s.heap s'.heap:=fun a o e c=>x.keep a o e (fun m=>by
 obtain⟨ob,h1,h2⟩:=hr.mem m
 rw[e]at h1;cases h1;exact h2 c.1) fun f=>(en.own a f).tup o e c
theorem StepF.ext (x:StepF U F s μ s₁ μ₁ σ₁) {I:Addr}(o:Own U.hb s₁.heap μ₁ I) (hn:s.heap.get? I=none) (k:AllBut I s₁.heap h') {t:Nat}:StepF U F s μ { s₁ with heap:=h',toks:=t } μ₁ σ₁:=by
 refine Classical.byContradiction fun kk=>?_
 obtain⟨hh,tt,ee⟩:=x.same
 refine kk ?_
 exact⟨x.hrel.ext o k,fun b ob e m f=>k b ob (fun q=>by rw[q,hn]at e;cases e) (x.keep b ob e m f),x.pre,x.new,x.own,h',t,by rw[ee]⟩
inductive OutR (U:Bx) (h:Heap) (μ:List Addr):Out→Flow→Prop
 | nx:OutR U h μ .nx .next
 | cont:OutR U h μ .cont .cont
 | ret {v:V} {val:Value} (r:RepV U h μ val v):OutR U h μ (.ret v) (.ret val)
inductive ResF (U:Bx) (F:List Addr) (env:Env) (G:Cx) (s:Shared) (μ:List Addr) (Q:PostS) (fl:Flow) (s':Shared):Prop
 | in_ (o:Out) (ρ':Rho) (μ':List Addr) (σ':Store) (st:StepF U F s μ s' μ' σ') (en:EnvR U F env G s'.heap μ' ρ') (r:OutR U s'.heap μ' o fl) (q:Q o ρ' σ')
theorem ResF.trans {Q:PostS}{fl:Flow}{s₁ s₂:Shared}{μ₁:List Addr}{σ₁:Store}(a:StepF U F s μ s₁ μ₁ σ₁) (x:ResF U F env G s₁ μ₁ Q fl s₂):ResF U F env G s μ Q fl s₂:=by
 obtain⟨o,ρ',μ',σ',x,y,z,u⟩:=x;exact⟨o,ρ',μ',σ',a.trans x,y,z,u⟩
noncomputable def SSt (U:Bx) (n:Nat) (Φ:Calls) (st:Stmt):Prop:=
 ∀{A:Around} {E:Value→Shared→Prop} {F:List Addr} {env:Env} {G:Cx} {ρ:Rho} {s:Shared} {μ:List Addr} {σ:Store} {Q:PostS},RoomE n A→EnvR U F env G s.heap μ ρ→HRel U s.heap μ σ →
  wpS Φ (compS G st) ρ σ Q→wpAny (model U.p U.w) A (exec st env) (ResF U F env G s μ Q) E s
noncomputable def SSs (U:Bx) (n:Nat) (Φ:Calls) (st:List Stmt):Prop:=
 ∀{A:Around} {E:Value→Shared→Prop} {F:List Addr} {env:Env} {G:Cx} {ρ:Rho} {s:Shared} {μ:List Addr} {σ:Store} {Q:PostS},RoomE n A→EnvR U F env G s.heap μ ρ→HRel U s.heap μ σ →
  wpSs Φ (compSs G st) ρ σ Q→wpAny (model U.p U.w) A (execs st env) (ResF U F env G s μ Q) E s
theorem stuckS {ρ:Rho}{Q:PostS}(e:wpS Φ .stuck ρ σ Q):False:=e
theorem sos_inv {α:Type}{x:Option α}{f:α→MS}{Q:PostS}(e:wpS Φ (sos x f) ρ σ Q):∃a,x=some a∧wpS Φ (f a) ρ σ Q:=by
 induction x with
 | none=>exact e.elim
 | some a=>exact⟨a,rfl,e⟩
theorem ifst_inv {b:Bool}{m:MS}{Q:PostS}(e:wpS Φ (ifst b m) ρ σ Q):b=true∧wpS Φ m ρ σ Q:=by
 induction b with
 | false=>exact e.elim
 | true=>exact⟨rfl,e⟩
theorem EnvR.bindC (x:EnvR U F env G h μ ρ) {y:Str}{i:Nat}{c:Addr}{v:V}{val:Value}(hk:G.kinds.lookup y=some .cell) (hs:G.slot.lookup y=some i) (hc:env.cells.lookup y=some c) (hF:c∈F) (hl:c≠env.locals) (sb:Heap.SameBut c h h')
  (hn:CellAt h' c (some val)) (r:RepV U h' μ val v):EnvR U F env G h' μ (ρ.set i (some v)):=by
 refine Classical.byContradiction fun kk=>?_
 have ow:=x.own _ hF
 have tk:TupKeep h h':=fun a ob e c=>(sb.2 a (fun q=>ow.tup ob (q▸e) c)).trans e
 have set_ne:∀{j:Nat} {u:V},j≠i→(ρ.set i (some v))[j]?=some (some u)→ρ[j]?=some (some u):=fun hne e=>by rwa [List.getElem?_set_ne (Ne.symm hne)]at e
 obtain⟨oc,hc1,hc2⟩:=hn
 refine kk ?_
 refine⟨x.names,x.kind,x.glob,x.blt,fun a ha=>?_,x.locF,?_,fun z j hk' hs'=>?_,x.cinj,x.sinj,x.bound⟩
 ·obtain⟨h1,h2,⟨ob,h3⟩,h4⟩:=x.own a ha
  by_cases hne:a=c
  ·subst hne
   exact .obj h1 h2 hc1 (nt_cell hc2)
  ·exact .obj h1 h2 ((sb.2 _ hne).trans h3) (h4 _ h3)
 ·refine Classical.byContradiction fun kk=>?_
  obtain⟨m,⟨o,es,ep,ho,hn⟩,hl'⟩:=x.locs
  refine kk ?_
  refine⟨m,⟨o,es,ep,(sb.2 _ (Ne.symm hl)).trans ho,hn⟩,fun z j u a b c=>?_⟩
  have hne:j≠i:=fun q=>by
   have:z=y:=x.sinj z y i (q▸b) hs
   subst this;rw[hk]at a;cases a
  obtain⟨val',h1,h2⟩:=hl' z j u a b (set_ne hne c)
  exact⟨val',h1,h2.mono tk (List.prefix_refl _)⟩
 ·obtain⟨c',v₀,h1,⟨ob,h2,h2'⟩,h3,h4,h5,h6⟩:=x.cells z j hk' hs'
  by_cases hz:z=y
  ·subst hz
   rw[hs]at hs';cases hs'
   rw[hc]at h1;cases h1
   refine⟨c,some val,hc,⟨oc,hc1,hc2⟩,h3,h4,h5,fun u e=>⟨val,rfl,?_⟩⟩
   rw[List.getElem?_set_self']at e
   cases q:ρ[i]? with
   | none=>rw[q]at e;cases e
   | some _=>
    rw[q]at e;have:v=u:=by simpa using e
    subst this;exact r
  ·have hne:j≠i:=fun q=>hz (x.sinj z y i (q▸hs') hs)
   have hcc:c'≠c:=fun q=>hz (x.cinj z y c (q▸h1) hc)
   refine⟨c',v₀,h1,⟨ob,(sb.2 _ hcc).trans h2,h2'⟩,h3,h4,h5,fun u e=>?_⟩
   obtain⟨val',e1,e2⟩:=h6 u (set_ne hne e)
   exact⟨val',e1,e2.mono tk (List.prefix_refl _)⟩
theorem local_kind {x:Str}{i:Nat}(h:isLocalIn G x=some i):(G.kinds.lookup x=some .local∨G.kinds.lookup x=some .cell)∧G.slot.lookup x=some i:=by
 have h:(match G.kinds.lookup x with | some .local | some .cell=>G.slot.lookup x | _=>none)=some i:=h
 cases e:G.kinds.lookup x with
 | none=>rw[e]at h;exact nS h
 | some k=>rw[e]at h;induction k with
  | «local»=>exact⟨.inl rfl,h⟩
  | cell=>exact⟨.inr rfl,h⟩
  | _=>exact nS h
theorem store_sound {x:Str}{i:Nat}{val:Value}{v:V}{Q:Unit→Shared→Prop}(hx:isLocalIn G x=some i) (en:EnvR U F env G s.heap μ ρ) (hr:HRel U s.heap μ σ) (rv:RepV U s.heap μ val v)
  (hQ:∀s',StepF U F s μ s' μ σ→EnvR U F env G s'.heap μ (ρ.set i (some v))→Q () s'):wpAny (model U.p U.w) A (storeName env x val) Q E s:=by
 obtain⟨hk,hs⟩:=local_kind hx
 rcases hk with hk | hk
 ·obtain⟨m,hm,-⟩:=en.locs
  refine wpAny_storeName_local (kindOf_eq en hk (by decide)) hm (fun h' hn sb=>?_) (by simp[en.kind])
  have ow:=en.own _ en.locF
  have tk:TupKeep s.heap h':=fun a ob e c=>(sb.2 a (fun q=>ow.tup ob (q▸e) c)).trans e
  refine hQ _ ⟨hr.ext ow (AllBut.of_same sb),fun b o e Z f=>(sb.2 b fun q=>f (q▸en.locF)).trans e,List.prefix_refl _,fun Z a b=>absurd a b,fun a ha=>(en.own a ha).1,_,_,rfl⟩
   (en.bindL hk hs sb (fun m' hm'=>?_) (rv.mono tk (List.prefix_refl _)))
  refine Classical.byContradiction fun kk=>?_
  obtain⟨o,es,ep,a1,a2,a3,a4⟩:=hm
  obtain⟨o',es',ep',b1,b2,b3,b4⟩:=hm'
  rw[a1]at b1;cases b1
  rw[a2]at b2;cases b2
  have:m'=m:=funext fun z=>(b4 z).symm.trans (a4 z)
  refine kk ?_
  rw[this];exact hn
 ·obtain⟨c,v₀,h1,h2,h3,h4,h5,h6⟩:=en.cells x i (.inl hk) hs
  have hF:=h5 hk
  have ow:=en.own _ hF
  refine wpAny_storeName_cell en.kind (kindOf_eq en hk (by decide)) h1 h2 fun h' hv sb=>?_
  have tk:TupKeep s.heap h':=fun a ob e c=>(sb.2 a (fun q=>ow.tup ob (q▸e) c)).trans e
  exact hQ _ ⟨hr.ext ow (AllBut.of_same sb),fun b o e Z f=>(sb.2 b fun q=>f (q▸hF)).trans e,List.prefix_refl _,fun Z a b=>absurd a b,fun a ha=>(en.own a ha).1,_,_,rfl⟩
   (en.bindC hk hs h1 hF h4 sb hv (rv.mono tk (List.prefix_refl _)))
inductive NamesI (G:Cx):List PySem.Expr→List Nat→Prop
 | nil:NamesI G [] []
 | cons {x:Str} {p:Pos} {r:List PySem.Expr} {i:Nat} {l:List Nat} (hx:isLocalIn G x=some i) (h:NamesI G r l):NamesI G (.Name x p :: r) (i :: l)
theorem names_inv {es:List PySem.Expr}:∀{is:List Nat},namesOf G es=some is→NamesI G es is:=by
 induction es with
 | nil=>intro is h;cases h;exact .nil
 | cons e r ih=>
  intro is h
  induction e using PySem.Expr.casesOn with
  | Name x p=>
   have h:(match isLocalIn G x,namesOf G r with | some i,some l=>some (i :: l) | _,_=>none)=some is:=h
   cases hx:isLocalIn G x with
   | none=>rw[hx]at h;exact nS h
   | some i=>
    cases hr:namesOf G r with
    | none=>rw[hx,hr]at h;exact nS h
    | some l=>rw[hx,hr]at h;cases h;exact .cons hx (ih hr)
  | _=>exact nS h
theorem assign_names {es:List PySem.Expr}{is:List Nat}(hn:NamesI G es is):∀{vals:List Value}{vs:List V}{ρ:Rho}{s:Shared}{Q:Unit→Shared→Prop}(rv:RepVs U s.heap μ vals vs) (hl:vs.length=is.length) (en:EnvR U F env G s.heap μ ρ) (hr:HRel U s.heap μ σ)
  (hQ:∀s',StepF U F s μ s' μ σ→EnvR U F env G s'.heap μ (setAll is vs ρ)→Q () s'),wpAny (model U.p U.w) A (assignInOrder ((assignEach es env).map (·.2)) vals) Q E s:=by
 induction hn with
 | nil=>
  intro vals vs ρ s Q rv hl en hr hQ
  exact wpAny_pure (hQ s (StepF.refl hr en) (by induction vs <;> exact en))
 | @cons x p r i l hx hr' ih=>
  intro vals vs ρ s Q rv hl en hr hQ
  induction vs with
  | nil=>exact absurd hl (Nat.succ_ne_zero _).symm
  | cons v vs=>
   cases rv with
   | @cons val _ vals _ a b=>
    show wpAny _ _ (do holding vals (assign (.Name x p) env val);assignInOrder ((assignEach r env).map (·.2)) vals) _ _ _
    refine wpAny_bind (wpAny_holding (wpAny_assign_Name (store_sound hx en hr a fun s' sf en'=>?_)))
    exact ih (b.mono (sf.tk hr en) (List.prefix_refl _)) (Nat.succ.inj hl) en' sf.hrel fun s'' sf' en''=>hQ s'' (sf.trans sf') en''
end
section
variable {U:Bx}{h:Heap}{μ μ' μ₁:List Addr}{σ σ' σ₁:Store}{s s' s₁:Shared}{A:Around}{E:Value→Shared→Prop}{F:List Addr}{env:Env}{G:Cx}{ρ:Rho}{n:Nat}{Φ:Calls}
theorem swaps_plain {v:PySem.Expr}{t:Option PySem.Expr}{l:Nat}(h1:∀a b c d,v≠.ListComp a b c d) (h2:∀a b c d,v≠.SetComp a b c d) (h3:∀a b c d e,v≠.DictComp a b c d e):swapsWith v t l env=pure false:=by
 induction v using PySem.Expr.casesOn <;> first | rfl | exact absurd rfl (h1 _ _ _ _) | exact absurd rfl (h2 _ _ _ _) | exact absurd rfl (h3 _ _ _ _ _)
theorem swaps_other {v t:PySem.Expr}{l:Nat}(h:∀x p,t≠.Name x p):swapsWith v (some t) l env=pure false:=by
 induction v using PySem.Expr.casesOn <;> first | rfl | (induction t using PySem.Expr.casesOn <;> first | rfl | exact absurd rfl (h _ _))
theorem comps_stuck {v:PySem.Expr}{Q:Post}(e:wpE Φ (compE G v).1 ρ σ Q):(∀a b c d,v≠.SetComp a b c d)∧(∀a b c d e,v≠.DictComp a b c d e):=by
 constructor
 ·rintro a b c d rfl
  exact stuckE e
 ·rintro a b c d f rfl
  exact stuckE e
theorem Res.toF {Q:Post}{R:Value→Shared→Prop}{m:Sem Value}(en:EnvR U F env G s.heap μ ρ) (hr:HRel U s.heap μ σ) (hm:wpAny (model U.p U.w) A m (Res U s μ Q) E s)
  (k:∀v u s₁ μ₁ σ₁,StepF U F s μ s₁ μ₁ σ₁→EnvR U F env G s₁.heap μ₁ ρ→RepV U s₁.heap μ₁ v u→Q u σ₁→R v s₁):wpAny (model U.p U.w) A m R E s:=
 Res.bind hm fun v u s₁ μ₁ σ₁ st rv q=>k v u s₁ μ₁ σ₁ (st.toF hr en) (en.step hr st) rv q
theorem ss_return (fx:Fx U n Φ) {v:Option PySem.Expr}{p:Pos}:SSt U n Φ (.Return v p):=by
 intro A E F env G ρ s μ σ Q hA en hr e
 induction v with
 | none=>
  exact wpAny_Return_none ⟨.ret .none,ρ,μ,σ,StepF.refl hr en,en,(.ret .none),e⟩
 | some v=>
  exact wpAny_Return_some (Res.toF en hr (SE.of fx v hA en hr e) fun x u s₁ μ₁ σ₁ sf en' rv q=>⟨.ret u,ρ,μ₁,σ₁,sf,en',(.ret rv),q⟩)
theorem ss_cont {p:Pos}:SSt U n Φ (.Continue p):=by
 intro A E F env G ρ s μ σ Q hA en hr e
 exact wpAny_Continue ⟨.cont,ρ,μ,σ,StepF.refl hr en,en,.cont,e⟩
theorem ss_expr (fx:Fx U n Φ) {v:PySem.Expr}{p:Pos}:SSt U n Φ (.Expr v p):=by
 intro A E F env G ρ s μ σ Q hA en hr e
 obtain⟨hl,e⟩:=ifst_inv e
 obtain⟨h2,h3⟩:=comps_stuck e
 exact wpAny_Expr_any (Res.toF en hr (SE.of fx v hA en hr e) fun x u s₁ μ₁ σ₁ sf en' rv q=>⟨.nx,ρ,μ₁,σ₁,sf,en',.nx,q⟩) (by unfold interactive;rw[en.kind];rfl) (swaps_plain (fun a b c d z=>by rw[z]at hl;cases hl) h2 h3)
theorem ss_if (fx:Fx U n Φ) {t:PySem.Expr}{b o:List Stmt}{p:Pos}(hb':SSs U n Φ b) (ho:SSs U n Φ o):SSt U n Φ (.If t b o p):=by
 intro A E F env G ρ s μ σ Q hA en hr e
 refine wpAny_If (ResB.bind (SC.of fx t hA en hr e) fun c s₁ μ₁ σ₁ st q=>?_)
 have en':=en.step hr st
 induction c with
 | true=>exact wpAny_mono (hb' hA en' st.hrel q) (fun Z Z z=>ResF.trans (st.toF hr en) z) fun Z Z e=>e
 | false=>exact wpAny_mono (ho hA en' st.hrel q) (fun Z Z z=>ResF.trans (st.toF hr en) z) fun Z Z e=>e
theorem ss_nil:SSs U n Φ []:=by
 intro A E F env G ρ s μ σ Q hA en hr e
 exact wpAny_execs_nil ⟨.nx,ρ,μ,σ,StepF.refl hr en,en,.nx,e⟩
theorem ss_cons {st:Stmt}{r:List Stmt}(h1:SSt U n Φ st) (h2:SSs U n Φ r):SSs U n Φ (st :: r):=by
 intro A E F env G ρ s μ σ Q hA en hr e
 refine wpAny_execs_cons (wpAny_mono (h1 hA en hr e) (fun fl s₁ z=>?_) fun Z Z e=>e)
 obtain⟨o,ρ',μ',σ',sf,en',ho,q⟩:=z
 induction ho with
 | nx=>
  exact wpAny_mono (h2 hA en' sf.hrel q) (fun Z Z z=>ResF.trans sf z) fun Z Z e=>e
 | cont=>
  exact⟨.cont,ρ',μ',σ',sf,en',.cont,q⟩
 | @ret v val rv=>
  exact⟨.ret v,ρ',μ',σ',sf,en',(.ret rv),q⟩
theorem ss_try {b o f:List Stmt}{hs:List ExceptHandler}{p:Pos}(hb':SSs U n Φ b):SSt U n Φ (.Try b hs o f p):=by
 intro A E F env G ρ s μ σ Q hA en hr e
 induction o with
 | cons=>exact(stuckS e).elim
 | nil=>
 induction f with
 | cons=>exact(stuckS e).elim
 | nil=>
 show wpAny _ _ (do standAt p;tryStmt false (execs b env) hs (execs [] env) [] env) _ _ _
 refine wpAny_bind (wpAny_standAt ?_)
 unfold tryStmt
 dsimp only
 rw[if_pos (show([]:List Stmt).isEmpty=true from rfl)]
 refine wpAny_bind (wpAny_attempt (wpAny_mono (hb' hA en hr e) (fun fl s₁ z=>?_) fun Z Z e=>e))
 obtain⟨o,ρ',μ',σ',sf,en',ho,q⟩:=z
 induction ho with
 | nx=>
  exact wpAny_execs_nil (⟨.nx,ρ',μ',σ',sf,en',.nx,q⟩)
 | cont=>
  exact wpAny_pure ⟨.cont,ρ',μ',σ',sf,en',.cont,q⟩
 | @ret v val rv=>
  exact wpAny_pure ⟨.ret v,ρ',μ',σ',sf,en',(.ret rv),q⟩
theorem aug_inv {i:Nat}{v:PySem.Expr}{o:BOp}{Q:PostS}(e:(match ρ[i]? with | some (some (.int j))=>wpE Φ (compE G v).1 ρ σ (augK i j o ρ Q) | _=>False)):∃j,ρ[i]?=some (some (.int j))∧wpE Φ (compE G v).1 ρ σ (augK i j o ρ Q):=by
 cases h:ρ[i]? with
 | none=>rw[h]at e;exact e.elim
 | some z=>rw[h]at e;induction z with
  | none=>exact e.elim
  | some z=>induction z using V.casesOn with
   | int j=>exact⟨j,rfl,e⟩
   | _=>exact e.elim
theorem augK_inv {i:Nat}{j:Int}{o:BOp}{Q:PostS}{u:V}(q:augK i j o ρ Q u σ):∃k,o = .add∧u = .int k∧Q .nx (ρ.set i (some (.int (j+k)))) σ:=by
 induction o with
 | add=>induction u using V.casesOn with
  | int k=>exact⟨k,rfl,rfl,q⟩
  | _=>exact q.elim
 | _=>exact q.elim
theorem ss_aug (fx:Fx U n Φ) {t v:PySem.Expr}{op:Operator}{p:Pos}:SSt U n Φ (.AugAssign t op v p):=by
 intro A E F env G ρ s μ σ Q hA en hr e
 induction t using PySem.Expr.casesOn with
 | Name x q=>
 refine Classical.byContradiction fun kk=>?_
 obtain⟨i,hx,e⟩:=sos_inv e
 obtain⟨o,ho,e⟩:=sos_inv e
 obtain⟨j,hj,e⟩:=aug_inv e
 obtain⟨hk,hs⟩:=local_kind hx
 have hk':G.kinds.lookup x=some .local∨G.kinds.lookup x=some .cell∨G.kinds.lookup x=some .free:=hk.elim .inl fun z=>.inr (.inl z)
 have load:∀{R:Value→Shared→Prop},(∀val,RepV U s.heap μ val (.int j)→R val s)→wpAny (model U.p U.w) A (loadName env x) R E s:=by
  intro R hR
  rcases hk with hk | hk
  ·obtain⟨m,h1,h2⟩:=en.locs
   obtain⟨val,e1,e2⟩:=h2 x i _ hk hs hj
   exact wpAny_loadName_local en.kind (kindOf_eq en hk (by decide)) h1 e1 (hR val e2)
  ·obtain⟨c,v₀,h1,h2,-,-,-,h3⟩:=en.cells x i (.inl hk) hs
   obtain⟨val,rfl,e2⟩:=h3 _ hj
   exact wpAny_loadName_cell en.kind (kindOf_eq en hk (by decide)) h1 h2 (hR val e2)
 refine kk ?_
 refine wpAny_AugAssign_Name (load fun old ro=>Res.toF en hr (SE.of fx v hA en hr e) fun y u s₁ μ₁ σ₁ sf en' rv q=>?_)
 obtain⟨t⟩:=repV_int ro
 obtain⟨k,e1,e2,q⟩:=augK_inv q
 rw[e2]at rv
 obtain⟨t'⟩:=repV_int rv
 rw[bopOf_inv (ho.trans (congrArg some e1))]
 refine iadd_int (store_sound (s:={ s₁ with toks:=s₁.toks+1 }) (v:=.int (j+k)) hx en' sf.hrel (.int _ _) fun s' sf' en''=>?_)
 exact⟨.nx,_,μ₁,σ₁,(sf.trans ((Step.toks sf.hrel).toF sf.hrel en')).trans sf',en'',.nx,q⟩
 | _=>exact(stuckS e).elim
end
section
variable {U:Bx}{h h':Heap}{μ μ' μ₁:List Addr}{σ σ' σ₁:Store}{s s' s₁:Shared}{A:Around}{E:Value→Shared→Prop}{F:List Addr}{env:Env}{G:Cx}{ρ:Rho}{n:Nat}{Φ:Calls}
theorem notF (en:EnvR U F env G s.heap μ ρ) {I:Addr}(h:s.heap.get? I=none):I∉F:=fun m=>by
 obtain⟨-,-,⟨o,e⟩,-⟩:=en.own I m
 rw[h]at e;cases e
theorem ns_cell {C:Addr}{m}(hm:h.Ns C m):∀c v₀,CellAt h c v₀→c≠C:=by
 refine Classical.byContradiction fun kk=>?_
 obtain⟨o,es,ep,h1,h2,_⟩:=hm
 refine kk ?_
 rintro c v₀ ⟨o',e',d'⟩ rfl
 rw[h1]at e';cases e';rw[h2]at d';cases d'
theorem ss_assign_name (fx:Fx U n Φ) {x:Str}{q p:Pos}{v:PySem.Expr}:SSt U n Φ (.Assign [.Name x q] v p):=by
 intro A E F env G ρ s μ σ Q hA en hr e
 obtain⟨i,hx,e⟩:=sos_inv e
 have plain:swapsWith v (some (.Name x q)) p.line env=pure false→wpAny (model U.p U.w) A (exec (.Assign [.Name x q] v p) env) (ResF U F env G s μ Q) E s:=fun hs=>
  wpAny_Assign_Name (Res.toF en hr (SE.of fx v hA en hr e) fun y u s₁ μ₁ σ₁ sf en' rv qq=>store_sound hx en' sf.hrel rv fun s' sf' en''=>⟨.nx,_,μ₁,σ₁,sf.trans sf',en'',.nx,qq⟩) hs
 by_cases hl:∃a b c d,v = .ListComp a b c d
 ·obtain⟨elt,gens,sc,cp,rfl⟩:=hl
  cases hB:(env.blockKind == .function&&env.kindOf x==some .local&&q.line==(PySem.Expr.ListComp elt gens sc cp).pos.line&&!(sc.names.any fun(n,k)=>n==x&&(k == .local || k == .cell))) with
  | false=>exact plain (by show pure _=_;rw[hB])
  | true=>
   refine Classical.byContradiction fun kk=>?_
   have hsw:swapsWith (.ListComp elt gens sc cp) (some (.Name x q)) p.line env=pure true:=by show pure _=_;rw[hB]
   have e:wpE Φ (compE G (.ListComp elt gens sc cp)).1 ρ σ (asgK i ρ Q):=e
   obtain⟨y,py,iter,ifs,rfl,hok,hset,e⟩:=comp_one e
   obtain⟨k1,k2,k3,k4⟩:=compOk_of hok
   have hclos:=clos_ok hok en
   refine kk ?_
   rw[exec_Assign_Name_used _ _ _ _ hsw]
   refine wpAny_bind (wpAny_standAt (wpAny_bind ?_))
   show wpAny _ A (do let _ ←comprehension (.ListComp elt [⟨.Name y py,iter,ifs,0⟩] sc cp) sc env _ (newList []) false (eval iter env) (some (assign (.Name x q) env))) _ _ s
   refine wpAny_bind (wpAny_mono (wpAny_comprehension_free (use:=some (assign (.Name x q) env)) (Q:=fun Z s'=>ResF U F env G s μ Q .next s') rfl (folded_plain hset) hclos k1 (fun y hy hl=>by rw[k3 y hy,hl])
    (Res.bind (SE.of fx iter hA en hr e) fun xv v s₁ μ₁ σ₁ st rv qq=>?_)) (fun Z s' hq=>wpAny_pure (wpAny_pure hq)) fun Z Z e=>e)
   obtain⟨hit,qq⟩:=qq
   ·refine comp_core (RR:=fun acc C=>compPost (model U.p U.w) A E (some (assign (.Name x q) env)) (fun Z s'=>ResF U F env G s μ Q .next s') acc C) hok (SE.of fx elt) (fun c Z=>SC.of fx c) hA (en.step hr st) st.hrel rv hit qq ?_
    intro D C s' μ' σ' sp oC hC ⟨m,hm⟩ rD q'
    have en1:=en.step hr st
    have en2:=en1.step st.hrel sp
    have hCF:=notF en1 hC
    show wpAny _ A (assign (.Name x q) env (.ref D)) _ _ _
    refine wpAny_assign_Name (store_sound hx en2 sp.hrel rD fun s'' sf' en''=>?_)
    have hm2:s''.heap.Ns C m:=by
     obtain⟨o,es,ep,z1,z2⟩:=hm
     exact⟨o,es,ep,sf'.keep _ _ z1 oC.loc hCF,z2⟩
    have oC2:Own U.hb s''.heap μ' C:=ns_own hm2 oC.loc oC.base
    refine⟨m,hm2,fun h' sb=>?_⟩
    have sfA:=((st.toF hr en).trans ((sp.toF st.hrel en1).trans sf'))
    have hCs:s.heap.get? C=none:=by
     cases z:s.heap.get? C with
     | none=>rfl
     | some o=>
      by_cases zm:C∈μ
      ·obtain⟨ob,z1,_⟩:=st.hrel.mem (st.pre.subset zm)
       rw[hC]at z1;cases z1
      ·rw[st.keep _ _ z zm]at hC;cases hC
    exact⟨.nx,_,μ',σ',sfA.ext oC2 hCs (AllBut.of_same sb),en''.ext oC2 hCF (ns_cell hm2) (AllBut.of_same sb),.nx,q'⟩
 ·obtain⟨h2,h3⟩:=comps_stuck e
  exact plain (swaps_plain (fun a b c d z=>hl ⟨a,b,c,d,z⟩) h2 h3)
theorem ss_assign_sub (fx:Fx U n Φ) {o i v:PySem.Expr}{q p:Pos}:SSt U n Φ (.Assign [.Subscript o i q] v p):=by
 intro A E F env G ρ s μ σ Q hA en hr e
 refine Classical.byContradiction fun kk=>?_
 obtain⟨-,e⟩:=ifst_inv e
 obtain⟨-,e⟩:=ifst_inv e
 refine kk ?_
 refine wpAny_Assign_Subscript (Res.bind (SE.of fx v hA en hr e) fun y u s₁ μ₁ σ₁ st rv q1=>Res.bind (SE.of fx o hA (en.step hr st) st.hrel q1) fun ov uo s₂ μ₂ σ₂ st2 ro q2=>
  Res.bind (SE.of fx i hA ((en.step hr st).step st.hrel st2) st2.hrel q2) fun iv ui s₃ μ₃ σ₃ st3 ri q3=>?_) (swaps_other fun Z Z z=>by cases z)
 have tk2:=st.hrel.tupKeep st2.keep
 have tk3:=st2.hrel.tupKeep st3.keep
 refine setitem_sound hA.u st3.hrel (ro.mono tk3 st3.pre) ri ((rv.mono tk2 st2.pre).mono tk3 st3.pre) q3 fun s' z=>?_
 obtain⟨μ',σ',st4,q4⟩:=z
 have sp:=((st.trans st2).trans st3).trans st4
 exact⟨.nx,ρ,μ',σ',sp.toF hr en,en.step hr sp,.nx,q4⟩
theorem release_any {vs keep:List Value}{Q:Unit→Shared→Prop}(q:Q () s):wpAny (model U.p U.w) A (release vs keep) Q E s:=fun Γ p hΓ=>by
 rw[Sem.wp_release];exact q
theorem dict0_inv {v:PySem.Expr}(h:isDict0 v=true):∃dp,v = .Dict [] [] dp:=by
 induction v using PySem.Expr.casesOn with
 | Dict ks vs dp=>induction ks with
  | nil=>induction vs with
   | nil=>exact⟨dp,rfl⟩
   | cons=>exact bff h
  | cons=>exact bff h
 | _=>exact bff h
theorem ss_assign_attr (fx:Fx U n Φ) {o v:PySem.Expr}{x:Str}{q p:Pos}:SSt U n Φ (.Assign [.Attribute o x q] v p):=by
 intro A E F env G ρ s μ σ Q hA en hr e
 obtain⟨-,e⟩:=ifst_inv e
 obtain⟨f,hf,e⟩:=sos_inv e
 have main:∀{Q':Post},wpAny (model U.p U.w) A (eval v env) (Res U s μ Q') E s→(∀v σ,Q' v σ→wpE Φ (compE G o).1 ρ σ fun t σ=>setattrR t f v σ fun σ=>Q .nx ρ σ) →
   wpAny (model U.p U.w) A (exec (.Assign [.Attribute o x q] v p) env) (ResF U F env G s μ Q) E s:=by
  intro Q' he hQ'
  refine wpAny_Assign_stores (Res.bind he fun y u s₁ μ₁ σ₁ st rv q1=>?_) (show swapsWith v (some (.Attribute o x q)) p.line env=pure false from swaps_other fun Z Z z=>by cases z) rfl
  show wpAny _ _ (do
   let ov ←holding [y] (eval o env)
   standAt q.atName
   holding [y,ov] (setAttr ov x y)
   release [y,ov] []) _ _ _
  refine wpAny_bind (wpAny_holding (Res.bind (SE.of fx o hA (en.step hr st) st.hrel (hQ' _ _ q1)) fun ov uo s₂ μ₂ σ₂ st2 ro q2=>wpAny_bind (wpAny_standAt (wpAny_bind (wpAny_holding ?_)))))
  refine setattr_sound fx.cls (code_get hf) st2.hrel (fx.Xs st2.hrel) ro (rv.mono (st.hrel.tupKeep st2.keep) st2.pre) q2 fun s' z=>release_any ?_
  obtain⟨μ',σ',st3,q3⟩:=z
  have sp:=(st.trans st2).trans st3
  exact⟨.nx,ρ,μ',σ',sp.toF hr en,en.step hr sp,.nx,q3⟩
 cases h:isDict0 v with
 | false=>
  have hm:attrV x v (compE G v).1=(compE G v).1:=by unfold attrV;rw[h]
  have e:wpE Φ (attrV x v (compE G v).1) ρ σ (satK (wpE Φ (compE G o).1) f ρ Q):=e
  rw[hm]at e
  exact main (SE.of fx v hA en hr e) fun Z Z z=>z
 | true=>
  obtain⟨dp,rfl⟩:=dict0_inv h
  obtain⟨sort,e⟩:∃sort,dictR sort [] σ (satK (wpE Φ (compE G o).1) f ρ Q):=by
   have e:wpE Φ (attrV x (.Dict [] [] dp) (compE G (.Dict [] [] dp)).1) ρ σ (satK (wpE Φ (compE G o).1) f ρ Q):=e
   unfold attrV at e
   cases ht:tupAttrs.contains x with
   | true=>rw[ht]at e;exact⟨2,e⟩
   | false=>rw[ht]at e;exact⟨0,e⟩
  exact main (se_dict0 hr e) fun Z Z z=>z
end
section
variable {U:Bx}{h h':Heap}{μ μ₁:List Addr}{σ σ₁:Store}{s s' s₁:Shared}{A:Around}{E:Value→Shared→Prop}{F:List Addr}{env:Env}{G:Cx}{ρ:Rho}{n:Nat}{Φ:Calls}
theorem items_of_seq {v:V}{vs:List V}(e:seqOf σ v=some vs):itemsOf σ v=some vs:=by
 induction seq_inv e with
 | tup=>rfl
 | list h=>dsimp only[itemsOf];rw[h]
theorem draw_sound {k:ItK}{v:V}{I:Addr}{items:List V}{m:Nat}:∀{i:Nat}{s:Shared}{Q:List Value→Shared→Prop}(hr:HRel U s.heap μ σ) (sr:Src k σ items) (x:ItSt U k v I i items s.heap μ) (h1:I∉μ) (h2:U.hb.get? I=none) (hm:i+m≤items.length)
  (hQ:∀vals h',vals.length=m→RepVs U h' μ vals ((items.drop i).take m)→ItSt U k v I (i+m) items h' μ→AllBut I s.heap h'→Q vals { s with heap:=h' }),wpAny (model U.p U.w) A (draw (.ref I) m) Q E s:=by
 induction m with
 | zero=>
  intro i s Q hr sr x h1 h2 hm hQ
  exact wpAny_pure (hQ [] s.heap rfl (by simp;exact .nil) x fun Z Z Z e=>e)
 | succ m ih=>
  intro i s Q hr sr x h1 h2 hm hQ
  have hlt:i < items.length:=Nat.lt_of_lt_of_le (Nat.lt_add_of_pos_right (Nat.succ_pos m)) hm
  show wpAny _ _ (pyNext (.ref I) >>= _) _ _ _
  refine wpAny_bind (it_next hr sr x (x.own h1 h2) (List.getElem?_eq_getElem hlt) fun val h' rv x' sb=>?_)
  have ab:=AllBut.of_same sb
  refine wpAny_bind (wpAny_holding (ih (s:={ s with heap:=h' }) (hr.ext (x.own h1 h2) ab) sr x' h1 h2 (by lia) fun vals h'' hl rs x'' ab'=>wpAny_pure ?_))
  refine hQ _ h'' (congrArg (·+1) hl) ?_ (by rw[show i+(m+1)=i+1+m by lia];exact x'') fun b o hb e=>ab' b o hb (ab b o hb e)
  rw[List.drop_eq_getElem_cons hlt,List.take_succ_cons]
  exact .cons (rv.mono (tk_allBut (x'.own h1 h2) ab') (List.prefix_refl _)) rs
theorem unpackItems_sound {x:Value}{v:V}{vs:List V}{Q:List Value→Shared→Prop}(hh:A.handled=none) (hr:HRel U s.heap μ σ) (rx:RepV U s.heap μ x v) (e:seqOf σ v=some vs)
  (hQ:∀vals h',(∀b o,s.heap.get? b=some o→h'.get? b=some o)→RepVs U h' μ vals vs→Q vals { s with heap:=h' }):wpAny (model U.p U.w) A (unpackItems x vs.length none) Q E s:=by
 have iter:∃T id,s.TypeIs x T∧Slot T "__iter__" id:=by
  cases seq_inv e with
  | tup=>
   obtain⟨a,its,m,h1,h2⟩:=repV_tup rx
   exact⟨"tuple",_,⟨_,h1,rfl⟩,PySem.F.slot_tuple_iter⟩
  | list hl=>
   obtain⟨a,its,m,ha,h1,h2⟩:=hr.listv rx hl
   exact⟨"list",_,⟨_,h1,rfl⟩,slot_list_iter⟩
 obtain⟨T,id,hT,sl⟩:=iter
 unfold unpackItems
 refine wpAny_bind ?_
 unfold notIterableAtAll
 refine wpAny_bind (wpAny_specialOf hT sl.lookup ?_)
 refine wpAny_pure ?_
 simp only[Bool.false_eq_true,if_false]
 refine wpAny_bind (wpAny_holding (it_make hr rx (items_of_seq e) fun k ob hnt hfr st sr=>?_))
 have hI:=hr.freshAt
 have hIb:=hr.sizeNone
 have kp0:∀b o,s.heap.get? b=some o→(s.heap.push ob).get? b=some o:=fun b o e=>Heap.get?_push_of_some _ e
 refine wpAny_bind (wpAny_holding (draw_sound (s:={ s with heap:=s.heap.push ob }) (hr.keeps kp0) sr st hI hIb (by lia) fun vals h' hl rs st' ab=>?_))
 rw[List.drop_zero,List.take_of_length_le (Nat.le_refl _)]at rs
 rw[if_neg (by rw[hl];lia)]
 have kp1:∀b o,s.heap.get? b=some o→h'.get? b=some o:=fun b o e=>ab b o (Heap.push_fresh e) (kp0 b o e)
 refine wpAny_bind (wpAny_holding (it_done (s:={ s with heap:=h' }) hh (hr.keeps kp1) sr (by rw[Nat.zero_add]at st';exact st') fun h'' ab'=>?_))
 simp only[Option.isSome_none,Bool.false_eq_true,if_false]
 refine wpAny_pure (hQ vals h'' (fun b o e=>ab' b o (Heap.push_fresh e) (kp1 b o e)) (rs.mono (tk_allBut (st'.own hI hIb) ab') (List.prefix_refl _)))
theorem names_plain {es:List PySem.Expr}{is:List Nat}(h:NamesI G es is):(assignEach es env).length=is.length∧(assignEach es env).findIdx? (·.1)=none:=by
 induction h with
 | nil=>exact⟨rfl,rfl⟩
 | @cons x p r i l hx h ih=>
  refine⟨congrArg (·+1) ih.1,?_⟩
  show((false,_) :: assignEach r env).findIdx? (·.1)=none
  rw[List.findIdx?_cons]
  simp[ih.2]
theorem unpack_sound {es:List PySem.Expr}{is:List Nat}{x:Value}{v:V}{P:Rho→Prop}{k:Nat}{tp:Pos}{Q:Unit→Shared→Prop}(hn:namesOf G es=some is) (hh:A.handled=none) (en:EnvR U F env G s.heap μ ρ) (hr:HRel U s.heap μ σ) (rx:RepV U s.heap μ x v)
  (e:bindR σ (.inr is) v ρ P) (hQ:∀s' ρ',StepF U F s μ s' μ σ→EnvR U F env G s'.heap μ ρ'→P ρ'→Q () s'):wpAny (model U.p U.w) A (assign (.Tuple es k tp) env x) Q E s:=by
 have e:(match seqOf σ v with | some vs=>vs.length=is.length∧P (setAll is vs ρ) | none=>False):=e
 cases hvs:seqOf σ v with
 | none=>rw[hvs]at e;exact e.elim
 | some vs=>
  rw[hvs]at e
  obtain⟨hl,e⟩:=e
  obtain⟨h1,h2⟩:=names_plain (env:=env) (names_inv hn)
  show wpAny _ _ (do standAt tp;unpack x (assignEach es env)) _ _ _
  refine wpAny_bind (wpAny_standAt ?_)
  unfold unpack
  rw[h1,h2,←hl]
  refine wpAny_bind (wpAny_holding (unpackItems_sound hh hr rx hvs fun vals h' kp rs=>?_))
  have st:Step U s μ { s with heap:=h' } μ σ:=Step.keeps (t:=s.toks) hr kp
  refine assign_names (s:={ s with heap:=h' }) (names_inv hn) rs hl (en.step hr st) st.hrel fun s' sf en'=>hQ s' _ ((st.toF hr en).trans sf) en' e
theorem ss_assign_tuple (fx:Fx U n Φ) {es:List PySem.Expr}{k:Nat}{v:PySem.Expr}{q p:Pos}:SSt U n Φ (.Assign [.Tuple es k q] v p):=by
 intro A E F env G ρ s μ σ Q hA en hr e
 obtain⟨is,hn,e⟩:=sos_inv e
 obtain⟨ht,e⟩:=ifst_inv e
 have hw:swappedStores [.Tuple es k q] v env=pure none:=by
  unfold swappedStores
  induction v using PySem.Expr.casesOn <;> first | rfl | cases ht
 refine Assign_Tuple (Res.toF en hr (SE.of fx v hA en hr e) fun x u s₁ μ₁ σ₁ sf en' rv qq=>unpack_sound hn hA.handled en' sf.hrel rv qq fun s' ρ' sf' en'' q'=>⟨.nx,ρ',μ₁,σ₁,sf.trans sf',en'',.nx,q'⟩)
  (show swapsWith v (some (.Tuple es k q)) p.line env=pure false from swaps_other fun Z Z z=>by cases z) hw
end
section
variable {U:Bx}{h:Heap}{μ μ' μ₁:List Addr}{σ σ' σ₁:Store}{s s' s₁:Shared}{A:Around}{E:Value→Shared→Prop}{F:List Addr}{env:Env}{G:Cx}{ρ:Rho}{n:Nat}{Φ:Calls}
theorem ss_while (fx:Fx U n Φ) {t:PySem.Expr}{b o:List Stmt}{p:Pos}(hb':SSs U n Φ b):SSt U n Φ (.While t b o p):=by
 intro A E F env G ρ s μ σ Q hA en hr e
 induction o with
 | cons=>exact(stuckS e).elim
 | nil=>
 refine Classical.byContradiction fun kk=>?_
 obtain⟨I,⟨k,hI⟩,turn⟩:=e
 refine kk ?_
 refine wpAny_While (codeAny_whileLoop (fun m s'=>∃ρ' μ' σ',StepF U F s μ s' μ' σ'∧EnvR U F env G s'.heap μ' ρ'∧I m ρ' σ') ?_ k ⟨ρ,μ,σ,StepF.refl hr en,en,hI⟩)
 rintro m s' ⟨ρ',μ',σ',sf,en',hI'⟩
 refine ResB.bind (SC.of fx t hA en' sf.hrel (turn m ρ' σ' hI')) fun c s₁ μ₁ σ₁ st q=>?_
 have en1:=en'.step sf.hrel st
 have sf1:=sf.trans (st.toF sf.hrel en')
 induction c with
 | false=>
  simp only[Bool.false_eq_true,if_false]
  exact wpAny_execs_nil ⟨.nx,ρ',μ₁,σ₁,sf1,en1,.nx,q⟩
 | true=>
  simp only[if_true]
  refine wpAny_mono (hb' hA en1 st.hrel q) (fun fl s₂ z=>?_) fun Z Z e=>e
  obtain⟨o,ρ₂,μ₂,σ₂,sf2,en2,ho,q2⟩:=z
  induction ho with
  | nx=>
   obtain⟨m',hm',q2⟩:=q2
   exact⟨m',hm',ρ₂,μ₂,σ₂,sf1.trans sf2,en2,q2⟩
  | cont=>
   obtain⟨m',hm',q2⟩:=q2
   exact⟨m',hm',ρ₂,μ₂,σ₂,sf1.trans sf2,en2,q2⟩
  | @ret v val rv=>
   exact⟨.ret v,ρ₂,μ₂,σ₂,sf1.trans sf2,en2,(.ret rv),q2⟩
noncomputable def TgtOk (G:Cx) (target:PySem.Expr) (xs:Nat ⊕ List Nat):Prop:=
 (∃x p i,target = .Name x p∧isLocalIn G x=some i∧xs = .inl i)∨(∃es k p is,target = .Tuple es k p∧namesOf G es=some is∧xs = .inr is)
theorem bind_sound {target:PySem.Expr}{xs:Nat ⊕ List Nat}{x:Value}{v:V}{P:Rho→Prop}{Q:Unit→Shared→Prop}(ht:TgtOk G target xs) (hh:A.handled=none) (en:EnvR U F env G s.heap μ ρ) (hr:HRel U s.heap μ σ) (rx:RepV U s.heap μ x v)
  (e:bindR σ xs v ρ P) (hQ:∀s' ρ',StepF U F s μ s' μ σ→EnvR U F env G s'.heap μ ρ'→P ρ'→Q () s'):wpAny (model U.p U.w) A (assign target env x) Q E s:=by
 rcases ht with⟨y,p,i,rfl,hy,rfl⟩ | ⟨es,k,p,is,rfl,hn,rfl⟩
 ·unfold bindR at e
  exact wpAny_assign_Name (store_sound hy en hr rx fun s' sf en'=>hQ s' _ sf en' e)
 ·exact unpack_sound hn hh en hr rx e hQ
set_option backward.match.sparseCases true in
theorem owned_go {k:ItK}{v:V}{I:Addr}{i:Nat}{items:List V}{target:PySem.Expr}{val:Value}{Q:Unit→Shared→Prop}(x:ItSt U k v I i items s.heap μ) (q:Q () s):wpAny (model U.p U.w) A (letOwnedTupleGo target (.ref I) val) Q E s:=by
 have cls:∃T o fs,s.heap.get? I=some o∧o.cls = .type T∧o.data = .fields fs∧["enumerate","zip","dict_itemiterator","dict_reverseitemiterator","odict_iterator","itertools.zip_longest","itertools.pairwise"].contains T=false:=by
  induction k with
  | tup t=>obtain⟨-,⟨o,h1,h2,h3⟩,-⟩:=x;exact⟨_,o,_,h1,h2,h3,by decide⟩
  | list l=>obtain⟨-,a,-,o,h1,h2,h3⟩:=x;exact⟨_,o,_,h1,h2,h3,by decide⟩
  | dict l=>obtain⟨-,a,-,o,h1,h2,h3⟩:=x;exact⟨_,o,_,h1,h2,h3,by decide⟩
 obtain⟨T,o,fs,h1,h2,h3,h4⟩:=cls
 have main:∀a:Addr,wpAny (model U.p U.w) A (do
   let o ←load I
   match o.cls,o.data with
   | .type n,.fields vs=>
    if ["enumerate","zip","dict_itemiterator","dict_reverseitemiterator","odict_iterator","itertools.zip_longest","itertools.pairwise"].contains n&&vs[0]?==some (rawInt a) then
     rule "for.unpacks-the-owned-tuple"
     updateField I 0 .none
   | _,_=>pure ():Sem Unit) Q E s:=by
  intro a
  refine wpAny_bind (wpAny_load h1 ?_)
  rw[h2,h3]
  dsimp only
  rw[if_neg (by rw[h4];simp)]
  exact wpAny_pure q
 have main2:wpAny (model U.p U.w) A (letOwnedTupleGo (.Tuple [] 0 default) (.ref I) val) Q E s:=by
  induction val using PySem.Value.casesOn <;> first | exact wpAny_pure q | exact main _
 induction target using PySem.Expr.casesOn <;> first | exact main2 | exact wpAny_pure q
inductive FrI (U:Bx) (F:List Addr) (s:Shared) (μ:List Addr) (env:Env) (G:Cx) (v:V) (σ:Store) (items:List V) (kk:ItK) (I:Addr) (src:Store→Prop) (step:V→Rho→Store→PostS→Prop) (Q:PostS):Nat→Shared→Prop
 | mk {i:Nat} {ρ':Rho} {s':Shared} {μ':List Addr} {σ':Store} (hi:i≤items.length) (sf:StepF U F s μ s' μ' σ') (en:EnvR U F env G s'.heap μ' ρ') (st:ItSt U kk v I i items s'.heap μ') (hm:I∉μ') (fe:forItems src step (items.drop i) ρ' σ' Q) :
   FrI U F s μ env G v σ items kk I src step Q (items.length+1 - i) s'
theorem fr_lt {n i:Nat}(h:i < n):n+1 - (i+1) < n+1 - i:=cp_lt h
theorem for_core (fx:Fx U n Φ) {target:PySem.Expr}{xs:Nat ⊕ List Nat}{b:List Stmt}(ht:TgtOk G target xs) (hb':SSs U n Φ b) (hA:RoomE n A) (en:EnvR U F env G s.heap μ ρ) (hr:HRel U s.heap μ σ)
  {xv:Value} {v:V} {items:List V} (rx:RepV U s.heap μ xv v) (hit:itemsOf σ v=some items) {Q:PostS}
  (e:forItems (srcOk v σ) (fun y ρ σ' K=>bindR σ' xs y ρ fun ρ=>wpSs Φ (compSs G b) ρ σ' K) items ρ σ Q) {R:Result→Shared→Prop} (hR:∀fl s',ResF U F env G s μ Q fl s'→R (.ok fl) s') :
  wpAny (model U.p U.w) A (pyIter xv) (fun it s₂=>codeAny (model U.p U.w) A (.forLoop target it b [] env) R s₂) E s:=by
 refine it_make hr rx hit fun kk ob hnt hfr st0 src0=>?_
 have hI:s.heap.get? s.heap.objs.size=none:=Heap.get?_size_none _
 have hIμ:=hr.freshAt
 have hIb:=hr.sizeNone
 have hIF:=notF en hI
 generalize hII:s.heap.objs.size=I at st0 hI hIμ hIb hIF
 have kp0:∀b o,s.heap.get? b=some o→(s.heap.push ob).get? b=some o:=fun b o e=>Heap.get?_push_of_some _ e
 have sp0:Step U s μ { s with heap:=s.heap.push ob } μ σ:=Step.keeps (t:=s.toks) hr kp0
 refine codeAny_forLoop_any (FrI U F s μ env G v σ items kk I (srcOk v σ) (fun y ρ σ' K=>bindR σ' xs y ρ fun ρ=>wpSs Φ (compSs G b) ρ σ' K) Q) ?_ (items.length+1) (.mk (i:=0) (Nat.zero_le _) (sp0.toF hr en) (en.step hr sp0) st0 hIμ (by simpa using e))
 rintro k s' ⟨hi,sf,en',st,hIm,fe⟩
 have oI:Own U.hb s'.heap μ' I:=st.own hIm hIb
 by_cases hlt:i < items.length
 ·obtain⟨u,hu⟩:∃u,items[i]?=some u:=⟨_,List.getElem?_eq_getElem hlt⟩
  have hdrop:items.drop i=u :: items.drop (i+1):=by
   rw[List.drop_eq_getElem_cons hlt]
   rw[List.getElem?_eq_getElem hlt]at hu;cases hu;rfl
  rw[hdrop]at fe
  obtain⟨hsrc,fe⟩:=fe
  refine it_next sf.hrel (Src.keep st src0 hsrc) st oI hu fun val h₂ rv st' sb=>?_
  have sfB:=sf.ext oI hI (AllBut.of_same sb) (t:=s'.toks)
  have en2:=en'.ext oI hIF st.cell (AllBut.of_same sb)
  refine owned_go (s:={ s' with heap:=h₂ }) st' (bind_sound (s:={ s' with heap:=h₂ }) ht hA.handled en2 sfB.hrel rv fe fun s₃ ρ₃ sf3 en3 q3=>?_)
  refine wpAny_mono (hb' hA en3 sf3.hrel q3) (fun fl s₄ z=>?_) fun Z Z e=>e
  obtain⟨o,ρ₄,μ₄,σ₄,sf4,en4,ho,q4⟩:=z
  have sf34:=sf3.trans sf4
  have sfD:=sfB.trans sf34
  have go:forItems (srcOk v σ) (fun y ρ σ' K=>bindR σ' xs y ρ fun ρ=>wpSs Φ (compSs G b) ρ σ' K) (items.drop (i+1)) ρ₄ σ₄ Q →
    ∃m,m < items.length+1 - i∧FrI U F s μ env G v σ items kk I (srcOk v σ) (fun y ρ σ' K=>bindR σ' xs y ρ fun ρ=>wpSs Φ (compSs G b) ρ σ' K) Q m s₄:=fun fe'=>by
   obtain⟨oo,fs,z1,z2⟩:=st'.data
   refine⟨_,fr_lt hlt,.mk hlt sfD en4 (st'.keep (fun o e=>sf34.keep _ _ e hIm hIF) (sf34.tk sfB.hrel en2) sf34.pre) (fun m=>?_) fe'⟩
   have:=sf34.new I m hIm
   rw[show({ s' with heap:=h₂ }:Shared).heap.get? I=some oo from z1]at this;cases this
  induction ho with
  | nx=>
   exact go q4
  | cont=>
   exact go q4
  | @ret v vl rvl=>
   exact hR _ _ ⟨.ret v,ρ₄,μ₄,σ₄,sfD,en4,(.ret rvl),q4⟩
 ·have hin:i=items.length:=Nat.le_antisymm hi (Nat.le_of_not_lt hlt)
  subst hin
  rw[List.drop_eq_nil_of_le (Nat.le_refl _)]at fe
  obtain⟨hsrc,fe⟩:=fe
  refine it_done hA.handled sf.hrel (Src.keep st src0 hsrc) st fun h₂ ab=>wpAny_execs_nil (hR _ _ ?_)
  exact⟨.nx,ρ',μ',σ',sf.ext oI hI ab,en'.ext oI hIF st.cell ab,.nx,fe⟩
end
section
variable {U:Bx}{h h':Heap}{μ μ' μ₁:List Addr}{σ σ' σ₁:Store}{s s' s₁:Shared}{A:Around}{E:Value→Shared→Prop}{F:List Addr}{env:Env}{G:Cx}{ρ:Rho}{n:Nat}{Φ:Calls}
theorem for_plain (fx:Fx U n Φ) {target it:PySem.Expr}{xs:Nat ⊕ List Nat}{b:List Stmt}{p:Pos}(ht:TgtOk G target xs) (hset:isSetE it=false) (hb':SSs U n Φ b) (hA:RoomE n A) (en:EnvR U F env G s.heap μ ρ) (hr:HRel U s.heap μ σ) {Q:PostS}
  (e:wpS Φ (.forS xs (compE G it).1 (compSs G b)) ρ σ Q):wpAny (model U.p U.w) A (exec (.For target it b [] p) env) (ResF U F env G s μ Q) E s:=by
 have e:wpE Φ (compE G it).1 ρ σ (forK (wpSs Φ (compSs G b)) xs ρ Q):=e
 refine wpAny_For (Res.toF en hr (SE.of fx it hA en hr e) fun xv v s₁ μ₁ σ₁ sf en' rv q=>?_) (folded_plain hset)
 obtain⟨hit,q⟩:=q
 exact for_core fx ht hb' hA en' sf.hrel rv hit q.2 fun fl s' z=>ResF.trans sf z
inductive RgI (U:Bx) (F:List Addr) (s:Shared) (μ:List Addr) (env:Env) (G:Cx) (N:Int) (I:Addr) (step:V→Rho→Store→PostS→Prop) (Q:PostS):Nat→Shared→Prop
 | mk {j:Nat} {ρ':Rho} {s':Shared} {μ':List Addr} {σ':Store} (hj:j≤N.toNat) (sf:StepF U F s μ s' μ' σ') (en:EnvR U F env G s'.heap μ' ρ') (st:IsRangeIter s'.heap I (j:Int) (N - j) 1) (hm:I∉μ')
   (fe:forItems (fun Z=>True) step (((List.range N.toNat).map fun i:Nat=>V.int (i:Int)).drop j) ρ' σ' Q):RgI U F s μ env G N I step Q (N.toNat+1 - j) s'
theorem range_core (fx:Fx U n Φ) {x:Str}{px:Pos}{i:Nat}{b:List Stmt}(hx:isLocalIn G x=some i) (hb':SSs U n Φ b) (hA:RoomE n A) (en:EnvR U F env G s.heap μ ρ) (hr:HRel U s.heap μ σ) {Q:PostS}{r:Addr}{N:Int}{t u v:Tok}
  (hrg:IsRange s.heap r 0 N 1 t u v) (h0:0≤N) (h1:N≤1000000)
  (e:forItems (fun Z=>True) (fun y ρ σ' K=>wpSs Φ (compSs G b) (ρ.set i (some y)) σ' K) ((List.range N.toNat).map fun i:Nat=>V.int (i:Int)) ρ σ Q) {R:Result→Shared→Prop} (hR:∀fl s',ResF U F env G s μ Q fl s'→R (.ok fl) s') :
  wpAny (model U.p U.w) A (pyIter (.ref r)) (fun it s₂=>codeAny (model U.p U.w) A (.forLoop (.Name x px) it b [] env) R s₂) E s:=by
 refine wpAny_pyIter_range hrg (small_one (by lia) (by lia) (by lia) (by lia)) ?_
 have hI:s.heap.get? s.heap.objs.size=none:=Heap.get?_size_none _
 have hIμ:=hr.freshAt
 have hIb:=hr.sizeNone
 have hIF:=notF en hI
 have hsz:Builtin.Range.rangeSize 0 N 1=N:=by rw[rangeSize_one];split <;> lia
 rw[hsz]
 have st0:IsRangeIter (s.heap.push { cls:=.type "range_iterator",data:=.fields #[rawInt 0,rawInt N,rawInt 1] }) s.heap.objs.size 0 N 1:=Heap.get?_push_size _ rfl
 generalize hII:s.heap.objs.size=I at st0 hI hIμ hIb hIF
 have kp0:∀b o,s.heap.get? b=some o→(s.heap.push { cls:=.type "range_iterator",data:=.fields #[rawInt 0,rawInt N,rawInt 1] }).get? b=some o:=fun b o e=>Heap.get?_push_of_some _ e
 have sp0:Step U s μ { s with heap:=s.heap.push { cls:=.type "range_iterator",data:=.fields #[rawInt 0,rawInt N,rawInt 1] } } μ σ:=Step.keeps (t:=s.toks) hr kp0
 have own:∀{h':Heap} {μ':List Addr} {a b c:Int},IsRangeIter h' I a b c→I∉μ'→Own U.hb h' μ' I:=fun hit hm=>.obj hm hIb hit (nt_fields rfl)
 have ncell:∀{h':Heap} {a b c:Int},IsRangeIter h' I a b c→∀c v₀,CellAt h' c v₀→c≠I:=fun hit c v₀ ⟨o,e,d⟩ q=>by subst q;rw[hit]at e;cases e;cases d
 refine codeAny_forLoop (RgI U F s μ env G N I (fun y ρ σ' K=>wpSs Φ (compSs G b) (ρ.set i (some y)) σ' K) Q) ?_ (N.toNat+1) (.mk (j:=0) (Nat.zero_le _) (sp0.toF hr en) (en.step hr sp0) (by simpa using st0) hIμ (by simpa using e))
 rintro k s' ⟨hj,sf,en',st,hIm,fe⟩
 have oI:Own U.hb s'.heap μ' I:=own st hIm
 by_cases hlt:j < N.toNat
 ·have hdrop:((List.range N.toNat).map fun i:Nat=>V.int (i:Int)).drop j=V.int (j:Int) :: ((List.range N.toNat).map fun i:Nat=>V.int (i:Int)).drop (j+1):=by
   rw[List.drop_eq_getElem_cons (by simpa using hlt)]
   simp
  rw[hdrop]at fe
  obtain⟨-,fe⟩:=fe
  refine wpAny_pyNext_range_item st (Int.sub_pos_of_lt (Int.lt_toNat.mp hlt)) fun h₂ st' sb=>?_
  have sfB:=sf.ext oI hI (AllBut.of_same sb) (t:=s'.toks+1)
  have en2:=en'.ext oI hIF (ncell st) (AllBut.of_same sb)
  refine wpAny_assign_Name (store_sound (s:={ s' with heap:=h₂,toks:=s'.toks+1 }) (v:=.int (j:Int)) hx en2 sfB.hrel (.int _ _) fun s₃ sf3 en3=>?_)
  refine wpAny_mono (hb' hA en3 sf3.hrel fe) (fun fl s₄ z=>?_) fun Z Z e=>e
  obtain⟨o,ρ₄,μ₄,σ₄,sf4,en4,ho,q4⟩:=z
  have sf34:=sf3.trans sf4
  have sfD:=sfB.trans sf34
  have go:forItems (fun Z=>True) (fun y ρ σ' K=>wpSs Φ (compSs G b) (ρ.set i (some y)) σ' K) (((List.range N.toNat).map fun i:Nat=>V.int (i:Int)).drop (j+1)) ρ₄ σ₄ Q →
    ∃m,m < N.toNat+1 - j∧RgI U F s μ env G N I (fun y ρ σ' K=>wpSs Φ (compSs G b) (ρ.set i (some y)) σ' K) Q m s₄:=fun fe'=>by
   have st4:IsRangeIter s₄.heap I ((j:Int)+1) (N - j - 1) 1:=sf34.keep _ _ st' hIm hIF
   refine⟨_,fr_lt hlt,.mk hlt sfD en4 (by rw[show((j+1:Nat):Int)=(j:Int)+1 from rfl,show N - ((j:Int)+1)=N - j - 1 by lia];exact st4) (fun m=>?_) fe'⟩
   have:=sf34.new I m hIm
   rw[show({ s' with heap:=h₂,toks:=s'.toks+1 }:Shared).heap.get? I=_ from st']at this;cases this
  induction ho with
  | nx=>
   exact go q4
  | cont=>
   exact go q4
  | @ret v vl rvl=>
   exact hR _ _ ⟨.ret v,ρ₄,μ₄,σ₄,sfD,en4,(.ret rvl),q4⟩
 ·have hin:j=N.toNat:=Nat.le_antisymm hj (Nat.le_of_not_lt hlt)
  subst hin
  rw[List.drop_eq_nil_of_le (by simp)]at fe
  obtain⟨-,fe⟩:=fe
  refine wpAny_pyNext_range_end hA.handled st (by rw[Int.toNat_of_nonneg h0,Int.sub_self];exact Int.le_refl _) fun h₂ ab=>wpAny_execs_nil (hR _ _ ?_)
  exact⟨.nx,ρ',μ',σ',sf.ext oI hI ab,en'.ext oI hIF (ncell st) ab,.nx,fe⟩
theorem range_inv {it:PySem.Expr}{m:ME}(h:isRange G it=some m):∃fp e₀ cp,it = .Call (.Name "range" fp) [e₀] [] cp∧m=(compE G e₀).1∧isGlob G "range"=true:=by
 induction it using PySem.Expr.casesOn with
 | Call f args kws cp=>induction f using PySem.Expr.casesOn with
  | Name f fp=>
   rcases args with _ | ⟨e₀,_ | ⟨_,_⟩⟩
   ·exact nS h
   ·induction kws with
    | nil=>
     have h1:(match f==("range":Str)&&isGlob G f with | true=>some (compE G e₀).1 | false=>none)=some m:=h
     cases hc:f==("range":Str)&&isGlob G f with
     | false=>rw[hc]at h1;cases h1
     | true=>
      rw[hc]at h1
      rw[Bool.and_eq_true,beq_iff_eq]at hc
      obtain⟨rfl,hg⟩:=hc
      cases h1
      exact⟨fp,e₀,cp,rfl,rfl,hg⟩
    | cons=>exact nS h
   ·exact nS h
  | _=>exact nS h
 | _=>exact nS h
theorem noset_of {it:PySem.Expr}{Q:Post}(e:wpE Φ (compE G it).1 ρ σ Q):isSetE it=false:=by induction it using PySem.Expr.casesOn <;> first | rfl | exact(stuckE e).elim
theorem nostar_of {it:PySem.Expr}{Q:Post}(e:wpE Φ (compE G it).1 ρ σ Q):notStar it=true:=by induction it using PySem.Expr.casesOn <;> first | rfl | exact(stuckE e).elim
theorem ss_for (fx:Fx U n Φ) {target it:PySem.Expr}{b o:List Stmt}{p:Pos}(hb':SSs U n Φ b):SSt U n Φ (.For target it b o p):=by
 intro A E F env G ρ s μ σ Q hA en hr e
 induction o with
 | cons=>exact(stuckS e).elim
 | nil=>
 induction target using PySem.Expr.casesOn with
 | Name x px=>
  obtain⟨i,hx,e⟩:=sos_inv e
  have e:wpS Φ (forM i (isRange G it) (compE G it).1 (compSs G b)) ρ σ Q:=e
  cases hR:isRange G it with
  | none=>
   rw[hR]at e
   exact for_plain fx (.inl ⟨x,px,i,rfl,hx,rfl⟩) (noset_of (Q:=forK (wpSs Φ (compSs G b)) (.inl i) ρ Q) e) hb' hA en hr e
  | some m=>
   refine Classical.byContradiction fun kk=>?_
   rw[hR]at e
   obtain⟨fp,e₀,cp,rfl,rfl,hg⟩:=range_inv hR
   have hk:G.kinds.lookup ("range":Str)=some NameKind.globalImplicit:=by simpa[isGlob] using hg
   have e:wpE Φ (compE G e₀).1 ρ σ (frgK (wpSs Φ (compSs G b)) i ρ Q):=e
   have hns:=nostar_of e
   refine kk ?_
   refine wpAny_For (Call_Name rfl (loadB en hr fx.gl (by decide) hk fx.noB.2.2.2 (val:=.type "range") (fun mb Z Z=>PyProof.Rows.callWith_type (plain_args' (by simp[hns])) (Call_one hns ?_)) fun mb h=>h.2.2.2)) (folded_plain rfl)
   refine Res.bind (SE.of fx e₀ hA en hr e) fun xv v s₁ μ₁ σ₁ st rv q=>?_
   obtain⟨N,rfl⟩:∃N,v = .int N:=by induction v using V.casesOn <;> first | exact⟨_,rfl⟩ | exact q.elim
   ·refine Classical.byContradiction fun kk=>?_
    obtain⟨t⟩:=repV_int rv
    obtain⟨⟨h0,h1⟩,q⟩:=q
    refine kk ?_
    refine call_range_1 ?_
    have kp:∀b o,s₁.heap.get? b=some o→(s₁.heap.push { cls:=.type "range",data:=.fields #[.int 0 s₁.toks,.int N t,.int 1 (s₁.toks+1)] }).get? b=some o:=fun b o e=>Heap.get?_push_of_some _ e
    have sp:=st.trans (Step.keeps (t:=s₁.toks+1+1) st.hrel kp)
    exact range_core (s:={ s₁ with heap:=s₁.heap.push { cls:=.type "range",data:=.fields #[.int 0 s₁.toks,.int N t,.int 1 (s₁.toks+1)] },toks:=s₁.toks+1+1 }) fx hx hb' hA (en.step hr sp) sp.hrel (IsRange.new ..) h0 h1 q fun fl s' z=>ResF.trans (sp.toF hr en) z
 | Tuple es k tp=>
  refine Classical.byContradiction fun kk=>?_
  obtain⟨is,hn,e⟩:=sos_inv e
  refine kk ?_
  exact for_plain fx (.inr ⟨es,k,tp,is,rfl,hn,rfl⟩) (noset_of (Q:=forK (wpSs Φ (compSs G b)) (.inr is) ρ Q) e) hb' hA en hr e
 | _=>exact(stuckS e).elim
theorem stuck_of {st:Stmt}(hs:∀G,compS G st = .stuck):SSt U n Φ st:=fun hA en hr e=>by rw[hs]at e;exact(stuckS e).elim
theorem ss_assign (fx:Fx U n Φ) {ts:List PySem.Expr}{v:PySem.Expr}{p:Pos}:SSt U n Φ (.Assign ts v p):=by
 induction ts with
 | nil=>exact stuck_of fun Z=>rfl
 | cons t r=>
  induction r with
  | cons t' r=>exact stuck_of fun G=>by induction t using PySem.Expr.casesOn <;> rfl
  | nil=>
   induction t using PySem.Expr.casesOn with
   | Name x q=>exact @ss_assign_name _ _ _ fx _ _ _ _
   | Tuple es k q=>exact @ss_assign_tuple _ _ _ fx _ _ _ _ _
   | Attribute o x q=>exact @ss_assign_attr _ _ _ fx _ _ _ _ _
   | Subscript o i q=>exact @ss_assign_sub _ _ _ fx _ _ _ _ _
   | _=>exact stuck_of fun Z=>rfl
theorem stmt_sound (fx:Fx U n Φ):∀N,(∀st:Stmt,sizeOf st < N→SSt U n Φ st)∧(∀ss:List Stmt,sizeOf ss < N→SSs U n Φ ss):=by
 intro N
 induction N with
 | zero=>exact⟨fun Z h=>absurd h (Nat.not_lt_zero _),fun Z h=>absurd h (Nat.not_lt_zero _)⟩
 | succ N ih=>
  refine⟨fun st=>?_,fun ss=>?_⟩
  ·induction st using PySem.Stmt.casesOn with
   | Assign ts v p=>exact fun Z=>ss_assign fx
   | AugAssign t op v p=>exact fun Z=>@ss_aug _ _ _ fx _ _ _ _
   | Expr v p=>exact fun Z=>@ss_expr _ _ _ fx _ _
   | Return v p=>exact fun Z=>@ss_return _ _ _ fx _ _
   | If t b o p=>
    intro hN
    have hN:=szl (Stmt.If.sizeOf_spec ..) hN
    exact @ss_if _ _ _ fx _ _ _ _ (ih.2 b (zl1 (zdr (zdr hN)))) (ih.2 o (zl2 (zdr hN)))
   | While t b o p=>
    intro hN
    have hN:=szl (Stmt.While.sizeOf_spec ..) hN
    exact @ss_while _ _ _ fx _ _ _ _ (ih.2 b (zl1 (zdr (zdr hN))))
   | For t it b o p=>
    intro hN
    have hN:=szl (Stmt.For.sizeOf_spec ..) hN
    exact @ss_for _ _ _ fx _ _ _ _ _ (ih.2 b (zl2 (zdr (zdr hN))))
   | Try b hs o f p=>
    intro hN
    have hN:=szl (Stmt.Try.sizeOf_spec ..) hN
    exact @ss_try _ _ _ _ _ _ _ _ (ih.2 b (zl0 (zdr (zdr (zdr (zdr hN))))))
   | Continue p=>exact fun Z=>@ss_cont _ _ _ _
   | _=>exact fun Z=>stuck_of fun Z=>rfl
  ·cases ss with
   | nil=>exact fun Z=>@ss_nil _ _ _
   | cons st r=>
    intro hN
    have hN:=szl (List.cons.sizeOf_spec ..) hN
    exact @ss_cons _ _ _ _ _ (ih.1 st (zl0 (zdr hN))) (ih.2 r (zl1 hN))
theorem SSs.of (fx:Fx U n Φ) (ss:List Stmt):SSs U n Φ ss:=(stmt_sound fx _).2 ss (Nat.lt_succ_self _)
end
theorem zip_lookup {names:List Str}{vals:List Value}(hl:vals.length=names.length):∀n∈names,((names.zip vals).lookup n).isNone=false:=by
 induction names generalizing vals with
 | nil=>intro n h;cases h
 | cons a r ih=>
  cases vals with
  | nil=>simp at hl
  | cons v vs=>
   intro n h
   rw[List.zip_cons_cons,List.lookup_cons]
   split
   ·rfl
   ·rename_i e
    rcases List.mem_cons.mp h with rfl | h
    ·simp at e
    ·exact ih (by simpa using hl) n h
theorem zip_filterMap {names:List Str}{vals:List Value}(hl:vals.length=names.length) (hn:names.Nodup):names.filterMap (fun n=>((names.zip vals).lookup n).map (n,·))=names.zip vals:=by
 have key:∀(ns:List Str) (vs:List Value) (f:Str→Option Value),vs.length=ns.length→ns.Nodup→(∀n∈ns,f n=(ns.zip vs).lookup n)→ns.filterMap (fun n=>(f n).map (n,·))=ns.zip vs:=by
  intro ns
  induction ns with
  | nil=>intros;rfl
  | cons a r ih=>
   intro vs f hl hn hf
   induction vs with
   | nil=>simp at hl
   | cons v vs=>
    rw[List.nodup_cons]at hn
    have h0:f a=some v:=by rw[hf a (.head _),List.zip_cons_cons,List.lookup_cons];simp
    rw[List.filterMap_cons,h0]
    show(a,v) :: _=_
    rw[List.zip_cons_cons,ih vs f (by simpa using hl) hn.2 fun n hn'=>?_]
    rw[hf n (.tail _ hn'),List.zip_cons_cons,List.lookup_cons]
    have:(n==a)=false:=by
     cases q:n==a with
     | false=>rfl
     | true=>rw[beq_iff_eq.mp q]at hn';exact absurd hn' hn.1
    rw[this]
 exact key names vals _ hl hn fun Z Z=>rfl
theorem forIn_bind_nil {α β γ:Type}{l:List α}{b:β}{f:α→β→Sem (ForInStep β)}{g:β→Sem γ}(h:l=[]):(forIn l b f >>= g)=g b:=by rw[h];rfl
theorem bindArgs_plain {fd:FuncData}{vals:List Value}{as:List Arg}{kd:List (Option PySem.Expr)}{ds:List PySem.Expr}(hp:fd.params=⟨[],as,none,[],kd,none,ds⟩) (hd:fd.defaults = .none) (hl:vals.length=as.length) (hn:(as.map (·.arg)).Nodup) :
  bindArgs fd ⟨vals,[]⟩=pure ((as.map (·.arg)).zip vals):=by
 have hl':vals.length=(as.map (·.arg)).length:=by rw[List.length_map];exact hl
 have h1:=zip_lookup hl'
 have h2:=zip_filterMap hl' hn
 have h3:((as.map (·.arg)).filter fun n=>(((as.map (·.arg)).zip vals).lookup n).isNone)=[]:=by
  rw[List.filter_eq_nil_iff]
  intro n hn'
  rw[h1 n hn'];exact fun h=>bff h
 obtain⟨_,_,_,_,_,_,_,_,_,_,_,_,_,_⟩:=fd
 cases hp;cases hd
 show(if (decide (vals.length > (as.map (·.arg)).length)&&true)=true then _ else _)=_
 refine(if_neg (by rw[hl'];simp)).trans ?_
 show(if (!(List.filter (fun n=>(((as.map (·.arg)).zip vals).lookup n).isNone) ((as.map (·.arg)).take ((as.map (·.arg)).length - (List.drop (0 - (as.map (·.arg)).length) ([]:List Value)).length))).isEmpty)=true then _ else _)=_
 refine(if_neg (by rw[List.drop_nil,List.length_nil,Nat.sub_zero,List.take_length,h3];exact fun h=>bff h)).trans ?_
 refine(forIn_bind_nil (l:=((as.map (·.arg)).drop ((as.map (·.arg)).length - (List.drop (0 - (as.map (·.arg)).length) ([]:List Value)).length)).zip (List.drop (0 - (as.map (·.arg)).length) ([]:List Value))) (by rw[List.drop_nil,List.zip_nil_right])).trans ?_
 show(pure (List.filterMap (fun n=>(((as.map (·.arg)).zip vals).lookup n).map (n,·)) ((as.map (·.arg))++[])):Sem (List (Str×Value)))=_
 rw[List.append_nil,h2]
structure MF where
 np:Nat
 slots:Nat
 body:List MS
inductive FnAt (K:Frag) (a:Addr) (m:MF):Prop
 | mk (oc:Value) (od:Option Addr) (osl:Array (Option Value)) (fd:FuncData) (as:List Arg) (kd:List (Option PySem.Expr)) (ds:List PySem.Expr) (body:List Stmt) (h1:K.lookup a=some ⟨oc,od,.func fd,osl⟩) (h2:fd.params=⟨[],as,none,[],kd,none,ds⟩) (h3:fd.body = .stmts body)
  (h4:fd.defaults = .none) (h5:fd.closure=[]) (h6:fd.globals=mainGlobals) (h7:fd.builtins=builtinsNs) (h8:codeIn K fd.code fd.qualname=true) (h9:fd.scope.isCoroutine=false) (h10:fd.scope.isGenerator=false) (h11:fd.scope.kind = .function)
  (h12:(fd.scope.names.map (·.1)).Nodup) (h13:compSs (cxOf fd.scope) body=m.body) (h14:m.slots=(slotsOf fd.scope).length+1) (h15:m.np=as.length) (h16:as.map (·.arg)=((slotsOf fd.scope).map (·.1)).take as.length):FnAt K a m
theorem lookup_nodup {α:Type}{l:List (Str×α)}:∀{y:Str}{k:α},(l.map (·.1)).Nodup→(y,k)∈l→l.lookup y=some k:=by
 induction l with
 | nil=>
  intro y k hn h
  cases h
 | cons p_ r ih=>
  intro y k hn h
  obtain⟨m,j⟩:=p_
  rw[List.map_cons,List.nodup_cons]at hn
  rw[List.lookup_cons]
  rcases List.mem_cons.mp h with h | h
  ·cases h;simp
  ·have:(y==m)=false:=by
    cases q:y==m with
    | false=>rfl
    | true=>rw[beq_iff_eq.mp q]at h;exact absurd (List.mem_map_of_mem (f:=(·.1)) h) hn.1
   rw[this];exact ih hn.2 h
theorem bindL_other {kindOf:Str→Option NameKind}{x:Str}{binds:List (Str×Value)}:∀{m:Str→Option Value},x∉binds.map (·.1)→bindL kindOf binds m x=m x:=by
 induction binds with
 | nil=>
  intro m _
  exact rfl
 | cons p_ r ih=>
  intro m h
  obtain⟨n,v⟩:=p_
  rw[List.map_cons,List.mem_cons,not_or]at h
  rw[bindL,ih h.2]
  split
  ·exact if_neg h.1
  ·rfl
theorem bindL_get {kindOf:Str→Option NameKind}{x:Str}{val:Value}(hk:kindOf x=some .local) {binds:List (Str×Value)}:∀{m:Str→Option Value},(binds.map (·.1)).Nodup→(x,val)∈binds→bindL kindOf binds m x=some val:=by
 induction binds with
 | nil=>
  intro m hn h
  cases h
 | cons p_ r ih=>
  intro m hn h
  obtain⟨n,v⟩:=p_
  rw[List.map_cons,List.nodup_cons]at hn
  rw[bindL]
  rcases List.mem_cons.mp h with h | h
  ·cases h
   rw[bindL_other hn.1,if_pos hk,if_pos rfl]
  ·exact ih hn.2 h
theorem bindC_other {kindOf:Str→Option NameKind}{x:Str}{binds:List (Str×Value)}:∀{m:Str→Option Value},x∉binds.map (·.1)→bindC kindOf binds m x=m x:=by
 induction binds with
 | nil=>
  intro m _
  exact rfl
 | cons p_ r ih=>
  intro m h
  obtain⟨n,v⟩:=p_
  rw[List.map_cons,List.mem_cons,not_or]at h
  rw[bindC,ih h.2]
  split
  ·rfl
  ·exact if_neg h.1
theorem bindC_get {kindOf:Str→Option NameKind}{x:Str}{val:Value}(hk:kindOf x≠some .local) {binds:List (Str×Value)}:∀{m:Str→Option Value},(binds.map (·.1)).Nodup→(x,val)∈binds→bindC kindOf binds m x=some val:=by
 induction binds with
 | nil=>
  intro m hn h
  cases h
 | cons p_ r ih=>
  intro m hn h
  obtain⟨n,v⟩:=p_
  rw[List.map_cons,List.nodup_cons]at hn
  rw[bindC]
  rcases List.mem_cons.mp h with h | h
  ·cases h
   rw[bindC_other hn.1,if_neg hk,if_pos rfl]
  ·exact ih hn.2 h
theorem cellsFrom_mem {names:List (Str×NameKind)}:∀{n:Nat}{acc:List (Str×Addr)}{x:Str},((x,NameKind.cell)∈names∨x∈acc.map (·.1))→x∈(cellsFrom n names acc).map (·.1):=by
 induction names with
 | nil=>
  intro n acc x h
  rcases h with h | h;cases h;exact h
 | cons p_ r ih=>
  intro n acc x h
  obtain⟨m,k⟩:=p_
  rw[cellsFrom]
  split
  ·rename_i hk
   refine ih ?_
   rcases h with h | h
   ·rcases List.mem_cons.mp h with h | h
    ·cases h;exact .inr (.head _)
    ·exact .inl h
   ·exact .inr (.tail _ h)
  ·rename_i hk
   refine ih ?_
   rcases h with h | h
   ·rcases List.mem_cons.mp h with h | h
    ·cases h;simp at hk
    ·exact .inl h
   ·exact .inr h
theorem cellsFrom_nodup {names:List (Str×NameKind)}:∀{n:Nat}{acc:List (Str×Addr)},(names.map (·.1)).Nodup→(acc.map (·.1)).Nodup→(∀x∈names.map (·.1),x∉acc.map (·.1))→((cellsFrom n names acc).map (·.1)).Nodup:=by
 induction names with
 | nil=>
  intro n acc _ h _
  exact h
 | cons p_ r ih=>
  intro n acc hn ha hd
  obtain⟨m,k⟩:=p_
  rw[List.map_cons,List.nodup_cons]at hn
  rw[cellsFrom]
  split
  ·refine ih hn.2 ?_ fun x hx hm=>?_
   ·rw[List.map_cons,List.nodup_cons];exact⟨hd m (.head _),ha⟩
   ·rw[List.map_cons]at hm
    rcases List.mem_cons.mp hm with rfl | hm
    ·exact hn.1 hx
    ·exact hd x (.tail _ hx) hm
  ·exact ih hn.2 ha fun x hx=>hd x (.tail _ hx)
theorem slot_get {sc:Scope}{x:Str}{i:Nat}(h:(slotsOf sc).lookup x=some i):((slotsOf sc).map (·.1))[i]?=some x∧(x,i)∈slotsOf sc:=by
 have hm:=lookup_mem h
 refine⟨?_,hm⟩
 unfold slotsOf at hm ⊢
 rw[List.mk_mem_zipIdx_iff_getElem?]at hm
 rw[List.getElem?_map,List.getElem?_zipIdx,hm]
 rfl
theorem slots_names {sc:Scope}:(slotsOf sc).map (·.1)=(sc.names.filter fun p=>p.2 == .local || p.2 == .cell).map (·.1):=by
 unfold slotsOf
 rw[List.zipIdx_map_fst]
section
variable {U:Bx}{h:Heap}{μ:List Addr}{σ:Store}{s s₁:Shared}{n:Nat}
theorem zip_mem_map {ns:List Str}{vals:List Value}(hl:vals.length=ns.length):(ns.zip vals).map (·.1)=ns:=by
 rw[List.map_fst_zip];lia
theorem rho_get {vs:List V}{k i:Nat}{v:V}(h:(vs.map some++List.replicate k none)[i]?=some (some v)):vs[i]?=some v:=by
 by_cases hi:i < vs.length
 ·refine Classical.byContradiction fun kk=>?_
  rw[List.getElem?_append_left (by simpa using hi),List.getElem?_map]at h
  obtain⟨u,h1,h2⟩:=Option.map_eq_some_iff.mp h
  refine kk ?_
  cases h2;exact h1
 ·rw[List.getElem?_append_right (by simpa using hi),List.getElem?_replicate]at h
  split at h <;> cases h
theorem entry_env {fd:FuncData}{as:List Arg}{a:Addr}{args:List Value}{vs:List V}{slots:Nat}(hr:HRel U s.heap μ σ) (r:RepVs U s.heap μ args vs) (hl:args.length=as.length) (hg:fd.globals=mainGlobals) (hbl:fd.builtins=builtinsNs) (hk:fd.scope.kind = .function)
  (hnd:(fd.scope.names.map (·.1)).Nodup) (has:as.map (·.arg)=((slotsOf fd.scope).map (·.1)).take as.length)
  (x:InCallC s (callEnvC fd s.heap.objs.size a).locals (bindL (callEnvC fd s.heap.objs.size a).kindOf ((as.map (·.arg)).zip args) fun Z=>none) (callEnvC fd s.heap.objs.size a).cells (bindC (callEnvC fd s.heap.objs.size a).kindOf ((as.map (·.arg)).zip args) fun Z=>none) s₁) :
  EnvR U ((callEnvC fd s.heap.objs.size a).locals :: (callEnvC fd s.heap.objs.size a).cells.map (·.2)) (callEnvC fd s.heap.objs.size a) (cxOf fd.scope) s₁.heap μ (vs.map some++List.replicate (slots - vs.length) none):=by
 have hl':args.length=(as.map (·.arg)).length:=by rw[List.length_map];exact hl
 have hsn:((slotsOf fd.scope).map (·.1)).Nodup:=by
  rw[slots_names];exact hnd.sublist (List.filter_sublist.map _)
 have hann:(as.map (·.arg)).Nodup:=by rw[has];exact hsn.sublist (List.take_sublist ..)
 have hbn:(((as.map (·.arg)).zip args).map (·.1)).Nodup:=by rw[zip_mem_map hl'];exact hann
 have kind:∀z,(callEnvC fd s.heap.objs.size a).kindOf z=fd.scope.names.lookup z:=fun Z=>rfl
 have hcn:((callEnvC fd s.heap.objs.size a).cells.map (·.1)).Nodup:=cellsFrom_nodup (acc:=[]) hnd List.nodup_nil (by simp)
 have tk:TupKeep s.heap s₁.heap:=fun b o e Z=>x.toInCall.keep b o e
 have fresh:∀b,s.heap.objs.size≤b→b∉μ∧U.hb.get? b=none:=fun b hb'=>by
  have hn:s.heap.get? b=none:=Heap.get?_none_of_le hb'
  refine⟨fun m=>?_,?_⟩
  ·obtain⟨ob,e,_⟩:=hr.mem m;rw[hn]at e;cases e
  ·cases q:U.hb.get? b with
   | none=>rfl
   | some o=>rw[hr.base _ _ q]at hn;cases hn
 have cellm:∀{z c},(z,c)∈(callEnvC fd s.heap.objs.size a).cells→(callEnvC fd s.heap.objs.size a).cells.lookup z=some c:=fun hm=>lookup_nodup hcn hm
 have val:∀{z:Str} {i:Nat} {v:V},(slotsOf fd.scope).lookup z=some i→(vs.map some++List.replicate (slots - vs.length) none)[i]?=some (some v)→∃val,(z,val)∈(as.map (·.arg)).zip args∧RepV U s₁.heap μ val v:=by
  intro z i v hz hv
  have hv':=rho_get hv
  obtain⟨val,h1,h2⟩:=r.all2.get hv'
  have hi:i < args.length:=(List.getElem?_eq_some_iff.mp h1).1
  have h3:(as.map (·.arg))[i]?=some z:=by
   rw[has,List.getElem?_take,if_pos (by lia)]
   exact(slot_get hz).1
  refine⟨val,?_,h2.mono tk (List.prefix_refl _)⟩
  exact List.mem_of_getElem? (i:=i) (by rw[List.getElem?_zip_eq_some];exact⟨h3,h1⟩)
 refine⟨fun z=>.inl rfl,hk,hg,hbl,fun b hb'=>?_,.head _,⟨_,x.toInCall.ns,fun z i v hz hi hv=>?_⟩,fun z i hz hi=>?_,fun y z c h1 h2=>?_,fun y z i h1 h2=>?_,fun z i h=>?_⟩
 ·rcases List.mem_cons.mp hb' with rfl | hb'
  ·refine Classical.byContradiction fun kk=>?_
   obtain⟨f1,f2⟩:=fresh _ (Nat.le_refl _)
   obtain⟨o,es,ep,e1,e2,_⟩:=x.toInCall.ns
   refine kk ?_
   exact .obj f1 f2 e1 (nt_dict e2)
  ·obtain⟨p,hp,rfl⟩:=List.mem_map.mp hb'
   obtain⟨y,c⟩:=p
   obtain⟨f1,f2⟩:=fresh c (Nat.le_of_lt (x.above y c hp))
   obtain⟨o,e1,e2⟩:=x.cell y c (cellm hp)
   exact .obj f1 f2 e1 (nt_cell e2)
 ·obtain⟨vl,h1,h2⟩:=val hi hv
  exact⟨vl,bindL_get ((kind z).trans hz) hbn h1,h2⟩
 ·have hzc:(cxOf fd.scope).kinds.lookup z=some .cell:=by
   rcases hz with hz | hz
   ·exact hz
   ·exfalso
    have hm:=(slot_get hi).1
    have hm:=List.mem_of_getElem? hm
    rw[slots_names]at hm
    obtain⟨p,hp,rfl⟩:=List.mem_map.mp hm
    obtain⟨hp1,hp2⟩:=List.mem_filter.mp hp
    have:=lookup_nodup hnd (show(p.1,p.2)∈fd.scope.names from hp1)
    rw[show(cxOf fd.scope).kinds=fd.scope.names from rfl,this]at hz
    rw[Option.some.inj hz]at hp2
    simp at hp2
  have hmem:(z,NameKind.cell)∈fd.scope.names:=lookup_mem hzc
  obtain⟨c,hc⟩:=lookup_some (cellsFrom_mem (n:=s.heap.objs.size+1) (acc:=[]) (.inl hmem))
  have hcm:=lookup_mem hc
  obtain⟨f1,f2⟩:=fresh c (Nat.le_of_lt (x.above z c hcm))
  refine⟨c,_,hc,x.cell z c hc,f1,fun q=>?_,fun Z=>.tail _ (List.mem_map_of_mem (f:=(·.2)) hcm),fun v hv=>?_⟩
  ·have:=x.above z c hcm
   rw[q]at this;exact Nat.lt_irrefl _ this
  ·obtain⟨vl,h1,h2⟩:=val hi hv
   exact⟨vl,bindC_get (by rw[kind];rw[show fd.scope.names.lookup z=some .cell from hzc];decide) hbn h1,h2⟩
 ·have m1:=lookup_mem h1
  have m2:=lookup_mem h2
  rcases Decidable.em (y=z)with e | hne
  ·exact e
  ·exfalso
   have pw:=x.apart
   clear h1 h2
   generalize (callEnvC fd s.heap.objs.size a).cells=l at pw m1 m2
   induction pw with
   | nil=>cases m1
   | @cons p l hp _ ih=>
    rcases List.mem_cons.mp m1 with e1 | m1 <;> rcases List.mem_cons.mp m2 with e2 | m2
    ·rw[←e1]at e2;exact hne (Prod.mk.inj e2).1.symm
    ·exact hp _ m2 (by rw[←e1])
    ·exact hp _ m1 (by rw[←e2])
    ·exact ih m1 m2
 ·exact Option.some.inj ((slot_get h1).1.symm.trans (slot_get h2).1)
 ·show i < (slotsOf fd.scope).length
  have:=(List.getElem?_eq_some_iff.mp (slot_get h).1).1
  simpa using this
end
noncomputable def Call0 (mf:Nat→Option MF):Nat→Calls
 | 0=>fun Z Z Z Z=>False
 | n+1=>fun f vs σ Q=>match mf f with
  | some m=>vs.length=m.np∧wpF (Call0 mf n) m.slots m.body vs σ Q
  | none=>False
@[irreducible] noncomputable def Call (mf:Nat→Option MF) (n:Nat):Calls:=Call0 mf n
theorem call_s {mf:Nat→Option MF}{n f:Nat}{vs:List V}{σ:Store}{Q:Post}:Call mf (n+1) f vs σ Q=match mf f with
  | some m=>vs.length=m.np∧wpF (Call mf n) m.slots m.body vs σ Q
  | none=>False:=by unfold Call;rfl
structure Fb (U:Bx) (mf:Nat→Option MF):Prop extends Fk U where
 lim:U.hb.NoLimit
 fn:∀f a m,fnAddr U.K f=some a→mf f=some m→FnAt U.K a m
section
variable {U:Bx}{μ μ':List Addr}{σ σ':Store}{s s' s₁:Shared}{A:Around}{n:Nat}{mf:Nat→Option MF}
theorem Fb.fx (fb:Fb U mf) {Φ:Calls}(c:CallsOk U n Φ):Fx U n Φ:=⟨fb.toFk,c⟩
theorem calls_ok (fb:Fb U mf):∀n,CallsOk U n (Call mf n):=by
 intro n
 induction n with
 | zero=>intro f a ha A s μ σ args vs Q hA hr r e;unfold Call at e;exact e.elim
 | succ n ih=>
  intro f a ha A s μ σ args vs Q hA hr r e
  have fx:=fb.fx ih
  rw[call_s]at e
  cases hm:mf f with
  | none=>rw[hm]at e;exact e.elim
  | some m=>
   rw[hm]at e
   obtain⟨hlen,e⟩:=e
   obtain⟨oc,od,osl,fd,as,kd,ds,body,h1,h2,h3,h4,h5,h6,h7,h8,h9,h10,h11,h12,h13,h14,h15,h16⟩:=fb.fn f a m ha hm
   have X:=fx.Xs hr
   have hl:args.length=as.length:=by rw[r.length,hlen,h15]
   have hl':args.length=(as.map (·.arg)).length:=by rw[List.length_map];exact hl
   have hsn:((slotsOf fd.scope).map (·.1)).Nodup:=by
    rw[slots_names];exact h12.sublist (List.filter_sublist.map _)
   have hann:(as.map (·.arg)).Nodup:=by rw[h16];exact hsn.sublist (List.take_sublist ..)
   refine codeAny_call_cells (body:=body) (binds:=(as.map (·.arg)).zip args) (by have:=hA.depth;lia) (X _ _ h1) rfl (fb.lim.keeps hr.base) (codeRec_of X h8) h3 (bindArgs_plain h2 h4 hl hann) h5 (fun y hy=>?_) (fun s₁ x=>?_) h9 h10 h11
   ·refine Classical.byContradiction fun kk=>?_
    have hy1:y.1∈as.map (·.arg):=by
     have:=List.mem_map_of_mem (f:=(·.1)) hy
     rwa [zip_mem_map hl']at this
    rw[h16]at hy1
    have hy2:=List.mem_of_mem_take hy1
    rw[slots_names]at hy2
    obtain⟨p,hp,hpe⟩:=List.mem_map.mp hy2
    obtain⟨hp1,hp2⟩:=List.mem_filter.mp hp
    have hlk:=lookup_nodup h12 (show(p.1,p.2)∈fd.scope.names from hp1)
    simp only[Bool.or_eq_true,beq_iff_eq]at hp2
    refine kk ?_
    rw[←hpe]
    rcases hp2 with hp2 | hp2
    ·left;rw[hlk,hp2]
    ·right
     rw[hlk,hp2]
     refine⟨rfl,?_⟩
     obtain⟨c,hc⟩:=lookup_some (cellsFrom_mem (n:=s.heap.objs.size+1) (acc:=[]) (names:=fd.scope.names) (x:=p.1) (.inl (by rw[←hp2];exact hp1)))
     rw[hc];rfl
   ·have en:=entry_env (slots:=m.slots) hr r hl h6 h7 h11 h12 h16 x
    have hr₁:HRel U s₁.heap μ σ:=hr.keeps x.toInCall.keep
    unfold wpF at e
    rw[←h13]at e
    refine wpAny_mono (SSs.of fx body hA.deeper en hr₁ e) (fun fl s' z=>?_) fun Z Z e=>e
    obtain⟨o,ρ',μ',σ',sf,en',ho,q⟩:=z
    have st:Step U s μ s' μ' σ':=by
     refine⟨sf.hrel,fun b ob e' hm'=>sf.keep b ob (x.toInCall.keep b ob e') hm' fun hF=>?_,sf.pre,fun b hb1 hb2=>?_,?_⟩
     ·have hlt:=Heap.lt_size e'
      rcases List.mem_cons.mp hF with q | q
      ·rw[show(callEnvC fd s.heap.objs.size a).locals=s.heap.objs.size from rfl]at q
       rw[q]at hlt;exact Nat.lt_irrefl _ hlt
      ·obtain⟨p,hp,rfl⟩:=List.mem_map.mp q
       have:=x.above p.1 p.2 hp
       rw[show(callEnvC fd s.heap.objs.size a).locals=s.heap.objs.size from rfl]at this
       exact Nat.lt_asymm hlt this
     ·have:=sf.new b hb1 hb2
      cases q:s.heap.get? b with
      | none=>rfl
      | some ob=>rw[x.toInCall.keep b ob q]at this;cases this
     ·obtain⟨h₁,t₁,e₁⟩:=sf.same
      obtain⟨h₂,t₂,e₂⟩:=x.toInCall.same
      exact⟨h₁,t₁,by rw[e₁,e₂]⟩
    induction ho with
    | nx=>
     exact⟨.none,μ',σ',st,.none,q⟩
    | cont=>exact q.elim
    | @ret v val rv=>
     exact⟨v,μ',σ',st,rv,q⟩
end
end Mine
set_option maxRecDepth 4000
namespace Mine
noncomputable def f0:MF:=⟨1,3,[
 (.assign 1 (.sub (.var 0) (.lit (.int 0)))),
 (.ifS (.any [(.ex (.cmp .eq (.var 1) (.lit (.int 2)))),(.ex (.cmp .eq (.var 1) (.lit (.int 3))))]) [(.ret (.sub (.var 0) (.lit (.int 2))))] []),
 (.ifS (.any [(.ex (.cmp .eq (.var 1) (.lit (.int 4)))),(.ex (.cmp .eq (.var 1) (.lit (.int 5)))),(.ex (.cmp .eq (.var 1) (.lit (.int 8)))),(.ex (.cmp .eq (.var 1) (.lit (.int 9)))),(.ex (.cmp .eq (.var 1) (.lit (.int 11))))]) [(.ret (.tup [(.sub (.var 0) (.lit (.int 1)))]))] []),
 (.ifS (.ex (.cmp .eq (.var 1) (.lit (.int 10)))) [(.ret (.bop .add (.tup [(.sub (.var 0) (.lit (.int 1)))]) (.sub (.var 0) (.lit (.int 3)))))] []),
 (.ret (.tup []))]⟩
noncomputable def f1:MF:=⟨1,2,[
 (.ifS (.any [(.ex (.cmp .eq (.var 0) (.lit (.int 2)))),(.ex (.cmp .eq (.var 0) (.lit (.int 3)))),(.ex (.cmp .eq (.var 0) (.lit (.int 4))))]) [(.ret (.lit (.int 1)))] []),
 (.ret (.lit (.int 0)))]⟩
noncomputable def f2:MF:=⟨1,2,[
 (.ifS (.any [(.ex (.cmp .eq (.var 0) (.lit (.int 2)))),(.ex (.cmp .eq (.var 0) (.lit (.int 3))))]) [(.ret (.lit (.int 3)))] []),
 (.ifS (.ex (.cmp .eq (.var 0) (.lit (.int 10)))) [(.ret (.lit (.int 4)))] []),
 (.ret (.lit (.int 2)))]⟩
noncomputable def f3:MF:=⟨2,5,[
 (.ifS (.any [(.ex (.cmp .eq (.len (.var 1)) (.lit (.int 0)))),(.ex (.cmp .le (.sub (.var 1) (.lit (.int 0))) (.lit (.int 1)))),(.ex (.cmp .gt (.sub (.var 1) (.lit (.int 0))) (.lit (.int 11))))]) [.stuck] []),
 (.assign 2 (.sub (.var 1) (.lit (.int 0)))),
 (.ifS (.ex (.cmp .ne (.len (.var 1)) (.call 2 [(.var 2)]))) [.stuck] []),
 (.forS (.inl 3) (.call 0 [(.var 1)]) [(.expr (.meth (.var 0) 0 [(.var 3)]))]),
 (.ifS (.any [(.ex (.cmp .eq (.var 2) (.lit (.int 2)))),(.ex (.cmp .eq (.var 2) (.lit (.int 3))))]) [(.expr (.call 4 [(.var 0),(.var 1)]))] [(.ifS (.any [(.ex (.cmp .eq (.var 2) (.lit (.int 6)))),(.ex (.cmp .eq (.var 2) (.lit (.int 7))))]) [(.ifS (.ex (.cmp .lt (.sub (.var 1) (.lit (.int 1))) (.lit (.int 0)))) [.stuck] [])] [(.ifS (.ex (.cmp .eq (.var 2) (.lit (.int 10)))) [(.ifS (.any [(.not (.ex (.call 6 [(.var 0),(.sub (.var 1) (.lit (.int 1)))]))),(.ex (.cmp .lt (.sub (.var 1) (.lit (.int 2))) (.lit (.int 0))))]) [.stuck] []),(.expr (.call 5 [(.var 0),(.sub (.var 1) (.lit (.int 3)))]))] [(.ifS (.ex (.cmp .eq (.var 2) (.lit (.int 8)))) [(.ifS (.not (.any [(.ex (.call 18 [(.var 0),(.sub (.var 1) (.lit (.int 1)))])),(.ex (.call 20 [(.var 0),(.sub (.var 1) (.lit (.int 1)))]))])) [.stuck] [])] [(.ifS (.not (.ex (.call 6 [(.var 0),(.sub (.var 1) (.lit (.int 1)))]))) [.stuck] [])])])])])]⟩
noncomputable def f4:MF:=⟨2,3,[
 (.ifS (.any [(.ex (.cmp .le (.sub (.var 1) (.lit (.int 1))) (.lit (.int 0)))),(.ex (.cmp .inn (.sub (.var 1) (.lit (.int 1))) (.lit (.cd 1))))]) [.stuck] []),
 (.expr (.call 5 [(.var 0),(.sub (.var 1) (.lit (.int 2)))]))]⟩
noncomputable def f5:MF:=⟨2,4,[
 (.forS (.inl 2) (.var 1) [(.ifS (.not (.ex (.call 6 [(.var 0),(.var 2)]))) [.stuck] [])])]⟩
noncomputable def f6:MF:=⟨2,4,[
 (.ifS (.any [(.ex (.cmp .eq (.var 1) (.lit (.int 0)))),(.ex (.cmp .eq (.var 1) (.lit (.int 14))))]) [(.ret (.lit (.bool false)))] []),
 (.assign 2 (.sub (.meth (.var 0) 0 [(.var 1)]) (.lit (.int 0)))),
 (.ret (.orE [(.cmp .le (.var 2) (.lit (.int 4))),(.cmp .eq (.var 2) (.lit (.int 6))),(.cmp .eq (.var 2) (.lit (.int 7)))]))]⟩
noncomputable def f7:MF:=⟨3,4,[
 (.ifS (.ex (.cmp .inn (.var 1) (.lit (.cd 1)))) [(.ret (.call 9 [(.var 1),(.var 2)]))] []),
 (.ret (.meth (.var 0) 1 [(.tup [(.lit (.int 2)),(.var 1),(.var 2)])]))]⟩
noncomputable def f8:MF:=⟨3,4,[
 (.ifS (.ex (.cmp .inn (.var 1) (.lit (.cd 1)))) [(.ret (.call 9 [(.var 1),(.var 2)]))] []),
 (.ret (.meth (.var 0) 1 [(.tup [(.lit (.int 3)),(.var 1),(.var 2)])]))]⟩
noncomputable def f9:MF:=⟨2,3,[
 (.ifS (.ex (.cmp .gt (.len (.var 1)) (.lit (.int 0)))) [.stuck] []),
 (.ret (.sub (.lit (.cd 1)) (.var 0)))]⟩
noncomputable def f10:MF:=⟨2,3,[
 (.ret (.meth (.var 0) 1 [(.tup [(.lit (.int 4)),(.var 1)])]))]⟩
noncomputable def f11:MF:=⟨2,3,[
 (.ret (.meth (.var 0) 1 [(.tup [(.lit (.int 6)),(.var 1)])]))]⟩
noncomputable def f12:MF:=⟨2,3,[
 (.ret (.meth (.var 0) 1 [(.tup [(.lit (.int 7)),(.var 1)])]))]⟩
noncomputable def f13:MF:=⟨2,3,[
 (.ret (.meth (.var 0) 1 [(.tup [(.lit (.int 8)),(.var 1)])]))]⟩
noncomputable def f14:MF:=⟨2,3,[
 (.ret (.sub (.meth (.var 0) 0 [(.var 1)]) (.lit (.int 0))))]⟩
noncomputable def f15:MF:=⟨2,4,[
 (.assign 2 (.meth (.var 0) 0 [(.var 1)])),
 (.ifS (.any [(.ex (.cmp .eq (.sub (.var 2) (.lit (.int 0))) (.lit (.int 4)))),(.ex (.cmp .eq (.sub (.var 2) (.lit (.int 0))) (.lit (.int 5)))),(.ex (.cmp .eq (.sub (.var 2) (.lit (.int 0))) (.lit (.int 9)))),(.ex (.cmp .eq (.sub (.var 2) (.lit (.int 0))) (.lit (.int 8))))]) [(.ret (.sub (.var 2) (.lit (.int 1))))] []),
 (.ret (.neg (.lit (.int 1))))]⟩
noncomputable def f16:MF:=⟨2,4,[
 (.assign 2 (.meth (.var 0) 0 [(.var 1)])),
 (.ifS (.any [(.ex (.cmp .eq (.sub (.var 2) (.lit (.int 0))) (.lit (.int 2)))),(.ex (.cmp .eq (.sub (.var 2) (.lit (.int 0))) (.lit (.int 3))))]) [(.ret (.sub (.var 2) (.lit (.int 1))))] []),
 (.ifS (.ex (.cmp .eq (.sub (.var 2) (.lit (.int 0))) (.lit (.int 1)))) [(.ret (.get2 (.lit (.cd 0)) (.var 1) (.lit (.int 0))))] []),
 (.ifS (.ex (.cmp .eq (.sub (.var 2) (.lit (.int 0))) (.lit (.int 4)))) [(.ret (.lit (.int 5)))] []),
 (.ret (.lit (.int 0)))]⟩
noncomputable def f17:MF:=⟨2,4,[
 (.assign 2 (.meth (.var 0) 0 [(.var 1)])),
 (.ifS (.any [(.ex (.cmp .eq (.sub (.var 2) (.lit (.int 0))) (.lit (.int 2)))),(.ex (.cmp .eq (.sub (.var 2) (.lit (.int 0))) (.lit (.int 3))))]) [(.ret (.sub (.var 2) (.lit (.int 2))))] []),
 (.ret (.tup []))]⟩
noncomputable def f18:MF:=⟨2,3,[
 (.ifS (.all [(.ex (.cmp .le (.lit (.int 1)) (.var 1))),(.ex (.cmp .le (.var 1) (.lit (.int 11))))]) [(.ret (.lit (.bool true)))] []),
 (.ret (.cmp .eq (.sub (.meth (.var 0) 0 [(.var 1)]) (.lit (.int 0))) (.lit (.int 3))))]⟩
noncomputable def f19:MF:=⟨2,4,[
 (.ifS (.any [(.ex (.cmp .eq (.var 1) (.lit (.int 12)))),(.ex (.cmp .eq (.var 1) (.lit (.int 13)))),(.ex (.cmp .eq (.var 1) (.lit (.int 14))))]) [(.ret (.lit (.bool true)))] []),
 (.assign 2 (.sub (.meth (.var 0) 0 [(.var 1)]) (.lit (.int 0)))),
 (.ret (.orE [(.cmp .eq (.var 2) (.lit (.int 2))),(.cmp .eq (.var 2) (.lit (.int 4))),(.cmp .eq (.var 2) (.lit (.int 8)))]))]⟩
noncomputable def f20:MF:=⟨2,4,[
 (.assign 2 (.sub (.meth (.var 0) 0 [(.var 1)]) (.lit (.int 0)))),
 (.ret (.orE [(.cmp .eq (.var 2) (.lit (.int 6))),(.cmp .eq (.var 2) (.lit (.int 7)))]))]⟩
noncomputable def f21:MF:=⟨1,2,[
 (.ifS (.ex (.cmp .notin (.var 0) (.lit (.cd 2)))) [.stuck] []),
 (.ret (.sub (.lit (.cd 2)) (.var 0)))]⟩
noncomputable def f22:MF:=⟨1,2,[
 (.ret (.andE [(.cmp .le (.lit (.int 2)) (.var 0)),(.cmp .le (.var 0) (.lit (.int 10)))]))]⟩
noncomputable def f23:MF:=⟨2,8,[
 (.assign 2 (.list [])),
 (.assign 3 (.dict 0 [(.var 1),(.lit (.int 1))])),
 (.assign 4 (.rev (.listOf (.get2 (.attr (.var 0) 11) (.var 1) (.tup []))))),
 (.whileS (.ex (.var 4)) [(.assign 5 (.pop (.var 4))),(.ifS (.ex (.cmp .inn (.var 5) (.var 3))) [.cont] []),(.setitem (.var 3) (.var 5) (.lit (.int 1))),(.expr (.append (.var 2) (.var 5))),(.ifS (.ex (.call 20 [(.attr (.var 0) 5),(.var 5)])) [(.forS (.inl 6) (.rev (.listOf (.get2 (.attr (.var 0) 11) (.var 5) (.tup [])))) [(.expr (.append (.var 4) (.var 6)))])] [])]),
 (.ret (.var 2))]⟩
noncomputable def f24:MF:=⟨2,4,[
 (.ifS (.ex (.bop .band (.get2 (.attr (.var 0) 12) (.var 1) (.lit (.int 0))) (.lit (.int 2)))) [(.ret (.lit (.bool true)))] []),
 (.forS (.inl 2) (.call 23 [(.var 0),(.var 1)]) [(.ifS (.ex (.call 20 [(.attr (.var 0) 5),(.var 2)])) [(.ifS (.ex (.bop .band (.get2 (.attr (.var 0) 12) (.var 2) (.lit (.int 0))) (.lit (.int 2)))) [(.ret (.lit (.bool true)))] [])] [(.ifS (.all [(.ex (.call 18 [(.attr (.var 0) 5),(.var 2)])),(.not (.ex (.call 32 [(.attr (.var 0) 5),(.var 2)])))]) [(.ret (.lit (.bool true)))] [])])]),
 (.ret (.lit (.bool false)))]⟩
noncomputable def f25:MF:=⟨2,4,[
 (.ifS (.ex (.bop .band (.get2 (.attr (.var 0) 12) (.var 1) (.lit (.int 0))) (.lit (.int 1)))) [(.ret (.lit (.bool true)))] []),
 (.forS (.inl 2) (.call 23 [(.var 0),(.var 1)]) [(.ifS (.all [(.ex (.call 19 [(.attr (.var 0) 5),(.var 2)])),(.not (.ex (.call 26 [(.var 0),(.var 2)]))),(.ex (.cmp .notin (.call 16 [(.attr (.var 0) 5),(.var 2)]) (.lit (.tup [(.int 1),(.int 2),(.int 3)]))))]) [(.ret (.lit (.bool true)))] [])]),
 (.ret (.lit (.bool false)))]⟩
noncomputable def f26:MF:=⟨2,3,[
 (.ret (.andE [(.cmp .eq (.call 14 [(.attr (.var 0) 5),(.var 1)]) (.lit (.int 2))),(.cmp .eq (.meth (.var 0) 4 [(.var 1)]) (.lit (.int 3)))]))]⟩
noncomputable def f27:MF:=⟨2,5,[
 (.assign 2 (.list [])),
 (.assign 3 (.dict 0 [])),
 (.whileS (.all [(.ex (.cmp .ne (.var 1) (.neg (.lit (.int 1))))),(.ex (.cmp .notin (.var 1) (.var 3)))]) [(.setitem (.var 3) (.var 1) (.lit (.int 1))),(.expr (.append (.var 2) (.var 1))),(.assign 1 (.meth (.var 0) 2 [(.var 1)]))]),
 (.ret (.var 2))]⟩
noncomputable def f28:MF:=⟨2,6,[
 (.assign 2 (.list [])),
 (.assign 3 (.dict 0 [])),
 (.forS (.inl 4) (.call 27 [(.var 0),(.var 1)]) [(.expr (.call 29 [(.var 0),(.meth (.var 0) 3 [(.var 4)]),(.var 2),(.var 3)]))]),
 (.ret (.var 2))]⟩
noncomputable def f29:MF:=⟨4,8,[
 (.assign 4 (.rev (.listOf (.var 1)))),
 (.whileS (.ex (.var 4)) [(.assign 5 (.pop (.var 4))),(.ifS (.ex (.cmp .inn (.var 5) (.var 3))) [.cont] []),(.setitem (.var 3) (.var 5) (.lit (.int 1))),(.expr (.append (.var 2) (.var 5))),(.forS (.inl 6) (.rev (.listOf (.meth (.var 0) 3 [(.var 5)]))) [(.expr (.append (.var 4) (.var 6)))])])]⟩
noncomputable def f30:MF:=⟨2,3,[
 (.ret (.orE [(.call 19 [(.attr (.var 0) 5),(.var 1)]),(.andE [(.call 20 [(.attr (.var 0) 5),(.var 1)]),(.call 25 [(.var 0),(.var 1)])])]))]⟩
noncomputable def f31:MF:=⟨2,4,[
 (.assign 2 (.meth (.var 0) 6 [(.var 1)])),
 (.ret (.get2 (.lit (.cd 3)) (.var 2) (.var 2)))]⟩
noncomputable def f32:MF:=⟨2,3,[
 (.ret (.andE [(.cmp .eq (.call 14 [(.var 0),(.var 1)]) (.lit (.int 3))),(.cmp .eq (.call 16 [(.var 0),(.var 1)]) (.lit (.int 8)))]))]⟩
noncomputable def f33:MF:=⟨2,5,[
 (.ifS (.ex (.cmp .inn (.var 1) (.attr (.var 0) 6))) [(.ret (.sub (.attr (.var 0) 6) (.var 1)))] []),
 (.assign 2 (.attr (.var 0) 5)),
 (.assign 3 (.call 14 [(.var 2),(.var 1)])),
 (.ifS (.ex (.cmp .eq (.var 1) (.lit (.int 12)))) [(.ret (.neg (.lit (.int 1))))] []),
 (.ifS (.ex (.cmp .eq (.var 1) (.lit (.int 13)))) [(.ret (.lit (.int 12)))] []),
 (.ifS (.ex (.cmp .eq (.var 3) (.lit (.int 4)))) [(.ret (.call 7 [(.var 2),(.lit (.int 5)),(.tup [])]))] []),
 (.ifS (.ex (.call 18 [(.var 2),(.var 1)])) [(.ret (.call 7 [(.var 2),(.ite (.ex (.cmp .eq (.call 34 [(.var 0),(.var 1)]) (.lit (.int 5)))) (.lit (.int 3)) (.lit (.int 2))),(.tup [])]))] []),
 (.ifS (.any [(.ex (.cmp .ne (.var 3) (.lit (.int 2)))),(.ex (.cmp .eq (.call 34 [(.var 0),(.var 1)]) (.lit (.int 3))))]) [(.ret (.neg (.lit (.int 1))))] []),
 (.ifS (.ex (.cmp .eq (.call 16 [(.var 2),(.var 1)]) (.lit (.int 3)))) [(.ret (.call 7 [(.var 2),(.lit (.int 2)),(.tup [])]))] []),
 (.ifS (.all [(.ex (.cmp .eq (.call 34 [(.var 0),(.var 1)]) (.lit (.int 4)))),(.ex (.cmp .ne (.call 16 [(.var 2),(.var 1)]) (.lit (.int 6))))]) [(.ret (.call 7 [(.var 2),(.lit (.int 6)),(.tup [])]))] []),
 (.ret (.lit (.int 12)))]⟩
noncomputable def f34:MF:=⟨2,4,[
 (.ifS (.ex (.call 20 [(.attr (.var 0) 5),(.var 1)])) [(.ret (.lit (.int 0)))] []),
 (.assign 2 (.call 16 [(.attr (.var 0) 5),(.var 1)])),
 (.ifS (.ex (.cmp .inn (.var 2) (.attr (.var 0) 8))) [(.ret (.sub (.attr (.var 0) 8) (.var 2)))] []),
 (.ifS (.ex (.call 18 [(.attr (.var 0) 5),(.var 1)])) [(.ret (.ite (.ex (.cmp .inn (.var 1) (.attr (.var 0) 10))) (.lit (.int 5)) (.lit (.int 2))))] []),
 (.ret (.ite (.ex (.var 2)) (.lit (.int 1)) (.lit (.int 0))))]⟩
noncomputable def f35:MF:=⟨2,6,[
 (.assign 2 (.attr (.var 0) 5)),
 (.ifS (.ex (.cmp .eq (.call 14 [(.var 2),(.var 1)]) (.lit (.int 8)))) [(.ret (.meth (.var 0) 2 [(.call 15 [(.var 2),(.var 1)])]))] []),
 (.assign 3 (.ite (.ex (.call 24 [(.var 0),(.var 1)])) (.call 7 [(.var 2),(.lit (.int 2)),(.tup [])]) (.lit (.int 12)))),
 (.forS (.inl 4) (.call 23 [(.var 0),(.var 1)]) [(.ifS (.ex (.call 18 [(.var 2),(.var 4)])) [(.ret (.meth (.var 0) 2 [(.var 4)]))] []),(.ifS (.all [(.ex (.call 19 [(.var 2),(.var 4)])),(.not (.ex (.call 26 [(.var 0),(.var 4)]))),(.ex (.call 37 [(.var 0),(.var 4),(.var 3)]))]) [(.assign 3 (.var 4))] [])]),
 (.ret (.var 3))]⟩
noncomputable def f36:MF:=⟨2,4,[
 (.assign 2 (.attr (.var 0) 5)),
 (.ifS (.ex (.cmp .eq (.call 14 [(.var 2),(.var 1)]) (.lit (.int 8)))) [(.ret (.meth (.var 0) 3 [(.call 15 [(.var 2),(.var 1)])]))] []),
 (.ret (.tupOf (.comp 3 (.call 23 [(.var 0),(.var 1)]) [(.ex (.call 26 [(.var 0),(.var 3)]))] (.var 3))))]⟩
noncomputable def f37:MF:=⟨3,4,[
 (.ret (.call 39 [(.var 0),(.var 1),(.var 2),(.lit (.int 0))]))]⟩
noncomputable def f38:MF:=⟨3,4,[
 (.ret (.call 39 [(.var 0),(.var 1),(.var 2),(.lit (.int 1))]))]⟩
noncomputable def f39:MF:=⟨4,6,[
 (.assign 4 (.new 2 [(.var 3)])),
 (.ifS (.ex (.call 42 [(.var 0),(.var 1),(.var 2),(.var 4)])) [(.ret (.lit (.bool true)))] []),
 (.expr (.call 40 [(.var 0),(.var 4)])),
 (.ret (.cmp .inn (.tup [(.var 1),(.var 2)]) (.attr (.var 4) 17)))]⟩
noncomputable def f40:MF:=⟨2,5,[
 (.assign 2 (.lit (.int 0))),
 (.whileS (.ex (.cmp .lt (.var 2) (.len (.attr (.var 1) 15)))) [(.assign 3 (.sub (.attr (.var 1) 15) (.var 2))),(.aug 2 .add (.lit (.int 1))),(.ifS (.all [(.ex (.cmp .notin (.var 3) (.attr (.var 1) 17))),(.ex (.call 41 [(.var 0),(.var 3),(.var 1)]))]) [(.setitem (.attr (.var 1) 17) (.var 3) (.lit (.int 1))),(.assign 2 (.lit (.int 0)))] [])])]⟩
noncomputable def f41:MF:=⟨3,4,[
 (.tryS [(.ret (.call 43 [(.var 0),(.sub (.var 1) (.lit (.int 0))),(.sub (.var 1) (.lit (.int 1))),(.var 2)]))])]⟩
noncomputable def f42:MF:=⟨4,6,[
 (.ifS (.ex (.cmp .eq (.var 1) (.var 2))) [(.ret (.lit (.bool true)))] []),
 (.assign 4 (.attr (.var 0) 5)),
 (.ifS (.any [(.not (.ex (.call 19 [(.var 4),(.var 1)]))),(.not (.ex (.call 19 [(.var 4),(.var 2)])))]) [(.ret (.lit (.bool false)))] []),
 (.ifS (.ex (.cmp .eq (.var 1) (.lit (.int 14)))) [(.ret (.lit (.bool true)))] []),
 (.ifS (.any [(.ex (.cmp .eq (.var 2) (.lit (.int 14)))),(.ex (.cmp .eq (.call 14 [(.var 4),(.var 2)]) (.lit (.int 8))))]) [(.ret (.lit (.bool false)))] []),
 (.ifS (.ex (.cmp .eq (.var 2) (.lit (.int 12)))) [(.ret (.lit (.bool true)))] []),
 (.ifS (.all [(.ex (.cmp .notin (.tup [(.var 1),(.var 2)]) (.attr (.var 3) 16))),(.ex (.cmp .lt (.len (.attr (.var 3) 15)) (.lit (.int 512))))]) [(.setitem (.attr (.var 3) 16) (.tup [(.var 1),(.var 2)]) (.lit (.int 1))),(.expr (.append (.attr (.var 3) 15) (.tup [(.var 1),(.var 2)])))] []),
 (.ret (.cmp .inn (.tup [(.var 1),(.var 2)]) (.attr (.var 3) 17)))]⟩
noncomputable def f43:MF:=⟨4,7,[
 (.assign 4 (.attr (.var 0) 5)),
 (.ifS (.all [(.ex (.cmp .eq (.call 14 [(.var 4),(.var 1)]) (.lit (.int 4)))),(.ex (.cmp .eq (.call 14 [(.var 4),(.var 2)]) (.lit (.int 4))))]) [(.ret (.call 47 [(.var 0),(.call 15 [(.var 4),(.var 1)]),(.call 15 [(.var 4),(.var 2)]),(.var 3)]))] []),
 (.ifS (.all [(.ex (.cmp .eq (.call 14 [(.var 4),(.var 1)]) (.lit (.int 8)))),(.ex (.call 20 [(.var 4),(.call 15 [(.var 4),(.var 1)])]))]) [(.ret (.call 44 [(.var 0),(.call 15 [(.var 4),(.var 1)]),(.var 2),(.var 3)]))] []),
 (.forS (.inl 5) (.call 27 [(.var 0),(.var 1)]) [(.ifS (.any [(.ex (.cmp .eq (.var 5) (.var 2))),(.ex (.call 45 [(.var 0),(.var 5),(.var 2),(.var 3)]))]) [(.ret (.lit (.bool true)))] [])]),
 (.ifS (.ex (.call 26 [(.var 0),(.var 2)])) [(.forS (.inl 5) (.call 28 [(.var 0),(.var 1)]) [(.ifS (.any [(.ex (.cmp .eq (.var 5) (.var 2))),(.ex (.call 45 [(.var 0),(.var 5),(.var 2),(.var 3)]))]) [(.ret (.lit (.bool true)))] [])])] []),
 (.ret (.lit (.bool false)))]⟩
noncomputable def f44:MF:=⟨4,7,[
 (.ifS (.all [(.ex (.cmp .eq (.var 2) (.call 7 [(.attr (.var 0) 5),(.lit (.int 2)),(.tup [])]))),(.ex (.call 24 [(.var 0),(.var 1)]))]) [(.ret (.lit (.bool true)))] []),
 (.forS (.inl 4) (.call 23 [(.var 0),(.var 1)]) [(.assign 5 (.ite (.ex (.call 18 [(.attr (.var 0) 5),(.var 4)])) (.call 13 [(.attr (.var 0) 5),(.var 4)]) (.var 4))),(.ifS (.all [(.not (.ex (.call 20 [(.attr (.var 0) 5),(.var 4)]))),(.ex (.call 42 [(.var 0),(.var 5),(.var 2),(.var 3)]))]) [(.ret (.lit (.bool true)))] [])]),
 (.ret (.lit (.bool false)))]⟩
noncomputable def f45:MF:=⟨4,12,[
 (.ifS (.ex (.cmp .eq (.var 1) (.var 2))) [(.ret (.lit (.bool true)))] []),
 (.assign 4 (.attr (.var 0) 5)),
 (.ifS (.any [(.ex (.cmp .ne (.call 14 [(.var 4),(.var 1)]) (.lit (.int 2)))),(.ex (.cmp .ne (.call 14 [(.var 4),(.var 2)]) (.lit (.int 2)))),(.ex (.cmp .ne (.call 16 [(.var 4),(.var 1)]) (.call 16 [(.var 4),(.var 2)])))]) [(.ret (.lit (.bool false)))] []),
 (.assign 5 (.meth (.var 0) 5 [(.call 16 [(.var 4),(.var 1)])])),
 (.assign 6 (.call 17 [(.var 4),(.var 1)])),
 (.assign 7 (.call 17 [(.var 4),(.var 2)])),
 (.ifS (.ex (.cmp .ne (.len (.var 6)) (.len (.var 7)))) [(.ret (.lit (.bool false)))] []),
 (.forR 8 (.len (.var 6)) [(.ifS (.ex (.cmp .ne (.sub (.var 6) (.var 8)) (.sub (.var 7) (.var 8)))) [(.assign 9 (.ite (.ex (.cmp .lt (.var 8) (.len (.var 5)))) (.sub (.var 5) (.var 8)) (.lit (.int 0)))),(.assign 10 (.ite (.ex (.cmp .eq (.var 9) (.lit (.int 2)))) (.tup [(.sub (.var 7) (.var 8)),(.sub (.var 6) (.var 8))]) (.tup [(.sub (.var 6) (.var 8)),(.sub (.var 7) (.var 8))]))),(.ifS (.any [(.ex (.cmp .eq (.var 9) (.lit (.int 0)))),(.not (.ex (.call 46 [(.var 0),(.sub (.var 10) (.lit (.int 0))),(.sub (.var 10) (.lit (.int 1))),(.var 3)])))]) [(.ret (.lit (.bool false)))] [])] [])]),
 (.ret (.lit (.bool true)))]⟩
noncomputable def f46:MF:=⟨4,6,[
 (.assign 4 (.attr (.var 0) 5)),
 (.ifS (.not (.ex (.call 30 [(.var 0),(.var 1)]))) [(.ret (.lit (.bool false)))] []),
 (.ifS (.ex (.call 20 [(.var 4),(.var 2)])) [(.ret (.orE [(.cmp .eq (.var 1) (.var 2)),(.andE [(.call 20 [(.var 4),(.var 1)]),(.cmp .inn (.var 2) (.call 23 [(.var 0),(.var 1)]))])]))] []),
 (.ret (.andE [(.call 19 [(.var 4),(.var 2)]),(.call 42 [(.var 0),(.ite (.ex (.call 20 [(.var 4),(.var 1)])) (.call 13 [(.var 4),(.var 1)]) (.var 1)),(.var 2),(.var 3)])]))]⟩
noncomputable def f47:MF:=⟨4,5,[
 (.ifS (.ex (.cmp .eq (.var 1) (.var 2))) [(.ret (.lit (.bool true)))] []),
 (.ifS (.ex (.call 30 [(.var 0),(.var 1)])) [(.ret (.call 46 [(.var 0),(.var 1),(.var 2),(.var 3)]))] []),
 (.ret (.andE [(.not (.attr (.var 3) 14)),(.cmp .eq (.call 31 [(.var 0),(.var 1)]) (.call 31 [(.var 0),(.var 2)]))]))]⟩
noncomputable def f48:MF:=⟨2,3,[
 (.ifS (.ex (.call 32 [(.var 0),(.var 1)])) [(.ret (.sub (.call 17 [(.var 0),(.var 1)]) (.lit (.int 0))))] []),
 (.ret (.neg (.lit (.int 1))))]⟩
noncomputable def f49:MF:=⟨2,4,[
 (.assign 2 (.call 48 [(.var 0),(.var 1)])),
 (.ret (.ite (.ex (.cmp .lt (.var 2) (.lit (.int 0)))) (.var 1) (.var 2)))]⟩
noncomputable def f50:MF:=⟨2,3,[
 (.ret (.andE [(.cmp .eq (.call 14 [(.attr (.var 0) 5),(.var 1)]) (.lit (.int 3))),(.cmp .ne (.meth (.var 0) 6 [(.var 1)]) (.var 1))]))]⟩
noncomputable def f51:MF:=⟨3,6,[
 (.ifS (.ex (.cmp .is (.var 1) (.lit .none))) [(.ret (.lit (.bool false)))] []),
 (.ifS (.all [(.ex (.cmp .eq (.var 0) (.lit (.int 7)))),(.ex (.cmp .inn (.var 2) (.lit (.tup [(.int 3),(.int 4),(.int 5),(.int 6),(.int 8),(.int 10)]))))]) [(.unpack [3,4] (.call 21 [(.var 2)])),(.ret (.andE [(.cmp .le (.var 3) (.var 1)),(.cmp .le (.var 1) (.var 4))]))] []),
 (.ret (.andE [(.cmp .eq (.var 0) (.lit (.int 9))),(.cmp .eq (.var 2) (.lit (.int 10))),(.cmp .ge (.var 1) (.lit (.int 0)))]))]⟩
noncomputable def f52:MF:=⟨4,8,[
 (.assign 4 (.attr (.var 0) 5)),
 (.ifS (.any [(.ex (.cmp .eq (.var 1) (.var 3))),(.ex (.cmp .eq (.var 1) (.lit (.int 15)))),(.ex (.cmp .eq (.var 3) (.lit (.int 15))))]) [(.ret (.tup [(.lit (.int 1)),(.lit (.int 10))]))] []),
 (.ifS (.any [(.ex (.cmp .eq (.var 1) (.lit (.int 0)))),(.ex (.cmp .eq (.var 3) (.lit (.int 0)))),(.ex (.cmp .eq (.var 3) (.lit (.int 14))))]) [(.ret (.lit (.tup [(.int 0),(.int 0)])))] []),
 (.ifS (.ex (.cmp .eq (.var 1) (.lit (.int 14)))) [(.ret (.call 53 [(.var 0),(.var 3)]))] []),
 (.assign 5 (.call 48 [(.var 4),(.var 3)])),
 (.ifS (.ex (.cmp .ge (.var 5) (.lit (.int 0)))) [(.ret (.call 54 [(.var 0),(.var 1),(.var 2),(.var 5)]))] []),
 (.ifS (.all [(.ex (.call 22 [(.var 1)])),(.ex (.call 55 [(.var 0),(.var 1),(.var 2),(.var 3)]))]) [(.ret (.tup [(.lit (.int 2)),(.lit (.int 1))]))] []),
 (.ifS (.ex (.call 20 [(.var 4),(.var 1)])) [(.ret (.call 56 [(.var 0),(.var 1),(.var 3)]))] []),
 (.ifS (.not (.ex (.call 19 [(.var 4),(.var 3)]))) [(.ret (.lit (.tup [(.int 0),(.int 0)])))] []),
 (.ifS (.ex (.call 18 [(.var 4),(.var 1)])) [(.assign 6 (.call 49 [(.var 4),(.var 1)])),(.ifS (.ex (.call 38 [(.var 0),(.ite (.ex (.call 19 [(.var 4),(.var 6)])) (.var 6) (.call 13 [(.var 4),(.var 6)])),(.var 3)])) [(.ret (.tup [(.lit (.int 2)),(.lit (.int 4))]))] []),(.ret (.lit (.tup [(.int 0),(.int 0)])))] []),
 (.ifS (.ex (.call 38 [(.var 0),(.var 1),(.var 3)])) [(.ret (.tup [(.lit (.int 2)),(.lit (.int 2))]))] []),
 (.ret (.lit (.tup [(.int 0),(.int 0)])))]⟩
noncomputable def f53:MF:=⟨2,4,[
 (.assign 2 (.attr (.var 0) 5)),
 (.ifS (.any [(.ex (.call 19 [(.var 2),(.var 1)])),(.ex (.call 32 [(.var 2),(.var 1)]))]) [(.ret (.tup [(.lit (.int 2)),(.lit (.int 8))]))] []),
 (.ifS (.all [(.ex (.call 20 [(.var 2),(.var 1)])),(.ex (.call 25 [(.var 0),(.var 1)]))]) [(.ret (.tup [(.lit (.int 2)),(.lit (.int 8))]))] []),
 (.ret (.lit (.tup [(.int 0),(.int 0)])))]⟩
noncomputable def f54:MF:=⟨4,6,[
 (.assign 4 (.call 48 [(.attr (.var 0) 5),(.var 1)])),
 (.ifS (.ex (.cmp .ge (.var 4) (.lit (.int 0)))) [(.ifS (.ex (.cmp .ne (.sub (.call 52 [(.var 0),(.var 4),(.lit .none),(.var 3)]) (.lit (.int 0))) (.lit (.int 0)))) [(.ret (.tup [(.lit (.int 2)),(.lit (.int 9))]))] []),(.ret (.lit (.tup [(.int 0),(.int 0)])))] []),
 (.ifS (.all [(.not (.ex (.call 19 [(.attr (.var 0) 5),(.var 1)]))),(.ex (.cmp .ne (.sub (.call 52 [(.var 0),(.var 1),(.var 2),(.var 3)]) (.lit (.int 0))) (.lit (.int 0))))]) [(.ret (.tup [(.lit (.int 2)),(.lit (.int 6))]))] []),
 (.ret (.lit (.tup [(.int 0),(.int 0)])))]⟩
noncomputable def f55:MF:=⟨4,5,[
 (.ifS (.any [(.ex (.cmp .inn (.var 3) (.get2 (.lit (.cd 4)) (.var 1) (.tup [])))),(.ex (.call 51 [(.var 1),(.var 2),(.var 3)]))]) [(.ret (.lit (.bool true)))] []),
 (.ret (.andE [(.cmp .ne (.var 1) (.lit (.int 2))),(.cmp .isnot (.var 2) (.lit .none)),(.cmp .eq (.var 2) (.lit (.int 0))),(.call 50 [(.var 0),(.var 3)])]))]⟩
noncomputable def f56:MF:=⟨3,5,[
 (.assign 3 (.attr (.var 0) 5)),
 (.ifS (.ex (.call 20 [(.var 3),(.var 2)])) [(.ret (.ite (.ex (.cmp .inn (.var 2) (.call 23 [(.var 0),(.var 1)]))) (.tup [(.lit (.int 2)),(.lit (.int 4))]) (.lit (.tup [(.int 0),(.int 0)]))))] []),
 (.ifS (.any [(.ex (.cmp .eq (.var 2) (.lit (.int 12)))),(.all [(.ex (.call 19 [(.var 3),(.var 2)])),(.ex (.call 38 [(.var 0),(.call 13 [(.var 3),(.var 1)]),(.var 2)]))])]) [(.ret (.tup [(.lit (.int 2)),(.lit (.int 4))]))] []),
 (.ret (.lit (.tup [(.int 0),(.int 0)])))]⟩
noncomputable def f57:MF:=⟨4,5,[
 (.ret (.cmp .ne (.sub (.call 52 [(.var 0),(.var 1),(.var 2),(.var 3)]) (.lit (.int 0))) (.lit (.int 0))))]⟩
noncomputable def f58:MF:=⟨5,10,[
 (.ifS (.ex (.cmp .eq (.var 3) (.var 4))) [(.ret (.lit (.int 0)))] []),
 (.ifS (.ex (.cmp .eq (.var 1) (.var 3))) [(.ret (.neg (.lit (.int 1))))] []),
 (.ifS (.ex (.cmp .eq (.var 1) (.var 4))) [(.ret (.lit (.int 1)))] []),
 (.assign 5 (.call 57 [(.var 0),(.var 3),(.lit .none),(.var 4)])),
 (.assign 6 (.call 57 [(.var 0),(.var 4),(.lit .none),(.var 3)])),
 (.ifS (.ex (.cmp .ne (.var 5) (.var 6))) [(.ret (.ite (.ex (.var 5)) (.neg (.lit (.int 1))) (.lit (.int 1))))] []),
 (.assign 7 (.call 49 [(.attr (.var 0) 5),(.var 3)])),
 (.assign 8 (.call 49 [(.attr (.var 0) 5),(.var 4)])),
 (.ifS (.ex (.cmp .inn (.var 8) (.get2 (.lit (.cd 5)) (.var 7) (.tup [])))) [(.ret (.neg (.lit (.int 1))))] []),
 (.ifS (.ex (.cmp .inn (.var 7) (.get2 (.lit (.cd 5)) (.var 8) (.tup [])))) [(.ret (.lit (.int 1)))] []),
 (.ret (.lit (.int 0)))]⟩
noncomputable def f59:MF:=⟨1,3,[
 (.assign 1 (.dict 0 [(.lit (.int 2)),(.tup [(.lit (.int 0)),(.lit (.int 65535))]),(.lit (.int 3)),(.tup [(.neg (.lit (.int 128))),(.lit (.int 127))]),(.lit (.int 4)),(.tup [(.lit (.int 0)),(.lit (.int 255))]),(.lit (.int 5)),(.tup [(.neg (.lit (.int 32768))),(.lit (.int 32767))]),(.lit (.int 6)),(.tup [(.lit (.int 0)),(.lit (.int 65535))]),(.lit (.int 7)),(.tup [(.neg (.lit (.int 2147483648))),(.lit (.int 2147483647))]),(.lit (.int 8)),(.tup [(.lit (.int 0)),(.lit (.int 4294967295))]),(.lit (.int 9)),(.tup [(.neg (.lit (.int 9223372036854775808))),(.lit (.int 9223372036854775807))]),(.lit (.int 10)),(.tup [(.lit (.int 0)),(.lit (.int 18446744073709551615))])])),
 (.ret (.get2 (.var 1) (.var 0) (.tup [])))]⟩
noncomputable def f60:MF:=⟨4,7,[
 (.assign 4 (.call 59 [(.var 1)])),
 (.assign 5 (.call 59 [(.var 3)])),
 (.ifS (.ex (.cmp .eq (.len (.var 4)) (.lit (.int 0)))) [(.ret (.lit (.bool false)))] []),
 (.ifS (.ex (.cmp .eq (.var 3) (.sub (.var 0) (.lit (.str 0))))) [(.ret (.andE [(.cmp .ne (.var 1) (.lit (.int 2))),(.cmp .eq (.var 2) (.lit (.int 0)))]))] []),
 (.ifS (.any [(.ex (.cmp .eq (.len (.var 5)) (.lit (.int 0)))),(.ex (.cmp .eq (.var 3) (.lit (.int 2))))]) [(.ret (.lit (.bool false)))] []),
 (.ifS (.all [(.ex (.cmp .le (.sub (.var 5) (.lit (.int 0))) (.sub (.var 4) (.lit (.int 0))))),(.ex (.cmp .le (.sub (.var 4) (.lit (.int 1))) (.sub (.var 5) (.lit (.int 1)))))]) [(.ret (.lit (.bool true)))] []),
 (.ifS (.any [(.ex (.cmp .is (.var 2) (.lit .none))),(.all [(.ex (.cmp .ne (.var 1) (.lit (.int 7)))),(.any [(.ex (.cmp .ne (.var 1) (.lit (.int 9)))),(.ex (.cmp .ne (.var 3) (.lit (.int 10))))])])]) [(.ret (.lit (.bool false)))] []),
 (.ret (.andE [(.cmp .le (.sub (.var 5) (.lit (.int 0))) (.var 2)),(.cmp .le (.var 2) (.sub (.var 5) (.lit (.int 1))))]))]⟩
noncomputable def f61:MF:=⟨2,6,[
 (.assign 2 (.list [])),
 (.assign 3 (.list [(.var 1)])),
 (.whileS (.ex (.cmp .gt (.len (.var 3)) (.lit (.int 0)))) [(.assign 4 (.pop (.var 3))),(.ifS (.ex (.cmp .notin (.var 4) (.var 2))) [(.expr (.append (.var 2) (.var 4))),(.assign 3 (.bop .add (.var 3) (.listOf (.get2 (.sub (.var 0) (.lit (.str 1))) (.var 4) (.tup [])))))] [])]),
 (.ret (.var 2))]⟩
noncomputable def f62:MF:=⟨2,3,[
 (.ret (.orE [(.cmp .eq (.sub (.sub (.var 0) (.lit (.str 2))) (.var 1)) (.lit (.int 1))),(.cmp .inn (.lit (.bool true)) (.comp 2 (.call 61 [(.var 0),(.var 1)]) [] (.cmp .inn (.var 2) (.sub (.var 0) (.lit (.str 3))))))]))]⟩
noncomputable def f63:MF:=⟨3,5,[
 (.ifS (.ex (.cmp .eq (.var 1) (.var 2))) [(.ret (.lit (.bool true)))] []),
 (.assign 3 (.orE [(.cmp .inn (.var 1) (.sub (.var 0) (.lit (.str 4)))),(.andE [(.cmp .inn (.var 1) (.sub (.var 0) (.lit (.str 2)))),(.call 62 [(.var 0),(.var 1)])])])),
 (.ret (.andE [(.var 3),(.cmp .inn (.var 2) (.call 61 [(.var 0),(.var 1)]))]))]⟩
noncomputable def f64:MF:=⟨3,7,[
 (.assign 3 (.call 61 [(.var 0),(.var 1)])),
 (.ifS (.ex (.cmp .inn (.var 2) (.var 3))) [(.ret (.lit (.bool true)))] []),
 (.forS (.inl 4) (.var 3) [(.ifS (.all [(.ex (.cmp .inn (.var 4) (.sub (.var 0) (.lit (.str 5))))),(.ex (.cmp .inn (.var 2) (.sub (.var 0) (.lit (.str 5))))),(.ex (.call 63 [(.var 0),(.sub (.sub (.var 0) (.lit (.str 5))) (.var 4)),(.sub (.sub (.var 0) (.lit (.str 5))) (.var 2))]))]) [(.ret (.lit (.bool true)))] []),(.ifS (.all [(.ex (.cmp .inn (.var 4) (.sub (.var 0) (.lit (.str 6))))),(.ex (.cmp .inn (.var 2) (.sub (.var 0) (.lit (.str 6)))))]) [(.assign 5 (.tup [(.sub (.sub (.var 0) (.lit (.str 6))) (.var 4)),(.sub (.sub (.var 0) (.lit (.str 6))) (.var 2))])),(.ifS (.all [(.ex (.cmp .eq (.sub (.var 0) (.lit (.str 7))) (.lit (.int 1)))),(.ex (.call 63 [(.var 0),(.sub (.var 5) (.lit (.int 0))),(.sub (.var 5) (.lit (.int 1)))]))]) [(.ret (.lit (.bool true)))] []),(.ifS (.all [(.ex (.cmp .eq (.sub (.var 0) (.lit (.str 7))) (.lit (.int 2)))),(.ex (.call 63 [(.var 0),(.sub (.var 5) (.lit (.int 1))),(.sub (.var 5) (.lit (.int 0)))]))]) [(.ret (.lit (.bool true)))] [])] [])]),
 (.ret (.lit (.bool false)))]⟩
noncomputable def f65:MF:=⟨4,8,[
 (.assign 4 (.sub (.var 0) (.lit (.str 8)))),
 (.assign 5 (.tup [(.lit (.int 0)),(.lit (.int 0))])),
 (.ifS (.any [(.ex (.cmp .eq (.var 1) (.var 3))),(.ex (.cmp .eq (.var 1) (.lit (.int 15))))]) [(.ret (.tup [(.lit (.int 1)),(.lit (.int 10))]))] []),
 (.ifS (.ex (.cmp .eq (.var 1) (.lit (.int 0)))) [(.ret (.var 5))] []),
 (.ifS (.ex (.cmp .eq (.var 1) (.lit (.int 14)))) [(.assign 6 (.orE [(.cmp .inn (.var 3) (.sub (.var 0) (.lit (.str 4)))),(.cmp .inn (.var 3) (.var 4)),(.andE [(.cmp .inn (.var 3) (.sub (.var 0) (.lit (.str 2)))),(.call 62 [(.var 0),(.var 3)])])])),(.ret (.ite (.ex (.var 6)) (.tup [(.lit (.int 2)),(.lit (.int 8))]) (.var 5)))] []),
 (.ifS (.all [(.ex (.cmp .inn (.var 3) (.var 4))),(.ex (.cmp .inn (.var 1) (.var 4)))]) [(.ret (.ite (.ex (.cmp .ne (.call 65 [(.var 0),(.sub (.var 4) (.var 1)),(.lit .none),(.sub (.var 4) (.var 3))]) (.var 5))) (.tup [(.lit (.int 2)),(.lit (.int 9))]) (.var 5)))] []),
 (.ifS (.ex (.cmp .inn (.var 3) (.var 4))) [(.ret (.ite (.ex (.cmp .ne (.call 65 [(.var 0),(.var 1),(.var 2),(.sub (.var 4) (.var 3))]) (.var 5))) (.tup [(.lit (.int 2)),(.lit (.int 6))]) (.var 5)))] []),
 (.ifS (.ex (.call 60 [(.var 0),(.var 1),(.var 2),(.var 3)])) [(.ret (.tup [(.lit (.int 2)),(.lit (.int 1))]))] []),
 (.ifS (.ex (.cmp .inn (.var 3) (.sub (.var 0) (.lit (.str 2))))) [(.ret (.ite (.all [(.ex (.cmp .inn (.var 1) (.sub (.var 0) (.lit (.str 2))))),(.ex (.cmp .inn (.var 3) (.call 61 [(.var 0),(.var 1)])))]) (.tup [(.lit (.int 2)),(.lit (.int 4))]) (.var 5)))] []),
 (.ifS (.all [(.ex (.cmp .inn (.var 3) (.sub (.var 0) (.lit (.str 4))))),(.ex (.call 64 [(.var 0),(.get2 (.var 4) (.var 1) (.var 1)),(.var 3)]))]) [(.ret (.tup [(.lit (.int 2)),(.ite (.ex (.cmp .inn (.var 1) (.sub (.var 0) (.lit (.str 4))))) (.lit (.int 2)) (.lit (.int 4)))]))] []),
 (.ret (.var 5))]⟩
noncomputable def f66:MF:=⟨2,5,[
 (.assign 2 (.call 59 [(.var 0)])),
 (.assign 3 (.call 59 [(.var 1)])),
 (.ifS (.any [(.ex (.cmp .eq (.len (.var 2)) (.lit (.int 0)))),(.ex (.cmp .eq (.len (.var 3)) (.lit (.int 0)))),(.ex (.cmp .eq (.var 0) (.lit (.int 2)))),(.ex (.cmp .eq (.var 1) (.lit (.int 2))))]) [(.ret (.lit (.bool false)))] []),
 (.ret (.andE [(.cmp .lt (.sub (.var 2) (.lit (.int 0))) (.lit (.int 0))),(.cmp .eq (.sub (.var 3) (.lit (.int 0))) (.lit (.int 0))),(.cmp .lt (.sub (.var 2) (.lit (.int 1))) (.sub (.var 3) (.lit (.int 1))))]))]⟩
noncomputable def f67:MF:=⟨4,9,[
 (.ifS (.ex (.cmp .eq (.var 2) (.var 3))) [(.ret (.lit (.int 0)))] []),
 (.ifS (.any [(.ex (.cmp .eq (.var 1) (.var 2))),(.ex (.cmp .eq (.var 1) (.var 3)))]) [(.ret (.ite (.ex (.cmp .eq (.var 1) (.var 2))) (.neg (.lit (.int 1))) (.lit (.int 1))))] []),
 (.assign 4 (.cmp .ne (.sub (.call 65 [(.var 0),(.var 2),(.lit .none),(.var 3)]) (.lit (.int 0))) (.lit (.int 0)))),
 (.assign 5 (.cmp .ne (.sub (.call 65 [(.var 0),(.var 3),(.lit .none),(.var 2)]) (.lit (.int 0))) (.lit (.int 0)))),
 (.ifS (.ex (.cmp .ne (.var 4) (.var 5))) [(.ret (.ite (.ex (.var 4)) (.neg (.lit (.int 1))) (.lit (.int 1))))] []),
 (.assign 6 (.get2 (.sub (.var 0) (.lit (.str 8))) (.var 2) (.var 2))),
 (.assign 7 (.get2 (.sub (.var 0) (.lit (.str 8))) (.var 3) (.var 3))),
 (.ifS (.ex (.call 66 [(.var 6),(.var 7)])) [(.ret (.neg (.lit (.int 1))))] []),
 (.ret (.ite (.ex (.call 66 [(.var 7),(.var 6)])) (.lit (.int 1)) (.lit (.int 0))))]⟩
noncomputable def f68:MF:=⟨3,8,[
 (.assign 3 (.tup [(.sub (.sub (.var 0) (.lit (.str 3))) (.bop .mod (.bop .div (.var 1) (.lit (.int 12))) (.lit (.int 3))))])),
 (.assign 4 (.tup [(.sub (.sub (.var 0) (.lit (.str 10))) (.bop .mod (.bop .div (.var 1) (.lit (.int 36))) (.lit (.int 4))))])),
 (.assign 5 (.tup [(.sub (.sub (.var 0) (.lit (.str 11))) (.bop .mod (.bop .div (.var 1) (.lit (.int 12))) (.lit (.int 3))))])),
 (.assign 6 (.tup [(.tup [(.tup []),(.lit (.int 0))]),(.tup [(.tup []),(.lit (.int 1))]),(.tup [(.tup []),(.lit (.int 2))]),(.tup [(.var 3),(.lit (.int 0))]),(.tup [(.var 4),(.lit (.int 0))]),(.tup [(.var 2),(.lit (.int 0))]),(.tup [(.bop .add (.var 4) (.var 2)),(.lit (.int 0))]),(.tup [(.var 5),(.lit (.int 0))]),(.tup [(.var 4),(.lit (.int 2))]),(.tup [(.bop .add (.var 3) (.var 4)),(.lit (.int 0))]),(.tup [(.var 4),(.lit (.int 1))]),(.tup [(.tup [(.sub (.sub (.var 0) (.lit (.str 9))) (.lit (.int 1)))]),(.lit (.int 0))])])),
 (.ret (.sub (.var 6) (.bop .mod (.var 1) (.lit (.int 12)))))]⟩
noncomputable def f69:MF:=⟨4,11,[
 (.assign 4 (.tup [])),
 (.assign 5 (.list [])),
 (.forR 6 (.lit (.int 4)) [(.unpack [7,8] (.call 68 [(.var 0),(.bop .add (.bop .div (.var 2) (.bop .pow (.lit (.int 12)) (.var 6))) (.sub (.tup [(.lit (.int 3)),(.lit (.int 5)),(.lit (.int 8)),(.lit (.int 4))]) (.var 6))),(.var 4)])),(.assign 9 (.sub (.var 3) (.var 6))),(.setitem (.attr (.var 1) 11) (.var 9) (.var 7)),(.setitem (.attr (.var 1) 12) (.var 9) (.var 8)),(.setitem (.sub (.var 0) (.lit (.str 2))) (.var 9) (.var 8)),(.setitem (.sub (.var 0) (.lit (.str 1))) (.var 9) (.bop .add (.listOf (.var 7)) (.list [(.lit (.int 12))]))),(.ifS (.ex (.cmp .eq (.var 8) (.lit (.int 2)))) [(.expr (.append (.sub (.sub (.var 0) (.lit (.str 1))) (.var 9)) (.sub (.sub (.var 0) (.lit (.str 9))) (.lit (.int 0))))),(.expr (.append (.var 5) (.var 9)))] [(.assign 4 (.tup [(.var 9)]))])]),
 (.ret (.var 5))]⟩
noncomputable def f70:MF:=⟨1,26,[
 (.assign 1 (.new 0 [])),
 (.assign 2 (.new 1 [(.var 1)])),
 (.unpack [3,4,5,6,7] (.comp 25 (.tup [(.lit (.int 64)),(.lit (.int 65)),(.lit (.int 66)),(.lit (.int 67)),(.lit (.int 68))]) [] (.call 7 [(.var 1),(.var 25),(.tup [])]))),
 (.unpack [8,9,10] (.comp 25 (.tup [(.lit (.int 2)),(.lit (.int 3)),(.lit (.int 5))]) [] (.call 7 [(.var 1),(.var 25),(.tup [])]))),
 (.assign 11 (.call 8 [(.var 1),(.lit (.int 70)),(.tup [])])),
 (.assign 12 (.call 8 [(.var 1),(.lit (.int 71)),(.tup [])])),
 (.assign 13 (.list [(.call 11 [(.var 1),(.lit (.int 0))]),(.call 12 [(.var 1),(.lit (.int 0))]),(.call 11 [(.var 1),(.lit (.int 1))]),(.call 12 [(.var 1),(.lit (.int 1))])])),
 (.assign 14 (.list [(.lit (.int 12)),(.var 3),(.var 4),(.var 5),(.var 6),(.var 11),(.lit (.int 7))])),
 (.assign 15 (.bop .add (.list [(.sub (.var 13) (.bop .mod (.bop .div (.var 0) (.lit (.int 5))) (.lit (.int 4)))),(.sub (.var 13) (.bop .mod (.bop .add (.bop .div (.var 0) (.lit (.int 5))) (.lit (.int 1))) (.lit (.int 4))))]) (.comp 25 (.tup [(.lit (.int 1)),(.lit (.int 2)),(.lit (.int 4))]) [] (.sub (.var 14) (.bop .mod (.bop .add (.bop .div (.var 0) (.lit (.int 19))) (.var 25)) (.lit (.int 7))))))),
 (.assign 16 (.dict 0 [])),
 (.assign 17 (.dict 0 [])),
 (.forS (.inl 18) (.var 15) [(.setitem (.var 16) (.call 7 [(.var 1),(.lit (.int 69)),(.tup [(.var 18)])]) (.var 18)),(.setitem (.var 17) (.call 10 [(.var 1),(.var 18)]) (.var 18))]),
 (.assign 19 (.listOf (.var 16))),
 (.assign 20 (.list [(.lit (.int 7)),(.lit (.int 8)),(.lit (.int 5)),(.lit (.int 9)),(.lit (.int 6)),(.lit (.int 10)),(.lit (.int 3)),(.lit (.int 4)),(.lit (.int 2)),(.lit (.int 1))])),
 (.assign 21 (.bop .div (.var 0) (.lit (.int 23)))),
 (.assign 22 (.dict 0 [(.var 8),(.list [(.lit (.int 12))]),(.var 9),(.list [(.var 8)]),(.var 10),(.list [(.lit (.int 12))]),(.lit (.int 13)),(.list [(.lit (.int 12))]),(.var 12),(.list [(.var 9)]),(.var 6),(.list [(.lit (.int 12))]),(.var 7),(.bop .add (.list [(.lit (.int 12))]) (.from_ (.list [(.var 6)]) (.bop .mod (.var 21) (.lit (.int 2))))),(.var 3),(.bop .add (.list [(.lit (.int 12))]) (.from_ (.list [(.var 6)]) (.bop .mod (.bop .div (.var 21) (.lit (.int 2))) (.lit (.int 2))))),(.var 4),(.bop .add (.list [(.sub (.tup [(.var 3),(.lit (.int 12))]) (.bop .mod (.bop .div (.var 21) (.lit (.int 4))) (.lit (.int 2))))]) (.from_ (.list [(.var 7)]) (.bop .mod (.bop .div (.var 21) (.lit (.int 8))) (.lit (.int 2))))),(.var 5),(.list [(.sub (.tup [(.var 4),(.var 3),(.lit (.int 12))]) (.bop .mod (.bop .div (.var 21) (.lit (.int 16))) (.lit (.int 3)))),(.sub (.var 19) (.bop .add (.lit (.int 2)) (.bop .mod (.bop .div (.var 21) (.lit (.int 48))) (.lit (.int 3)))))]),(.var 11),(.list [(.var 8),(.sub (.tup [(.var 7),(.var 6),(.sub (.var 19) (.lit (.int 4)))]) (.bop .mod (.bop .div (.var 21) (.lit (.int 144))) (.lit (.int 3))))]),(.lit (.int 7)),(.bop .add (.list [(.var 8)]) (.from_ (.list [(.var 6)]) (.bop .mod (.bop .div (.var 21) (.lit (.int 432))) (.lit (.int 2)))))])),
 (.forS (.inl 18) (.from_ (.var 20) (.lit (.int 1))) [(.setitem (.var 22) (.var 18) (.list [(.var 8)]))]),
 (.forS (.inl 18) (.var 19) [(.setitem (.var 22) (.var 18) (.list [(.lit (.int 12))]))]),
 (.forS (.inl 18) (.var 17) [(.setitem (.var 22) (.var 18) (.list [(.var 10)]))]),
 (.forS (.inl 18) (.var 22) [(.setitem (.attr (.var 2) 7) (.var 18) (.tupOf (.comp 25 (.sub (.var 22) (.var 18)) [(.any [(.ex (.cmp .inn (.var 25) (.var 19))),(.ex (.cmp .inn (.var 25) (.tup [(.var 6),(.var 7)])))])] (.var 25))))]),
 (.setattr (.var 2) 6 (.dict 0 [(.var 4),(.sub (.sub (.var 22) (.var 4)) (.lit (.int 0))),(.var 5),(.sub (.sub (.var 22) (.var 5)) (.lit (.int 0)))])),
 (.setattr (.var 2) 8 (.dict 0 [(.lit (.int 67)),(.lit (.int 3)),(.lit (.int 68)),(.lit (.int 3)),(.lit (.int 69)),(.lit (.int 3)),(.lit (.int 70)),(.lit (.int 2)),(.lit (.int 71)),(.lit (.int 5))])),
 (.setattr (.var 2) 10 (.dict 0 [(.var 12),(.sub (.var 20) (.bop .mod (.bop .div (.var 0) (.lit (.int 29))) (.lit (.int 8))))])),
 (.assign 23 (.dict 1 [(.lit (.str 0)),(.var 12),(.lit (.str 3)),(.list [(.var 4),(.var 5),(.var 3)]),(.lit (.str 10)),(.list [(.var 6),(.sub (.var 19) (.lit (.int 0))),(.var 7),(.sub (.var 19) (.lit (.int 2)))]),(.lit (.str 11)),(.list [(.var 11),(.var 12),(.lit (.int 7))])])),
 (.setitem (.var 23) (.lit (.str 9)) (.list [(.var 8),(.var 9)])),
 (.setitem (.var 23) (.lit (.str 7)) (.sub (.tup [(.lit (.int 1)),(.lit (.int 2)),(.lit (.int 0))]) (.bop .mod (.bop .div (.var 0) (.lit (.int 7))) (.lit (.int 3))))),
 (.setattr (.var 2) 9 (.dict 0 [(.lit (.int 69)),(.tup [(.sub (.var 23) (.lit (.str 7)))])])),
 (.setitem (.var 23) (.lit (.str 1)) (.var 22)),
 (.setitem (.var 23) (.lit (.str 6)) (.var 16)),
 (.setitem (.var 23) (.lit (.str 5)) (.var 17)),
 (.setitem (.var 23) (.lit (.str 2)) (.dict 0 [])),
 (.setitem (.var 23) (.lit (.str 4)) (.bop .add (.bop .add (.list [(.lit (.int 12)),(.lit (.int 13)),(.var 3),(.var 4),(.var 5),(.var 6),(.var 7),(.var 8),(.var 9),(.var 10)]) (.var 19)) (.listOf (.var 17)))),
 (.assign 24 (.call 69 [(.var 23),(.var 2),(.var 0),(.var 13)])),
 (.setitem (.var 23) (.lit (.str 8)) (.dict 0 [])),
 (.forS (.inl 18) (.bop .add (.bop .add (.comp 25 (.tup [(.lit (.int 0)),(.lit (.int 1)),(.lit (.int 3)),(.lit (.int 6))]) [] (.sub (.var 20) (.bop .mod (.bop .add (.bop .div (.var 0) (.lit (.int 31))) (.var 25)) (.lit (.int 10))))) (.list [(.var 11),(.var 12)])) (.var 24)) [(.setitem (.sub (.var 23) (.lit (.str 8))) (.call 8 [(.var 1),(.lit (.int 8)),(.tup [(.var 18)])]) (.var 18))]),
 (.setitem (.var 23) (.lit (.str 12)) (.var 20)),
 (.ret (.tup [(.var 23),(.var 2)]))]⟩
noncomputable def f71:MF:=⟨6,7,[
 (.ifS (.ex (.cmp .ne (.call 58 [(.var 1),(.var 2),(.var 3),(.var 4),(.var 5)]) (.call 67 [(.var 0),(.var 2),(.var 4),(.var 5)]))) [(.ret (.lit (.bool false)))] []),
 (.ifS (.any [(.ex (.cmp .ne (.call 58 [(.var 1),(.var 2),(.var 3),(.var 5),(.var 4)]) (.call 67 [(.var 0),(.var 2),(.var 5),(.var 4)]))),(.ex (.cmp .ne (.call 58 [(.var 1),(.var 2),(.var 3),(.var 5),(.var 5)]) (.lit (.int 0))))]) [(.ret (.lit (.bool false)))] []),
 (.ret (.cmp .eq (.call 52 [(.var 1),(.var 2),(.var 3),(.var 4)]) (.call 65 [(.var 0),(.var 2),(.var 3),(.var 4)])))]⟩
noncomputable def f72:MF:=⟨1,5,[
 (.assign 1 (.listOf (.sub (.var 0) (.lit (.str 2))))),
 (.assign 2 (.listOf (.sub (.var 0) (.lit (.str 8))))),
 (.assign 3 (.bop .add (.sub (.var 0) (.lit (.str 12))) (.to_ (.sub (.var 0) (.lit (.str 11))) (.lit (.int 2))))),
 (.ret (.tup [(.bop .add (.bop .add (.var 1) (.to_ (.sub (.var 0) (.lit (.str 4))) (.lit (.int 7)))) (.from_ (.var 2) (.lit (.int 6)))),(.bop .add (.var 3) (.var 2)),(.bop .add (.bop .add (.var 1) (.from_ (.sub (.var 0) (.lit (.str 4))) (.lit (.int 7)))) (.to_ (.sub (.var 0) (.lit (.str 4))) (.lit (.int 1)))),(.bop .add (.bop .add (.bop .add (.var 1) (.var 3)) (.var 2)) (.sub (.var 0) (.lit (.str 4))))]))]⟩
noncomputable def f73:MF:=⟨1,19,[
 (.assign 2 (.comp 18 (.to_ (.var 0) (.lit (.int 8))) [] (.bop .mod (.var 18) (.lit (.int 1000000007))))),
 (.assign 1 (.lit (.int 0))),
 (.forS (.inl 3) (.var 2) [(.assign 1 (.bop .mod (.bop .add (.bop .mul (.var 1) (.lit (.int 31))) (.var 3)) (.lit (.int 1000000007))))]),
 (.unpack [4,5] (.call 70 [(.var 1)])),
 (.assign 6 (.listOf (.sub (.var 4) (.lit (.str 8))))),
 (.assign 7 (.sub (.var 6) (.bop .mod (.var 1) (.len (.var 6))))),
 (.assign 8 (.list [(.tup [(.var 7),(.lit .none),(.var 7),(.sub (.sub (.var 4) (.lit (.str 8))) (.var 7))]),(.tup [(.lit (.int 14)),(.lit .none),(.sub (.sub (.var 4) (.lit (.str 8))) (.var 7)),(.var 7)]),(.tup [(.lit (.int 14)),(.lit .none),(.sub (.listOf (.sub (.var 4) (.lit (.str 2)))) (.bop .mod (.var 1) (.lit (.int 4)))),(.lit (.int 12))])])),
 (.assign 9 (.call 72 [(.var 4)])),
 (.assign 10 (.bop .add (.list [(.bop .add (.bop .div (.var 1) (.lit (.int 3))) (.lit (.int 121))),(.bop .add (.bop .div (.var 1) (.lit (.int 7))) (.lit (.int 228))),(.bop .add (.bop .div (.var 1) (.lit (.int 11))) (.lit (.int 8)))]) (.var 2))),
 (.forR 11 (.len (.var 10)) [(.assign 12 (.sub (.var 9) (.bop .mod (.var 11) (.lit (.int 4))))),(.assign 13 (.len (.var 12))),(.assign 14 (.sub (.var 10) (.var 11))),(.assign 3 (.sub (.var 12) (.bop .mod (.var 14) (.var 13)))),(.assign 15 (.sub (.var 12) (.bop .mod (.bop .add (.bop .add (.var 14) (.lit (.int 1))) (.bop .mod (.bop .div (.var 14) (.var 13)) (.bop .sub (.var 13) (.lit (.int 1))))) (.var 13)))),(.assign 14 (.bop .div (.bop .div (.var 14) (.var 13)) (.bop .sub (.var 13) (.lit (.int 1))))),(.assign 16 (.sub (.tup [(.lit (.int 14)),(.var 3),(.lit (.int 7)),(.sub (.var 12) (.bop .mod (.bop .div (.var 14) (.lit (.int 8))) (.var 13))),(.lit (.int 0)),(.sub (.var 6) (.bop .mod (.bop .div (.var 14) (.lit (.int 8))) (.len (.var 6)))),(.lit (.int 9)),(.lit (.int 15))]) (.bop .mod (.var 14) (.lit (.int 8))))),(.assign 17 (.lit .none)),(.ifS (.any [(.ex (.cmp .eq (.var 16) (.lit (.int 7)))),(.ex (.cmp .eq (.var 16) (.lit (.int 9))))]) [(.assign 17 (.sub (.tup [(.lit .none),(.lit (.int 0)),(.lit (.int 7)),(.neg (.lit (.int 1))),(.lit (.int 300)),(.lit (.int 70000))]) (.bop .mod (.bop .div (.var 14) (.lit (.int 64))) (.lit (.int 6)))))] [(.ifS (.ex (.cmp .gt (.len (.call 59 [(.var 16)])) (.lit (.int 0)))) [(.assign 17 (.sub (.tup [(.lit .none),(.lit (.int 0))]) (.bop .mod (.bop .div (.var 14) (.lit (.int 64))) (.lit (.int 2)))))] [])]),(.expr (.append (.var 8) (.tup [(.var 16),(.var 17),(.var 3),(.var 15)])))]),
 (.forS (.inr [16,17,3,15]) (.var 8) [(.ifS (.not (.ex (.call 71 [(.var 4),(.var 5),(.var 16),(.var 17),(.var 3),(.var 15)]))) [(.ret (.lit (.bool false)))] [])]),
 (.ret (.lit (.bool true)))]⟩
noncomputable def f100:MF:=⟨1,4,[
 (.setattr (.var 0) 0 (.list [])),
 (.setattr (.var 0) 1 (.dict 2 [])),
 (.setattr (.var 0) 2 (.list [])),
 (.setattr (.var 0) 3 (.list [])),
 (.setattr (.var 0) 4 (.list [])),
 (.forR 1 (.lit (.int 16)) [(.assign 2 (.tup [(.lit (.int 1)),(.var 1)])),(.expr (.append (.attr (.var 0) 0) (.var 2))),(.setitem (.attr (.var 0) 1) (.var 2) (.var 1)),(.expr (.append (.attr (.var 0) 2) (.lit (.int 1)))),(.expr (.append (.attr (.var 0) 3) (.lit (.int 1)))),(.expr (.append (.attr (.var 0) 4) (.lit (.int 0))))])]⟩
noncomputable def f101:MF:=⟨2,3,[
 (.ifS (.any [(.ex (.cmp .lt (.var 1) (.lit (.int 0)))),(.ex (.cmp .ge (.var 1) (.len (.attr (.var 0) 0))))]) [.stuck] []),
 (.ret (.sub (.attr (.var 0) 0) (.var 1)))]⟩
noncomputable def f102:MF:=⟨2,10,[
 (.assign 2 (.get2 (.attr (.var 0) 1) (.var 1) (.neg (.lit (.int 1))))),
 (.ifS (.ex (.cmp .ge (.var 2) (.lit (.int 0)))) [(.ret (.var 2))] []),
 (.expr (.call 3 [(.var 0),(.var 1)])),
 (.assign 3 (.lit (.int 1))),
 (.assign 4 (.lit (.int 1))),
 (.assign 5 (.lit (.int 0))),
 (.ifS (.any [(.ex (.cmp .eq (.sub (.var 1) (.lit (.int 0))) (.lit (.int 6)))),(.ex (.cmp .eq (.sub (.var 1) (.lit (.int 0))) (.lit (.int 7))))]) [(.assign 5 (.lit (.int 1)))] []),
 (.assign 6 (.call 1 [(.sub (.var 1) (.lit (.int 0)))])),
 (.forS (.inl 7) (.call 0 [(.var 1)]) [(.ifS (.ex (.cmp .gt (.bop .add (.sub (.attr (.var 0) 2) (.var 7)) (.var 6)) (.var 3))) [(.assign 3 (.bop .add (.sub (.attr (.var 0) 2) (.var 7)) (.var 6)))] []),(.aug 4 .add (.sub (.attr (.var 0) 3) (.var 7))),(.ifS (.ex (.cmp .eq (.sub (.attr (.var 0) 4) (.var 7)) (.lit (.int 1)))) [(.assign 5 (.lit (.int 1)))] [])]),
 (.ifS (.ex (.cmp .gt (.var 3) (.lit (.int 24)))) [.stuck] []),
 (.ifS (.ex (.cmp .gt (.var 4) (.lit (.int 4096)))) [.stuck] []),
 (.assign 8 (.len (.attr (.var 0) 0))),
 (.expr (.append (.attr (.var 0) 0) (.var 1))),
 (.setitem (.attr (.var 0) 1) (.var 1) (.var 8)),
 (.expr (.append (.attr (.var 0) 2) (.var 3))),
 (.expr (.append (.attr (.var 0) 3) (.var 4))),
 (.expr (.append (.attr (.var 0) 4) (.var 5))),
 (.ret (.var 8))]⟩
noncomputable def f103:MF:=⟨2,3,[
 (.setattr (.var 0) 5 (.var 1)),
 (.setattr (.var 0) 6 (.dict 0 [])),
 (.setattr (.var 0) 7 (.dict 0 [])),
 (.setattr (.var 0) 8 (.dict 0 [])),
 (.setattr (.var 0) 9 (.dict 0 [])),
 (.setattr (.var 0) 10 (.dict 0 [])),
 (.setattr (.var 0) 11 (.dict 0 [])),
 (.setattr (.var 0) 12 (.dict 0 [])),
 (.setattr (.var 0) 13 (.dict 0 []))]⟩
noncomputable def f104:MF:=⟨2,3,[
 (.ifS (.any [(.ex (.call 20 [(.attr (.var 0) 5),(.var 1)])),(.ex (.cmp .eq (.call 14 [(.attr (.var 0) 5),(.var 1)]) (.lit (.int 8))))]) [(.ret (.call 35 [(.var 0),(.var 1)]))] []),
 (.ret (.call 33 [(.var 0),(.var 1)]))]⟩
noncomputable def f105:MF:=⟨2,3,[
 (.ifS (.any [(.ex (.call 20 [(.attr (.var 0) 5),(.var 1)])),(.ex (.cmp .eq (.call 14 [(.attr (.var 0) 5),(.var 1)]) (.lit (.int 8))))]) [(.ret (.call 36 [(.var 0),(.var 1)]))] []),
 (.ret (.get2 (.attr (.var 0) 7) (.var 1) (.tup [])))]⟩
noncomputable def f106:MF:=⟨2,3,[
 (.ret (.call 34 [(.var 0),(.var 1)]))]⟩
noncomputable def f107:MF:=⟨2,3,[
 (.ret (.get2 (.attr (.var 0) 9) (.var 1) (.tup [])))]⟩
noncomputable def f108:MF:=⟨2,3,[
 (.ret (.get2 (.attr (.var 0) 10) (.var 1) (.var 1)))]⟩
noncomputable def f109:MF:=⟨2,3,[
 (.setattr (.var 0) 14 (.var 1)),
 (.setattr (.var 0) 15 (.list [])),
 (.setattr (.var 0) 16 (.dict 2 [])),
 (.setattr (.var 0) 17 (.dict 2 []))]⟩
noncomputable def fnL:List MF:=[f0,f1,f2,f3,f4,f5,f6,f7,f8,f9,f10,f11,f12,f13,f14,f15,f16,f17,f18,f19,f20,f21,f22,f23,f24,f25,f26,f27,f28,f29,f30,f31,f32,f33,f34,f35,f36,f37,f38,f39,f40,f41,f42,f43,f44,f45,f46,f47,f48,f49,f50,f51,f52,f53,f54,f55,f56,f57,f58,f59,f60,f61,f62,f63,f64,f65,f66,f67,f68,f69,f70,f71,f72,f73]
noncomputable def meL:List MF:=[f100,f101,f102,f103,f104,f105,f106,f107,f108,f109]
noncomputable def mfTab (f:Nat):Option MF:=if f < 74 then fnL[f]? else if f < 100 then none else meL[f - 100]?
end Mine
set_option maxRecDepth 100000
namespace Mine
noncomputable def fdOf (K:Frag) (a:Addr):Option FuncData:=match K.lookup a with
 | some ⟨_,_,.func fd,_⟩=>some fd
 | _=>none
noncomputable def nodupB:List Str→Bool
 | []=>true
 | a :: r=>!r.contains a&&nodupB r
theorem nodupB_of {l:List Str}(h:nodupB l=true):l.Nodup:=by
 induction l with
 | nil=>exact List.nodup_nil
 | cons a r ih=>
  have h:(!r.contains a&&nodupB r)=true:=h
  rw[Bool.and_eq_true]at h
  exact List.nodup_cons.mpr ⟨by simpa using h.1,ih h.2⟩
noncomputable def isNoneV:Value→Bool
 | .none=>true
 | _=>false
noncomputable def isNil {α:Type}:List α→Bool
 | []=>true
 | _=>false
theorem isNil_inv {α:Type}{l:List α}(h:isNil l=true):l=[]:=by cases l with
 | nil=>rfl
 | cons=>exact bff h
theorem isNone_inv {α:Type}{l:Option α}(h:l.isNone=true):l=none:=by cases l with
 | none=>rfl
 | some=>exact bff h
noncomputable def stmB:FuncBody→Option (List Stmt)
 | .stmts b=>some b
 | _=>none
theorem stmB_inv {f:FuncBody}(h:(stmB f).isSome=true):∃b,f = .stmts b:=by cases f <;> first | exact⟨_,rfl⟩ | exact bff h
noncomputable def fdChk (K:Frag) (fd:FuncData) (m:MF):Bool:=
 (isNil fd.params.posonlyargs&&fd.params.vararg.isNone&&isNil fd.params.kwonlyargs&&fd.params.kwarg.isNone&&m.np==fd.params.args.length&&fd.params.args.map (·.arg)==((slotsOf fd.scope).map (·.1)).take fd.params.args.length)&&isNoneV fd.defaults&&fd.closure.isEmpty&&fd.globals==mainGlobals&&fd.builtins==builtinsNs&&codeIn K fd.code fd.qualname&&!fd.scope.isCoroutine&&!fd.scope.isGenerator&&fd.scope.kind == .function &&
  nodupB (fd.scope.names.map (·.1))&&m.slots==(slotsOf fd.scope).length+1&&(stmB fd.body).isSome
noncomputable def fdBody (fd:FuncData):List MS:=match stmB fd.body with
 | some b=>compSs (cxOf fd.scope) b
 | none=>[]
noncomputable def fnChk (K:Frag) (f:Nat) (m:MF):Bool:=match fnAddr K f with
 | some a=>(match fdOf K a with | some fd=>fdChk K fd m | none=>false)
 | none=>false
noncomputable def fnBody (K:Frag) (f:Nat):List MS:=match fnAddr K f with
 | some a=>(match fdOf K a with | some fd=>fdBody fd | none=>[])
 | none=>[]
theorem fdOf_inv {K:Frag}{a:Addr}{fd:FuncData}(h:fdOf K a=some fd):∃oc od osl,K.lookup a=some ⟨oc,od,.func fd,osl⟩:=by
 have h:(match K.lookup a with | some ⟨_,_,.func fd,_⟩=>some fd | _=>none)=some fd:=h
 cases hl:K.lookup a with
 | none=>rw[hl]at h;exact nS h
 | some o=>
  rw[hl]at h
  obtain⟨oc,od,dd,osl⟩:=o
  induction dd using PySem.Data.casesOn with
  | func fd'=>cases h;exact⟨_,_,_,rfl⟩
  | _=>exact nS h
theorem isNoneV_inv {v:Value}(h:isNoneV v=true):v = .none:=by induction v using PySem.Value.casesOn <;> first | rfl | exact bff h
theorem isEmpty_inv {α:Type}{l:List α}(h:l.isEmpty=true):l=[]:=List.isEmpty_iff.mp h
theorem args_eq {p:Arguments}(h1:p.posonlyargs=[]) (h2:p.vararg=none) (h3:p.kwonlyargs=[]) (h4:p.kwarg=none):p=⟨[],p.args,none,[],p.kw_defaults,none,p.defaults⟩:=by
 cases p;cases h1;cases h2;cases h3;cases h4;rfl
theorem fnAt_of {K:Frag}{f:Nat}{m:MF}(h:fnChk K f m=true) (hb:fnBody K f=m.body) {a:Addr}(ha:fnAddr K f=some a):FnAt K a m:=by
 unfold fnChk at h
 unfold fnBody at hb
 rw[ha]at h hb
 dsimp only at h hb
 cases hf:fdOf K a with
 | none=>rw[hf]at h;cases h
 | some fd=>
  rw[hf]at h hb
  dsimp only at h hb
  obtain⟨oc,od,osl,hl⟩:=fdOf_inv hf
  unfold fdChk at h
  refine Classical.byContradiction fun kk=>?_
  simp only[Bool.and_eq_true,beq_iff_eq,Bool.not_eq_true']at h
  obtain⟨⟨⟨⟨⟨⟨⟨⟨⟨⟨⟨⟨⟨⟨⟨⟨p1,p2⟩,p3⟩,p4⟩,p5⟩,p6⟩,h2⟩,h3⟩,h4⟩,h5⟩,h6⟩,h7⟩,h8⟩,h9⟩,h10⟩,h11⟩,h12⟩:=h
  obtain⟨body,hbd⟩:=stmB_inv h12
  refine kk ?_
  refine⟨oc,od,osl,fd,_,fd.params.kw_defaults,fd.params.defaults,body,hl,?_,hbd,isNoneV_inv h2,isEmpty_inv h3,h4,h5,h6,h7,h8,h9,nodupB_of h10,?_,h11,p5,p6⟩
  ·exact args_eq (isNil_inv p1) (isNone_inv p2) (isNil_inv p3) (isNone_inv p4)
  ·rw[←hb];unfold fdBody;rw[hbd];rfl
end Mine
set_option maxRecDepth 100000
namespace Mine
theorem and_t {a b:Bool}(h:(a&&b)=true):a=true∧b=true:=by
 induction a with
 | false=>cases h
 | true=>exact⟨rfl,h⟩
noncomputable def oall {α:Type}:Option α→(α→Bool)→Bool
 | some a,f=>f a
 | none,_=>false
theorem oall_inv {α:Type}{x:Option α}{f:α→Bool}(h:oall x f=true):∃a,x=some a∧f a=true:=by
 induction x with
 | none=>cases h
 | some a=>exact⟨a,rfl,h⟩
noncomputable def rall:Option (Option Value)→(Addr→Bool)→Bool
 | some (some (.ref a)),f=>f a
 | _,_=>false
theorem rall_inv {x:Option (Option Value)}{f:Addr→Bool}(h:rall x f=true):∃a,x=some (some (.ref a))∧f a=true:=by
 induction x with
 | none=>cases h
 | some x=>induction x with
  | none=>cases h
  | some v=>induction v with
   | ref a=>exact⟨a,rfl,h⟩
   | _=>cases h
noncomputable def intV (i:Int):Value→Bool
 | .int j _=>i==j
 | _=>false
theorem intV_inv {i:Int}{v:Value}(h:intV i v=true):∃t,v = .int i t:=by
 induction v with
 | int j t=>exact⟨t,by rw[beq_iff_eq.mp h]⟩
 | _=>cases h
noncomputable def isIntV:V→Option Int
 | .int i=>some i
 | _=>none
noncomputable def intsChk:List Value→List V→Bool
 | x :: r,y :: s=>oall (isIntV y) (fun i=>intV i x)&&intsChk r s
 | [],s=>s.isEmpty
 | _,[]=>false
theorem isIntV_inv {y:V}{i:Int}(h:isIntV y=some i):y = .int i:=by
 induction y using V.casesOn with
 | int=>cases h;rfl
 | _=>exact nS h
theorem intsChk_of:∀{l:List Value}{vs:List V},intsChk l vs=true→All2 (fun x y=>∃i t,x = .int i t∧y = .int i) l vs:=by
 intro l
 induction l with
 | nil=>
  intro vs h
  induction vs with
  | nil=>exact .nil
  | cons=>cases h
 | cons x r ih=>
  intro vs h
  induction vs with
  | nil=>cases h
  | cons y s=>
   obtain⟨h1,h2⟩:=and_t h
   obtain⟨i,e1,e2⟩:=oall_inv h1
   obtain⟨t,e3⟩:=intV_inv e2
   exact .cons ⟨i,t,e3,isIntV_inv e1⟩ (ih h2)
noncomputable def seqO (o:Obj) (f:List Value→Bool):Bool:=
 match o.cls,o.dict,o.data with
 | .type T,none,.seq items _=>T == "tuple"&&o.slots.isEmpty&&f items.toList
 | _,_,_=>false
theorem seqO_inv {o:Obj}{f:List Value→Bool}(h:seqO o f=true):∃items n,o=⟨.type "tuple",none,.seq items n,#[]⟩∧f items.toList=true:=by
 obtain⟨c,d,da,sl⟩:=o
 cases c with
 | type T=>cases d with
  | none=>induction da with
   | seq items n=>
    obtain⟨h1,h3⟩:=and_t h
    obtain⟨h1,h2⟩:=and_t h1
    exact⟨items,n,by rw[beq_iff_eq.mp h1,show sl = #[] from Array.isEmpty_iff.mp h2],h3⟩
   | _=>cases h
  | some=>cases h
 | _=>cases h
noncomputable def dictO (o:Obj) (f:List DictEntry→Bool):Bool:=
 match o.cls,o.dict,o.data with
 | .type T,none,.dict es _=>T == "dict"&&o.slots.isEmpty&&f es.toList
 | _,_,_=>false
theorem dictO_inv {o:Obj}{f:List DictEntry→Bool}(h:dictO o f=true):∃es n,o=⟨.type "dict",none,.dict es n,#[]⟩∧f es.toList=true:=by
 obtain⟨c,d,da,sl⟩:=o
 cases c with
 | type T=>cases d with
  | none=>induction da with
   | dict items n=>
    obtain⟨h1,h3⟩:=and_t h
    obtain⟨h1,h2⟩:=and_t h1
    exact⟨items,n,by rw[beq_iff_eq.mp h1,show sl = #[] from Array.isEmpty_iff.mp h2],h3⟩
   | _=>cases h
  | some=>cases h
 | _=>cases h
noncomputable def refV:Value→Option Addr
 | .ref a=>some a
 | _=>none
theorem refV_inv {v:Value}{a:Addr}(h:refV v=some a):v = .ref a:=by
 induction v with
 | ref=>cases h;rfl
 | _=>exact nS h
noncomputable def kvalChk (K:Frag) (val:Value):V→Bool
 | .int i=>intV i val
 | .tup vs=>oall (refV val) fun a=>oall (K.lookup a) fun o=>seqO o fun l=>intsChk l vs
 | _=>false
theorem kvalChk_of {U:Bx}{val:Value}{v:V}(h:kvalChk U.K val v=true):KVal U val v:=by
 induction v using V.casesOn with
 | int i=>obtain⟨t,e⟩:=intV_inv h;exact .inl ⟨_,_,e,rfl⟩
 | tup vs=>
  refine Classical.byContradiction fun kk=>?_
  obtain⟨a,e1,h⟩:=oall_inv h
  obtain⟨o,e2,h⟩:=oall_inv h
  obtain⟨items,n,rfl,h⟩:=seqO_inv h
  refine kk ?_
  exact .inr ⟨_,items,n,vs,refV_inv e1,e2,rfl,intsChk_of h⟩
 | _=>cases h
noncomputable def entChk (K:Frag):List DictEntry→List (Int×V)→Bool
 | e :: r,p :: s=>intV p.1 e.key&&(e.hash==hashInt p.1&&(kvalChk K e.val p.2&&entChk K r s))
 | [],s=>s.isEmpty
 | _,[]=>false
theorem entChk_of {U:Bx}:∀{l:List DictEntry}{kvs:List (Int×V)},entChk U.K l kvs=true →
  ∃kv:List (Int×Value),Pairs (intKind U.p U.w) l kv∧(∀e∈l,∃k,(intKind U.p U.w).is k e.key=true∧e.hash=(intKind U.p U.w).hash k)∧All2 (fun p q=>p.1=q.1∧KVal U p.2 q.2) kv kvs∧kv.map (·.1)=kvs.map (·.1):=by
 intro l
 induction l with
 | nil=>
  intro kvs h
  induction kvs with
  | nil=>exact⟨[],.nil,(fun Z h=>absurd h List.not_mem_nil),.nil,rfl⟩
  | cons=>cases h
 | cons e r ih=>
  intro kvs h
  induction kvs with
  | nil=>cases h
  | cons p s=>
   refine Classical.byContradiction fun kk=>?_
   obtain⟨h1,h⟩:=and_t h
   obtain⟨h2,h⟩:=and_t h
   obtain⟨h3,h4⟩:=and_t h
   obtain⟨kv,a,b,c,d⟩:=ih h4
   have hk:(intKind U.p U.w).is p.1 e.key=true:=by
    obtain⟨t,hj⟩:=intV_inv h1
    rw[hj];simp[intKind,Value.isInt]
   refine kk ?_
   refine⟨(p.1,e.val) :: kv,.cons hk rfl a,fun e' he'=>?_,.cons ⟨rfl,kvalChk_of h3⟩ c,by rw[List.map_cons,List.map_cons,d]⟩
   rcases List.mem_cons.mp he' with rfl | he'
   ·exact⟨p.1,hk,beq_iff_eq.mp h2⟩
   ·exact b e' he'
noncomputable def valChk (K:Frag) (val:Value):V→Bool
 | .cd n=>oall (refV val) fun a=>a != sysModules&&(decide (n < 6)&&oall (K.lookup a) fun o=>dictO o fun l=>entChk K l (cdTab n))
 | .int i=>kvalChk K val (.int i)
 | .tup vs=>kvalChk K val (.tup vs)
 | _=>false
theorem cd_nodup:∀n < 6,((cdTab n).map (·.1)).Nodup:=by decide +kernel
theorem valChk_of {U:Bx}{val:Value}{v:V}(h:valChk U.K val v=true) (hp:Heap) (μ:List Addr) (X:U.K.In hp):RepV U hp μ val v:=by
 have kv:kvalChk U.K val v=true→RepV U hp μ val v:=fun h=>by
  rcases kvalChk_of h with⟨i,t,rfl,rfl⟩ | ⟨a,items,n,vs,rfl,h1,rfl,h2⟩
  ·exact .int _ _
  ·exact .tup (X _ _ h1) (.of_all2 (h2.mono fun Z Z zz=>by obtain⟨i,t,e1,e2⟩:=zz;exact by rw[e1,e2];exact .int _ _))
 induction v using V.casesOn with
 | cd n=>
  refine Classical.byContradiction fun kk=>?_
  obtain⟨a,e1,h⟩:=oall_inv h
  obtain⟨h1,h⟩:=and_t h
  obtain⟨h3,h⟩:=and_t h
  obtain⟨o,hl,h⟩:=oall_inv h
  obtain⟨es,ep,rfl,h5⟩:=dictO_inv h
  obtain⟨kv,p1,p2,p3,p4⟩:=entChk_of (U:=U) h5
  refine kk ?_
  rw[refV_inv e1]
  refine .cd hl (by simpa using h1) ⟨kv,⟨es,ep,⟨rfl,rfl,rfl⟩,rfl,fun e he=>p2 e (Array.mem_toList_iff.mpr he),p1,by rw[p4];exact cd_nodup n (of_decide_eq_true h3)⟩,p3⟩
 | int=>exact kv h
 | tup=>exact kv h
 | _=>cases h
noncomputable def conChk (K:Frag):Bool:=constTab.all fun p=>oall (nsIn K mainGlobals p.1) fun v=>oall v fun val=>valChk K val p.2
noncomputable def funsChk (K:Frag):Bool:=funTab.all fun x=>rall (nsIn K mainGlobals x) fun a=>keepIn K (.ref a)
noncomputable def clssChk (K:Frag) (c:Nat):Bool:=oall (clsAt K c) fun C=>oall (fnAddr K (initFn c)) fun i=>
 keepIn K (.ref C)&&(rall (findIn K (.ref C) "__init__") (fun j=>j==i)&&(typeIn K (.ref i)==some (.type "function")&&clsOk K c))
noncomputable def methChk (K:Frag) (c m f:Nat):Bool:=oall (clsAt K c) fun C=>oall methTab[m]? fun x=>oall (fnAddr K f) fun a=>
 rall (findIn K (.ref C) x) (fun j=>j==a)&&(isFn K (.ref a)&&keepIn K (.ref a))
noncomputable def isSomeNone (x:Option (Option Value)):Bool:=oall x fun y=>y.isNone
noncomputable def methL:List (Nat×Nat×Nat):=[(0,0,101),(0,1,102),(1,2,104),(1,3,105),(1,4,106),(1,5,107),(1,6,108)]
theorem methFn_mem {c m f:Nat}(h:methFn c m=some f):(c,m,f)∈methL:=by
 have i:∀j p,methL[j]?=some p→p∈methL:=fun j p h=>List.mem_of_getElem? h
 rcases c with _ | _ | c
 ·rcases m with _ | _ | m
  ·cases h;exact i 0 _ rfl
  ·cases h;exact i 1 _ rfl
  ·exact nS h
 ·rcases m with _ | _ | _ | _ | _ | _ | _ | m
  ·exact nS h
  ·exact nS h
  ·cases h;exact i 2 _ rfl
  ·cases h;exact i 3 _ rfl
  ·cases h;exact i 4 _ rfl
  ·cases h;exact i 5 _ rfl
  ·cases h;exact i 6 _ rfl
  ·exact nS h
 ·exact nS h
noncomputable def kChk (K:Frag):Bool:=conChk K&&(funsChk K&&((List.range 3).all (clssChk K)&&(methL.all (fun p=>methChk K p.1 p.2.1 p.2.2) &&
 (isSomeNone (nsIn K mainGlobals "len")&&(isSomeNone (nsIn K mainGlobals "list")&&(isSomeNone (nsIn K mainGlobals "tuple")&&isSomeNone (nsIn K mainGlobals "range")))))))
noncomputable def codesL:List Nat:=List.range 74++(List.range 10).map (100 + ·)
noncomputable def fnsChk (K:Frag):Bool:=codesL.all fun f=>oall (mfTab f) fun m=>fnChk K f m
theorem isSomeNone_of {x:Option (Option Value)}(h:isSomeNone x=true):x=some none:=by
 obtain⟨y,rfl,h⟩:=oall_inv h
 induction y with
 | none=>rfl
 | some=>cases h
theorem mfTab_codes {f:Nat}{m:MF}(h:mfTab f=some m):f∈codesL:=by
 unfold mfTab at h
 unfold codesL
 by_cases hf:f < 74
 ·exact List.mem_append_left _ (List.mem_range.mpr hf)
 ·rw[if_neg hf]at h
  by_cases hf2:f < 100
  ·rw[if_pos hf2]at h;cases h
  ·rw[if_neg hf2]at h
   have h10:f - 100 < 10:=(List.getElem?_eq_some_iff.mp h).1
   exact List.mem_append_right _ (List.mem_map.mpr ⟨f - 100,List.mem_range.mpr h10,Nat.add_sub_cancel' (Nat.not_lt.mp hf2)⟩)
noncomputable def bodyOf (f:Nat):List MS:=match mfTab f with | some m=>m.body | none=>[]
theorem atc {K:Frag}{c:Nat}{C:Addr}(h:clsAt K c=some C):∃x,clsTab[c]?=some x∧nsIn K mainGlobals x=some (some (.ref C)):=by
 have h:(match (clsTab[c]?).bind (nsIn K mainGlobals)with | some (some (.ref C))=>some C | _=>none)=some C:=h
 cases hC:(clsTab[c]?).bind (nsIn K mainGlobals) with
 | none=>rw[hC]at h;exact nS h
 | some v=>
  rw[hC]at h
  cases v with
  | none=>exact nS h
  | some v=>
   induction v using PySem.Value.casesOn with
   | ref D=>
    cases h
    obtain⟨x,hx,hx2⟩:=Option.bind_eq_some_iff.mp hC
    exact⟨x,hx,hx2⟩
   | _=>exact nS h
theorem fb_of {U:Bx}(X:U.K.In U.hb) (lim:U.hb.NoLimit) (gl:Gl U.K U.hb) (h1:kChk U.K=true) (h2:fnsChk U.K=true) (h3:∀f∈codesL,fnBody U.K f=bodyOf f):Fb U mfTab:=by
 obtain⟨c1,h1⟩:=and_t h1
 obtain⟨c2,h1⟩:=and_t h1
 obtain⟨c3,h1⟩:=and_t h1
 obtain⟨ms,h1⟩:=and_t h1
 obtain⟨n1,h1⟩:=and_t h1
 obtain⟨n2,h1⟩:=and_t h1
 obtain⟨n3,n4⟩:=and_t h1
 have cl:∀c x,clsTab[c]?=some x→clssChk U.K c=true:=fun c x h=>List.all_eq_true.mp c3 c (List.mem_range.mpr (List.getElem?_eq_some_iff.mp h).1)
 refine⟨⟨X,gl,fun x v hx=>?_,fun c C hc=>?_,fun f x hx=>?_,fun c x hx=>?_,fun c m f hm=>?_,⟨isSomeNone_of n1,isSomeNone_of n2,isSomeNone_of n3,isSomeNone_of n4⟩⟩,lim,fun f a m ha hm=>?_⟩
 ·refine Classical.byContradiction fun kk=>?_
  obtain⟨v',hv,this⟩:=oall_inv (List.all_eq_true.mp c1 (x,v) (lookup_mem hx))
  obtain⟨val,rfl,this⟩:=oall_inv this
  refine kk ?_
  exact⟨val,hv,fun hp μ X=>valChk_of this hp μ X⟩
 ·obtain⟨x,hx,-⟩:=atc hc
  obtain⟨C,-,this⟩:=oall_inv (cl c x hx)
  obtain⟨i,-,this⟩:=oall_inv this
  exact(and_t (and_t (and_t this).2).2).2
 ·exact rall_inv (List.all_eq_true.mp c2 x (List.mem_of_getElem? hx))
 ·refine Classical.byContradiction fun kk=>?_
  obtain⟨C,e1,this⟩:=oall_inv (cl c x hx)
  obtain⟨i,e2,this⟩:=oall_inv this
  obtain⟨g1,this⟩:=and_t this
  obtain⟨g2,this⟩:=and_t this
  obtain⟨g3,-⟩:=and_t this
  obtain⟨x',hx',hns⟩:=atc e1
  rw[hx]at hx';cases hx'
  obtain⟨j,hj,g2⟩:=rall_inv g2
  rw[beq_iff_eq.mp g2]at hj
  refine kk ?_
  exact⟨C,i,hns,g1,e2,hj,beq_iff_eq.mp g3⟩
 ·refine Classical.byContradiction fun kk=>?_
  have h:=List.all_eq_true.mp ms _ (methFn_mem hm)
  obtain⟨C,e1,h⟩:=oall_inv h
  obtain⟨x,e2,h⟩:=oall_inv h
  obtain⟨a,e3,h⟩:=oall_inv h
  obtain⟨g1,h⟩:=and_t h
  obtain⟨g2,g3⟩:=and_t h
  obtain⟨j,hj,g1⟩:=rall_inv g1
  rw[beq_iff_eq.mp g1]at hj
  refine kk ?_
  exact⟨C,x,a,e1,e2,hj,e3,g2,g3⟩
 ·have hf:=mfTab_codes hm
  obtain⟨m',e,this⟩:=oall_inv (List.all_eq_true.mp h2 f hf)
  rw[hm]at e;cases e
  have hb':=h3 f hf
  unfold bodyOf at hb'
  rw[hm]at hb'
  exact fnAt_of this hb' ha
noncomputable abbrev C (n:Nat):Calls:=Call mfTab n
theorem call_eq {n f:Nat}{m:MF}(h:mfTab f=some m) {vs:List V}{σ:Store}{Q:Post}(hl:vs.length=m.np) (h2:wpF (C n) m.slots m.body vs σ Q):C (n+1) f vs σ Q:=by
 unfold C;rw[call_s,h];exact⟨hl,h2⟩
theorem lo17 (N c:Nat) (h:Nat.ble c 16=true):N+c < N+17:=Nat.add_lt_add_left (Nat.lt_succ_of_le (Nat.le_of_ble_eq_true h)) N
theorem up7 (N c:Nat) (h:Nat.ble 7 c=true):N+7≤N+c:=Nat.add_le_add_left (Nat.le_of_ble_eq_true h) N
theorem le_lt {a b c:Nat}(h:a≤b) (h':b < c):a≤c:=Nat.le_of_lt (Nat.lt_of_le_of_lt h h')
theorem ne17 {N j c:Nat}(h:N+17≤j) (hc:Nat.ble c 16=true):j≠N+c:=Nat.ne_of_gt (Nat.lt_of_lt_of_le (lo17 N c hc) h)
theorem le17 {N j:Nat}(h:N+17≤j):N+7≤j:=Nat.le_trans (Nat.add_le_add_left (by decide) N) h
theorem all1 {p:Nat→Prop}{a:Nat}(h:p a):∀j∈[a],p j:=fun j hj=>by rw[List.mem_singleton.mp hj];exact h
theorem ni1 {a j:Nat}(h:j≠a):j∉[a]:=fun h'=>h (List.mem_singleton.mp h')
theorem ni4 {a b c d j:Nat}(h1:j≠a) (h2:j≠b) (h3:j≠c) (h4:j≠d):j∉[a,b,c,d]:=fun h=>by simp at h;exact h.elim h1 fun h=>h.elim h2 fun h=>h.elim h3 h4
theorem n0l {k N:Nat}(n0:46≤N) (h:Nat.ble k 45=true):k < N:=Nat.lt_of_lt_of_le (Nat.lt_succ_of_le (Nat.le_of_ble_eq_true h)) n0
theorem nac {N a b:Nat}(h:Nat.beq a b=false):N+a≠N+b:=fun e=>Nat.ne_of_beq_eq_false h (Nat.add_left_cancel e)
theorem geN {N j:Nat}(l:List Nat) (h:j∈l.map (N + ·)):N≤j:=by
 obtain⟨c,-,rfl⟩:=List.mem_map.mp h;exact Nat.le_add_right ..
theorem l600 {a b:Nat}(h:a < b) (hb:b < 512) (x:Nat):x+(600 - (a+1)) < x+(600 - a):=Nat.add_lt_add_left (Nat.sub_lt_sub_left (Nat.lt_trans (Nat.lt_trans h hb) (by decide)) (Nat.lt_succ_self a)) x
theorem m600 {p:Nat}(h:p < 512) (x:Nat):(600 - (p+1)) * 1000+600 < (600 - p) * 1000+x:=by
 have h:p+1≤600:=Nat.lt_trans h (by decide)
 rw[show 600 - p=600 - (p+1)+1 from (Nat.add_sub_add_right 600 1 p).symm.trans (Nat.sub_add_comm h),Nat.succ_mul]
 exact Nat.lt_of_lt_of_le (Nat.add_lt_add_left (by decide) _) (Nat.le_add_right ..)
theorem set_same {α:Type}{σ:List α}{a:Nat}{o:α}(h:σ[a]?=some o):σ.set a o=σ:=by
 obtain⟨h1,rfl⟩:=List.getElem?_eq_some_iff.mp h;exact List.set_getElem_self h1
section
variable {σ:Store}{Q:Post}{a b i j:Int}{x y v:V}{vs:List V}{l c d f m:Nat}{fs:List (Nat×V)}{r:Bool}{o:COp}
theorem lel (h:Nat.ble vs.length 1000000=true):vs.length≤line:=Nat.le_of_ble_eq_true h
theorem lel30 (h:Nat.ble vs.length 30=true):vs.length≤30:=Nat.le_of_ble_eq_true h
theorem s_asg {Φ:Calls}{e:ME}{n:Nat}{ss:List MS}{ρ:Rho}{Q:PostS}(h:wpE Φ e ρ σ (asgK n ρ (seqK (wpSs Φ ss) Q))):wpSs Φ (.assign n e :: ss) ρ σ Q:=h
theorem s_ret {Φ:Calls}{e:ME}{ss:List MS}{ρ:Rho}{Q:PostS}(h:wpE Φ e ρ σ (retK ρ (seqK (wpSs Φ ss) Q))):wpSs Φ (.ret e :: ss) ρ σ Q:=h
theorem s_tup {Φ:Calls}{es:List ME}{ρ:Rho}(h:wpEs Φ es ρ σ (tupK Q)):wpE Φ (.tup es) ρ σ Q:=h
theorem s_cons {Φ:Calls}{e:ME}{es:List ME}{ρ:Rho}{K:List V→Store→Prop}(h:wpE Φ e ρ σ (consK (wpEs Φ es) ρ K)):wpEs Φ (e :: es) ρ σ K:=h
theorem va_of {Φ:Calls}{ρ:Rho}(h:ρ[l]?=some (some v)) (q:Q v σ):wpE Φ (.var l) ρ σ Q:=by
 show(match ρ[l]? with | some (some v)=>Q v σ | _=>False)
 rw[h];exact q
theorem at_of (h1:σ[l]?=some (.inst c d)) (h2:σ[d]?=some (.ns fs)) (h3:agets fs f=some v) (q:Q v σ):attrR (.loc l) f σ Q:=attrI.mk h1 h2 h3 q
theorem me_of {K:Nat→Prop}(h1:σ[l]?=some (.inst c d)) (h2:σ[d]?=some (.ns fs)) (h3:methFn c m=some f) (q:K f):methR (.loc l) m σ K:=methI.mk h1 h2 h3 q
theorem eq_of (h:eqv x y=some r) (q:Q (.bool r) σ):cmpR .eq x y σ Q:=cmpI.eq h q
theorem ne_of (h:nev x y=some r) (q:Q (.bool (!r)) σ):cmpR .ne x y σ Q:=cmpI.ne h q
theorem lt_of (q:Q (.bool (decide (a < b))) σ):cmpR .lt (.int a) (.int b) σ Q:=cmpI.lt q
theorem ltT (h:a < b) (q:Q (.bool true) σ):cmpR .lt (.int a) (.int b) σ Q:=lt_of (by rw[decide_eq_true h];exact q)
theorem ltF (h:¬a < b) (q:Q (.bool false) σ):cmpR .lt (.int a) (.int b) σ Q:=lt_of (by rw[decide_eq_false h];exact q)
theorem le_of (q:Q (.bool (decide (a≤b))) σ):cmpR .le (.int a) (.int b) σ Q:=cmpI.le q
theorem leT (h:a≤b) (q:Q (.bool true) σ):cmpR .le (.int a) (.int b) σ Q:=le_of (by rw[decide_eq_true h];exact q)
theorem leF (h:¬a≤b) (q:Q (.bool false) σ):cmpR .le (.int a) (.int b) σ Q:=le_of (by rw[decide_eq_false h];exact q)
theorem gt_of (q:Q (.bool (decide (b < a))) σ):cmpR .gt (.int a) (.int b) σ Q:=cmpI.gt q
theorem gtT (h:b < a) (q:Q (.bool true) σ):cmpR .gt (.int a) (.int b) σ Q:=gt_of (by rw[decide_eq_true h];exact q)
theorem gtF (h:¬b < a) (q:Q (.bool false) σ):cmpR .gt (.int a) (.int b) σ Q:=gt_of (by rw[decide_eq_false h];exact q)
theorem ge_of (q:Q (.bool (decide (b≤a))) σ):cmpR .ge (.int a) (.int b) σ Q:=cmpI.ge q
theorem geT (h:b≤a) (q:Q (.bool true) σ):cmpR .ge (.int a) (.int b) σ Q:=ge_of (by rw[decide_eq_true h];exact q)
theorem geF (h:¬b≤a) (q:Q (.bool false) σ):cmpR .ge (.int a) (.int b) σ Q:=ge_of (by rw[decide_eq_false h];exact q)
theorem eqT (h:a=b) (q:Q (.bool true) σ):cmpR .eq (.int a) (.int b) σ Q:=eq_of (congrArg some (beq_iff_eq.mpr h)) q
theorem eqF (h:¬a=b) (q:Q (.bool false) σ):cmpR .eq (.int a) (.int b) σ Q:=eq_of (congrArg some (beq_eq_false_iff_ne.mpr h)) q
theorem neT (h:¬a=b) (q:Q (.bool true) σ):cmpR .ne (.int a) (.int b) σ Q:=ne_of (r:=false) (congrArg some (beq_eq_false_iff_ne.mpr h)) q
theorem neF (h:a=b) (q:Q (.bool false) σ):cmpR .ne (.int a) (.int b) σ Q:=ne_of (r:=true) (congrArg some (beq_iff_eq.mpr h)) q
theorem isNN (q:Q (.bool true) σ):cmpR .is .none .none σ Q:=cmpI.isN q
theorem isIN (q:Q (.bool false) σ):cmpR .is (.int a) .none σ Q:=cmpI.isI q
theorem isnNN (q:Q (.bool false) σ):cmpR .isnot .none .none σ Q:=cmpI.isnN q
theorem isnIN (q:Q (.bool true) σ):cmpR .isnot (.int a) .none σ Q:=cmpI.isnI q
theorem in_tup (h:anyEq x vs=some r) (q:Q (.bool r) σ):cmpR .inn x (.tup vs) σ Q:=cmpI.inn (.tup h q)
theorem nin_tup (h:anyEq x vs=some r) (q:Q (.bool (!r)) σ):cmpR .notin x (.tup vs) σ Q:=cmpI.notin (.tup h q)
theorem in_cd {n:Nat}(q:Q (.bool (agets (cdTab n) i).isSome) σ):cmpR .inn (.int i) (.cd n) σ Q:=cmpI.inn (.look rfl q)
theorem nin_cd {n:Nat}(q:Q (.bool (!(agets (cdTab n) i).isSome)) σ):cmpR .notin (.int i) (.cd n) σ Q:=cmpI.notin (.look rfl q)
theorem nat_ne {k t:Nat}(h:¬k=t):¬(k:Int)=(t:Int):=fun e=>h (Int.ofNat.inj e)
theorem eqfT {k t:Nat}(h:k=t):(k:Int)=(t:Int):=by rw[h]
theorem truT {K:Bool→Prop}(h:¬i=0) (q:K true):truthI i K:=by unfold truthI;rw[bne_iff_ne.mpr h];exact q
theorem truF {K:Bool→Prop}(h:i=0) (q:K false):truthI i K:=by unfold truthI;rw[h];exact q
theorem tru_of {K:Bool→Prop}(q:K (i != 0)):truthI i K:=by unfold truthI;exact q
theorem tru_list {K:Bool→Prop}(h:σ[l]?=some (.list vs)) (h2:vs.length≤line) (q:K (!vs.isEmpty)):truthR (.loc l) σ K:=truthLI.mk h h2 q
theorem sub_list {k:Nat}(h:σ[l]?=some (.list vs)) (h2:vs.length≤line) (h3:vs[k]?=some v) (q:Q v σ):subR (.loc l) (.int (k:Int)) σ Q:=subI.at_ (by dsimp only[seqOf];rw[h]) (Int.natCast_nonneg k) h2 h3 q
theorem sub_tup (h1:0≤i) (h2:vs.length≤line) (h3:vs[i.toNat]?=some v) (q:Q v σ):subR (.tup vs) (.int i) σ Q:=subI.at_ rfl h1 h2 h3 q
theorem sub_cd {n:Nat}(h:agets (cdTab n) i=some v) (q:Q v σ):subR (.cd n) (.int i) σ Q:=subI.look rfl (congrArg some h) q
theorem sub_look {k:V}(h:lookO σ (.loc l) k=some (some v)) (h2:seqOf σ (.loc l)=none) (q:Q v σ):subR (.loc l) k σ Q:=subI.look h2 h q
theorem lis_of {K:List V→Prop}(h:σ[l]?=some (.list vs)) (h2:vs.length≤line) (q:K vs):listR (.loc l) σ K:=listI.list h h2 q
theorem ext_of {K:List V→Prop}{ns:List Int}(h2:ns.length≤line) (q:K (ns.map .int)):listR (.ext ns) σ K:=listI.ext h2 q
theorem seq_of {K:List V→Prop}(h:seqOf σ v=some vs) (q:K vs):seqR v σ K:=⟨h,q⟩
theorem seq_list {K:List V→Prop}(h:σ[l]?=some (.list vs)) (q:K vs):seqR (.loc l) σ K:=seq_of (by dsimp only[seqOf];rw[h]) q
theorem seq_tup {K:List V→Prop}(q:K vs):seqR (.tup vs) σ K:=seq_of rfl q
theorem its_of {K:List V→Prop}(h:itemsOf σ v=some vs) (q:K vs):itemsR v σ K:=⟨h,q⟩
theorem its_list {K:List V→Prop}(h:σ[l]?=some (.list vs)) (q:K vs):itemsR (.loc l) σ K:=its_of (by dsimp only[itemsOf];rw[h]) q
theorem its_dict {K:List V→Prop}{kvs:List (Int×V)}(h:σ[l]?=some (.dI kvs)) (q:K (kvs.map fun p=>.int p.1)):itemsR (.loc l) σ K:=its_of (by dsimp only[itemsOf];rw[h]) q
theorem its_tup {K:List V→Prop}(q:K vs):itemsR (.tup vs) σ K:=its_of rfl q
theorem loo_of {K:Option V→Prop}{w:Option V}(h:lookO σ x y=some w) (q:K w):lookR x y σ K:=⟨h,q⟩
theorem app_of (h:σ[l]?=some (.list vs)) (h2:vs.length≤line) (q:Q .none (σ.set l (.list (vs++[y])))):appR l y σ Q:=⟨h,h2,q⟩
theorem lat_of (h:σ[l]?=some (.list vs)):(listAt σ l).isSome=true:=by unfold listAt;rw[h];rfl
theorem pop_of (h:σ[l]?=some (.list vs)) (h2:vs.length≤line) (h3:vs.getLast?=some x) (q:Q x (σ.set l (.list vs.dropLast))):popR (.loc l) σ Q:=popI.mk h h2 h3 q
theorem in_list {r:Bool}(h:σ[l]?=some (.list vs)) (h2:anyEq x vs=some r) (q:Q (.bool r) σ):cmpR .inn x (.loc l) σ Q:=cmpI.inn (.list h h2 q)
theorem nin_list {r:Bool}(h:σ[l]?=some (.list vs)) (h2:anyEq x vs=some r) (q:Q (.bool (!r)) σ):cmpR .notin x (.loc l) σ Q:=cmpI.notin (.list h h2 q)
theorem in_look {w:Option V}(h:lookO σ (.loc l) x=some w) (q:Q (.bool w.isSome) σ):cmpR .inn x (.loc l) σ Q:=cmpI.inn (.look h q)
theorem nin_look {w:Option V}(h:lookO σ (.loc l) x=some w) (q:Q (.bool (!w.isSome)) σ):cmpR .notin x (.loc l) σ Q:=cmpI.notin (.look h q)
theorem add_of (q:Q (.int (a+b)) σ):bopR .add (.int a) (.int b) σ Q:=bopI.addI q
theorem sbt_of (q:Q (.int (a - b)) σ):bopR .sub (.int a) (.int b) σ Q:=bopI.sub q
theorem mul_of (h:a.natAbs < 2 ^ 62) (h2:b.natAbs < 2 ^ 62) (q:Q (.int (a * b)) σ):bopR .mul (.int a) (.int b) σ Q:=bopI.mul h h2 q
theorem div_of (h:0 < b) (h2:b < 2 ^ 30) (q:Q (.int (a / b)) σ):bopR .div (.int a) (.int b) σ Q:=bopI.div h h2 q
theorem mod_of (h:0 < b) (q:Q (.int (a % b)) σ):bopR .mod (.int a) (.int b) σ Q:=bopI.mod h q
theorem band_of (h:(0≤a∧a < 4∧0≤b∧b < 4)) (q:Q (.int ((a.toNat &&& b.toNat:Nat):Int)) σ):bopR .band (.int a) (.int b) σ Q:=bopI.band h q
theorem pow_of (h:(a=12∧0≤b∧b < 4)) (q:Q (.int (a ^ b.toNat)) σ):bopR .pow (.int a) (.int b) σ Q:=bopI.pow h.1 h.2.1 h.2.2 q
theorem addT_of {us:List V}(h:vs.length+us.length≤line) (q:Q (.tup (vs++us)) σ):bopR .add (.tup vs) (.tup us) σ Q:=bopI.addT h q
theorem addL_of {us:List V}{l':Nat}(h1:σ[l]?=some (.list vs)) (h2:σ[l']?=some (.list us)) (h:vs.length+us.length≤line) (q:Q (.loc σ.length) (σ++[.list (vs++us)])):bopR .add (.loc l) (.loc l') σ Q:=bopI.addL h1 h2 h q
theorem dI_of {kvs:List (Int×V)}(h1:vs.length≤30) (h:dictI vs=some kvs) (h2:(kvs.map (·.1)).Nodup) (q:Q (.loc σ.length) (σ++[.dI kvs])):dictR 0 vs σ Q:=dictRI.int h1 h h2 q
theorem dS_of {kvs:List (Nat×V)}(h1:vs.length≤30) (h:dictS vs=some kvs) (h2:(kvs.map (·.1)).Nodup) (q:Q (.loc σ.length) (σ++[.dS kvs])):dictR 1 vs σ Q:=dictRI.str h1 h h2 q
theorem dT_of (q:Q (.loc σ.length) (σ++[.dT []])):dictR 2 [] σ Q:=dictRI.tup q
theorem sat_of {u:V}{K:Store→Prop}(h1:σ[l]?=some (.inst c d)) (h2:σ[d]?=some (.ns fs)) (h3:fs.length≤30) (q:K (σ.set d (.ns (asets fs f u)))):setattrR (.loc l) f u σ K:=setattrI.mk h1 h2 h3 q
theorem siI_of {u:V}{K:Store→Prop}{kvs:List (Int×V)}(h1:σ[l]?=some (.dI kvs)) (h3:kvs.length≤line) (q:K (σ.set l (.dI (asets kvs i u)))):setitemR (.loc l) (.int i) u σ K:=setitemI.int h1 h3 q
theorem siS_of {u:V}{K:Store→Prop}{kvs:List (Nat×V)}(h1:σ[l]?=some (.dS kvs)) (h3:kvs.length≤line) (q:K (σ.set l (.dS (asets kvs f u)))):setitemR (.loc l) (.str f) u σ K:=setitemI.str h1 h3 q
theorem siT_of {u:V}{K:Store→Prop}{kvs:List (Ky×V)}{ky:Ky}(h1:σ[l]?=some (.dT kvs)) (h3:kvs.length≤line) (h4:kyOf y=some ky) (q:K (σ.set l (.dT (asets kvs ky u)))):setitemR (.loc l) y u σ K:=setitemI.tup h1 h3 h4 q
theorem loo_dI {l:Nat}{kvs:List (Int×V)}{a:Int}(h:σ[l]?=some (.dI kvs)):lookO σ (.loc l) (.int a)=some (agets kvs a):=by
 show(match σ[l]? with | some (.dI kvs)=>some (agets kvs a) | _=>none)=_
 rw[h]
theorem loo_dS {l a:Nat}{kvs:List (Nat×V)}(h:σ[l]?=some (.dS kvs)):lookO σ (.loc l) (.str a)=some (agets kvs a):=by
 show(match σ[l]? with | some (.dS kvs)=>some (agets kvs a) | _=>none)=_
 rw[h]
theorem seq_no {l:Nat}{o:O}(h:σ[l]?=some o) (hn:(match some o with | some (.list vs)=>some vs | _=>none)=none):seqOf σ (.loc l)=none:=by
 show(match σ[l]? with | some (.list vs)=>some vs | _=>none)=none
 rw[h];exact hn
theorem is_no {l:Nat}{o:O}(h:σ[l]?=some o) (hn:(match some o with | some (.dI _) | some (.dS _) | some (.dT _)=>true | _=>false)=true):isDict σ (.loc l)=true:=by
 show(match σ[l]? with | some (.dI _) | some (.dS _) | some (.dT _)=>true | _=>false)=true
 rw[h];exact hn
theorem seq_dI {l:Nat}{kvs:List (Int×V)}(h:σ[l]?=some (.dI kvs)):seqOf σ (.loc l)=none:=seq_no h rfl
theorem is_dI {l:Nat}{kvs:List (Int×V)}(h:σ[l]?=some (.dI kvs)):isDict σ (.loc l)=true:=is_no h rfl
theorem al2 {p:Nat→Prop}{a b:Nat}(h:p a) (h2:p b):∀j∈[a,b],p j:=fun j hj=>(List.mem_cons.mp hj).elim (fun e=>e▸h) fun hj=>all1 h2 j hj
theorem al3 {p:Nat→Prop}{a b c:Nat}(h:p a) (h2:p b) (h3:p c):∀j∈[a,b,c],p j:=fun j hj=>(List.mem_cons.mp hj).elim (fun e=>e▸h) fun hj=>al2 h2 h3 j hj
theorem ni2 {a b j:Nat}(h:j≠a) (h':j≠b):j∉[a,b]:=fun e=>(List.mem_cons.mp e).elim h fun e=>h' (List.mem_singleton.mp e)
theorem ni21 {a b c j:Nat}(h:j∉[a,b]) (h':j≠c):j∉[a,b,c]:=fun e=>(List.mem_cons.mp e).elim (fun e=>h (e▸.head _)) fun e=>(List.mem_cons.mp e).elim (fun e=>h (e▸.tail _ (.head _))) fun e=>h' (List.mem_singleton.mp e)
theorem lnil {x:V}{l:List V}{P:Prop}(h:some (O.list (x :: l))=some (O.list [])):P:=by cases h
theorem dIl {a:List (Int×V)}{b:List V}{P:Prop}(h:some (O.dI a)=some (O.list b)):P:=by cases h
end
noncomputable def kyL:Ky→List V
 | (a,b,none)=>[.int a,.int b]
 | (a,b,some l)=>[.int a,.int b,.tup (l.map .int)]
noncomputable def kyV (r:Ky):V:=.tup (kyL r)
structure KtL where
 i:Nat
 d:Nat
 r:Nat
 x:Nat
 de:Nat
 we:Nat
 op:Nat
structure KtAt (σ:Store) (L:KtL) (rows:List Ky) (de we op:List Int):Prop where
 inst:σ[L.i]?=some (.inst 0 L.d)
 ns:σ[L.d]?=some (.ns [(0,.loc L.r),(1,.loc L.x),(2,.loc L.de),(3,.loc L.we),(4,.loc L.op)])
 rws:σ[L.r]?=some (.list (rows.map kyV))
 index:σ[L.x]?=some (.dT (rows.zipIdx.map fun p=>(p.1,.int (p.2:Int))))
 depths:σ[L.de]?=some (.list (de.map .int))
 weights:σ[L.we]?=some (.list (we.map .int))
 opens:σ[L.op]?=some (.list (op.map .int))
 small:rows.length≤100000
 nodup:[L.i,L.d,L.r,L.x,L.de,L.we,L.op].Nodup
 lde:de.length=rows.length
 lwe:we.length=rows.length
 lop:op.length=rows.length
theorem getI {α:Type}{l:List α}{k:Nat}{x:α}(h:l[k]?=some x) (f:α→V):(l.map f)[k]?=some (f x):=by rw[List.getElem?_map,h];rfl
theorem ky0 (r:Ky):(kyL r)[0]?=some (.int r.1):=by obtain⟨a,b,c | l⟩:=r <;> rfl
theorem ky1 (r:Ky):(kyL r)[1]?=some (.int r.2.1):=by obtain⟨a,b,c | l⟩:=r <;> rfl
theorem ky2 {r:Ky}{l:List Int}(h:r.2.2=some l):(kyL r)[2]?=some (.tup (l.map .int)):=by obtain⟨a,b,c⟩:=r;cases h;rfl
theorem kyLen (r:Ky):(kyL r).length≤line:=by
 obtain⟨a,b,c | l⟩:=r
 ·show 2≤line;decide
 ·show 3≤line;decide
section
variable {n:Nat}{σ:Store}{L:KtL}{rows:List Ky}{de we op:List Int}{k:Nat}{r:Ky}{Q:Post}
theorem KtAt.keep {σ':Store}(K:KtAt σ L rows de we op) (g:∀i∈[L.i,L.d,L.r,L.x,L.de,L.we,L.op],∀o,σ[i]?=some o→σ'[i]?=some o):KtAt σ' L rows de we op:=
 ⟨g _ (.head _) _ K.inst,g _ (.tail _ (.head _)) _ K.ns,g _ (.tail _ (.tail _ (.head _))) _ K.rws,g _ (.tail _ (.tail _ (.tail _ (.head _)))) _ K.index,g _ (.tail _ (.tail _ (.tail _ (.tail _ (.head _))))) _ K.depths,g _ (.tail _ (.tail _ (.tail _ (.tail _ (.tail _ (.head _)))))) _ K.weights,g _ (.tail _ (.tail _ (.tail _ (.tail _ (.tail _ (.tail _ (.head _))))))) _ K.opens,K.small,K.nodup,K.lde,K.lwe,K.lop⟩
theorem KtAt.at_ (K:KtAt σ L rows de we op) {f:Nat}{v:V}(h:agets [(0,V.loc L.r),(1,.loc L.x),(2,.loc L.de),(3,.loc L.we),(4,.loc L.op)] f=some v) (q:Q v σ):attrR (.loc L.i) f σ Q:=at_of K.inst K.ns h q
theorem KtAt.me (K:KtAt σ L rows de we op) {m f:Nat}{P:Nat→Prop}(h:methFn 0 m=some f) (q:P f):methR (.loc L.i) m σ P:=me_of K.inst K.ns h q
theorem c_row (K:KtAt σ L rows de we op) (hk:rows[k]?=some r) (q:Q (kyV r) σ):C (n+1) 101 [.loc L.i,.int k] σ Q:=by
 refine call_eq (m:=f101) rfl rfl ?_
 have hlt:=(List.getElem?_eq_some_iff.mp hk).1
 have hs:(rows.map kyV).length≤line:=by rw[List.length_map];exact Nat.le_trans K.small (by decide)
 refine ltF (by lia) ?_
 refine K.at_ rfl ?_
 refine seq_list K.rws ⟨hs,?_⟩
 refine geF (by rw[List.length_map];lia) ?_
 refine K.at_ rfl ?_
 exact sub_list K.rws hs (getI hk kyV) q
theorem ky_at {i:Int}{v:V}(h0:0≤i) (h:(kyL r)[i.toNat]?=some v) (q:Q v σ):subR (kyV r) (.int i) σ Q:=sub_tup h0 (kyLen r) h q
theorem ky_0 (q:Q (.int r.1) σ):subR (kyV r) (.int 0) σ Q:=ky_at (by decide) (ky0 r) q
theorem ky_1 (q:Q (.int r.2.1) σ):subR (kyV r) (.int 1) σ Q:=ky_at (by decide) (ky1 r) q
theorem c_kind_sort (K:KtAt σ L rows de we op) (hk:rows[k]?=some r) (q:Q (.int r.1) σ):C (n+2) 14 [.loc L.i,.int k] σ Q:=by
 refine call_eq (m:=f14) rfl rfl ?_
 refine K.me rfl ?_
 exact c_row K hk (ky_0 q)
noncomputable def elemR (r:Ky):Int:=if r.1=4∨r.1=5∨r.1=9∨r.1=8 then r.2.1 else -1
theorem c_elem_of (K:KtAt σ L rows de we op) (hk:rows[k]?=some r) (q:Q (.int (elemR r)) σ):C (n+2) 15 [.loc L.i,.int k] σ Q:=by
 refine call_eq (m:=f15) rfl rfl ?_
 refine K.me rfl ?_
 refine c_row K hk ?_
 unfold elemR at q
 refine ky_0 ?_
 by_cases h1:r.1=4
 ·rw[if_pos (.inl h1)]at q;exact eqT h1 (ky_1 q)
 refine eqF h1 (ky_0 ?_)
 by_cases h2:r.1=5
 ·rw[if_pos (.inr (.inl h2))]at q;exact eqT h2 (ky_1 q)
 refine eqF h2 (ky_0 ?_)
 by_cases h3:r.1=9
 ·rw[if_pos (.inr (.inr (.inl h3)))]at q;exact eqT h3 (ky_1 q)
 refine eqF h3 (ky_0 ?_)
 by_cases h4:r.1=8
 ·rw[if_pos (.inr (.inr (.inr h4)))]at q;exact eqT h4 (ky_1 q)
 ·rw[if_neg (fun h=>h.elim h1 fun h=>h.elim h2 fun h=>h.elim h3 h4)]at q;exact eqF h4 q
noncomputable def primTid (k:Int):Int:=match agets (cdTab 0) k with
 | some (.int i)=>i
 | _=>0
theorem primTid_eq (k:Int):(agets (cdTab 0) k).getD (.int 0) = .int (primTid k):=by
 unfold primTid
 cases h:agets (cdTab 0) k with
 | none=>rfl
 | some v=>
  unfold agets at h
  obtain⟨p,hp,rfl⟩:=Option.map_eq_some_iff.mp h
  have:=List.mem_of_find?_eq_some hp
  have all:=(by decide:∀p∈cdTab 0,Nat.beq p.2.ctorIdx 2=true) p this
  generalize p.2=v at all
  induction v using V.casesOn <;> first | rfl | exact bff all
noncomputable def tidR (k:Nat) (r:Ky):Int:=if r.1=2∨r.1=3 then r.2.1 else if r.1=1 then primTid k else if r.1=4 then 5 else 0
theorem c_tid_of (K:KtAt σ L rows de we op) (hk:rows[k]?=some r) (q:Q (.int (tidR k r)) σ):C (n+2) 16 [.loc L.i,.int k] σ Q:=by
 refine call_eq (m:=f16) rfl rfl ?_
 refine K.me rfl ?_
 refine c_row K hk ?_
 unfold tidR at q
 refine ky_0 ?_
 by_cases h1:r.1=2
 ·rw[if_pos (.inl h1)]at q;exact eqT h1 (ky_1 q)
 refine eqF h1 (ky_0 ?_)
 by_cases h2:r.1=3
 ·rw[if_pos (.inr h2)]at q;exact eqT h2 (ky_1 q)
 rw[if_neg (fun h=>h.elim h1 h2)]at q
 refine eqF h2 (ky_0 ?_)
 by_cases h3:r.1=1
 ·rw[if_pos h3]at q
  refine eqT h3 ⟨rfl,?_⟩
  refine loo_of rfl ?_
  rw[primTid_eq];exact q
 rw[if_neg h3]at q
 refine eqF h3 (ky_0 ?_)
 by_cases h4:r.1=4
 ·rw[if_pos h4]at q;exact eqT h4 q
 ·rw[if_neg h4]at q;exact eqF h4 q
noncomputable def argsR (r:Ky):List Int:=if r.1=2∨r.1=3 then r.2.2.getD [] else []
noncomputable def Good (r:Ky):Prop:=(r.1=2∨r.1=3)↔r.2.2.isSome=true
theorem c_args_of (K:KtAt σ L rows de we op) (hk:rows[k]?=some r) (g:Good r) (q:Q (.tup ((argsR r).map .int)) σ):C (n+2) 17 [.loc L.i,.int k] σ Q:=by
 refine call_eq (m:=f17) rfl rfl ?_
 refine K.me rfl ?_
 refine c_row K hk ?_
 unfold argsR at q
 refine ky_0 ?_
 have h2:r.1=2∨r.1=3→subR (kyV r) (.int 2) σ Q:=fun h=>by
  obtain⟨l,hl2⟩:=Option.isSome_iff_exists.mp (g.mp h)
  rw[if_pos h,hl2]at q
  exact ky_at (by decide) (ky2 hl2) q
 by_cases e1:r.1=2
 ·exact eqT e1 (h2 (.inl e1))
 refine eqF e1 (ky_0 ?_)
 by_cases e2:r.1=3
 ·exact eqT e2 (h2 (.inr e2))
 ·rw[if_neg (fun h=>h.elim e1 e2)]at q
  exact eqF e2 ⟨by decide,q⟩
noncomputable def valR (k:Nat) (r:Ky):Bool:=(1≤k∧k≤11) || r.1==3
theorem c_is_value (K:KtAt σ L rows de we op) (hk:rows[k]?=some r) (q:Q (.bool (valR k r)) σ):C (n+2) 18 [.loc L.i,.int k] σ Q:=by
 refine call_eq (m:=f18) rfl rfl ?_
 unfold valR at q
 have no:¬(1≤k∧k≤11)→Q (.bool (r.1==3)) σ:=fun h=>by rw[decide_eq_false h]at q;exact q
 have last:¬(1≤k∧k≤11)→C (n+1) 101 [.loc L.i,.int k] σ (fun v σ=>subR v (.int 0) σ fun v σ=>cmpR .eq v (.int 3) σ Q):=fun h=>c_row K hk (ky_0 (eq_of rfl (no h)))
 by_cases h1:1≤k
 ·refine leT (by lia) ?_
  by_cases h2:k≤11
  ·rw[decide_eq_true ⟨h1,h2⟩]at q
   exact leT (by lia) q
  ·refine leF (by lia) ?_
   exact K.me rfl (last fun h=>h2 h.2)
 ·refine leF (by lia) ?_
  exact K.me rfl (last fun h=>h1 h.1)
noncomputable def refR (k:Nat) (r:Ky):Bool:=k==12 || k==13 || k==14 || r.1==2 || r.1==4 || r.1==8
theorem c_is_ref (K:KtAt σ L rows de we op) (hk:rows[k]?=some r) (q:Q (.bool (refR k r)) σ):C (n+2) 19 [.loc L.i,.int k] σ Q:=by
 refine call_eq (m:=f19) rfl rfl ?_
 unfold refR at q
 by_cases h1:k=12
 ·subst h1;exact eqT rfl q
 refine eqF (nat_ne h1) ?_
 by_cases h2:k=13
 ·subst h2;exact eqT rfl q
 refine eqF (nat_ne h2) ?_
 by_cases h3:k=14
 ·subst h3;exact eqT rfl q
 refine eqF (nat_ne h3) ?_
 rw[beq_eq_false_iff_ne.mpr h1,beq_eq_false_iff_ne.mpr h2,beq_eq_false_iff_ne.mpr h3]at q
 refine K.me rfl ?_
 refine c_row K hk ?_
 refine ky_0 ?_
 refine eq_of rfl ?_
 cases e1:r.1==2 with
 | true=>rw[e1]at q;exact q
 | false=>
  rw[e1]at q
  refine eq_of rfl ?_
  cases e2:r.1==4 with
  | true=>rw[e2]at q;exact q
  | false=>rw[e2]at q;exact eq_of rfl q
noncomputable def varR (r:Ky):Bool:=r.1==6 || r.1==7
theorem c_is_var (K:KtAt σ L rows de we op) (hk:rows[k]?=some r) (q:Q (.bool (varR r)) σ):C (n+2) 20 [.loc L.i,.int k] σ Q:=by
 refine call_eq (m:=f20) rfl rfl ?_
 refine K.me rfl ?_
 refine c_row K hk ?_
 unfold varR at q
 refine ky_0 ?_
 refine eq_of rfl ?_
 cases e1:r.1==6 with
 | true=>rw[e1]at q;exact q
 | false=>rw[e1]at q;exact eq_of rfl q
noncomputable def nullR (k:Nat) (r:Ky):Bool:=r.1==3&&tidR k r==8
theorem c_is_nullable (K:KtAt σ L rows de we op) (hk:rows[k]?=some r) (q:Q (.bool (nullR k r)) σ):C (n+3) 32 [.loc L.i,.int k] σ Q:=by
 refine call_eq (m:=f32) rfl rfl ?_
 refine c_kind_sort K hk ?_
 unfold nullR at q
 refine eq_of rfl ?_
 cases h:r.1==3 with
 | false=>rw[h]at q;exact q
 | true=>rw[h]at q;exact c_tid_of K hk (eq_of rfl q)
theorem c_is_number {k:Int}(q:Q (.bool (decide (2≤k)&&decide (k≤10))) σ):C (n+1) 22 [.int k] σ Q:=by
 refine call_eq (m:=f22) rfl rfl ?_
 refine le_of ?_
 cases h:decide (2≤k) with
 | true=>rw[h]at q;exact le_of q
 | false=>rw[h]at q;exact q
end
section
variable {n:Nat}{σ:Store}{L:KtL}{rows:List Ky}{de we op:List Int}{k:Nat}{r:Ky}{Q:Post}
theorem zipIdx_get {rows:List Ky}(hn:rows.Nodup) {k:Nat}{r:Ky}(hk:rows[k]?=some r):∀s:Nat,(rows.zipIdx s).find? (fun p=>decide (p.1=r))=some (r,s+k):=by
 induction rows generalizing k with
 | nil=>simp at hk
 | cons a l ih=>
  intro s
  rw[List.nodup_cons]at hn
  rw[List.zipIdx_cons,List.find?_cons]
  cases k with
  | zero=>simp at hk;subst hk;simp
  | succ k=>
   simp only[List.getElem?_cons_succ]at hk
   have hne:a≠r:=fun e=>hn.1 (e▸List.mem_of_getElem? hk)
   simp only[hne,decide_false]
   rw[ih hn.2 hk (s+1)]
   congr 2;lia
theorem index_get (hn:rows.Nodup) (hk:rows[k]?=some r):agets (rows.zipIdx.map fun p=>(p.1,V.int (p.2:Int))) r=some (.int k):=by
 unfold agets
 rw[List.find?_map]
 have:=zipIdx_get hn hk 0
 show Option.map _ (Option.map _ (List.find? (fun p=>decide (p.1=r)) (rows.zipIdx 0)))=_
 rw[this];simp
theorem index_none (hr:r∉rows):agets (rows.zipIdx.map fun p=>(p.1,V.int (p.2:Int))) r=none:=by
 unfold agets
 rw[Option.map_eq_none_iff,List.find?_eq_none]
 intro p hp
 obtain⟨q,hq,rfl⟩:=List.mem_map.mp hp
 have:q.1∈rows:=by
  have:=List.mem_map_of_mem (f:=(·.1)) hq
  rwa [List.zipIdx_map_fst]at this
 simp only[decide_eq_true_eq]
 exact fun e=>hr (e▸this)
theorem index_put (hr:r∉rows):asets (rows.zipIdx.map fun p=>(p.1,V.int (p.2:Int))) r (.int rows.length)=(rows++[r]).zipIdx.map fun p=>(p.1,V.int (p.2:Int)):=by
 unfold asets
 have:((rows.zipIdx.map fun p=>(p.1,V.int (p.2:Int))).any fun p=>decide (p.1=r))=false:=by
  rw[List.any_eq_false]
  intro p hp
  obtain⟨q,hq,rfl⟩:=List.mem_map.mp hp
  have:q.1∈rows:=by
   have:=List.mem_map_of_mem (f:=(·.1)) hq
   rwa [List.zipIdx_map_fst]at this
  simp only[decide_eq_true_eq]
  exact fun e=>hr (e▸this)
 rw[this,if_neg (by simp),List.zipIdx_append,List.map_append]
 simp
theorem kyOf_kyV (r:Ky):kyOf (kyV r)=some r:=by
 obtain⟨a,b,c | l⟩:=r
 ·rfl
 ·have:∀l:List Int,intsOf (l.map .int)=some l:=by
   intro l
   induction l with
   | nil=>rfl
   | cons a l ih=>show(intsOf (l.map .int)).map (a :: ·)=_;rw[ih];rfl
  show(intsOf (l.map .int)).map (fun l=>((a,b,some l):Ky))=_
  rw[this];rfl
theorem look_idx (K:KtAt σ L rows de we op):lookO σ (.loc L.x) (kyV r)=some (agets (rows.zipIdx.map fun p=>(p.1,V.int (p.2:Int))) r):=by
 show(match σ[L.x]?,kyOf (kyV r)with | some (.dT kvs),some ky=>some (agets kvs ky) | _,_=>none)=_
 rw[K.index,kyOf_kyV]
theorem isD_x (K:KtAt σ L rows de we op):isDict σ (.loc L.x)=true:=is_no K.index rfl
theorem c_put_found (K:KtAt σ L rows de we op) (hn:rows.Nodup) (hk:rows[k]?=some r) (q:Q (.int k) σ):C (n+1) 102 [.loc L.i,kyV r] σ Q:=by
 refine call_eq (m:=f102) rfl rfl ?_
 have hx:=look_idx (r:=r) K
 rw[index_get hn hk]at hx
 refine K.at_ rfl ⟨isD_x K,?_⟩
 refine loo_of hx ?_
 exact geT (Int.natCast_nonneg k) q
theorem in_cd1 {tid:Int}(ht:agets (cdTab 1) tid=none) (q:Q (.bool false) σ):cmpR .inn (.int tid) (.cd 1) σ Q:=in_cd (by rw[ht];exact q)
theorem c_class_kind (K:KtAt σ L rows de we op) (hn:rows.Nodup) {tid:Int}{l:List Int}(ht:agets (cdTab 1) tid=none) (hk:rows[k]?=some (2,tid,some l)) (q:Q (.int k) σ):C (n+2) 7 [.loc L.i,.int tid,.tup (l.map .int)] σ Q:=by
 refine call_eq (m:=f7) rfl rfl ?_
 refine in_cd1 ht ?_
 refine K.me rfl ⟨lel rfl,?_⟩
 exact c_put_found K hn hk q
end
section
variable {n:Nat}{σ:Store}{L:KtL}{rows:List Ky}{de we op:List Int}{k:Nat}{r:Ky}{Q:Post}
theorem for_inv {Q:PostS}{src:Store→Prop}{st:V→Rho→Store→PostS→Prop}(P:Rho→Prop) {items:List V}(hsrc:src σ) (step:∀y∈items,∀ρ,P ρ→∀K:PostS,(∀ρ',P ρ'→K .nx ρ' σ)→st y ρ σ K) {ρ:Rho}(hP:P ρ) (hQ:∀ρ',P ρ'→Q .nx ρ' σ) :
  forItems src st items ρ σ Q:=by
 induction items generalizing ρ with
 | nil=>exact⟨hsrc,hQ ρ hP⟩
 | cons x xs ih=>exact⟨hsrc,step x (.head _) ρ hP _ fun ρ' hP'=>ih (fun y hy=>step y (.tail _ hy)) hP'⟩
inductive Form (r:Ky):List Int→Prop
 | cls {tid l}:r=(2,tid,some l)→Form r l
 | val {tid l}:r=(3,tid,some l)→Form r l
 | arr {x}:r=(4,x,none)→Form r [x]
 | var {i}:r=(6,i,none)→Form r []
 | mvar {i}:r=(7,i,none)→Form r []
 | boxed {x}:r=(8,x,none)→Form r [x]
theorem c_inner {l:List Int}(f:Form r l) (q:Q (.tup (l.map .int)) σ):C (n+1) 0 [kyV r] σ Q:=by
 refine call_eq (m:=f0) rfl rfl ?_
 refine ky_0 ?_
 induction f with
 | cls h=>subst h;exact eq_of rfl (ky_at (by decide) rfl q)
 | val h=>subst h;exact eq_of rfl (eq_of rfl (ky_at (by decide) rfl q))
 | arr h=>subst h;exact eq_of rfl (eq_of rfl (eq_of rfl (ky_1 ⟨lel rfl,q⟩)))
 | var h=>subst h;exact eq_of rfl (eq_of rfl (eq_of rfl (eq_of rfl (eq_of rfl (eq_of rfl (eq_of rfl (eq_of rfl ⟨lel rfl,q⟩)))))))
 | mvar h=>subst h;exact eq_of rfl (eq_of rfl (eq_of rfl (eq_of rfl (eq_of rfl (eq_of rfl (eq_of rfl (eq_of rfl ⟨lel rfl,q⟩)))))))
 | boxed h=>subst h;exact eq_of rfl (eq_of rfl (eq_of rfl (eq_of rfl (eq_of rfl (ky_1 ⟨lel rfl,q⟩)))))
noncomputable def levelR (s:Int):Int:=if s=2∨s=3∨s=4 then 1 else 0
theorem c_row_level {s:Int}(q:Q (.int (levelR s)) σ):C (n+1) 1 [.int s] σ Q:=by
 refine call_eq (m:=f1) rfl rfl ?_
 unfold levelR at q
 by_cases h1:s=2
 ·rw[if_pos (.inl h1)]at q;exact eqT h1 q
 refine eqF h1 ?_
 by_cases h2:s=3
 ·rw[if_pos (.inr (.inl h2))]at q;exact eqT h2 q
 refine eqF h2 ?_
 by_cases h3:s=4
 ·rw[if_pos (.inr (.inr h3))]at q;exact eqT h3 q
 ·rw[if_neg (fun h=>h.elim h1 fun h=>h.elim h2 h3)]at q;exact eqF h3 q
noncomputable def lenR (s:Int):Int:=if s=2∨s=3 then 3 else if s=10 then 4 else 2
theorem c_row_length {s:Int}(q:Q (.int (lenR s)) σ):C (n+1) 2 [.int s] σ Q:=by
 refine call_eq (m:=f2) rfl rfl ?_
 unfold lenR at q
 by_cases h1:s=2
 ·rw[if_pos (.inl h1)]at q;exact eqT h1 q
 refine eqF h1 ?_
 by_cases h2:s=3
 ·rw[if_pos (.inr h2)]at q;exact eqT h2 q
 rw[if_neg (fun h=>h.elim h1 h2)]at q
 refine eqF h2 ?_
 by_cases h3:s=10
 ·rw[if_pos h3]at q;exact eqT h3 q
 ·rw[if_neg h3]at q;exact eqF h3 q
noncomputable def standR (k:Nat) (r:Ky):Bool:=k != 0&&k != 14&&(decide (r.1≤4) || r.1==6 || r.1==7)
theorem c_may_stand (K:KtAt σ L rows de we op) (hk:rows[k]?=some r) (q:Q (.bool (standR k r)) σ):C (n+2) 6 [.loc L.i,.int k] σ Q:=by
 refine call_eq (m:=f6) rfl rfl ?_
 unfold standR at q
 by_cases h1:k=0
 ·subst h1;exact eqT rfl q
 refine eqF (nat_ne h1) ?_
 by_cases h2:k=14
 ·subst h2;exact eqT rfl q
 refine eqF (nat_ne h2) ?_
 rw[bne_iff_ne.mpr h1,bne_iff_ne.mpr h2]at q
 refine K.me rfl ?_
 refine c_row K hk ?_
 refine ky_0 ?_
 refine le_of ?_
 cases e1:decide (r.1≤4) with
 | true=>rw[e1]at q;exact q
 | false=>
  rw[e1]at q
  refine eq_of rfl ?_
  cases e2:r.1==6 with
  | true=>rw[e2]at q;exact q
  | false=>rw[e2]at q;exact eq_of rfl q
theorem c_check_args (K:KtAt σ L rows de we op) {l:List Int}(hz:l.length≤1000) (hl:∀x∈l,∃(k:Nat) (r:Ky),x=k∧rows[k]?=some r∧standR k r=true) (q:Q .none σ):C (n+3) 5 [.loc L.i,.tup (l.map .int)] σ Q:=by
 refine call_eq (m:=f5) rfl rfl ?_
 refine its_tup ⟨by rw[List.length_map];exact Nat.le_trans hz (by decide),?_⟩
 refine for_inv (fun ρ'=>∃z z2,ρ'=[some (.loc L.i),z,z2,none]) trivial ?_ ⟨_,_,rfl⟩ ?_
 ·rintro y hy ρ ⟨z,z2,rfl⟩ K' hK
  obtain⟨x,hx,rfl⟩:=List.mem_map.mp hy
  obtain⟨k,r,rfl,hk,hs⟩:=hl x hx
  refine c_may_stand K hk ?_
  rw[hs]
  exact hK _ ⟨_,_,rfl⟩
 ·rintro ρ ⟨z,z2,rfl⟩
  exact q
end
set_option maxRecDepth 20000
section
variable {n:Nat}{σ:Store}{L:KtL}{rows:List Ky}{de we op:List Int}{k:Nat}{r:Ky}{Q:Post}
theorem c_check_named (K:KtAt σ L rows de we op) {s tid:Int}{l:List Int}(h0:0 < tid) (ht:agets (cdTab 1) tid=none) (hz:l.length≤1000) (hl:∀x∈l,∃(k:Nat) (r:Ky),x=k∧rows[k]?=some r∧standR k r=true) (q:Q .none σ) :
  C (n+4) 4 [.loc L.i,kyV (s,tid,some l)] σ Q:=by
 refine call_eq (m:=f4) rfl rfl ?_
 refine ky_1 (leF (Int.not_le.mpr h0) ?_)
 refine ky_1 (in_cd1 ht ?_)
 refine ky_at (by decide) rfl ?_
 exact c_check_args K hz hl q
structure RowOk (rows:List Ky) (r:Ky) (l:List Int):Prop where
 form:Form r l
 inner:∀x∈l,∃(k:Nat) (r:Ky),x=k∧rows[k]?=some r
 few:l.length≤1000
 named:(r.1=2∨r.1=3)→0 < r.2.1∧agets (cdTab 1) r.2.1=none∧∀x∈l,∃(k:Nat) (r:Ky),x=k∧rows[k]?=some r∧standR k r=true
 arr:r.1=4→∀x∈l,∃(k:Nat) (r:Ky),x=k∧rows[k]?=some r∧standR k r=true
 var:(r.1=6∨r.1=7)→0≤r.2.1
 box:r.1=8→∀x∈l,∃(k:Nat) (r:Ky),x=k∧rows[k]?=some r∧(valR k r=true∨varR r=true)
theorem c_check_row (K:KtAt σ L rows de we op) {l:List Int}(ok:RowOk rows r l) (q:Q .none σ):C (n+5) 3 [.loc L.i,kyV r] σ Q:=by
 refine call_eq (m:=f3) rfl rfl ?_
 have hlen:((kyL r).length:Int)=lenR r.1:=by
  cases ok.form with | _ h=>subst h;rfl
 have hs:¬r.1≤1∧¬11 < r.1∧¬(((kyL r).length:Nat):Int)=0:=by
  cases ok.form with | _ h=>subst h;simp[kyL]
 refine seq_tup ⟨kyLen r,?_⟩
 refine eqF hs.2.2 (ky_0 (leF hs.1 (ky_0 (gtF hs.2.1 (ky_0 ?_)))))
 refine seq_tup ⟨kyLen r,?_⟩
 refine c_row_length (neF hlen ?_)
 refine c_inner ok.form ?_
 refine its_tup ⟨by rw[List.length_map];exact Nat.le_trans ok.few (by decide),?_⟩
 refine for_inv (fun ρ'=>∃z,ρ'=[some (.loc L.i),some (kyV r),some (.int r.1),z,none]) trivial ?_ ⟨_,rfl⟩ ?_
 ·rintro y hy ρ ⟨z,rfl⟩ K' hK
  obtain⟨x,hx,rfl⟩:=List.mem_map.mp hy
  obtain⟨k',r',rfl,hk'⟩:=ok.inner x hx
  exact K.me rfl (c_row K hk' (hK _ ⟨_,rfl⟩))
 ·rintro ρ ⟨z,rfl⟩
  clear hlen hs
  cases ok.form with
  | @cls tid l h=>
   subst h
   obtain⟨p1,p2,p3⟩:=ok.named (.inl rfl)
   exact eq_of rfl (c_check_named K p1 p2 ok.few p3 q)
  | @val tid l h=>
   subst h
   obtain⟨p1,p2,p3⟩:=ok.named (.inr rfl)
   exact eq_of rfl (eq_of rfl (c_check_named K p1 p2 ok.few p3 q))
  | @arr x h=>
   subst h
   obtain⟨k',r',rfl,hk',hs'⟩:=ok.arr rfl x (.head _)
   refine eq_of rfl (eq_of rfl (eq_of rfl (eq_of rfl (eq_of rfl (eq_of rfl (ky_1 (c_may_stand K hk' ?_)))))))
   rw[hs'];exact q
  | @var i h=>
   subst h
   exact eq_of rfl (eq_of rfl (eq_of rfl (ky_1 (ltF (Int.not_lt.mpr (ok.var (.inl rfl))) q))))
  | @mvar i h=>
   subst h
   exact eq_of rfl (eq_of rfl (eq_of rfl (eq_of rfl (ky_1 (ltF (Int.not_lt.mpr (ok.var (.inr rfl))) q)))))
  | @boxed x h=>
   subst h
   obtain⟨k',r',rfl,hk',hs'⟩:=ok.box rfl x (.head _)
   refine eq_of rfl (eq_of rfl (eq_of rfl (eq_of rfl (eq_of rfl (eq_of rfl (ky_1 (c_is_value K hk' ?_)))))))
   cases hv:valR k' r' with
   | true=>exact q
   | false=>
    refine ky_1 (c_is_var K hk' ?_)
    rw[hs'.resolve_left (fun h=>by rw[hv]at h;cases h)]
    exact q
end
set_option maxRecDepth 20000
section
variable {n:Nat}{σ:Store}{L:KtL}{rows:List Ky}{de we op:List Int}{r:Ky}{Q:Post}
noncomputable def Only (L:KtL) (σ σ':Store):Prop:=σ'.length=σ.length∧∀i,i∉[L.r,L.x,L.de,L.we,L.op]→σ'[i]?=σ[i]?
theorem get_lt {α:Type}{l:List α}{i:Nat}{x:α}(h:l[i]?=some x):i < l.length:=(List.getElem?_eq_some_iff.mp h).1
theorem set_self {σ:Store}{a:Nat}{o o':O}(h:σ[a]?=some o'):(σ.set a o)[a]?=some o:=by rw[List.getElem?_set_self (get_lt h)]
theorem set_ne {σ:Store}{a b:Nat}{o:O}(h:a≠b):(σ.set a o)[b]?=σ[b]?:=List.getElem?_set_ne h
theorem Only.refl:Only L σ σ:=⟨rfl,fun Z Z=>rfl⟩
theorem Only.set {σ':Store}{a:Nat}{o:O}(x:Only L σ σ') (h:a∈[L.r,L.x,L.de,L.we,L.op]):Only L σ (σ'.set a o):=
 ⟨by rw[List.length_set];exact x.1,fun i hi=>by rw[set_ne (fun e=>hi (by rw[←e];exact h))];exact x.2 i hi⟩
structure Raw (σ:Store) (L:KtL) (R:List V) (X:List (Ky×V)) (D W O:List V):Prop where
 inst:σ[L.i]?=some (.inst 0 L.d)
 ns:σ[L.d]?=some (.ns [(0,.loc L.r),(1,.loc L.x),(2,.loc L.de),(3,.loc L.we),(4,.loc L.op)])
 rws:σ[L.r]?=some (.list R)
 index:σ[L.x]?=some (.dT X)
 depths:σ[L.de]?=some (.list D)
 weights:σ[L.we]?=some (.list W)
 opens:σ[L.op]?=some (.list O)
section
variable {R D W O:List V}{X:List (Ky×V)}
theorem Raw.at_ (K:Raw σ L R X D W O) {f:Nat}{v:V}(h:agets [(0,V.loc L.r),(1,.loc L.x),(2,.loc L.de),(3,.loc L.we),(4,.loc L.op)] f=some v) (q:Q v σ):attrR (.loc L.i) f σ Q:=at_of K.inst K.ns h q
theorem Raw.sr (K:Raw σ L R X D W O) (nd:[L.i,L.d,L.r,L.x,L.de,L.we,L.op].Nodup) {N:List V}:Raw (σ.set L.r (.list N)) L N X D W O:=by
 simp only[List.nodup_cons,List.mem_cons,List.not_mem_nil,or_false,not_or]at nd
 exact⟨(set_ne (Ne.symm nd.1.2.1)).trans K.inst,(set_ne (Ne.symm nd.2.1.1)).trans K.ns,set_self K.rws,(set_ne nd.2.2.1.1).trans K.index,(set_ne nd.2.2.1.2.1).trans K.depths,(set_ne nd.2.2.1.2.2.1).trans K.weights,(set_ne nd.2.2.1.2.2.2).trans K.opens⟩
theorem Raw.sx (K:Raw σ L R X D W O) (nd:[L.i,L.d,L.r,L.x,L.de,L.we,L.op].Nodup) {N:List (Ky×V)}:Raw (σ.set L.x (.dT N)) L R N D W O:=by
 simp only[List.nodup_cons,List.mem_cons,List.not_mem_nil,or_false,not_or]at nd
 exact⟨(set_ne (Ne.symm nd.1.2.2.1)).trans K.inst,(set_ne (Ne.symm nd.2.1.2.1)).trans K.ns,(set_ne (Ne.symm nd.2.2.1.1)).trans K.rws,set_self K.index,(set_ne nd.2.2.2.1.1).trans K.depths,(set_ne nd.2.2.2.1.2.1).trans K.weights,(set_ne nd.2.2.2.1.2.2).trans K.opens⟩
theorem Raw.sd (K:Raw σ L R X D W O) (nd:[L.i,L.d,L.r,L.x,L.de,L.we,L.op].Nodup) {N:List V}:Raw (σ.set L.de (.list N)) L R X N W O:=by
 simp only[List.nodup_cons,List.mem_cons,List.not_mem_nil,or_false,not_or]at nd
 exact⟨(set_ne (Ne.symm nd.1.2.2.2.1)).trans K.inst,(set_ne (Ne.symm nd.2.1.2.2.1)).trans K.ns,(set_ne (Ne.symm nd.2.2.1.2.1)).trans K.rws,(set_ne (Ne.symm nd.2.2.2.1.1)).trans K.index,set_self K.depths,(set_ne nd.2.2.2.2.1.1).trans K.weights,(set_ne nd.2.2.2.2.1.2).trans K.opens⟩
theorem Raw.sw (K:Raw σ L R X D W O) (nd:[L.i,L.d,L.r,L.x,L.de,L.we,L.op].Nodup) {N:List V}:Raw (σ.set L.we (.list N)) L R X D N O:=by
 simp only[List.nodup_cons,List.mem_cons,List.not_mem_nil,or_false,not_or]at nd
 exact⟨(set_ne (Ne.symm nd.1.2.2.2.2.1)).trans K.inst,(set_ne (Ne.symm nd.2.1.2.2.2.1)).trans K.ns,(set_ne (Ne.symm nd.2.2.1.2.2.1)).trans K.rws,(set_ne (Ne.symm nd.2.2.2.1.2.1)).trans K.index,(set_ne (Ne.symm nd.2.2.2.2.1.1)).trans K.depths,set_self K.weights,(set_ne nd.2.2.2.2.2.1).trans K.opens⟩
theorem Raw.so (K:Raw σ L R X D W O) (nd:[L.i,L.d,L.r,L.x,L.de,L.we,L.op].Nodup) {N:List V}:Raw (σ.set L.op (.list N)) L R X D W N:=by
 simp only[List.nodup_cons,List.mem_cons,List.not_mem_nil,or_false,not_or]at nd
 exact⟨(set_ne (Ne.symm nd.1.2.2.2.2.2)).trans K.inst,(set_ne (Ne.symm nd.2.1.2.2.2.2)).trans K.ns,(set_ne (Ne.symm nd.2.2.1.2.2.2)).trans K.rws,(set_ne (Ne.symm nd.2.2.2.1.2.2)).trans K.index,(set_ne (Ne.symm nd.2.2.2.2.1.2)).trans K.depths,(set_ne (Ne.symm nd.2.2.2.2.2.1)).trans K.weights,set_self K.opens⟩
end
theorem KtAt.raw (K:KtAt σ L rows de we op):Raw σ L (rows.map kyV) (rows.zipIdx.map fun p=>(p.1,.int (p.2:Int))) (de.map .int) (we.map .int) (op.map .int):=⟨K.inst,K.ns,K.rws,K.index,K.depths,K.weights,K.opens⟩
noncomputable def DW (de we:List Int) (r:Ky) (l:List Int) (d w:Int):Prop:=
 (l=[]→d=1∧w=1)∧∀x:Nat,l=[(x:Int)]→∃dx wx,de[x]?=some dx∧we[x]?=some wx∧d≤max 1 (dx+levelR r.1)∧w=1+wx
theorem map_snoc {α β:Type}(f:α→β) (l:List α) (x:α):l.map f++[f x]=(l++[x]).map f:=by rw[List.map_append];rfl
theorem le_one {α:Type}:∀{l:List α},l.length≤1→l=[]∨∃x,l=[x]
 | [],_=>.inl rfl
 | [x],_=>.inr ⟨x,rfl⟩
 | _ :: _ :: _,h=>by simp at h
theorem put_tail (K:KtAt σ L rows de we op) (hr:r∉rows) (hs:rows.length+1≤100000) {d w o:Int}{z1 z2 z3:Option V}(hd:d≤24) (hw:w≤4096)
  (q:∀σ',KtAt σ' L (rows++[r]) (de++[d]) (we++[w]) (op++[o])→Only L σ σ'→Q (.int rows.length) σ') :
  wpSs (C n) (f102.body.drop 9) [some (.loc L.i),some (kyV r),some (.int (-1)),some (.int d),some (.int w),some (.int o),z1,z2,z3,none] σ (rtn Q):=by
 have nd:=K.nodup
 have u:∀{α:Type} {l:List α} {f:α→V},l.length=rows.length→(l.map f).length≤line:=fun h=>by rw[List.length_map,h];exact Nat.le_trans K.small (by decide)
 refine gtF (Int.not_lt.mpr hd) (gtF (Int.not_lt.mpr hw) (K.at_ rfl (seq_list K.rws ⟨u rfl,?_⟩)))
 refine K.at_ rfl ⟨lat_of K.rws,app_of K.rws (u rfl) ?_⟩
 have k1:=K.raw.sr nd (N:=rows.map kyV++[kyV r])
 generalize σ1e:σ.set L.r (.list (rows.map kyV++[kyV r]))=σ1 at k1 ⊢
 refine k1.at_ rfl (siT_of k1.index (by rw[List.length_map,List.length_zipIdx];exact Nat.le_trans K.small (by decide)) (kyOf_kyV r) ?_)
 rw[List.length_map,index_put hr]
 have k2:=k1.sx nd (N:=(rows++[r]).zipIdx.map fun p=>(p.1,.int (p.2:Int)))
 generalize σ2e:σ1.set L.x _=σ2 at k2 ⊢
 refine k2.at_ rfl ⟨lat_of k2.depths,app_of k2.depths (u K.lde) ?_⟩
 have k3:=k2.sd nd (N:=de.map .int++[.int d])
 generalize σ3e:σ2.set L.de _=σ3 at k3 ⊢
 refine k3.at_ rfl ⟨lat_of k3.weights,app_of k3.weights (u K.lwe) ?_⟩
 have k4:=k3.sw nd (N:=we.map .int++[.int w])
 generalize σ4e:σ3.set L.we _=σ4 at k4 ⊢
 refine k4.at_ rfl ⟨lat_of k4.opens,app_of k4.opens (u K.lop) ?_⟩
 have k5:=k4.so nd (N:=op.map .int++[.int o])
 have on:Only L σ (σ4.set L.op (.list (op.map .int++[.int o]))):=by
  rw[←σ4e,←σ3e,←σ2e,←σ1e]
  exact((((Only.refl.set (.head _)).set (.tail _ (.head _))).set (.tail _ (.tail _ (.head _)))).set (.tail _ (.tail _ (.tail _ (.head _))))).set (.tail _ (.tail _ (.tail _ (.tail _ (.head _)))))
 refine q _ ?_ on
 have e:=@map_snoc
 rw[e,e,e,e]at k5
 rw[e]
 exact⟨k5.inst,k5.ns,k5.rws,k5.index,k5.depths,k5.weights,k5.opens,by rw[List.length_append];exact hs,nd,by simp[K.lde],by simp[K.lwe],by simp[K.lop]⟩
theorem c_put_new (K:KtAt σ L rows de we op) (hr:r∉rows) {l:List Int}(ok:RowOk rows r l) (h1:l.length≤1) (hs:rows.length+1≤100000) (hde:∀d∈de,d≤20) (hwe:∀w∈we,w≤4000)
  (q:∀σ' d w o,KtAt σ' L (rows++[r]) (de++[d]) (we++[w]) (op++[o])→Only L σ σ'→DW de we r l d w→Q (.int rows.length) σ'):C (n+6) 102 [.loc L.i,kyV r] σ Q:=by
 refine call_eq (m:=f102) rfl rfl ?_
 have hx:=look_idx (r:=r) K
 rw[index_none hr]at hx
 have tail:∀(d w o:Int) (z1 z2 z3:Option V),d≤24→w≤4096→DW de we r l d w →
   wpSs (C (n+5)) (f102.body.drop 9) [some (.loc L.i),some (kyV r),some (.int (-1)),some (.int d),some (.int w),some (.int o),z1,z2,z3,none] σ (rtn Q):=fun d w o z1 z2 z3 hd hw dw=>
  put_tail K hr hs hd hw fun σ' a b=>q σ' d w o a b dw
 have u:∀{l:List Int},l.length=rows.length→(l.map V.int).length≤line:=fun h=>by rw[List.length_map,h];exact Nat.le_trans K.small (by decide)
 have mid:∀(o:Int),wpSs (C (n+5)) (f102.body.drop 7) [some (.loc L.i),some (kyV r),some (.int (-1)),some (.int 1),some (.int 1),some (.int o),none,none,none,none] σ (rtn Q):=by
  intro o
  refine ky_0 (c_row_level (c_inner ok.form (its_tup ⟨by rw[List.length_map];exact Nat.le_trans ok.few (by decide),?_⟩)))
  clear q hx
  rcases le_one h1 with rfl | ⟨x,rfl⟩
  ·exact⟨trivial,tail 1 1 o _ _ _ (by decide) (by decide) ⟨fun Z=>⟨rfl,rfl⟩,fun x hx=>by cases hx⟩⟩
  ·obtain⟨k',r',rfl,hk'⟩:=ok.inner x (.head _)
   have hlt:=get_lt hk'
   obtain⟨dx,hd⟩:∃d',de[k']?=some d':=⟨_,List.getElem?_eq_getElem (by rw[K.lde];exact hlt)⟩
   obtain⟨wx,hw⟩:∃d',we[k']?=some d':=⟨_,List.getElem?_eq_getElem (by rw[K.lwe];exact hlt)⟩
   obtain⟨ox,ho⟩:∃d',op[k']?=some d':=⟨_,List.getElem?_eq_getElem (by rw[K.lop];exact hlt)⟩
   have bd:=hde dx (List.mem_of_getElem? hd)
   have bw:=hwe wx (List.mem_of_getElem? hw)
   have lv:levelR r.1≤1:=by unfold levelR;split <;> decide
   have key:∀(d o:Int) (z1 z2 z3:Option V),d≤max 1 (dx+levelR r.1)→wpSs (C (n+5)) (f102.body.drop 9) [some (.loc L.i),some (kyV r),some (.int (-1)),some (.int d),some (.int (1+wx)),some (.int o),z1,z2,z3,none] σ (rtn Q):=fun d o z1 z2 z3 hm=>
    tail d (1+wx) o z1 z2 z3 (Int.le_trans hm (Int.max_le.mpr ⟨by decide,Int.le_trans (Int.add_le_add bd lv) (by decide)⟩)) (Int.le_trans (Int.add_le_add_left bw 1) (by decide)) ⟨(fun e=>by cases e),fun y hy=>by
      have:y=k':=by have:=(List.cons.inj hy).1;lia
      subst this;exact⟨dx,wx,hd,hw,hm,rfl⟩⟩
   refine⟨trivial,K.at_ rfl (sub_list K.depths (u K.lde) (getI hd V.int) (add_of (gt_of ?_)))⟩
   have fin:∀(P:PostS) (d:Int) (z1 z3:Option V),(∀(o:Int) (z1 z2 z3:Option V),P .nx [some (.loc L.i),some (kyV r),some (.int (-1)),some (.int d),some (.int (1+wx)),some (.int o),z1,z2,z3,none] σ) →
     wpSs (C (n+5)) [.aug 4 .add (.sub (.attr (.var 0) 3) (.var 7)),(.ifS (.ex (.cmp .eq (.sub (.attr (.var 0) 4) (.var 7)) (.lit (.int 1)))) [(.assign 5 (.lit (.int 1)))] [])] [some (.loc L.i),some (kyV r),some (.int (-1)),some (.int d),some (.int 1),some (.int o),z1,some (.int (k':Int)),z3,none] σ P:=fun P d z1 z3 hP=>by
    refine K.at_ rfl (sub_list K.weights (u K.lwe) (getI hw V.int) ?_)
    refine K.at_ rfl (sub_list K.opens (u K.lop) (getI ho V.int) (eq_of rfl ?_))
    cases(ox==1:Bool) with
    | true=>exact hP _ _ _ _
    | false=>exact hP _ _ _ _
   cases hb:decide (1 < dx+levelR r.1) with
   | true=>
    refine K.at_ rfl (sub_list K.depths (u K.lde) (getI hd V.int) (add_of ?_))
    exact fin _ (dx+levelR r.1) _ _ fun o z1 z2 z3=>⟨trivial,key _ _ _ _ _ (Int.le_max_right _ _)⟩
   | false=>exact fin _ 1 _ _ fun o z1 z2 z3=>⟨trivial,key _ _ _ _ _ (Int.le_max_left _ _)⟩
 refine K.at_ rfl ⟨isD_x K,loo_of hx (geF (by decide) (c_check_row K ok (ky_0 (eq_of rfl ?_))))⟩
 cases r.1==6 with
 | true=>exact mid 1
 | false=>
  refine ky_0 (eq_of rfl ?_)
  cases r.1==7 with
  | true=>exact mid 1
  | false=>exact mid 0
end
set_option maxRecDepth 20000
section
variable {n:Nat}{σ:Store}{L:KtL}{rows:List Ky}{de we op:List Int}{k:Nat}{r:Ky}{Q:Post}
structure PutOk (rows:List Ky) (de we:List Int) (r:Ky) (l:List Int):Prop where
 row:RowOk rows r l
 one:l.length≤1
 room:rows.length+1≤100000
 de:∀d∈de,d≤20
 we:∀w∈we,w≤4000
noncomputable def PutQ (L:KtL) (rows:List Ky) (de we op:List Int) (r:Ky) (l:List Int) (σ:Store) (Q:Post):Prop:=
 (∀k:Nat,rows[k]?=some r→Q (.int k) σ) ∧
 (r∉rows→∀σ' d w o,KtAt σ' L (rows++[r]) (de++[d]) (we++[w]) (op++[o])→Only L σ σ'→DW de we r l d w→Q (.int rows.length) σ')
theorem c_put (K:KtAt σ L rows de we op) (hn:rows.Nodup) {l:List Int}(ok:PutOk rows de we r l) (q:PutQ L rows de we op r l σ Q):C (n+6) 102 [.loc L.i,kyV r] σ Q:=by
 by_cases h:r∈rows
 ·obtain⟨k,hk⟩:=List.mem_iff_getElem?.mp h
  exact c_put_found K hn hk (q.1 k hk)
 ·exact c_put_new K h ok.row ok.one ok.room ok.de ok.we (q.2 h)
theorem c_class_put (K:KtAt σ L rows de we op) (hn:rows.Nodup) {tid:Int}{l:List Int}(ht:agets (cdTab 1) tid=none) (ok:PutOk rows de we (2,tid,some l) l) (q:PutQ L rows de we op (2,tid,some l) l σ Q):C (n+7) 7 [.loc L.i,.int tid,.tup (l.map .int)] σ Q:=by
 refine call_eq (m:=f7) rfl rfl ?_
 refine in_cd1 ht (K.me rfl ⟨lel rfl,?_⟩)
 exact c_put K hn ok q
theorem c_value_put (K:KtAt σ L rows de we op) (hn:rows.Nodup) {tid:Int}{l:List Int}(ht:agets (cdTab 1) tid=none) (ok:PutOk rows de we (3,tid,some l) l) (q:PutQ L rows de we op (3,tid,some l) l σ Q):C (n+7) 8 [.loc L.i,.int tid,.tup (l.map .int)] σ Q:=by
 refine call_eq (m:=f8) rfl rfl ?_
 refine in_cd1 ht (K.me rfl ⟨lel rfl,?_⟩)
 exact c_put K hn ok q
theorem c_array_put (K:KtAt σ L rows de we op) (hn:rows.Nodup) {x:Int}(ok:PutOk rows de we (4,x,none) [x]) (q:PutQ L rows de we op (4,x,none) [x] σ Q):C (n+7) 10 [.loc L.i,.int x] σ Q:=by
 refine call_eq (m:=f10) rfl rfl ?_
 refine K.me rfl ⟨lel rfl,?_⟩
 exact c_put K hn ok q
theorem c_var_put (K:KtAt σ L rows de we op) (hn:rows.Nodup) {x:Int}(ok:PutOk rows de we (6,x,none) []) (q:PutQ L rows de we op (6,x,none) [] σ Q):C (n+7) 11 [.loc L.i,.int x] σ Q:=by
 refine call_eq (m:=f11) rfl rfl ?_
 refine K.me rfl ⟨lel rfl,?_⟩
 exact c_put K hn ok q
theorem c_mvar_put (K:KtAt σ L rows de we op) (hn:rows.Nodup) {x:Int}(ok:PutOk rows de we (7,x,none) []) (q:PutQ L rows de we op (7,x,none) [] σ Q):C (n+7) 12 [.loc L.i,.int x] σ Q:=by
 refine call_eq (m:=f12) rfl rfl ?_
 refine K.me rfl ⟨lel rfl,?_⟩
 exact c_put K hn ok q
theorem c_boxed_put (K:KtAt σ L rows de we op) (hn:rows.Nodup) {x:Int}(ok:PutOk rows de we (8,x,none) [x]) (q:PutQ L rows de we op (8,x,none) [x] σ Q):C (n+7) 13 [.loc L.i,.int x] σ Q:=by
 refine call_eq (m:=f13) rfl rfl ?_
 refine K.me rfl ⟨lel rfl,?_⟩
 exact c_put K hn ok q
end
set_option maxRecDepth 20000
structure HoL where
 i:Nat
 d:Nat
 ba:Nat
 fa:Nat
 so:Nat
 va:Nat
 un:Nat
 bo:Nat
 gf:Nat
 ne:Nat
structure HoD where
 bases:List (Int×Int)
 ifaces:List (Int×List Int)
 sorts:List (Int×Int)
 variances:List (Int×List Int)
 unders:List (Int×Int)
 bounds:List (Int×List Int)
 gflags:List (Int×Int)
noncomputable def itup (l:List Int):V:=.tup (l.map .int)
noncomputable def dInt (l:List (Int×Int)):O:=.dI (l.map fun p=>(p.1,.int p.2))
noncomputable def dTup (l:List (Int×List Int)):O:=.dI (l.map fun p=>(p.1,itup p.2))
noncomputable def lget {α:Type}(l:List (Int×α)) (k:Int):Option α:=(l.find? fun p=>decide (p.1=k)).map (·.2)
theorem agets_map {α:Type}(l:List (Int×α)) (f:α→V) (k:Int):agets (l.map fun p=>(p.1,f p.2)) k=(lget l k).map f:=by
 unfold agets lget
 rw[List.find?_map,Option.map_map,Option.map_map]
 rfl
structure HoAt (σ:Store) (L:KtL) (H:HoL) (D:HoD):Prop where
 inst:σ[H.i]?=some (.inst 1 H.d)
 ns:σ[H.d]?=some (.ns [(5,.loc L.i),(6,.loc H.ba),(7,.loc H.fa),(8,.loc H.so),(9,.loc H.va),(10,.loc H.un),(11,.loc H.bo),(12,.loc H.gf),(13,.loc H.ne)])
 bases:σ[H.ba]?=some (dInt D.bases)
 ifaces:σ[H.fa]?=some (dTup D.ifaces)
 sorts:σ[H.so]?=some (dInt D.sorts)
 variances:σ[H.va]?=some (dTup D.variances)
 unders:σ[H.un]?=some (dInt D.unders)
 bounds:σ[H.bo]?=some (dTup D.bounds)
 gflags:σ[H.gf]?=some (dInt D.gflags)
noncomputable def Gw (σ σ':Store):Prop:=∀(i:Nat) o,σ[i]?=some o→σ'[i]?=some o
theorem Gw.refl (σ:Store):Gw σ σ:=fun Z Z e=>e
theorem Gw.trans {a b c:Store}(x:Gw a b) (y:Gw b c):Gw a c:=fun i o e=>y i o (x i o e)
theorem Gw.push (σ:Store) (o:O):Gw σ (σ++[o]):=fun i x e=>by rw[List.getElem?_append_left (get_lt e)];exact e
theorem HoAt.mono {σ σ':Store}{L:KtL}{H:HoL}{D:HoD}(x:HoAt σ L H D) (g:Gw σ σ'):HoAt σ' L H D:=
 ⟨g _ _ x.inst,g _ _ x.ns,g _ _ x.bases,g _ _ x.ifaces,g _ _ x.sorts,g _ _ x.variances,g _ _ x.unders,g _ _ x.bounds,g _ _ x.gflags⟩
theorem KtAt.mono {σ σ':Store}{L:KtL}{rows:List Ky}{de we op:List Int}(x:KtAt σ L rows de we op) (g:Gw σ σ'):KtAt σ' L rows de we op:=
 ⟨g _ _ x.inst,g _ _ x.ns,g _ _ x.rws,g _ _ x.index,g _ _ x.depths,g _ _ x.weights,g _ _ x.opens,x.small,x.nodup,x.lde,x.lwe,x.lop⟩
section
variable {n:Nat}{σ:Store}{L:KtL}{H:HoL}{D:HoD}{rows:List Ky}{de we op:List Int}{k:Nat}{r:Ky}{Q:Post}
theorem look_int {l:Nat}{d:List (Int×Int)}(h:σ[l]?=some (dInt d)) (k:Int):lookO σ (.loc l) (.int k)=some ((lget d k).map .int):=by
 unfold dInt at h
 rw[loo_dI h,agets_map d V.int]
theorem look_tup {l:Nat}{d:List (Int×List Int)}(h:σ[l]?=some (dTup d)) (k:Int):lookO σ (.loc l) (.int k)=some ((lget d k).map itup):=by
 unfold dTup at h
 rw[loo_dI h,agets_map d itup]
theorem seq_none {l:Nat}{d:List (Int×Int)}(h:σ[l]?=some (dInt d)):seqOf σ (.loc l)=none:=seq_no h rfl
theorem isD_int {l:Nat}{d:List (Int×Int)}(h:σ[l]?=some (dInt d)):isDict σ (.loc l)=true:=is_no h rfl
theorem isD_tup {l:Nat}{d:List (Int×List Int)}(h:σ[l]?=some (dTup d)):isDict σ (.loc l)=true:=is_no h rfl
noncomputable def psort (D:HoD) (k:Nat) (r:Ky):Int:=if varR r then 0 else match lget D.sorts (tidR k r) with
 | some s=>s
 | none=>if valR k r then (if (lget D.unders k).isSome then 5 else 2) else if tidR k r≠0 then 1 else 0
theorem HoAt.at_ (Ho:HoAt σ L H D) {f:Nat}{v:V}(h:agets [(5,V.loc L.i),(6,.loc H.ba),(7,.loc H.fa),(8,.loc H.so),(9,.loc H.va),(10,.loc H.un),(11,.loc H.bo),(12,.loc H.gf),(13,.loc H.ne)] f=some v) (q:Q v σ):attrR (.loc H.i) f σ Q:=at_of Ho.inst Ho.ns h q
theorem HoAt.me (Ho:HoAt σ L H D) {m f:Nat}{P:Nat→Prop}(h:methFn 1 m=some f) (q:P f):methR (.loc H.i) m σ P:=me_of Ho.inst Ho.ns h q
theorem c_plain_sort (K:KtAt σ L rows de we op) (Ho:HoAt σ L H D) (hk:rows[k]?=some r) (q:Q (.int (psort D k r)) σ):C (n+3) 34 [.loc H.i,.int k] σ Q:=by
 refine call_eq (m:=f34) rfl rfl ?_
 have l1:=look_int Ho.sorts (tidR k r)
 have l2:=look_int Ho.unders k
 unfold psort at q
 refine Ho.at_ rfl (c_is_var K hk ?_)
 cases hv:varR r with
 | true=>rw[hv]at q;exact q
 | false=>
  rw[hv,if_neg (by decide)]at q
  refine Ho.at_ rfl (c_tid_of K hk (Ho.at_ rfl (in_look l1 ?_)))
  cases hs:lget D.sorts (tidR k r) with
  | some s0=>
   rw[hs]at q l1
   exact Ho.at_ rfl (sub_look l1 (seq_none Ho.sorts) q)
  | none=>
   rw[hs]at q
   refine Ho.at_ rfl (c_is_value K hk ?_)
   cases hval:valR k r with
   | true=>
    rw[hval]at q
    refine Ho.at_ rfl (in_look l2 ?_)
    cases hu:lget D.unders k with
    | some u=>rw[hu]at q;exact q
    | none=>rw[hu]at q;exact q
   | false=>
    rw[hval,if_neg (by decide)]at q
    by_cases ht:tidR k r=0
    ·rw[if_neg (fun h=>h ht)]at q;exact truF ht q
    ·rw[if_pos ht]at q;exact truT ht q
theorem c_sort (K:KtAt σ L rows de we op) (Ho:HoAt σ L H D) (hk:rows[k]?=some r) (q:Q (.int (psort D k r)) σ):C (n+4) 106 [.loc H.i,.int k] σ Q:=by
 refine call_eq (m:=f106) rfl rfl ?_
 exact c_plain_sort K Ho hk q
theorem c_variance (Ho:HoAt σ L H D) {t:Int}(q:Q (itup ((lget D.variances t).getD [])) σ):C (n+1) 107 [.loc H.i,.int t] σ Q:=by
 refine call_eq (m:=f107) rfl rfl ?_
 refine Ho.at_ rfl ⟨isD_tup Ho.variances,Nat.zero_le _,loo_of (look_tup Ho.variances t) ?_⟩
 cases h:lget D.variances t with
 | some l=>rw[h]at q;exact q
 | none=>rw[h]at q;exact q
theorem c_under (Ho:HoAt σ L H D) {t:Int}(q:Q (.int ((lget D.unders t).getD t)) σ):C (n+1) 108 [.loc H.i,.int t] σ Q:=by
 refine call_eq (m:=f108) rfl rfl ?_
 refine Ho.at_ rfl ⟨isD_int Ho.unders,loo_of (look_int Ho.unders t) ?_⟩
 cases h:lget D.unders t with
 | some l=>rw[h]at q;exact q
 | none=>rw[h]at q;exact q
noncomputable def ifaceR (D:HoD) (k:Nat) (r:Ky):Bool:=r.1==2&&psort D k r==3
theorem c_is_iface (K:KtAt σ L rows de we op) (Ho:HoAt σ L H D) (hk:rows[k]?=some r) (q:Q (.bool (ifaceR D k r)) σ):C (n+5) 26 [.loc H.i,.int k] σ Q:=by
 refine call_eq (m:=f26) rfl rfl ?_
 refine Ho.at_ rfl (c_kind_sort K hk (eq_of rfl ?_))
 unfold ifaceR at q
 cases h:r.1==2 with
 | false=>rw[h]at q;exact q
 | true=>rw[h]at q;exact Ho.me rfl (c_sort K Ho hk (eq_of rfl q))
end
set_option maxRecDepth 20000
section
variable {n:Nat}{σ:Store}{L:KtL}{H:HoL}{D:HoD}{rows:List Ky}{de we op:List Int}{k:Nat}{r:Ky}{Q:Post}
structure Roots (rows:List Ky):Prop where
 nd:rows.Nodup
 r21:rows[21]?=some (2,2,some [])
 r22:rows[22]?=some (2,3,some [])
 r23:rows[23]?=some (2,5,some [])
noncomputable def pbase (D:HoD) (k:Nat) (r:Ky):Int:=match lget D.bases k with
 | some b=>b
 | none=>if k=12 then -1 else if k=13 then 12 else if r.1=4 then 23 else if valR k r then (if psort D k r=5 then 22 else 21) else if r.1≠2∨psort D k r=3 then -1 else if tidR k r=3 then 21 else 12
theorem c_plain_base (K:KtAt σ L rows de we op) (Ho:HoAt σ L H D) (R:Roots rows) (hk:rows[k]?=some r) (h4:psort D k r≠4) (q:Q (.int (pbase D k r)) σ):C (n+4) 33 [.loc H.i,.int k] σ Q:=by
 refine call_eq (m:=f33) rfl rfl ?_
 have l1:=look_int Ho.bases k
 unfold pbase at q
 refine Ho.at_ rfl (in_look l1 ?_)
 cases hb:lget D.bases k with
 | some b=>
  rw[hb]at q l1
  exact Ho.at_ rfl (sub_look l1 (seq_none Ho.bases) q)
 | none=>
  rw[hb]at q
  refine Ho.at_ rfl (c_kind_sort K hk ?_)
  by_cases h12:k=12
  ·subst h12;exact eq_of rfl q
  by_cases h13:k=13
  ·subst h13;exact eq_of rfl (eq_of rfl q)
  rw[if_neg h12,if_neg h13]at q
  refine eqF (nat_ne h12) (eqF (nat_ne h13) ?_)
  by_cases ha:r.1=4
  ·rw[if_pos ha]at q
   exact eqT ha ⟨Nat.zero_le _,c_class_kind (l:=[]) K R.nd rfl R.r23 q⟩
  rw[if_neg ha]at q
  refine eqF ha (c_is_value K hk ?_)
  cases hv:valR k r with
  | true=>
   rw[hv,if_pos rfl]at q
   refine c_plain_sort K Ho hk ?_
   by_cases h5:psort D k r=5
   ·rw[if_pos h5]at q
    exact eqT h5 ⟨Nat.zero_le _,c_class_kind (l:=[]) K R.nd rfl R.r22 q⟩
   ·rw[if_neg h5]at q
    exact eqF h5 ⟨Nat.zero_le _,c_class_kind (l:=[]) K R.nd rfl R.r21 q⟩
  | false=>
   rw[hv,if_neg (by decide)]at q
   by_cases h2:r.1=2
   ·refine neF h2 (c_plain_sort K Ho hk ?_)
    by_cases h3:psort D k r=3
    ·rw[if_pos (.inr h3)]at q
     exact eqT h3 q
    ·rw[if_neg (fun z=>z.elim (fun z=>z h2) h3)]at q
     refine eqF h3 (c_tid_of K hk ?_)
     by_cases ht:tidR k r=3
     ·rw[if_pos ht]at q
      exact eqT ht ⟨Nat.zero_le _,c_class_kind (l:=[]) K R.nd rfl R.r21 q⟩
     ·rw[if_neg ht]at q
      exact eqF ht (c_plain_sort K Ho hk (eqF h4 q))
   ·rw[if_pos (.inl h2)]at q
    exact neT h2 q
end
set_option maxRecDepth 20000
section
variable {n:Nat}{σ:Store}{L:KtL}{H:HoL}{D:HoD}{rows:List Ky}{de we op:List Int}{k:Nat}{r:Ky}{Q:Post}
theorem c_base_plain (K:KtAt σ L rows de we op) (Ho:HoAt σ L H D) (R:Roots rows) (hk:rows[k]?=some r) (h4:psort D k r≠4) (hv:varR r=false) (h8:r.1≠8) (q:Q (.int (pbase D k r)) σ):C (n+5) 104 [.loc H.i,.int k] σ Q:=by
 refine call_eq (m:=f104) rfl rfl ?_
 refine Ho.at_ rfl (c_is_var K hk ?_)
 rw[hv]
 exact Ho.at_ rfl (c_kind_sort K hk (eqF h8 (c_plain_base K Ho R hk h4 q)))
theorem c_base_boxed (K:KtAt σ L rows de we op) (Ho:HoAt σ L H D) (R:Roots rows) {x:Nat}{rx:Ky}(hk:rows[k]?=some (8,(x:Int),none)) (hx:rows[x]?=some rx) (h4:psort D x rx≠4) (hv:varR rx=false) (h8:rx.1≠8) (q:Q (.int (pbase D x rx)) σ) :
  C (n+7) 104 [.loc H.i,.int k] σ Q:=by
 refine call_eq (m:=f104) rfl rfl ?_
 refine Ho.at_ rfl (c_is_var K hk (Ho.at_ rfl (c_kind_sort K hk (eq_of rfl ?_))))
 refine call_eq (m:=f35) rfl rfl ?_
 refine Ho.at_ rfl (c_kind_sort K hk (eq_of rfl (Ho.me rfl (c_elem_of K hk ?_))))
 exact c_base_plain K Ho R hx h4 hv h8 q
noncomputable def pif (D:HoD) (k:Nat):List Int:=(lget D.ifaces k).getD []
theorem c_ifaces_plain (K:KtAt σ L rows de we op) (Ho:HoAt σ L H D) (hk:rows[k]?=some r) (hv:varR r=false) (h8:r.1≠8) (q:Q (itup (pif D k)) σ):C (n+3) 105 [.loc H.i,.int k] σ Q:=by
 refine call_eq (m:=f105) rfl rfl ?_
 refine Ho.at_ rfl (c_is_var K hk ?_)
 rw[hv]
 refine Ho.at_ rfl (c_kind_sort K hk (eqF h8 (Ho.at_ rfl ⟨isD_tup Ho.ifaces,Nat.zero_le _,loo_of (look_tup Ho.ifaces k) ?_⟩)))
 unfold pif at q
 cases h:lget D.ifaces k with
 | some l=>rw[h]at q;exact q
 | none=>rw[h]at q;exact q
theorem c_ifaces_boxed (K:KtAt σ L rows de we op) (Ho:HoAt σ L H D) {x:Nat}{rx:Ky}(hk:rows[k]?=some (8,(x:Int),none)) (hx:rows[x]?=some rx) (hv:varR rx=false) (h8:rx.1≠8) (q:Q (itup (pif D x)) σ) :
  C (n+5) 105 [.loc H.i,.int k] σ Q:=by
 refine call_eq (m:=f105) rfl rfl ?_
 refine Ho.at_ rfl (c_is_var K hk (Ho.at_ rfl (c_kind_sort K hk (eq_of rfl ?_))))
 refine call_eq (m:=f36) rfl rfl ?_
 refine Ho.at_ rfl (c_kind_sort K hk (eq_of rfl (Ho.me rfl (c_elem_of K hk ?_))))
 exact c_ifaces_plain K Ho hx hv h8 q
end
set_option maxRecDepth 20000
section
variable {n:Nat}{σ:Store}{H:HoL}{k:Nat}{r:Ky}{Q:Post}
theorem new0 (σ:Store) (a b:O):(σ++[a,b])[σ.length]?=some a:=by simp
theorem new1 (σ:Store) (a b:O):(σ++[a,b])[σ.length+1]?=some b:=by simp
theorem set0 (σ:Store) (a b c:O):(σ++[a,b]).set σ.length c=σ++[c,b]:=by simp
theorem set1 (σ:Store) (a b c:O):(σ++[a,b]).set (σ.length+1) c=σ++[a,c]:=by simp
theorem Gw.app (σ t:Store):Gw σ (σ++t):=fun i x e=>by rw[List.getElem?_append_left (get_lt e)];exact e
inductive Chain (bs:Nat→Int):List Nat→Prop
 | last {x:Nat}:bs x = -1→Chain bs [x]
 | step {x y:Nat} {r:List Nat}:bs x=(y:Int)→Chain bs (y :: r)→Chain bs (x :: y :: r)
noncomputable def nat1 (l:List Nat):List (Int×V):=l.map fun x:Nat=>((x:Int),V.int 1)
theorem nat1_get {l:List Nat}{x:Nat}:agets (nat1 l) (x:Int)=if x∈l then some (.int 1) else none:=by
 induction l with
 | nil=>rfl
 | cons a l ih=>
  unfold nat1 agets at ih ⊢
  rw[List.map_cons,List.find?_cons]
  by_cases h:a=x
  ·subst h;simp
  ·have:¬(a:Int)=x:=by lia
   have h':¬x=a:=fun e=>h e.symm
   simp only[this,decide_false,List.mem_cons,h',false_or]
   exact ih
theorem nat1_put {l:List Nat}{x:Nat}(h:x∉l):asets (nat1 l) (x:Int) (.int 1)=nat1 (l++[x]):=by
 unfold asets
 have:(nat1 l).any (fun p=>decide (p.1=(x:Int)))=false:=by
  rw[List.any_eq_false]
  intro p hp
  obtain⟨y,hy,rfl⟩:=List.mem_map.mp hp
  simp only[decide_eq_true_eq]
  intro e
  have:y=x:=by lia
  exact h (this▸hy)
 rw[this,if_neg (by simp)]
 simp[nat1]
noncomputable def natL (l:List Nat):List V:=l.map fun x:Nat=>V.int (x:Int)
theorem nat1_len {l:List Nat}:(nat1 l).length=l.length:=List.length_map _
theorem nl_len {l:List Nat}:(natL l).length=l.length:=List.length_map _
theorem nl_snoc {l:List Nat}{x:Nat}:natL l++[V.int (x:Int)]=natL (l++[x]):=by simp[natL]
theorem c_base_chain {m:Nat}{bs:Nat→Int}{ch:List Nat}(hc:Chain bs ch) (hn:ch.Nodup) (hz:ch.length≤1000) (h0:ch.head?=some k)
  (base:∀x∈ch,∀σ' (Q:Post),Gw σ σ'→Q (.int (bs x)) σ'→C m 104 [.loc H.i,.int x] σ' Q) (i1:σ[H.i]?=some (.inst 1 H.d)) (i2:∃fs,σ[H.d]?=some (.ns fs))
  (q:Q (.loc σ.length) (σ++[.list (natL ch),.dI (nat1 ch)])):C (m+1) 27 [.loc H.i,.int k] σ Q:=by
 refine call_eq (m:=f27) rfl rfl ?_
 obtain⟨fs,i2⟩:=i2
 refine⟨Nat.zero_le _,dI_of (Nat.zero_le _) rfl List.nodup_nil ?_⟩
 rw[List.append_assoc]
 refine⟨fun n ρ σ'=>∃done rest:List Nat,done++rest=ch∧n=rest.length∧ρ=[some (V.loc H.i),some (V.int (match rest with | []=>-1 | x :: _=>(x:Int))),some (V.loc σ.length),some (V.loc (σ.length+1)),none]∧σ'=σ++[O.list (natL done),O.dI (nat1 done)] ∧
   (rest≠[]→Chain bs rest),⟨ch.length,[],ch,rfl,rfl,?_,rfl,fun Z=>hc⟩,?_⟩
 ·cases ch with
  | nil=>cases h0
  | cons a l=>
   obtain rfl:a=k:=Option.some.inj h0
   rw[List.length_append];rfl
 ·rintro n ρ σ' ⟨done,rest,hd,rfl,rfl,rfl,hch⟩
  cases rest with
  | nil=>
   obtain rfl:done=ch:=by rw[List.append_nil]at hd;exact hd
   exact ne_of rfl q
  | cons x rest=>
   have hx:x∈ch:=by rw[←hd];exact List.mem_append_right _ (.head _)
   have hnx:x∉done:=by
    rw[←hd,List.nodup_append]at hn
    exact fun h=>hn.2.2 x h x (.head _) rfl
   have hlen:done.length≤line:=by
    refine Nat.le_trans ?_ (Nat.le_trans hz (by decide))
    rw[←hd,List.length_append];exact Nat.le_add_right _ _
   have e1:=new1 σ (.list (natL done)) (.dI (nat1 done))
   have lk:lookO (σ++[.list (natL done),.dI (nat1 done)]) (.loc (σ.length+1)) (.int x)=some none:=by
    rw[loo_dI e1,nat1_get,if_neg hnx]
   refine neT (by show ¬(x:Int) = -1;lia) (nin_look lk ?_)
   refine siI_of e1 (by rw[nat1_len];exact hlen) ?_
   rw[nat1_put hnx,set1]
   have f0:=new0 σ (.list (natL done)) (.dI (nat1 (done++[x])))
   refine⟨lat_of f0,app_of f0 (by rw[nl_len];exact hlen) ?_⟩
   rw[set0,nl_snoc]
   have g:=Gw.app σ [.list (natL (done++[x])),.dI (nat1 (done++[x]))]
   refine me_of (g _ _ i1) (g _ _ i2) rfl ?_
   refine base x hx _ _ g ⟨rest.length,Nat.lt_succ_self _,done++[x],rest,by rw[List.append_assoc];exact hd,rfl,?_,rfl,?_⟩
   ·cases hch (List.cons_ne_nil _ _) with
    | last h=>rw[h];rfl
    | step h _=>rw[h];rfl
   ·intro hne
    cases hch (List.cons_ne_nil _ _) with
    | last h=>exact absurd rfl hne
    | step _ h=>exact h
end
set_option maxRecDepth 20000
inductive Rch (succ:Nat→List Nat) (ban:Nat→Prop) (S:Nat→Prop):Nat→Prop
 | start {x:Nat}:S x→Rch succ ban S x
 | step {x y:Nat}:Rch succ ban S x→¬ban x→y∈succ x→Rch succ ban S y
theorem nodup_le (N:Nat):∀(l:List Nat),l.Nodup→(∀x∈l,x < N)→l.length≤N:=by
 induction N with
 | zero=>
  intro l _ h
  match l,h with
  | [],_=>exact Nat.le_refl _
  | a :: l,h=>exact absurd (h a (.head _)) (Nat.not_lt_zero _)
 | succ N ih=>
  intro l hn h
  by_cases hm:N∈l
  ·have h1:=ih (l.erase N) (hn.erase _) fun x hx=>Nat.lt_of_le_of_ne (Nat.le_of_lt_succ (h x (List.mem_of_mem_erase hx))) fun e=>(List.Nodup.not_mem_erase hn) (e▸hx)
   rw[List.length_erase_of_mem hm]at h1
   exact Nat.sub_le_iff_le_add.mp h1
  ·exact Nat.le_succ_of_le (ih l hn fun x hx=>Nat.lt_of_le_of_ne (Nat.le_of_lt_succ (h x hx)) fun e=>hm (e▸hx))
structure Dfs (succ:Nat→List Nat) (ban:Nat→Prop) (S:Nat→Prop) (seen todo:List Nat):Prop where
 sound:∀x∈seen,Rch succ ban S x
 todos:∀x∈todo,Rch succ ban S x
 closed:∀x∈seen,∀y∈succ x,y∈seen∨ban y∨y∈todo
 start:∀x,S x→x∈seen∨ban x∨x∈todo
 nodup:seen.Nodup
 free:∀x∈seen,¬ban x
section
variable {succ:Nat→List Nat}{ban:Nat→Prop}{S:Nat→Prop}{seen t:List Nat}{x:Nat}
theorem Dfs.skip (d:Dfs succ ban S seen (t++[x])) (h:x∈seen∨ban x):Dfs succ ban S seen t:=by
 refine⟨d.sound,fun y hy=>d.todos y (List.mem_append_left _ hy),fun y hy z hz=>?_,fun y hy=>?_,d.nodup,d.free⟩
 ·rcases d.closed y hy z hz with h1 | h1 | h1
  ·exact .inl h1
  ·exact .inr (.inl h1)
  ·rcases List.mem_append.mp h1 with h1 | h1
   ·exact .inr (.inr h1)
   ·rw[List.mem_singleton.mp h1];exact h.elim .inl fun z=>.inr (.inl z)
 ·rcases d.start y hy with h1 | h1 | h1
  ·exact .inl h1
  ·exact .inr (.inl h1)
  ·rcases List.mem_append.mp h1 with h1 | h1
   ·exact .inr (.inr h1)
   ·rw[List.mem_singleton.mp h1];exact h.elim .inl fun z=>.inr (.inl z)
theorem Dfs.take (d:Dfs succ ban S seen (t++[x])) (h1:x∉seen) (h2:¬ban x) {l:List Nat}(hl:∀y,y∈l↔y∈succ x):Dfs succ ban S (seen++[x]) (t++l):=by
 have rx:=d.todos x (by simp)
 refine⟨fun y hy=>?_,fun y hy=>?_,fun y hy z hz=>?_,fun y hy=>?_,?_,fun y hy=>?_⟩
 ·rcases List.mem_append.mp hy with hy | hy
  ·exact d.sound y hy
  ·rw[List.mem_singleton.mp hy];exact rx
 ·rcases List.mem_append.mp hy with hy | hy
  ·exact d.todos y (List.mem_append_left _ hy)
  ·exact .step rx h2 ((hl y).mp hy)
 ·rcases List.mem_append.mp hy with hy | hy
  ·rcases d.closed y hy z hz with h | h | h
   ·exact .inl (List.mem_append_left _ h)
   ·exact .inr (.inl h)
   ·rcases List.mem_append.mp h with h | h
    ·exact .inr (.inr (List.mem_append_left _ h))
    ·exact .inl (List.mem_append_right _ h)
  ·rw[List.mem_singleton.mp hy]at hz
   exact .inr (.inr (List.mem_append_right _ ((hl z).mpr hz)))
 ·rcases d.start y hy with h | h | h
  ·exact .inl (List.mem_append_left _ h)
  ·exact .inr (.inl h)
  ·rcases List.mem_append.mp h with h | h
   ·exact .inr (.inr (List.mem_append_left _ h))
   ·exact .inl (List.mem_append_right _ h)
 ·rw[List.nodup_append]
  refine⟨d.nodup,by simp,fun a ha b hb=>?_⟩
  rw[List.mem_singleton.mp hb]
  rintro rfl;exact h1 ha
 ·rcases List.mem_append.mp hy with hy | hy
  ·exact d.free y hy
  ·rw[List.mem_singleton.mp hy];exact h2
theorem Dfs.done (d:Dfs succ ban S seen []) (y:Nat):y∈seen↔Rch succ ban S y∧¬ban y:=by
 have key:Rch succ ban S y→¬ban y→y∈seen:=by
  intro h
  induction h with
  | start hs=>intro hb;rcases d.start _ hs with h | h | h;exact h;exact absurd h hb;cases h
  | step hx hbx hy ih=>intro hb;rcases d.closed _ (ih hbx) _ hy with h | h | h;exact h;exact absurd h hb;cases h
 exact⟨fun h=>⟨d.sound y h,d.free y h⟩,fun zz=>by obtain⟨h,hb⟩:=zz;exact key h hb⟩
end
set_option maxRecDepth 20000
section
variable {n:Nat}{σ:Store}{L:KtL}{k:Nat}{Q:Post}
theorem q0 (σ j:Store) (a b c d:O):(σ++(a :: b :: c :: d :: j))[σ.length]?=some a:=by simp
theorem q1 (σ j:Store) (a b c d:O):(σ++(a :: b :: c :: d :: j))[σ.length+1]?=some b:=by simp
theorem q3 (σ j:Store) (a b c d:O):(σ++(a :: b :: c :: d :: j))[σ.length+3]?=some d:=by simp
theorem s0 (σ j:Store) (a b c d x:O):(σ++(a :: b :: c :: d :: j)).set σ.length x=σ++(x :: b :: c :: d :: j):=by simp
theorem s1 (σ j:Store) (a b c d x:O):(σ++(a :: b :: c :: d :: j)).set (σ.length+1) x=σ++(a :: x :: c :: d :: j):=by simp
theorem s3 (σ j:Store) (a b c d x:O):(σ++(a :: b :: c :: d :: j)).set (σ.length+3) x=σ++(a :: b :: c :: x :: j):=by simp
theorem push_step {n:Nat}{ρ:Rho}{i j:Nat}{a:Nat}{y:V}{hv:List V}{K:PostS}(h1:ρ[i]?=some (some (.loc a))) (h2:ρ[j]?=some (some y)) (h4:σ[a]?=some (.list hv)) (u:hv.length≤line) (q:K .nx ρ (σ.set a (.list (hv++[y])))) :
  wpSs (C n) [.expr (.append (.var i) (.var j))] ρ σ K:=by
 refine va_of (Φ:=C n) h1 ⟨lat_of h4,va_of (Φ:=C n) h2 (app_of h4 u q)⟩
theorem siI_g {u:V}{K:Store→Prop}{kvs kvs':List (Int×V)}{i:Int}{l:Nat}(h1:σ[l]?=some (.dI kvs)) (h3:kvs.length≤line) (ha:asets kvs i u=kvs') (q:∀σ',σ.set l (.dI kvs')=σ'→K σ'):setitemR (.loc l) (.int i) u σ K:=siI_of h1 h3 (by rw[ha];exact q _ rfl)
theorem add_eq {a b c:Int}(h:a+b=c) (q:Q (.int c) σ):bopR .add (.int a) (.int b) σ Q:=add_of (h▸q)
theorem rho_at {ρ' L:Rho}{k:Nat}(r1:∀i,i≠k→ρ'[i]?=L[i]?) (r2:ρ'.length=L.length):ρ'=L.set k (ρ'[k]?.getD none):=by
 apply List.ext_getElem?
 intro i
 rw[List.getElem?_set]
 by_cases h:k=i
 ·rw[if_pos h,←h]
  by_cases h2:k < L.length
  ·rw[if_pos h2,List.getElem?_eq_getElem (r2▸h2)];rfl
  ·rw[if_neg h2,List.getElem?_eq_none_iff];rw[r2];exact Nat.le_of_not_lt h2
 ·rw[if_neg h];exact r1 i (Ne.symm h)
theorem push_all {n:Nat}{i j:Nat}{l a:Nat}{items:List V}{Q:PostS}(hij:i≠j) (hne:l≠a) :
  ∀(rest:List V) (σ:Store) (ρ:Rho) (have_:List V),ρ[i]?=some (some (.loc a))→j < ρ.length→σ[l]?=some (.list items)→σ[a]?=some (.list have_)→have_.length+rest.length≤100000 →
   (∀ρ',(∀m,m≠j→ρ'[m]?=ρ[m]?)→ρ'.length=ρ.length→Q .nx ρ' (σ.set a (.list (have_++rest)))) →
   forItems (fun σ'=>σ'[l]?=some (.list items)) (fun y ρ σ' K=>wpSs (C n) [.expr (.append (.var i) (.var j))] (ρ.set j (some y)) σ' K) rest ρ σ Q:=by
 intro rest
 induction rest with
 | nil=>
  intro σ ρ hv h1 h2 h3 h4 h5 hq
  have:=hq ρ (fun Z Z=>rfl) rfl
  rw[List.append_nil,set_same h4]at this
  exact⟨h3,this⟩
 | cons y rest ih=>
  intro σ ρ hv h1 h2 h3 h4 h5 hq
  refine⟨h3,?_⟩
  have g1:(ρ.set j (some y))[i]?=some (some (.loc a)):=by rw[List.getElem?_set_ne (Ne.symm hij)];exact h1
  have g2:(ρ.set j (some y))[j]?=some (some y):=by rw[List.getElem?_set_self h2]
  rw[List.length_cons]at h5
  have u:hv.length≤line:=Nat.le_trans (Nat.le_add_right ..) (Nat.le_trans h5 (by decide))
  refine push_step (n:=n) g1 g2 h4 u ?_
  refine ih (σ.set a (.list (hv++[y]))) (ρ.set j (some y)) (hv++[y]) g1 (by simpa using h2) (by rw[List.getElem?_set_ne (Ne.symm hne)];exact h3) (by rw[List.getElem?_set_self (get_lt h4)]) (by rw[List.length_append,List.length_singleton,Nat.add_assoc,Nat.add_comm 1];exact h5) fun ρ' hρ' hl'=>?_
  rw[List.set_set,List.append_assoc]
  exact hq ρ' (fun m hm=>by rw[hρ' m hm,List.getElem?_set_ne (Ne.symm hm)]) (by rw[hl'];simp)
end
set_option maxRecDepth 20000
noncomputable def isVar (k:Nat):Bool:=decide (26≤k)&&decide (k≤29)
noncomputable def isFace (k:Nat):Bool:=decide (30≤k)&&decide (k≤38)&&k % 2==0
noncomputable def isArr (k:Nat):Bool:=decide (31≤k)&&decide (k≤39)&&k % 2==1
noncomputable def isIf (k:Nat):Bool:=k==19 || k==20 || isFace k
noncomputable def isRef (k:Nat):Bool:=k==12 || k==13 || (decide (16≤k)&&decide (k≤23)) || (decide (30≤k)&&decide (k≤39))
noncomputable def isVal (k:Nat):Bool:=(decide (1≤k)&&decide (k≤11)) || k==24 || k==25 || decide (40≤k)
noncomputable def isOpt (k:Nat):Bool:=decide (40≤k)
noncomputable def isCls (k:Nat):Bool:=k==16 || k==17 || k==18
structure Wm where
 h0:Nat
 h1:Nat
 way:Nat
 r0:Nat
 r1:Nat
 r2:Nat
 r3:Nat
 r4:Nat
 r5:Nat
 r6:Nat
 r7:Nat
 un:Nat
 ro:Nat
 bd:Nat→List Nat×Nat
noncomputable def sev (i:Nat):Nat:=[12,16,17,18,19,24,7].getD (i % 7) 0
noncomputable def hl (m:Wm):List Nat:=[26+m.h0 % 4,26+(m.h0+1) % 4,sev (m.h1+1),sev (m.h1+2),sev (m.h1+4)]
noncomputable def el (m:Wm) (k:Nat):Nat:=(hl m).getD ((k - 30) / 2) 0
noncomputable def bnd (d:Nat) (before:List Nat):List Nat×Nat:=
 let one:=[17,18,16].getD (d / 12 % 3) 0
 let face:=[19,30,20,34].getD (d / 36 % 4) 0
 let value:=[24,25,7].getD (d / 12 % 3) 0
 [([],0),([],1),([],2),([one],0),([face],0),(before,0),(face :: before,0),([value],0),([face],2),([one,face],0),([face],1),([22],0)].getD (d % 12) ([],0)
noncomputable def bounds (m:Wm) (p:Nat):List Nat:=(m.bd (p - 26)).1
noncomputable def flag (m:Wm) (p:Nat):Nat:=(m.bd (p - 26)).2
structure WOk (m:Wm):Prop where
 r5:m.r5 < 3
 way:m.way < 3
 un:m.un < 11
 ro:m.ro < 10
 h0:m.h0 < 4
 h1:m.h1 < 7
 bd:∀i < 4,∃d before,m.bd i=bnd d before∧(before=[]∨∃j < i,before=[26+j]∧(m.bd j).2≠2)
noncomputable def over (m:Wm) (k:Nat):List Nat:=
 if isVar k then bounds m k++12 :: (if flag m k=2 then [21] else [])
 else if isFace k then [12] else if isArr k then [23] else
 match k with
 | 7=>21 :: (if m.r7=0 then [19] else [])
 | 1 | 2 | 3 | 4 | 5 | 6 | 8 | 9 | 10=>[21]
 | 13 | 19 | 21 | 23=>[12]
 | 16=>12 :: (if m.r1=0 then [19] else [])
 | 17=>(if m.r2=0 then 16 else 12) :: (if m.r3=0 then [20] else [])
 | 18=>[if m.r4=0 then 17 else if m.r4=1 then 16 else 12,34+2 * m.r5]
 | 20=>12 :: (if m.r0=0 then [19] else [])
 | 22=>[21]
 | 24=>[21,if m.r6=0 then 20 else if m.r6=1 then 19 else 38]
 | 25=>[22]
 | _=>[]
noncomputable def nvL:List Nat:=[1,2,3,4,5,6,7,8,9,10,12,13,16,17,18,19,20,21,22,23,24,25,30,31,32,33,34,35,36,37,38,39]
theorem nv_ref:∀{k:Nat},isRef k=true→k∈nvL:=by
 intro k h
 have hk:k < 40:=by
  simp only[isRef,Bool.or_eq_true,Bool.and_eq_true,decide_eq_true_eq,beq_iff_eq]at h
  exact h.elim (fun h=>h.elim (fun h=>h.elim (fun h=>h▸by decide) fun h=>h▸by decide) fun h=>Nat.lt_of_le_of_lt h.2 (by decide)) fun h=>Nat.lt_succ_of_le h.2
 have:∀k < 40,isRef k=true→k∈nvL:=by decide
 exact this k hk h
theorem nv_all {P:Nat→Prop}(h:P 1∧P 2∧P 3∧P 4∧P 5∧P 6∧P 7∧P 8∧P 9∧P 10∧P 12∧P 13∧P 16∧P 17∧P 18∧P 19∧P 20∧P 21∧P 22∧P 23∧P 24∧P 25∧P 30∧P 31∧P 32∧P 33∧P 34∧P 35∧P 36∧P 37∧P 38∧P 39):∀{k:Nat},k∈nvL→P k:=by
 have:∀k∈nvL,P k:=by
  simp only[nvL,List.forall_mem_cons,List.not_mem_nil,false_implies,implies_true,and_true]
  exact h
 exact fun{k} hk=>this k hk
theorem var_at (x:Nat):isVar (26+x % 4)=true:=(by decide:∀i,i < 4→isVar (26+i)=true) _ (Nat.mod_lt _ (by decide))
theorem hl_cases (m:Wm):∀x∈hl m,isVar x=true∨x=12∨x=16∨x=17∨x=18∨x=19∨x=24∨x=7:=by
 have s:∀i < 7,isVar ([12,16,17,18,19,24,7].getD i 0)=true∨[12,16,17,18,19,24,7].getD i 0=12∨[12,16,17,18,19,24,7].getD i 0=16∨[12,16,17,18,19,24,7].getD i 0=17∨[12,16,17,18,19,24,7].getD i 0=18∨[12,16,17,18,19,24,7].getD i 0=19∨[12,16,17,18,19,24,7].getD i 0=24∨[12,16,17,18,19,24,7].getD i 0=7:=by decide
 intro x hx
 simp only[hl,List.mem_cons,List.not_mem_nil,or_false]at hx
 rcases hx with rfl | rfl | rfl | rfl | rfl
 ·exact .inl (var_at _)
 ·exact .inl (var_at _)
 ·exact s _ (Nat.mod_lt _ (by decide))
 ·exact s _ (Nat.mod_lt _ (by decide))
 ·exact s _ (Nat.mod_lt _ (by decide))
theorem el_mem {m:Wm}{k:Nat}(h1:30≤k) (h2:k≤39):el m k∈hl m:=by
 have:(k - 30) / 2 < (hl m).length:=(Nat.div_lt_iff_lt_mul (by decide)).mpr (Nat.lt_of_le_of_lt (Nat.sub_le_sub_right h2 30) (by decide:39 - 30 < 5 * 2))
 unfold el
 rw[List.getD_eq_getElem?_getD,List.getElem?_eq_getElem this]
 exact List.getElem_mem this
noncomputable def hl5 (a b c d e:Nat):List Nat:=[26+a,26+b,[12,16,17,18,19,24,7].getD c 0,[12,16,17,18,19,24,7].getD d 0,[12,16,17,18,19,24,7].getD e 0]
theorem hl_nodup (m:Wm):(hl m).Nodup:=by
 have s:∀i < 7,∀j < 4,(hl5 j ((j+1) % 4) ((i+1) % 7) ((i+2) % 7) ((i+4) % 7)).Nodup:=by decide
 have a:=s (m.h1 % 7) (Nat.mod_lt _ (by decide)) (m.h0 % 4) (Nat.mod_lt _ (by decide))
 rw[Nat.mod_add_mod,Nat.mod_add_mod,Nat.mod_add_mod,Nat.mod_add_mod]at a
 exact a
theorem getD_inj {l:List Nat}{i j:Nat}(nd:l.Nodup) (h1:i < l.length) (h2:j < l.length) (e:l.getD i 0=l.getD j 0):i=j:=by
 refine(List.getElem?_inj h1 nd).mp ?_
 rw[List.getD_eq_getElem?_getD,List.getD_eq_getElem?_getD,List.getElem?_eq_getElem h1,List.getElem?_eq_getElem h2]at e
 rw[List.getElem?_eq_getElem h1,List.getElem?_eq_getElem h2]
 exact congrArg some e
noncomputable def Up (m:Wm) (k y:Nat):Prop:=Rch (over m) (fun Z=>False) (·=k) y
theorem Up.refl (m:Wm) (k:Nat):Up m k k:=.start rfl
theorem Up.tail {m:Wm}{k x y:Nat}(h:Up m k x) (e:y∈over m x):Up m k y:=.step h (fun h=>h) e
theorem Up.trans {m:Wm}{k x y:Nat}(h:Up m k x) (g:Up m x y):Up m k y:=by
 induction g with
 | start e=>rw[e];exact h
 | step _ _ e ih=>exact ih.tail e
theorem Up.head {m:Wm}{k x y:Nat}(e:x∈over m k) (g:Up m x y):Up m k y:=((Up.refl m k).tail e).trans g
theorem up_iff {m:Wm}{k y:Nat}:Up m k y↔y=k∨∃x∈over m k,Up m x y:=by
 constructor
 ·intro h
  induction h with
  | start e=>exact .inl e
  | step _ _ e ih=>
   rcases ih with rfl | ⟨z,hz,u⟩
   ·exact .inr ⟨_,e,.refl _ _⟩
   ·exact .inr ⟨z,hz,u.tail e⟩
 ·rintro(rfl | ⟨x,hx,u⟩)
  ·exact .refl _ _
  ·exact .head hx u
noncomputable def bs (m:Wm) (k:Nat):Option Nat:=if isIf k then none else (over m k).head?
noncomputable def ifs (m:Wm) (k:Nat):List Nat:=(over m k).filter isIf
noncomputable def bsI (m:Wm) (k:Nat):Int:=match bs m k with | some b=>(b:Int) | none=>-1
noncomputable def chL (m:Wm) (k:Nat):List Nat:=
 if isIf k then [k] else if isArr k then [k,23,12] else
 match k with
 | 12=>[12]
 | 13=>[13,12]
 | 16=>[16,12]
 | 17=>17 :: (if m.r2=0 then [16,12] else [12])
 | 18=>18 :: (if m.r4=0 then 17 :: (if m.r2=0 then [16,12] else [12]) else if m.r4=1 then [16,12] else [12])
 | 21=>[21,12]
 | 22=>[22,21,12]
 | 23=>[23,12]
 | 25=>[25,22,21,12]
 | k=>[k,21,12]
noncomputable def Ifc (m:Wm) (k y:Nat):Prop:=∃a∈chL m k,∃z∈ifs m a,y=z∨y∈ifs m z
theorem ovs (m:Wm):over m 1=[21]∧over m 2=[21]∧over m 3=[21]∧over m 4=[21]∧over m 5=[21]∧over m 6=[21]∧over m 7=21 :: (if m.r7=0 then [19] else [])∧over m 8=[21]∧over m 9=[21]∧over m 10=[21]∧over m 12=[]∧over m 13=[12]∧over m 16=12 :: (if m.r1=0 then [19] else [])∧over m 17=(if m.r2=0 then 16 else 12) :: (if m.r3=0 then [20] else [])∧over m 18=[if m.r4=0 then 17 else if m.r4=1 then 16 else 12,34+2 * m.r5]∧over m 19=[12]∧over m 20=12 :: (if m.r0=0 then [19] else [])∧over m 21=[12]∧over m 22=[21]∧over m 23=[12]∧over m 24=[21,if m.r6=0 then 20 else if m.r6=1 then 19 else 38]∧over m 25=[22]∧over m 30=[12]∧over m 31=[23]∧over m 32=[12]∧over m 33=[23]∧over m 34=[12]∧over m 35=[23]∧over m 36=[12]∧over m 37=[23]∧over m 38=[12]∧over m 39=[23]:=by and_intros <;> rfl
theorem bss (m:Wm):bs m 1=some 21∧bs m 2=some 21∧bs m 3=some 21∧bs m 4=some 21∧bs m 5=some 21∧bs m 6=some 21∧bs m 7=some 21∧bs m 8=some 21∧bs m 9=some 21∧bs m 10=some 21∧bs m 12=none∧bs m 13=some 12∧bs m 16=some 12∧bs m 17=some (if m.r2=0 then 16 else 12)∧bs m 18=some (if m.r4=0 then 17 else if m.r4=1 then 16 else 12)∧bs m 19=none∧bs m 20=none∧bs m 21=some 12∧bs m 22=some 21∧bs m 23=some 12∧bs m 24=some 21∧bs m 25=some 22∧bs m 30=none∧bs m 31=some 23∧bs m 32=none∧bs m 33=some 23∧bs m 34=none∧bs m 35=some 23∧bs m 36=none∧bs m 37=some 23∧bs m 38=none∧bs m 39=some 23:=by and_intros <;> rfl
theorem chs (m:Wm):chL m 1=[1,21,12]∧chL m 2=[2,21,12]∧chL m 3=[3,21,12]∧chL m 4=[4,21,12]∧chL m 5=[5,21,12]∧chL m 6=[6,21,12]∧chL m 7=[7,21,12]∧chL m 8=[8,21,12]∧chL m 9=[9,21,12]∧chL m 10=[10,21,12]∧chL m 12=[12]∧chL m 13=[13,12]∧chL m 16=[16,12]∧chL m 17=17 :: (if m.r2=0 then [16,12] else [12])∧chL m 18=18 :: (if m.r4=0 then 17 :: (if m.r2=0 then [16,12] else [12]) else if m.r4=1 then [16,12] else [12])∧chL m 19=[19]∧chL m 20=[20]∧chL m 21=[21,12]∧chL m 22=[22,21,12]∧chL m 23=[23,12]∧chL m 24=[24,21,12]∧chL m 25=[25,22,21,12]∧chL m 30=[30]∧chL m 31=[31,23,12]∧chL m 32=[32]∧chL m 33=[33,23,12]∧chL m 34=[34]∧chL m 35=[35,23,12]∧chL m 36=[36]∧chL m 37=[37,23,12]∧chL m 38=[38]∧chL m 39=[39,23,12]:=by and_intros <;> rfl
section
variable {m:Wm}{k y z:Nat}{l:List Nat}
noncomputable def cut (x:Nat):Nat:=if x=0 then 0 else if x=1 then 1 else 2
theorem cut_lt (x:Nat):cut x < 3:=by unfold cut;by_cases h:x=0 <;> by_cases h':x=1 <;> simp[h,h']
theorem cut0 (x:Nat):(cut x=0)=(x=0):=by unfold cut;by_cases h:x=0 <;> by_cases h':x=1 <;> simp[h,h']
theorem cut1 (x:Nat):(cut x=1)=(x=1):=by unfold cut;by_cases h:x=0 <;> by_cases h':x=1 <;> simp[h,h']
noncomputable def wa (a r2 r4 r5:Nat):Wm:=⟨0,0,0,a,a,r2,a,r4,r5,a,a,0,0,fun Z=>([],0)⟩
theorem ho (m:Wm) (h:k∈nvL):∃a,over m k=over (wa (cut a) (cut m.r2) (cut m.r4) m.r5) k:=by
 refine nv_all (P:=fun k=>∃a,over m k=over (wa (cut a) (cut m.r2) (cut m.r4) m.r5) k) ?_ h
 and_intros <;> first
  | exact⟨0,rfl⟩
  | (refine⟨m.r7,?_⟩;simp only[ovs,wa,cut0,cut1];done)
  | (refine⟨m.r1,?_⟩;simp only[ovs,wa,cut0,cut1];done)
  | (refine⟨m.r3,?_⟩;simp only[ovs,wa,cut0,cut1];done)
  | (refine⟨m.r0,?_⟩;simp only[ovs,wa,cut0,cut1];done)
  | (refine⟨m.r6,?_⟩;simp only[ovs,wa,cut0,cut1];done)
theorem hc (m:Wm) (h:k∈nvL):chL m k=chL (wa 0 (cut m.r2) (cut m.r4) 0) k:=by
 refine nv_all (P:=fun k=>chL m k=chL (wa 0 (cut m.r2) (cut m.r4) 0) k) ?_ h
 and_intros <;> first | rfl | simp only[chs,wa,cut0,cut1]
noncomputable abbrev fo (k:Nat) (l:List Nat):Prop:=
 (∀z∈l,(z∈nvL∧isRef z=true)∧(isIf z=true∨z=12∨(if isIf k then none else l.head?)=some z)∧isArr z=false∧(isCls k=false→isCls z=false)∧(isIf k=true→isIf z=true→z=19))∧l.length≤2
noncomputable abbrev fc (k:Nat) (l:List Nat):Prop:=l.head?=some k∧l.Nodup∧l.length≤10∧(∀z∈l,z∈nvL)∧∀z∈l.tail,isRef z=true∧z < 30
theorem fo_a:∀a < 3,nvL.all (fun k=>k==17 || k==18 || decide (fo k (over (wa a 0 0 0) k)))=true:=by decide +kernel
theorem fo_17:∀a < 3,∀b < 3,decide (fo 17 (over (wa a b 0 0) 17))=true:=by decide +kernel
theorem fo_18:∀c < 3,∀d < 3,decide (fo 18 (over (wa 0 0 c d) 18))=true:=by decide +kernel
theorem fo_o (a b c d:Nat) (h:k∈nvL):k≠17→k≠18→over (wa a b c d) k=over (wa a 0 0 0) k:=by
 refine nv_all (P:=fun k=>k≠17→k≠18→over (wa a b c d) k=over (wa a 0 0 0) k) ?_ h
 and_intros <;> first | exact fun Z Z=>rfl | exact fun h Z=>absurd rfl h | exact fun Z h=>absurd rfl h
theorem fc_all:∀b < 3,∀c < 3,nvL.all (fun k=>decide (fc k (chL (wa 0 b c 0) k)))=true:=by decide +kernel
theorem fo_ (ok:WOk m) (h:k∈nvL):fo k (over m k):=by
 obtain⟨a,e⟩:=ho m h
 rw[e]
 by_cases h1:k=17
 ·subst h1;exact of_decide_eq_true (fo_17 _ (cut_lt a) _ (cut_lt m.r2))
 by_cases h2:k=18
 ·subst h2;exact of_decide_eq_true (fo_18 _ (cut_lt m.r4) _ ok.r5)
 rw[fo_o _ _ _ _ h h1 h2]
 have g:=List.all_eq_true.mp (fo_a _ (cut_lt a)) k h
 rw[beq_eq_false_iff_ne.mpr h1,beq_eq_false_iff_ne.mpr h2]at g
 exact of_decide_eq_true g
theorem fc_ (h:k∈nvL):fc k (chL m k):=by
 rw[hc m h]
 exact of_decide_eq_true (List.all_eq_true.mp (fc_all _ (cut_lt _) _ (cut_lt _)) k h)
theorem over_nv (ok:WOk m) (h:k∈nvL):∀z∈over m k,z∈nvL∧isRef z=true:=fun z hz=>((fo_ ok h).1 z hz).1
theorem over_lp (ok:WOk m) (h:k∈nvL):∀z∈over m k,isIf z=true∨z=12∨bs m k=some z:=fun z hz=>((fo_ ok h).1 z hz).2.1
theorem ifs_ifs (ok:WOk m) (h:k∈nvL) (hi:isIf k=true):∀z∈ifs m k,ifs m z=[]:=fun z hz=>by
 rw[((fo_ ok h).1 z (List.mem_filter.mp hz).1).2.2.2.2 hi (List.mem_filter.mp hz).2];rfl
noncomputable def chB (f:Nat→Int):List Nat→Bool
 | []=>false
 | x :: r=>r.casesOn (f x == -1) fun y Z=>(f x==(y:Int))&&chB f r
theorem chB_of {f g:Nat→Int}{l:List Nat}(h:chB f l=true) (e:∀x∈l,g x=f x):Chain g l:=by
 induction l with
 | nil=>exact absurd h Bool.false_ne_true
 | cons x r ih=>
  induction r with
  | nil=>exact .last ((e x (.head _)).trans (beq_iff_eq.mp h))
  | cons y r _=>
   have h:((f x==(y:Int))&&chB f (y :: r))=true:=h
   have h:=Bool.and_eq_true_iff.mp h
   exact .step ((e x (.head _)).trans (beq_iff_eq.mp h.1)) (ih h.2 fun z hz=>e z (.tail _ hz))
theorem hb (m:Wm) (h:k∈nvL):bsI m k=bsI (wa 0 (cut m.r2) (cut m.r4) 0) k:=by
 refine nv_all (P:=fun k=>bsI m k=bsI (wa 0 (cut m.r2) (cut m.r4) 0) k) ?_ h
 and_intros <;> first | rfl | (unfold bsI;simp only[bss,wa,cut0,cut1])
theorem chain_ok (h:k∈nvL):Chain (bsI m) (chL m k):=by
 have all:∀b < 3,∀c < 3,nvL.all (fun k=>chB (bsI (wa 0 b c 0)) (chL (wa 0 b c 0) k))=true:=by decide +kernel
 have w:=(fc_ (m:=m) h).2.2.2.1
 rw[hc m h]at w ⊢
 exact chB_of (List.all_eq_true.mp (all _ (cut_lt _) _ (cut_lt _)) k h) fun x hx=>hb m (w x hx)
theorem chL_head (h:k∈nvL):(chL m k).head?=some k:=(fc_ h).1
theorem chL_nodup (h:k∈nvL):(chL m k).Nodup:=(fc_ h).2.1
theorem chL_len (h:k∈nvL):(chL m k).length≤10:=(fc_ h).2.2.1
theorem chL_nv (h:k∈nvL):∀z∈chL m k,z∈nvL:=(fc_ h).2.2.2.1
theorem chL_tail (h:k∈nvL):∀z∈(chL m k).tail,isRef z=true∧z < 30:=(fc_ h).2.2.2.2
theorem Chain.next {bs:Nat→Int}{l:List Nat}(c:Chain bs l) {x y:Nat}(hx:x∈l) (e:bs x=(y:Int)):y∈l:=by
 induction c with
 | last h=>rw[List.mem_singleton]at hx;subst hx;exact Int.noConfusion (show Int.negSucc 0=Int.ofNat y from h.symm.trans e)
 | step h _ ih=>
  rcases List.mem_cons.mp hx with rfl | hx
  ·have:=Int.ofNat.inj (h.symm.trans e)
   subst this;simp
  ·exact List.mem_cons_of_mem _ (ih hx)
theorem Chain.up (c:Chain (bsI m) l) {x:Nat}(hx:l.head?=some x):∀z∈l,Up m x z:=by
 induction c generalizing x with
 | last h=>simp at hx;subst hx;intro z hz;rw[List.mem_singleton]at hz;subst hz;exact .refl _ _
 | @step a b r h _ ih=>
  simp at hx;subst hx
  have hb:b∈over m a:=by
   have h:(match bs m a with | some b=>(b:Int) | none=>-1)=(b:Int):=h
   cases hb:bs m a with
   | none=>rw[hb]at h;exact Int.noConfusion (show Int.negSucc 0=Int.ofNat b from h)
   | some b'=>
    rw[hb]at h
    cases Int.ofNat.inj h
    unfold bs at hb
    split at hb
    ·exact nS hb
    ·exact List.mem_of_mem_head? hb
  intro z hz
  rcases List.mem_cons.mp hz with rfl | hz
  ·exact .refl _ _
  ·exact .head hb (ih (by rfl) z hz)
theorem hi0 (m:Wm) (h:k∈nvL):isIf k=true→over m k=over (wa (cut m.r0) 0 0 0) k:=by
 refine nv_all (P:=fun k=>isIf k=true→over m k=over (wa (cut m.r0) 0 0 0) k) ?_ h
 and_intros <;> first | exact fun h=>bff h | exact fun Z=>rfl | (intro _;simp only[ovs,wa,cut0];done)
theorem up_top (h:k∈nvL):Up m k 12:=by
 have all:∀b < 3,∀c < 3,nvL.all (fun k=>decide (12∈chL (wa 0 b c 0) k∨isIf k=true))=true:=by decide +kernel
 have a:=of_decide_eq_true (List.all_eq_true.mp (all _ (cut_lt m.r2) _ (cut_lt m.r4)) k h)
 rw[←hc m h]at a
 refine a.elim (fun a=>(chain_ok h).up (chL_head h) 12 a) fun a=>.head (x:=12) ?_ (.refl _ _)
 have all:∀c < 3,nvL.all (fun k=>decide (isIf k=true→12∈over (wa c 0 0 0) k))=true:=by decide +kernel
 have b:=of_decide_eq_true (List.all_eq_true.mp (all _ (cut_lt m.r0)) k h) a
 rwa [show over m k=over (wa (cut m.r0) 0 0 0) k from hi0 m h a]
theorem up_nv (ok:WOk m) (h:k∈nvL):Up m k y↔y∈chL m k∨Ifc m k y∨y=12:=by
 have c:=chain_ok (m:=m) h
 have hh:=chL_head (m:=m) h
 constructor
 ·intro u
  induction u with
  | start e=>left;subst e;exact List.mem_of_mem_head? hh
  | @step x y u _ e ih=>
   have ifm:∀{a b},b∈over m a→isIf b=true→b∈ifs m a:=fun h1 h2=>List.mem_filter.mpr ⟨h1,h2⟩
   rcases ih with ih | ⟨a,ha,z,hz,hx⟩ | rfl
   ·rcases over_lp ok (chL_nv h x ih) y e with h1 | h1 | h1
    ·exact .inr (.inl ⟨x,ih,y,ifm e h1,.inl rfl⟩)
    ·exact .inr (.inr h1)
    ·refine .inl (c.next ih ?_)
     unfold bsI;rw[h1]
   ·have hzn:=(over_nv ok (chL_nv h a ha) z (List.mem_filter.mp hz).1).1
    have hzi:=(List.mem_filter.mp hz).2
    rcases hx with rfl | hx
    ·rcases over_lp ok hzn y e with h1 | h1 | h1
     ·exact .inr (.inl ⟨a,ha,x,hz,.inr (ifm e h1)⟩)
     ·exact .inr (.inr h1)
     ·unfold bs at h1;rw[hzi]at h1;simp at h1
    ·have hxn:=(over_nv ok hzn x (List.mem_filter.mp hx).1).1
     have hxi:=(List.mem_filter.mp hx).2
     have:=ifs_ifs ok hzn hzi x hx
     rcases over_lp ok hxn y e with h1 | h1 | h1
     ·have:=ifm e h1;rw[‹ifs m x=[]›]at this;cases this
     ·exact .inr (.inr h1)
     ·unfold bs at h1;rw[hxi]at h1;simp at h1
   ·simp[ovs]at e
 ·rintro(h1 | ⟨a,ha,z,hz,hy⟩ | rfl)
  ·exact c.up hh y h1
  ·have u:=(c.up hh a ha).tail (List.mem_filter.mp hz).1
   rcases hy with rfl | hy
   ·exact u
   ·exact u.tail (List.mem_filter.mp hy).1
  ·exact up_top h
theorem ifc_if (h:Ifc m k y):isIf y=true:=by
 obtain⟨a,ha,z,hz,rfl | hy⟩:=h
 ·exact(List.mem_filter.mp hz).2
 ·exact(List.mem_filter.mp hy).2
theorem up_ref (ok:WOk m) (h:k∈nvL) (u:Up m k y):y∈nvL∧(y=k∨isRef y=true):=by
 induction u with
 | start e=>subst e;exact⟨h,.inl rfl⟩
 | step _ _ e ih=>exact⟨(over_nv ok ih.1 _ e).1,.inr (over_nv ok ih.1 _ e).2⟩
theorem over_arr (ok:WOk m) (h:k∈nvL):∀z∈over m k,isArr z=false:=fun z hz=>((fo_ ok h).1 z hz).2.2.1
theorem up_arr (ok:WOk m) (h:k∈nvL) (u:Up m k y) (ha:isArr y=true):y=k:=by
 induction u with
 | start e=>exact e
 | step u _ e=>rw[over_arr ok (up_ref ok h u).1 _ e]at ha;cases ha
theorem over_cls (ok:WOk m) (h:k∈nvL) (hc:isCls k=false):∀z∈over m k,isCls z=false:=fun z hz=>((fo_ ok h).1 z hz).2.2.2.1 hc
theorem up_cls (ok:WOk m) (h:k∈nvL) (u:Up m k y) (ha:isCls y=true):isCls k=true:=by
 cases hc:isCls k with
 | true=>rfl
 | false=>
  have:y∈nvL∧isCls y=false:=by
   clear ha
   induction u with
   | start e=>subst e;exact⟨h,hc⟩
   | step _ _ e ih=>exact⟨(over_nv ok ih.1 _ e).1,over_cls ok ih.1 ih.2 _ e⟩
  rw[this.2]at ha;cases ha
end
set_option maxRecDepth 20000
noncomputable def isBv (k:Nat):Bool:=k==24 || k==25 || k==7
noncomputable def bnd3 (a b c:Nat) (before:List Nat):List Nat×Nat:=
 let one:=[17,18,16].getD b 0
 let face:=[19,30,20,34].getD c 0
 let value:=[24,25,7].getD b 0
 [([],0),([],1),([],2),([one],0),([face],0),(before,0),(face :: before,0),([value],0),([face],2),([one,face],0),([face],1),([22],0)].getD a ([],0)
theorem bnd_eq (d:Nat) (bf:List Nat):bnd d bf=bnd3 (d % 12) (d / 12 % 3) (d / 36 % 4) bf:=rfl
noncomputable abbrev bpP (bf:List Nat) (r:List Nat×Nat):Prop:=
 (∀x∈r.1,isVar x=true→x∈bf)∧(∀x∈r.1,isVar x=false→x∈nvL∧(isCls x=true∨isIf x=true∨isBv x=true∨x=22))∧(∀x∈r.1,∀y∈r.1,isIf x=false→isIf y=false→x=y)∧(r.2≠0→∀x∈r.1,isIf x=true)∧r.2≤2∧r.1.length≤2
theorem bk0:∀r < 3,∀b < 3,∀c < 4,decide (bpP [] (bnd3 r b c []))=true∧∀j < 4,decide (bpP [26+j] (bnd3 r b c [26+j]))=true:=by decide +kernel
theorem bk1:∀r < 3,∀b < 3,∀c < 4,decide (bpP [] (bnd3 (r+3) b c []))=true∧∀j < 4,decide (bpP [26+j] (bnd3 (r+3) b c [26+j]))=true:=by decide +kernel
theorem bk2:∀r < 3,∀b < 3,∀c < 4,decide (bpP [] (bnd3 (r+6) b c []))=true∧∀j < 4,decide (bpP [26+j] (bnd3 (r+6) b c [26+j]))=true:=by decide +kernel
theorem bk3:∀r < 3,∀b < 3,∀c < 4,decide (bpP [] (bnd3 (r+9) b c []))=true∧∀j < 4,decide (bpP [26+j] (bnd3 (r+9) b c [26+j]))=true:=by decide +kernel
theorem bnd_chk:∀a < 12,∀b < 3,∀c < 4,decide (bpP [] (bnd3 a b c []))=true∧∀j < 4,decide (bpP [26+j] (bnd3 a b c [26+j]))=true:=by
 intro a ha
 rcases Nat.lt_or_ge a 3 with h | h
 ·exact bk0 a h
 rcases Nat.lt_or_ge a 6 with h | h
 ·have:=bk1 (a - 3) (Nat.sub_lt_left_of_lt_add (by assumption) h)
  rwa [Nat.sub_add_cancel (by assumption)]at this
 rcases Nat.lt_or_ge a 9 with h | h
 ·have:=bk2 (a - 6) (Nat.sub_lt_left_of_lt_add (by assumption) h)
  rwa [Nat.sub_add_cancel (by assumption)]at this
 ·have:=bk3 (a - 9) (Nat.sub_lt_left_of_lt_add h ha)
  rwa [Nat.sub_add_cancel h]at this
noncomputable def RB (m:Wm) (p y:Nat):Prop:=Rch (fun x=>if isVar x=true then bounds m x else []) (fun Z=>False) (·∈bounds m p) y
section
variable {m:Wm}{k p x y z b b':Nat}
structure BdP (m:Wm) (p:Nat):Prop where
 var:∀x∈bounds m p,isVar x=true→x < p∧flag m x≠2
 nv:∀x∈bounds m p,isVar x=false→x∈nvL∧(isCls x=true∨isIf x=true∨isBv x=true∨x=22)
 one:∀x∈bounds m p,∀y∈bounds m p,isIf x=false→isIf y=false→x=y
 fl:flag m p≠0→∀x∈bounds m p,isIf x=true
 fl2:flag m p≤2
 len:(bounds m p).length≤2
theorem isVar_iff {x:Nat}:isVar x=true↔26≤x∧x≤29:=by simp[isVar]
theorem nv_var (h:x∈nvL):isVar x=false:=by
 have:∀x∈nvL,isVar x=false:=by decide
 exact this x h
theorem var_if (h:isVar x=true):isIf x=false:=by
 rw[isVar_iff]at h
 have:∀x < 30,26≤x→isIf x=false:=by decide
 exact this x (Nat.lt_succ_of_le h.2) h.1
theorem bdp (ok:WOk m) (hp:isVar p=true):BdP m p:=by
 rw[isVar_iff]at hp
 have hp4:p - 26 < 4:=Nat.sub_lt_left_of_lt_add hp.1 (Nat.lt_succ_of_le hp.2)
 obtain⟨d,bf,e,hb⟩:=ok.bd (p - 26) hp4
 rw[bnd_eq]at e
 have chk:=bnd_chk _ (Nat.mod_lt d (show 0 < 12 by decide)) _ (Nat.mod_lt (d / 12) (show 0 < 3 by decide)) _ (Nat.mod_lt (d / 36) (show 0 < 4 by decide))
 have c:bpP bf (m.bd (p - 26)):=by
  rw[e]
  rcases hb with h | ⟨j,hj,h,-⟩
  ·rw[h];exact of_decide_eq_true chk.1
  ·rw[h];exact of_decide_eq_true (chk.2 j (Nat.lt_trans hj hp4))
 refine⟨fun x hx hv=>?_,c.2.1,c.2.2.1,c.2.2.2.1,c.2.2.2.2.1,c.2.2.2.2.2⟩
 have hx:=c.1 x hx hv
 rcases hb with h | ⟨j,hj,h,h2⟩
 ·rw[h]at hx;cases hx
 ·rw[h]at hx
  rw[List.mem_singleton.mp hx]
  exact⟨Nat.add_lt_of_lt_sub' hj,by unfold flag;rw[Nat.add_sub_cancel_left];exact h2⟩
theorem rb_iff:RB m p y↔y∈bounds m p∨∃x∈bounds m p,isVar x=true∧RB m x y:=by
 constructor
 ·intro h
  induction h with
  | start h=>exact .inl h
  | @step x y _ _ e ih=>
   by_cases hv:isVar x=true
   ·rw[if_pos hv]at e
    rcases ih with h | ⟨z,h1,h2,h3⟩
    ·exact .inr ⟨x,h,hv,.start e⟩
    ·exact .inr ⟨z,h1,h2,.step h3 (fun h=>h) (by rw[if_pos hv];exact e)⟩
   ·rw[if_neg hv]at e;cases e
 ·rintro(h | ⟨x,h1,h2,h3⟩)
  ·exact .start h
  ·induction h3 with
   | start h=>exact .step (.start h1) (fun h=>h) (by rw[if_pos h2];exact h)
   | step _ _ e ih=>exact .step ih (fun h=>h) e
theorem rb_lt (ok:WOk m) (hp:isVar p=true) (h:RB m p y):(isVar y=true→y < p∧flag m y≠2)∧(isVar y=false→y∈nvL∧(isCls y=true∨isIf y=true∨isBv y=true∨y=22)):=by
 induction h with
 | start h=>exact⟨(bdp ok hp).var _ h,(bdp ok hp).nv _ h⟩
 | @step x y _ _ e ih=>
  by_cases hv:isVar x=true
  ·rw[if_pos hv]at e
   have h1:=ih.1 hv
   exact⟨fun h=>⟨Nat.lt_trans ((bdp ok hv).var _ e h).1 h1.1,((bdp ok hv).var _ e h).2⟩,(bdp ok hv).nv _ e⟩
  ·rw[if_neg hv]at e;cases e
theorem rb_ban (ok:WOk m) (hp:isVar p=true):(Rch (fun x=>if isVar x=true then bounds m x else []) (·=p) (·∈bounds m p) y∧¬y=p)↔RB m p y:=by
 constructor
 ·rintro⟨h,-⟩
  induction h with
  | start h=>exact .start h
  | step _ _ e ih=>exact .step ih (fun h=>h) e
 ·intro h
  have hne:∀z,RB m p z→¬z=p:=fun z hz e=>by
   subst e
   exact Nat.lt_irrefl _ ((rb_lt ok hp hz).1 hp).1
  refine⟨?_,hne y h⟩
  induction h with
  | start h=>exact .start h
  | step h1 _ e ih=>exact .step ih (hne _ h1) e
theorem over_var (hp:isVar p=true):over m p=bounds m p++12 :: (if flag m p=2 then [21] else []):=by
 unfold over;rw[if_pos hp]
theorem rb_up (hp:isVar p=true) (h:RB m p y):Up m p y:=by
 induction h with
 | start h=>exact(Up.refl m p).tail (by rw[over_var hp];exact List.mem_append_left _ h)
 | @step x y _ _ e ih=>
  by_cases hv:isVar x=true
  ·rw[if_pos hv]at e
   exact ih.tail (by rw[over_var hv];exact List.mem_append_left _ e)
  ·rw[if_neg hv]at e;cases e
theorem up12 (u:Up m 12 y):y=12:=by
 rcases up_iff.mp u with h | ⟨x,hx,-⟩
 ·exact h
 ·simp[ovs]at hx
theorem up21 (u:Up m 21 y):y=21∨y=12:=by
 rcases up_iff.mp u with h | ⟨x,hx,u⟩
 ·exact .inl h
 ·simp only[ovs,List.mem_singleton]at hx
  subst hx;exact .inr (up12 u)
theorem up_var (ok:WOk m):∀(p:Nat),isVar p=true→∀y,isVar y=false→(Up m p y↔y=12∨(flag m p=2∧y=21)∨∃b,RB m p b∧isVar b=false∧Up m b y):=by
 intro p
 induction p using Nat.strongRecOn with
 | ind p ih=>
  intro hp y hy
  constructor
  ·intro u
   rcases up_iff.mp u with rfl | ⟨x,hx,u⟩
   ·rw[hp]at hy;cases hy
   ·rw[over_var hp]at hx
    rcases List.mem_append.mp hx with hx | hx
    ·cases hv:isVar x with
     | false=>exact .inr (.inr ⟨x,.start hx,hv,u⟩)
     | true=>
      have h1:=(bdp ok hp).var x hx hv
      rcases(ih x h1.1 hv y hy).mp u with h | ⟨h,-⟩ | ⟨b,hb,hb2,hu⟩
      ·exact .inl h
      ·exact absurd h h1.2
      ·exact .inr (.inr ⟨b,rb_iff.mpr (.inr ⟨x,hx,hv,hb⟩),hb2,hu⟩)
    ·rcases List.mem_cons.mp hx with rfl | hx
     ·exact .inl (up12 u)
     ·split at hx
      ·rename_i hf
       rw[List.mem_singleton]at hx;subst hx
       rcases up21 u with h | h
       ·exact .inr (.inl ⟨hf,h⟩)
       ·exact .inl h
      ·exact absurd hx List.not_mem_nil
  ·rintro(rfl | ⟨hf,rfl⟩ | ⟨b,hb,-,hu⟩)
   ·exact(Up.refl m p).tail (by rw[over_var hp];simp)
   ·exact(Up.refl m p).tail (by rw[over_var hp,if_pos hf];simp)
   ·exact(rb_up hp hb).trans hu
theorem up_var2 (ok:WOk m):∀(p:Nat),isVar p=true→∀y,isVar y=true→(Up m p y↔y=p∨RB m p y):=by
 intro p
 induction p using Nat.strongRecOn with
 | ind p ih=>
  intro hp y hy
  constructor
  ·intro u
   rcases up_iff.mp u with rfl | ⟨x,hx,u⟩
   ·exact .inl rfl
   ·have nvc:x∈nvL→False:=fun h=>by
     have:=nv_var (up_ref ok h u).1
     rw[hy]at this;cases this
    rw[over_var hp]at hx
    rcases List.mem_append.mp hx with hx | hx
    ·cases hv:isVar x with
     | false=>exact(nvc ((bdp ok hp).nv x hx hv).1).elim
     | true=>
      have h1:=(bdp ok hp).var x hx hv
      rcases(ih x h1.1 hv y hy).mp u with h | h
      ·subst h;exact .inr (.start hx)
      ·exact .inr (rb_iff.mpr (.inr ⟨x,hx,hv,h⟩))
    ·rcases List.mem_cons.mp hx with rfl | hx
     ·exact(nvc (by decide)).elim
     ·split at hx
      ·rw[List.mem_singleton]at hx;subst hx;exact(nvc (by decide)).elim
      ·exact absurd hx List.not_mem_nil
  ·rintro(rfl | h)
   ·exact .refl _ _
   ·exact rb_up hp h
theorem up_nvv (ok:WOk m) (h:k∈nvL) (hy:isVar y=true):¬Up m k y:=fun u=>by
 have:=nv_var (up_ref ok h u).1
 rw[hy]at this;cases this
noncomputable def Sure (m:Wm) (p:Nat):Prop:=flag m p=1∨∃c,isCls c=true∧Up m p c
theorem cls_nv (h:isCls x=true):x∈nvL∧isVar x=false∧isIf x=false∧isVal x=false∧isRef x=true∧x≠12∧x≠21∧x≠22:=by
 have:x < 19:=by
  simp only[isCls,Bool.or_eq_true,beq_iff_eq]at h
  exact h.elim (fun h=>h.elim (fun h=>h▸by decide) fun h=>h▸by decide) fun h=>h▸by decide
 have h2:∀x < 19,isCls x=true→x∈nvL∧isVar x=false∧isIf x=false∧isVal x=false∧isRef x=true∧x≠12∧x≠21∧x≠22:=by decide
 exact h2 x this h
theorem sure_iff (ok:WOk m) (hp:isVar p=true):Sure m p↔flag m p=1∨∃b,RB m p b∧isCls b=true:=by
 unfold Sure
 constructor
 ·rintro(h | ⟨c,hc,u⟩)
  ·exact .inl h
  ·have h:=cls_nv hc
   rcases(up_var ok p hp c h.2.1).mp u with h' | ⟨-,h'⟩ | ⟨b,hb,hbv,hu⟩
   ·exact absurd h' h.2.2.2.2.2.1
   ·exact absurd h' h.2.2.2.2.2.2.1
   ·exact .inr ⟨b,hb,up_cls ok ((rb_lt ok hp hb).2 hbv).1 hu hc⟩
 ·rintro(h | ⟨b,hb,hc⟩)
  ·exact .inl h
  ·exact .inr ⟨b,hc,rb_up hp hb⟩
theorem rb_main (ok:WOk m):∀(p:Nat),isVar p=true→∀b b',RB m p b→RB m p b'→isVar b=false→isVar b'=false→isIf b=false→isIf b'=false→b=b':=by
 intro p
 induction p using Nat.strongRecOn with
 | ind p ih=>
  intro hp b b' h h' v v' i i'
  have P:=bdp ok hp
  rcases rb_iff.mp h with h | ⟨x,h1,h2,h3⟩
  ·rcases rb_iff.mp h' with h' | ⟨x',h1',h2',h3'⟩
   ·exact P.one b h b' h' i i'
   ·have:=P.one b h x' h1' i (var_if h2')
    subst this;rw[h2']at v;cases v
  ·rcases rb_iff.mp h' with h' | ⟨x',h1',h2',h3'⟩
   ·have:=P.one b' h' x h1 i' (var_if h2)
    subst this;rw[h2]at v';cases v'
   ·have:=P.one x h1 x' h1' (var_if h2) (var_if h2')
    subst this
    exact ih x (P.var x h1 h2).1 h2 b b' h3 h3' v v' i i'
theorem val_not (h:isVal x=true) (h2:x∈nvL):isIf x=false∧isRef x=false∧x≠12∧x≠21∧isCls x=false:=by
 have:∀x∈nvL,isVal x=true→isIf x=false∧isRef x=false∧x≠12∧x≠21∧isCls x=false:=by decide
 exact this x h2 h
theorem sure_val (ok:WOk m) (hp:isVar p=true) (s:Sure m p) (u:Up m p y) (hy:y∈nvL):isVal y=false:=by
 cases hv:isVal y with
 | false=>rfl
 | true=>
  have n:=val_not hv hy
  rcases(up_var ok p hp y (nv_var hy)).mp u with h | ⟨-,h⟩ | ⟨b,hb,hbv,hu⟩
  ·exact absurd h n.2.2.1
  ·exact absurd h n.2.2.2.1
  ·have hbn:=((rb_lt ok hp hb).2 hbv).1
   have hby:y=b:=by
    rcases(up_ref ok hbn hu).2 with h | h
    ·exact h
    ·rw[n.2.1]at h;cases h
   subst hby
   rcases(sure_iff ok hp).mp s with h | ⟨c,hc,hcc⟩
   ·have P:=bdp ok hp
    have f:=P.fl (by rw[h];decide)
    rcases rb_iff.mp hb with h' | ⟨x,h1,h2,-⟩
    ·have:=f _ h';rw[n.1]at this;cases this
    ·have:=f _ h1;rw[var_if h2]at this;cases this
   ·have hcn:=cls_nv hcc
    have:=rb_main ok p hp y c hb hc hbv hcn.2.1 n.1 hcn.2.2.1
    subst this
    rw[hcc]at n;exact absurd n.2.2.2.2 (by decide)
noncomputable def Firm (m:Wm) (x:Nat):Prop:=isRef x=true∨(isVar x=true∧Sure m x)
noncomputable def Lies (m:Wm) (x y:Nat):Prop:=x=y∨(Firm m x∧Up m x y)
noncomputable def Ref (m:Wm) (s t:Nat):Prop:=Up m s t∨∃x,Up m s x∧((isArr x=true∧isArr t=true∧Lies m (el m x) (el m t)) ∨
 (isFace x=true∧isFace t=true∧((m.way=1∧Lies m (el m x) (el m t))∨(m.way=2∧Lies m (el m t) (el m x)))))
noncomputable abbrev Pd:=Nat→Nat→Prop
noncomputable def Wn (P:Pd) (k t:Nat):Prop:=k=t∨t=12∨P k t
noncomputable def Inn (m:Wm) (P:Pd) (x y:Nat):Prop:=Firm m x∧((isVar y=true∧(x=y∨(isVar x=true∧RB m x y)))∨(isVar y=false∧isRef y=true∧Wn P x y))
noncomputable def Vw (m:Wm) (P:Pd) (a t:Nat):Prop:=isFace a=true∧isFace t=true∧el m a≠el m t∧((m.way=1∧Inn m P (el m a) (el m t))∨(m.way=2∧Inn m P (el m t) (el m a)))
noncomputable def Pv (m:Wm) (p:Nat):Prop:=flag m p=2∨∃b,RB m p b∧isVal b=true
noncomputable def Look (m:Wm) (P:Pd) (k t:Nat):Prop:=
 (isArr k=true∧isArr t=true∧(el m k=el m t∨Inn m P (el m k) (el m t))) ∨
 (isVar k=true∧((t=21∧Pv m k)∨∃b,RB m k b∧isVar b=false∧Wn P b t)) ∨
 (¬(isArr k=true∧isArr t=true)∧isVar k=false∧((∃a∈chL m k,a=t∨Vw m P a t)∨(isIf t=true∧∃a,Ifc m k a∧(a=t∨Vw m P a t))))
theorem Wn.mono {P P':Pd}(h:∀k t,P k t→P' k t) (w:Wn P k y):Wn P' k y:=by
 rcases w with e | e | e
 ·exact .inl e
 ·exact .inr (.inl e)
 ·exact .inr (.inr (h _ _ e))
theorem Inn.mono {P P':Pd}(h:∀k t,P k t→P' k t) (w:Inn m P k y):Inn m P' k y:=
 ⟨w.1,w.2.imp (fun h=>h) fun zz=>by obtain⟨a,b,c⟩:=zz;exact⟨a,b,c.mono h⟩⟩
theorem Vw.mono {P P':Pd}(h:∀k t,P k t→P' k t) (w:Vw m P k y):Vw m P' k y:=
 ⟨w.1,w.2.1,w.2.2.1,w.2.2.2.imp (fun zz=>by obtain⟨a,b⟩:=zz;exact⟨a,b.mono h⟩) fun zz=>by obtain⟨a,b⟩:=zz;exact⟨a,b.mono h⟩⟩
theorem Look.mono {P P':Pd}(h:∀k t,P k t→P' k t) (w:Look m P k y):Look m P' k y:=by
 rcases w with⟨a,b,c⟩ | ⟨a,b⟩ | ⟨a,b,c⟩
 ·exact .inl ⟨a,b,c.imp (fun h=>h) fun c=>c.mono h⟩
 ·exact .inr (.inl ⟨a,b.imp (fun h=>h) fun zz=>by obtain⟨b,x,y,z⟩:=zz;exact⟨b,x,y,z.mono h⟩⟩)
 ·refine .inr (.inr ⟨a,b,c.imp (fun zz=>by obtain⟨a,x,y⟩:=zz;exact⟨a,x,y.imp (fun h=>h) fun y=>y.mono h⟩) fun zz=>by obtain⟨i,a,x,y⟩:=zz;exact⟨i,a,x,y.imp (fun h=>h) fun y=>y.mono h⟩⟩)
theorem hl_nv {x:Nat}(h:x∈hl m) (hv:isVar x=false):x∈nvL∧isFace x=false∧isArr x=false∧(isRef x=false→isVal x=true):=by
 rcases hl_cases m x h with h' | rfl | rfl | rfl | rfl | rfl | rfl | rfl
 ·rw[h']at hv;cases hv
 all_goals decide
theorem slot_lt:∀x < 40,(x - 30) / 2 < 5:=by decide
theorem face_el (h1:isFace x=true) (h2:isFace y=true) (e:el m x=el m y):x=y:=by
 have lt:∀{x},isFace x=true→x < 39:=fun{x} h=>by simp only[isFace,Bool.and_eq_true,decide_eq_true_eq]at h;exact Nat.lt_succ_of_le h.1.2
 have s:∀x < 39,isFace x=true→∀y < 39,isFace y=true→(x - 30) / 2=(y - 30) / 2→x=y:=by decide +kernel
 exact s x (lt h1) h1 y (lt h2) h2 (getD_inj (hl_nodup m) (slot_lt x (Nat.lt_succ_of_lt (lt h1))) (slot_lt y (Nat.lt_succ_of_lt (lt h2))) e)
theorem face_ge (h:isFace k=true):30≤k∧k≤38∧k % 2=0:=by simp only[isFace,Bool.and_eq_true,decide_eq_true_eq,beq_iff_eq]at h;exact⟨h.1.1,h.1.2,h.2⟩
theorem arr_ge (h:isArr k=true):31≤k∧k≤39∧k % 2=1:=by simp only[isArr,Bool.and_eq_true,decide_eq_true_eq,beq_iff_eq]at h;exact⟨h.1.1,h.1.2,h.2⟩
theorem face_nv (h1:isFace x=true):x∈nvL∧isVar x=false∧isIf x=true∧isRef x=true∧isArr x=false∧x≠12∧x≠21∧el m x∈hl m:=by
 have hx:=face_ge h1
 have:∀x < 39,isFace x=true→x∈nvL∧isVar x=false∧isIf x=true∧isRef x=true∧isArr x=false∧x≠12∧x≠21:=by decide
 have h:=this x (Nat.lt_succ_of_le hx.2.1) h1
 exact⟨h.1,h.2.1,h.2.2.1,h.2.2.2.1,h.2.2.2.2.1,h.2.2.2.2.2.1,h.2.2.2.2.2.2,el_mem hx.1 (Nat.le_succ_of_le hx.2.1)⟩
theorem arr_nv (h1:isArr x=true):x∈nvL∧isVar x=false∧isIf x=false∧isRef x=true∧isFace x=false∧x≠12∧x≠21∧el m x∈hl m:=by
 have hx:=arr_ge h1
 have:∀x < 40,isArr x=true→x∈nvL∧isVar x=false∧isIf x=false∧isRef x=true∧isFace x=false∧x≠12∧x≠21:=by decide
 have h:=this x (Nat.lt_succ_of_le hx.2.1) h1
 exact⟨h.1,h.2.1,h.2.2.1,h.2.2.2.1,h.2.2.2.2.1,h.2.2.2.2.2.1,h.2.2.2.2.2.2,el_mem (Nat.le_trans (by decide) hx.1) hx.2.1⟩
noncomputable def Subj (k:Nat):Prop:=k∈nvL∨isVar k=true
theorem subj_top (ok:WOk m) (h:Subj k):Up m k 12:=by
 rcases h with h | h
 ·exact up_top h
 ·exact(up_var ok k h 12 rfl).mpr (.inl rfl)
theorem hl_subj {x:Nat}(h:x∈hl m):Subj x:=by
 cases hv:isVar x with
 | true=>exact .inr hv
 | false=>exact .inl (hl_nv h hv).1
theorem ref_plain (h1:isFace y=false) (h2:isArr y=false) (r:Ref m x y):Up m x y:=by
 rcases r with r | ⟨z,-,⟨-,h,-⟩ | ⟨-,h,-⟩⟩
 ·exact r
 ·rw[h2]at h;cases h
 ·rw[h1]at h;cases h
theorem inn_lies (ok:WOk m) {P:Pd}(hP:∀k t,P k t→Ref m k t) {x y:Nat}(hx:x∈hl m) (hy:y∈hl m) (i:Inn m P x y):Lies m x y:=by
 obtain⟨f,⟨hv,h⟩ | ⟨hv,hr,w⟩⟩:=i
 ·rcases h with h | ⟨h1,h2⟩
  ·exact .inl h
  ·exact .inr ⟨f,rb_up h1 h2⟩
 ·rcases w with w | w | w
  ·exact .inl w
  ·subst w;exact .inr ⟨f,subj_top ok (hl_subj hx)⟩
  ·have n:=hl_nv hy hv
   exact .inr ⟨f,ref_plain n.2.1 n.2.2.1 (hP _ _ w)⟩
theorem vw_ref (ok:WOk m) {P:Pd}(hP:∀k t,P k t→Ref m k t) {a t:Nat}(u:Up m k a) (v:Vw m P a t):Ref m k t:=by
 obtain⟨fa,ft,-,h⟩:=v
 have na:=(face_nv (m:=m) fa).2.2.2.2.2.2.2
 have nt:=(face_nv (m:=m) ft).2.2.2.2.2.2.2
 exact .inr ⟨a,u,.inr ⟨fa,ft,h.imp (fun zz=>by obtain⟨w,i⟩:=zz;exact⟨w,inn_lies ok hP na nt i⟩) fun zz=>by obtain⟨w,i⟩:=zz;exact⟨w,inn_lies ok hP nt na i⟩⟩⟩
theorem ref_trans (u:Up m k x) (r:Ref m x y):Ref m k y:=by
 rcases r with r | ⟨z,h,q⟩
 ·exact .inl (u.trans r)
 ·exact .inr ⟨z,u.trans h,q⟩
theorem val21 (h:isBv x=true):Up m x 21:=by
 have e:x=24∨x=25∨x=7:=by simpa[isBv,or_assoc] using h
 rcases e with rfl | rfl | rfl
 ·exact(Up.refl _ _).tail (by simp[ovs])
 ·exact((Up.refl _ _).tail (x:=25) (y:=22) (by simp[ovs])).tail (by simp[ovs])
 ·exact(Up.refl _ _).tail (by simp[ovs])
theorem look_ref (ok:WOk m) {P:Pd}(hP:∀k t,P k t→Ref m k t) {k t:Nat}(hk:Subj k) (l:Look m P k t):Ref m k t:=by
 rcases l with⟨a,b,c⟩ | ⟨a,b⟩ | ⟨-,a,b⟩
 ·have na:=(arr_nv (m:=m) a).2.2.2.2.2.2.2
  have nb:=(arr_nv (m:=m) b).2.2.2.2.2.2.2
  exact .inr ⟨k,.refl _ _,.inl ⟨a,b,c.elim .inl fun i=>inn_lies ok hP na nb i⟩⟩
 ·rcases b with⟨rfl,b | ⟨b,h1,h2⟩⟩ | ⟨b,h1,h2,w⟩
  ·exact .inl ((up_var ok k a 21 rfl).mpr (.inr (.inl ⟨b,rfl⟩)))
  ·left
   have hb:isVar b=false:=by
    cases hv:isVar b with
    | false=>rfl
    | true=>
     rw[isVar_iff]at hv
     have:∀b < 30,26≤b→isVal b=false:=by decide
     rw[this b (Nat.lt_succ_of_le hv.2) hv.1]at h2;cases h2
   have n:=(rb_lt ok a h1).2 hb
   refine(rb_up a h1).trans (val21 ?_)
   have:∀b∈nvL,isVal b=true→(isCls b=true∨isIf b=true∨isBv b=true∨b=22)→isBv b=true:=by decide
   exact this b n.1 h2 n.2
  ·rcases w with w | w | w
   ·subst w;exact .inl (rb_up a h1)
   ·subst w;exact .inl (subj_top ok hk)
   ·exact ref_trans (rb_up a h1) (hP _ _ w)
 ·have hn:k∈nvL:=hk.resolve_right fun h=>by rw[a]at h;cases h
  rcases b with⟨z,hz,h⟩ | ⟨-,z,hz,h⟩
  ·have u:=(up_nv ok hn).mpr (.inl hz)
   rcases h with rfl | h
   ·exact .inl u
   ·exact vw_ref ok hP u h
  ·have u:=(up_nv ok hn).mpr (.inr (.inl hz))
   rcases h with rfl | h
   ·exact .inl u
   ·exact vw_ref ok hP u h
noncomputable def TN (m:Wm):Nat→Pd
 | 0=>fun Z Z=>False
 | n+1=>Look m (TN m n)
theorem tn_succ:∀n k t,TN m n k t→TN m (n+1) k t
 | 0,_,_,h=>h.elim
 | n+1,k,t,h=>Look.mono (tn_succ n) h
theorem tn1 (ok:WOk m) {k t:Nat}(hk:k∈nvL) (ht:t≠12) (h1:isFace t=false) (h2:isArr t=false) (u:Up m k t):TN m 1 k t:=by
 refine .inr (.inr ⟨(fun h=>by rw[h2]at h;cases h.2),nv_var hk,?_⟩)
 rcases(up_nv ok hk).mp u with h | h | h
 ·exact .inl ⟨t,h,.inl rfl⟩
 ·exact .inr ⟨ifc_if h,t,h,.inl rfl⟩
 ·exact absurd h ht
theorem tn2 (ok:WOk m) {k t:Nat}(hk:Subj k) (ht:t≠12) (htr:isRef t=true) (h1:isFace t=false) (h2:isArr t=false) (u:Up m k t):TN m 2 k t:=by
 rcases hk with hk | hk
 ·exact tn_succ _ _ _ (tn1 ok hk ht h1 h2 u)
 ·have hv:=nv_var (nv_ref htr)
  rcases(up_var ok k hk t hv).mp u with h | ⟨hf,h⟩ | ⟨b,hb,hbv,hu⟩
  ·exact absurd h ht
  ·exact .inr (.inl ⟨hk,.inl ⟨h,.inl hf⟩⟩)
  ·exact .inr (.inl ⟨hk,.inr ⟨b,hb,hbv,.inr (.inr (tn1 ok ((rb_lt ok hk hb).2 hbv).1 ht h1 h2 hu))⟩⟩)
theorem lies_inn (ok:WOk m) {x y:Nat}(hx:x∈hl m) (hy:y∈hl m) (l:Lies m x y) (hne:x≠y):Inn m (TN m 2) x y:=by
 rcases l with h | ⟨f,u⟩
 ·exact absurd h hne
 ·refine⟨f,?_⟩
  cases hv:isVar y with
  | true=>
   refine .inl ⟨rfl,?_⟩
   rcases hl_subj hx with h | h
   ·exact absurd u (up_nvv ok h hv)
   ·rcases(up_var2 ok x h y hv).mp u with e | e
    ·exact .inl e.symm
    ·exact .inr ⟨h,e⟩
  | false=>
   have n:=hl_nv hy hv
   have hr:isRef y=true:=by
    cases hr:isRef y with
    | true=>rfl
    | false=>
     have hval:=n.2.2.2 hr
     rcases f with f | ⟨fv,fs⟩
     ·rcases(up_ref ok (nv_ref f) u).2 with e | e
      ·exact absurd e.symm hne
      ·rw[hr]at e;cases e
     ·rw[sure_val ok fv fs u n.1]at hval;cases hval
   refine .inr ⟨rfl,hr,?_⟩
   by_cases h12:y=12
   ·exact .inr (.inl h12)
   ·exact .inr (.inr (tn2 ok (hl_subj hx) h12 hr n.2.1 n.2.2.1 u))
theorem tn3 (ok:WOk m) {k t:Nat}(hk:k∈nvL) (ht:t≠12) (r:Ref m k t):TN m 3 k t:=by
 by_cases ha:isArr k=true∧isArr t=true
 ·obtain⟨a,b⟩:=ha
  have na:=(arr_nv (m:=m) a).2.2.2.2.2.2.2
  have nb:=(arr_nv (m:=m) b).2.2.2.2.2.2.2
  refine .inl ⟨a,b,?_⟩
  by_cases he:el m k=el m t
  ·exact .inl he
  ·right
   rcases r with u | ⟨x,u,⟨hxa,-,h⟩ | ⟨-,h,-⟩⟩
   ·have:=up_arr ok hk u b
    subst this;exact absurd rfl he
   ·have:=up_arr ok hk u hxa
    subst this;exact lies_inn ok na nb h he
   ·rw[(arr_nv (m:=m) b).2.2.2.2.1]at h;cases h
 ·refine .inr (.inr ⟨ha,nv_var hk,?_⟩)
  have fin:∀x,Up m k x→x≠12→(x=t∨(isIf t=true∧Vw m (TN m 2) x t))→(∃a∈chL m k,a=t∨Vw m (TN m 2) a t)∨(isIf t=true∧∃a,Ifc m k a∧(a=t∨Vw m (TN m 2) a t)):=by
   intro x u hx h
   rcases(up_nv ok hk).mp u with h' | h' | h'
   ·exact .inl ⟨x,h',h.imp (fun h=>h) (·.2)⟩
   ·refine .inr ⟨?_,x,h',h.imp (fun h=>h) (·.2)⟩
    rcases h with rfl | h
    ·exact ifc_if h'
    ·exact h.1
   ·exact absurd h' hx
  rcases r with u | ⟨x,u,⟨h1,h2,-⟩ | ⟨h1,h2,h3⟩⟩
  ·exact fin t u ht (.inl rfl)
  ·have:=up_arr ok hk u h1
   subst this;exact absurd ⟨h1,h2⟩ ha
  ·have n1:=face_nv (m:=m) h1
   have n2:=face_nv (m:=m) h2
   by_cases he:el m x=el m t
   ·have:=face_el h1 h2 he
    subst this;exact fin x u ht (.inl rfl)
   ·refine fin x u n1.2.2.2.2.2.1 (.inr ⟨n2.2.2.1,h1,h2,he,?_⟩)
    rcases h3 with⟨w,l⟩ | ⟨w,l⟩
    ·exact .inl ⟨w,lies_inn ok n1.2.2.2.2.2.2.2 n2.2.2.2.2.2.2.2 l he⟩
    ·exact .inr ⟨w,lies_inn ok n2.2.2.2.2.2.2.2 n1.2.2.2.2.2.2.2 l (Ne.symm he)⟩
theorem ref_tn (ok:WOk m) {k t:Nat}(hk:Subj k) (ht:t≠12) (htr:isRef t=true) (r:Ref m k t):TN m 4 k t:=by
 rcases hk with hk | hk
 ·exact tn_succ _ _ _ (tn3 ok hk ht r)
 ·have via:∀b,RB m k b→isVar b=false→Ref m b t→TN m 4 k t:=fun b hb hbv r'=>
   .inr (.inl ⟨hk,.inr ⟨b,hb,hbv,.inr (.inr (tn3 ok ((rb_lt ok hk hb).2 hbv).1 ht r'))⟩⟩)
  rcases r with u | ⟨x,u,h⟩
  ·rcases(up_var ok k hk t (nv_var (nv_ref htr))).mp u with h | ⟨hf,h⟩ | ⟨b,hb,hbv,hu⟩
   ·exact absurd h ht
   ·exact .inr (.inl ⟨hk,.inl ⟨h,.inl hf⟩⟩)
   ·exact via b hb hbv (.inl hu)
  ·have hx:isVar x=false∧x≠12∧x≠21:=by
    rcases h with⟨h,-⟩ | ⟨h,-⟩
    ·have n:=arr_nv (m:=m) h;exact⟨n.2.1,n.2.2.2.2.2.1,n.2.2.2.2.2.2.1⟩
    ·have n:=face_nv (m:=m) h;exact⟨n.2.1,n.2.2.2.2.2.1,n.2.2.2.2.2.2.1⟩
   rcases(up_var ok k hk x hx.1).mp u with h' | ⟨-,h'⟩ | ⟨b,hb,hbv,hu⟩
   ·exact absurd h' hx.2.1
   ·exact absurd h' hx.2.2
   ·exact via b hb hbv (.inr ⟨x,hu,h⟩)
end
set_option maxRecDepth 20000
noncomputable def ci (l:List Nat):List Int:=l.map fun x:Nat=>(x:Int)
theorem itup_ci (l:List Nat):itup (ci l) = .tup (natL l):=congrArg V.tup List.map_map
noncomputable def numL:List Nat:=[7,8,5,9,6,10,3,4,2,1]
noncomputable def num (i:Nat):Nat:=numL.getD (i % 10) 0
noncomputable def vals (m:Wm):List Nat:=[26,27,28,29].filter fun p=>flag m p==2
noncomputable def ops (m:Wm):List Nat:=[num m.ro,num (m.ro+1),num (m.ro+3),num (m.ro+6),24,25]++vals m
noncomputable def op (m:Wm) (k:Nat):Nat:=(ops m).getD (k - 40) 0
noncomputable def N0 (m:Wm):Nat:=40+(ops m).length
noncomputable def rowS (k:Nat):Ky:=
 if k < 16 then (1,(k:Int),none) else if k < 21 then (2,48+(k:Int),some []) else if k=21 then (2,2,some []) else if k=22 then (2,3,some []) else if k=23 then (2,5,some [])
 else if k < 26 then (3,46+(k:Int),some []) else if k=26 then (6,0,none) else if k=27 then (7,0,none) else if k=28 then (6,1,none) else (7,1,none)
noncomputable def rowOf (m:Wm) (k:Nat):Ky:=
 if k < 30 then rowS k else if k < 40 then (if k % 2=0 then (2,69,some [(el m k:Int)]) else (4,(el m k:Int),none)) else (3,8,some [(op m k:Int)])
noncomputable def R0 (m:Wm):List Ky:=(List.range (N0 m)).map (rowOf m)
noncomputable def bxR (x:Nat):Ky:=(8,(x:Int),none)
noncomputable def ovK:List Nat:=[21,22,23,13,25,19,20,16,17,18,24,7,8,5,9,6,10,3,4,2,1,30,32,34,36,38,31,33,35,37,39]
noncomputable def Dm (m:Wm):HoD where
 bases:=[(17,((over m 17).headD 0:Nat)),(18,((over m 18).headD 0:Nat))]
 ifaces:=ovK.map fun k:Nat=>((k:Int),ci (ifs m k))
 sorts:=[(67,3),(68,3),(69,3),(70,2),(71,5)]
 variances:=[(69,[(m.way:Int)])]
 unders:=[(25,(m.un:Int))]
 bounds:=[26,27,28,29].map fun p:Nat=>((p:Int),ci (bounds m p))
 gflags:=[26,27,28,29].map fun p:Nat=>((p:Int),(flag m p:Int))
theorem lget_map {α:Type}(l:List Nat) (f:Nat→α) (k:Nat):lget (l.map fun x:Nat=>((x:Int),f x)) (k:Int)=if k∈l then some (f k) else none:=by
 induction l with
 | nil=>rfl
 | cons a l ih=>
  unfold lget at ih ⊢
  rw[List.map_cons,List.find?_cons]
  by_cases h:a=k
  ·subst h;simp
  ·have:¬((a:Int)=k):=fun e=>h (Int.ofNat.inj e)
   have h':¬k=a:=fun e=>h e.symm
   simp only[this,decide_false,List.mem_cons,h',false_or]
   exact ih
section
variable {m:Wm}{k:Nat}
theorem vals_len (m:Wm):(vals m).length≤4:=by
 unfold vals;exact List.length_filter_le _ _
theorem n0_le (m:Wm):N0 m≤50∧46≤N0 m:=by
 have:=vals_len m
 exact⟨Nat.add_le_add_left (Nat.add_le_add_right this 6) 40,Nat.add_le_add_left (Nat.le_add_left 6 (vals m).length) 40⟩
theorem r0_len (m:Wm):(R0 m).length=N0 m:=by simp[R0]
theorem r0_get (h:k < N0 m):(R0 m)[k]?=some (rowOf m k):=by simp[R0,h]
theorem nv_n0 (h:k∈nvL):k < N0 m:=by
 have:∀k∈nvL,k < 40:=by decide
 exact Nat.lt_of_lt_of_le (this k h) (Nat.le_trans (by decide) (n0_le m).2)
theorem var_n0 (h:isVar k=true):k < N0 m:=by
 exact n0l (n0_le m).2 (Nat.ble_eq_true_of_le (Nat.le_trans (isVar_iff.mp h).2 (by decide)))
theorem rowOf_lt (h:k < 30):rowOf m k=rowS k:=by unfold rowOf;rw[if_pos h]
theorem rowOf_face (h:isFace k=true):rowOf m k=(2,69,some [(el m k:Int)]):=by
 have hx:=face_ge h
 unfold rowOf
 rw[if_neg (Nat.not_lt.mpr hx.1),if_pos (Nat.lt_succ_of_le (Nat.le_succ_of_le hx.2.1)),if_pos hx.2.2]
theorem rowOf_arr (h:isArr k=true):rowOf m k=(4,(el m k:Int),none):=by
 have hx:=arr_ge h
 unfold rowOf
 rw[if_neg (Nat.not_lt.mpr (Nat.le_of_succ_le hx.1)),if_pos (Nat.lt_succ_of_le hx.2.1),if_neg (by rw[hx.2.2];decide)]
theorem rowOf_opt (h:isOpt k=true):rowOf m k=(3,8,some [(op m k:Int)]):=by
 have hx:40≤k:=by simpa[isOpt] using h
 unfold rowOf
 rw[if_neg (Nat.not_lt.mpr (Nat.le_trans (by decide) hx)),if_neg (Nat.not_lt.mpr hx)]
theorem k_cases (k:Nat):k < 30∨isFace k=true∨isArr k=true∨isOpt k=true:=by
 rcases Nat.lt_or_ge k 40 with h | h
 ·exact((by decide:∀k,k < 40→k < 30∨isFace k=true∨isArr k=true) k h).imp_right fun h=>h.imp_right .inl
 ·exact .inr (.inr (.inr (decide_eq_true h)))
theorem opt_ge (h:isOpt k=true):40≤k:=by simpa[isOpt] using h
theorem face_fl (h:isFace k=true):isVar k=false∧isArr k=false∧isVal k=false∧isOpt k=false∧isIf k=true∧isRef k=true∧¬k < 16∧¬k < 30∧k≠25∧k∈ovK:=by
 have g:=face_ge h
 have:∀k < 39,isFace k=true→isVar k=false∧isArr k=false∧isVal k=false∧isOpt k=false∧isIf k=true∧isRef k=true∧¬k < 16∧¬k < 30∧k≠25∧k∈ovK:=by decide
 exact this k (Nat.lt_succ_of_le g.2.1) h
theorem arr_fl (h:isArr k=true):isVar k=false∧isFace k=false∧isVal k=false∧isOpt k=false∧isIf k=false∧isRef k=true∧¬k < 16∧¬k < 30∧k≠25∧k∈ovK:=by
 have g:=arr_ge h
 have:∀k < 40,isArr k=true→isVar k=false∧isFace k=false∧isVal k=false∧isOpt k=false∧isIf k=false∧isRef k=true∧¬k < 16∧¬k < 30∧k≠25∧k∈ovK:=by decide
 exact this k (Nat.lt_succ_of_le g.2.1) h
theorem opt_fl (h:isOpt k=true):isVar k=false∧isFace k=false∧isArr k=false∧isVal k=true∧isIf k=false∧isRef k=false∧¬k < 16∧¬k < 30∧k≠25:=by
 have g:=opt_ge h
 have nle:∀{c},c < 40→decide (k≤c)=false:=fun hc=>decide_eq_false (Nat.not_le.mpr (Nat.lt_of_lt_of_le hc g))
 have ne:∀{c},c < 40→(k==c)=false:=fun hc=>beq_eq_false_iff_ne.mpr (Nat.ne_of_gt (Nat.lt_of_lt_of_le hc g))
 have e1:isFace k=false:=by unfold isFace;rw[nle (by decide),Bool.and_false,Bool.false_and]
 have e2:isArr k=false:=by unfold isArr;rw[nle (by decide),Bool.and_false,Bool.false_and]
 have e3:isVar k=false:=by unfold isVar;rw[nle (by decide),Bool.and_false]
 exact⟨e3,e1,e2,by unfold isVal;rw[decide_eq_true g,Bool.or_true],by unfold isIf;rw[e1,ne (by decide),ne (by decide)];rfl,by unfold isRef;rw[ne (by decide),ne (by decide),nle (by decide),nle (by decide),Bool.and_false,Bool.and_false];rfl,Nat.not_lt.mpr (Nat.le_trans (by decide) g),Nat.not_lt.mpr (Nat.le_trans (by decide) g),Nat.ne_of_gt (Nat.lt_of_lt_of_le (by decide) g)⟩
theorem row_var:varR (rowOf m k)=isVar k:=by
 rcases k_cases k with h | h | h | h
 ·rw[rowOf_lt h]
  have:∀k < 30,varR (rowS k)=isVar k:=by decide
  exact this k h
 ·rw[rowOf_face h,(face_fl h).1];rfl
 ·rw[rowOf_arr h,(arr_fl h).1];rfl
 ·rw[rowOf_opt h,(opt_fl h).1];rfl
theorem row_ref (h14:k≠14):refR k (rowOf m k)=isRef k:=by
 rcases k_cases k with h | h | h | h
 ·rw[rowOf_lt h]
  have:∀k < 30,k≠14→refR k (rowS k)=isRef k:=by decide
  exact this k h h14
 ·rw[rowOf_face h,(face_fl h).2.2.2.2.2.1]
  show((k==12 || k==13 || k==14) || true || false || false)=true
  rw[Bool.or_true];rfl
 ·rw[rowOf_arr h,(arr_fl h).2.2.2.2.2.1]
  show((k==12 || k==13 || k==14) || false || true || false)=true
  rw[Bool.or_true];rfl
 ·have g:=opt_ge h
  rw[rowOf_opt h,(opt_fl h).2.2.2.2.2.1]
  have ne:∀{c},c < 40→(k==c)=false:=fun hc=>beq_eq_false_iff_ne.mpr (Nat.ne_of_gt (Nat.lt_of_lt_of_le hc g))
  show((k==12 || k==13 || k==14) || false || false || false)=false
  rw[ne (by decide),ne (by decide),ne (by decide)];rfl
theorem row_val:valR k (rowOf m k)=isVal k:=by
 rcases k_cases k with h | h | h | h
 ·rw[rowOf_lt h]
  have:∀k < 30,valR k (rowS k)=isVal k:=by decide
  exact this k h
 ·rw[rowOf_face h,(face_fl h).2.2.1]
  show(decide (1≤k∧k≤11) || false)=false
  rw[decide_eq_false fun h'=>absurd h'.2 (Nat.not_le.mpr (Nat.lt_of_lt_of_le (by decide) (face_ge h).1))];rfl
 ·rw[rowOf_arr h,(arr_fl h).2.2.1]
  show(decide (1≤k∧k≤11) || false)=false
  rw[decide_eq_false fun h'=>absurd h'.2 (Nat.not_le.mpr (Nat.lt_of_lt_of_le (by decide) (arr_ge h).1))];rfl
 ·rw[rowOf_opt h,(opt_fl h).2.2.2.1];exact Bool.or_true _
theorem row_null:nullR k (rowOf m k)=isOpt k:=by
 rcases k_cases k with h | h | h | h
 ·rw[rowOf_lt h]
  have:∀k < 30,nullR k (rowS k)=isOpt k:=by decide
  exact this k h
 ·rw[rowOf_face h,(face_fl h).2.2.2.1];rfl
 ·rw[rowOf_arr h,(arr_fl h).2.2.2.1];rfl
 ·rw[rowOf_opt h,h];rfl
noncomputable def sortK (k:Nat):Int:=if k < 16 then 1 else if isVar k then (if k % 2=0 then 6 else 7) else if isArr k then 4 else if isVal k then 3 else 2
theorem row_sort:(rowOf m k).1=sortK k:=by
 rcases k_cases k with h | h | h | h
 ·rw[rowOf_lt h]
  have:∀k < 30,(rowS k).1=sortK k:=by decide
  exact this k h
 ·refine Classical.byContradiction fun kk=>?_
  obtain⟨e1,e2,e3,-,-,-,h16,-,-,-⟩:=face_fl h
  refine kk ?_
  rw[rowOf_face h];unfold sortK;rw[e1,e2,e3,if_neg h16];rfl
 ·obtain⟨e1,-,-,-,-,-,h16,-,-,-⟩:=arr_fl h
  rw[rowOf_arr h];unfold sortK;rw[e1,h,if_neg h16];rfl
 ·obtain⟨e1,-,e2,e3,-,-,h16,-,-⟩:=opt_fl h
  rw[rowOf_opt h];unfold sortK;rw[e1,e2,e3,if_neg h16];rfl
noncomputable def tidK (k:Nat):Int:=if k < 30 then tidR k (rowS k) else if isFace k then 69 else if isArr k then 5 else 8
theorem row_tid:tidR k (rowOf m k)=tidK k:=by
 rcases k_cases k with h | h | h | h
 ·rw[rowOf_lt h];unfold tidK;rw[if_pos h]
 ·rw[rowOf_face h];unfold tidK;rw[if_neg (face_fl h).2.2.2.2.2.2.2.1,if_pos h];rfl
 ·rw[rowOf_arr h];unfold tidK;rw[if_neg (arr_fl h).2.2.2.2.2.2.2.1,(arr_fl h).2.1,h];rfl
 ·rw[rowOf_opt h];unfold tidK;rw[if_neg (opt_fl h).2.2.2.2.2.2.2.1,(opt_fl h).2.1,(opt_fl h).2.2.1];rfl
noncomputable def argK (m:Wm) (k:Nat):List Nat:=if isFace k then [el m k] else if isOpt k then [op m k] else []
theorem row_args:argsR (rowOf m k)=ci (argK m k)∧Good (rowOf m k):=by
 rcases k_cases k with h | h | h | h
 ·rw[rowOf_lt h]
  have g:=face_ge (k:=k)
  have g2:=opt_ge (k:=k)
  have e:argK m k=[]:=by
   unfold argK
   rw[if_neg (fun h'=>absurd h (Nat.not_lt.mpr (g h').1)),if_neg (fun h'=>absurd h (Nat.not_lt.mpr (Nat.le_trans (by decide) (g2 h'))))]
  rw[e]
  have:∀k < 30,argsR (rowS k)=[]∧((rowS k).1=2∨(rowS k).1=3↔(rowS k).2.2.isSome=true):=by decide
  exact this k h
 ·rw[rowOf_face h];unfold argK;rw[if_pos h];exact⟨rfl,by simp[Good]⟩
 ·rw[rowOf_arr h];unfold argK;rw[(arr_fl h).2.1,(arr_fl h).2.2.2.1];exact⟨rfl,by simp[Good]⟩
 ·rw[rowOf_opt h];unfold argK;rw[(opt_fl h).2.1,h];exact⟨rfl,by simp[Good]⟩
theorem row_elem (h:isArr k=true):elemR (rowOf m k)=(el m k:Int):=by rw[rowOf_arr h];rfl
noncomputable def psK (k:Nat):Int:=if isIf k then 3 else if isVar k then 0 else if k=25 then 5 else if isVal k then 2 else if tidK k≠0 then 1 else 0
noncomputable def psF (v:Bool) (t:Int) (u a:Bool):Int:=if v then 0 else match lget [(67,3),(68,3),(69,3),(70,2),(71,5)] t with
 | some s=>s
 | none=>if a then (if u then 5 else 2) else if t≠0 then 1 else 0
theorem row_psort:psort (Dm m) k (rowOf m k)=psK k:=by
 have hu:(lget (Dm m).unders (k:Int)).isSome=(k==25):=by
  have e:lget (Dm m).unders (k:Int)=if k∈[25] then some (m.un:Int) else none:=lget_map [25] (fun Z=>(m.un:Int)) k
  rw[e]
  by_cases h:k=25
  ·subst h;rfl
  ·rw[if_neg fun h'=>h (List.mem_singleton.mp h'),beq_eq_false_iff_ne.mpr h];rfl
 show psF (varR (rowOf m k)) (tidR k (rowOf m k)) (lget (Dm m).unders (k:Int)).isSome (valR k (rowOf m k))=_
 rw[row_var,row_val,row_tid,hu]
 rcases k_cases k with h | h | h | h
 ·have:∀k < 30,psF (isVar k) (tidK k) (k==25) (isVal k)=psK k:=by decide
  exact this k h
 ·refine Classical.byContradiction fun kk=>?_
  obtain⟨e1,e2,e3,-,e5,-,-,h30,h25,-⟩:=face_fl h
  have t:tidK k=69:=by unfold tidK;rw[if_neg h30,if_pos h]
  have p:psK k=3:=by unfold psK;rw[if_pos e5]
  refine kk ?_
  rw[e1,t,p];rfl
 ·obtain⟨e1,e2,e3,-,e5,-,-,h30,h25,-⟩:=arr_fl h
  have t:tidK k=5:=by unfold tidK;rw[if_neg h30,if_neg (by rw[e2];decide),if_pos h]
  have p:psK k=1:=by unfold psK;rw[e5,e1,e3,t,if_neg h25];rfl
  rw[e1,t,p,e3];rfl
 ·refine Classical.byContradiction fun kk=>?_
  obtain⟨e1,e2,e3,e4,e5,-,-,h30,h25⟩:=opt_fl h
  have t:tidK k=8:=by unfold tidK;rw[if_neg h30,if_neg (by rw[e2];decide),if_neg (by rw[e3];decide)]
  have p:psK k=2:=by unfold psK;rw[e5,e1,e4,if_neg h25];rfl
  refine kk ?_
  rw[e1,t,p,e4,beq_eq_false_iff_ne.mpr h25];rfl
theorem row_if:ifaceR (Dm m) k (rowOf m k)=isIf k:=by
 unfold ifaceR
 rw[row_psort,row_sort]
 rcases k_cases k with h | h | h | h
 ·have:∀k < 30,(sortK k==2&&psK k==3)=isIf k:=by decide
  exact this k h
 ·refine Classical.byContradiction fun kk=>?_
  obtain⟨e1,e2,e3,-,e5,-,h16,-,-,-⟩:=face_fl h
  refine kk ?_
  unfold sortK psK;rw[e5,e1,e2,e3,if_neg h16];rfl
 ·obtain⟨e1,e2,e3,-,e5,-,h16,-,-,-⟩:=arr_fl h
  unfold sortK;rw[e5,e1,h,if_neg h16];rfl
 ·obtain⟨e1,e2,e3,e4,e5,-,h16,-,-⟩:=opt_fl h
  unfold sortK;rw[e5,e1,e3,e4,if_neg h16];rfl
theorem row_ps4:psort (Dm m) k (rowOf m k)≠4:=by
 rw[row_psort];unfold psK
 (repeat' split) <;> decide
noncomputable def pbK (m:Wm) (k:Nat):Int:=match (if k∈[17,18] then some (((over m k).headD 0:Nat):Int) else none) with
 | some b=>b
 | none=>if k=12 then -1 else if k=13 then 12 else if sortK k=4 then 23 else if isVal k then (if psK k=5 then 22 else 21) else if sortK k≠2∨psK k=3 then -1 else if tidK k=3 then 21 else 12
theorem row_base (h:k∈nvL):pbase (Dm m) k (rowOf m k)=bsI m k:=by
 have e:pbase (Dm m) k (rowOf m k)=pbK m k:=by
  unfold pbK
  rw[←lget_map [17,18] (fun k=>(((over m k).headD 0:Nat):Int)) k]
  unfold pbase;rw[row_sort,row_val,row_psort,row_tid]
  all_goals rfl
 rw[e]
 refine nv_all (P:=fun k=>pbK m k=bsI m k) ?_ h
 and_intros <;> first | rfl | (simp only[pbK,bsI,bss,ovs,List.headD_cons];rfl)
theorem row_ifs (h:isVar k=false):pif (Dm m) k=ci (ifs m k):=by
 unfold pif
 have e:lget (Dm m).ifaces (k:Int)=if k∈ovK then some (ci (ifs m k)) else none:=lget_map ovK (fun k=>ci (ifs m k)) k
 rw[e]
 by_cases hk:k∈ovK
 ·rw[if_pos hk];rfl
 ·rw[if_neg hk]
  have:over m k=[]:=by
   rcases k_cases k with h' | h' | h' | h'
   ·have:∀k < 30,isVar k=false→k∉ovK→k=0∨k=11∨k=12∨k=14∨k=15:=by decide
    rcases this k h' h hk with e | e | e | e | e <;> rw[e] <;> rfl
   ·exact absurd (face_fl h').2.2.2.2.2.2.2.2.2 hk
   ·exact absurd (arr_fl h').2.2.2.2.2.2.2.2.2 hk
   ·have g:=opt_ge h'
    unfold over
    rw[h,(opt_fl h').2.1,(opt_fl h').2.2.1]
    obtain⟨j,rfl⟩:∃j,k=j+40:=⟨k - 40,(Nat.sub_add_cancel g).symm⟩
    rfl
  unfold ifs;rw[this];rfl
theorem var_mem (h:isVar k=true):k∈[26,27,28,29]:=(by decide:∀k < 30,isVar k=true→k∈[26,27,28,29]) k (Nat.lt_succ_of_le (isVar_iff.mp h).2) h
theorem row_bounds (h:isVar k=true):lget (Dm m).bounds (k:Int)=some (ci (bounds m k)):=by
 have e:lget (Dm m).bounds (k:Int)=if k∈[26,27,28,29] then some (ci (bounds m k)) else none:=lget_map [26,27,28,29] (fun k=>ci (bounds m k)) k
 rw[e,if_pos (var_mem h)]
theorem row_gflags:(lget (Dm m).gflags (k:Int)).getD 0=if isVar k then (flag m k:Int) else 0:=by
 have e:lget (Dm m).gflags (k:Int)=if k∈[26,27,28,29] then some (flag m k:Int) else none:=lget_map [26,27,28,29] (fun k=>(flag m k:Int)) k
 rw[e]
 cases h:isVar k with
 | true=>rw[if_pos (var_mem h)];rfl
 | false=>
  rw[if_neg];rfl
  intro h'
  rw[(by decide:∀k∈[26,27,28,29],isVar k=true) k h']at h;cases h
end
set_option maxRecDepth 20000
structure WL where
 w:Nat
 cl:Nat
 ba:Nat
 pl:Nat
 ro:Nat
 ov:Nat
 fa:Nat
 ar:Nat
 fl:Nat
 re:Nat
 op:Nat
 nu:Nat
 ol:Nat→Nat
noncomputable def ovA:List Nat:=ovK++[26,27,28,29]
noncomputable def faL:List Nat:=[30,32,34,36,38]
noncomputable def arL:List Nat:=[31,33,35,37,39]
noncomputable def refL:List Nat:=[12,13,16,17,18,19,20,21,22,23,30,32,34,36,38,31,33,35,37,39]
noncomputable def optL (m:Wm):List Nat:=(List.range (ops m).length).map (40 + ·)
structure WAt (σ:Store) (W:WL) (m:Wm):Prop where
 d:σ[W.w]?=some (.dS [(0,.int 25),(3,.loc W.cl),(10,.loc W.ba),(11,.loc W.pl),(9,.loc W.ro),(7,.int (m.way:Int)),(1,.loc W.ov),(6,.loc W.fa),(5,.loc W.ar),(2,.loc W.fl),(4,.loc W.re),(8,.loc W.op),(12,.loc W.nu)])
 cl:σ[W.cl]?=some (.list (natL [17,18,16]))
 pl:σ[W.pl]?=some (.list (natL [24,25,7]))
 ov:σ[W.ov]?=some (.dI (ovA.map fun k:Nat=>((k:Int),.loc (W.ol k))))
 ol:∀k∈ovA,σ[W.ol k]?=some (.list (natL (over m k)))
 fa:σ[W.fa]?=some (.dI (faL.map fun k:Nat=>((k:Int),.int (el m k:Int))))
 ar:σ[W.ar]?=some (.dI (arL.map fun k:Nat=>((k:Int),.int (el m k:Int))))
 fl:σ[W.fl]?=some (.dI ([26,27,28,29].map fun k:Nat=>((k:Int),.int (flag m k:Int))))
 re:σ[W.re]?=some (.list (natL refL))
 op:σ[W.op]?=some (.dI ((optL m).map fun k:Nat=>((k:Int),.int (Mine.op m k:Int))))
 nu:σ[W.nu]?=some (.list (natL numL))
structure Pl where
 L:KtL
 H:HoL
 W:WL
 top:Nat
noncomputable def Pl.mut (P:Pl):List Nat:=[P.L.r,P.L.x,P.L.de,P.L.we,P.L.op]
noncomputable def Below (P:Pl) (σ σ':Store):Prop:=∀i o,i < P.top→i∉P.mut→σ[i]?=some o→σ'[i]?=some o
noncomputable def rowsM (m:Wm) (bx:List Nat):List Ky:=R0 m++bx.map bxR
noncomputable def Bxk (x:Nat):Prop:=(isVal x=true∧x∈nvL)∨isVar x=true
structure Inv (m:Wm) (P:Pl) (σ:Store) (bx:List Nat):Prop where
 ok:WOk m
 kt:∃de we op,KtAt σ P.L (rowsM m bx) de we op∧(∀d∈de,d≤20)∧(∀i w,i < N0 m→we[i]?=some w→w≤10)∧(∀w∈we,w≤11)
 hw:∀σ',Below P σ σ'→HoAt σ' P.L P.H (Dm m)∧WAt σ' P.W m
 nd:bx.Nodup
 bx:∀x∈bx,Bxk x
 len:P.top≤σ.length
 lt:∀i∈[P.L.i,P.L.d,P.L.r,P.L.x,P.L.de,P.L.we,P.L.op],i < P.top
section
variable {m:Wm}{P:Pl}{σ σ' σ'':Store}{bx bx' bx'':List Nat}{n k x i:Nat}{Q:Post}{M M':List Nat}
theorem Inv.ho (I:Inv m P σ bx):HoAt σ P.L P.H (Dm m):=(I.hw σ fun Z Z Z Z e=>e).1
theorem Inv.wa (I:Inv m P σ bx):WAt σ P.W m:=(I.hw σ fun Z Z Z Z e=>e).2
theorem Inv.above (I:Inv m P σ bx) (h:∀i o,i < P.top→σ[i]?=some o→σ'[i]?=some o) (hl:P.top≤σ'.length):Inv m P σ' bx:=by
 obtain⟨de,we,op,K,h1,h2,h3⟩:=I.kt
 have g:∀i∈[P.L.i,P.L.d,P.L.r,P.L.x,P.L.de,P.L.we,P.L.op],∀o,σ[i]?=some o→σ'[i]?=some o:=fun i hi o e=>h i o (I.lt i hi) e
 refine⟨I.ok,⟨de,we,op,K.keep g,h1,h2,h3⟩,
  fun σ'' b=>I.hw σ'' fun i o hi hm e=>b i o hi hm (h i o hi e),I.nd,I.bx,hl,I.lt⟩
theorem gw_len (g:Gw σ σ'):σ.length≤σ'.length:=by
 cases h:σ.length with
 | zero=>exact Nat.zero_le _
 | succ n=>exact get_lt (g n _ (List.getElem?_eq_getElem (h▸Nat.lt_succ_self n)))
theorem Inv.gw (I:Inv m P σ bx) (g:Gw σ σ'):Inv m P σ' bx:=I.above (fun i o Z e=>g i o e) (Nat.le_trans I.len (gw_len g))
structure Nx (m:Wm) (P:Pl) (M:List Nat) (σ:Store) (bx:List Nat) (σ':Store) (bx':List Nat):Prop where
 inv:Inv m P σ' bx'
 kp:∀i o,σ[i]?=some o→i∉P.mut→i∉M→σ'[i]?=some o
 pre:bx <+:bx'
theorem Nx.refl (I:Inv m P σ bx):Nx m P M σ bx σ bx:=⟨I,fun Z Z e Z Z=>e,List.prefix_refl _⟩
theorem Nx.gw (I:Inv m P σ bx) (g:Gw σ σ'):Nx m P M σ bx σ' bx:=⟨I.gw g,fun i o e Z Z=>g i o e,List.prefix_refl _⟩
theorem Nx.trans (x:Nx m P M σ bx σ' bx') (y:Nx m P M σ' bx' σ'' bx''):Nx m P M σ bx σ'' bx'':=
 ⟨y.inv,fun i o e h1 h2=>y.kp i o (x.kp i o e h1 h2) h1 h2,x.pre.trans y.pre⟩
theorem Nx.weak (x:Nx m P M σ bx σ' bx') (h:∀i∈M,i∈M'):Nx m P M' σ bx σ' bx':=⟨x.inv,fun i o e h1 h2=>x.kp i o e h1 fun h'=>h2 (h i h'),x.pre⟩
theorem Nx.any (x:Nx m P [] σ bx σ' bx'):Nx m P M σ bx σ' bx':=x.weak fun i h=>absurd h List.not_mem_nil
theorem Inv.mut_lt (I:Inv m P σ bx) (h:i∈P.mut):i < P.top:=I.lt i (.tail _ (.tail _ h))
theorem Nx.hi (x:Nx m P [] σ bx σ' bx') (I:Inv m P σ bx) {o:O}(h:P.top≤i) (e:σ[i]?=some o):σ'[i]?=some o:=
 x.kp i o e (fun h'=>Nat.lt_irrefl _ (Nat.lt_of_lt_of_le (I.mut_lt h') h)) (by simp)
theorem rows_st (I:Inv m P σ bx) (h:k < N0 m):(rowsM m bx)[k]?=some (rowOf m k):=by
 unfold rowsM
 rw[List.getElem?_append_left (by rw[r0_len];exact h)]
 exact r0_get h
theorem rows_bx (e:bx[i]?=some x):(rowsM m bx)[N0 m+i]?=some (bxR x):=by
 unfold rowsM
 rw[List.getElem?_append_right (by rw[r0_len];exact Nat.le_add_right ..),r0_len,Nat.add_sub_cancel_left,List.getElem?_map,e];rfl
theorem rowOf_ne8:(rowOf m k).1≠8:=by
 rw[row_sort];unfold sortK
 (repeat' split) <;> decide
theorem rows_inv (e:(rowsM m bx)[i]?=some (bxR x)):∃j,bx[j]?=some x∧i=N0 m+j:=by
 unfold rowsM at e
 by_cases h:i < N0 m
 ·rw[List.getElem?_append_left (by rw[r0_len];exact h),r0_get h]at e
  exact absurd (by rw[Option.some.inj e];rfl) (rowOf_ne8 (m:=m) (k:=i))
 ·rw[List.getElem?_append_right (by rw[r0_len];exact Nat.not_lt.mp h),r0_len,List.getElem?_map]at e
  cases h':bx[i - N0 m]? with
  | none=>rw[h']at e;cases e
  | some y=>
   rw[h']at e
   have:bxR y=bxR x:=Option.some.inj e
   cases Int.ofNat.inj (congrArg (fun r:Ky=>r.2.1) this)
   exact⟨i - N0 m,h',(Nat.add_sub_cancel' (Nat.not_lt.mp h)).symm⟩
theorem num_mod (r j:Nat):num (r+j)=num (r % 10+j):=by unfold num;rw[Nat.mod_add_mod]
theorem ops_nodup (m:Wm):(ops m).Nodup:=by
 have s:∀r < 10,[num (r+0),num (r+1),num (r+3),num (r+6),24,25].Nodup∧∀a∈[num (r+0),num (r+1),num (r+3),num (r+6),24,25],a < 26:=by decide +kernel
 have:=s (m.ro % 10) (Nat.mod_lt _ (by decide))
 rw[←num_mod,←num_mod,←num_mod,←num_mod]at this
 unfold ops
 rw[List.nodup_append]
 refine⟨this.1,List.Nodup.sublist List.filter_sublist (by decide),fun a ha b hb hab=>?_⟩
 have h2:∀b∈[26,27,28,29],¬b < 26:=by decide
 exact h2 b (List.mem_filter.mp hb).1 (hab▸this.2 a ha)
theorem op_inj {k k':Nat}(h:isOpt k=true) (h':isOpt k'=true) (l:k < N0 m) (l':k' < N0 m) (e:op m k=op m k'):k=k':=by
 have g:=opt_ge h
 have g':=opt_ge h'
 have:=getD_inj (ops_nodup m) (Nat.sub_lt_left_of_lt_add g l) (Nat.sub_lt_left_of_lt_add g' l') e
 rw[←Nat.sub_add_cancel g,this,Nat.sub_add_cancel g']
noncomputable def codeR (r:Ky):Nat:=if r.1=4 then 2 else if r.2.1=69 then 1 else if r.1=3∧r.2.1=8 then 3 else 0
theorem code_of (m:Wm) (k:Nat):(k < 30∧codeR (rowOf m k)=0)∨(isFace k=true∧codeR (rowOf m k)=1)∨(isArr k=true∧codeR (rowOf m k)=2)∨(isOpt k=true∧codeR (rowOf m k)=3):=by
 rcases k_cases k with h | h | h | h
 ·have s:∀k < 30,codeR (rowS k)=0:=by decide
  exact .inl ⟨h,by rw[rowOf_lt h];exact s k h⟩
 ·exact .inr (.inl ⟨h,by rw[rowOf_face h];rfl⟩)
 ·exact .inr (.inr (.inl ⟨h,by rw[rowOf_arr h];rfl⟩))
 ·exact .inr (.inr (.inr ⟨h,by rw[rowOf_opt h];rfl⟩))
theorem rowOf_inj {k k':Nat}(l:k < N0 m) (l':k' < N0 m) (e:rowOf m k=rowOf m k'):k=k':=by
 have e':=congrArg codeR e
 rcases code_of m k with⟨h,c⟩ | ⟨h,c⟩ | ⟨h,c⟩ | ⟨h,c⟩ <;> rcases code_of m k' with⟨h',c'⟩ | ⟨h',c'⟩ | ⟨h',c'⟩ | ⟨h',c'⟩ <;> (first | exact absurd (c.symm.trans (e'.trans c')) (by decide) | skip)
 ·have s2:∀k < 30,∀k' < 30,rowS k=rowS k'→k=k':=by decide +kernel
  rw[rowOf_lt h,rowOf_lt h']at e
  exact s2 k h k' h' e
 ·rw[rowOf_face h,rowOf_face h']at e
  exact face_el (m:=m) h h' (Int.ofNat.inj (by simpa using e))
 ·rw[rowOf_arr h,rowOf_arr h']at e
  have s:∀x < 40,isArr x=true→∀y < 40,isArr y=true→(x - 30) / 2=(y - 30) / 2→x=y:=by decide +kernel
  have lt:=Nat.lt_succ_of_le (arr_ge h).2.1
  have lt':=Nat.lt_succ_of_le (arr_ge h').2.1
  exact s k lt h k' lt' h' (getD_inj (hl_nodup m) (slot_lt k lt) (slot_lt k' lt') (Int.ofNat.inj (congrArg (·.2.1) e)))
 ·rw[rowOf_opt h,rowOf_opt h']at e
  exact op_inj h h' l l' (Int.ofNat.inj (by simpa using e))
theorem r0_nodup (m:Wm):(R0 m).Nodup:=by
 unfold R0
 rw[List.Nodup,List.pairwise_map]
 exact List.Pairwise.imp_of_mem (fun ha hb hab e=>hab (rowOf_inj (List.mem_range.mp ha) (List.mem_range.mp hb) e)) List.nodup_range
theorem rows_nodup (I:Inv m P σ bx):(rowsM m bx).Nodup:=by
 unfold rowsM
 rw[List.nodup_append]
 refine⟨r0_nodup m,?_,?_⟩
 ·refine List.Pairwise.map _ (fun a b hab e=>?_) I.nd
  simp only[bxR,Prod.mk.injEq,and_true,true_and]at e
  exact hab (Int.ofNat.inj e)
 ·intro a ha b hb hab
  subst hab
  obtain⟨x,-,rfl⟩:=List.mem_map.mp hb
  obtain⟨k,-,e⟩:=List.mem_map.mp ha
  exact rowOf_ne8 (m:=m) (k:=k) (by rw[e];rfl)
theorem bxk_lt (h:Bxk x):x < 40∧x < N0 m:=by
 rcases h with⟨-,h⟩ | h
 ·have:∀k∈nvL,k < 40:=by decide
  exact⟨this x h,nv_n0 h⟩
 ·rw[isVar_iff]at h
  exact⟨Nat.lt_of_le_of_lt h.2 (by decide),Nat.lt_of_le_of_lt h.2 (Nat.lt_of_lt_of_le (by decide) (n0_le m).2)⟩
theorem bx_len (I:Inv m P σ bx):bx.length≤40:=nodup_le 40 bx I.nd fun x hx=>(bxk_lt (m:=m) (I.bx x hx)).1
theorem roots (I:Inv m P σ bx):Roots (rowsM m bx):=by
 have n0:=n0_le m
 refine⟨rows_nodup I,?_,?_,?_⟩ <;> (rw[rows_st I (n0l n0.2 rfl)];rfl)
theorem i_var (I:Inv m P σ bx) (h:k < N0 m) (q:Q (.bool (isVar k)) σ):C (n+2) 20 [.loc P.L.i,.int k] σ Q:=by
 refine Classical.byContradiction fun kk=>?_
 obtain⟨de,we,op,K,-⟩:=I.kt
 refine kk ?_
 exact c_is_var K (rows_st I h) (by rw[row_var];exact q)
theorem i_ref (I:Inv m P σ bx) (h:k < N0 m) (h14:k≠14) (q:Q (.bool (isRef k)) σ):C (n+2) 19 [.loc P.L.i,.int k] σ Q:=by
 obtain⟨de,we,op,K,-⟩:=I.kt
 exact c_is_ref K (rows_st I h) (by rw[row_ref h14];exact q)
theorem i_val (I:Inv m P σ bx) (h:k < N0 m) (q:Q (.bool (isVal k)) σ):C (n+2) 18 [.loc P.L.i,.int k] σ Q:=by
 refine Classical.byContradiction fun kk=>?_
 obtain⟨de,we,op,K,-⟩:=I.kt
 refine kk ?_
 exact c_is_value K (rows_st I h) (by rw[row_val];exact q)
theorem i_sort (I:Inv m P σ bx) (h:k < N0 m) (q:Q (.int (sortK k)) σ):C (n+2) 14 [.loc P.L.i,.int k] σ Q:=by
 refine Classical.byContradiction fun kk=>?_
 obtain⟨de,we,op,K,-⟩:=I.kt
 refine kk ?_
 exact c_kind_sort K (rows_st I h) (by rw[row_sort];exact q)
theorem i_tid (I:Inv m P σ bx) (h:k < N0 m) (q:Q (.int (tidK k)) σ):C (n+2) 16 [.loc P.L.i,.int k] σ Q:=by
 refine Classical.byContradiction fun kk=>?_
 obtain⟨de,we,op,K,-⟩:=I.kt
 refine kk ?_
 exact c_tid_of K (rows_st I h) (by rw[row_tid];exact q)
theorem i_args (I:Inv m P σ bx) (h:k < N0 m) (q:Q (.tup (natL (argK m k))) σ):C (n+2) 17 [.loc P.L.i,.int k] σ Q:=by
 refine Classical.byContradiction fun kk=>?_
 obtain⟨de,we,op,K,-⟩:=I.kt
 refine kk ?_
 refine c_args_of K (rows_st I h) row_args.2 ?_
 rw[row_args.1]
 have:=itup_ci (argK m k)
 unfold itup at this
 rw[this];exact q
theorem i_elem (I:Inv m P σ bx) (h:k < N0 m) (ha:isArr k=true) (q:Q (.int (el m k:Int)) σ):C (n+2) 15 [.loc P.L.i,.int k] σ Q:=by
 obtain⟨de,we,op,K,-⟩:=I.kt
 exact c_elem_of K (rows_st I h) (by rw[row_elem ha];exact q)
theorem i_null (I:Inv m P σ bx) (h:k < N0 m) (q:Q (.bool (isOpt k)) σ):C (n+3) 32 [.loc P.L.i,.int k] σ Q:=by
 refine Classical.byContradiction fun kk=>?_
 obtain⟨de,we,op,K,-⟩:=I.kt
 refine kk ?_
 exact c_is_nullable K (rows_st I h) (by rw[row_null];exact q)
theorem i_if (I:Inv m P σ bx) (h:k < N0 m) (q:Q (.bool (isIf k)) σ):C (n+5) 26 [.loc P.H.i,.int k] σ Q:=by
 obtain⟨de,we,op,K,-⟩:=I.kt
 exact c_is_iface K I.ho (rows_st I h) (by rw[row_if];exact q)
theorem b_row (I:Inv m P σ bx) (e:bx[i]?=some x):(rowsM m bx)[N0 m+i]?=some (8,(x:Int),none):=rows_bx e
theorem b_ref (I:Inv m P σ bx) (e:bx[i]?=some x) (q:Q (.bool true) σ):C (n+2) 19 [.loc P.L.i,.int ((N0 m+i:Nat):Int)] σ Q:=by
 obtain⟨de,we,op,K,-⟩:=I.kt
 refine c_is_ref K (b_row I e) ?_
 have n0:=n0_le m
 have:refR (N0 m+i) (8,(x:Int),none)=true:=by simp[refR]
 rw[this];exact q
theorem b_sort (I:Inv m P σ bx) (e:bx[i]?=some x) (q:Q (.int 8) σ):C (n+2) 14 [.loc P.L.i,.int ((N0 m+i:Nat):Int)] σ Q:=by
 refine Classical.byContradiction fun kk=>?_
 obtain⟨de,we,op,K,-⟩:=I.kt
 refine kk ?_
 exact c_kind_sort K (b_row I e) q
theorem b_elem (I:Inv m P σ bx) (e:bx[i]?=some x) (q:Q (.int x) σ):C (n+2) 15 [.loc P.L.i,.int ((N0 m+i:Nat):Int)] σ Q:=by
 obtain⟨de,we,op,K,-⟩:=I.kt
 exact c_elem_of K (b_row I e) q
theorem i_vt (I:Inv m P σ bx) (q:Q (.int 21) σ):C (n+2) 7 [.loc P.L.i,.int 2,.tup []] σ Q:=by
 obtain⟨de,we,op,K,-⟩:=I.kt
 exact c_class_kind (l:=[]) K (rows_nodup I) rfl (roots I).r21 q
theorem i_variance (I:Inv m P σ bx) {t:Int}(q:Q (itup ((lget (Dm m).variances t).getD [])) σ):C (n+1) 107 [.loc P.H.i,.int t] σ Q:=c_variance I.ho q
theorem i_under (I:Inv m P σ bx) (q:Q (.int (if k=25 then (m.un:Int) else k)) σ):C (n+1) 108 [.loc P.H.i,.int k] σ Q:=by
 refine c_under I.ho ?_
 have e:lget (Dm m).unders (k:Int)=if k∈[25] then some (m.un:Int) else none:=lget_map [25] (fun Z=>(m.un:Int)) k
 rw[e]
 by_cases h:k=25
 ·rw[if_pos h]at q;rw[if_pos (by simpa using h)];exact q
 ·rw[if_neg h]at q;rw[if_neg (by simpa using h)];exact q
theorem i_base (I:Inv m P σ bx) (h:k∈nvL) (q:Q (.int (bsI m k)) σ):C (n+5) 104 [.loc P.H.i,.int k] σ Q:=by
 obtain⟨de,we,op,K,-⟩:=I.kt
 refine c_base_plain K I.ho (roots I) (rows_st I (nv_n0 h)) row_ps4 (by rw[row_var];exact nv_var h) rowOf_ne8 ?_
 rw[row_base h];exact q
theorem b_base (I:Inv m P σ bx) (e:bx[i]?=some x) (h:x∈nvL) (q:Q (.int (bsI m x)) σ):C (n+7) 104 [.loc P.H.i,.int ((N0 m+i:Nat):Int)] σ Q:=by
 obtain⟨de,we,op,K,-⟩:=I.kt
 refine c_base_boxed K I.ho (roots I) (b_row I e) (rows_st I (nv_n0 h)) row_ps4 (by rw[row_var];exact nv_var h) rowOf_ne8 ?_
 rw[row_base h];exact q
theorem i_ifs (I:Inv m P σ bx) (h:k∈nvL) (q:Q (.tup (natL (ifs m k))) σ):C (n+3) 105 [.loc P.H.i,.int k] σ Q:=by
 obtain⟨de,we,op,K,-⟩:=I.kt
 refine c_ifaces_plain K I.ho (rows_st I (nv_n0 h)) (by rw[row_var];exact nv_var h) rowOf_ne8 ?_
 rw[row_ifs (nv_var h),itup_ci];exact q
theorem b_ifs (I:Inv m P σ bx) (e:bx[i]?=some x) (h:x∈nvL) (q:Q (.tup (natL (ifs m x))) σ):C (n+5) 105 [.loc P.H.i,.int ((N0 m+i:Nat):Int)] σ Q:=by
 obtain⟨de,we,op,K,-⟩:=I.kt
 refine c_ifaces_boxed K I.ho (b_row I e) (rows_st I (nv_n0 h)) (by rw[row_var];exact nv_var h) rowOf_ne8 ?_
 rw[row_ifs (nv_var h),itup_ci];exact q
inductive Num (m:Wm) (bx:List Nat) (i k:Nat):Prop
 | st:isRef k=true→i=k→Num m bx i k
 | box {j:Nat}:isRef k=false→bx[j]?=some k→i=N0 m+j→Num m bx i k
theorem pre_some {l l':List Nat}(p:l <+:l') (e:l[i]?=some x):l'[i]?=some x:=by
 obtain⟨r,rfl⟩:=p
 rw[List.getElem?_append_left (get_lt e)];exact e
theorem Num.mono (h:Num m bx i k) (p:bx <+:bx'):Num m bx' i k:=by
 induction h with
 | st a b=>exact .st a b
 | box a b c=>exact .box a (pre_some p b) c
theorem bxk_ref (h:Bxk x):isRef x=false:=by
 rcases h with⟨a,b⟩ | h
 ·have:∀x∈nvL,isVal x=true→isRef x=false:=by decide
  exact this x b a
 ·rw[isVar_iff]at h
  have:∀x < 30,26≤x→isRef x=false:=by decide
  exact this x (Nat.lt_succ_of_le h.2) h.1
theorem i_boxed (I:Inv m P σ bx) (hx:Bxk x) (q:∀σ' bx' i,Nx m P [] σ bx σ' bx'→Num m bx' i x→Q (.int (i:Int)) σ'):C (n+7) 13 [.loc P.L.i,.int x] σ Q:=by
 obtain⟨de,we,op,K,h1,h2,h3⟩:=I.kt
 have hxl:=bxk_lt (m:=m) hx
 have hrow:=rows_st I hxl.2
 have n0:=n0_le m
 have bl:=bx_len I
 have rl:(rowsM m bx).length=N0 m+bx.length:=by simp[rowsM,r0_len]
 refine c_boxed_put K (rows_nodup I) ⟨⟨.boxed rfl,?_,by simp,?_,?_,?_,?_⟩,by simp,by rw[rl];exact Nat.le_trans (Nat.add_le_add_right (Nat.add_le_add n0.1 bl) 1) (by decide),h1,fun w hw=>Int.le_trans (h3 w hw) (by decide)⟩ ⟨fun k hk=>?_,fun hn σ' d w o K' on dw=>?_⟩
 ·intro y hy
  rw[List.mem_singleton]at hy;subst hy
  exact⟨x,_,rfl,hrow⟩
 ·rintro(h | h) <;> cases h
 ·intro h;cases h
 ·rintro(h | h) <;> cases h
 ·intro _ y hy
  rw[List.mem_singleton]at hy;subst hy
  refine⟨x,_,rfl,hrow,?_⟩
  rw[row_val,row_var]
  exact hx.imp (·.1) fun h=>h
 ·obtain⟨j,hj,rfl⟩:=rows_inv hk
  exact q σ bx _ (.refl I) (.box (bxk_ref hx) hj rfl)
 ·refine Classical.byContradiction fun kk=>?_
  have hnx:x∉bx:=fun h=>hn (by
   unfold rowsM
   exact List.mem_append_right _ (List.mem_map.mpr ⟨x,h,rfl⟩))
  have er:rowsM m bx++[(8,(x:Int),none)]=rowsM m (bx++[x]):=by
   unfold rowsM;rw[List.map_append,List.append_assoc];rfl
  rw[er]at K'
  obtain⟨dx,wx,e1,e2,e3,e4⟩:=dw.2 x rfl
  have lv:levelR 8=0:=rfl
  have lv':levelR ((8,(x:Int),none):Ky).1=0:=rfl
  have kt':∃de we op,KtAt σ' P.L (rowsM m (bx++[x])) de we op∧(∀d∈de,d≤20)∧(∀i w,i < N0 m→we[i]?=some w→w≤10)∧(∀w∈we,w≤11):=by
   refine⟨_,_,_,K',fun d' hd=>?_,fun i' w' hi hw=>?_,fun w' hw=>?_⟩
   ·rcases List.mem_append.mp hd with hd | hd
    ·exact h1 d' hd
    ·rw[List.mem_singleton]at hd
     have:=h1 dx (List.mem_of_getElem? e1)
     rw[lv',Int.add_zero]at e3
     rw[hd];exact Int.le_trans e3 (Int.max_le.mpr ⟨by decide,this⟩)
   ·refine h2 i' w' hi ?_
    rw[List.getElem?_append_left (by rw[K.lwe,rl];exact Nat.lt_of_lt_of_le hi (Nat.le_add_right _ _))]at hw
    exact hw
   ·rcases List.mem_append.mp hw with hw | hw
    ·exact h3 w' hw
    ·rw[List.mem_singleton]at hw
     rw[hw,e4]
     exact Int.add_le_add_left (h2 x wx hxl.2 e2) 1
  have I':Inv m P σ' (bx++[x]):=by
   refine⟨I.ok,kt',fun σ'' b=>I.hw σ'' fun i' o' hi hm e=>b i' o' hi hm ((on.2 i' hm).trans e),?_,fun y hy=>?_,by rw[on.1];exact I.len,I.lt⟩
   ·rw[List.nodup_append]
    refine⟨I.nd,by simp,fun a ha b hb hab=>?_⟩
    rw[List.mem_singleton]at hb
    exact hnx (hb▸hab▸ha)
   ·rcases List.mem_append.mp hy with hy | hy
    ·exact I.bx y hy
    ·rw[List.mem_singleton]at hy;subst hy;exact hx
  refine kk ?_
  rw[rl]
  exact q σ' (bx++[x]) _ ⟨I',fun i' o' e hm Z=>(on.2 i' hm).trans e,List.prefix_append _ _⟩ (.box (j:=bx.length) (bxk_ref hx) (by simp) rfl)
end
set_option maxRecDepth 20000
section
variable {m:Wm}{P:Pl}{σ σ':Store}{bx:List Nat}{n k x i:Nat}{Q:Post}
noncomputable def natT (l:List Nat):V:=.tup (natL l)
theorem natL_rev (l:List Nat):(natL l).reverse=natL l.reverse:=by simp[natL]
theorem natL_app (a b:List Nat):natL a++natL b=natL (a++b):=by simp[natL]
theorem natL_len (l:List Nat):(natL l).length=l.length:=by simp[natL]
theorem natL_snoc (l:List Nat) (x:Nat):natL l++[V.int (x:Int)]=natL (l++[x]):=by simp[natL]
theorem natL_last (l:List Nat) (x:Nat):(natL (l++[x])).getLast?=some (.int x):=by simp[natL]
theorem natL_drop (l:List Nat) (x:Nat):(natL (l++[x])).dropLast=natL l:=by simp[natL]
theorem for_gen {Q:PostS}{src:Store→Prop}{st:V→Rho→Store→PostS→Prop}{all:List V}(J:List V→Rho→Store→Prop) (hs:∀d ρ σ,J d ρ σ→src σ)
  (step:∀d x r,all=d++x :: r→∀ρ σ,J d ρ σ→∀K:PostS,(∀ρ' σ',J (d++[x]) ρ' σ'→K .nx ρ' σ')→(∀ρ' σ',J (d++[x]) ρ' σ'→K .cont ρ' σ')→(∀v ρ' σ',Q (.ret v) ρ' σ'→K (.ret v) ρ' σ')→st x ρ σ K)
  (fin:∀ρ σ,J all ρ σ→Q .nx ρ σ):∀(r d:List V) (ρ:Rho) (σ:Store),all=d++r→J d ρ σ→forItems src st r ρ σ Q:=by
 intro r
 induction r with
 | nil=>intro d ρ σ e h;rw[List.append_nil]at e;subst e;exact⟨hs _ _ _ h,fin _ _ h⟩
 | cons x r ih=>
  intro d ρ σ e h
  refine⟨hs _ _ _ h,step d x r e ρ σ h _ (fun ρ' σ' h'=>?_) (fun ρ' σ' h'=>?_) (fun v ρ' σ' h'=>h')⟩
  ·exact ih (d++[x]) ρ' σ' (by rw[e,List.append_assoc];rfl) h'
  ·exact ih (d++[x]) ρ' σ' (by rw[e,List.append_assoc];rfl) h'
noncomputable def pushB (i j:Nat):List MS:=[.expr (.append (.var i) (.var j))]
noncomputable def wb23:List MS:=[(.assign 5 (.pop (.var 4))),(.ifS (.ex (.cmp .inn (.var 5) (.var 3))) [.cont] []),(.setitem (.var 3) (.var 5) (.lit (.int 1))),(.expr (.append (.var 2) (.var 5))),(.ifS (.ex (.call 20 [(.attr (.var 0) 5),(.var 5)])) [(.forS (.inl 6) (.rev (.listOf (.get2 (.attr (.var 0) 11) (.var 5) (.tup [])))) (pushB 4 6))] [])]
noncomputable abbrev dS4 (σ:Store) (k:Nat) (out t:List Nat) (tmp:List V) (j:Store):Store:=σ++(O.list (natL out) :: O.dI (nat1 (k :: out)) :: O.list tmp :: O.list (natL t) :: j)
noncomputable abbrev rS4 (hi:Nat) (k:Nat) (σ:Store) (z5 z6 z7:Option V):Rho:=[some (.loc hi),some (.int k),some (.loc σ.length),some (.loc (σ.length+1)),some (.loc (σ.length+3)),z5,z6,z7]
theorem bk_push {m:Nat}{items:List V}{k:Nat}{out t:List Nat}{tmp:List V}{j:Store}{hi l:Nat}{z5 z6 z7:Option V}{Q:PostS}(hl:(dS4 σ k out t tmp j)[l]?=some (.list items)) (hne:l≠σ.length+3) (hz:t.length+items.length≤100000)
  (q:∀z6,Q .nx (rS4 hi k σ z5 z6 z7) ((dS4 σ k out t tmp j).set (σ.length+3) (.list (natL t++items)))) :
  forItems (srcOk (.loc l) (dS4 σ k out t tmp j)) (fun y ρ σ' K=>wpSs (C m) (pushB 4 6) (ρ.set 6 (some y)) σ' K) items (rS4 hi k σ z5 z6 z7) (dS4 σ k out t tmp j) Q:=by
 have hs:srcOk (.loc l) (dS4 σ k out t tmp j)=fun σ'=>σ'[l]?=some (.list items):=funext fun σ'=>congrArg (σ'[l]? = ·) hl
 rw[hs]
 refine push_all (n:=m) (i:=4) (j:=6) (l:=l) (a:=σ.length+3) (by decide) hne items _ _ (natL t) rfl (by simp) hl (q3 σ j _ _ _ _) (by rw[natL_len];exact hz) fun ρ' h1 h2=>?_
 have e:ρ'=rS4 hi k σ z5 (ρ'[6]?.getD none) z7:=rho_at h1 h2
 rw[e];exact q _
theorem look_nat1 {l:Nat}{a:List Nat}{x:Nat}(h:σ[l]?=some (.dI (nat1 a))):lookO σ (.loc l) (.int x)=some (if x∈a then some (.int 1) else none):=by
 rw[loo_dI h,nat1_get]
theorem bk_skip {m:Nat}{hi:Nat}{out t:List Nat}{x:Nat}{tmp:List V}{j:Store}{z5 z6 z7:Option V}{K:PostS}(hx:x∈k :: out) (ho:out.length≤1000) (hz:t.length≤90000)
  (q:K .cont (rS4 hi k σ (some (.int x)) z6 z7) (dS4 σ k out t tmp j)) :
  wpSs (C m) wb23 (rS4 hi k σ z5 z6 z7) (dS4 σ k out (t++[x]) tmp j) K:=by
 have u:(natL (t++[x])).length≤line:=by rw[natL_len,List.length_append];exact Nat.le_trans (Nat.add_le_add_right hz 1) (by decide)
 refine pop_of (q3 _ _ _ _ _ _) u (natL_last t x) ?_
 rw[natL_drop,s3]
 exact in_look (look_nat1 (q1 _ _ _ _ _ _)) (by rw[if_pos hx];exact q)
theorem bk_take0 {m':Nat}(I:Inv m P σ bx) {out t:List Nat}{x:Nat}{tmp:List V}{j:Store}{z5 z6 z7:Option V}{K':PostS}(hx:x∉k :: out) (hr:x < N0 m) (ho:out.length≤1000) (hz:t.length≤90000)
  (q0:isVar x=false→K' .nx (rS4 P.H.i k σ (some (.int x)) z6 z7) (dS4 σ k (out++[x]) t tmp j))
  (q1:isVar x=true→∀z6 j',K' .nx (rS4 P.H.i k σ (some (.int x)) z6 z7) (dS4 σ k (out++[x]) (t++(bounds m x).reverse) tmp j')) :
  wpSs (C (m'+2)) wb23 (rS4 P.H.i k σ z5 z6 z7) (dS4 σ k out (t++[x]) tmp j) K':=by
 have u:(natL (t++[x])).length≤line:=by rw[natL_len,List.length_append];exact Nat.le_trans (Nat.add_le_add_right hz 1) (by decide)
 have u1:(nat1 (k :: out)).length≤line:=by rw[nat1_len];exact Nat.le_trans (Nat.add_le_add_right ho 1) (by decide)
 have u2:(natL out).length≤line:=by rw[natL_len];exact Nat.le_trans ho (by decide)
 have I':Inv m P (dS4 σ k (out++[x]) t tmp j) bx:=I.gw (Gw.app _ _)
 refine pop_of (q3 _ _ _ _ _ _) u (natL_last t x) ?_
 rw[natL_drop,s3]
 refine in_look (look_nat1 (Mine.q1 _ _ _ _ _ _)) ?_
 rw[if_neg hx]
 refine siI_of (Mine.q1 _ _ _ _ _ _) u1 ?_
 rw[nat1_put hx,s1]
 refine⟨lat_of (Mine.q0 _ _ _ _ _ _),app_of (Mine.q0 _ _ _ _ _ _) u2 ?_⟩
 rw[s0,natL_snoc]
 refine I'.ho.at_ rfl (i_var I' hr ?_)
 cases hv:isVar x with
 | false=>exact q0 hv
 | true=>
  have bl:=(bdp I.ok hv).len
  have u3:(natL (bounds m x)).length≤line:=by rw[natL_len];exact Nat.le_trans bl (by decide)
  refine I'.ho.at_ rfl ⟨isD_tup I'.ho.bounds,Nat.zero_le _,loo_of (look_tup I'.ho.bounds x) ?_⟩
  rw[row_bounds hv,Option.map_some,itup_ci]
  refine its_tup ⟨u3,lis_of (List.getElem?_concat_length ..) u3 (its_list (List.getElem?_concat_length ..) ⟨by rw[List.length_reverse];exact u3,?_⟩)⟩
  have e2:dS4 σ k (out++[x]) t tmp j++[O.list (natL (bounds m x))]++[O.list (natL (bounds m x)).reverse]=dS4 σ k (out++[x]) t tmp (j++[O.list (natL (bounds m x)),O.list (natL (bounds m x)).reverse]):=by simp
  have g2:=List.getElem?_concat_length (l:=dS4 σ k (out++[x]) t tmp j++[O.list (natL (bounds m x))]) (a:=O.list (natL (bounds m x)).reverse)
  rw[e2]at g2 ⊢
  refine bk_push (hi:=P.H.i) (z5:=some (.int x)) (z6:=z6) (z7:=z7) g2 (by rw[List.length_append,List.length_append];exact Nat.ne_of_gt (Nat.lt_succ_of_lt (Nat.add_lt_add_left (Nat.lt_of_lt_of_le (by decide:3 < 4) (Nat.le_add_left 4 _)) _))) (by rw[List.length_reverse,natL_len];exact Nat.le_trans (Nat.add_le_add hz bl) (by decide)) fun z6'=>?_
  rw[s3,natL_rev,natL_app]
  exact q1 hv _ _
inductive BdI (m:Wm) (P:Pl) (σ:Store) (k:Nat):Nat→Rho→Store→Prop
 | mk {out t:List Nat} {tmp:List V} {j:Store} {z5 z6 z7:Option V} (D:Dfs (fun x=>if isVar x=true then bounds m x else []) (·=k) (·∈bounds m k) out t) (lt:∀x∈out,x < 100) (tl:t.length≤10 * out.length+10) :
   BdI m P σ k ((100 - out.length) * 10+t.length) (rS4 P.H.i k σ z5 z6 z7) (dS4 σ k out t tmp j)
theorem meas {o t b:Nat}(h:o+1≤100) (hb:b≤4):(100 - (o+1)) * 10+(t+b) < (100 - o) * 10+(t+1):=by
 rw[show 100 - o=100 - (o+1)+1 from (Nat.add_sub_add_right 100 1 o).symm.trans (Nat.sub_add_comm h),Nat.succ_mul,Nat.add_assoc,Nat.add_comm t b]
 exact Nat.add_lt_add_left (Nat.add_lt_add_of_lt_of_le (Nat.lt_of_le_of_lt hb (by decide)) (Nat.le_succ t)) _
theorem i_bounds (I:Inv m P σ bx) (hk:isVar k=true) (q:∀σ' l out,Gw σ σ'→l∉P.mut→σ.length≤l→σ'[l]?=some (.list (natL out))→out.length≤1000→(∀y,y∈out↔RB m k y)→Q (.loc l) σ'):C (n+3) 23 [.loc P.H.i,.int k] σ Q:=by
 refine call_eq (m:=f23) rfl rfl ?_
 have hi:=I.ho.inst
 have hn:=I.ho.ns
 have bl:=(bdp I.ok hk).len
 have g1:=(I.gw (Gw.app σ [O.list [],O.dI [((k:Int),V.int 1)]])).ho
 have u1:(natL (bounds m k)).length≤line:=by rw[natL_len];exact Nat.le_trans bl (by decide)
 have loop:wpSs (C (n+2)) (f23.body.drop 3) (rS4 P.H.i k σ none none none) (dS4 σ k [] (bounds m k).reverse (natL (bounds m k)) []) (rtn Q):=by
  refine⟨BdI m P σ k,⟨_,.mk (out:=[]) (t:=(bounds m k).reverse) (j:=[]) ⟨fun Z h=>absurd h List.not_mem_nil,fun x hx=>.start (List.mem_reverse.mp hx),fun Z h=>absurd h List.not_mem_nil,fun x hx=>.inr (.inr (List.mem_reverse.mpr hx)),List.nodup_nil,fun Z h=>absurd h List.not_mem_nil⟩ (fun Z h=>absurd h List.not_mem_nil) (by rw[List.length_reverse];exact Nat.le_trans bl (by decide))⟩,?_⟩
  rintro N ρ σ' ⟨D,lt,tl⟩
  have ol:out.length≤100:=nodup_le 100 out D.nodup lt
  have rb:∀x,Rch (fun x=>if isVar x=true then bounds m x else []) (·=k) (·∈bounds m k) x→¬x=k→RB m k x:=fun x hx hne=>(rb_ban I.ok hk).mp ⟨hx,hne⟩
  have rlt:∀x,RB m k x→x < N0 m∧x < 100:=fun x hx=>by
   have h:=rb_lt I.ok hk hx
   have w:∀{x},x < N0 m→x < N0 m∧x < 100:=fun h=>⟨h,Nat.lt_of_lt_of_le h (Nat.le_trans (n0_le m).1 (by decide))⟩
   cases hv:isVar x with
   | true=>exact w (var_n0 (m:=m) hv)
   | false=>exact w (nv_n0 (m:=m) (h.2 hv).1)
  rcases List.eq_nil_or_concat t with rfl | ⟨t,x,rfl⟩
  ·have e3:(dS4 σ k out [] tmp j)[σ.length+3]?=some (.list (natL [])):=q3 _ _ _ _ _ _
   refine tru_list e3 (Nat.zero_le _) ?_
   refine q _ _ out (Gw.app _ _) (fun h=>?_) (Nat.le_refl _) (q0 _ _ _ _ _ _) (Nat.le_trans ol (by decide)) fun y=>?_
   ·exact absurd (I.mut_lt h) (Nat.not_lt.mpr I.len)
   ·rw[D.done y];exact rb_ban I.ok hk
  ·rw[List.concat_eq_append]at *
   have e3:(dS4 σ k out (t++[x]) tmp j)[σ.length+3]?=some (.list (natL (t++[x]))):=q3 _ _ _ _ _ _
   have t8:10 * out.length+10≤90000:=Nat.le_trans (Nat.add_le_add_right (Nat.mul_le_mul_left 10 ol) 10) (by decide)
   have u:(natL (t++[x])).length≤line:=by rw[natL_len];exact Nat.le_trans tl (Nat.le_trans t8 (by decide))
   have ne:(natL (t++[x])).isEmpty=false:=by simp[natL]
   rw[List.length_append,List.length_singleton]at tl
   have t9:=Nat.le_trans (Nat.le_of_succ_le tl) t8
   refine tru_list e3 u ?_
   rw[ne]
   by_cases hx:x∈k :: out
   ·refine bk_skip hx (Nat.le_trans ol (by decide)) t9 ?_
    refine⟨(100 - out.length) * 10+t.length,by simp,.mk (D.skip ?_) lt (Nat.le_of_succ_le tl)⟩
    rcases List.mem_cons.mp hx with h | h
    ·exact .inr h
    ·exact .inl h
   ·have hx1:x∉out:=fun h=>hx (List.mem_cons_of_mem _ h)
    have hx2:¬x=k:=fun h=>hx (by simp[h])
    have r:=rb x (D.todos x (by simp)) hx2
    have xl:=rlt x r
    have lt':∀y∈out++[x],y < 100:=fun y hy=>by
     rcases List.mem_append.mp hy with hy | hy
     ·exact lt y hy
     ·rw[List.mem_singleton]at hy;subst hy;exact xl.2
    have ol':(out++[x]).length≤100:=by
     refine nodup_le 100 _ ?_ lt'
     rw[List.nodup_append]
     refine⟨D.nodup,by simp,fun a ha b hb e=>?_⟩
     rw[List.mem_singleton]at hb
     exact hx1 (hb▸e▸ha)
    rw[List.length_append,List.length_singleton]at ol'
    refine bk_take0 I hx xl.1 (Nat.le_trans ol (by decide)) t9 (fun hv=>?_) fun hv z6' j'=>?_
    ·refine⟨(100 - (out++[x]).length) * 10+t.length,by rw[List.length_append,List.length_append];exact meas (b:=0) ol' (by decide),.mk ?_ lt' (by rw[List.length_append];exact Nat.le_trans (Nat.le_of_succ_le tl) (Nat.le_add_right _ 10))⟩
     have:=D.take hx1 hx2 (l:=[]) (by simp[hv])
     rwa [List.append_nil]at this
    ·have bl':=(bdp I.ok hv).len
     refine⟨(100 - (out++[x]).length) * 10+(t++(bounds m x).reverse).length,by rw[List.length_append,List.length_append,List.length_append,List.length_reverse];exact meas ol' (Nat.le_trans bl' (by decide)),.mk (D.take hx1 hx2 (by simp[hv])) lt' (by rw[List.length_append,List.length_reverse,List.length_append];exact Nat.add_le_add (Nat.le_of_succ_le tl) (Nat.le_trans bl' (by decide)))⟩
 refine⟨Nat.zero_le _,dI_of (lel30 rfl) rfl (by simp) ?_⟩
 rw[List.append_assoc]
 refine g1.at_ rfl ⟨isD_tup g1.bounds,Nat.zero_le _,loo_of (look_tup g1.bounds k) ?_⟩
 rw[row_bounds hk,Option.map_some,itup_ci]
 refine its_tup ⟨u1,lis_of (List.getElem?_concat_length ..) u1 ?_⟩
 have e1:((σ++[O.list [],O.dI [((k:Int),V.int 1)]])++[O.list (natL (bounds m k))])++[O.list (natL (bounds m k)).reverse]=dS4 σ k [] (bounds m k).reverse (natL (bounds m k)) []:=by rw[natL_rev];simp[natL,nat1]
 have e2:((σ++[O.list [],O.dI [((k:Int),V.int 1)]])++[O.list (natL (bounds m k))]).length=σ.length+3:=by simp
 have e3:(σ++[O.list []]).length=σ.length+1:=by simp
 show wpSs (C (n+2)) (f23.body.drop 3) [some (.loc P.H.i),some (.int k),some (.loc σ.length),some (.loc (σ++[O.list []]).length),some (.loc ((σ++[O.list [],O.dI [((k:Int),V.int 1)]])++[O.list (natL (bounds m k))]).length),none,none,none] _ (rtn Q)
 rw[e2,e3,e1]
 exact loop
end
set_option maxRecDepth 20000
section
variable {m:Wm}{P:Pl}{σ σ':Store}{bx:List Nat}{n k x i:Nat}{Q:Post}
theorem for_nat {Q:PostS}{src:Store→Prop}{st:V→Rho→Store→PostS→Prop}{out:List Nat}(J:List Nat→Rho→Store→Prop) (hs:∀d ρ σ,J d ρ σ→src σ)
  (step:∀(d:List Nat) (y:Nat) (r:List Nat),out=d++y :: r→∀ρ σ,J d ρ σ→∀K:PostS,(∀ρ' σ',J (d++[y]) ρ' σ'→K .nx ρ' σ')→(∀ρ' σ',J (d++[y]) ρ' σ'→K .cont ρ' σ')→(∀v ρ' σ',Q (.ret v) ρ' σ'→K (.ret v) ρ' σ')→st (.int y) ρ σ K)
  (fin:∀ρ σ,J out ρ σ→Q .nx ρ σ) {ρ:Rho} {σ:Store} (h:J [] ρ σ):forItems src st (natL out) ρ σ Q:=by
 have:∀(r d:List Nat) (ρ:Rho) (σ:Store),out=d++r→J d ρ σ→forItems src st (natL r) ρ σ Q:=by
  intro r
  induction r with
  | nil=>intro d ρ σ e h;rw[List.append_nil]at e;subst e;exact⟨hs _ _ _ h,fin _ _ h⟩
  | cons y r ih=>
   intro d ρ σ e h
   refine⟨hs _ _ _ h,step d y r e ρ σ h _ (fun ρ' σ' h'=>?_) (fun ρ' σ' h'=>?_) (fun v ρ' σ' h'=>h')⟩
   ·exact ih (d++[y]) ρ' σ' (by rw[e,List.append_assoc];rfl) h'
   ·exact ih (d++[y]) ρ' σ' (by rw[e,List.append_assoc];rfl) h'
 exact this out [] ρ σ rfl h
theorem flags_look (I:Inv m P σ bx) (k:Nat):∃r,lookO σ (.loc P.H.gf) (.int k)=some r∧r.getD (.int 0) = .int (if isVar k then (flag m k:Int) else 0):=by
 refine⟨_,look_int I.ho.gflags k,?_⟩
 rw[←row_gflags]
 cases lget (Dm m).gflags (k:Int) <;> rfl
theorem rb_n0 (I:Inv m P σ bx) (hk:isVar k=true) {y:Nat}(h:RB m k y):y < N0 m∧y≠14∧isOpt y=false:=by
 have n0:=n0_le m
 have h':=rb_lt I.ok hk h
 cases hv:isVar y with
 | true=>
  have:=var_n0 (m:=m) hv
  rw[isVar_iff]at hv
  refine⟨this,Nat.ne_of_gt (Nat.lt_of_lt_of_le (by decide) hv.1),decide_eq_false (Nat.not_le.mpr (Nat.lt_of_le_of_lt hv.2 (by decide)))⟩
 | false=>
  have hn:=(h'.2 hv).1
  have:∀y∈nvL,y≠14∧isOpt y=false:=by decide
  exact⟨nv_n0 hn,this y hn⟩
theorem bnd2 {f:Nat}{K:Bool→Store→Prop}(h:f≤2) (q:K (decide (f=2)) σ):bopR .band (.int (f:Int)) (.int 2) σ (tstK K):=by
 have:=(by decide:∀f < 3,f=0∨f=1∨f=2) f (Nat.lt_succ_of_le h)
 rcases this with rfl | rfl | rfl <;> exact band_of (by decide) (tru_of q)
theorem bnd1 {f:Nat}{K:Bool→Store→Prop}(h:f≤2) (q:K (decide (f=1)) σ):bopR .band (.int (f:Int)) (.int 1) σ (tstK K):=by
 have:=(by decide:∀f < 3,f=0∨f=1∨f=2) f (Nat.lt_succ_of_le h)
 rcases this with rfl | rfl | rfl <;> exact band_of (by decide) (tru_of q)
theorem i_flag (I:Inv m P σ bx) (hk:isVar k=true) {K:Option V→Prop}(q:∀r,r.getD (.int 0) = .int (flag m k:Int)→K r):lookR (.loc P.H.gf) (.int k) σ K:=by
 obtain⟨r,l1,l2⟩:=flags_look I k
 rw[hk,if_pos rfl]at l2
 exact loo_of l1 (q r l2)
theorem i_pv (I:Inv m P σ bx) (hk:isVar k=true) (q:∀σ' b,Gw σ σ'→(b=true↔Pv m k)→Q (.bool b) σ'):C (n+4) 24 [.loc P.H.i,.int k] σ Q:=by
 refine call_eq (m:=f24) rfl rfl ?_
 have B:=bdp I.ok hk
 refine I.ho.at_ rfl ⟨isD_int I.ho.gflags,i_flag I hk fun r l2=>?_⟩
 rw[l2]
 refine bnd2 B.fl2 ?_
 by_cases hf:flag m k=2
 ·rw[decide_eq_true hf];exact q σ true (.refl _) ⟨fun Z=>.inl hf,fun Z=>rfl⟩
 ·rw[decide_eq_false hf]
  refine i_bounds I hk fun σ₁ l out g hm Z hl hlen hout=>?_
  refine its_list hl ⟨by rw[natL_len];exact Nat.le_trans hlen (by decide),?_⟩
  refine for_nat (fun d ρ σ'=>(∃z,ρ=[some (V.loc P.H.i),some (V.int (k:Int)),z,none])∧Gw σ₁ σ'∧∀y∈d,isVal y=false) (fun d ρ σ' h=>(h.2.1 _ _ hl).trans hl.symm) ?_ ?_ ⟨⟨none,rfl⟩,.refl _,by simp⟩
  ·rintro d y r e ρ σ' ⟨⟨z,rfl⟩,g',hd⟩ K k1 k2 k3
   have hy:RB m k y:=(hout y).mp (by rw[e];simp)
   have I':=I.gw (g.trans g')
   have ly:=rb_n0 I hk hy
   have rl:=rb_lt I.ok hk hy
   have hd':isVal y=false→∀x∈d++[y],isVal x=false:=fun h x hx=>by
    rcases List.mem_append.mp hx with hx | hx
    ·exact hd x hx
    ·rw[List.mem_singleton]at hx;subst hx;exact h
   refine I'.ho.at_ rfl ?_
   refine i_var I' ly.1 ?_
   cases hv:isVar y with
   | true=>
    refine I'.ho.at_ rfl ⟨isD_int I'.ho.gflags,i_flag I' hv fun r l2=>?_⟩
    rw[l2]
    refine bnd2 (bdp I.ok hv).fl2 ?_
    rw[decide_eq_false (rl.1 hv).2]
    refine k1 _ _ ⟨⟨_,rfl⟩,g',hd' ?_⟩
    rw[isVar_iff]at hv
    have:∀b < 30,26≤b→isVal b=false:=by decide
    exact this y (Nat.lt_succ_of_le hv.2) hv.1
   | false=>
    refine I'.ho.at_ rfl ?_
    refine i_val I' ly.1 ?_
    cases hvl:isVal y with
    | false=>exact k1 _ _ ⟨⟨_,rfl⟩,g',hd' hvl⟩
    | true=>
     refine I'.ho.at_ rfl ?_
     refine i_null I' ly.1 ?_
     rw[ly.2.2]
     exact k3 _ _ _ (q _ true (g.trans g') ⟨fun Z=>.inr ⟨y,hy,hvl⟩,fun Z=>rfl⟩)
  ·rintro ρ σ' ⟨⟨z,rfl⟩,g',hd⟩
   refine q _ false (g.trans g') ⟨(fun h=>bff h),?_⟩
   rintro(h | ⟨b,hb,hv⟩)
   ·exact absurd h hf
   ·rw[hd b ((hout b).mpr hb)]at hv;cases hv
theorem i_sure (I:Inv m P σ bx) (hk:isVar k=true) (q:∀σ' b,Gw σ σ'→(b=true↔Sure m k)→Q (.bool b) σ'):C (n+6) 25 [.loc P.H.i,.int k] σ Q:=by
 refine call_eq (m:=f25) rfl rfl ?_
 have B:=bdp I.ok hk
 have si:=sure_iff I.ok hk
 refine I.ho.at_ rfl ⟨isD_int I.ho.gflags,i_flag I hk fun r l2=>?_⟩
 rw[l2]
 refine bnd1 B.fl2 ?_
 by_cases hf:flag m k=1
 ·rw[decide_eq_true hf];exact q σ true (.refl _) ⟨fun Z=>.inl hf,fun Z=>rfl⟩
 ·rw[decide_eq_false hf]
  refine i_bounds I hk fun σ₁ l out g hm Z hl hlen hout=>?_
  refine its_list hl ⟨by rw[natL_len];exact Nat.le_trans hlen (by decide),?_⟩
  refine for_nat (fun d ρ σ'=>(∃z,ρ=[some (V.loc P.H.i),some (V.int (k:Int)),z,none])∧Gw σ₁ σ'∧∀y∈d,isCls y=false) (fun d ρ σ' h=>(h.2.1 _ _ hl).trans hl.symm) ?_ ?_ ⟨⟨none,rfl⟩,.refl _,by simp⟩
  ·rintro d y r e ρ σ' ⟨⟨z,rfl⟩,g',hd⟩ K k1 k2 k3
   have hy:RB m k y:=(hout y).mp (by rw[e];simp)
   have I':=I.gw (g.trans g')
   have ly:=rb_n0 I hk hy
   have rl:=rb_lt I.ok hk hy
   have hd':isCls y=false→∀x∈d++[y],isCls x=false:=fun h x hx=>by
    rcases List.mem_append.mp hx with hx | hx
    ·exact hd x hx
    ·rw[List.mem_singleton]at hx;subst hx;exact h
   have key:(isRef y&&!isIf y&&!([1,2,3].contains (tidK y)))=isCls y:=by
    cases hv:isVar y with
    | true=>
     rw[isVar_iff]at hv
     have:∀b < 30,26≤b→(isRef b&&!isIf b&&!([1,2,3].contains (tidK b)))=isCls b:=by decide
     exact this y (Nat.lt_succ_of_le hv.2) hv.1
    | false=>
     have:∀y∈nvL,(isCls y=true∨isIf y=true∨isBv y=true∨y=22)→(isRef y&&!isIf y&&!([1,2,3].contains (tidK y)))=isCls y:=by decide
     exact this y (rl.2 hv).1 (rl.2 hv).2
   refine I'.ho.at_ rfl ?_
   refine i_ref I' ly.1 ly.2.1 ?_
   cases h1:isRef y with
   | false=>rw[h1]at key;exact k1 _ _ ⟨⟨_,rfl⟩,g',hd' (by rw[←key];rfl)⟩
   | true=>
    refine i_if I' ly.1 ?_
    cases h2:isIf y with
    | true=>rw[h1,h2]at key;exact k1 _ _ ⟨⟨_,rfl⟩,g',hd' (by rw[←key];rfl)⟩
    | false=>
     refine I'.ho.at_ rfl ?_
     refine i_tid I' ly.1 ?_
     rw[h1,h2]at key
     refine nin_tup (r:=[1,2,3].contains (tidK y)) rfl ?_
     cases h3:[1,2,3].contains (tidK y) with
     | true=>rw[h3]at key;exact k1 _ _ ⟨⟨_,rfl⟩,g',hd' (by rw[←key];rfl)⟩
     | false=>rw[h3]at key;exact k3 _ _ _ (q _ true (g.trans g') ⟨fun Z=>si.mpr (.inr ⟨y,hy,by rw[←key];rfl⟩),fun Z=>rfl⟩)
  ·rintro ρ σ' ⟨⟨z,rfl⟩,g',hd⟩
   refine q _ false (g.trans g') ⟨(fun h=>bff h),fun h=>?_⟩
   rcases si.mp h with h | ⟨b,hb,hv⟩
   ·exact absurd h hf
   ·rw[hd b ((hout b).mpr hb)]at hv;cases hv
theorem i_firm (I:Inv m P σ bx) (hk:k < N0 m) (h14:k≠14) (q:∀σ' b,Gw σ σ'→(b=true↔Firm m k)→Q (.bool b) σ'):C (n+7) 30 [.loc P.H.i,.int k] σ Q:=by
 refine call_eq (m:=f30) rfl rfl ?_
 refine I.ho.at_ rfl ?_
 refine i_ref I hk h14 ?_
 cases h1:isRef k with
 | true=>exact q _ true (.refl _) ⟨fun Z=>.inl h1,fun Z=>rfl⟩
 | false=>
  refine I.ho.at_ rfl ?_
  refine i_var I hk ?_
  cases h2:isVar k with
  | false=>
   refine q _ false (.refl _) ⟨(fun h=>bff h),?_⟩
   rintro(h | ⟨h,-⟩)
   ·rw[h1]at h;cases h
   ·rw[h2]at h;cases h
  | true=>
   refine i_sure I h2 fun σ' b g hb=>q _ b g ?_
   rw[hb]
   constructor
   ·exact fun h=>.inr ⟨h2,h⟩
   ·rintro(h | ⟨-,h⟩)
    ·rw[h1]at h;cases h
    ·exact h
end
set_option maxRecDepth 20000
section
variable {m:Wm}{P:Pl}{σ σ' σ'':Store}{bx:List Nat}{n k x i:Nat}{Q:Post}
theorem Chain.congr {bs bs':Nat→Int}{l:List Nat}(c:Chain bs l) (h:∀x∈l,bs x=bs' x):Chain bs' l:=by
 induction c with
 | last e=>exact .last (by rw[←h _ (.head _)];exact e)
 | step e _ ih=>exact .step (by rw[←h _ (.head _)];exact e) (ih fun x hx=>h x (.tail _ hx))
theorem chL_cons (h:k∈nvL):chL m k=k :: (chL m k).tail:=by
 have:=chL_head (m:=m) h
 cases e:chL m k with
 | nil=>rw[e]at this;cases this
 | cons a l=>rw[e]at this;cases this;rfl
theorem num_30 (h:Num m bx i k) (hk:k∈nvL):i=k∨30≤i∧isRef k=false∧N0 m≤i:=by
 induction h with
 | st _ e=>exact .inl e
 | box a b e=>exact .inr ⟨Nat.le_trans (Nat.le_trans (by decide) (n0_le m).2) (e▸Nat.le_add_right _ _),a,e▸Nat.le_add_right _ _⟩
theorem i_chain (I:Inv m P σ bx) (hn:Num m bx i k) (hk:k∈nvL) (q:∀σ' l,Gw σ σ'→σ.length≤l→σ'[l]?=some (.list (natL (i :: (chL m k).tail)))→Q (.loc l) σ'):C (n+8) 27 [.loc P.H.i,.int i] σ Q:=by
 have nd:=chL_nodup (m:=m) hk
 have ch:=chain_ok (m:=m) hk
 have hc:=chL_cons (m:=m) hk
 have tl:=chL_tail (m:=m) hk
 have ln:=chL_len (m:=m) hk
 rw[hc]at nd ch ln
 rw[List.nodup_cons]at nd
 have hi:i∉(chL m k).tail:=by
  rcases num_30 hn hk with rfl | h
  ·exact nd.1
  ·exact fun h'=>absurd h.1 (Nat.not_le.mpr (tl i h').2)
 have hch:Chain (fun x=>if x=i then bsI m k else bsI m x) (i :: (chL m k).tail):=by
  generalize (chL m k).tail=t at ch hi
  cases ch with
  | last e=>exact .last (by simp[e])
  | @step _ y r e c=>
   refine .step (by simp[e]) (c.congr fun x hx=>?_)
   have:x≠i:=fun h=>hi (h▸hx)
   simp[this]
 refine c_base_chain (H:=P.H) hch (by rw[List.nodup_cons];exact⟨hi,nd.2⟩) (Nat.le_trans (show(chL m k).tail.length+1≤10 from ln) (by decide)) rfl (fun x hx σ' Q' g q'=>?_) I.ho.inst ⟨_,I.ho.ns⟩ (q _ _ (Gw.app _ _) (Nat.le_refl _) (new0 _ _ _))
 have I':=I.gw g
 by_cases e:x=i
 ·subst e
  simp only[if_true]at q'
  induction hn with
  | st _ e=>subst e;exact i_base I' hk q'
  | box a b e=>subst e;exact b_base I' b hk q'
 ·rw[if_neg e]at q'
  rcases List.mem_cons.mp hx with h | h
  ·exact absurd h e
  ·exact i_base I' (nv_ref (tl x h).1) q'
noncomputable def Kx (L:List Nat) (σ σ':Store):Prop:=∀i o,i∉L→σ[i]?=some o→σ'[i]?=some o
theorem Kx.refl (L:List Nat) (σ:Store):Kx L σ σ:=fun Z Z Z e=>e
theorem Kx.trans {L:List Nat}(x:Kx L σ σ') (y:Kx L σ' σ''):Kx L σ σ'':=fun i o h e=>y i o h (x i o h e)
theorem Kx.gw {L:List Nat}(g:Gw σ σ'):Kx L σ σ':=fun i o Z e=>g i o e
theorem Kx.set {L:List Nat}{a:Nat}{o:O}(h:a∈L):Kx L σ (σ.set a o):=fun i o hi e=>by
 rw[List.getElem?_set_ne (by rintro rfl;exact hi h)];exact e
theorem Inv.kx {L:List Nat}(I:Inv m P σ bx) (x:Kx L σ σ') (hL:∀i∈L,P.top≤i) (hl:P.top≤σ'.length):Inv m P σ' bx:=
 I.above (fun i o h e=>x i o (fun h'=>absurd (hL i h') (Nat.not_le.mpr h)) e) hl
theorem over_len (ok:WOk m) (h:k∈nvL):(over m k).length≤2:=(fo_ ok h).2
theorem ifs_len (ok:WOk m) (h:k∈nvL):(ifs m k).length≤2:=Nat.le_trans (List.length_filter_le _ _) (over_len ok h)
theorem rch_nv (ok:WOk m) {S:Nat→Prop}(hS:∀x,S x→x∈nvL) {x:Nat}(r:Rch (ifs m) (fun Z=>False) S x):x∈nvL:=by
 induction r with
 | start h=>exact hS _ h
 | step _ _ e ih=>exact(over_nv ok ih _ (List.mem_filter.mp e).1).1
inductive AdI (m:Wm) (P:Pl) (S:Nat→Prop) (ks:List Nat) (σ:Store) (lf ls:Nat):Nat→Rho→Store→Prop
 | mk {out' t:List Nat} {z5 z6 z7:Option V} {σ':Store} (e1:σ'[lf]?=some (.list (natL out'))) (e2:σ'[ls]?=some (.dI (nat1 out'))) (e3:σ'[σ.length+1]?=some (.list (natL t)))
   (kx:Kx [lf,ls,σ.length+1] σ σ') (D:Dfs (ifs m) (fun Z=>False) (fun x=>S x∨x∈ks) out' t) (tl:t.length≤10 * out'.length+10) :
   AdI m P S ks σ lf ls ((100 - out'.length) * 10+t.length) [some (V.loc P.H.i),some (.tup (natL ks)),some (.loc lf),some (.loc ls),some (.loc (σ.length+1)),z5,z6,z7] σ'
theorem i_add {S:Nat→Prop}(I:Inv m P σ bx) {lf ls:Nat}{out ks:List Nat}(h1:σ[lf]?=some (.list (natL out))) (h2:σ[ls]?=some (.dI (nat1 out))) (t1:P.top≤lf) (t2:P.top≤ls)
  (D:Dfs (ifs m) (fun Z=>False) S out []) (hS:∀x,S x→x∈nvL) (hk:∀x∈ks,x∈nvL) (kl:ks.length≤10)
  (q:∀σ' out',Kx [lf,ls] σ σ'→P.top≤σ'.length→σ'[lf]?=some (.list (natL out'))→σ'[ls]?=some (.dI (nat1 out'))→Dfs (ifs m) (fun Z=>False) (fun x=>S x∨x∈ks) out' []→Q .none σ') :
  C (n+6) 29 [.loc P.H.i,natT ks,.loc lf,.loc ls] σ Q:=by
 refine call_eq (m:=f29) rfl rfl ?_
 have hne:lf≠ls:=fun e=>by subst e;rw[h1]at h2;simp at h2
 have l1:=get_lt h1
 have l2:=get_lt h2
 have u1:(natL ks).length≤line:=by rw[natL_len];exact Nat.le_trans kl (by decide)
 refine its_tup ⟨u1,lis_of (List.getElem?_concat_length ..) u1 ?_⟩
 rw[List.length_append,natL_rev,List.append_assoc]
 refine⟨AdI m P S ks σ lf ls,⟨_,.mk (out':=out) (t:=ks.reverse) ?_ ?_ ?_ ?_ ?_ (by rw[List.length_reverse];exact Nat.le_trans kl (Nat.le_add_left _ _))⟩,?_⟩
 ·exact Gw.app σ [O.list (natL ks),O.list (natL ks.reverse)] _ _ h1
 ·exact Gw.app σ [O.list (natL ks),O.list (natL ks.reverse)] _ _ h2
 ·simp
 ·exact Kx.gw (Gw.app σ [O.list (natL ks),O.list (natL ks.reverse)])
 ·refine⟨fun x hx=>?_,fun x hx=>.start (.inr (by simpa using hx)),fun x hx y hy=>?_,fun x hx=>?_,D.nodup,fun Z Z h=>h⟩
  ·have:=D.sound x hx
   clear hx
   induction this with
   | start h=>exact .start (.inl h)
   | step _ b e ih=>exact .step ih b e
  ·rcases D.closed x hx y hy with h | h | h
   ·exact .inl h
   ·exact h.elim
   ·exact absurd h List.not_mem_nil
  ·rcases hx with hx | hx
   ·rcases D.start x hx with h | h | h
    ·exact .inl h
    ·exact h.elim
    ·exact absurd h List.not_mem_nil
   ·exact .inr (.inr (by simpa using hx))
 ·rintro N ρ σ' ⟨e1,e2,e3,kx,D',tl⟩
  have hS':∀x,(S x∨x∈ks)→x∈nvL:=fun x h=>h.elim (hS x) (hk x)
  have nv_lt:∀x∈nvL,x < 100:=by decide
  have ol:out'.length≤100:=nodup_le 100 out' D'.nodup fun x hx=>nv_lt x (rch_nv I.ok hS' (D'.sound x hx))
  have hL:∀i∈[lf,ls,σ.length+1],P.top≤i:=al3 t1 t2 (Nat.le_succ_of_le I.len)
  have l3:=get_lt e3
  have I':=I.kx kx hL (Nat.le_trans I.len (Nat.le_of_lt (Nat.lt_trans (Nat.lt_succ_self _) l3)))
  rcases List.eq_nil_or_concat t with rfl | ⟨t,x,rfl⟩
  ·refine tru_list e3 (Nat.zero_le _) ?_
   refine q σ' out' (fun i o hi e=>?_) I'.len e1 e2 D'
   have hi2:=get_lt e
   exact kx i o (ni21 hi (Nat.ne_of_lt (Nat.lt_succ_of_lt hi2))) e
  ·rw[List.concat_eq_append]at *
   have u:(natL (t++[x])).length≤line:=by rw[natL_len];exact Nat.le_trans tl (Nat.le_trans (Nat.add_le_add_right (Nat.mul_le_mul_left 10 ol) 10) (by decide))
   have ne:(natL (t++[x])).isEmpty=false:=by simp[natL]
   rw[List.length_append,List.length_singleton]at tl
   have n1:lf≠σ.length+1:=Nat.ne_of_lt (Nat.lt_succ_of_lt l1)
   have n2:ls≠σ.length+1:=Nat.ne_of_lt (Nat.lt_succ_of_lt l2)
   refine tru_list e3 u ?_
   rw[ne]
   refine pop_of e3 u (natL_last t x) ?_
   rw[natL_drop]
   have e2':(σ'.set (σ.length+1) (.list (natL t)))[ls]?=some (.dI (nat1 out')):=by rw[List.getElem?_set_ne (Ne.symm n2)];exact e2
   refine in_look (look_nat1 e2') ?_
   by_cases hx:x∈out'
   ·rw[if_pos hx]
    refine⟨(100 - out'.length) * 10+t.length,by simp,.mk ?_ ?_ ?_ (kx.trans (Kx.set (by simp))) (D'.skip (.inl hx)) (Nat.le_of_succ_le tl)⟩
    ·rw[List.getElem?_set_ne (Ne.symm n1)];exact e1
    ·exact e2'
    ·rw[List.getElem?_set_self l3]
   ·have xn:x∈nvL:=rch_nv I.ok hS' (D'.todos x (by simp))
    rw[if_neg hx]
    have u1:(nat1 out').length≤line:=by rw[nat1_len];exact Nat.le_trans ol (by decide)
    have u2:(natL out').length≤line:=by rw[natL_len];exact Nat.le_trans ol (by decide)
    have d3:=D'.take hx (fun h=>h) (l:=(ifs m x).reverse) (by simp)
    have ol':(out'++[x]).length≤100:=nodup_le 100 _ d3.nodup fun x hx=>nv_lt x (rch_nv I.ok hS' (d3.sound x hx))
    rw[List.length_append,List.length_singleton]at ol'
    have il:=ifs_len I.ok xn
    have S3:∃σ₃,((σ'.set (σ.length+1) (.list (natL t))).set ls (.dI (nat1 (out'++[x])))).set lf (.list (natL (out'++[x])))=σ₃:=⟨_,rfl⟩
    obtain⟨σ₃,eσ₃⟩:=S3
    have a1:σ₃[lf]?=some (.list (natL (out'++[x]))):=by
     rw[←eσ₃,List.getElem?_set_self];rw[List.length_set,List.length_set];exact get_lt e1
    have a2:σ₃[ls]?=some (.dI (nat1 (out'++[x]))):=by
     rw[←eσ₃,List.getElem?_set_ne hne,List.getElem?_set_self];rw[List.length_set];exact get_lt e2
    have a3:σ₃[σ.length+1]?=some (.list (natL t)):=by
     rw[←eσ₃,List.getElem?_set_ne n1,List.getElem?_set_ne n2,List.getElem?_set_self l3]
    have k3:Kx [lf,ls,σ.length+1] σ' σ₃:=by
     rw[←eσ₃];exact((Kx.set (by simp)).trans (Kx.set (by simp))).trans (Kx.set (by simp))
    have len3:σ₃.length=σ'.length:=by rw[←eσ₃];simp
    have I3:=I'.kx k3 hL (by rw[len3];exact I'.len)
    have b0:(((σ'.set (σ.length+1) (.list (natL t))).set ls (.dI (nat1 (out'++[x])))))[lf]?=some (.list (natL out')):=by
     rw[List.getElem?_set_ne (Ne.symm hne),List.getElem?_set_ne (Ne.symm n1)];exact e1
    refine siI_of e2' u1 ?_
    rw[nat1_put hx]
    refine⟨lat_of b0,app_of b0 u2 ?_⟩
    rw[natL_snoc,eσ₃]
    refine I3.ho.me rfl (i_ifs I3 xn ?_)
    have u3:(natL (ifs m x)).length≤line:=by rw[natL_len];exact Nat.le_trans il (by decide)
    have g2:(σ₃++([O.list (natL (ifs m x))]++[O.list (natL (ifs m x).reverse)]))[(σ₃++[O.list (natL (ifs m x))]).length]?=some (.list (natL (ifs m x).reverse)):=by simp
    have g2':(σ₃++[O.list (natL (ifs m x)),O.list (natL (ifs m x).reverse)])[(σ₃++[O.list (natL (ifs m x))]).length]?=some (.list (natL (ifs m x).reverse)):=g2
    refine its_tup ⟨u3,lis_of (List.getElem?_concat_length ..) u3 ?_⟩
    rw[List.append_assoc,natL_rev]
    refine its_list g2 ⟨by rw[natL_len,List.length_reverse];exact Nat.le_trans il (by decide),?_⟩
    have hs:srcOk (.loc (σ₃++[O.list (natL (ifs m x))]).length) (σ₃++[O.list (natL (ifs m x)),O.list (natL (ifs m x).reverse)])=fun σ'=>σ'[(σ₃++[O.list (natL (ifs m x))]).length]?=some (.list (natL (ifs m x).reverse)):=funext fun σ'=>congrArg (σ'[(σ₃++[O.list (natL (ifs m x))]).length]? = ·) g2'
    show forItems (srcOk (.loc (σ₃++[O.list (natL (ifs m x))]).length) (σ₃++[O.list (natL (ifs m x)),O.list (natL (ifs m x).reverse)])) _ _ _ _ _
    rw[hs]
    have a3':=Gw.app σ₃ [O.list (natL (ifs m x)),O.list (natL (ifs m x).reverse)] _ _ a3
    refine push_all (n:=n+5) (i:=4) (j:=6) (l:=(σ₃++[O.list (natL (ifs m x))]).length) (a:=σ.length+1) (by decide) (by rw[List.length_append,len3];exact Nat.ne_of_gt (Nat.lt_succ_of_lt l3)) (items:=natL (ifs m x).reverse) _ _ _ (natL t) rfl (by simp) g2' a3' (by rw[natL_len,natL_len,List.length_reverse];exact Nat.le_trans (Nat.add_le_add (Nat.le_of_succ_le tl) il) (Nat.le_trans (Nat.add_le_add_right (Nat.add_le_add_right (Nat.mul_le_mul_left 10 ol) 10) 2) (by decide))) fun ρ' r1 r2=>?_
    rw[natL_app]
    refine⟨(100 - (out'++[x]).length) * 10+(t++(ifs m x).reverse).length,by rw[List.length_append,List.length_append,List.length_append,List.length_reverse];exact meas ol' (Nat.le_trans il (by decide)),?_⟩
    rw[rho_at r1 r2]
    refine .mk ?_ ?_ ?_ ?_ d3 (by rw[List.length_append,List.length_reverse,List.length_append];exact Nat.add_le_add (Nat.le_of_succ_le tl) (Nat.le_trans il (by decide)))
    ·rw[List.getElem?_set_ne (Ne.symm n1)];exact Gw.app σ₃ _ _ _ a1
    ·rw[List.getElem?_set_ne (Ne.symm n2)];exact Gw.app σ₃ _ _ _ a2
    ·exact set_self a3'
    ·exact((kx.trans k3).trans (Kx.gw (Gw.app _ _))).trans (Kx.set (by simp))
inductive IfI (m:Wm) (P:Pl) (k i:Nat) (σ σ₁:Store) (d:List Nat):Rho→Store→Prop
 | mk {z z2:Option V} {out:List Nat} {σ':Store} (kx:Kx [σ.length,σ.length+1] σ₁ σ') (tl:P.top≤σ'.length) (o1:σ'[σ.length]?=some (.list (natL out))) (o2:σ'[σ.length+1]?=some (.dI (nat1 out)))
   (D:Dfs (ifs m) (fun Z=>False) (fun x=>∃a∈chL m k,x∈ifs m a∧∃a'∈d,(a'=i∧a=k∨a'=a)) out []):IfI m P k i σ σ₁ d [some (V.loc P.H.i),some (V.int (i:Int)),some (.loc σ.length),some (.loc (σ.length+1)),z,z2] σ'
theorem IfI.kx {d:List Nat}{σ₁:Store}{ρ:Rho}(x:IfI m P k i σ σ₁ d ρ σ'):Kx [σ.length,σ.length+1] σ₁ σ':=by cases x;assumption
theorem ifi_step {a y:Nat}{d:List Nat}{S:Nat→List Nat}(ha:a∈chL m k) (hy:y=i∧a=k∨y=a) (hii:i=k∨i∉chL m k) :
  (fun x=>(∃a∈chL m k,x∈S a∧∃a'∈d,(a'=i∧a=k∨a'=a))∨x∈S a)=fun x=>∃a∈chL m k,x∈S a∧∃a'∈d++[y],(a'=i∧a=k∨a'=a):=by
 funext x
 apply propext
 constructor
 ·rintro(⟨b,hb,hx,c,hc,h⟩ | hx)
  ·exact⟨b,hb,hx,c,List.mem_append_left _ hc,h⟩
  ·exact⟨a,ha,hx,y,List.mem_append_right _ (.head _),hy⟩
 ·rintro⟨b,hb,hx,c,hc,h⟩
  refine(List.mem_append.mp hc).elim (fun hc=>.inl ⟨b,hb,hx,c,hc,h⟩) fun hc=>.inr ?_
  have e:b=a:=by
   rw[List.mem_singleton.mp hc]at h
   rcases hy with⟨h1,h2⟩ | h1
   ·rcases h with h | h
    ·rw[h.2,h2]
    ·rcases hii with h' | h'
     ·rw[←h,h1,h2,h']
     ·exact absurd (h1▸h▸hb) h'
   ·rcases h with h | h
    ·rcases hii with h' | h'
     ·rw[←h1,h.1,h.2,h']
     ·exact absurd (h.1▸h1▸ha) h'
    ·rw[←h,h1]
  exact e▸hx
theorem ifi_all (hk:k∈nvL) {S:Nat→List Nat}:(fun x=>∃a∈chL m k,x∈S a∧∃a'∈i :: (chL m k).tail,(a'=i∧a=k∨a'=a))=fun x=>∃a∈chL m k,x∈S a:=by
 funext x
 refine propext ⟨fun zz=>by obtain⟨a,ha,hx,_⟩:=zz;exact⟨a,ha,hx⟩,fun⟨a,ha,hx⟩=>⟨a,ha,hx,?_⟩⟩
 rw[chL_cons (m:=m) hk]at ha
 rcases List.mem_cons.mp ha with h | h
 ·exact⟨i,.head _,.inl ⟨rfl,h⟩⟩
 ·exact⟨a,.tail _ h,.inr rfl⟩
theorem rch_ifc (ok:WOk m) (hk:k∈nvL) {y:Nat}:Rch (ifs m) (fun Z=>False) (fun x=>∃a∈chL m k,x∈ifs m a) y↔Ifc m k y:=by
 constructor
 ·intro r
  induction r with
  | start h=>obtain⟨a,ha,hx⟩:=h;exact⟨a,ha,_,hx,.inl rfl⟩
  | step _ _ e ih=>
   obtain⟨a,ha,z,hz,h⟩:=ih
   have hzn:=(over_nv ok (chL_nv hk a ha) z (List.mem_filter.mp hz).1).1
   have hzi:=(List.mem_filter.mp hz).2
   rcases h with rfl | h
   ·exact⟨a,ha,_,hz,.inr e⟩
   ·rw[ifs_ifs ok hzn hzi _ h]at e;cases e
 ·rintro⟨a,ha,z,hz,rfl | hy⟩
  ·exact .start ⟨a,ha,hz⟩
  ·exact .step (.start ⟨a,ha,hz⟩) (fun h=>h) hy
theorem i_ifaces (I:Inv m P σ bx) (hn:Num m bx i k) (hk:k∈nvL) (q:∀σ' l out,Gw σ σ'→σ.length≤l→σ'[l]?=some (.list (natL out))→out.length≤1000→(∀y,y∈out↔Ifc m k y)→Q (.loc l) σ'):C (n+9) 28 [.loc P.H.i,.int i] σ Q:=by
 refine call_eq (m:=f28) rfl rfl ?_
 refine⟨Nat.zero_le _,dI_of (Nat.zero_le _) rfl List.nodup_nil ?_⟩
 rw[List.append_assoc,List.length_append]
 have I0:=I.gw (Gw.app σ [O.list [],O.dI []])
 refine i_chain I0 hn hk fun σ₁ l g hl el=>?_
 have g:Gw (σ++[O.list [],O.dI []]) σ₁:=g
 have tln:=chL_len (m:=m) hk
 rw[chL_cons (m:=m) hk,List.length_cons]at tln
 refine its_list el ⟨by rw[natL_len,List.length_cons];exact Nat.le_trans tln (by decide),?_⟩
 have und:∀x,x∈i :: (chL m k).tail→∃y,y∈chL m k∧(x=i∧y=k∨x=y):=fun x hx=>by
  rw[chL_cons (m:=m) hk]
  exact(List.mem_cons.mp hx).elim (fun h=>⟨k,.head _,.inl ⟨h,rfl⟩⟩) fun hx=>⟨x,.tail _ hx,.inr rfl⟩
 have hii:i=k∨i∉chL m k:=(num_30 hn hk).imp (fun h=>h) fun h h'=>by
  exact absurd h.2.2 (Nat.not_le.mpr (nv_n0 (m:=m) (chL_nv hk i h')))
 have c0:σ₁[σ.length]?=some (.list []):=g _ _ (by simp)
 have c1:σ₁[σ.length+1]?=some (.dI []):=g _ _ (by simp)
 have lne:l≠σ.length∧l≠σ.length+1:=by
  constructor
  ·intro h;rw[h,c0]at el;exact lnil el.symm
  ·intro h;rw[h,c1]at el;exact dIl el
 have top:P.top≤σ₁.length:=by
  have h1:=gw_len (Gw.app σ [O.list [],O.dI []])
  have h2:=gw_len g
  exact Nat.le_trans I.len (Nat.le_trans h1 h2)
 refine for_nat (IfI m P k i σ σ₁) (fun d ρ σ' h=>(h.kx l _ (by simp[lne]) el).trans el.symm) ?_ ?_ (.mk (out:=[]) (.refl _ _) top c0 c1 ⟨by simp,by simp,by simp,by simp,by simp,by simp⟩)
 ·rintro d y r e ρ σ' ⟨kx,tl,o1,o2,D⟩ K k1 k2 k3
  have hL:∀i∈[σ.length,σ.length+1],P.top≤i:=al2 I.len (Nat.le_succ_of_le I.len)
  have I':=(I0.gw g).kx kx hL tl
  obtain⟨a,ha,hy⟩:=und y (by rw[e];simp)
  have hn':=chL_nv hk a ha
  have fin:C (n+8) 29 [V.loc P.H.i,V.tup (natL (ifs m a)),V.loc σ.length,V.loc (σ.length+1)] σ' (fun v σ₃=>K .nx [some (V.loc P.H.i),some (V.int (i:Int)),some (.loc σ.length),some (.loc (σ.length+1)),some (V.int (y:Int)),z2] σ₃):=by
   refine i_add I' o1 o2 (hL _ (by simp)) (hL _ (by simp)) D ?_ (fun x hx=>(over_nv I.ok hn' x (List.mem_filter.mp hx).1).1) (Nat.le_trans (ifs_len I.ok hn') (by decide)) fun σ₃ out' kx' tl' o1' o2' D'=>?_
   ·rintro x ⟨b,hb,hx,-⟩
    exact(over_nv I.ok (chL_nv hk b hb) x (List.mem_filter.mp hx).1).1
   ·rw[ifi_step ha hy hii]at D'
    exact k1 _ _ (.mk (kx.trans kx') tl' o1' o2' D')
  refine I'.ho.me rfl ?_
  rcases hy with⟨h1,h2⟩ | h1
  ·rw[h1]at fin ⊢
   rw[h2]at fin
   induction hn with
   | st _ e=>subst e;exact i_ifs I' hk fin
   | box _ b e=>subst e;exact b_ifs I' b hk fin
  ·rw[h1]at fin ⊢
   exact i_ifs I' hn' fin
 ·rintro ρ σ' ⟨kx,tl,o1,o2,D⟩
  have g2:Gw σ σ':=fun j o e=>by
   have h1:=g j o (Gw.app σ _ _ _ e)
   have:=get_lt e
   exact kx j o (ni2 (Nat.ne_of_lt this) (Nat.ne_of_lt (Nat.lt_succ_of_lt this))) h1
  have iff:∀y,y∈out↔Ifc m k y:=fun y=>by
   rw[D.done y,←rch_ifc I.ok hk,ifi_all hk]
   exact⟨fun h=>h.1,fun h=>⟨h,fun h=>h⟩⟩
  have ol:out.length≤1000:=by
   have:∀x∈nvL,x < 1000:=by decide
   refine nodup_le 1000 out D.nodup fun x hx=>this x ?_
   obtain⟨a,ha,z,hz,h⟩:=(iff x).mp hx
   have hzn:=(over_nv I.ok (chL_nv hk a ha) z (List.mem_filter.mp hz).1).1
   rcases h with rfl | h
   ·exact hzn
   ·exact(over_nv I.ok hzn x (List.mem_filter.mp h).1).1
  exact q _ _ out g2 (Nat.le_refl _) o1 ol iff
end
set_option maxRecDepth 20000
structure BkL where
 i:Nat
 d:Nat
 p:Nat
 l:Nat
 r:Nat
noncomputable abbrev Pr:=Nat×Nat
noncomputable def prV (a:Pr):V:=.tup [.int (a.1:Int),.int (a.2:Int)]
noncomputable def prK (a:Pr):Ky:=((a.1:Int),(a.2:Int),none)
noncomputable def pr1 (l:List Pr):List (Ky×V):=l.map fun a=>(prK a,V.int 1)
theorem prK_inj {a b:Pr}(h:prK a=prK b):a=b:=by
 obtain⟨a1,a2⟩:=a
 obtain⟨b1,b2⟩:=b
 simp only[prK,Prod.mk.injEq,and_true]at h ⊢
 exact⟨Int.ofNat.inj h.1,Int.ofNat.inj h.2⟩
theorem pr1_get {l:List Pr}{a:Pr}:agets (pr1 l) (prK a)=if a∈l then some (.int 1) else none:=by
 induction l with
 | nil=>rfl
 | cons b l ih=>
  unfold pr1 agets at ih ⊢
  rw[List.map_cons,List.find?_cons]
  by_cases h:b=a
  ·subst h;simp
  ·have:¬prK b=prK a:=fun e=>h (prK_inj e)
   have h':¬a=b:=fun e=>h e.symm
   simp only[this,decide_false,List.mem_cons,h',false_or]
   exact ih
theorem pr1_put {l:List Pr}{a:Pr}(h:a∉l):asets (pr1 l) (prK a) (.int 1)=pr1 (l++[a]):=by
 unfold asets
 have:(pr1 l).any (fun p=>decide (p.1=prK a))=false:=by
  rw[List.any_eq_false]
  intro p hp
  obtain⟨y,hy,rfl⟩:=List.mem_map.mp hp
  simp only[decide_eq_true_eq]
  intro e
  exact h (prK_inj e▸hy)
 rw[this,if_neg (by simp)]
 simp[pr1]
theorem kyOf_pr (a b:Nat):kyOf (.tup [.int (a:Int),.int (b:Int)])=some (prK (a,b)):=rfl
structure BkAt (σ:Store) (B:BkL) (prs prv:List Pr):Prop where
 inst:σ[B.i]?=some (.inst 2 B.d)
 ns:σ[B.d]?=some (.ns [(14,.int 1),(15,.loc B.p),(16,.loc B.l),(17,.loc B.r)])
 p:σ[B.p]?=some (.list (prs.map prV))
 l:σ[B.l]?=some (.dT (pr1 prs))
 r:σ[B.r]?=some (.dT (pr1 prv))
section
variable {m:Wm}{P:Pl}{B:BkL}{σ σ' σ'':Store}{bx bx' bx'':List Nat}{prs prs' prv:List Pr}{t0 n k x y t i:Nat}{Q:Post}
theorem nodup_map {α β:Type}{l:List α}(f:α→β) (h:l.Nodup) (hf:∀a∈l,∀b∈l,f a=f b→a=b):(l.map f).Nodup:=by
 rw[List.Nodup,List.pairwise_map]
 exact List.Pairwise.imp_of_mem (fun ha hb hab e=>hab (hf _ ha _ hb e)) h
noncomputable def bxb (x:Nat):Bool:=(decide (1≤x)&&decide (x≤10)) || (decide (24≤x)&&decide (x≤29))
noncomputable def bxf (x:Nat):Nat:=if x≤10 then x - 1 else x - 14
theorem bx16 (I:Inv m P σ bx):bx.length≤16:=by
 have hx:∀x∈bx,x < 30∧bxb x=true:=fun x hx=>by
  rcases I.bx x hx with⟨a,b⟩ | h
  ·exact(by decide:∀x∈nvL,isVal x=true→x < 30∧bxb x=true) x b a
  ·exact(by decide:∀x,x < 30→isVar x=true→x < 30∧bxb x=true) x (Nat.lt_succ_of_le (isVar_iff.mp h).2) h
 have h1:=nodup_map bxf I.nd fun a ha b hb e=>(by decide +kernel:∀a,a < 30→bxb a=true→∀b,b < 30→bxb b=true→bxf a=bxf b→a=b) a (hx a ha).1 (hx a ha).2 b (hx b hb).1 (hx b hb).2 e
 have:=nodup_le 16 _ h1 fun y hy=>by
  obtain⟨x,hx',rfl⟩:=List.mem_map.mp hy
  exact(by decide:∀x,x < 30→bxf x < 16) x (hx x hx').1
 rwa [List.length_map]at this
structure Bk (m:Wm) (P:Pl) (B:BkL) (t0:Nat) (σ:Store) (bx:List Nat) (prs prv:List Pr):Prop where
 inv:Inv m P σ bx
 at_:BkAt σ B prs prv
 nd:prs.Nodup
 ok:∀a∈prs,(∃k,Num m bx a.1 k∧Subj k)∧isRef a.2=true∧a.2≠12∧a.2∈t0 :: hl m
 top:∀j∈[B.i,B.d,B.p,B.l,B.r],P.top≤j
 dis:[B.i,B.d,B.p,B.l,B.r].Nodup
theorem num_lt2 (I:Inv m P σ bx) (h:Num m bx i k) (hs:isRef k=true→k∈nvL):i < N0 m+bx.length:=by
 induction h with
 | st a e=>subst e;exact Nat.lt_of_lt_of_le (nv_n0 (m:=m) (hs a)) (Nat.le_add_right _ _)
 | box a b e=>exact e▸Nat.add_lt_add_left (get_lt b) _
theorem d6 {a b i j:Nat}(h:a * 6+i=b * 6+j) (hi:i < 6) (hj:j < 6):a=b∧i=j:=by lia
theorem prs_len (I:Inv m P σ bx) {l:List Pr}(nd:l.Nodup) (ok:∀a∈l,(∃k,Num m bx a.1 k∧Subj k)∧isRef a.2=true∧a.2≠12∧a.2∈t0 :: hl m):l.length < 512:=by
 have n0:=n0_le m
 have b16:=bx16 I
 have hi:∀a∈l,a.1 < 66:=fun a ha=>by
  obtain⟨⟨k,h1,h2⟩,-⟩:=ok a ha
  exact Nat.lt_of_lt_of_le (num_lt2 I h1 nv_ref) (Nat.add_le_add n0.1 b16)
 have hidx:∀a∈l,(t0 :: hl m).idxOf a.2 < 6:=fun a ha=>by
  have:=List.idxOf_lt_length_of_mem (ok a ha).2.2.2
  simpa[hl] using this
 have h1:=nodup_map (fun a:Pr=>a.1 * 6+(t0 :: hl m).idxOf a.2) nd fun a ha b hb e=>by
  have h1:=hidx a ha
  have h2:=hidx b hb
  obtain⟨e1,e2⟩:=d6 e h1 h2
  have g1:=List.getElem_idxOf (List.idxOf_lt_length_of_mem (ok a ha).2.2.2)
  have g2:=List.getElem_idxOf (List.idxOf_lt_length_of_mem (ok b hb).2.2.2)
  refine Prod.ext e1 ?_
  rw[←g1,←g2]
  simp only[e2]
 have:=nodup_le 396 _ h1 fun y hy=>by
  obtain⟨a,ha,rfl⟩:=List.mem_map.mp hy
  exact Nat.lt_of_lt_of_le (Nat.add_lt_add_left (hidx a ha) _) (Nat.add_one_mul a.1 6▸Nat.mul_le_mul_right 6 (hi a ha))
 rw[List.length_map]at this
 exact Nat.lt_of_le_of_lt this (by decide)
theorem Bk.len (S:Bk m P B t0 σ bx prs prv):prs.length < 512:=prs_len S.inv S.nd S.ok
noncomputable def PR (m:Wm) (bx:List Nat) (prv:List Pr):Pd:=fun k t=>∃i,Num m bx i k∧(i,t)∈prv
noncomputable def Agr (m:Wm) (bx:List Nat) (prs prv:List Pr) (R:Pd):Prop:=∀i t k,(i,t)∈prs→Num m bx i k→R k t→(i,t)∈prv
noncomputable def Ans (m:Wm) (bx:List Nat) (prs prv:List Pr) (F:Pd→Prop) (b:Bool):Prop:=(b=true→F (PR m bx prv))∧(b=false→∀R,Agr m bx prs prv R→¬F R)
theorem PR.mono (p:bx <+:bx'):∀k t,PR m bx prv k t→PR m bx' prv k t:=fun k t zz=>by obtain⟨i,h1,h2⟩:=zz;exact⟨i,h1.mono p,h2⟩
theorem Agr.back {R:Pd}(h:Agr m bx' prs' prv R) (p:bx <+:bx') (q:∀a∈prs,a∈prs'):Agr m bx prs prv R:=fun i t k h1 h2 h3=>h i t k (q _ h1) (h2.mono p) h3
structure Gb (m:Wm) (P:Pl) (B:BkL) (t0:Nat) (prv:List Pr) (σ:Store) (bx:List Nat) (prs:List Pr) (σ':Store) (bx':List Nat) (prs':List Pr):Prop where
 bk:Bk m P B t0 σ' bx' prs' prv
 nx:Nx m P [B.p,B.l] σ bx σ' bx'
 sub:prs <+:prs'
theorem Gb.refl (S:Bk m P B t0 σ bx prs prv):Gb m P B t0 prv σ bx prs σ bx prs:=⟨S,.refl S.inv,List.prefix_refl _⟩
theorem Gb.mem (x:Gb m P B t0 prv σ bx prs σ' bx' prs'):∀a∈prs,a∈prs':=fun Z h=>x.sub.subset h
theorem Gb.trans {prs'':List Pr}(x:Gb m P B t0 prv σ bx prs σ' bx' prs') (y:Gb m P B t0 prv σ' bx' prs' σ'' bx'' prs''):Gb m P B t0 prv σ bx prs σ'' bx'' prs'':=
 ⟨y.bk,x.nx.trans y.nx,x.sub.trans y.sub⟩
theorem Bk.nx (S:Bk m P B t0 σ bx prs prv) (x:Nx m P [] σ bx σ' bx'):Gb m P B t0 prv σ bx prs σ' bx' prs:=by
 have h:∀j∈[B.i,B.d,B.p,B.l,B.r],∀o,σ[j]?=some o→σ'[j]?=some o:=fun j hj o e=>x.hi S.inv (S.top j hj) e
 refine⟨⟨x.inv,⟨h _ (by simp) _ S.at_.inst,h _ (by simp) _ S.at_.ns,h _ (by simp) _ S.at_.p,h _ (by simp) _ S.at_.l,h _ (by simp) _ S.at_.r⟩,S.nd,fun a ha=>?_,S.top,S.dis⟩,x.any,List.prefix_refl _⟩
 refine Classical.byContradiction fun kk=>?_
 obtain⟨⟨k,h1,h2⟩,h3⟩:=S.ok a ha
 refine kk ?_
 exact⟨⟨k,h1.mono x.pre,h2⟩,h3⟩
theorem Bk.gw (S:Bk m P B t0 σ bx prs prv) (g:Gw σ σ'):Gb m P B t0 prv σ bx prs σ' bx prs:=S.nx (.gw S.inv g)
theorem Gb.hi (x:Gb m P B t0 prv σ bx prs σ' bx' prs') (S:Bk m P B t0 σ bx prs prv) {j:Nat}{o:O}(h:P.top≤j) (h1:j≠B.p) (h2:j≠B.l) (e:σ[j]?=some o):σ'[j]?=some o:=
 x.nx.kp j o e (fun h'=>Nat.lt_irrefl _ (Nat.lt_of_lt_of_le (S.inv.mut_lt h') h)) (by simp[h1,h2])
theorem ref_n0 (h:isRef t=true):t < N0 m∧t≠14∧t < 40:=by
 have hn:=nv_ref h
 have:∀t∈nvL,t≠14∧t < 40:=by decide
 exact⟨nv_n0 hn,this t hn⟩
theorem sort8:sortK k≠8:=by
 unfold sortK
 (repeat' split) <;> decide
theorem nbx {i t n j:Nat}{P:Prop}(h:t < n) (e:i=n+j) (e':i=t):P:=absurd (e'▸h) (e▸Nat.not_lt.mpr (Nat.le_add_right _ _))
theorem num_ne (h:Num m bx i k) (ht:isRef t=true):(i=t↔k=t):=by
 induction h with
 | st a e=>subst e;rfl
 | box a b e=>
  have:=(ref_n0 (m:=m) ht).1
  constructor
  ·exact nbx this e
  ·intro e';subst e';rw[a]at ht;cases ht
theorem Num.fun {k':Nat}(h:Num m bx i k) (h':Num m bx i k'):k=k':=by
 induction h with
 | st a e=>
  induction h' with
  | st a' e'=>exact e.symm.trans e'
  | box a' b' e'=>exact nbx (ref_n0 (m:=m) a).1 e' e
 | box a b e=>
  induction h' with
  | st a' e'=>exact nbx (ref_n0 (m:=m) a').1 e e'
  | box a' b' e'=>
   have:∀{j j'},i=N0 m+j→i=N0 m+j'→j=j':=fun h h'=>Nat.add_left_cancel (h.symm.trans h')
   have:=this e e'
   subst this
   rw[b]at b';exact Option.some.inj b'
theorem n_ref (I:Inv m P σ bx) (h:Num m bx i k) (q:Q (.bool true) σ):C (n+2) 19 [.loc P.L.i,.int i] σ Q:=by
 induction h with
 | st a e=>subst e;exact i_ref I (ref_n0 a).1 (ref_n0 (m:=m) a).2.1 (by rw[a];exact q)
 | box a b e=>subst e;exact b_ref I b q
theorem n_14 (h:Num m bx i k):¬(i:Int)=14:=by
 have:i≠14:=by
  induction h with
  | st a e=>subst e;exact(ref_n0 (m:=m) a).2.1
  | box a b e=>exact Nat.ne_of_gt (Nat.lt_of_lt_of_le (by decide:14 < 46) (e▸Nat.le_trans (n0_le m).2 (Nat.le_add_right _ _)))
 exact nat_ne this
theorem BkAt.at_ (b:BkAt σ B prs prv) {f:Nat}{v:V}(h:agets [(14,V.int 1),(15,.loc B.p),(16,.loc B.l),(17,.loc B.r)] f=some v) (q:Q v σ):attrR (.loc B.i) f σ Q:=at_of b.inst b.ns h q
theorem look_pr {l:Nat}{s:List Pr}{a b:Nat}(h:σ[l]?=some (.dT (pr1 s))):lookO σ (.loc l) (.tup [.int (a:Int),.int (b:Int)])=some (if (a,b)∈s then some (.int 1) else none):=by
 show(match σ[l]?,kyOf (.tup [.int (a:Int),.int (b:Int)])with | some (.dT kvs),some ky=>some (agets kvs ky) | _,_=>none)=_
 rw[h,kyOf_pr];exact congrArg some pr1_get
theorem Bk.put (S:Bk m P B t0 σ bx prs prv) (hn:Num m bx i k) (hk:Subj k) (ht:isRef t=true) (h0:t∈t0 :: hl m) (e2:t≠12) (hm:(i,t)∉prs) :
  Gb m P B t0 prv σ bx prs ((σ.set B.l (.dT (pr1 (prs++[(i,t)])))).set B.p (.list ((prs++[(i,t)]).map prV))) bx (prs++[(i,t)]) ∧
  (σ.set B.l (.dT (pr1 (prs++[(i,t)]))))[B.i]?=some (.inst 2 B.d)∧(σ.set B.l (.dT (pr1 (prs++[(i,t)]))))[B.d]?=some (.ns [(14,.int 1),(15,.loc B.p),(16,.loc B.l),(17,.loc B.r)])∧(σ.set B.l (.dT (pr1 (prs++[(i,t)]))))[B.p]?=some (.list (prs.map prV)):=by
 refine Classical.byContradiction fun kk=>?_
 have b:=S.at_
 have dis:=S.dis
 simp only[List.nodup_cons,List.mem_cons,List.not_mem_nil,or_false,not_or]at dis
 obtain⟨⟨d1,d2,d3,d4⟩,⟨d5,d6,d7⟩,⟨d8,d9⟩,d10⟩:=dis
 have s1:(σ.set B.l (.dT (pr1 (prs++[(i,t)]))))[B.i]?=some (.inst 2 B.d):=(set_ne (Ne.symm d3)).trans b.inst
 have s2:(σ.set B.l (.dT (pr1 (prs++[(i,t)]))))[B.d]?=some (.ns [(14,.int 1),(15,.loc B.p),(16,.loc B.l),(17,.loc B.r)]):=(set_ne (Ne.symm d6)).trans b.ns
 have s3:(σ.set B.l (.dT (pr1 (prs++[(i,t)]))))[B.p]?=some (.list (prs.map prV)):=(set_ne (Ne.symm d8)).trans b.p
 have kx:Kx [B.p,B.l] σ ((σ.set B.l (.dT (pr1 (prs++[(i,t)])))).set B.p (.list ((prs++[(i,t)]).map prV))):=(Kx.set (.tail _ (.head _))).trans (Kx.set (.head _))
 have I':=S.inv.kx kx (fun j hj=>S.top j (by simp only[List.mem_cons,List.not_mem_nil,or_false]at hj ⊢;rcases hj with h | h <;> simp[h])) (by rw[List.length_set,List.length_set];exact S.inv.len)
 refine kk ?_
 refine⟨⟨⟨I',⟨(set_ne (Ne.symm d2)).trans s1,(set_ne (Ne.symm d5)).trans s2,set_self s3,(set_ne d8).trans (set_self b.l),(set_ne d9).trans ((set_ne d10.1).trans b.r)⟩,?_,fun a ha=>?_,S.top,S.dis⟩,⟨I',fun j o e Z h=>kx j o h e,List.prefix_refl _⟩,List.prefix_append _ _⟩,s1,s2,s3⟩
 ·rw[List.nodup_append]
  refine⟨S.nd,by simp,fun a ha b hb e=>?_⟩
  rw[List.mem_singleton]at hb
  exact hm (hb▸e▸ha)
 ·rcases List.mem_append.mp ha with ha | ha
  ·exact S.ok a ha
  ·rw[List.mem_singleton]at ha;subst ha
   exact⟨⟨k,hn,hk⟩,ht,e2,h0⟩
theorem i_within (S:Bk m P B t0 σ bx prs prv) (hn:Num m bx i k) (hk:Subj k) (ht:isRef t=true) (h0:t∈t0 :: hl m)
  (q:∀σ' prs' b,Gb m P B t0 prv σ bx prs σ' bx prs'→Ans m bx prs' prv (fun R=>Wn R k t) b→(b=true∨(i,t)∈prs')→Q (.bool b) σ'):C (n+3) 42 [.loc P.H.i,.int i,.int t,.loc B.i] σ Q:=by
 refine call_eq (m:=f42) rfl rfl ?_
 have nt:=ref_n0 (m:=m) ht
 by_cases e1:i=t
 ·exact eqT (eqfT e1) (q σ prs true (.refl S) ⟨fun Z=>.inl ((num_ne hn ht).mp e1),fun h=>bft h⟩ (.inl rfl))
 ·have kt:k≠t:=fun h=>e1 ((num_ne hn ht).mpr h)
  refine eqF (nat_ne e1) (S.inv.ho.at_ rfl (n_ref S.inv hn (i_ref S.inv nt.1 nt.2.1 ?_)))
  rw[ht]
  refine eqF (n_14 hn) (eqF (nat_ne nt.2.1) (i_sort S.inv nt.1 (eqF sort8 ?_)))
  by_cases e2:t=12
  ·exact eqT (eqfT e2) (q σ prs true (.refl S) ⟨fun Z=>.inr (.inl e2),fun h=>bft h⟩ (.inl rfl))
  ·refine eqF (nat_ne e2) ⟨lel rfl,S.at_.at_ rfl (nin_look (look_pr S.at_.l) ?_)⟩
   have fin:∀(σ':Store) (prs':List Pr),Gb m P B t0 prv σ bx prs σ' bx prs'→(i,t)∈prs'→Q (.bool (if (i,t)∈prv then some (V.int 1) else none).isSome) σ':=fun σ' prs' g hm=>by
    refine q σ' prs' _ g ⟨fun h=>.inr (.inr ⟨i,hn,?_⟩),fun h R hR w=>?_⟩ (.inr hm)
    ·by_cases h':(i,t)∈prv
     ·exact h'
     ·rw[if_neg h']at h;cases h
    ·rcases w with w | w | w
     ·exact kt w
     ·exact e2 w
     ·rw[if_pos (hR i t k hm hn w)]at h;cases h
   by_cases hm:(i,t)∈prs
   ·rw[if_pos hm]
    exact⟨lel rfl,S.at_.at_ rfl (in_look (look_pr S.at_.r) (fin σ prs (.refl S) hm))⟩
   ·rw[if_neg hm]
    obtain⟨g,s1,s2,s3⟩:=S.put hn hk ht h0 e2 hm
    have pl:(prs.map prV).length≤line:=by rw[List.length_map];exact Nat.le_trans (Nat.le_of_lt S.len) (by decide)
    refine S.at_.at_ rfl (seq_list S.at_.p ⟨pl,ltT (by rw[List.length_map];exact Int.ofNat_lt.mpr S.len) ?_⟩)
    refine S.at_.at_ rfl ⟨lel rfl,siT_of S.at_.l (by rw[pr1,List.length_map,←List.length_map (f:=prV)];exact pl) (kyOf_pr i t) ?_⟩
    rw[pr1_put hm]
    refine at_of s1 s2 rfl ⟨lat_of s3,lel rfl,app_of s3 pl ?_⟩
    rw[show List.map prV prs++[V.tup [V.int (i:Int),V.int (t:Int)]]=(prs++[(i,t)]).map prV by rw[List.map_append];rfl]
    exact⟨lel rfl,g.bk.at_.at_ rfl (in_look (look_pr g.bk.at_.r) (fin _ _ g (List.mem_append_right _ (.head _))))⟩
end
set_option maxRecDepth 20000
section
variable {m:Wm}{P:Pl}{B:BkL}{σ σ' σ'':Store}{bx bx' bx'':List Nat}{prs prs' prv:List Pr}{t0 n k x y t i:Nat}{Q:Post}
theorem ints_nat (l:List Nat):intsOf (natL l)=some (ci l):=by
 induction l with
 | nil=>rfl
 | cons a l ih=>show(intsOf (natL l)).map (fun r=>(a:Int) :: r)=_;rw[ih];rfl
theorem ci_contains (l:List Nat) (x:Nat):(ci l).contains (x:Int)=decide (x∈l):=by
 induction l with
 | nil=>rfl
 | cons a l ih=>
  unfold ci at ih ⊢
  rw[List.map_cons,List.contains_cons,ih]
  by_cases h:x=a
  ·subst h;simp
  ·have:((x:Int)==(a:Int))=false:=beq_eq_false_iff_ne.mpr fun e=>h (Int.ofNat.inj e)
   simp[this,h]
theorem int_beq {a b:Nat}:((a:Int)==(b:Int))=decide (a=b):=by
 by_cases h:a=b
 ·subst h;simp
 ·rw[decide_eq_false h];exact beq_eq_false_iff_ne.mpr fun e=>h (Int.ofNat.inj e)
theorem hl_n0 {x:Nat}(h:x∈hl m):x < N0 m∧x≠14:=by
 rcases hl_subj h with h | h
 ·have:∀x∈nvL,x≠14:=by decide
  exact⟨nv_n0 h,this x h⟩
 ·refine⟨var_n0 h,?_⟩
  exact Nat.ne_of_gt (Nat.lt_of_lt_of_le (by decide) (isVar_iff.mp h).1)
theorem in_nat {l:Nat}{xs:List Nat}(h:σ[l]?=some (.list (natL xs))) (q:Q (.bool (decide (x∈xs))) σ):cmpR .inn (.int x) (.loc l) σ Q:=in_list h (show(intsOf (natL xs)).map (fun l=>l.contains (x:Int))=_ by rw[ints_nat,Option.map_some,ci_contains]) q
theorem i_inner (S:Bk m P B t0 σ bx prs prv) (hx:x∈hl m) (hy:y∈hl m)
  (q:∀σ' bx' prs' b,Gb m P B t0 prv σ bx prs σ' bx' prs'→Ans m bx' prs' prv (fun R=>Inn m R x y) b→Q (.bool b) σ'):C (n+8) 46 [.loc P.H.i,.int x,.int y,.loc B.i] σ Q:=by
 refine call_eq (m:=f46) rfl rfl ?_
 have nx:=hl_n0 hx
 have ny:=hl_n0 hy
 refine S.inv.ho.at_ rfl ?_
 refine i_firm S.inv nx.1 nx.2 fun σ₁ b g hb=>?_
 induction b with
 | false=>
  exact q _ _ _ false (S.gw g) ⟨(fun h=>bff h),fun Z R Z h=>by have:=hb.mpr h.1;cases this⟩
 | true=>
  have firm:=hb.mp rfl
  have G1:=S.gw g
  have I1:=G1.bk.inv
  refine i_var I1 ny.1 ?_
  cases hv:isVar y with
  | true=>
   by_cases e:x=y
   ·refine eqT (eqfT e) ?_
    exact q _ _ _ true G1 ⟨fun Z=>⟨firm,.inl ⟨hv,.inl e⟩⟩,fun h=>bft h⟩
   ·refine eqF (nat_ne e) ?_
    refine i_var I1 nx.1 ?_
    cases hvx:isVar x with
    | false=>
     refine q _ _ _ false G1 ⟨(fun h=>bff h),fun Z R Z h=>?_⟩
     rcases h.2 with⟨-,h | ⟨h,-⟩⟩ | ⟨h,-⟩
     ·exact e h
     ·rw[hvx]at h;cases h
     ·rw[hv]at h;cases h
    | true=>
     refine i_bounds I1 hvx fun σ₂ l out g2 Z Z hl Z hout=>?_
     refine in_nat hl ?_
     refine q _ _ _ _ (G1.trans (G1.bk.gw g2)) ⟨fun h=>⟨firm,.inl ⟨hv,.inr ⟨hvx,(hout y).mp (of_decide_eq_true h)⟩⟩⟩,fun h R Z w=>?_⟩
     rcases w.2 with⟨-,w | ⟨-,w⟩⟩ | ⟨w,-⟩
     ·exact e w
     ·exact of_decide_eq_false h ((hout y).mpr w)
     ·rw[hv]at w;cases w
  | false=>
   refine i_ref I1 ny.1 ny.2 ?_
   cases hr:isRef y with
   | false=>
    refine q _ _ _ false G1 ⟨(fun h=>bff h),fun Z R Z h=>?_⟩
    rcases h.2 with⟨h,-⟩ | ⟨-,h,-⟩
    ·rw[hv]at h;cases h
    ·rw[hr]at h;cases h
   | true=>
    have last:∀σ₂ bx₂ i,Gb m P B t0 prv σ bx prs σ₂ bx₂ prs→Num m bx₂ i x→C (n+7) 42 [.loc P.H.i,.int i,.int y,.loc B.i] σ₂ Q:=fun σ₂ bx₂ i G hn=>by
     refine i_within G.bk hn (hl_subj hx) hr (List.mem_cons_of_mem _ hy) fun σ₃ prs₃ b G3 A Z=>q _ _ _ b (G.trans G3) ⟨fun h=>⟨firm,.inr ⟨hv,hr,A.1 h⟩⟩,fun h R hR w=>A.2 h R hR ?_⟩
     rcases w.2 with⟨w,-⟩ | ⟨-,-,w⟩
     ·rw[hv]at w;cases w
     ·exact w
    refine i_var I1 nx.1 ?_
    cases hvx:isVar x with
    | false=>
     refine last _ _ _ G1 (.st ?_ rfl)
     rcases firm with h | ⟨h,-⟩
     ·exact h
     ·rw[hvx]at h;cases h
    | true=>
     refine i_boxed I1 (.inr hvx) fun σ₂ bx₂ i N hn=>?_
     exact last _ _ _ (G1.trans (G1.bk.nx N)) hn
theorem faces_of:∀k∈nvL,∀t∈nvL,sortK k=2→sortK t=2→tidK k=tidK t→k≠t→isFace k=true∧isFace t=true:=by decide +kernel
theorem face_tid:∀k∈nvL,isFace k=true→sortK k=2∧tidK k=69:=by decide +kernel
theorem variances_69:(lget (Dm m).variances 69).getD []=[(m.way:Int)]:=rfl
theorem n_sort (I:Inv m P σ bx) (h:Num m bx i k) (q:Q (.int (if isRef k then sortK k else 8)) σ):C (n+2) 14 [.loc P.L.i,.int i] σ Q:=by
 induction h with
 | st a e=>subst e;rw[if_pos a]at q;exact i_sort I (ref_n0 a).1 q
 | box a b e=>subst e;rw[if_neg (by rw[a];decide)]at q;exact b_sort I b q
theorem i_varw (S:Bk m P B t0 σ bx prs prv) (hn:Num m bx i k) (hk:k∈nvL) (ht:isRef t=true)
  (q:∀σ' bx' prs' b,Gb m P B t0 prv σ bx prs σ' bx' prs'→Ans m bx' prs' prv (fun R=>k=t∨Vw m R k t) b→Q (.bool b) σ'):C (n+9) 45 [.loc P.H.i,.int i,.int t,.loc B.i] σ Q:=by
 refine call_eq (m:=f45) rfl rfl ?_
 have nt:=ref_n0 (m:=m) ht
 have ntv:=nv_ref ht
 by_cases e1:i=t
 ·exact eqT (eqfT e1) (q _ _ _ true (.refl S) ⟨fun Z=>.inl ((num_ne hn ht).mp e1),fun h=>bft h⟩)
 ·have kt:k≠t:=fun h=>e1 ((num_ne hn ht).mpr h)
  have no:(¬(isFace k=true∧isFace t=true))→Q (.bool false) σ:=fun h=>q _ _ _ false (.refl S) ⟨(fun h=>bff h),fun Z R Z w=>w.elim kt fun v=>h ⟨v.1,v.2.1⟩⟩
  refine eqF (nat_ne e1) (S.inv.ho.at_ rfl (n_sort S.inv hn ?_))
  cases hr:isRef k with
  | false=>
   exact ne_of rfl (no fun h=>by have:=(face_nv (m:=m) h.1).2.2.2.1;rw[hr]at this;cases this)
  | true=>
   obtain rfl:i=k:=by
    induction hn with
    | st a e=>exact e
    | box a b e=>rw[a]at hr;cases hr
   have nk:=ref_n0 (m:=m) hr
   by_cases s2:sortK i=2
   ·refine neF s2 (i_sort S.inv nt.1 ?_)
    by_cases s3:sortK t=2
    ·refine neF s3 (i_tid S.inv nk.1 (i_tid S.inv nt.1 ?_))
     by_cases s4:tidK i=tidK t
     ·refine neF s4 (S.inv.ho.me rfl (i_tid S.inv nk.1 ?_))
      obtain⟨fi,ft⟩:=faces_of i hk t ntv s2 s3 s4 kt
      have ne:el m i≠el m t:=fun h=>kt (face_el fi ft h)
      have hx:=(face_nv (m:=m) fi).2.2.2.2.2.2.2
      have hy:=(face_nv (m:=m) ft).2.2.2.2.2.2.2
      rw[(face_tid i hk fi).2]
      refine i_variance S.inv ?_
      rw[variances_69]
      refine i_args S.inv nk.1 ?_
      rw[show argK m i=[el m i] by unfold argK;rw[if_pos fi]]
      refine i_args S.inv nt.1 ?_
      rw[show argK m t=[el m t] by unfold argK;rw[if_pos ft]]
      dsimp only[f45,rho0,List.map_cons,List.map_nil,List.cons_append,List.nil_append,List.length_cons,List.length_nil,List.replicate,List.set_cons_zero,List.set_cons_succ,Nat.reduceSub,Nat.reduceAdd]
      refine seq_tup ⟨lel rfl,seq_tup ⟨lel rfl,ne_of rfl (seq_tup ⟨lel rfl,⟨by show(0:Int)≤1;decide,by show(1:Int)≤1000000;decide⟩,⟨trivial,sub_tup (by decide) (lel rfl) rfl (sub_tup (by decide) (lel rfl) rfl (neT (nat_ne ne) (seq_tup ⟨lel rfl,ltT (by show(0:Int) < 1;decide) ?_⟩)))⟩⟩)⟩⟩
      refine sub_tup (by decide) (lel rfl) rfl ?_
      have ww:m.way=0∨m.way=1∨m.way=2:=(by decide:∀w < 3,w=0∨w=1∨w=2) _ S.inv.ok.way
      rcases ww with w | w | w
      ·rw[w]
       refine eqF (by decide) (sub_tup (by decide) (lel rfl) rfl (sub_tup (by decide) (lel rfl) rfl ⟨lel rfl,eqT rfl ?_⟩))
       exact q _ _ _ false (.refl S) ⟨(fun h=>bff h),fun Z R Z v=>by
        rcases v with v | ⟨-,-,-,⟨v,-⟩ | ⟨v,-⟩⟩
        ·exact kt v
        ·rw[w]at v;exact absurd v (by decide)
        ·rw[w]at v;exact absurd v (by decide)⟩
      ·rw[w]
       refine eqF (by decide) (sub_tup (by decide) (lel rfl) rfl (sub_tup (by decide) (lel rfl) rfl ⟨lel rfl,eqF (by decide) (sub_tup (by decide) (lel rfl) rfl (sub_tup (by decide) (lel rfl) rfl ?_))⟩))
       refine i_inner S hx hy fun σ' bx' prs' b G A=>?_
       cases b with
       | true=>exact⟨trivial,q _ _ _ true G ⟨fun Z=>.inr ⟨fi,ft,ne,.inl ⟨w,A.1 rfl⟩⟩,fun h=>by cases h⟩⟩
       | false=>
        refine q _ _ _ false G ⟨(fun h=>by cases h),fun Z R hR v=>?_⟩
        rcases v with v | ⟨-,-,-,⟨-,v⟩ | ⟨v,-⟩⟩
        ·exact kt v
        ·exact A.2 rfl R hR v
        ·rw[w]at v;exact absurd v (by decide)
      ·rw[w]
       refine eqT rfl (sub_tup (by decide) (lel rfl) rfl (sub_tup (by decide) (lel rfl) rfl ⟨lel rfl,eqF (by decide) (sub_tup (by decide) (lel rfl) rfl (sub_tup (by decide) (lel rfl) rfl ?_))⟩))
       refine i_inner S hy hx fun σ' bx' prs' b G A=>?_
       cases b with
       | true=>exact⟨trivial,q _ _ _ true G ⟨fun Z=>.inr ⟨fi,ft,ne,.inr ⟨w,A.1 rfl⟩⟩,fun h=>by cases h⟩⟩
       | false=>
        refine q _ _ _ false G ⟨(fun h=>by cases h),fun Z R hR v=>?_⟩
        rcases v with v | ⟨-,-,-,⟨v,-⟩ | ⟨-,v⟩⟩
        ·exact kt v
        ·rw[w]at v;exact absurd v (by decide)
        ·exact A.2 rfl R hR v
     ·exact neT s4 (no fun h=>s4 (by rw[(face_tid i hk h.1).2,(face_tid t ntv h.2).2]))
    ·exact neT s3 (no fun h=>s3 (face_tid t ntv h.2).1)
   ·exact neT s2 (no fun h=>s2 (face_tid i hk h.1).1)
theorem i_elems (S:Bk m P B t0 σ bx prs prv) (hx:x∈hl m) (hy:y∈hl m)
  (q:∀σ' bx' prs' b,Gb m P B t0 prv σ bx prs σ' bx' prs'→Ans m bx' prs' prv (fun R=>x=y∨Inn m R x y) b→Q (.bool b) σ'):C (n+9) 47 [.loc P.H.i,.int x,.int y,.loc B.i] σ Q:=by
 refine call_eq (m:=f47) rfl rfl ?_
 have nx:=hl_n0 hx
 by_cases e:x=y
 ·exact eqT (eqfT e) (q _ _ _ true (.refl S) ⟨fun Z=>.inl e,fun h=>bft h⟩)
 ·refine eqF (nat_ne e) (i_firm S.inv nx.1 nx.2 fun σ₁ b g hb=>?_)
  have G1:=S.gw g
  induction b with
  | true=>
   exact i_inner G1.bk hx hy fun σ' bx' prs' b G A=>q _ _ _ b (G1.trans G) ⟨fun h=>.inr (A.1 h),fun h R hR w=>w.elim e (A.2 h R hR)⟩
  | false=>
   exact G1.bk.at_.at_ rfl (truT (by decide) (q _ _ _ false G1 ⟨(fun h=>bff h),fun Z R Z w=>w.elim e fun w=>by have:=hb.mpr w.1;cases this⟩))
noncomputable def ParW (m:Wm) (R:Pd) (k t:Nat):Prop:=(t=21∧Pv m k)∨∃b,RB m k b∧isVar b=false∧Wn R b t
theorem i_param (S:Bk m P B t0 σ bx prs prv) (hk:isVar k=true) (ht:isRef t=true) (h0:t∈t0 :: hl m)
  (q:∀σ' bx' prs' b,Gb m P B t0 prv σ bx prs σ' bx' prs'→Ans m bx' prs' prv (fun R=>ParW m R k t) b→Q (.bool b) σ'):C (n+8) 44 [.loc P.H.i,.int k,.int t,.loc B.i] σ Q:=by
 refine call_eq (m:=f44) rfl rfl ?_
 have loop:∀σ₁,Gb m P B t0 prv σ bx prs σ₁ bx prs→¬(t=21∧Pv m k)→wpSs (C (n+7)) (f44.body.drop 1) [some (.loc P.H.i),some (.int (k:Int)),some (.int (t:Int)),some (.loc B.i),none,none,none] σ₁ (rtn Q):=by
  intro σ₁ G1 hno
  refine i_bounds G1.bk.inv hk fun σ₂ l out g2 Z hll hl hlen hout=>?_
  have G2:=G1.trans (G1.bk.gw g2)
  refine its_list hl ⟨by rw[natL_len];exact Nat.le_trans hlen (by decide),?_⟩
  have lp:=get_lt G1.bk.at_.p
  have l2:=get_lt G1.bk.at_.l
  have tp:P.top≤l:=Nat.le_trans G1.bk.inv.len hll
  refine for_nat (fun d ρ σ'=>(∃z z2 z3,ρ=[some (V.loc P.H.i),some (V.int (k:Int)),some (.int (t:Int)),some (.loc B.i),z,z2,z3])∧∃bx' prs',Gb m P B t0 prv σ₂ bx prs σ' bx' prs'∧∀b∈d,isVar b=false→∀R,Agr m bx' prs' prv R→¬Wn R b t) (fun d ρ σ' h=>?_) ?_ ?_ ⟨⟨none,none,none,rfl⟩,bx,prs,.refl G2.bk,by simp⟩
  ·obtain⟨-,bx',prs',G,-⟩:=h
   exact(G.hi G2.bk tp (Nat.ne_of_gt (Nat.lt_of_lt_of_le lp hll)) (Nat.ne_of_gt (Nat.lt_of_lt_of_le l2 hll)) hl).trans hl.symm
  ·rintro d y r e ρ σ' ⟨⟨z,z2,z3,rfl⟩,bx',prs',G,hd⟩ K k1 k2 k3
   have hy:RB m k y:=(hout y).mp (by rw[e];simp)
   have ly:=rb_n0 S.inv hk hy
   have rl:=rb_lt S.inv.ok hk hy
   have I':=G.bk.inv
   have more:∀bx'' prs'',bx' <+:bx''→(∀a∈prs',a∈prs'')→(isVar y=false→∀R,Agr m bx'' prs'' prv R→¬Wn R y t)→∀b∈d++[y],isVar b=false→∀R,Agr m bx'' prs'' prv R→¬Wn R b t:=fun bx'' prs'' p1 p2 h b hb hv R hR=>by
    rcases List.mem_append.mp hb with hb | hb
    ·exact hd b hb hv R (hR.back p1 p2)
    ·rw[List.mem_singleton]at hb;subst hb;exact h hv R hR
   have fin:∀σ'' bx'' i,Gb m P B t0 prv σ₂ bx prs σ'' bx'' prs'→bx' <+:bx''→isVar y=false→Num m bx'' i y →
     C (n+7) 42 [.loc P.H.i,.int (i:Int),.int (t:Int),.loc B.i] σ'' (tstK (ifK (wpSs (C (n+7)) [(.ret (.lit (.bool true)))]) (wpSs (C (n+7)) []) [some (V.loc P.H.i),some (V.int (k:Int)),some (.int (t:Int)),some (.loc B.i),some (.int (y:Int)),some (.int (i:Int)),z3] K)):=by
    intro σ'' bx'' i G'' p hv hn
    have hsub:Subj y:=.inl (rl.2 hv).1
    refine i_within G''.bk hn hsub ht h0 fun σ₃ prs₃ b G3 A Z=>?_
    induction b with
    | true=>exact k3 _ _ _ (q _ _ _ true (G2.trans (G''.trans G3)) ⟨fun Z=>.inr ⟨y,hy,hv,A.1 rfl⟩,fun h=>bft h⟩)
    | false=>exact k1 _ _ ⟨⟨_,_,_,rfl⟩,bx'',prs₃,G''.trans G3,more _ _ p G3.mem fun Z R hR=>A.2 rfl R hR⟩
   have skip:isVar y=true→∀z2,K .nx [some (V.loc P.H.i),some (V.int (k:Int)),some (.int (t:Int)),some (.loc B.i),some (.int (y:Int)),z2,z3] σ':=fun hv z2=>
    k1 _ _ ⟨⟨_,_,_,rfl⟩,bx',prs',G,more _ _ (List.prefix_refl _) (fun Z h=>h) fun h=>by rw[hv]at h;cases h⟩
   refine I'.ho.at_ rfl (i_val I' ly.1 ?_)
   cases hvl:isVal y with
   | true=>
    have hv:isVar y=false:=by
     cases hv:isVar y with
     | false=>rfl
     | true=>
      rw[isVar_iff]at hv
      have:∀b < 30,26≤b→isVal b=false:=by decide
      rw[this y (Nat.lt_succ_of_le hv.2) hv.1]at hvl;cases hvl
    refine I'.ho.at_ rfl (i_boxed I' (.inl ⟨hvl,(rl.2 hv).1⟩) fun σ'' bx'' i N hn=>?_)
    refine N.inv.ho.at_ rfl (i_var N.inv ly.1 ?_)
    rw[hv]
    exact fin σ'' bx'' i (G.trans (G.bk.nx N)) N.pre hv hn
   | false=>
    refine I'.ho.at_ rfl (i_var I' ly.1 ?_)
    cases hv:isVar y with
    | true=>exact skip hv _
    | false=>
     have hr:isRef y=true:=by
      have:∀y∈nvL,isVal y=false→isRef y=true:=by decide
      exact this y (rl.2 hv).1 hvl
     exact fin σ' bx' y G (List.prefix_refl _) hv (.st hr rfl)
  ·rintro ρ σ' ⟨⟨z,z2,z3,rfl⟩,bx',prs',G,hd⟩
   refine q _ _ _ false (G2.trans G) ⟨(fun h=>bff h),fun Z R hR w=>?_⟩
   rcases w with w | ⟨b,h1,h2,w⟩
   ·exact hno w
   ·exact hd b ((hout b).mpr h1) h2 R hR w
 refine S.inv.ho.at_ rfl ⟨Nat.zero_le _,i_vt S.inv ?_⟩
 by_cases e:t=21
 ·subst e
  refine eqT rfl (i_pv S.inv hk fun σ₁ b g hb=>?_)
  induction b with
  | true=>exact q _ _ _ true (S.gw g) ⟨fun Z=>.inl ⟨rfl,hb.mp rfl⟩,fun h=>bft h⟩
  | false=>exact loop σ₁ (S.gw g) fun h=>by have:=hb.mpr h.2;cases this
 ·exact eqF (nat_ne e) (loop σ (.refl S) fun h=>e h.1)
end
set_option maxRecDepth 20000
section
variable {m:Wm}{P:Pl}{B:BkL}{σ σ':Store}{bx bx':List Nat}{prs prs' prv:List Pr}{t0 n k y t i:Nat}{Q:Post}
noncomputable def b43:List MS:=[(.ifS (.any [(.ex (.cmp .eq (.var 5) (.var 2))),(.ex (.call 45 [(.var 0),(.var 5),(.var 2),(.var 3)]))]) [(.ret (.lit (.bool true)))] [])]
noncomputable abbrev r43 (P:Pl) (B:BkL) (i t:Nat) (z z2:Option V):Rho:=[some (.loc P.H.i),some (.int (i:Int)),some (.int (t:Int)),some (.loc B.i),some (.loc P.L.i),z,z2]
inductive LpI (m:Wm) (P:Pl) (B:BkL) (t0:Nat) (σ:Store) (bx:List Nat) (prs prv:List Pr) (i0 t:Nat) (z2:Option V) (d:List Nat):Rho→Store→Prop
 | mk {z:Option V} {bx':List Nat} {prs':List Pr} {σ':Store} (G:Gb m P B t0 prv σ bx prs σ' bx' prs') (hd:∀y∈d,∀a,Num m bx y a→∀R,Agr m bx' prs' prv R→¬(a=t∨Vw m R a t)):LpI m P B t0 σ bx prs prv i0 t z2 d (r43 P B i0 t z z2) σ'
theorem if_lt {y:Nat}(h:isIf y=true):y < 40:=by
 rcases Bool.or_eq_true_iff.mp h with h | h
 ·rcases Bool.or_eq_true_iff.mp h with h | h
  ·rw[beq_iff_eq.mp h];decide
  ·rw[beq_iff_eq.mp h];decide
 ·exact Nat.lt_of_le_of_lt (face_ge h).2.1 (by decide)
theorem loop43 (S:Bk m P B t0 σ bx prs prv) {items:List Nat}{l i0:Nat}{z2:Option V}(hl:σ[l]?=some (.list (natL items))) (tl:P.top≤l) (l1:l≠B.p) (l2:l≠B.l) (ht:isRef t=true)
  (hu:∀y∈items,∃a,Num m bx y a∧a∈nvL) {Q:PostS} {z:Option V}
  (q1:∀σ' bx' prs' ρ y a,Gb m P B t0 prv σ bx prs σ' bx' prs'→y∈items→Num m bx y a→(a=t∨Vw m (PR m bx' prv) a t)→Q (.ret (.bool true)) ρ σ')
  (q2:∀σ' bx' prs' z,Gb m P B t0 prv σ bx prs σ' bx' prs'→(∀y∈items,∀a,Num m bx y a→∀R,Agr m bx' prs' prv R→¬(a=t∨Vw m R a t))→Q .nx (r43 P B i0 t z z2) σ') :
  forItems (srcOk (.loc l) σ) (stpK (wpSs (C (n+9)) b43) (.inl 5)) (natL items) (r43 P B i0 t z z2) σ Q:=by
 refine for_nat (LpI m P B t0 σ bx prs prv i0 t z2) (fun d ρ σ' h=>?_) ?_ ?_ (.mk (.refl S) (by simp))
 ·induction h with
  | mk G _=>exact(G.hi S tl l1 l2 hl).trans hl.symm
 ·rintro d y r e ρ σ' ⟨G,hd⟩ K k1 k2 k3
  refine Classical.byContradiction fun kk=>?_
  have hy:y∈items:=by rw[e];simp
  obtain⟨a,hn,ha⟩:=hu y hy
  have hn':=hn.mono G.nx.pre
  refine kk ?_
  by_cases e1:y=t
  ·refine eqT (eqfT e1) ?_
   exact k3 _ _ _ (q1 _ _ _ _ y a G hy hn (.inl ((num_ne hn ht).mp e1)))
  ·refine eqF (nat_ne e1) ?_
   refine i_varw G.bk hn' ha ht fun σ₂ bx₂ prs₂ b G2 A=>?_
   induction b with
   | true=>exact k3 _ _ _ (q1 _ _ _ _ y a (G.trans G2) hy hn (A.1 rfl))
   | false=>
    refine k1 _ _ (.mk (G.trans G2) fun y' hy' a' hn2 R hR=>?_)
    rcases List.mem_append.mp hy' with h | h
    ·exact hd y' h a' hn2 R (hR.back G2.nx.pre G2.mem)
    ·rw[List.mem_singleton]at h;rw[h]at hn2
     rw[hn2.fun hn]
     exact A.2 rfl R hR
 ·rintro ρ σ' ⟨G,hd⟩
  exact q2 _ _ _ _ G hd
theorem sort4:∀k∈nvL,(sortK k==4)=isArr k:=by decide
theorem i_look (S:Bk m P B t0 σ bx prs prv) (hn:Num m bx i k) (hk:Subj k) (ht:isRef t=true) (h0:t∈t0 :: hl m)
  (q:∀σ' bx' prs' b,Gb m P B t0 prv σ bx prs σ' bx' prs'→Ans m bx' prs' prv (fun R=>Look m R k t) b→Q (.bool b) σ'):C (n+10) 43 [.loc P.H.i,.int i,.int t,.loc B.i] σ Q:=by
 refine call_eq (m:=f43) rfl rfl ?_
 have nt:=ref_n0 (m:=m) ht
 have ntv:=nv_ref ht
 have loops:k∈nvL→¬(isArr k=true∧isArr t=true)→wpSs (C (n+9)) (f43.body.drop 3) (r43 P B i t none none) σ (rtn Q):=by
  intro hkn hna
  have hv:=nv_var hkn
  refine i_chain S.inv hn hkn fun σ₁ l g hll el=>?_
  have G1:=S.gw g
  have tl:=chL_len (m:=m) hkn
  rw[chL_cons (m:=m) hkn,List.length_cons]at tl
  refine its_list el ⟨by rw[natL_len,List.length_cons];exact Nat.le_trans tl (by decide),?_⟩
  have lp:=get_lt S.at_.p
  have l2:=get_lt S.at_.l
  have hu:∀y∈i :: (chL m k).tail,∃a,Num m bx y a∧a∈chL m k∧a∈nvL:=fun y hy=>by
   rcases List.mem_cons.mp hy with rfl | h
   ·exact⟨k,hn,by rw[chL_cons (m:=m) hkn];simp,hkn⟩
   ·have:=(chL_tail (m:=m) hkn y h).1
    exact⟨y,.st this rfl,by rw[chL_cons (m:=m) hkn];exact List.mem_cons_of_mem _ h,nv_ref this⟩
  have hu2:∀a∈chL m k,∃y∈i :: (chL m k).tail,Num m bx y a:=fun a ha=>by
   rw[chL_cons (m:=m) hkn]at ha
   rcases List.mem_cons.mp ha with rfl | h
   ·exact⟨i,by simp,hn⟩
   ·exact⟨a,List.mem_cons_of_mem _ h,.st (chL_tail (m:=m) hkn a h).1 rfl⟩
  refine loop43 G1.bk el (Nat.le_trans S.inv.len hll) (Nat.ne_of_gt (Nat.lt_of_lt_of_le lp hll)) (Nat.ne_of_gt (Nat.lt_of_lt_of_le l2 hll)) ht (fun y hy=>by obtain⟨a,h1,_,h3⟩:=hu y hy;exact⟨a,h1,h3⟩) (fun σ' bx' prs' ρ y a G hy hna' h=>?_) fun σ' bx' prs' z G hd=>?_
  ·obtain⟨a',h1,h2,-⟩:=hu y hy
   exact q _ _ _ true (G1.trans G) ⟨fun Z=>.inr (.inr ⟨hna,hv,.inl ⟨a,(hna'.fun h1).symm▸h2,h⟩⟩),fun h=>bft h⟩
  ·have G':=G1.trans G
   have I':=G'.bk.inv
   refine i_if I' nt.1 ?_
   cases hif:isIf t with
   | false=>
    refine q _ _ _ false G' ⟨(fun h=>bff h),fun Z R hR w=>?_⟩
    rcases w with⟨w1,w2,-⟩ | ⟨w,-⟩ | ⟨-,-,⟨a,ha,w⟩ | ⟨w,-⟩⟩
    ·exact hna ⟨w1,w2⟩
    ·rw[hv]at w;cases w
    ·obtain⟨y,hy,hy'⟩:=hu2 a ha
     exact hd y hy a hy' R hR w
    ·rw[hif]at w;cases w
   | true=>
    refine i_ifaces I' (hn.mono G'.nx.pre) hkn fun σ₂ l₂ out g2 hll2 el2 ol hout=>?_
    have G2:=G'.bk.gw g2
    refine its_list el2 ⟨by rw[natL_len];exact Nat.le_trans ol (by decide),?_⟩
    have lp':=get_lt G'.bk.at_.p
    have l2':=get_lt G'.bk.at_.l
    have hi:∀y∈out,isRef y=true∧y∈nvL:=fun y hy=>by
     have:=ifc_if ((hout y).mp hy)
     have hy':=if_lt this
     have d:∀y < 40,isIf y=true→isRef y=true∧y∈nvL:=by decide
     exact d y hy' this
    refine loop43 (n:=n) G2.bk el2 (Nat.le_trans I'.len hll2) (Nat.ne_of_gt (Nat.lt_of_lt_of_le lp' hll2)) (Nat.ne_of_gt (Nat.lt_of_lt_of_le l2' hll2)) ht (fun y hy=>⟨y,.st (hi y hy).1 rfl,(hi y hy).2⟩) (fun σ' bx' prs' ρ y a G3 hy hna' h=>?_) fun σ' bx' prs' z G3 hd3=>?_
    ·have e:a=y:=hna'.fun (.st (hi y hy).1 rfl)
     exact q _ _ _ true (G'.trans (G2.trans G3)) ⟨fun Z=>.inr (.inr ⟨hna,hv,.inr ⟨hif,a,(hout a).mp (e▸hy),h⟩⟩),fun h=>bft h⟩
    ·refine q _ _ _ false (G'.trans (G2.trans G3)) ⟨(fun h=>bff h),fun Z R hR w=>?_⟩
     rcases w with⟨w1,w2,-⟩ | ⟨w,-⟩ | ⟨-,-,⟨a,ha,w⟩ | ⟨-,a,ha,w⟩⟩
     ·exact hna ⟨w1,w2⟩
     ·rw[hv]at w;cases w
     ·obtain⟨y,hy,hy'⟩:=hu2 a ha
      exact hd y hy a hy' R (hR.back (G2.trans G3).nx.pre (G2.trans G3).mem) w
     ·have:=(hout a).mpr ha
      exact hd3 a this a (.st (hi a this).1 rfl) R hR w
 refine S.inv.ho.at_ rfl (n_sort S.inv hn ?_)
 cases hr:isRef k with
 | true=>
  have hkn:=nv_ref hr
  have hv:=nv_var hkn
  obtain rfl:i=k:=by
   induction hn with
   | st a e=>exact e
   | box a b e=>rw[a]at hr;cases hr
  have s4:∀{k:Nat} {b:Bool},k∈nvL→isArr k=b→(sortK k==4)=b:=fun hk h=>(sort4 _ hk).trans h
  have second:¬(isArr i=true∧isArr t=true)→wpSs (C (n+9)) (f43.body.drop 2) (r43 P B i t none none) σ (rtn Q):=fun h=>i_sort S.inv (nv_n0 hkn) (eqF sort8 (loops hkn h))
  cases ha:isArr i with
  | true=>
   refine eqT (beq_iff_eq.mp (s4 hkn ha)) (i_sort S.inv nt.1 ?_)
   cases hat:isArr t with
   | true=>
    refine eqT (beq_iff_eq.mp (s4 ntv hat)) (i_elem S.inv (nv_n0 hkn) ha (i_elem S.inv nt.1 hat ?_))
    refine i_elems S (arr_nv (m:=m) ha).2.2.2.2.2.2.2 (arr_nv (m:=m) hat).2.2.2.2.2.2.2 fun σ' bx' prs' b G A=>q _ _ _ b G ⟨fun h=>.inl ⟨ha,hat,A.1 h⟩,fun h R hR w=>?_⟩
    rcases w with⟨-,-,w⟩ | ⟨w,-⟩ | ⟨w,-⟩
    ·exact A.2 h R hR w
    ·rw[hv]at w;cases w
    ·exact w ⟨ha,hat⟩
   | false=>exact eqF (beq_eq_false_iff_ne.mp (s4 ntv hat)) (second (fun h=>by rw[hat]at h;cases h.2))
  | false=>exact eqF (beq_eq_false_iff_ne.mp (s4 hkn ha)) (second (fun h=>by rw[ha]at h;cases h.1))
 | false=>
  obtain⟨j,hj,rfl⟩:∃j,bx[j]?=some k∧i=N0 m+j:=by
   induction hn with
   | st a e=>rw[a]at hr;cases hr
   | box a b e=>exact⟨_,b,e⟩
  have nk:=bxk_lt (m:=m) (S.inv.bx k (List.mem_of_getElem? hj))
  have hna:¬(isArr k=true∧isArr t=true):=fun h=>by
   have:=(arr_nv (m:=m) h.1).2.2.2.1
   rw[hr]at this;cases this
  refine eqF (show ¬(8:Int)=4 by decide) (b_sort S.inv hj (eqT rfl (b_elem S.inv hj (i_var S.inv nk.2 ?_))))
  cases hv:isVar k with
  | true=>
   refine b_elem S.inv hj ?_
   refine i_param S hv ht h0 fun σ' bx' prs' b G A=>q _ _ _ b G ⟨fun h=>.inr (.inl ⟨hv,A.1 h⟩),fun h R hR w=>?_⟩
   rcases w with⟨w1,w2,-⟩ | ⟨-,w⟩ | ⟨-,w,-⟩
   ·exact hna ⟨w1,w2⟩
   ·exact A.2 h R hR w
   ·rw[hv]at w;cases w
  | false=>
   exact loops (hk.resolve_right fun h=>by rw[hv]at h;cases h) hna
end
set_option maxRecDepth 20000
section
variable {m:Wm}{P:Pl}{B:BkL}{σ σ':Store}{bx bx':List Nat}{prs prs' prv:List Pr}{t0 n k x y t i:Nat}{Q:Post}
theorem i_proof (S:Bk m P B t0 σ bx prs prv) (hn:Num m bx i k) (hk:Subj k) (ht:isRef t=true) (h0:t∈t0 :: hl m)
  (q:∀σ' bx' prs' b,Gb m P B t0 prv σ bx prs σ' bx' prs'→Ans m bx' prs' prv (fun R=>Look m R k t) b→Q (.bool b) σ'):C (n+11) 41 [.loc P.H.i,prV (i,t),.loc B.i] σ Q:=by
 refine call_eq (m:=f41) rfl rfl ?_
 exact sub_tup (by decide) (lel rfl) rfl (sub_tup (by decide) (lel rfl) rfl (i_look S hn hk ht h0 q))
noncomputable def Snd (m:Wm) (bx:List Nat) (prv:List Pr):Prop:=∀a∈prv,∃k,Num m bx a.1 k∧Subj k∧Ref m k a.2
noncomputable def Don (m:Wm) (bx:List Nat) (prs prv:List Pr) (a:Pr):Prop:=a∈prv∨∀k,Num m bx a.1 k→∀R,Agr m bx prs prv R→¬Look m R k a.2
noncomputable def Mb (B:BkL):List Nat:=[B.p,B.l,B.r]
theorem Gb.mb (x:Gb m P B t0 prv σ bx prs σ' bx' prs'):Nx m P (Mb B) σ bx σ' bx':=x.nx.weak fun i h=>List.mem_append_left [B.r] h
inductive StI (m:Wm) (P:Pl) (B:BkL) (t0:Nat) (σ:Store) (bx:List Nat) (prs:List Pr):Nat→Rho→Store→Prop
 | mk {at_:Nat} {bx':List Nat} {prs' prv':List Pr} {z3 z4:Option V} {σ':Store} (S:Bk m P B t0 σ' bx' prs' prv') (nx:Nx m P (Mb B) σ bx σ' bx') (sub:prs <+:prs') (snd:Snd m bx' prv') (nd:prv'.Nodup) (psub:∀a∈prv',a∈prs')
   (hat:at_≤prs'.length) (don:∀j a,j < at_→prs'[j]?=some a→Don m bx' prs' prv' a):StI m P B t0 σ bx prs ((600 - prv'.length) * 1000+(600 - at_)) [some (V.loc P.H.i),some (.loc B.i),some (.int (at_:Int)),z3,z4] σ'
theorem i_settle (S:Bk m P B t0 σ bx prs []) (q:∀σ' bx' prs' prv',Bk m P B t0 σ' bx' prs' prv'→Nx m P (Mb B) σ bx σ' bx'→(prs <+:prs')→Snd m bx' prv'→(∀a∈prs',Don m bx' prs' prv' a)→Q .none σ'):C (n+12) 40 [.loc P.H.i,.loc B.i] σ Q:=by
 refine call_eq (m:=f40) rfl rfl ?_
 refine⟨StI m P B t0 σ bx prs,⟨_,.mk (at_:=0) S (.refl S.inv) (List.prefix_refl _) (fun a h=>absurd h List.not_mem_nil) List.nodup_nil (fun a h=>absurd h List.not_mem_nil) (Nat.zero_le _) fun j a h=>absurd h (Nat.not_lt_zero _)⟩,?_⟩
 rintro N ρ σ' ⟨S',nx,sub,snd,nd,psub,hat,don⟩
 have b1:=S'.at_.inst
 have b2:=S'.at_.ns
 have b4:=S'.at_.p
 have b5:=S'.at_.r
 have plen:=S'.len
 have vlen:prv'.length < 512:=prs_len S'.inv nd fun a ha=>S'.ok a (psub a ha)
 have pl:(prs'.map prV).length≤line:=by rw[List.length_map];exact Nat.le_trans (Nat.le_of_lt plen) (by decide)
 refine S'.at_.at_ rfl (seq_list b4 ⟨pl,?_⟩)
 rw[List.length_map]
 by_cases hend:at_ < prs'.length
 ·refine ltT (Int.ofNat_lt.mpr hend) ?_
  obtain⟨a,ha⟩:∃a,prs'[at_]?=some a:=⟨_,List.getElem?_eq_getElem hend⟩
  have ga:(prs'.map prV)[at_]?=some (prV a):=by rw[List.getElem?_map,ha];rfl
  have ham:a∈prs':=List.mem_of_getElem? ha
  obtain⟨⟨k,hn,hk⟩,ht,hne,h0⟩:=S'.ok a ham
  refine S'.at_.at_ rfl (sub_list b4 pl ga ?_)
  have lk:lookO σ' (.loc B.r) (prV a)=some (if a∈prv' then some (.int 1) else none):=look_pr b5
  refine S'.at_.at_ rfl (nin_look lk ?_)
  by_cases hm:a∈prv'
  ·rw[if_pos hm]
   refine⟨_,?_,.mk (at_:=at_+1) S' nx sub snd nd psub hend fun j a' hj ha'=>?_⟩
   ·exact l600 hend S'.len _
   ·by_cases h:j=at_
    ·subst h;rw[ha]at ha';cases ha';exact .inl hm
    ·exact don j a' (Nat.lt_of_le_of_ne (Nat.le_of_lt_succ hj) h) ha'
  ·rw[if_neg hm]
   refine i_proof (n:=n) S' hn hk ht h0 fun σ₂ bx₂ prs₂ b G A=>?_
   have S₂:=G.bk
   have snd₂:Snd m bx₂ prv':=fun a' h=>by obtain⟨k',h1,h2,h3⟩:=snd a' h;exact⟨k',h1.mono G.nx.pre,h2,h3⟩
   have lp₂:prs₂.length < 512:=S₂.len
   have psub₂:∀a∈prv',a∈prs₂:=fun a' h=>G.mem _ (psub a' h)
   induction b with
   | false=>
    refine⟨_,?_,.mk (at_:=at_+1) S₂ (nx.trans G.mb) (sub.trans G.sub) snd₂ nd psub₂ ?_ fun j a' hj ha'=>?_⟩
    ·exact l600 hend S'.len _
    ·exact Nat.le_trans hend G.sub.length_le
    ·by_cases h:j=at_
     ·subst h
      have:prs₂[j]?=some a:=by obtain⟨r,er⟩:=G.sub;rw[←er,List.getElem?_append_left hend];exact ha
      rw[this]at ha';cases ha'
      right
      intro k' hn' R hR
      have:=hn'.fun (hn.mono G.nx.pre)
      subst this
      exact A.2 rfl R hR
     ·have hj':=Nat.lt_of_lt_of_le hj hend
      have:prs'[j]?=some a':=by obtain⟨r,er⟩:=G.sub;rw[←er,List.getElem?_append_left hj']at ha';exact ha'
      rcases don j a' (Nat.lt_of_le_of_ne (Nat.le_of_lt_succ hj) h) this with h' | h'
      ·exact .inl h'
      ·right
       intro k' hn' R hR w
       refine Classical.byContradiction fun kk=>?_
       obtain⟨⟨k2,hn2,-⟩,-⟩:=S'.ok a' (List.mem_of_getElem? this)
       have e2:=hn'.fun (hn2.mono G.nx.pre)
       subst e2
       refine kk ?_
       exact h' _ hn2 R (hR.back G.nx.pre G.mem) w
   | true=>
    refine Classical.byContradiction fun kk=>?_
    have c1:=S₂.at_.inst
    have c2:=S₂.at_.ns
    have c5:=S₂.at_.r
    have dis:=S₂.dis
    simp only[List.nodup_cons,List.mem_cons,List.not_mem_nil,or_false,not_or,List.nodup_nil,not_false_iff,and_true]at dis
    obtain⟨⟨d1,d2,d3,d4⟩,⟨d5,d6,d7⟩,⟨d8,d9⟩,d10⟩:=dis
    obtain⟨σ₃,eσ⟩:∃σ₃,σ₂.set B.r (.dT (pr1 (prv'++[a])))=σ₃:=⟨_,rfl⟩
    refine kk ?_
    refine S₂.at_.at_ rfl (siT_of c5 (by rw[pr1,List.length_map];exact Nat.le_trans (Nat.le_of_lt vlen) (by decide)) rfl (ky:=prK a) ?_)
    rw[pr1_put hm,eσ]
    have lr:=get_lt c5
    have kx:Kx [B.r] σ₂ σ₃:=by rw[←eσ];exact Kx.set (by simp)
    have hL:∀j∈[B.r],P.top≤j:=all1 (S₂.top B.r (.tail _ (.tail _ (.tail _ (.tail _ (.head _))))))
    have len:σ₃.length=σ₂.length:=by rw[←eσ];simp
    have I₃:=S₂.inv.kx kx hL (by rw[len];exact S₂.inv.len)
    have rf:Ref m k a.2:=by
     refine look_ref S.inv.ok (P:=PR m bx₂ prv') ?_ hk (A.1 rfl)
     rintro k' t' ⟨i',h1,h2⟩
     obtain⟨k2,h3,-,h4⟩:=snd₂ _ h2
     have:=h1.fun h3
     subst this
     exact h4
    refine⟨(600 - (prv'++[a]).length) * 1000+600,?_,.mk (at_:=0) ⟨I₃,⟨kx _ _ (ni1 d4) c1,kx _ _ (ni1 d7) c2,kx _ _ (ni1 d9) S₂.at_.p,kx _ _ (ni1 d10) S₂.at_.l,by rw[←eσ,List.getElem?_set_self lr]⟩,S₂.nd,S₂.ok,S₂.top,S₂.dis⟩
     ((nx.trans G.mb).trans ⟨I₃,fun j o e Z h=>kx j o (fun h'=>h (.tail _ (.tail _ h'))) e,List.prefix_refl _⟩) (sub.trans G.sub) ?_ ?_ ?_ (Nat.zero_le _) fun j a h=>nomatch h⟩
    ·rw[List.length_append,List.length_singleton];exact m600 vlen _
    ·intro a' h
     rcases List.mem_append.mp h with h | h
     ·exact snd₂ a' h
     ·rw[List.mem_singleton]at h;subst h
      exact⟨k,hn.mono G.nx.pre,hk,rf⟩
    ·rw[List.nodup_append]
     refine⟨nd,by simp,fun x hx y hy e=>?_⟩
     rw[List.mem_singleton]at hy
     exact hm (hy▸e▸hx)
    ·intro a' h
     rcases List.mem_append.mp h with h | h
     ·exact psub₂ a' h
     ·rw[List.mem_singleton]at h;subst h;exact G.mem _ ham
 ·refine ltF (fun h=>hend (Int.ofNat_lt.mp h)) ?_
  refine q σ' bx' prs' prv' S' nx sub snd fun a ha=>?_
  obtain⟨j,hj⟩:=List.mem_iff_getElem?.mp ha
  exact don j a (Nat.lt_of_lt_of_le (get_lt hj) (Nat.le_of_not_lt hend)) hj
end
set_option maxRecDepth 20000
section
variable {m:Wm}{P:Pl}{B:BkL}{σ σ':Store}{bx bx':List Nat}{prs prv:List Pr}{t0 n k x t i:Nat}{Q:Post}
theorem settled (S:Bk m P B t0 σ bx prs prv) (don:∀a∈prs,Don m bx prs prv a):∀n i t k,(i,t)∈prs→Num m bx i k→TN m n k t→(i,t)∈prv:=by
 intro n
 induction n with
 | zero=>intro i t k _ _ h;exact h.elim
 | succ n ih=>
  intro i t k hm hn h
  rcases don _ hm with h' | h'
  ·exact h'
  ·exact absurd h (h' k hn (TN m n) fun i' t' k' h1 h2 h3=>ih i' t' k' h1 h2 h3)
theorem c_book (σ:Store) {Q:Post}(q:Q .none (σ++[.ns [(14,.int 1),(15,.loc (σ.length+2)),(16,.loc (σ.length+3)),(17,.loc (σ.length+4))],.inst 2 σ.length,.list [],.dT [],.dT []])) :
  C (n+1) 109 [.loc (σ.length+1),.int 1] (σ++[.ns [],.inst 2 σ.length]) Q:=by
 refine call_eq (m:=f109) rfl rfl ?_
 have e1:∀(a:O) (t:Store),(σ++(a :: .inst 2 σ.length :: t))[σ.length+1]?=some (.inst 2 σ.length):=fun a t=>by simp
 have e0:∀(a:O) (t:Store),(σ++(a :: t))[σ.length]?=some a:=fun a t=>by simp
 have se:∀(a b:O) (t:Store),(σ++(a :: t)).set σ.length b=σ++(b :: t):=fun a b t=>by simp
 have ln:∀t:Store,(σ++t).length=σ.length+t.length:=fun t=>by simp
 refine sat_of (e1 _ _) (e0 _ _) (Nat.zero_le _) ?_
 rw[se]
 refine⟨Nat.zero_le _,?_⟩
 simp only[List.append_assoc,List.cons_append,List.nil_append,ln,se,List.length_cons,List.length_nil,Nat.reduceAdd]
 refine sat_of (e1 _ _) (e0 _ _) (Nat.le_of_ble_eq_true rfl) ?_
 rw[se]
 refine dT_of ?_
 simp only[List.append_assoc,List.cons_append,List.nil_append,ln,se,List.length_cons,List.length_nil,Nat.reduceAdd]
 refine sat_of (e1 _ _) (e0 _ _) (Nat.le_of_ble_eq_true rfl) ?_
 rw[se]
 refine dT_of ?_
 simp only[List.append_assoc,List.cons_append,List.nil_append,ln,se,List.length_cons,List.length_nil,Nat.reduceAdd]
 refine sat_of (e1 _ _) (e0 _ _) (Nat.le_of_ble_eq_true rfl) ?_
 rw[se]
 exact q
theorem i_assign (I:Inv m P σ bx) (hn:Num m bx i k) (hk:Subj k) (ht:isRef t=true)
  (q:∀σ' bx' b,Nx m P [] σ bx σ' bx'→(b=true↔Ref m k t)→Q (.bool b) σ'):C (n+14) 38 [.loc P.H.i,.int i,.int t] σ Q:=by
 refine call_eq (m:=f38) rfl rfl ?_
 refine call_eq (m:=f39) rfl rfl ?_
 refine c_book σ ⟨rfl,?_⟩
 obtain⟨B,eB⟩:∃B:BkL,B=⟨σ.length+1,σ.length,σ.length+2,σ.length+3,σ.length+4⟩:=⟨_,rfl⟩
 obtain⟨σ₁,eσ⟩:∃σ₁,σ++[.ns [(14,.int 1),(15,.loc (σ.length+2)),(16,.loc (σ.length+3)),(17,.loc (σ.length+4))],.inst 2 σ.length,.list [],.dT [],.dT []]=σ₁:=⟨_,rfl⟩
 have g:Gw σ σ₁:=by rw[←eσ];exact Gw.app _ _
 have S:Bk m P B t σ₁ bx [] []:=by
  refine⟨I.gw g,⟨?_,?_,?_,?_,?_⟩,List.nodup_nil,(fun a h=>absurd h List.not_mem_nil),?_,?_⟩
  ·rw[eB,←eσ];simp
  ·rw[eB,←eσ];simp
  ·rw[eB,←eσ];simp
  ·rw[eB,←eσ];simp[pr1]
  ·rw[eB,←eσ];simp[pr1]
  ·rw[eB]
   intro j hj
   exact Nat.le_trans I.len (geN [1,0,2,3,4] hj)
  ·rw[eB];simp
 have eBi:σ.length+1=B.i:=by rw[eB]
 rw[eσ,eBi]
 have out:∀{σ' bx'},Nx m P (Mb B) σ₁ bx σ' bx'→Nx m P [] σ bx σ' bx':=fun x=>⟨x.inv,fun j o e h Z=>x.kp j o (g j o e) h (fun h'=>Nat.not_le.mpr (get_lt e) (geN [2,3,4] (by rw[Mb,eB]at h';exact h'))),x.pre⟩
 refine i_within S hn hk ht (.head _) fun σ₂ prs₂ b G A hb=>?_
 induction b with
 | true=>
  refine q _ _ true (out G.mb) ⟨fun Z=>?_,fun Z=>rfl⟩
  rcases A.1 rfl with h | h | ⟨i',-,h⟩
  ·subst h;exact .inl (.refl _ _)
  ·subst h;exact .inl (subj_top I.ok hk)
  ·exact absurd h List.not_mem_nil
 | false=>
  have hm:(i,t)∈prs₂:=hb.resolve_left (by decide)
  refine i_settle (n:=n) G.bk fun σ₃ bx₃ prs₃ prv₃ S₃ nx sub snd don=>?_
  have b1:=S₃.at_.inst
  have b2:=S₃.at_.ns
  have b5:=S₃.at_.r
  refine⟨lel rfl,S₃.at_.at_ rfl (in_look (look_pr b5) ?_)⟩
  have hn3:=(hn.mono G.nx.pre).mono nx.pre
  have hm3:(i,t)∈prs₃:=sub.subset hm
  refine q _ _ _ (out (G.mb.trans nx)) ?_
  have ok:=S₃.ok _ hm3
  by_cases h:(i,t)∈prv₃
  ·rw[if_pos h]
   refine⟨fun Z=>?_,fun Z=>rfl⟩
   obtain⟨k',h1,-,h3⟩:=snd _ h
   have:=hn3.fun h1
   subst this
   exact h3
  ·rw[if_neg h]
   refine⟨(fun h=>bff h),fun r=>?_⟩
   exact absurd (settled S₃ don 4 i t k hm3 hn3 (ref_tn I.ok hk ok.2.2.1 ht r)) h
end
set_option maxRecDepth 20000
noncomputable def cV:Option Int→V
 | none=>.none
 | some v=>.int v
noncomputable def wider:Nat→List Nat
 | 2=>[6,7,8,9,10] | 3=>[5,7,9] | 4=>[5,6,7,8,9,10] | 5=>[7,9] | 6=>[7,8,9,10] | 7=>[9] | 8=>[9,10]
 | _=>[]
noncomputable def sover:Nat→List Nat
 | 3=>[4,6,8,10] | 5=>[6,8,10] | 7=>[8,10] | 9=>[10]
 | _=>[]
noncomputable def narrow:List Nat:=[3,4,5,6,8,10]
noncomputable def rng:Nat→Int×Int
 | 1=>(0,255) | 2=>(0,65535) | 3=>(-128,127) | 4=>(0,255) | 5=>(-32768,32767) | 6=>(0,65535) | 7=>(-2147483648,2147483647) | 8=>(0,4294967295)
 | 9=>(-9223372036854775808,9223372036854775807) | 10=>(0,18446744073709551615)
 | _=>(0,0)
noncomputable def fitsB (s:Nat) (v:Int) (t:Nat):Bool:=if s=7∧t∈narrow then decide ((rng t).1≤v)&&decide (v≤(rng t).2) else s==9&&t==10&&decide (v≥0)
noncomputable def fitsO (s:Nat) (c:Option Int) (t:Nat):Bool:=match c with
 | none=>false
 | some v=>fitsB s v t
noncomputable def numR (s:Nat) (c:Option Int) (t:Nat):Bool:=decide (t∈wider s) || fitsO s c t || (s != 2&&c==some 0&&t==25)
noncomputable def strip (m:Wm) (k:Nat):Nat:=if isOpt k then op m k else k
theorem agets_big {l:List (Int×V)}{N i:Int}(h:∀p∈l,p.1 < N) (hs:N≤i):agets l i=none:=by
 have e:l.find? (fun p=>decide (p.1=i))=none:=List.find?_eq_none.mpr fun p hp e=>Int.not_le.mpr (h p hp) (of_decide_eq_true e▸hs)
 exact congrArg (Option.map (·.2)) e
theorem wider_look (s:Nat):(agets (cdTab 4) (s:Int)).getD (.tup []) = .tup (natL (wider s)):=by
 match s with
 | 0 | 1 | 2 | 3 | 4 | 5 | 6 | 7 | 8=>rfl
 | n+9=>
  have:agets (cdTab 4) ((n+9:Nat):Int)=none:=agets_big (N:=9) (by decide) (Int.ofNat_le.mpr (Nat.le_add_left 9 n))
  rw[this];rfl
theorem sover_look (s:Nat):(agets (cdTab 5) (s:Int)).getD (.tup []) = .tup (natL (sover s)):=by
 match s with
 | 0 | 1 | 2 | 3 | 4 | 5 | 6 | 7 | 8 | 9=>rfl
 | n+10=>
  have:agets (cdTab 5) ((n+10:Nat):Int)=none:=agets_big (N:=10) (by decide) (Int.ofNat_le.mpr (Nat.le_add_left 10 n))
  rw[this];rfl
section
variable {m:Wm}{P:Pl}{σ:Store}{bx:List Nat}{n k x t s i:Nat}{c:Option Int}{Q:Post}
theorem i_ninner (I:Inv m P σ bx) (h:k < N0 m) (q:Q (.int (if isOpt k then (op m k:Int) else -1)) σ):C (n+4) 48 [.loc P.L.i,.int k] σ Q:=by
 refine call_eq (m:=f48) rfl rfl (i_null I h ?_)
 cases ho:isOpt k with
 | false=>rw[ho,if_neg (by decide)]at q;exact q
 | true=>
  rw[ho,if_pos rfl]at q
  refine i_args I h ?_
  have g:=opt_ge ho
  rw[show argK m k=[op m k] by unfold argK;rw[if_neg (by rw[(opt_fl ho).2.1];decide),if_pos ho]]
  exact sub_tup (by decide) (lel rfl) rfl q
theorem i_cplain (I:Inv m P σ bx) (h:k < N0 m) (q:Q (.int (strip m k:Int)) σ):C (n+5) 49 [.loc P.L.i,.int k] σ Q:=by
 refine call_eq (m:=f49) rfl rfl (i_ninner I h ?_)
 unfold strip at q
 cases ho:isOpt k with
 | false=>
  rw[ho,if_neg (by decide)]at q
  exact lt_of q
 | true=>
  rw[ho,if_pos rfl]at q
  rw[if_pos rfl]
  exact ltF (Int.not_lt.mpr (Int.natCast_nonneg _)) q
theorem i_enum (I:Inv m P σ bx) (h:k < N0 m) (q:Q (.bool (k==25)) σ):C (n+3) 50 [.loc P.H.i,.int k] σ Q:=by
 refine call_eq (m:=f50) rfl rfl ?_
 refine I.ho.at_ rfl (i_sort I h (eq_of rfl ?_))
 by_cases e:k=25
 ·subst e
  refine I.ho.me rfl (i_under I ?_)
  rw[if_pos rfl]
  exact neT (nat_ne (Nat.ne_of_lt (Nat.lt_trans I.ok.un (by decide)))) q
 ·rw[beq_eq_false_iff_ne.mpr e]at q
  cases e3:sortK k==3 with
  | false=>exact q
  | true=>
   refine I.ho.me rfl (i_under I ?_)
   rw[if_neg e]
   exact neF rfl q
theorem c_range (h:t∈narrow) (q:Q (.tup [.int (rng t).1,.int (rng t).2]) σ):C (n+1) 21 [.int t] σ Q:=by
 refine call_eq (m:=f21) rfl rfl ?_
 have:∀t∈narrow,t=3∨t=4∨t=5∨t=6∨t=8∨t=10:=by decide
 rcases this t h with rfl | rfl | rfl | rfl | rfl | rfl <;> exact nin_cd (sub_cd rfl q)
theorem c_fits (q:Q (.bool (fitsO s c t)) σ):C (n+2) 51 [.int s,cV c,.int t] σ Q:=by
 refine call_eq (m:=f51) rfl rfl ?_
 induction c with
 | none=>exact isNN q
 | some v=>
  refine isIN ?_
  have last:Q (.bool (s==9&&t==10&&decide (v≥0))) σ→wpSs (C (n+1)) (f51.body.drop 2) (rho0 f51.slots [.int (s:Int),.int v,.int (t:Int)]) σ (rtn Q):=by
   intro q
   by_cases h2:s=9
   ·refine eqT (eqfT h2) ?_
    rw[beq_iff_eq.mpr h2]at q
    by_cases h3:t=10
    ·rw[beq_iff_eq.mpr h3]at q;exact eqT (eqfT h3) (ge_of q)
    ·rw[beq_eq_false_iff_ne.mpr h3]at q;exact eqF (nat_ne h3) q
   ·rw[beq_eq_false_iff_ne.mpr h2]at q;exact eqF (nat_ne h2) q
  have inn:∀{K:Post},K (.bool (decide (t∈narrow))) σ→cmpR .inn (.int (t:Int)) (.tup [(.int 3),(.int 4),(.int 5),(.int 6),(.int 8),(.int 10)]) σ K:=fun h=>
   in_tup (show some (([3,4,5,6,8,10]:List Int).contains (t:Int))=_ from congrArg some (ci_contains narrow t)) h
  unfold fitsO fitsB at q
  by_cases h1:s=7
  ·refine eqT (eqfT h1) (inn ?_)
   by_cases h4:t∈narrow
   ·rw[decide_eq_true h4]
    simp only[if_pos (And.intro h1 h4)]at q
    refine c_range h4 ⟨rfl,le_of ?_⟩
    cases h5:decide ((rng t).1≤v) with
    | false=>rw[h5]at q;exact q
    | true=>rw[h5]at q;exact le_of q
   ·rw[decide_eq_false h4]
    simp only[if_neg (fun h:s=7∧t∈narrow=>h4 h.2)]at q
    exact last q
  ·simp only[if_neg (fun h:s=7∧t∈narrow=>h1 h.1)]at q
   exact eqF (nat_ne h1) (last q)
theorem in_natT {xs:List Nat}(q:Q (.bool (decide (x∈xs))) σ):cmpR .inn (.int x) (.tup (natL xs)) σ Q:=in_tup (show(intsOf (natL xs)).map (fun l=>l.contains (x:Int))=_ by rw[ints_nat,Option.map_some,ci_contains]) q
theorem i_number (I:Inv m P σ bx) (h:t < N0 m) (q:Q (.bool (numR s c t)) σ):C (n+4) 55 [.loc P.H.i,.int s,cV c,.int t] σ Q:=by
 refine call_eq (m:=f55) rfl rfl ?_
 unfold numR at q
 refine⟨rfl,Nat.zero_le _,loo_of rfl ?_⟩
 rw[wider_look s]
 refine in_natT ?_
 by_cases h1:t∈wider s
 ·rw[decide_eq_true h1]at q ⊢;exact q
 ·rw[decide_eq_false h1]at q ⊢
  refine c_fits ?_
  cases h2:fitsO s c t with
  | true=>rw[h2]at q;exact q
  | false=>
   rw[h2]at q
   by_cases h3:s=2
   ·subst h3;exact neF rfl q
   ·rw[bne_iff_ne.mpr h3]at q
    refine neT (nat_ne h3) ?_
    induction c with
    | none=>exact isnNN q
    | some v=>
     refine isnIN ?_
     by_cases h4:v=0
     ·subst h4
      exact eqT rfl (i_enum I h q)
     ·have:(some v==some 0)=false:=by simpa using h4
      rw[this]at q
      exact eqF h4 q
end
set_option maxRecDepth 20000
noncomputable def wV (p:Nat×Nat):V:=.tup [.int (p.1:Int),.int (p.2:Int)]
noncomputable def numB (s:Nat) (c:Option Int) (t:Nat):Bool:=(decide (2≤s)&&decide (s≤10))&&numR s c t
open Classical in
noncomputable def way0 (m:Wm) (s:Nat) (c:Option Int) (t:Nat):Nat×Nat:=
 if s=t∨s=15 then (1,10) else if s=0 then (0,0) else if s=14 then (if isRef t=true∨isOpt t=true∨(isVar t=true∧Sure m t) then (2,8) else (0,0))
 else if numB s c t=true then (2,1) else if isVar t=true then (if isVar s=true∧Up m s t then (2,4) else (0,0))
 else if isRef t=true∧Ref m (strip m s) t then (2,if isRef s=true then 2 else 4) else (0,0)
open Classical in
noncomputable def way (m:Wm) (s:Nat) (c:Option Int) (t:Nat):Nat×Nat:=
 if s=t∨s=15 then (1,10) else if s=0 then (0,0) else if s=14 then (if isRef t=true∨isOpt t=true∨(isVar t=true∧Sure m t) then (2,8) else (0,0))
 else if isOpt t=true then (if isOpt s=true then (if way0 m (op m s) none (op m t)≠(0,0) then (2,9) else (0,0)) else if way0 m s c (op m t)≠(0,0) then (2,6) else (0,0))
 else way0 m s c t
noncomputable def Tq (m:Wm) (t:Nat):Prop:=Subj t∨(isOpt t=true∧t < N0 m)
noncomputable def Sq (m:Wm) (s:Nat):Prop:=Tq m s∨s=0∨s=14∨s=15
section
variable {m:Wm}{P:Pl}{σ σ':Store}{bx bx':List Nat}{n x t s i:Nat}{c:Option Int}{Q:Post}
theorem subj_n0 (h:Subj t):t < N0 m∧isOpt t=false∧t≠0∧t≠14∧t≠15:=by
 rcases h with h | h
 ·have:∀t∈nvL,isOpt t=false∧t≠0∧t≠14∧t≠15:=by decide
  exact⟨nv_n0 h,this t h⟩
 ·refine⟨var_n0 h,?_⟩
  rw[isVar_iff]at h
  exact⟨decide_eq_false (Nat.not_le.mpr (Nat.lt_of_le_of_lt h.2 (by decide))),Nat.ne_of_gt (Nat.lt_of_lt_of_le (by decide) h.1),Nat.ne_of_gt (Nat.lt_of_lt_of_le (by decide) h.1),Nat.ne_of_gt (Nat.lt_of_lt_of_le (by decide) h.1)⟩
theorem tq_n0 (h:Tq m t):t < N0 m∧t≠0∧t≠14∧t≠15:=by
 rcases h with h | ⟨h1,h2⟩
 ·have:=subj_n0 (m:=m) h;exact⟨this.1,this.2.2⟩
 ·have:=opt_ge h1;exact⟨h2,Nat.ne_of_gt (Nat.lt_of_lt_of_le (by decide) this),Nat.ne_of_gt (Nat.lt_of_lt_of_le (by decide) this),Nat.ne_of_gt (Nat.lt_of_lt_of_le (by decide) this)⟩
theorem op_ok (h:isOpt t=true) (h2:t < N0 m):Bxk (op m t)∧Subj (op m t)∧isRef (op m t)=false:=by
 have hm:op m t∈ops m:=by
  have l1:=Nat.sub_lt_left_of_lt_add (opt_ge h) h2
  unfold op
  rw[List.getD_eq_getElem?_getD,List.getElem?_eq_getElem l1]
  exact List.getElem_mem l1
 have hb:Bxk (op m t):=by
  rcases List.mem_append.mp hm with hm | hm
  ·have s:∀r < 10,∀x∈[num (r+0),num (r+1),num (r+3),num (r+6),24,25],isVal x=true∧x∈nvL:=by decide +kernel
   have s:=s (m.ro % 10) (Nat.mod_lt _ (by decide))
   rw[←num_mod,←num_mod,←num_mod,←num_mod]at s
   exact .inl (s _ hm)
  ·have s:∀x∈[26,27,28,29],isVar x=true:=by decide
   exact .inr (s _ (List.mem_filter.mp hm).1)
 exact⟨hb,hb.elim (fun h=>.inl h.2) .inr,bxk_ref hb⟩
theorem i_nullof (I:Inv m P σ bx) (ht:Tq m t) (q:∀σ' b,Gw σ σ'→(b=true↔(isRef t=true∨isOpt t=true∨(isVar t=true∧Sure m t)))→Q (wV (if b=true then (2,8) else (0,0))) σ'):C (n+8) 53 [.loc P.H.i,.int t] σ Q:=by
 refine call_eq (m:=f53) rfl rfl ?_
 have nt:=tq_n0 ht
 refine I.ho.at_ rfl ?_
 refine i_ref I nt.1 nt.2.2.1 ?_
 cases h1:isRef t with
 | true=>exact⟨lel rfl,q _ true (.refl _) ⟨fun Z=>.inl h1,fun Z=>rfl⟩⟩
 | false=>
  refine i_null I nt.1 ?_
  cases h2:isOpt t with
  | true=>exact⟨lel rfl,q _ true (.refl _) ⟨fun Z=>.inr (.inl h2),fun Z=>rfl⟩⟩
  | false=>
   refine i_var I nt.1 ?_
   cases h3:isVar t with
   | false=>
    refine q _ false (.refl _) ⟨(fun h=>bff h),?_⟩
    rintro(h | h | ⟨h,-⟩)
    ·rw[h1]at h;cases h
    ·rw[h2]at h;cases h
    ·rw[h3]at h;cases h
   | true=>
    refine i_sure I h3 fun σ₁ b g hb=>?_
    have hq:b=true↔(isRef t=true∨isOpt t=true∨(isVar t=true∧Sure m t)):=by
     rw[hb]
     constructor
     ·exact fun h=>.inr (.inr ⟨h3,h⟩)
     ·rintro(h | h | ⟨-,h⟩)
      ·rw[h1]at h;cases h
      ·rw[h2]at h;cases h
      ·exact h
    induction b with
    | true=>exact⟨lel rfl,q _ true g hq⟩
    | false=>exact q _ false g hq
theorem i_paramof (I:Inv m P σ bx) (hs:isVar s=true) (ht:Subj t) (hne:s≠t) (q:∀σ' bx' b,Nx m P [] σ bx σ' bx'→(b=true↔((isVar t=true∧Up m s t)∨(isVar t=false∧isRef t=true∧Ref m s t)))→Q (wV (if b=true then (2,4) else (0,0))) σ') :
  C (n+15) 56 [.loc P.H.i,.int s,.int t] σ Q:=by
 refine call_eq (m:=f56) rfl rfl ?_
 have nt:=subj_n0 (m:=m) ht
 refine I.ho.at_ rfl ?_
 refine i_var I nt.1 ?_
 cases hv:isVar t with
 | true=>
  refine i_bounds I hs fun σ₁ l out g Z Z hl Z hout=>?_
  refine in_nat hl ?_
  have hu:t∈out↔Up m s t:=by
   rw[hout,up_var2 I.ok s hs t hv]
   exact⟨.inr,fun h=>h.resolve_left fun e=>hne e.symm⟩
  by_cases h:t∈out
  ·rw[decide_eq_true h]
   exact⟨lel rfl,q _ bx true (.gw I g) ⟨fun Z=>.inl ⟨hv,hu.mp h⟩,fun Z=>rfl⟩⟩
  ·rw[decide_eq_false h]
   refine q _ bx false (.gw I g) ⟨(fun h=>bff h),?_⟩
   rintro(⟨-,h'⟩ | ⟨h',-⟩)
   ·exact absurd (hu.mpr h') h
   ·rw[hv]at h';cases h'
 | false=>
  by_cases h12:t=12
  ·refine eqT (eqfT h12) ⟨lel rfl,q _ bx true (.refl I) ⟨fun Z=>.inr ⟨hv,by rw[h12];decide,.inl ?_⟩,fun Z=>rfl⟩⟩
   rw[h12];exact subj_top I.ok (.inr hs)
  ·refine eqF (nat_ne h12) ?_
   refine i_ref I nt.1 nt.2.2.2.1 ?_
   cases hr:isRef t with
   | false=>
    refine q _ bx false (.refl I) ⟨(fun h=>bff h),?_⟩
    rintro(⟨h,-⟩ | ⟨-,h,-⟩)
    ·rw[hv]at h;cases h
    ·rw[hr]at h;cases h
   | true=>
    refine i_boxed I (.inr hs) fun σ₁ bx₁ i N hn=>?_
    refine i_assign N.inv hn (.inr hs) hr fun σ₂ bx₂ b N2 hb=>?_
    have hq:b=true↔((isVar t=true∧Up m s t)∨(isVar t=false∧isRef t=true∧Ref m s t)):=by
     rw[hb]
     constructor
     ·exact fun h=>.inr ⟨hv,hr,h⟩
     ·rintro(⟨h,-⟩ | ⟨-,-,h⟩)
      ·rw[hv]at h;cases h
      ·exact h
    induction b with
    | true=>exact⟨lel rfl,q _ _ true (N.trans N2) hq⟩
    | false=>exact q _ _ false (N.trans N2) hq
open Classical in
theorem way0_eq (hs:Tq m s) (hne:s≠t):way0 m s c t=(if numB s c t=true then (2,1) else if isVar t=true then (if isVar s=true∧Up m s t then (2,4) else (0,0)) else if isRef t=true∧Ref m (strip m s) t then (2,if isRef s=true then 2 else 4) else (0,0)):=by
 have ns:=tq_n0 hs
 unfold way0
 rw[if_neg (by rintro(h | h);exact hne h;exact ns.2.2.2 h),if_neg ns.2.1,if_neg ns.2.2.1]
theorem way0_n (hs:Tq m s) (hne:s≠t) (h:numB s c t=true):way0 m s c t=(2,1):=by rw[way0_eq hs hne,if_pos h]
theorem way0_v (hs:Tq m s) (hne:s≠t) (h:numB s c t=false) (hv:isVar t=true) (h2:isVar s=true∧Up m s t):way0 m s c t=(2,4):=by
 rw[way0_eq hs hne,if_neg (by rw[h];decide),if_pos hv,if_pos h2]
theorem way0_nv (hs:Tq m s) (hne:s≠t) (h:numB s c t=false) (hv:isVar t=true) (h2:¬(isVar s=true∧Up m s t)):way0 m s c t=(0,0):=by
 rw[way0_eq hs hne,if_neg (by rw[h];decide),if_pos hv,if_neg h2]
theorem way0_r (hs:Tq m s) (hne:s≠t) (h:numB s c t=false) (hv:isVar t=false) (h2:isRef t=true∧Ref m (strip m s) t):way0 m s c t=(2,if isRef s=true then 2 else 4):=by
 rw[way0_eq hs hne,if_neg (by rw[h];decide),if_neg (by rw[hv];decide),if_pos h2]
theorem way0_nr (hs:Tq m s) (hne:s≠t) (h:numB s c t=false) (hv:isVar t=false) (h2:¬(isRef t=true∧Ref m (strip m s) t)):way0 m s c t=(0,0):=by
 rw[way0_eq hs hne,if_neg (by rw[h];decide),if_neg (by rw[hv];decide),if_neg h2]
theorem ff {P:Prop}{b:Bool}(h:b=false) (h':b=true):P:=by rw[h]at h';cases h'
theorem way0_tail (I:Inv m P σ bx) (hs:Tq m s) (ht:Subj t) (hne:s≠t) (z5 z6 z7:Option V) (q:∀σ' bx',Nx m P [] σ bx σ' bx'→Q (wV (way0 m s c t)) σ') :
  wpSs (C (n+15)) (f52.body.drop 6) [some (.loc P.H.i),some (.int (s:Int)),some (cV c),some (.int (t:Int)),some (.loc P.L.i),z5,z6,z7] σ (rtn Q):=by
 have ns:=tq_n0 hs
 have nt:=subj_n0 (m:=m) ht
 have rest:numB s c t=false→wpSs (C (n+15)) (f52.body.drop 7) [some (.loc P.H.i),some (.int (s:Int)),some (cV c),some (.int (t:Int)),some (.loc P.L.i),z5,z6,z7] σ (rtn Q):=by
  intro hnum
  refine i_var I ns.1 ?_
  cases hv:isVar s with
  | true=>
   refine i_paramof I hv ht hne fun σ' bx' b N hb=>?_
   have so:isOpt s=false:=(subj_n0 (m:=m) (.inr hv)).2.1
   have ss:strip m s=s:=by unfold strip;rw[so];rfl
   have q':=q σ' bx' N
   cases hvt:isVar t with
   | true=>
    have e:b=true↔Up m s t:=hb.trans ⟨fun h=>h.elim (·.2) fun h=>ff h.1 hvt,fun h=>.inl ⟨hvt,h⟩⟩
    cases b with
    | true=>rw[way0_v hs hne hnum hvt ⟨hv,e.mp rfl⟩]at q';exact q'
    | false=>rw[way0_nv hs hne hnum hvt fun h=>bff (e.mpr h.2)]at q';exact q'
   | false=>
    have e:b=true↔(isRef t=true∧Ref m s t):=hb.trans ⟨fun h=>h.elim (fun h=>ff hvt h.1) (·.2),fun h=>.inr ⟨hvt,h⟩⟩
    cases b with
    | true=>rw[way0_r hs hne hnum hvt (by rw[ss];exact e.mp rfl),bxk_ref (.inr hv)]at q';exact q'
    | false=>rw[way0_nr hs hne hnum hvt (by rw[ss];exact fun h=>bff (e.mpr h))]at q';exact q'
  | false=>
   refine i_ref I nt.1 nt.2.2.2.1 ?_
   cases hr:isRef t with
   | false=>
    have q':=q σ bx (.refl I)
    cases hvt:isVar t with
    | true=>rw[way0_nv hs hne hnum hvt fun h=>ff hv h.1]at q';exact q'
    | false=>rw[way0_nr hs hne hnum hvt fun h=>ff hr h.1]at q';exact q'
   | true=>
    have hvt:=nv_var (nv_ref hr)
    refine i_val I ns.1 ?_
    cases hvl:isVal s with
    | true=>
     refine i_cplain I ns.1 ?_
     have hb:Bxk (strip m s):=by
      unfold strip
      rcases hs with h | ⟨h1,h2⟩
      ·rw[(subj_n0 (m:=m) h).2.1,if_neg (by decide)]
       exact .inl ⟨hvl,h.resolve_right fun h=>ff hv h⟩
      ·rw[h1,if_pos rfl];exact(op_ok h1 h2).1
     have bl:=bxk_lt (m:=m) hb
     have sr:isRef s=false:=by
      have s30:∀s < 30,isVal s=true→isRef s=false:=by decide
      rcases k_cases s with h | h | h | h
      ·exact s30 s h hvl
      ·exact ff (face_fl h).2.2.1 hvl
      ·exact ff (arr_fl h).2.2.1 hvl
      ·exact(opt_fl h).2.2.2.2.2.1
     have b14:strip m s≠14:=fun e=>by
      rcases hb with⟨-,h⟩ | h
      ·rw[e]at h;exact absurd h (by decide)
      ·rw[e]at h;cases h
     refine i_ref I bl.2 b14 ?_
     rw[bxk_ref hb]
     refine i_boxed I hb fun σ₁ bx₁ i N hn=>?_
     refine i_assign N.inv hn (hb.elim (fun h=>.inl h.2) .inr) hr fun σ₂ bx₂ b N2 hb=>?_
     have q':=q _ _ (N.trans N2)
     induction b with
     | true=>rw[way0_r hs hne hnum hvt ⟨hr,hb.mp rfl⟩,sr]at q';exact⟨lel rfl,q'⟩
     | false=>rw[way0_nr hs hne hnum hvt fun h=>bff (hb.mpr h.2)]at q';exact q'
    | false=>
     have hsn:s∈nvL:=by
      rcases hs with(h | h) | ⟨h1,-⟩
      ·exact h
      ·exact ff hv h
      ·exact ff hvl (opt_fl h1).2.2.2.1
     have s2:∀s∈nvL,(isVal s=false→isRef s=true)∧isOpt s=false:=by decide
     have sr:isRef s=true:=(s2 s hsn).1 hvl
     have ss:strip m s=s:=by unfold strip;rw[(s2 s hsn).2];rfl
     refine i_assign I (.st sr rfl) (.inl hsn) hr fun σ₂ bx₂ b N2 hb=>?_
     have q':=q _ _ N2
     induction b with
     | true=>rw[way0_r hs hne hnum hvt ⟨hr,by rw[ss];exact hb.mp rfl⟩,sr]at q';exact⟨lel rfl,q'⟩
     | false=>rw[way0_nr hs hne hnum hvt fun h=>bff (hb.mpr (ss▸h.2))]at q';exact q'
 refine c_is_number ?_
 have cs:(decide ((2:Int)≤(s:Int))&&decide ((s:Int)≤10))=(decide (2≤s)&&decide (s≤10)):=by
  exact congr (congrArg and (decide_eq_decide.mpr (Int.ofNat_le (m:=2)))) (decide_eq_decide.mpr (Int.ofNat_le (n:=10)))
 rw[cs]
 cases h1:(decide (2≤s)&&decide (s≤10)) with
 | false=>exact rest (by unfold numB;rw[h1];rfl)
 | true=>
  refine i_number I nt.1 ?_
  cases h2:numR s c t with
  | false=>exact rest (by unfold numB;rw[h1,h2];rfl)
  | true=>
   have q':=q σ bx (.refl I)
   rw[way0_n hs hne (by unfold numB;rw[h1,h2];rfl)]at q'
   exact⟨lel rfl,q'⟩
end
set_option maxRecDepth 20000
section
variable {m:Wm}{P:Pl}{σ σ':Store}{bx bx':List Nat}{n x y t s i:Nat}{c:Option Int}{Q:Post}
theorem of_head (I:Inv m P σ bx) (hs:Sq m s) (ht:Tq m t) (q1:s=t∨s=15→Q (wV (1,10)) σ) (q2:¬(s=t∨s=15)→s=0→Q (wV (0,0)) σ)
  (q3:¬(s=t∨s=15)→s=14→∀σ' b,Gw σ σ'→(b=true↔(isRef t=true∨isOpt t=true∨(isVar t=true∧Sure m t)))→Q (wV (if b=true then (2,8) else (0,0))) σ')
  (q4:s≠t→Tq m s→wpSs (C (n+8)) (f52.body.drop 5) [some (.loc P.H.i),some (.int (s:Int)),some (cV c),some (.int (t:Int)),some (.loc P.L.i),some (.int (if isOpt t then (op m t:Int) else -1)),none,none] σ (rtn Q)):C (n+9) 52 [.loc P.H.i,.int s,cV c,.int t] σ Q:=by
 refine call_eq (m:=f52) rfl rfl ?_
 have nt:=tq_n0 ht
 refine I.ho.at_ rfl ?_
 by_cases h1:s=t
 ·exact eqT (eqfT h1) ⟨lel rfl,q1 (.inl h1)⟩
 refine eqF (nat_ne h1) ?_
 by_cases h2:s=15
 ·exact eqT (eqfT h2) ⟨lel rfl,q1 (.inr h2)⟩
 have h12:¬(s=t∨s=15):=fun h=>h.elim h1 h2
 refine eqF (nat_ne h2) (eqF (nat_ne nt.2.2.2) ?_)
 by_cases h3:s=0
 ·exact eqT (eqfT h3) (q2 h12 h3)
 refine eqF (nat_ne h3) (eqF (nat_ne nt.2.1) (eqF (nat_ne nt.2.2.1) ?_))
 by_cases h4:s=14
 ·exact eqT (eqfT h4) (i_nullof I ht (q3 h12 h4))
 exact eqF (nat_ne h4) (i_ninner I nt.1 (q4 h1 (hs.resolve_right fun h=>h.elim h3 fun h=>h.elim h4 h2)))
theorem i_of0 (I:Inv m P σ bx) (hs:Sq m s) (ht:Subj t) (q:∀σ' bx',Nx m P [] σ bx σ' bx'→Q (wV (way0 m s c t)) σ'):C (n+16) 52 [.loc P.H.i,.int s,cV c,.int t] σ Q:=by
 have nt:=subj_n0 (m:=m) ht
 refine of_head (n:=n+7) I hs (.inl ht) (fun h=>?_) (fun h h0=>?_) (fun h h0 σ' b g hb=>?_) (fun hne hq=>?_)
 ·have e:way0 m s c t=(1,10):=by unfold way0;rw[if_pos h]
  have:=q σ bx (.refl I);rwa [e]at this
 ·have e:way0 m s c t=(0,0):=by unfold way0;rw[if_neg h,if_pos h0]
  have:=q σ bx (.refl I);rwa [e]at this
 ·have e:way0 m s c t=if b=true then (2,8) else (0,0):=by
   unfold way0;rw[if_neg h,if_neg (by rw[h0];decide),if_pos h0]
   induction b with
   | true=>rw[if_pos (hb.mp rfl),if_pos rfl]
   | false=>rw[if_neg (fun h=>by have:=hb.mpr h;cases this),if_neg (by decide)]
  have:=q σ' bx (.gw I g);rwa [e]at this
 ·rw[nt.2.1,if_neg (by decide)]
  exact geF (by decide) (way0_tail (n:=n) (Q:=Q) (c:=c) I hq ht hne (some (.int (-1))) none none q)
inductive Zp:Nat×Nat→Prop
 | z:Zp (0,0)
 | s {n a:Nat}:Zp (n+1,a)
theorem Zp.iff {p:Nat×Nat}(z:Zp p):p.1=0↔p=(0,0):=by
 induction z with
 | z=>exact⟨fun Z=>rfl,fun Z=>rfl⟩
 | s=>exact⟨fun h=>absurd h (Nat.succ_ne_zero _),fun h=>absurd (congrArg Prod.fst h) (Nat.succ_ne_zero _)⟩
theorem Zp.ite {c:Prop}{d:Decidable c}{a b:Nat×Nat}(ha:Zp a) (hb:Zp b):Zp (if c then a else b):=by
 by_cases h:c
 ·rw[if_pos h];exact ha
 ·rw[if_neg h];exact hb
theorem way0_z (m:Wm) (s:Nat) (c:Option Int) (t:Nat):Zp (way0 m s c t):=
 .ite .s (.ite .z (.ite (.ite .s .z) (.ite .s (.ite (.ite .s .z) (.ite .s .z)))))
theorem way0_zero (m:Wm) (s:Nat) (c:Option Int) (t:Nat):(way0 m s c t).1=0↔way0 m s c t=(0,0):=(way0_z m s c t).iff
theorem ref_num (h:isRef s=true):numB s c t=false:=by
 have hn:=nv_ref h
 have:∀s∈nvL,isRef s=true→(decide (2≤s)&&decide (s≤10))=false:=by decide
 unfold numB;rw[this s hn h];rfl
theorem way0_ref (h:isRef s=true) (ht:isRef t=false):way0 m s c t=(0,0):=by
 have hn:=nv_ref h
 have h2:∀s∈nvL,s≠15∧s≠0∧s≠14:=by decide
 have h3:=h2 s hn
 unfold way0
 rw[if_neg (by rintro(e | e);(subst e;rw[h]at ht;cases ht);exact h3.1 e),if_neg h3.2.1,if_neg h3.2.2,ref_num h,if_neg (by decide)]
 split
 ·rw[if_neg];intro h';have:=nv_var hn;rw[h'.1]at this;cases this
 ·rw[if_neg];intro h';rw[h'.1]at ht;cases ht
theorem nat_bne0 {a:Nat}:(!((a:Int)==0))=decide (a≠0):=by
 have:((a:Int)==0)=decide (a=0):=int_beq (a:=a) (b:=0)
 rw[this]
 by_cases h:a=0 <;> simp[h]
theorem wv_0 {p:Nat×Nat}(q:Q (.int (p.1:Int)) σ):subR (wV p) (.int 0) σ Q:=sub_tup (by decide) (lel rfl) rfl q
theorem i_wrap (I:Inv m P σ bx) (hs:Tq m s) (hto:isOpt t=true) (htn:t < N0 m) (hne:s≠t) (q:∀σ' bx',Nx m P [] σ bx σ' bx'→Q (wV (way m s c t)) σ'):C (n+17) 54 [.loc P.H.i,.int s,cV c,.int (op m t:Int)] σ Q:=by
 refine call_eq (m:=f54) rfl rfl ?_
 have ns:=tq_n0 hs
 have ot:=op_ok hto htn
 have ew:way m s c t=(if isOpt s=true then (if way0 m (op m s) none (op m t)≠(0,0) then (2,9) else (0,0)) else if way0 m s c (op m t)≠(0,0) then (2,6) else (0,0)):=by
  unfold way
  rw[if_neg (by rintro(h | h);exact hne h;exact ns.2.2.2 h),if_neg ns.2.1,if_neg ns.2.2.1,if_pos hto]
 rw[ew]at q
 refine I.ho.at_ rfl (i_ninner I ns.1 ?_)
 cases hso:isOpt s with
 | true=>
  have os:=op_ok hso ns.1
  rw[hso,if_pos rfl]at q
  rw[if_pos rfl]
  refine geT (Int.natCast_nonneg _) ?_
  refine i_of0 (c:=none) I (.inl (.inl os.2.1)) ot.2.1 fun σ' bx' N=>?_
  have q':=q σ' bx' N
  have hz:=way0_zero m (op m s) none (op m t)
  refine wv_0 ?_
  by_cases h:(way0 m (op m s) none (op m t)).1=0
  ·rw[if_neg (fun h'=>h' (hz.mp h))]at q'
   exact neF (eqfT h) q'
  ·rw[if_pos (fun h'=>h (hz.mpr h'))]at q'
   exact neT (nat_ne h) ⟨lel rfl,q'⟩
 | false=>
  rw[hso,if_neg (by decide)]at q
  rw[if_neg (by decide)]
  refine geF (by decide) (I.ho.at_ rfl (i_ref I ns.1 ns.2.2.1 ?_))
  cases hr:isRef s with
  | true=>
   rw[way0_ref hr ot.2.2,if_neg (fun h=>h rfl)]at q
   exact q σ bx (.refl I)
  | false=>
   refine i_of0 I (.inl hs) ot.2.1 fun σ' bx' N=>?_
   have q':=q σ' bx' N
   have hz:=way0_zero m s c (op m t)
   refine wv_0 ?_
   by_cases h:(way0 m s c (op m t)).1=0
   ·rw[if_neg (fun h'=>h' (hz.mp h))]at q'
    exact neF (eqfT h) q'
   ·rw[if_pos (fun h'=>h (hz.mpr h'))]at q'
    exact neT (nat_ne h) ⟨lel rfl,q'⟩
theorem way_way0 (ht:Subj t):way m s c t=way0 m s c t:=by
 have nt:=subj_n0 (m:=m) ht
 unfold way
 split
 ·rename_i h;unfold way0;rw[if_pos h]
 split
 ·rename_i h1 h2;unfold way0;rw[if_neg h1,if_pos h2]
 split
 ·rename_i h1 h2 h3;unfold way0;rw[if_neg h1,if_neg h2,if_pos h3]
 ·rw[nt.2.1,if_neg (by decide)]
theorem i_of (I:Inv m P σ bx) (hs:Sq m s) (ht:Tq m t) (q:∀σ' bx',Nx m P [] σ bx σ' bx'→Q (wV (way m s c t)) σ'):C (n+18) 52 [.loc P.H.i,.int s,cV c,.int t] σ Q:=by
 rcases ht with ht | ⟨hto,htn⟩
 ·rw[way_way0 ht]at q
  exact i_of0 (n:=n+2) I hs ht q
 ·have ht:Tq m t:=.inr ⟨hto,htn⟩
  have nt:=tq_n0 ht
  refine of_head (n:=n+9) I hs ht (fun h=>?_) (fun h h0=>?_) (fun h h0 σ' b g hb=>?_) (fun hne hq=>?_)
  ·have e:way m s c t=(1,10):=by unfold way;rw[if_pos h]
   have:=q σ bx (.refl I);rwa [e]at this
  ·have e:way m s c t=(0,0):=by unfold way;rw[if_neg h,if_pos h0]
   have:=q σ bx (.refl I);rwa [e]at this
  ·have e:way m s c t=if b=true then (2,8) else (0,0):=by
    unfold way;rw[if_neg h,if_neg (by rw[h0];decide),if_pos h0]
    induction b with
    | true=>rw[if_pos (hb.mp rfl),if_pos rfl]
    | false=>rw[if_neg (fun h=>by have:=hb.mpr h;cases this),if_neg (by decide)]
   have:=q σ' bx (.gw I g);rwa [e]at this
  ·rw[hto,if_pos rfl]
   exact geT (Int.natCast_nonneg _) (i_wrap I hq hto htn hne q)
theorem i_goes (I:Inv m P σ bx) (hs:Sq m s) (ht:Tq m t) (q:∀σ' bx',Nx m P [] σ bx σ' bx'→Q (.bool (decide ((way m s c t).1≠0))) σ'):C (n+19) 57 [.loc P.H.i,.int s,cV c,.int t] σ Q:=by
 refine call_eq (m:=f57) rfl rfl ?_
 refine i_of I hs ht fun σ' bx' N=>?_
 refine wv_0 (ne_of rfl ?_)
 rw[nat_bne0]
 exact q σ' bx' N
noncomputable def bet (m:Wm) (s x y:Nat):Int:=
 if x=y then 0 else if s=x then -1 else if s=y then 1
 else if decide ((way m x none y).1≠0)≠decide ((way m y none x).1≠0) then (if decide ((way m x none y).1≠0)=true then -1 else 1)
 else if strip m y∈sover (strip m x) then -1 else if strip m x∈sover (strip m y) then 1 else 0
end
set_option maxRecDepth 20000
section
variable {m:Wm}{P:Pl}{σ σ':Store}{bx bx':List Nat}{n x y s i:Nat}{c:Option Int}{Q:Post}
theorem i_better (I:Inv m P σ bx) (hs:Sq m s) (hx:Tq m x) (hy:Tq m y) (q:∀σ' bx',Nx m P [] σ bx σ' bx'→Q (.int (bet m s x y)) σ'):C (n+20) 58 [.loc P.H.i,.int s,cV c,.int x,.int y] σ Q:=by
 refine call_eq (m:=f58) rfl rfl ?_
 unfold bet at q
 have nx:=tq_n0 hx
 have ny:=tq_n0 hy
 by_cases h1:x=y
 ·have:=q σ bx (.refl I);rw[if_pos h1]at this;exact eqT (eqfT h1) this
 refine eqF (nat_ne h1) ?_
 by_cases h2:s=x
 ·have:=q σ bx (.refl I);rw[if_neg h1,if_pos h2]at this;exact eqT (eqfT h2) this
 refine eqF (nat_ne h2) ?_
 by_cases h3:s=y
 ·have:=q σ bx (.refl I);rw[if_neg h1,if_neg h2,if_pos h3]at this;exact eqT (eqfT h3) this
 rw[if_neg h1,if_neg h2,if_neg h3]at q
 refine eqF (nat_ne h3) (i_goes (c:=none) I (.inl hx) hy fun σ₁ bx₁ N1=>?_)
 refine i_goes (c:=none) N1.inv (.inl hy) hx fun σ₂ bx₂ N2=>?_
 have I2:=N2.inv
 have q0:=q σ₂ bx₂ (N1.trans N2)
 generalize decide ((way m x none y).1≠0)=f at q0 ⊢
 generalize decide ((way m y none x).1≠0)=b at q0 ⊢
 clear q
 refine ne_of (r:=f==b) rfl ?_
 by_cases hfb:f=b
 ·rw[if_neg (fun h=>h hfb)]at q0
  rw[beq_iff_eq.mpr hfb]
  refine I2.ho.at_ rfl (i_cplain I2 nx.1 (I2.ho.at_ rfl (i_cplain I2 ny.1 ⟨rfl,Nat.zero_le _,loo_of rfl ?_⟩)))
  rw[sover_look (strip m x)]
  refine in_natT ?_
  by_cases h4:strip m y∈sover (strip m x)
  ·rw[if_pos h4]at q0
   rw[decide_eq_true h4];exact q0
  ·rw[if_neg h4]at q0
   rw[decide_eq_false h4]
   refine⟨rfl,Nat.zero_le _,loo_of rfl ?_⟩
   rw[sover_look (strip m y)]
   refine in_natT ?_
   by_cases h5:strip m x∈sover (strip m y)
   ·rw[if_pos h5]at q0
    rw[decide_eq_true h5];exact q0
   ·rw[if_neg h5]at q0
    rw[decide_eq_false h5];exact q0
 ·rw[if_pos hfb]at q0
  rw[beq_eq_false_iff_ne.mpr hfb]
  induction f
  ·exact q0
  ·exact q0
end
set_option maxRecDepth 20000
noncomputable def spanL (k:Nat):List V:=if 2≤k∧k≤10 then [.int (rng k).1,.int (rng k).2] else []
noncomputable def tailW (s:Nat) (c:Option Int) (t:Nat):Bool:=match c with
 | none=>false
 | some v=>if s≠7∧(s≠9∨t≠10) then false else decide ((rng t).1≤v)&&decide (v≤(rng t).2)
noncomputable def numW (s:Nat) (c:Option Int) (t:Nat):Bool:=
 if ¬(2≤s∧s≤10) then false else if t=25 then s != 2&&c==some 0 else if ¬(2≤t∧t≤10)∨t=2 then false
 else if (rng t).1≤(rng s).1∧(rng s).2≤(rng t).2 then true
 else tailW s c t
noncomputable def cL:List (Option Int):=[none,some 0,some 7,some (-1),some 300,some 70000]
theorem nf0:∀s < 11,∀t < 26,s≠t→numW s none t=numB s none t:=by decide +kernel
theorem nf1:∀s < 11,∀t < 26,s≠t→numW s (some 0) t=numB s (some 0) t:=by decide +kernel
theorem nf2:∀s < 11,∀t < 26,s≠t→numW s (some 7) t=numB s (some 7) t:=by decide +kernel
theorem nf3:∀s < 11,∀t < 26,s≠t→numW s (some (-1)) t=numB s (some (-1)) t:=by decide +kernel
theorem nf4:∀s < 11,∀t < 26,s≠t→numW s (some 300) t=numB s (some 300) t:=by decide +kernel
theorem nf5:∀s < 11,∀t < 26,s≠t→numW s (some 70000) t=numB s (some 70000) t:=by decide +kernel
theorem num_fin:∀s < 11,∀t < 26,∀c∈cL,s≠t→numW s c t=numB s c t:=by
 intro s hs t ht c hc
 rcases hc with _ | ⟨_,_ | ⟨_,_ | ⟨_,_ | ⟨_,_ | ⟨_,_ | ⟨_,hc⟩⟩⟩⟩⟩⟩
 ·exact nf0 s hs t ht
 ·exact nf1 s hs t ht
 ·exact nf2 s hs t ht
 ·exact nf3 s hs t ht
 ·exact nf4 s hs t ht
 ·exact nf5 s hs t ht
 ·exact absurd hc List.not_mem_nil
theorem num_eq {s t:Nat}{c:Option Int}(hc:c∈cL) (h:s≠t):numW s c t=numB s c t:=by
 by_cases hs:s < 11
 ·by_cases ht:t < 26
  ·exact num_fin s hs t ht c hc h
  ·have w:∀s < 11,∀x∈wider s,x < 26:=by decide
   have w2:∀x∈narrow,x < 26:=by decide
   have f:fitsO s c t=false:=by
    induction c with
    | none=>rfl
    | some v=>
     unfold fitsO fitsB
     dsimp only
     rw[if_neg (fun h=>ht (w2 t h.2))]
     have:(t==10)=false:=beq_eq_false_iff_ne.mpr fun e=>ht (by rw[e];decide)
     rw[this];simp
   have e:numR s c t=false:=by
    unfold numR
    rw[f,decide_eq_false (fun h=>ht (w s hs t h))]
    have:(t==25)=false:=beq_eq_false_iff_ne.mpr fun e=>ht (by rw[e];decide)
    rw[this];simp
   unfold numW numB
   rw[e,if_neg (show ¬t=25 from fun e=>ht (by rw[e];decide)),if_pos (show ¬(2≤t∧t≤10)∨t=2 from .inl fun h=>ht (Nat.lt_of_le_of_lt h.2 (by decide)))]
   simp
 ·unfold numW numB
  rw[if_pos (by lia)]
  have:decide (s≤10)=false:=decide_eq_false fun h=>hs (Nat.lt_succ_of_le h)
  rw[this];simp
section
variable {m:Wm}{P:Pl}{σ σ':Store}{bx:List Nat}{n k x t s:Nat}{c:Option Int}{Q:Post}
theorem agets_loc (l:List Nat) (f:Nat→V) (k:Nat):agets (l.map fun x:Nat=>((x:Int),f x)) (k:Int)=if k∈l then some (f k) else none:=by
 have:=lget_map l f k
 unfold lget at this
 unfold agets
 exact this
theorem Inv.lov (I:Inv m P σ bx) (x:Nat):lookO σ (.loc P.W.ov) (.int x)=some (if x∈ovA then some (.loc (P.W.ol x)) else none):=by
 rw[loo_dI I.wa.ov,agets_loc ovA (fun x=>V.loc (P.W.ol x))]
theorem Inv.lfl (I:Inv m P σ bx) (x:Nat):lookO σ (.loc P.W.fl) (.int x)=some (if isVar x then some (.int (flag m x:Int)) else none):=by
 rw[loo_dI I.wa.fl]
 rw[agets_loc [26,27,28,29] (fun x=>V.int (flag m x:Int))]
 congr 1
 by_cases h:isVar x=true
 ·rw[if_pos h,if_pos];exact(by decide:∀x,x < 30→isVar x=true→x∈[26,27,28,29]) x (Nat.lt_succ_of_le (isVar_iff.mp h).2) h
 ·rw[if_neg h,if_neg];intro h';exact h ((by decide:∀x∈[26,27,28,29],isVar x=true) x h')
theorem Inv.lar (I:Inv m P σ bx) (x:Nat):lookO σ (.loc P.W.ar) (.int x)=some (if isArr x then some (.int (el m x:Int)) else none):=by
 rw[loo_dI I.wa.ar]
 rw[agets_loc arL (fun x=>V.int (el m x:Int))]
 congr 1
 by_cases h:isArr x=true
 ·rw[if_pos h,if_pos];exact(by decide:∀x,x < 40→isArr x=true→x∈arL) x (Nat.lt_succ_of_le (arr_ge h).2.1) h
 ·rw[if_neg h,if_neg];intro h';apply h
  have:∀x∈arL,isArr x=true:=by decide
  exact this x h'
theorem Inv.lfa (I:Inv m P σ bx) (x:Nat):lookO σ (.loc P.W.fa) (.int x)=some (if isFace x then some (.int (el m x:Int)) else none):=by
 rw[loo_dI I.wa.fa]
 rw[agets_loc faL (fun x=>V.int (el m x:Int))]
 congr 1
 by_cases h:isFace x=true
 ·rw[if_pos h,if_pos];exact(by decide:∀x,x < 39→isFace x=true→x∈faL) x (Nat.lt_succ_of_le (face_ge h).2.1) h
 ·rw[if_neg h,if_neg];intro h';apply h
  have:∀x∈faL,isFace x=true:=by decide
  exact this x h'
theorem optL_mem (m:Wm) (x:Nat):x∈optL m↔isOpt x=true∧x < N0 m:=by
 unfold optL N0
 rw[List.mem_map]
 constructor
 ·rintro⟨a,ha,rfl⟩
  have:=List.mem_range.mp ha
  exact⟨decide_eq_true (Nat.le_add_right 40 a),Nat.add_lt_add_left this 40⟩
 ·rintro⟨h1,h2⟩
  have:=opt_ge h1
  exact⟨x - 40,List.mem_range.mpr (Nat.sub_lt_left_of_lt_add this h2),Nat.add_sub_cancel' this⟩
theorem Inv.lop (I:Inv m P σ bx) (x:Nat) (hx:x < N0 m):lookO σ (.loc P.W.op) (.int x)=some (if isOpt x then some (.int (op m x:Int)) else none):=by
 rw[loo_dI I.wa.op]
 rw[agets_loc (optL m) (fun x=>V.int (op m x:Int))]
 congr 1
 by_cases h:isOpt x=true
 ·rw[if_pos h,if_pos];exact(optL_mem m x).mpr ⟨h,hx⟩
 ·rw[if_neg h,if_neg];intro h';exact h ((optL_mem m x).mp h').1
noncomputable def spanD:List (Int×V):=[(2,.tup [.int 0,.int 65535]),(3,.tup [.int (-128),.int 127]),(4,.tup [.int 0,.int 255]),(5,.tup [.int (-32768),.int 32767]),(6,.tup [.int 0,.int 65535]),(7,.tup [.int (-2147483648),.int 2147483647]),(8,.tup [.int 0,.int 4294967295]),(9,.tup [.int (-9223372036854775808),.int 9223372036854775807]),(10,.tup [.int 0,.int 18446744073709551615])]
theorem spanD_look (s:Nat):(agets spanD (s:Int)).getD (.tup []) = .tup (spanL s):=by
 match s with
 | 0 | 1 | 2 | 3 | 4 | 5 | 6 | 7 | 8 | 9 | 10=>rfl
 | n+11=>
  have:agets spanD ((n+11:Nat):Int)=none:=by
   simp only[agets,Option.map_eq_none_iff,List.find?_eq_none,decide_eq_true_eq]
   intro p hp
   exact fun e=>absurd ((by decide:∀p∈spanD,p.1 < 11) p hp) (e▸Int.not_lt.mpr (Int.ofNat_le.mpr (Nat.le_add_left 11 n)))
  rw[this]
  unfold spanL
  rw[if_neg fun h=>absurd h.2 (Nat.not_le.mpr (Nat.lt_of_lt_of_le (by decide:10 < 11) (Nat.le_add_left 11 n)))];rfl
theorem Inv.wk (I:Inv m P σ bx) {a:Nat}{v:V}(h:agets [(0,V.int 25),(3,.loc P.W.cl),(10,.loc P.W.ba),(11,.loc P.W.pl),(9,.loc P.W.ro),(7,.int (m.way:Int)),(1,.loc P.W.ov),(6,.loc P.W.fa),(5,.loc P.W.ar),(2,.loc P.W.fl),(4,.loc P.W.re),(8,.loc P.W.op),(12,.loc P.W.nu)] a=some v) (q:Q v σ) :
  subR (.loc P.W.w) (.str a) σ Q:=sub_look ((loo_dS I.wa.d).trans (congrArg some h)) (seq_no I.wa.d rfl) q
theorem i_span (q:∀σ',Gw σ σ'→Q (.tup (spanL k)) σ'):C (n+1) 59 [.int k] σ Q:=by
 refine call_eq (m:=f59) rfl rfl ?_
 have q':=q _ (Gw.push σ (.dI spanD))
 have e:(σ++[O.dI spanD])[σ.length]?=some (.dI spanD):=List.getElem?_concat_length ..
 refine⟨lel rfl,lel rfl,lel rfl,lel rfl,lel rfl,lel rfl,lel rfl,lel rfl,lel rfl,dI_of (kvs:=spanD) (lel30 rfl) rfl (by decide) ⟨is_dI e,Nat.zero_le _,loo_of (loo_dI e) ?_⟩⟩
 rw[spanD_look]
 exact q'
theorem spanL_num (h:2≤k∧k≤10):spanL k=[.int (rng k).1,.int (rng k).2]:=by unfold spanL;rw[if_pos h]
theorem spanL_no (h:¬(2≤k∧k≤10)):spanL k=[]:=by unfold spanL;rw[if_neg h]
theorem l_number (I:Inv m P σ bx) (q:∀σ',Gw σ σ'→Q (.bool (numW s c t)) σ'):C (n+2) 60 [.loc P.W.w,.int s,cV c,.int t] σ Q:=by
 refine call_eq (m:=f60) rfl rfl (i_span fun σ₁ g1=>i_span fun σ₂ g2=>?_)
 have I2:=(I.gw g1).gw g2
 have q':=q σ₂ (g1.trans g2)
 unfold numW at q'
 clear q
 by_cases h1:2≤s∧s≤10
 ·rw[if_neg (fun h=>h h1)]at q'
  rw[spanL_num h1]
  refine seq_tup ⟨lel rfl,eq_of rfl (I2.wk rfl ?_)⟩
  by_cases h2:t=25
  ·rw[if_pos h2]at q'
   refine eqT (eqfT h2) ?_
   by_cases h3:s=2
   ·subst h3;exact neF rfl q'
   ·rw[bne_iff_ne.mpr h3]at q'
    refine neT (nat_ne h3) ?_
    induction c with
    | none=>exact eq_of rfl q'
    | some v=>exact eq_of rfl q'
  ·rw[if_neg h2]at q'
   refine eqF (nat_ne h2) ?_
   by_cases h3:2≤t∧t≤10
   ·rw[spanL_num h3]
    refine seq_tup ⟨lel rfl,eq_of rfl ?_⟩
    by_cases h4:t=2
    ·rw[if_pos (.inr h4)]at q'
     exact eqT (eqfT h4) q'
    ·rw[if_neg (fun h=>h.elim (fun h=>h h3) h4)]at q'
     refine eqF (nat_ne h4) (sub_tup (by decide) (lel rfl) rfl (sub_tup (by decide) (lel rfl) rfl ?_))
     have last:Q (.bool (tailW s c t)) σ₂→wpSs (C (n+1)) (f60.body.drop 6) [some (.loc P.W.w),some (.int (s:Int)),some (cV c),some (.int (t:Int)),some (.tup [.int (rng s).1,.int (rng s).2]),some (.tup [.int (rng t).1,.int (rng t).2]),none] σ₂ (rtn Q):=by
      intro q
      unfold tailW at q
      induction c with
      | none=>exact isNN q
      | some v=>
       refine isIN ?_
       have fin:Q (.bool (decide ((rng t).1≤v)&&decide (v≤(rng t).2))) σ₂→wpSs (C (n+1)) (f60.body.drop 7) [some (.loc P.W.w),some (.int (s:Int)),some (.int v),some (.int (t:Int)),some (.tup [.int (rng s).1,.int (rng s).2]),some (.tup [.int (rng t).1,.int (rng t).2]),none] σ₂ (rtn Q):=by
        intro q
        refine sub_tup (by decide) (lel rfl) rfl (le_of ?_)
        cases h5:decide ((rng t).1≤v) with
        | false=>rw[h5]at q;exact q
        | true=>rw[h5]at q;exact sub_tup (by decide) (lel rfl) rfl (le_of q)
       dsimp only at q
       by_cases h7:s=7
       ·rw[if_neg (fun h=>h.1 h7)]at q
        exact neF (eqfT h7) (fin q)
       ·refine neT (nat_ne h7) ?_
        by_cases h9:s=9
        ·refine neF (eqfT h9) ?_
         by_cases h10:t=10
         ·rw[if_neg (fun h=>h.2.elim (fun h=>h h9) fun h=>h h10)]at q
          exact neF (eqfT h10) (fin q)
         ·rw[if_pos ⟨h7,.inr h10⟩]at q
          exact neT (nat_ne h10) q
        ·rw[if_pos ⟨h7,.inl h9⟩]at q
         exact neT (nat_ne h9) q
     by_cases h5:(rng t).1≤(rng s).1
     ·refine leT h5 (sub_tup (by decide) (lel rfl) rfl (sub_tup (by decide) (lel rfl) rfl ?_))
      by_cases h6:(rng s).2≤(rng t).2
      ·rw[if_pos ⟨h5,h6⟩]at q'
       exact leT h6 q'
      ·rw[if_neg (fun h=>h6 h.2)]at q'
       exact leF h6 (last q')
     ·rw[if_neg (fun h=>h5 h.1)]at q'
      exact leF h5 (last q')
   ·rw[if_pos (.inl h3)]at q'
    rw[spanL_no h3]
    exact seq_tup ⟨Nat.zero_le _,eq_of rfl q'⟩
 ·rw[if_pos h1]at q'
  rw[spanL_no h1]
  exact seq_tup ⟨Nat.zero_le _,eq_of rfl q'⟩
end
set_option maxRecDepth 20000
section
variable {m:Wm}{P:Pl}{σ σ':Store}{bx:List Nat}{n k x y t:Nat}{Q:Post}
noncomputable def wb61:List MS:=[(.assign 4 (.pop (.var 3))),(.ifS (.ex (.cmp .notin (.var 4) (.var 2))) [(.expr (.append (.var 2) (.var 4))),(.assign 3 (.bop .add (.var 3) (.listOf (.get2 (.sub (.var 0) (.lit (.str 1))) (.var 4) (.tup [])))))] [])]
theorem up_subj (ok:WOk m) (h:Subj k) (u:Up m k y):Subj y:=by
 rcases h with h | h
 ·exact .inl (up_ref ok h u).1
 ·cases hv:isVar y with
  | true=>exact .inr hv
  | false=>
   rcases(up_var ok k h y hv).mp u with e | ⟨-,e⟩ | ⟨b,hb,hbv,hu⟩
   ·subst e;left;decide
   ·subst e;left;decide
   ·exact .inl (up_ref ok ((rb_lt ok h hb).2 hbv).1 hu).1
theorem subj_lt (h:Subj k):k < 100∧(k∈ovA∨k=12):=by
 rcases h with h | h
 ·have:∀k∈nvL,k < 100∧(k∈ovA∨k=12):=by decide
  exact this k h
 ·rw[isVar_iff]at h
  have:∀k < 30,26≤k→k < 100∧(k∈ovA∨k=12):=by decide
  exact this k (Nat.lt_succ_of_le h.2) h.1
theorem over_len4 (ok:WOk m) (h:Subj k):(over m k).length≤4:=by
 rcases h with h | h
 ·exact Nat.le_trans (over_len ok h) (by decide)
 ·have:=(bdp ok h).len
  rw[over_var h]
  split
  ·rw[List.length_append];exact Nat.add_le_add_right this 2
  ·rw[List.length_append];exact Nat.le_succ_of_le (Nat.add_le_add_right this 1)
theorem nin_nat {l:Nat}{xs:List Nat}(h:σ[l]?=some (.list (natL xs))) (q:Q (.bool (!decide (x∈xs))) σ):cmpR .notin (.int x) (.loc l) σ Q:=nin_list h (show(intsOf (natL xs)).map (fun l=>l.contains (x:Int))=_ by rw[ints_nat,Option.map_some,ci_contains]) q
theorem l_turn (I:Inv m P σ bx) {out t:List Nat}{lo lt:Nat}{z4 z5:Option V}{K:PostS}{k0:Nat}(h1:σ[lo]?=some (.list (natL out))) (h2:σ[lt]?=some (.list (natL (t++[x])))) (hne:lo≠lt) (t1:P.top≤lo) (t2:P.top≤lt) (hx:Subj x) (ol:out.length≤1000) (tl:t.length≤90000)
  (q1:x∈out→K .nx [some (.loc P.W.w),some (.int (k0:Int)),some (.loc lo),some (.loc lt),some (.int (x:Int)),z5] (σ.set lt (.list (natL t))))
  (q2:x∉out→∀σ' l',Kx [lo,lt] σ σ'→σ.length≤l'→σ'[lo]?=some (.list (natL (out++[x])))→σ'[l']?=some (.list (natL (t++over m x)))→K .nx [some (.loc P.W.w),some (.int (k0:Int)),some (.loc lo),some (.loc l'),some (.int (x:Int)),z5] σ') :
  wpSs (C n) wb61 [some (.loc P.W.w),some (.int (k0:Int)),some (.loc lo),some (.loc lt),z4,z5] σ K:=by
 have u:(natL (t++[x])).length≤line:=by rw[natL_len,List.length_append];exact Nat.le_trans (Nat.add_le_add_right tl 1) (by decide)
 have l2:=get_lt h2
 have l1:=get_lt h1
 have e1:(σ.set lt (.list (natL t)))[lo]?=some (.list (natL out)):=by rw[List.getElem?_set_ne (Ne.symm hne)];exact h1
 refine pop_of h2 u (natL_last t x) ?_
 rw[natL_drop]
 refine nin_nat e1 ?_
 by_cases hm:x∈out
 ·rw[decide_eq_true hm]
  exact q1 hm
 ·rw[decide_eq_false hm]
  have u2:(natL out).length≤line:=by rw[natL_len];exact Nat.le_trans ol (by decide)
  obtain⟨σ₂,eσ⟩:∃σ₂,(σ.set lt (.list (natL t))).set lo (.list (natL (out++[x])))=σ₂:=⟨_,rfl⟩
  have k2:Kx [lo,lt] σ σ₂:=by rw[←eσ];exact(Kx.set (by simp)).trans (Kx.set (by simp))
  have len2:σ₂.length=σ.length:=by rw[←eσ];simp
  have a1:σ₂[lo]?=some (.list (natL (out++[x]))):=by rw[←eσ,List.getElem?_set_self];simpa using l1
  have a2:σ₂[lt]?=some (.list (natL t)):=by rw[←eσ,List.getElem?_set_ne hne,List.getElem?_set_self l2]
  have I2:=I.kx k2 (al2 t1 t2) (by rw[len2];exact I.len)
  have od:=over_len4 I.ok hx
  have u3:(natL (over m x)).length≤line:=by rw[natL_len];exact Nat.le_trans od (by decide)
  have gg:∀o:O,Kx [lo,lt] σ (σ₂++[o]):=fun o=>k2.trans (Kx.gw (Gw.push _ _))
  refine⟨lat_of e1,app_of e1 u2 ?_⟩
  rw[natL_snoc,eσ]
  refine I2.wk rfl ⟨is_dI I2.wa.ov,Nat.zero_le _,loo_of (I2.lov x) ?_⟩
  have fin:K .nx [some (.loc P.W.w),some (.int (k0:Int)),some (.loc lo),some (.loc (σ₂++[O.list (natL (over m x))]).length),some (.int (x:Int)),z5] (σ₂++[O.list (natL (over m x))]++[O.list (natL t++natL (over m x))]):=by
   refine q2 hm _ _ ((gg _).trans (Kx.gw (Gw.push _ _))) (by rw[List.length_append,len2];exact Nat.le_add_right _ _) ?_ (by rw[natL_app];simp)
   exact Gw.push _ _ _ _ (Gw.push _ _ _ _ a1)
  have a2':(σ₂++[O.list (natL (over m x))])[lt]?=some (.list (natL t)):=Gw.push _ _ _ _ a2
  have a3:(σ₂++[O.list (natL (over m x))])[σ₂.length]?=some (.list (natL (over m x))):=by simp
  have u4:(natL t).length+(natL (over m x)).length≤line:=by rw[natL_len,natL_len];exact Nat.le_trans (Nat.add_le_add tl od) (by decide)
  rcases(subj_lt hx).2 with h | h
  ·rw[if_pos h]
   exact its_list (I2.wa.ol x h) ⟨u3,addL_of a2' a3 u4 fin⟩
  ·have h':x∉ovA:=by subst h;decide
   have e0:over m x=[]:=by subst h;rfl
   rw[e0]at fin a2' a3 u4 u3
   rw[if_neg h']
   exact its_tup ⟨u3,addL_of a2' a3 u4 fin⟩
inductive UpI (m:Wm) (P:Pl) (σ:Store) (k:Nat):Nat→Rho→Store→Prop
 | mk {out t:List Nat} {lt:Nat} {z4 z5:Option V} {σ':Store} (g:Gw σ σ') (h1:σ'[σ.length]?=some (.list (natL out))) (h2:σ'[lt]?=some (.list (natL t))) (hlt:σ.length < lt) (D:Dfs (over m) (fun Z=>False) (·=k) out t) (tl:t.length≤10 * out.length+10) :
   UpI m P σ k ((100 - out.length) * 10+t.length) [some (V.loc P.W.w),some (.int (k:Int)),some (.loc σ.length),some (.loc lt),z4,z5] σ'
theorem i_up (I:Inv m P σ bx) (hk:Subj k) (q:∀σ' l out,Gw σ σ'→σ.length≤l→σ'[l]?=some (.list (natL out))→out.length≤1000→(∀y,y∈out↔Up m k y)→Q (.loc l) σ'):C (n+1) 61 [.loc P.W.w,.int k] σ Q:=by
 refine call_eq (m:=f61) rfl rfl ?_
 refine⟨Nat.zero_le _,lel rfl,?_⟩
 rw[List.append_assoc,List.length_append]
 refine⟨UpI m P σ k,⟨_,.mk (out:=[]) (t:=[k]) (lt:=σ.length+1) (Gw.app _ _) (by simp[natL]) (by simp[natL]) (Nat.lt_succ_self _) ⟨fun Z h=>absurd h List.not_mem_nil,fun x hx=>.start (List.mem_singleton.mp hx),fun Z h=>absurd h List.not_mem_nil,fun x hx=>.inr (.inr (List.mem_singleton.mpr hx)),List.nodup_nil,fun Z h=>absurd h List.not_mem_nil⟩ (by simp)⟩,?_⟩
 rintro N ρ σ' ⟨g,h1,h2,hlt,D,tl⟩
 have lt100:∀x∈out,x < 100:=fun x hx=>(subj_lt (up_subj I.ok hk (D.sound x hx))).1
 have ol:out.length≤100:=nodup_le 100 out D.nodup lt100
 have I':=I.gw g
 rcases List.eq_nil_or_concat t with rfl | ⟨t,x,rfl⟩
 ·refine seq_list h2 ⟨Nat.zero_le _,gt_of ?_⟩
  refine q σ' σ.length out g (Nat.le_refl _) h1 (Nat.le_trans ol (by decide)) fun y=>?_
  rw[D.done y]
  exact⟨fun h=>h.1,fun h=>⟨h,fun h=>h⟩⟩
 ·rw[List.concat_eq_append]at *
  have t8:10 * out.length+10≤90000:=Nat.le_trans (Nat.add_le_add_right (Nat.mul_le_mul_left 10 ol) 10) (by decide)
  have u:(natL (t++[x])).length≤line:=by rw[natL_len];exact Nat.le_trans tl (Nat.le_trans t8 (by decide))
  rw[List.length_append,List.length_singleton]at tl
  refine seq_list h2 ⟨u,gtT (by rw[natL_len,List.length_append];exact Int.ofNat_lt.mpr (Nat.succ_pos _)) ?_⟩
  have hx:Subj x:=up_subj I.ok hk (D.todos x (by simp))
  refine l_turn I' h1 h2 (Nat.ne_of_lt hlt) I.len (Nat.le_trans I.len (Nat.le_of_lt hlt)) hx (Nat.le_trans ol (by decide)) (Nat.le_trans (Nat.le_of_succ_le tl) t8) (fun hm=>?_) fun hm σ₂ l' kx hl' e1 e2=>?_
  ·refine⟨(100 - out.length) * 10+t.length,by simp,.mk (fun j o e=>?_) ?_ ?_ hlt (D.skip (.inl hm)) (Nat.le_of_succ_le tl)⟩
   ·have:=get_lt e
    rw[List.getElem?_set_ne (Nat.ne_of_gt (Nat.lt_trans this hlt))];exact g j o e
   ·rw[List.getElem?_set_ne (Nat.ne_of_gt hlt)];exact h1
   ·rw[List.getElem?_set_self (get_lt h2)]
  ·have d3:=D.take hm (fun h=>h) (l:=over m x) (fun y=>Iff.rfl)
   have ol':(out++[x]).length≤100:=nodup_le 100 _ d3.nodup fun y hy=>(subj_lt (up_subj I.ok hk (d3.sound y hy))).1
   rw[List.length_append,List.length_singleton]at ol'
   have od:=over_len4 I.ok hx
   have:=gw_len g
   refine⟨(100 - (out++[x]).length) * 10+(t++over m x).length,by rw[List.length_append,List.length_append,List.length_append];exact meas ol' od,.mk (fun j o e=>?_) e1 e2 (Nat.lt_of_lt_of_le (Nat.lt_trans hlt (get_lt h2)) hl') d3 (by rw[List.length_append,List.length_append];exact Nat.add_le_add (Nat.le_of_succ_le tl) (Nat.le_trans od (by decide)))⟩
   have:=get_lt e
   exact kx j o (ni2 (Nat.ne_of_lt this) (Nat.ne_of_lt (Nat.lt_trans this hlt))) (g j o e)
theorem comp_nat {cond:V→Rho→Store→(Bool→Store→Prop)→Prop}{elt:V→Rho→Store→Post→Prop}{src:Store→Prop}{acc:Nat}{ρ:Rho}{Q:Store→Prop}(f:Nat→V) (hc:∀x σ K,K true σ→cond x ρ σ K) :
  ∀(l:List Nat) (out:List V) (σ:Store),σ[acc]?=some (.list out)→out.length+l.length≤100000→(∀out',src (σ.set acc (.list out')))→(∀y∈l,∀out' K,K (f y) (σ.set acc (.list out'))→elt (.int y) ρ (σ.set acc (.list out')) K)→Q (σ.set acc (.list (out++l.map f)))→compItems cond elt src acc ρ (natL l) out σ Q:=by
 intro l
 induction l with
 | nil=>
  intro out σ h1 h2 hs he q
  have e:σ.set acc (.list out)=σ:=by
   apply List.ext_getElem?
   intro j
   by_cases hj:j=acc
   ·subst hj;rw[List.getElem?_set_self (get_lt h1)];exact h1.symm
   ·rw[List.getElem?_set_ne (Ne.symm hj)]
  have:=hs out
  rw[List.map_nil,List.append_nil]at q
  rw[e]at this q
  exact⟨this,h1,q⟩
 | cons y l ih=>
  intro out σ h1 h2 hs he q
  have e:σ.set acc (.list out)=σ:=by
   apply List.ext_getElem?
   intro j
   by_cases hj:j=acc
   ·subst hj;rw[List.getElem?_set_self (get_lt h1)];exact h1.symm
   ·rw[List.getElem?_set_ne (Ne.symm hj)]
  have hs0:=hs out
  rw[e]at hs0
  rw[List.length_cons]at h2
  refine⟨hs0,h1,Nat.le_trans (Nat.le_add_right _ _) (Nat.le_trans h2 (by decide)),hc _ _ _ ?_⟩
  have he0:=he y (.head _) out
  rw[e]at he0
  refine he0 _ ⟨h1,?_⟩
  refine ih (out++[f y]) (σ.set acc (.list (out++[f y]))) (by rw[List.getElem?_set_self (get_lt h1)]) (by rw[List.length_append,List.length_singleton,Nat.add_assoc,Nat.add_comm 1];exact h2) (fun out'=>?_) (fun y' hy' out' K hK=>?_) ?_
  ·rw[List.set_set];exact hs out'
  ·rw[List.set_set]at hK ⊢;exact he y' (.tail _ hy') out' K hK
  ·rw[List.set_set,List.append_assoc];exact q
theorem bools_map (l:List Nat) (f:Nat→Bool):boolsOf (l.map fun y=>V.bool (f y))=some (l.map f):=by
 induction l with
 | nil=>rfl
 | cons a l ih=>rw[List.map_cons,boolsOf,ih];rfl
theorem cls_mem (h:x < 60):decide (x∈[17,18,16])=isCls x:=by
 have:∀x < 60,decide (x∈[17,18,16])=isCls x:=by decide
 exact this x h
theorem l_sure (I:Inv m P σ bx) (hk:isVar k=true) (q:∀σ' b,Gw σ σ'→(b=true↔Sure m k)→Q (.bool b) σ'):C (n+2) 62 [.loc P.W.w,.int k] σ Q:=by
 refine call_eq (m:=f62) rfl rfl ?_
 have lf:=I.lfl k
 rw[hk,if_pos rfl]at lf
 refine I.wk rfl (sub_look lf (seq_dI I.wa.fl) ?_)
 by_cases hf:flag m k=1
 ·refine eqT (eqfT hf) ?_
  exact q σ true (.refl _) ⟨fun Z=>.inl hf,fun Z=>rfl⟩
 ·refine eqF (nat_ne hf) ?_
  refine i_up I (.inr hk) fun σ₁ l out g hl el ol hout=>its_list el ?_
  have I1:=I.gw g
  have acc0:(σ₁++[O.list []])[σ₁.length]?=some (.list []):=by simp
  have ss:∀o,(σ₁++[O.list []]).set σ₁.length o=σ₁++[o]:=fun o=>by simp
  have lne:l≠σ₁.length:=Nat.ne_of_lt (get_lt el)
  refine comp_nat (fun y=>V.bool (isCls y)) (fun x σ K h=>h) out [] _ acc0 (by rw[List.length_nil,Nat.zero_add];exact Nat.le_trans ol (by decide)) (fun out'=>?_) (fun y hy out' K hK=>?_) ?_
  ·rw[ss]
   show(σ₁++[O.list out'])[l]?=σ₁[l]?
   rw[List.getElem?_append_left (get_lt el)]
  ·rw[ss]at hK ⊢
   have I2:=I1.gw (Gw.push σ₁ (O.list out'))
   have hy60:y < 60:=by
    rcases up_subj I.ok (.inr hk) ((hout y).mp hy)with h | h
    ·have:∀y∈nvL,y < 60:=by decide
     exact this y h
    ·exact Nat.lt_of_le_of_lt (isVar_iff.mp h).2 (by decide)
   refine I2.wk rfl (in_nat I2.wa.cl ?_)
   rw[cls_mem hy60]
   exact hK
  ·rw[ss,List.nil_append]
   have g2:=Gw.push σ₁ (O.list (out.map fun y=>V.bool (isCls y)))
   have a1:(σ₁++[O.list (out.map fun y=>V.bool (isCls y))])[σ₁.length]?=some (.list (out.map fun y=>V.bool (isCls y))):=by simp
   refine in_list a1 (show(boolsOf _).map _=_ by rw[bools_map];rfl) (q _ _ (g.trans g2) ?_)
   rw[List.contains_iff_mem,List.mem_map]
   constructor
   ·rintro⟨y,hy,h⟩;exact .inr ⟨y,h,(hout y).mp hy⟩
   ·rintro(h | ⟨y,h,hu⟩)
    ·exact absurd h hf
    ·exact⟨y,(hout y).mpr hu,h⟩
end
set_option maxRecDepth 20000
section
variable {m:Wm}{P:Pl}{σ σ':Store}{bx:List Nat}{n x y t s:Nat}{Q:Post}
theorem ref_mem (h:x < 60):decide (x∈refL)=isRef x:=by
 have:∀x < 60,decide (x∈refL)=isRef x:=by decide
 exact this x h
theorem n0_60 (h:x < N0 m):x < 60:=Nat.lt_of_lt_of_le h (Nat.le_trans (n0_le m).1 (by decide))
theorem if_some {p:Bool}{v:V}:(if p=true then some v else none).isSome=p:=by induction p <;> rfl
theorem l_lies (I:Inv m P σ bx) (hx:x∈hl m) (hy:y∈hl m) (q:∀σ' b,Gw σ σ'→(b=true↔Lies m x y)→Q (.bool b) σ'):C (n+3) 63 [.loc P.W.w,.int x,.int y] σ Q:=by
 refine call_eq (m:=f63) rfl rfl ?_
 by_cases e:x=y
 ·exact eqT (eqfT e) (q σ true (.refl _) ⟨fun Z=>.inl e,fun Z=>rfl⟩)
 ·refine eqF (nat_ne e) ?_
  have fin:∀σ₁ b,Gw σ σ₁→(b=true↔Firm m x)→wpSs (C (n+2)) (f63.body.drop 2) [some (.loc P.W.w),some (.int (x:Int)),some (.int (y:Int)),some (.bool b),none] σ₁ (rtn Q):=by
   intro σ₁ b g hb
   induction b with
   | false=>
    refine q _ false g ⟨(fun h=>bff h),?_⟩
    rintro(h | ⟨h,-⟩)
    ·exact absurd h e
    ·have:=hb.mpr h;cases this
   | true=>
    refine i_up (I.gw g) (hl_subj hx) fun σ₂ l out g2 Z el Z hout=>in_nat el (q _ _ (g.trans g2) ?_)
    constructor
    ·exact fun h=>.inr ⟨hb.mp rfl,(hout y).mp (of_decide_eq_true h)⟩
    ·rintro(h | ⟨-,h⟩)
     ·exact absurd h e
     ·exact decide_eq_true ((hout y).mpr h)
  refine I.wk rfl (in_nat I.wa.re ?_)
  rw[ref_mem (n0_60 (hl_n0 hx).1)]
  cases hr:isRef x with
  | true=>exact fin σ true (.refl _) ⟨fun Z=>.inl hr,fun Z=>rfl⟩
  | false=>
   refine I.wk rfl (in_look (I.lfl x) ?_)
   rw[if_some]
   cases hv:isVar x with
   | false=>
    refine fin σ false (.refl _) ⟨(fun h=>bff h),?_⟩
    rintro(h | ⟨h,-⟩)
    ·rw[hr]at h;cases h
    ·rw[hv]at h;cases h
   | true=>
    refine l_sure I hv fun σ₁ b g hb=>fin σ₁ b g ?_
    rw[hb]
    constructor
    ·exact fun h=>.inr ⟨hv,h⟩
    ·rintro(h | ⟨-,h⟩)
     ·rw[hr]at h;cases h
     ·exact h
noncomputable def b64a:MS:=.ifS (.all [(.ex (.cmp .inn (.var 4) (.sub (.var 0) (.lit (.str 5))))),(.ex (.cmp .inn (.var 2) (.sub (.var 0) (.lit (.str 5))))),(.ex (.call 63 [(.var 0),(.sub (.sub (.var 0) (.lit (.str 5))) (.var 4)),(.sub (.sub (.var 0) (.lit (.str 5))) (.var 2))]))]) [(.ret (.lit (.bool true)))] []
noncomputable def b64d:MS:=.ifS (.all [(.ex (.cmp .eq (.sub (.var 0) (.lit (.str 7))) (.lit (.int 2)))),(.ex (.call 63 [(.var 0),(.sub (.var 5) (.lit (.int 1))),(.sub (.var 5) (.lit (.int 0)))]))]) [(.ret (.lit (.bool true)))] []
noncomputable def b64c:MS:=.ifS (.all [(.ex (.cmp .eq (.sub (.var 0) (.lit (.str 7))) (.lit (.int 1)))),(.ex (.call 63 [(.var 0),(.sub (.var 5) (.lit (.int 0))),(.sub (.var 5) (.lit (.int 1)))]))]) [(.ret (.lit (.bool true)))] []
noncomputable def b64b:MS:=.ifS (.all [(.ex (.cmp .inn (.var 4) (.sub (.var 0) (.lit (.str 6))))),(.ex (.cmp .inn (.var 2) (.sub (.var 0) (.lit (.str 6)))))]) [(.assign 5 (.tup [(.sub (.sub (.var 0) (.lit (.str 6))) (.var 4)),(.sub (.sub (.var 0) (.lit (.str 6))) (.var 2))])),b64c,b64d] []
noncomputable def b64:List MS:=[b64a,b64b]
noncomputable def Hit (m:Wm) (x t:Nat):Prop:=(isArr x=true∧isArr t=true∧Lies m (el m x) (el m t)) ∨
 (isFace x=true∧isFace t=true∧((m.way=1∧Lies m (el m x) (el m t))∨(m.way=2∧Lies m (el m t) (el m x))))
noncomputable abbrev r64 (P:Pl) (s t l x:Nat) (z5 z6:Option V):Rho:=[some (.loc P.W.w),some (.int (s:Int)),some (.int (t:Int)),some (.loc l),some (.int (x:Int)),z5,z6]
theorem l_hit (I:Inv m P σ bx) {l:Nat}{z5 z6:Option V}{K:PostS}(k1:∀σ' z5,Gw σ σ'→¬Hit m x t→K .nx (r64 P s t l x z5 z6) σ') (k2:∀σ' ρ,Gw σ σ'→Hit m x t→K (.ret (.bool true)) ρ σ') :
  wpSs (C (n+3)) b64 (r64 P s t l x z5 z6) σ K:=by
 have faces:∀σ₁,Gw σ σ₁→(¬(isArr x=true∧isArr t=true∧Lies m (el m x) (el m t)))→wpSs (C (n+3)) [b64b] (r64 P s t l x z5 z6) σ₁ K:=by
  intro σ₁ g hna
  have I1:=I.gw g
  have lx:=I1.lfa x
  have lt:=I1.lfa t
  have no:¬(isFace x=true∧isFace t=true)→K .nx (r64 P s t l x z5 z6) σ₁:=fun h=>k1 σ₁ _ g fun w=>w.elim hna fun w=>h ⟨w.1,w.2.1⟩
  refine I1.wk rfl (in_look lx ?_)
  rw[if_some]
  cases hx:isFace x with
  | false=>exact no fun h=>by rw[hx]at h;cases h.1
  | true=>
   refine I1.wk rfl (in_look lt ?_)
   rw[if_some]
   cases ht:isFace t with
   | false=>exact no fun h=>by rw[ht]at h;cases h.2
   | true=>
    have ex:=(face_nv (m:=m) hx).2.2.2.2.2.2.2
    have et:=(face_nv (m:=m) ht).2.2.2.2.2.2.2
    rw[hx,if_pos rfl]at lx
    rw[ht,if_pos rfl]at lt
    refine I1.wk rfl (sub_look lx (seq_dI I1.wa.fa) (I1.wk rfl (sub_look lt (seq_dI I1.wa.fa) ⟨lel rfl,?_⟩)))
    have last:∀σ₂,Gw σ σ₂→¬(m.way=1∧Lies m (el m x) (el m t))→wpSs (C (n+3)) [b64d] (r64 P s t l x (some (.tup [.int (el m x:Int),.int (el m t:Int)])) z6) σ₂ (seqK (wpSs (C (n+3)) []) K):=by
     intro σ₂ g2 hn1
     have I2:=I.gw g2
     refine I2.wk rfl ?_
     by_cases hw:m.way=2
     ·refine eqT (eqfT hw) (sub_tup (by decide) (lel rfl) rfl (sub_tup (by decide) (lel rfl) rfl ?_))
      refine l_lies I2 et ex fun σ₃ b g3 hb=>?_
      induction b with
      | true=>exact k2 _ _ (g2.trans g3) (.inr ⟨hx,ht,.inr ⟨hw,hb.mp rfl⟩⟩)
      | false=>
       refine k1 _ _ (g2.trans g3) fun w=>?_
       rcases w with w | ⟨-,-,w | ⟨-,w⟩⟩
       ·exact hna w
       ·exact hn1 w
       ·have:=hb.mpr w;cases this
     ·refine eqF (nat_ne hw) (k1 _ _ g2 fun w=>?_)
      rcases w with w | ⟨-,-,w | ⟨w,-⟩⟩
      ·exact hna w
      ·exact hn1 w
      ·exact hw w
    refine I1.wk rfl ?_
    by_cases hw:m.way=1
    ·refine eqT (eqfT hw) (sub_tup (by decide) (lel rfl) rfl (sub_tup (by decide) (lel rfl) rfl ?_))
     refine l_lies I1 ex et fun σ₂ b g2 hb=>?_
     induction b with
     | true=>exact k2 _ _ (g.trans g2) (.inr ⟨hx,ht,.inl ⟨hw,hb.mp rfl⟩⟩)
     | false=>exact last σ₂ (g.trans g2) fun w=>by have:=hb.mpr w.2;cases this
    ·exact eqF (nat_ne hw) (last σ₁ g fun w=>hw w.1)
 have lx:=I.lar x
 have lt:=I.lar t
 refine I.wk rfl (in_look lx ?_)
 rw[if_some]
 cases hx:isArr x with
 | false=>exact faces σ (.refl _) fun h=>by rw[hx]at h;cases h.1
 | true=>
  refine I.wk rfl (in_look lt ?_)
  rw[if_some]
  cases ht:isArr t with
  | false=>exact faces σ (.refl _) fun h=>by rw[ht]at h;cases h.2.1
  | true=>
   have ex:=(arr_nv (m:=m) hx).2.2.2.2.2.2.2
   have et:=(arr_nv (m:=m) ht).2.2.2.2.2.2.2
   rw[hx,if_pos rfl]at lx
   rw[ht,if_pos rfl]at lt
   refine I.wk rfl (sub_look lx (seq_dI I.wa.ar) (I.wk rfl (sub_look lt (seq_dI I.wa.ar) ?_)))
   refine l_lies I ex et fun σ₂ b g2 hb=>?_
   induction b with
   | true=>exact k2 _ _ g2 (.inl ⟨hx,ht,hb.mp rfl⟩)
   | false=>exact faces σ₂ g2 fun w=>by have:=hb.mpr w.2.2;cases this
theorem l_ref (I:Inv m P σ bx) (hs:Subj s) (q:∀σ' b,Gw σ σ'→(b=true↔Ref m s t)→Q (.bool b) σ'):C (n+4) 64 [.loc P.W.w,.int s,.int t] σ Q:=by
 refine call_eq (m:=f64) rfl rfl ?_
 refine i_up I hs fun σ₁ l out g hll el ol hout=>?_
 refine in_nat el ?_
 by_cases h:t∈out
 ·rw[decide_eq_true h]
  exact q _ true g ⟨fun Z=>.inl ((hout t).mp h),fun Z=>rfl⟩
 ·rw[decide_eq_false h]
  refine its_list el ⟨by rw[natL_len];exact Nat.le_trans ol (by decide),?_⟩
  refine for_nat (fun d ρ σ'=>(∃z4 z5 z6,ρ=[some (.loc P.W.w),some (.int (s:Int)),some (.int (t:Int)),some (.loc l),z4,z5,z6])∧Gw σ₁ σ'∧∀x∈d,¬Hit m x t) (fun d ρ σ' h=>(h.2.1 _ _ el).trans el.symm) ?_ ?_ ⟨⟨none,none,none,rfl⟩,.refl _,by simp⟩
  ·rintro d y r e ρ σ' ⟨⟨z4,z5,z6,rfl⟩,g',hd⟩ K k1 k2 k3
   have hy:Up m s y:=(hout y).mp (by rw[e];simp)
   show wpSs (C (n+3)) b64 (r64 P s t l y z5 z6) σ' K
   refine l_hit (I.gw (g.trans g')) (fun σ₂ z5 g2 hn=>k1 _ _ ⟨⟨_,_,_,rfl⟩,g'.trans g2,fun x hx=>?_⟩) fun σ₂ ρ g2 hh=>k3 _ _ _ (q _ true (g.trans (g'.trans g2)) ⟨fun Z=>.inr ⟨y,hy,hh⟩,fun Z=>rfl⟩)
   rcases List.mem_append.mp hx with hx | hx
   ·exact hd x hx
   ·rw[List.mem_singleton]at hx;subst hx;exact hn
  ·rintro ρ σ' ⟨⟨z4,z5,z6,rfl⟩,g',hd⟩
   refine q _ false (g.trans g') ⟨(fun h=>bff h),?_⟩
   rintro(h' | ⟨x,hx,hh⟩)
   ·exact absurd ((hout t).mpr h') h
   ·exact absurd hh (hd x ((hout x).mpr hx))
end
set_option maxRecDepth 20000
section
variable {m:Wm}{P:Pl}{σ σ':Store}{bx:List Nat}{n x t s:Nat}{c:Option Int}{Q:Post}
theorem eqfs_w (p:Nat×Nat):eqfs [.int (p.1:Int),.int (p.2:Int)] [.int 0,.int 0]=some (decide (p=(0,0))):=by
 obtain⟨a,b⟩:=p
 have ea:((a:Int)==0)=decide (a=0):=int_beq (a:=a) (b:=0)
 have eb:((b:Int)==0)=decide (b=0):=int_beq (a:=b) (b:=0)
 show some (((a:Int)==0)&&(((b:Int)==0)&&true))=_
 rw[ea,eb]
 by_cases h1:a=0 <;> by_cases h2:b=0 <;> simp[h1,h2]
theorem strip_get (x:Nat):(if isOpt x=true then some (V.int (op m x:Int)) else none).getD (.int (x:Int)) = .int (strip m x:Int):=by
 unfold strip;cases isOpt x <;> rfl
noncomputable abbrev r65 (P:Pl) (s:Nat) (c:Option Int) (t:Nat) (z6 z7:Option V):Rho:=[some (.loc P.W.w),some (.int (s:Int)),some (cV c),some (.int (t:Int)),some (.loc P.W.op),some (.tup [.int 0,.int 0]),z6,z7]
theorem Inv.isref (I:Inv m P σ bx) (h:x < N0 m) (q:Q (.bool (isRef x)) σ):cmpR .inn (.int (x:Int)) (.loc P.W.re) σ Q:=in_nat I.wa.re (by rw[ref_mem (n0_60 h)];exact q)
theorem Inv.inl (I:Inv m P σ bx) {l:Nat}{p:Bool}{v:V}(h:lookO σ (.loc l) (.int (x:Int))=some (if p=true then some v else none)) (q:Q (.bool p) σ):cmpR .inn (.int (x:Int)) (.loc l) σ Q:=in_look h (by rw[if_some];exact q)
theorem way_head (I:Inv m P σ bx) (hs:Sq m s) (ht:Tq m t) (q1:s=t∨s=15→Q (wV (1,10)) σ) (q2:¬(s=t∨s=15)→s=0→Q (wV (0,0)) σ)
  (q3:¬(s=t∨s=15)→s=14→∀σ' b,Gw σ σ'→(b=true↔(isRef t=true∨isOpt t=true∨(isVar t=true∧Sure m t)))→Q (wV (if b=true then (2,8) else (0,0))) σ')
  (q4:s≠t→Tq m s→wpSs (C (n+4)) (f65.body.drop 5) (r65 P s c t none none) σ (rtn Q)):C (n+5) 65 [.loc P.W.w,.int s,cV c,.int t] σ Q:=by
 refine call_eq (m:=f65) rfl rfl ?_
 have nt:=tq_n0 ht
 refine I.wk rfl ⟨lel rfl,?_⟩
 by_cases h1:s=t
 ·exact eqT (eqfT h1) ⟨lel rfl,q1 (.inl h1)⟩
 refine eqF (nat_ne h1) ?_
 by_cases h2:s=15
 ·exact eqT (eqfT h2) ⟨lel rfl,q1 (.inr h2)⟩
 have h12:¬(s=t∨s=15):=fun h=>h.elim h1 h2
 refine eqF (nat_ne h2) ?_
 by_cases h3:s=0
 ·exact eqT (eqfT h3) (q2 h12 h3)
 refine eqF (nat_ne h3) ?_
 by_cases h4:s=14
 ·refine eqT (eqfT h4) (I.wk rfl (I.isref nt.1 ?_))
  have fin:∀σ' b z7,Gw σ σ'→(b=true↔(isRef t=true∨isOpt t=true∨(isVar t=true∧Sure m t)))→wpSs (C (n+4)) [.ret (.ite (.ex (.var 6)) (.tup [(.lit (.int 2)),(.lit (.int 8))]) (.var 5))] (r65 P s c t (some (.bool b)) z7) σ' (rtn Q):=by
   intro σ' b z7 g hb
   have q':=q3 h12 h4 σ' b g hb
   induction b with
   | true=>exact⟨lel rfl,q'⟩
   | false=>exact q'
  cases hr:isRef t with
  | true=>exact fin σ true none (.refl _) ⟨fun Z=>.inl hr,fun Z=>rfl⟩
  | false=>
   refine I.inl (I.lop t nt.1) ?_
   cases ho:isOpt t with
   | true=>exact fin σ true none (.refl _) ⟨fun Z=>.inr (.inl ho),fun Z=>rfl⟩
   | false=>
    refine I.wk rfl (I.inl (I.lfl t) ?_)
    cases hv:isVar t with
    | false=>
     refine fin σ false none (.refl _) ⟨(fun h=>bff h),?_⟩
     rintro(h | h | ⟨h,-⟩)
     ·rw[hr]at h;cases h
     ·rw[ho]at h;cases h
     ·rw[hv]at h;cases h
    | true=>
     refine l_sure I hv fun σ₁ b g hb=>fin σ₁ b none g ?_
     rw[hb]
     constructor
     ·exact fun h=>.inr (.inr ⟨hv,h⟩)
     ·rintro(h | h | ⟨-,h⟩)
      ·rw[hr]at h;cases h
      ·rw[ho]at h;cases h
      ·exact h
 exact eqF (nat_ne h4) (q4 h1 (hs.resolve_right fun h=>h.elim h3 fun h=>h.elim h4 h2))
theorem l_tail (I:Inv m P σ bx) (hs:Tq m s) (ht:Subj t) (hne:s≠t) (hc:c∈cL) (z6 z7:Option V) (q:∀σ',Gw σ σ'→Q (wV (way0 m s c t)) σ') :
  wpSs (C (n+4)) (f65.body.drop 7) (r65 P s c t z6 z7) σ (rtn Q):=by
 have ns:=tq_n0 hs
 have nt:=subj_n0 (m:=m) ht
 refine l_number I fun σ₁ g1=>?_
 rw[num_eq hc hne]
 have I1:=I.gw g1
 have q':=q σ₁ g1
 cases h2:numB s c t with
 | true=>
  rw[way0_n hs hne h2]at q'
  exact⟨lel rfl,q'⟩
 | false=>
  refine I1.wk rfl (I1.inl (I1.lfl t) ?_)
  cases hv:isVar t with
  | true=>
   refine I1.wk rfl (I1.inl (I1.lfl s) ?_)
   cases hvs:isVar s with
   | false=>
    rw[way0_nv hs hne h2 hv (fun h=>ff hvs h.1)]at q'
    exact q'
   | true=>
    refine i_up I1 (.inr hvs) fun σ₂ l out g2 Z el Z hout=>in_nat el ?_
    have q':=q σ₂ (g1.trans g2)
    by_cases hu:t∈out
    ·rw[way0_v hs hne h2 hv ⟨hvs,(hout t).mp hu⟩]at q'
     rw[decide_eq_true hu]
     exact⟨lel rfl,q'⟩
    ·rw[way0_nv hs hne h2 hv (fun h=>hu ((hout t).mpr h.2))]at q'
     rw[decide_eq_false hu]
     exact q'
  | false=>
   refine I1.wk rfl (I1.isref nt.1 ?_)
   cases hr:isRef t with
   | false=>
    rw[way0_nr hs hne h2 hv (fun h=>ff hr h.1)]at q'
    exact q'
   | true=>
    have hss:Subj (strip m s):=by
     unfold strip
     rcases hs with h | ⟨h1,h2⟩
     ·rw[(subj_n0 (m:=m) h).2.1];exact h
     ·rw[h1,if_pos rfl];exact(op_ok h1 h2).2.1
    refine⟨is_dI I1.wa.op,loo_of (I1.lop s ns.1) ?_⟩
    rw[strip_get]
    refine l_ref I1 hss fun σ₂ b g2 hb=>?_
    have q':=q σ₂ (g1.trans g2)
    cases b with
    | false=>
     rw[way0_nr hs hne h2 hv (fun h=>bff (hb.mpr h.2))]at q'
     exact q'
    | true=>
     rw[way0_r hs hne h2 hv ⟨hr,hb.mp rfl⟩]at q'
     have I2:=I1.gw g2
     refine I2.wk rfl (I2.isref ns.1 ?_)
     cases hrs:isRef s with
     | true=>rw[hrs]at q';exact⟨lel rfl,q'⟩
     | false=>rw[hrs]at q';exact⟨lel rfl,q'⟩
theorem l_way0 (I:Inv m P σ bx) (hs:Sq m s) (ht:Subj t) (hc:c∈cL) (q:∀σ',Gw σ σ'→Q (wV (way0 m s c t)) σ'):C (n+5) 65 [.loc P.W.w,.int s,cV c,.int t] σ Q:=by
 have nt:=subj_n0 (m:=m) ht
 refine way_head (n:=n) I hs (.inl ht) (fun h=>?_) (fun h h0=>?_) (fun h h0 σ' b g hb=>?_) (fun hne hq=>?_)
 ·have e:way0 m s c t=(1,10):=by unfold way0;rw[if_pos h]
  have:=q σ (.refl _);rwa [e]at this
 ·have e:way0 m s c t=(0,0):=by unfold way0;rw[if_neg h,if_pos h0]
  have:=q σ (.refl _);rwa [e]at this
 ·have e:way0 m s c t=if b=true then (2,8) else (0,0):=by
   unfold way0;rw[if_neg h,if_neg (by rw[h0];decide),if_pos h0]
   induction b with
   | true=>rw[if_pos (hb.mp rfl),if_pos rfl]
   | false=>rw[if_neg (fun h=>by have:=hb.mpr h;cases this),if_neg (by decide)]
  have:=q σ' g;rwa [e]at this
 ·have lo:=I.lop t nt.1
  rw[nt.2.1,if_neg (by decide)]at lo
  exact in_look lo (in_look lo (l_tail (n:=n) (Q:=Q) I hq ht hne hc none none q))
theorem l_way (I:Inv m P σ bx) (hs:Sq m s) (ht:Tq m t) (hc:c∈cL) (q:∀σ',Gw σ σ'→Q (wV (way m s c t)) σ'):C (n+6) 65 [.loc P.W.w,.int s,cV c,.int t] σ Q:=by
 rcases ht with ht | ⟨hto,htn⟩
 ·rw[way_way0 ht]at q
  exact l_way0 (n:=n+1) I hs ht hc q
 ·have ht:Tq m t:=.inr ⟨hto,htn⟩
  refine way_head (n:=n+1) I hs ht (fun h=>?_) (fun h h0=>?_) (fun h h0 σ' b g hb=>?_) (fun hne hq=>?_)
  ·have e:way m s c t=(1,10):=by unfold way;rw[if_pos h]
   have:=q σ (.refl _);rwa [e]at this
  ·have e:way m s c t=(0,0):=by unfold way;rw[if_neg h,if_pos h0]
   have:=q σ (.refl _);rwa [e]at this
  ·have e:way m s c t=if b=true then (2,8) else (0,0):=by
    unfold way;rw[if_neg h,if_neg (by rw[h0];decide),if_pos h0]
    induction b with
    | true=>rw[if_pos (hb.mp rfl),if_pos rfl]
    | false=>rw[if_neg (fun h=>by have:=hb.mpr h;cases this),if_neg (by decide)]
   have:=q σ' g;rwa [e]at this
  ·have ns:=tq_n0 hq
   have ot:=op_ok hto htn
   have ew:way m s c t=(if isOpt s=true then (if way0 m (op m s) none (op m t)≠(0,0) then (2,9) else (0,0)) else if way0 m s c (op m t)≠(0,0) then (2,6) else (0,0)):=by
    unfold way
    rw[if_neg (by rintro(h | h);exact hne h;exact ns.2.2.2 h),if_neg ns.2.1,if_neg ns.2.2.1,if_pos hto]
   rw[ew]at q
   have lo:=I.lop t htn
   have los:=I.lop s ns.1
   rw[hto,if_pos rfl]at lo
   refine in_look lo (I.inl los ?_)
   have nev:∀(p:Nat×Nat) {σ:Store} {Q:Post},Q (.bool (!decide (p=(0,0)))) σ→cmpR .ne (wV p) (.tup [.int 0,.int 0]) σ Q:=fun p Z Z h=>ne_of (eqfs_w p) h
   cases hso:isOpt s with
   | true=>
    rw[hso,if_pos rfl]at q los
    have os:=op_ok hso ns.1
    refine sub_look los (seq_dI I.wa.op) (sub_look lo (seq_dI I.wa.op) ?_)
    refine l_way0 (c:=none) I (.inl (.inl os.2.1)) ot.2.1 (by decide) fun σ' g=>nev _ ?_
    have q':=q σ' g
    by_cases h:way0 m (op m s) none (op m t)=(0,0)
    ·rw[if_neg (fun h'=>h' h)]at q'
     rw[decide_eq_true h]
     exact q'
    ·rw[if_pos h]at q'
     rw[decide_eq_false h]
     exact⟨lel rfl,q'⟩
   | false=>
    rw[hso,if_neg (by decide)]at q
    refine in_look lo (sub_look lo (seq_dI I.wa.op) ?_)
    refine l_way0 I (.inl hq) ot.2.1 hc fun σ' g=>nev _ ?_
    have q':=q σ' g
    by_cases h:way0 m s c (op m t)=(0,0)
    ·rw[if_neg (fun h'=>h' h)]at q'
     rw[decide_eq_true h]
     exact q'
    ·rw[if_pos h]at q'
     rw[decide_eq_false h]
     exact⟨lel rfl,q'⟩
end
set_option maxRecDepth 20000
noncomputable def apartB (a b:Nat):Bool:=if ¬(2≤a∧a≤10)∨¬(2≤b∧b≤10)∨a=2∨b=2 then false else decide ((rng a).1 < 0)&&((rng b).1==0)&&decide ((rng a).2 < (rng b).2)
theorem apart_eq (a b:Nat):apartB a b=decide (b∈sover a):=by
 by_cases ha:a < 11
 ·by_cases hb:b < 11
  ·have:∀a < 11,∀b < 11,apartB a b=decide (b∈sover a):=by decide +kernel
   exact this a ha b hb
  ·have w:∀a < 11,∀x∈sover a,x < 11:=by decide
   rw[decide_eq_false (fun h=>hb (w a ha b h))]
   exact if_pos (.inr (.inl fun h=>hb (Nat.lt_succ_of_le h.2)))
 ·have e:sover a=[]:=by
   obtain⟨k,rfl⟩:∃k,a=k+11:=⟨a - 11,(Nat.sub_add_cancel (Nat.not_lt.mp ha)).symm⟩
   rfl
  rw[e]
  exact if_pos (.inl fun h=>ha (Nat.lt_succ_of_le h.2))
section
variable {m:Wm}{P:Pl}{σ σ':Store}{bx bx':List Nat}{n x y s i a b:Nat}{c:Option Int}{Q:Post}
theorem l_apart (q:∀σ',Gw σ σ'→Q (.bool (decide (b∈sover a))) σ'):C (n+2) 66 [.int a,.int b] σ Q:=by
 refine call_eq (m:=f66) rfl rfl (i_span fun σ₁ g1=>i_span fun σ₂ g2=>?_)
 have q':=q σ₂ (g1.trans g2)
 rw[←apart_eq]at q'
 unfold apartB at q'
 by_cases h1:2≤a∧a≤10
 ·rw[spanL_num h1]
  by_cases h2:2≤b∧b≤10
  ·rw[spanL_num h2]
   refine seq_tup ⟨lel rfl,eq_of rfl (seq_tup ⟨lel rfl,eq_of rfl ?_⟩)⟩
   by_cases h3:a=2
   ·rw[if_pos (.inr (.inr (.inl h3)))]at q'
    exact eqT (eqfT h3) q'
   ·refine eqF (nat_ne h3) ?_
    by_cases h4:b=2
    ·rw[if_pos (.inr (.inr (.inr h4)))]at q'
     exact eqT (eqfT h4) q'
    ·rw[if_neg (by rintro(h | h | h | h);exact h h1;exact h h2;exact h3 h;exact h4 h)]at q'
     refine eqF (nat_ne h4) (sub_tup (by decide) (lel rfl) rfl (lt_of ?_))
     cases h5:decide ((rng a).1 < 0) with
     | false=>rw[h5]at q';exact q'
     | true=>
      rw[h5]at q'
      refine sub_tup (by decide) (lel rfl) rfl (eq_of rfl ?_)
      cases h6:(rng b).1==0 with
      | false=>rw[h6]at q';exact q'
      | true=>rw[h6]at q';exact sub_tup (by decide) (lel rfl) rfl (sub_tup (by decide) (lel rfl) rfl (lt_of q'))
  ·rw[if_pos (.inr (.inl h2))]at q'
   rw[spanL_no h2]
   exact seq_tup ⟨lel rfl,eq_of rfl (seq_tup ⟨Nat.zero_le _,eq_of rfl q'⟩)⟩
 ·rw[if_pos (.inl h1)]at q'
  rw[spanL_no h1]
  exact seq_tup ⟨Nat.zero_le _,eq_of rfl q'⟩
theorem l_better (I:Inv m P σ bx) (hs:Sq m s) (hx:Tq m x) (hy:Tq m y) (q:∀σ',Gw σ σ'→Q (.int (bet m s x y)) σ'):C (n+7) 67 [.loc P.W.w,.int s,.int x,.int y] σ Q:=by
 refine call_eq (m:=f67) rfl rfl ?_
 unfold bet at q
 have nx:=tq_n0 hx
 have ny:=tq_n0 hy
 by_cases h1:x=y
 ·have:=q σ (.refl _);rw[if_pos h1]at this;exact eqT (eqfT h1) this
 rw[if_neg h1]at q
 refine eqF (nat_ne h1) ?_
 by_cases h2:s=x
 ·have:=q σ (.refl _);rw[if_pos h2]at this;exact eqT (eqfT h2) (eqT (eqfT h2) this)
 rw[if_neg h2]at q
 refine eqF (nat_ne h2) ?_
 by_cases h3:s=y
 ·have:=q σ (.refl _);rw[if_pos h3]at this;exact eqT (eqfT h3) (eqF (nat_ne h2) this)
 rw[if_neg h3]at q
 refine eqF (nat_ne h3) ?_
 refine l_way (n:=n) (c:=none) I (.inl hx) hy (by decide) fun σ₁ g1=>wv_0 (ne_of rfl ?_)
 rw[nat_bne0]
 refine l_way (n:=n) (c:=none) (I.gw g1) (.inl hy) hx (by decide) fun σ₂ g2=>wv_0 (ne_of rfl ?_)
 rw[nat_bne0]
 have I2:=(I.gw g1).gw g2
 have q0:=fun σ' g=>q σ' ((g1.trans g2).trans g)
 generalize decide ((way m x none y).1≠0)=f at q0 ⊢
 generalize decide ((way m y none x).1≠0)=b at q0 ⊢
 clear q
 refine ne_of (r:=f==b) rfl ?_
 by_cases hfb:f=b
 ·subst hfb
  simp only[ne_eq,not_true_eq_false,if_false]at q0
  rw[beq_self_eq_true]
  refine I2.wk rfl ⟨is_dI I2.wa.op,loo_of (I2.lop x nx.1) ?_⟩
  rw[strip_get]
  refine I2.wk rfl ⟨is_dI I2.wa.op,loo_of (I2.lop y ny.1) ?_⟩
  rw[strip_get]
  refine l_apart fun σ₃ g3=>?_
  by_cases h4:strip m y∈sover (strip m x)
  ·rw[decide_eq_true h4]
   have:=q0 σ₃ g3;rw[if_pos h4]at this;exact this
  ·rw[decide_eq_false h4]
   refine l_apart fun σ₄ g4=>?_
   have q1:=q0 σ₄ (g3.trans g4)
   rw[if_neg h4]at q1
   by_cases h5:strip m x∈sover (strip m y)
   ·rw[decide_eq_true h5]
    rw[if_pos h5]at q1;exact q1
   ·rw[decide_eq_false h5]
    rw[if_neg h5]at q1;exact q1
 ·have q1:=q0 σ₂ (.refl _)
  rw[if_pos hfb]at q1
  rw[beq_eq_false_iff_ne.mpr hfb]
  induction f
  ·exact q1
  ·exact q1
theorem eqfs_r (p:Nat×Nat):eqv (wV p) (wV p)=some true:=by
 show some (((p.1:Int)==p.1)&&(((p.2:Int)==p.2)&&true))=_
 rw[beq_self_eq_true,beq_self_eq_true]
 rfl
theorem l_ask (I:Inv m P σ bx) (hs:Sq m s) (hx:Tq m x) (hy:Tq m y) (hc:c∈cL) (q:∀σ' bx',Nx m P [] σ bx σ' bx'→Q (.bool true) σ'):C (n+21) 71 [.loc P.W.w,.loc P.H.i,.int s,cV c,.int x,.int y] σ Q:=by
 refine call_eq (m:=f71) rfl rfl ?_
 refine i_better (n:=n) I hs hx hy fun σ₁ bx₁ N1=>?_
 refine l_better (n:=n+13) N1.inv hs hx hy fun σ₂ g2=>neF rfl ?_
 have N2:=N1.trans (.gw N1.inv g2)
 refine i_better (n:=n) N2.inv hs hy hx fun σ₃ bx₃ N3=>?_
 refine l_better (n:=n+13) N3.inv hs hy hx fun σ₄ g4=>neF rfl ?_
 have N4:=(N2.trans N3).trans (.gw N3.inv g4)
 refine i_better (n:=n) N4.inv hs hy hy fun σ₅ bx₅ N5=>?_
 rw[show bet m s y y=0 by unfold bet;rw[if_pos rfl]]
 have N6:=N4.trans N5
 refine neF rfl (i_of (n:=n+2) N6.inv hs hx fun σ₆ bx₆ N7=>?_)
 refine l_way (n:=n+14) N7.inv hs hx hc fun σ₇ g7=>eq_of (eqfs_r _) ?_
 exact q _ _ ((N6.trans N7).trans (.gw N7.inv g7))
end
set_option maxRecDepth 20000
noncomputable def EvL (Φ:Calls) (ρ:Rho) (σ:Store) (e:ME) (xs:List V):Prop:=∀σ1,Gw σ σ1→∀K:Post,(∀σ2 l,Gw σ1 σ2→σ2[l]?=some (.list xs)→K (.loc l) σ2)→wpE Φ e ρ σ1 K
section
variable {Φ:Calls}{ρ:Rho}{σ σ':Store}{e a b:ME}{xs ys:List V}{l i:Nat}
theorem EvL.mono (h:EvL Φ ρ σ e xs) (g:Gw σ σ'):EvL Φ ρ σ' e xs:=fun σ1 g1 K k=>h σ1 (g.trans g1) K k
theorem EvL.add (ha:EvL Φ ρ σ a xs) (hb:EvL Φ ρ σ b ys) (hl:xs.length+ys.length≤1000000):EvL Φ ρ σ (.bop .add a b) (xs++ys):=fun σ1 g1 K k=>by
 show wpE Φ a ρ σ1 (binK (wpE Φ b) (bopR .add) ρ K)
 exact ha σ1 g1 _ fun σ2 l2 g2 e2=>hb σ2 (g1.trans g2) _ fun σ3 l3 g3 e3=>addL_of (g3 _ _ e2) e3 hl (k _ _ (g2.trans (g3.trans (Gw.push _ _))) (List.getElem?_concat_length ..))
theorem EvL.var (h1:ρ[i]?=some (some (.loc l))) (h2:σ[l]?=some (.list xs)):EvL Φ ρ σ (.var i) xs:=fun σ1 g1 K k=>va_of h1 (k _ _ (.refl _) (g1 _ _ h2))
theorem EvL.to_ {n:Nat}(h:EvL Φ ρ σ e xs) (hn:n < 64) (hl:xs.length≤1000000):EvL Φ ρ σ (.to_ e (.lit (.int (n:Int)))) (xs.take n):=fun σ1 g1 K k=>by
 show wpE Φ e ρ σ1 (binK (wpE Φ (.lit (.int (n:Int)))) toR ρ K)
 exact h σ1 g1 _ fun σ2 l2 g2 e2=>⟨Int.natCast_nonneg _,Int.ofNat_lt.mpr hn,lis_of e2 hl (k _ _ (g2.trans (Gw.push _ _)) (List.getElem?_concat_length ..))⟩
theorem EvL.from_ {n:Nat}(h:EvL Φ ρ σ e xs) (hn:n < 64) (hl:xs.length≤1000000):EvL Φ ρ σ (.from_ e (.lit (.int (n:Int)))) (xs.drop n):=fun σ1 g1 K k=>by
 show wpE Φ e ρ σ1 (binK (wpE Φ (.lit (.int (n:Int)))) fromR ρ K)
 exact h σ1 g1 _ fun σ2 l2 g2 e2=>⟨Int.natCast_nonneg _,Int.ofNat_lt.mpr hn,lis_of e2 hl (k _ _ (g2.trans (Gw.push _ _)) (List.getElem?_concat_length ..))⟩
theorem sub_dS {w c:Nat}{kvs:List (Nat×V)}{v:V}{Q:Post}(h:σ[w]?=some (.dS kvs)) (h2:agets kvs c=some v) (q:Q v σ):subR (.loc w) (.str c) σ Q:=
 sub_look ((loo_dS h).trans (congrArg some h2)) (seq_no h rfl) q
theorem EvL.key {w c:Nat}{kvs:List (Nat×V)}(h1:ρ[i]?=some (some (.loc w))) (h2:σ[w]?=some (.dS kvs)) (h3:agets kvs c=some (.loc l)) (h4:σ[l]?=some (.list xs)):EvL Φ ρ σ (.sub (.var i) (.lit (.str c))) xs:=fun σ1 g1 K k=>by
 show wpE Φ (.var i) ρ σ1 (binK (wpE Φ (.lit (.str c))) subR ρ K)
 exact va_of h1 (sub_dS (g1 _ _ h2) h3 (k _ _ (.refl _) (g1 _ _ h4)))
theorem EvL.keys {w c:Nat}{kvs:List (Nat×V)}{ks:List Nat}{f:Nat→V}(h1:ρ[i]?=some (some (.loc w))) (h2:σ[w]?=some (.dS kvs)) (h3:agets kvs c=some (.loc l)) (h4:σ[l]?=some (.dI (ks.map fun k:Nat=>((k:Int),f k)))) (hl:ks.length≤1000000):EvL Φ ρ σ (.listOf (.sub (.var i) (.lit (.str c)))) (natL ks):=fun σ1 g1 K k=>by
 show wpE Φ (.var i) ρ σ1 (binK (wpE Φ (.lit (.str c))) subR ρ (lofK K))
 refine va_of h1 (sub_dS (g1 _ _ h2) h3 (its_dict (g1 _ _ h4) ?_))
 rw[List.map_map]
 exact⟨by rw[List.length_map];exact hl,k _ _ (Gw.push _ _) (List.getElem?_concat_length ..)⟩
end
noncomputable def p0 (m:Wm):List Nat:=[26,27,28,29]++refL.take 7++(optL m).drop 6
noncomputable def p1 (m:Wm):List Nat:=numL++[24,25]++optL m
noncomputable def p2 (m:Wm):List Nat:=[26,27,28,29]++refL.drop 7++refL.take 1
noncomputable def p3 (m:Wm):List Nat:=[26,27,28,29]++(numL++[24,25])++optL m++refL
theorem natL_take (l:List Nat) (n:Nat):(natL l).take n=natL (l.take n):=by simp[natL,List.map_take]
theorem natL_dropn (l:List Nat) (n:Nat):(natL l).drop n=natL (l.drop n):=by simp[natL,List.map_drop]
section
variable {m:Wm}{P:Pl}{σ σ':Store}{bx:List Nat}{n k i a b:Nat}{c:Option Int}{Q:Post}
theorem lap {α:Type}{a b:List α}{m n k:Nat}(ha:a.length≤m) (hb:b.length≤n) (h:m+n≤k):(a++b).length≤k:=by
 rw[List.length_append]
 exact Nat.le_trans (Nat.add_le_add ha hb) h
theorem lapL {α:Type}{a b:List α}{k:Nat}(h:k≤a.length):k≤(a++b).length:=by
 rw[List.length_append]
 exact Nat.le_trans h (Nat.le_add_right _ _)
theorem ldr {α:Type}{a:List α}{m k:Nat}(h:a.length≤m):(a.drop k).length≤m:=by
 rw[List.length_drop]
 exact Nat.le_trans (Nat.sub_le _ _) h
theorem optL_len (m:Wm):(optL m).length≤10∧6≤(optL m).length:=by
 have:=n0_le m
 unfold N0 at this
 rw[show(optL m).length=(ops m).length by unfold optL;rw[List.length_map,List.length_range]]
 exact⟨Nat.le_of_add_le_add_left (a:=40) this.1,Nat.le_of_add_le_add_left (a:=40) this.2⟩
theorem l_pools (I:Inv m P σ bx) (q:∀σ' a b c d,Gw σ σ'→σ'[a]?=some (.list (natL (p0 m)))→σ'[b]?=some (.list (natL (p1 m)))→σ'[c]?=some (.list (natL (p2 m)))→σ'[d]?=some (.list (natL (p3 m)))→Q (.tup [.loc a,.loc b,.loc c,.loc d]) σ') :
  C (n+1) 72 [.loc P.W.w] σ Q:=by
 refine call_eq (m:=f72) rfl rfl ?_
 have ol:=optL_len m
 refine s_asg ?_
 refine EvL.keys (ks:=[26,27,28,29]) (f:=fun k=>.int (flag m k:Int)) (c:=2) (i:=0) rfl I.wa.d rfl I.wa.fl (by decide) σ (.refl _) _ fun σ1 l1 g1 e1=>?_
 have I1:=I.gw g1
 refine s_asg ?_
 refine EvL.keys (ks:=optL m) (f:=fun k=>.int (op m k:Int)) (c:=8) (i:=0) rfl I1.wa.d rfl I1.wa.op (Nat.le_trans ol.1 (by decide)) σ1 (.refl _) _ fun σ2 l2 g2 e2=>?_
 have I2:=I1.gw g2
 refine s_asg ?_
 refine EvL.add (EvL.key (i:=0) (c:=12) rfl I2.wa.d rfl I2.wa.nu) (EvL.to_ (n:=2) (EvL.key (i:=0) (c:=11) rfl I2.wa.d rfl I2.wa.pl) (by decide) (by decide)) (by decide) σ2 (.refl _) _ fun σ3 l3 g3 e3=>?_
 have I3:=I2.gw g3
 have e1':=g3 _ _ (g2 _ _ e1)
 have e2':=g3 _ _ e2
 have n3:natL numL++(natL [24,25,7]).take 2=natL (numL++[24,25]):=rfl
 rw[n3]at e3
 have nl:∀l:List Nat,(natL l).length=l.length:=natL_len
 refine s_ret (s_tup (s_cons ?_))
 refine EvL.add (EvL.add (EvL.var (i:=1) rfl e1') (EvL.to_ (n:=7) (EvL.key (i:=0) (c:=4) rfl I3.wa.d rfl I3.wa.re) (by decide) (by decide)) (by decide)) (EvL.from_ (n:=6) (EvL.var (i:=2) rfl e2') (by decide) (by rw[nl];exact Nat.le_trans ol.1 (by decide))) ?_ σ3 (.refl _) _ fun σ4 l4 g4 e4=>?_
 ·exact Nat.le_trans (Nat.add_le_add (Nat.le_refl 11) (ldr (m:=10) (by rw[nl];exact ol.1))) (by decide)
 refine s_cons ?_
 refine EvL.add (EvL.var (i:=3) rfl e3) (EvL.var (i:=2) rfl e2') ?_ σ4 g4 _ fun σ5 l5 g5 e5=>?_
 ·exact Nat.le_trans (Nat.add_le_add (Nat.le_refl 12) (by rw[nl];exact ol.1)) (by decide)
 refine s_cons ?_
 refine EvL.add (EvL.add (EvL.var (i:=1) rfl e1') (EvL.from_ (n:=7) (EvL.key (i:=0) (c:=4) rfl I3.wa.d rfl I3.wa.re) (by decide) (by decide)) (by decide)) (EvL.to_ (n:=1) (EvL.key (i:=0) (c:=4) rfl I3.wa.d rfl I3.wa.re) (by decide) (by decide)) (by decide) σ5 (g4.trans g5) _ fun σ6 l6 g6 e6=>?_
 refine s_cons ?_
 refine EvL.add (EvL.add (EvL.add (EvL.var (i:=1) rfl e1') (EvL.var (i:=3) rfl e3) (by decide)) (EvL.var (i:=2) rfl e2') ?_) (EvL.key (i:=0) (c:=4) rfl I3.wa.d rfl I3.wa.re) ?_ σ6 (g4.trans (g5.trans g6)) _ fun σ7 l7 g7 e7=>?_
 ·exact Nat.le_trans (Nat.add_le_add (Nat.le_refl 16) (by rw[nl];exact ol.1)) (by decide)
 ·exact Nat.le_trans (Nat.add_le_add (lap (m:=16) (n:=10) (k:=26) (by decide) (by rw[nl];exact ol.1) (by decide)) (Nat.le_refl 20)) (by decide)
 simp only[natL_app,natL_take,natL_dropn]at e4 e5 e6 e7
 refine⟨lel rfl,q σ7 l4 l5 l6 l7 (g1.trans (g2.trans (g3.trans (g4.trans (g5.trans (g6.trans g7)))))) ?_ ?_ ?_ e7⟩
 ·exact g7 _ _ (g6 _ _ (g5 _ _ e4))
 ·exact g7 _ _ (g6 _ _ e5)
 ·exact g7 _ _ e6
noncomputable def PoolOk (m:Wm) (p:List Nat):Prop:=(∀k∈p,Tq m k)∧2≤p.length∧p.length≤100
theorem tq_opt (h:k∈optL m):Tq m k:=.inr ((optL_mem m k).mp h)
theorem tq_nv (h:k∈nvL∨isVar k=true):Tq m k:=.inl h
theorem tq_ref (h:k∈refL):Tq m k:=by
 have:∀k∈refL,k∈nvL:=by decide
 exact tq_nv (.inl (this k h))
theorem tq_par (h:k∈[26,27,28,29]):Tq m k:=by
 have:∀k∈[26,27,28,29],isVar k=true:=by decide
 exact tq_nv (.inr (this k h))
theorem tq_pl (h:k∈numL++[24,25]):Tq m k:=by
 have:∀k∈numL++[24,25],k∈nvL:=by decide
 exact tq_nv (.inl (this k h))
theorem pools_ok (m:Wm):PoolOk m (p0 m)∧PoolOk m (p1 m)∧PoolOk m (p2 m)∧PoolOk m (p3 m):=by
 have ol:=optL_len m
 refine⟨⟨fun k h=>?_,?_⟩,⟨fun k h=>?_,?_⟩,⟨fun k h=>?_,?_⟩,⟨fun k h=>?_,?_⟩⟩
 ·unfold p0 at h
  rcases List.mem_append.mp h with h | h
  ·rcases List.mem_append.mp h with h | h
   ·exact tq_par h
   ·exact tq_ref (List.mem_of_mem_take h)
  ·exact tq_opt (List.mem_of_mem_drop h)
 ·exact⟨lapL (by decide),lap (m:=11) (n:=10) (by decide) (ldr ol.1) (by decide)⟩
 ·unfold p1 at h
  rcases List.mem_append.mp h with h | h
  ·exact tq_pl h
  ·exact tq_opt h
 ·exact⟨lapL (by decide),lap (m:=12) (n:=10) (by decide) ol.1 (by decide)⟩
 ·unfold p2 at h
  rcases List.mem_append.mp h with h | h
  ·rcases List.mem_append.mp h with h | h
   ·exact tq_par h
   ·exact tq_ref (List.mem_of_mem_drop h)
  ·exact tq_ref (List.mem_of_mem_take h)
 ·unfold p2;decide
 ·unfold p3 at h
  rcases List.mem_append.mp h with h | h
  ·rcases List.mem_append.mp h with h | h
   ·rcases List.mem_append.mp h with h | h
    ·exact tq_par h
    ·exact tq_pl h
   ·exact tq_opt h
  ·exact tq_ref h
 ·exact⟨lapL (lapL (by decide)),lap (m:=26) (n:=20) (lap (m:=16) (n:=10) (by decide) ol.1 (by decide)) (by decide) (by decide)⟩
end
set_option maxRecDepth 20000
theorem comp_gen {cond:V→Rho→Store→(Bool→Store→Prop)→Prop}{elt:V→Rho→Store→Post→Prop}{src:Store→Prop}{acc:Nat}{ρ:Rho}{Q:Store→Prop}(f:V→V) (hc:∀x σ K,K true σ→cond x ρ σ K) :
  ∀(l:List V) (out:List V) (σ:Store),σ[acc]?=some (.list out)→out.length+l.length≤100000→(∀out',src (σ.set acc (.list out')))→(∀y∈l,∀out' K,K (f y) (σ.set acc (.list out'))→elt y ρ (σ.set acc (.list out')) K)→Q (σ.set acc (.list (out++l.map f)))→compItems cond elt src acc ρ l out σ Q:=by
 intro l
 induction l with
 | nil=>
  intro out σ h1 h2 hs he q
  have e:σ.set acc (.list out)=σ:=by
   apply List.ext_getElem?
   intro j
   by_cases hj:j=acc
   ·subst hj;rw[List.getElem?_set_self (get_lt h1)];exact h1.symm
   ·rw[List.getElem?_set_ne (Ne.symm hj)]
  have:=hs out
  rw[List.map_nil,List.append_nil]at q
  rw[e]at this q
  exact⟨this,h1,q⟩
 | cons y l ih=>
  intro out σ h1 h2 hs he q
  have e:σ.set acc (.list out)=σ:=by
   apply List.ext_getElem?
   intro j
   by_cases hj:j=acc
   ·subst hj;rw[List.getElem?_set_self (get_lt h1)];exact h1.symm
   ·rw[List.getElem?_set_ne (Ne.symm hj)]
  have hs0:=hs out
  rw[e]at hs0
  rw[List.length_cons]at h2
  refine⟨hs0,h1,Nat.le_trans (Nat.le_add_right _ _) (Nat.le_trans h2 (by decide)),hc _ _ _ ?_⟩
  have he0:=he y (.head _) out
  rw[e]at he0
  refine he0 _ ⟨h1,?_⟩
  refine ih (out++[f y]) (σ.set acc (.list (out++[f y]))) (by rw[List.getElem?_set_self (get_lt h1)]) (by rw[List.length_append,List.length_singleton,Nat.add_assoc,Nat.add_comm 1];exact h2) (fun out'=>?_) (fun y' hy' out' K hK=>?_) ?_
  ·rw[List.set_set];exact hs out'
  ·rw[List.set_set]at hK ⊢;exact he y' (.tail _ hy') out' K hK
  ·rw[List.set_set,List.append_assoc];exact q
noncomputable def b73i:List MS:=[(.ifS (.any [(.ex (.cmp .eq (.var 16) (.lit (.int 7)))),(.ex (.cmp .eq (.var 16) (.lit (.int 9))))]) [(.assign 17 (.sub (.tup [(.lit .none),(.lit (.int 0)),(.lit (.int 7)),(.neg (.lit (.int 1))),(.lit (.int 300)),(.lit (.int 70000))]) (.bop .mod (.bop .div (.var 14) (.lit (.int 64))) (.lit (.int 6)))))] [(.ifS (.ex (.cmp .gt (.len (.call 59 [(.var 16)])) (.lit (.int 0)))) [(.assign 17 (.sub (.tup [(.lit .none),(.lit (.int 0))]) (.bop .mod (.bop .div (.var 14) (.lit (.int 64))) (.lit (.int 2)))))] [])]),(.expr (.append (.var 8) (.tup [(.var 16),(.var 17),(.var 3),(.var 15)])))]
noncomputable def b73j:List MS:=[(.assign 12 (.sub (.var 9) (.bop .mod (.var 11) (.lit (.int 4))))),(.assign 13 (.len (.var 12))),(.assign 14 (.sub (.var 10) (.var 11))),(.assign 3 (.sub (.var 12) (.bop .mod (.var 14) (.var 13)))),(.assign 15 (.sub (.var 12) (.bop .mod (.bop .add (.bop .add (.var 14) (.lit (.int 1))) (.bop .mod (.bop .div (.var 14) (.var 13)) (.bop .sub (.var 13) (.lit (.int 1))))) (.var 13)))),(.assign 14 (.bop .div (.bop .div (.var 14) (.var 13)) (.bop .sub (.var 13) (.lit (.int 1))))),(.assign 16 (.sub (.tup [(.lit (.int 14)),(.var 3),(.lit (.int 7)),(.sub (.var 12) (.bop .mod (.bop .div (.var 14) (.lit (.int 8))) (.var 13))),(.lit (.int 0)),(.sub (.var 6) (.bop .mod (.bop .div (.var 14) (.lit (.int 8))) (.len (.var 6)))),(.lit (.int 9)),(.lit (.int 15))]) (.bop .mod (.var 14) (.lit (.int 8))))),(.assign 17 (.lit .none))]++b73i
section
variable {m:Wm}{P:Pl}{σ σ':Store}{bx bx':List Nat}{n k x y s i a b:Nat}{c:Option Int}{Q:Post}
noncomputable def RowV (m:Wm) (v:V):Prop:=∃s c x y,v = .tup [.int (s:Nat),cV c,.int (x:Nat),.int (y:Nat)]∧Sq m s∧c∈cL∧Tq m x∧Tq m y
theorem l_rows (I:Inv m P σ bx) {l:Nat}{rows:List V}{z0 z1 z2 z3 z6 z7 z9 z10 z11 z12 z13 z14 z15 z16 z17 z18:Option V}(h:σ[l]?=some (.list rows)) (tl:P.top≤l) (hr:∀v∈rows,RowV m v) (hn:rows.length≤1000) (q:∀σ',Q (.bool true) σ') :
  wpSs (C (n+21)) (f73.body.drop 10) [z0,z1,z2,z3,some (.loc P.W.w),some (.loc P.H.i),z6,z7,some (.loc l),z9,z10,z11,z12,z13,z14,z15,z16,z17,z18] σ (rtn Q):=by
 refine its_list h ⟨Nat.le_trans hn (by decide),?_⟩
 refine for_gen (all:=rows) (fun d ρ σ'=>(∃z3 z15 z16 z17,ρ=[z0,z1,z2,z3,some (.loc P.W.w),some (.loc P.H.i),z6,z7,some (.loc l),z9,z10,z11,z12,z13,z14,z15,z16,z17,z18])∧∃bx',Nx m P [] σ bx σ' bx') (fun d ρ σ' hh=>?_) ?_ ?_ rows [] _ _ rfl ⟨⟨_,_,_,_,rfl⟩,bx,.refl I⟩
 ·refine Classical.byContradiction fun kk=>?_
  obtain⟨-,bx',N⟩:=hh
  refine kk ?_
  exact(N.hi I tl h).trans h.symm
 ·rintro d v r e ρ σ' ⟨⟨z3,z15,z16,z17,rfl⟩,bx',N⟩ K k1 k2 k3
  refine Classical.byContradiction fun kk=>?_
  obtain⟨s,c,x,y,rfl,hs,hc,hx,hy⟩:=hr v (by rw[e];simp)
  refine kk ?_
  refine⟨rfl,?_⟩
  refine l_ask (n:=n) N.inv hs hx hy hc fun σ₂ bx₂ N2=>?_
  exact k1 _ _ ⟨⟨_,_,_,_,rfl⟩,bx₂,N.trans N2⟩
 ·rintro ρ σ' ⟨⟨z3,z15,z16,z17,rfl⟩,bx',N⟩
  exact q σ'
theorem sub_tupN {vs:List V}{k:Nat}{v:V}(h2:vs.length≤line) (h3:vs[k]?=some v) (q:Q v σ):subR (.tup vs) (.int (k:Int)) σ Q:=sub_tup (Int.natCast_nonneg _) h2 h3 q
theorem at_mod {l:List Nat}(h:0 < l.length) (r:Nat):∃k,(natL l)[r % l.length]?=some (.int (k:Nat))∧k∈l:=by
 have hl:=Nat.mod_lt r h
 refine⟨l[r % l.length],?_,List.getElem_mem hl⟩
 unfold natL
 rw[List.getElem?_map,List.getElem?_eq_getElem hl];rfl
theorem cast_div (r c:Nat):((r:Int) / (c:Int))=((r / c:Nat):Int):=by simp
noncomputable abbrev r73 (P:Pl) (z0:Option V) (nn ln:Nat) (lo lr:Nat) (qq:Nat) (pa pb pc pd ld:Nat) (z3 z11 z12 z13 z14 z15 z16 z17 z18:Option V):Rho:=
 [z0,some (.int (nn:Int)),some (.loc ln),z3,some (.loc P.W.w),some (.loc P.H.i),some (.loc lo),some (.int (qq:Int)),some (.loc lr),some (.tup [.loc pa,.loc pb,.loc pc,.loc pd]),some (.loc ld),z11,z12,z13,z14,z15,z16,z17,z18]
theorem l_draw (I:Inv m P σ bx) {z0 z3 z12 z13 z14 z15 z16 z17 z18:Option V}{nn ln lo lr qq pa pb pc pd ld j:Nat}{drawn:List Nat}{rows:List V}{K:PostS}
  (ha:σ[pa]?=some (.list (natL (p0 m)))) (hb:σ[pb]?=some (.list (natL (p1 m)))) (hc:σ[pc]?=some (.list (natL (p2 m)))) (hd:σ[pd]?=some (.list (natL (p3 m)))) (hld:σ[ld]?=some (.list (natL drawn))) (hlo:σ[lo]?=some (.list (natL (optL m))))
  (hlr:σ[lr]?=some (.list rows)) (hr:∀v∈rows,RowV m v) (hj:j < drawn.length) (hdl:drawn.length≤100) (hrl:rows.length≤1000)
  (q:∀σ' v z3 z12 z13 z14 z15 z16 z17,RowV m v→Kx [lr] σ σ'→σ'[lr]?=some (.list (rows++[v]))→K .nx (r73 P z0 nn ln lo lr qq pa pb pc pd ld z3 (some (.int (j:Int))) z12 z13 z14 z15 z16 z17 z18) σ') :
  wpSs (C (n+1)) b73j (r73 P z0 nn ln lo lr qq pa pb pc pd ld z3 (some (.int (j:Int))) z12 z13 z14 z15 z16 z17 z18) σ K:=by
 have pk:=pools_ok m
 obtain⟨pl,pp,hp,hpl,hpool⟩:∃p pl,[V.loc pa,V.loc pb,V.loc pc,V.loc pd][j % 4]?=some (.loc pl)∧σ[pl]?=some (.list (natL p))∧PoolOk m p:=by
  have h4:j % 4=0∨j % 4=1∨j % 4=2∨j % 4=3:=(by decide:∀i,i < 4→i=0∨i=1∨i=2∨i=3) _ (Nat.mod_lt _ (by decide))
  rcases h4 with h | h | h | h <;> rw[h]
  ·exact⟨_,_,rfl,ha,pk.1⟩
  ·exact⟨_,_,rfl,hb,pk.2.1⟩
  ·exact⟨_,_,rfl,hc,pk.2.2.1⟩
  ·exact⟨_,_,rfl,hd,pk.2.2.2⟩
 refine Classical.byContradiction fun kk=>?_
 obtain⟨hp1,hp2,hp3⟩:=hpool
 have cpos:0 < pl.length:=Nat.lt_of_lt_of_le (by decide) hp2
 obtain⟨r,hr0,-⟩:∃r,(natL drawn)[j]?=some (.int (r:Nat))∧True:=⟨drawn[j],by unfold natL;rw[List.getElem?_map,List.getElem?_eq_getElem hj];rfl,trivial⟩
 have nl:∀l:List Nat,(natL l).length=l.length:=natL_len
 have up:(natL pl).length≤line:=by rw[nl];exact Nat.le_trans hp3 (by decide)
 have ud:(natL drawn).length≤line:=by rw[nl];exact Nat.le_trans hdl (by decide)
 obtain⟨x,hx,hxm⟩:=at_mod cpos r
 have cp:(0:Int) < (pl.length:Int):=Int.ofNat_lt.mpr cpos
 have l1:((pl.length:Int) - 1)=((pl.length - 1:Nat):Int):=(Int.ofNat_sub (m:=1) cpos).symm
 have e2:(((r:Int)+1)+(((r:Int) / (pl.length:Int)) % ((pl.length - 1:Nat):Int))) % (pl.length:Int)=(((r+1+r / pl.length % (pl.length - 1)) % pl.length:Nat):Int):=by norm_cast
 obtain⟨y,hy,hym⟩:=at_mod cpos (r+1+r / pl.length % (pl.length - 1))
 have c30:(pl.length:Int) < 2 ^ 30:=by lia
 have cm1:(0:Int) < ((pl.length - 1:Nat):Int):=Int.ofNat_lt.mpr (Nat.sub_pos_of_lt hp2)
 have cm30:((pl.length - 1:Nat):Int) < 2 ^ 30:=Int.lt_of_le_of_lt (Int.ofNat_le.mpr (Nat.sub_le ..)) c30
 obtain⟨r2,er2⟩:∃r2:Nat,r / pl.length / (pl.length - 1)=r2:=⟨_,rfl⟩
 have e3:(r:Int) / (pl.length:Int) / ((pl.length - 1:Nat):Int)=(r2:Int):=by
  rw[←er2,Int.natCast_ediv,Int.natCast_ediv]
 have ol:=optL_len m
 obtain⟨a,ha',ham⟩:=at_mod cpos (r2 / 8)
 obtain⟨b,hb',hbm⟩:=at_mod (l:=optL m) (Nat.lt_of_lt_of_le (by decide) ol.2) (r2 / 8)
 have c8:(8:Int) < 2 ^ 30:=by decide
 have olp:(0:Int) < ((optL m).length:Int):=Int.ofNat_lt.mpr (Nat.lt_of_lt_of_le (by decide:0 < 6) ol.2)
 have oll:(natL (optL m)).length≤line:=by rw[nl];exact Nat.le_trans ol.1 (by decide)
 refine kk ?_
 obtain⟨s,hs,hsq⟩:∃s:Nat,[V.int 14,V.int (x:Int),V.int 7,V.int (a:Int),V.int 0,V.int (b:Int),V.int 9,V.int 15][r2 % 8]?=some (.int (s:Int))∧Sq m s:=by
  have h8:r2 % 8=0∨r2 % 8=1∨r2 % 8=2∨r2 % 8=3∨r2 % 8=4∨r2 % 8=5∨r2 % 8=6∨r2 % 8=7:=(by decide:∀i,i < 8→i=0∨i=1∨i=2∨i=3∨i=4∨i=5∨i=6∨i=7) _ (Nat.mod_lt _ (by decide))
  have nv7:Tq m 7:=tq_nv (.inl (by decide))
  have nv9:Tq m 9:=tq_nv (.inl (by decide))
  rcases h8 with h | h | h | h | h | h | h | h <;> rw[h]
  ·exact⟨14,rfl,.inr (.inr (.inl rfl))⟩
  ·exact⟨x,rfl,.inl (hp1 x hxm)⟩
  ·exact⟨7,rfl,.inl nv7⟩
  ·exact⟨a,rfl,.inl (hp1 a ham)⟩
  ·exact⟨0,rfl,.inr (.inl rfl)⟩
  ·exact⟨b,rfl,.inl (tq_opt hbm)⟩
  ·exact⟨9,rfl,.inl nv9⟩
  ·exact⟨15,rfl,.inr (.inr (.inr rfl))⟩
 have eV:∀c:Option Int,c∈cL→RowV m (.tup [.int (s:Int),cV c,.int (x:Int),.int (y:Int)]):=fun c hc=>⟨s,c,x,y,rfl,hsq,hc,hp1 x hxm,hp1 y hym⟩
 have fin:∀(σ':Store) (c:Option Int),Gw σ σ'→c∈cL→wpSs (C (n+1)) (b73i.drop 1) (r73 P z0 nn ln lo lr qq pa pb pc pd ld (some (.int (x:Int))) (some (.int (j:Int))) (some (.loc pp)) (some (.int (pl.length:Int))) (some (.int (r2:Int))) (some (.int (y:Int))) (some (.int (s:Int))) (some (cV c)) z18) σ' K:=by
  intro σ' c g hc
  have l1:=g _ _ hlr
  have kk:Kx [lr] σ' (σ'.set lr (.list (rows++[.tup [.int (s:Int),cV c,.int (x:Int),.int (y:Int)]]))):=Kx.set (.head _)
  exact⟨lat_of l1,lel rfl,app_of l1 (Nat.le_trans hrl (by decide)) (q _ (.tup [.int (s:Int),cV c,.int (x:Int),.int (y:Int)]) _ _ _ _ _ _ _ (eV c hc) ((Kx.gw g).trans kk) (set_self l1))⟩
 have c64:(64:Int) < 2 ^ 30:=by decide
 obtain⟨c1,hc1,hcm1⟩:∃c,[V.none,V.int 0,V.int 7,V.int (-1),V.int 300,V.int 70000][r2 / 64 % 6]?=some (cV c)∧c∈cL:=by
  have h6:r2 / 64 % 6=0∨r2 / 64 % 6=1∨r2 / 64 % 6=2∨r2 / 64 % 6=3∨r2 / 64 % 6=4∨r2 / 64 % 6=5:=(by decide:∀i,i < 6→i=0∨i=1∨i=2∨i=3∨i=4∨i=5) _ (Nat.mod_lt _ (by decide))
  rcases h6 with h | h | h | h | h | h <;> rw[h]
  ·exact⟨none,rfl,by decide⟩
  ·exact⟨some 0,rfl,by decide⟩
  ·exact⟨some 7,rfl,by decide⟩
  ·exact⟨some (-1),rfl,by decide⟩
  ·exact⟨some 300,rfl,by decide⟩
  ·exact⟨some 70000,rfl,by decide⟩
 obtain⟨c2,hc2,hcm2⟩:∃c,[V.none,V.int 0][r2 / 64 % 2]?=some (cV c)∧c∈cL:=by
  have h2:r2 / 64 % 2=0∨r2 / 64 % 2=1:=Nat.mod_two_eq_zero_or_one _
  rcases h2 with h | h <;> rw[h]
  ·exact⟨none,rfl,by decide⟩
  ·exact⟨some 0,rfl,by decide⟩
 refine mod_of (by decide) (sub_tupN (k:=j % 4) (lel rfl) hp (seq_list hpl ⟨up,?_⟩))
 rw[nl]
 refine sub_list hld ud hr0 ?_
 dsimp only[r73,List.set_cons_zero,List.set_cons_succ]
 refine mod_of cp (sub_list (k:=r % pl.length) hpl up hx ?_)
 dsimp only[r73,List.set_cons_zero,List.set_cons_succ]
 refine add_of (div_of cp c30 (sbt_of ?_))
 rw[l1]
 refine mod_of cm1 (add_of (mod_of cp ?_))
 rw[e2]
 refine sub_list hpl up hy ?_
 dsimp only[r73,List.set_cons_zero,List.set_cons_succ]
 refine div_of cp c30 (sbt_of ?_)
 rw[l1]
 refine div_of cm1 cm30 ?_
 rw[e3]
 dsimp only[r73,List.set_cons_zero,List.set_cons_succ]
 refine div_of (by decide) c8 (mod_of cp (sub_list (k:=r2 / 8 % pl.length) hpl up ha' (div_of (by decide) c8 (seq_list hlo ⟨oll,?_⟩))))
 rw[nl]
 refine mod_of olp (sub_list (k:=r2 / 8 % (optL m).length) hlo oll hb' ⟨lel rfl,mod_of (by decide) (sub_tupN (k:=r2 % 8) (lel rfl) hs ?_)⟩)
 dsimp only[r73,List.set_cons_zero,List.set_cons_succ]
 have all:wpSs (C (n+1)) b73i (r73 P z0 nn ln lo lr qq pa pb pc pd ld (some (.int (x:Int))) (some (.int (j:Int))) (some (.loc pp)) (some (.int (pl.length:Int))) (some (.int (r2:Int))) (some (.int (y:Int))) (some (.int (s:Int))) (some .none) z18) σ K:=by
  by_cases h7:s=7
  ·exact eqT (eqfT h7) ⟨lel rfl,div_of (by decide) c64 (mod_of (by decide) (sub_tupN (k:=r2 / 64 % 6) (lel rfl) hc1 (fin σ c1 (.refl _) hcm1)))⟩
  ·refine eqF (nat_ne h7) ?_
   by_cases h9:s=9
   ·exact eqT (eqfT h9) ⟨lel rfl,div_of (by decide) c64 (mod_of (by decide) (sub_tupN (k:=r2 / 64 % 6) (lel rfl) hc1 (fin σ c1 (.refl _) hcm1)))⟩
   ·refine eqF (nat_ne h9) (i_span fun σ₁ g1=>seq_tup ⟨by unfold spanL;split <;> exact lel rfl,gt_of ?_⟩)
    cases hsp:decide ((0:Int) < ((spanL s).length:Int)) with
    | true=>exact⟨lel rfl,div_of (by decide) c64 (mod_of (by decide) (sub_tupN (k:=r2 / 64 % 2) (lel rfl) hc2 (fin σ₁ c2 g1 hcm2)))⟩
    | false=>exact fin σ₁ none g1 (by decide)
 exact all
end
set_option maxRecDepth 20000
section
variable {m:Wm}{P:Pl}{σ σ' σ'':Store}{n k x y i a:Nat}{c:Option Int}{Q:Post}
noncomputable def numsOf (ns:List Int):List Nat:=(ns.take 8).map fun i=>(i % 1000000007).toNat
noncomputable def fmod (v:V):V:=match v with
 | .int i=>.int (i % 1000000007)
 | v=>v
theorem nums_map (ns:List Int):((ns.map V.int).take 8).map fmod=natL (numsOf ns):=by
 unfold natL numsOf
 rw[←List.map_take,List.map_map,List.map_map]
 apply List.map_congr_left
 intro i _
 show V.int (i % 1000000007)=V.int (((i % 1000000007).toNat:Nat):Int)
 have:=Int.emod_nonneg i (show(1000000007:Int)≠0 by decide)
 congr 1;exact(Int.toNat_of_nonneg this).symm
theorem nums_lt (ns:List Int):∀x∈numsOf ns,x < 1000000007:=by
 intro x hx
 obtain⟨i,-,rfl⟩:=List.mem_map.mp hx
 have h1:=Int.emod_nonneg i (show(1000000007:Int)≠0 by decide)
 have h2:=Int.emod_lt_of_pos i (show(0:Int) < 1000000007 by decide)
 exact(Int.toNat_lt h1).mpr h2
theorem nums_len (ns:List Int):(numsOf ns).length≤8:=by
 unfold numsOf
 rw[List.length_map,List.length_take];exact Nat.min_le_left _ _
noncomputable def RLaw (n:Nat):Prop:=∀(nn:Nat) (σ:Store) (Q:Post),nn < 1000000007→(∀σ' m P,Gw σ σ'→Inv m P σ' []→(∀i∈P.mut,σ.length≤i)→Q (.tup [.loc P.W.w,.loc P.H.i]) σ')→C (n+21) 70 [.int nn] σ Q
inductive RsI (m:Wm) (P:Pl) (z0 z18:Option V) (nn ln lo lr qq pa pb pc pd ld:Nat) (σ5:Store) (d:List Nat):Rho→Store→Prop
 | mk {z3 z11 z12 z13 z14 z15 z16 z17:Option V} {σ':Store} {rows':List V} (kx:Kx [lr] σ5 σ') (tl:P.top≤σ'.length) (h1:σ'[lr]?=some (.list rows')) (h2:∀v∈rows',RowV m v) (h3:rows'.length=3+d.length) :
   RsI m P z0 z18 nn ln lo lr qq pa pb pc pd ld σ5 d (r73 P z0 nn ln lo lr qq pa pb pc pd ld z3 z11 z12 z13 z14 z15 z16 z17 z18) σ'
inductive NnI (l:List Int) (σ1:Store):Rho→Store→Prop
 | mk {nn:Nat} {z3:Option V} (h:nn < 1000000007):NnI l σ1 [some (.ext l),some (.int (nn:Int)),some (.loc 1),z3,none,none,none,none,none,none,none,none,none,none,none,none,none,none,none] σ1
theorem NnI.src {l:List Int}{σ1:Store}{ρ:Rho}(h:NnI l σ1 ρ σ):σ=σ1:=by cases h;rfl
theorem rows_ne {xs r:List V}{l:List Nat}{P:Prop}(h:some (O.list (V.tup xs :: r))=some (O.list (natL l))):P:=by
 induction l with
 | nil=>cases h
 | cons a l=>cases h
theorem l_rest (I:Inv m P σ []) {ns:List Int}{nn ln:Nat}{z0 z3 z6 z7 z8 z9 z10 z11 z12 z13 z14 z15 z16 z17 z18:Option V}(hln:σ[ln]?=some (.list (natL (numsOf ns)))) (hmut:ln∉P.mut) (q:∀σ',Q (.bool true) σ') :
  wpSs (C (n+21)) (f73.body.drop 4) [z0,some (.int (nn:Int)),some (.loc ln),z3,some (.loc P.W.w),some (.loc P.H.i),z6,z7,z8,z9,z10,z11,z12,z13,z14,z15,z16,z17,z18] σ (rtn Q):=by
 have ol:=optL_len m
 have nl:∀l:List Nat,(natL l).length=l.length:=natL_len
 refine s_asg ?_
 refine EvL.keys (ks:=optL m) (f:=fun k=>.int (op m k:Int)) (c:=8) (i:=4) rfl I.wa.d rfl I.wa.op (Nat.le_trans ol.1 (by decide)) σ (.refl _) _ fun σ1 lo g1 e1=>?_
 have I1:=I.gw g1
 obtain⟨qq,hqq,hqm⟩:=at_mod (l:=optL m) (Nat.lt_of_lt_of_le (by decide) ol.2) nn
 have olp:(0:Int) < ((optL m).length:Int):=Int.ofNat_lt.mpr (Nat.lt_of_lt_of_le (by decide:0 < 6) ol.2)
 have oll:(natL (optL m)).length≤line:=by rw[nl];exact Nat.le_trans ol.1 (by decide)
 refine seq_list e1 ⟨oll,?_⟩
 rw[nl]
 refine mod_of olp (sub_list (k:=nn % (optL m).length) e1 oll hqq ?_)
 have qo:=(optL_mem m qq).mp hqm
 have lop:=I1.lop qq qo.2
 rw[qo.1,if_pos rfl]at lop
 refine I1.wk rfl (sub_look lop (seq_dI I1.wa.op) ⟨lel rfl,I1.wk rfl (sub_look lop (seq_dI I1.wa.op) ⟨lel rfl,I1.wk rfl (its_dict I1.wa.fl ⟨lel rfl,?_⟩)⟩)⟩)
 obtain⟨pp,hpp,hpm⟩:=at_mod (l:=[26,27,28,29]) (by decide) nn
 have hpp:(natL [26,27,28,29])[nn % 4]?=some (.int (pp:Int)):=hpp
 obtain⟨σ2,eσ2⟩:∃σ2,σ1++[O.list (natL [26,27,28,29])]=σ2:=⟨_,rfl⟩
 have e2:σ2[σ1.length]?=some (.list (natL [26,27,28,29])):=by rw[←eσ2];exact List.getElem?_concat_length ..
 have g2:Gw σ1 σ2:=by rw[←eσ2];exact Gw.push _ _
 have I2:=I1.gw g2
 have g12:=g1.trans g2
 rw[show σ1++[O.list (List.map (fun p=>V.int p.1) (List.map (fun k:Nat=>((k:Int),V.int (flag m k:Int))) [26,27,28,29]))]=σ2 from eσ2]
 refine mod_of (by decide) (sub_list (k:=nn % 4) e2 (lel rfl) hpp ⟨lel rfl,lel rfl,?_⟩)
 obtain⟨rows,erows⟩:∃rows:List V,rows=[V.tup [V.int qq,V.none,V.int qq,V.int (op m qq)],V.tup [V.int 14,V.none,V.int (op m qq),V.int qq],V.tup [V.int 14,V.none,V.int pp,V.int 12]]:=⟨_,rfl⟩
 have tq:Tq m qq:=.inr qo
 have top:Tq m (op m qq):=.inl (op_ok qo.1 qo.2).2.1
 have hrows:∀v∈rows,RowV m v:=by
  rw[erows]
  intro v hv
  simp only[List.mem_cons,List.not_mem_nil,or_false]at hv
  rcases hv with rfl | rfl | rfl
  ·exact⟨qq,none,qq,op m qq,rfl,.inl tq,by decide,tq,top⟩
  ·exact⟨14,none,op m qq,qq,rfl,.inr (.inr (.inl rfl)),by decide,top,tq⟩
  ·exact⟨14,none,pp,12,rfl,.inr (.inr (.inl rfl)),by decide,tq_par hpm,tq_ref (by decide)⟩
 have hrl:rows.length=3:=by rw[erows];rfl
 obtain⟨σ3,eσ3⟩:∃σ3,σ2++[O.list rows]=σ3:=⟨_,rfl⟩
 have g3:Gw σ2 σ3:=by rw[←eσ3];exact Gw.push _ _
 have hlr:σ3[σ2.length]?=some (.list rows):=by rw[←eσ3];simp
 have I3:=I2.gw g3
 rw[show σ2++[O.list [V.tup [V.int qq,V.none,V.int qq,V.int (op m qq)],V.tup [V.int 14,V.none,V.int (op m qq),V.int qq],V.tup [V.int 14,V.none,V.int pp,V.int 12]]]=σ3 by rw[←erows];exact eσ3]
 dsimp only[r73,List.set_cons_zero,List.set_cons_succ]
 refine l_pools I3 fun σ4 pa pb pc pd g4 ha hb hc hd=>?_
 have I4:=I3.gw g4
 have gall:=g12.trans (g3.trans g4)
 have hln4:=gall _ _ hln
 have d3:(nn:Int) / 3+121=((nn / 3+121:Nat):Int):=rfl
 have d7:(nn:Int) / 7+228=((nn / 7+228:Nat):Int):=rfl
 have d11:(nn:Int) / 11+8=((nn / 11+8:Nat):Int):=rfl
 have nll:=nums_len ns
 have unl:(natL (numsOf ns)).length≤100:=by rw[nl];exact Nat.le_trans nll (by decide)
 have hln5:=Gw.push σ4 (.list [V.int ((nn / 3+121:Nat):Int),V.int ((nn / 7+228:Nat):Int),V.int ((nn / 11+8:Nat):Int)]) _ _ hln4
 have hl5:(σ4++[O.list [V.int ((nn / 3+121:Nat):Int),V.int ((nn / 7+228:Nat):Int),V.int ((nn / 11+8:Nat):Int)]])[σ4.length]?=some (.list [V.int ((nn / 3+121:Nat):Int),V.int ((nn / 7+228:Nat):Int),V.int ((nn / 11+8:Nat):Int)]):=by simp
 refine div_of (by decide) (by decide) (add_of ?_)
 rw[d3]
 refine div_of (by decide) (by decide) (add_of ?_)
 rw[d7]
 refine div_of (by decide) (by decide) (add_of ?_)
 rw[d11]
 refine⟨lel rfl,addL_of hl5 hln5 (by rw[nl];exact Nat.le_trans (Nat.add_le_add_left nll 3) (by decide)) ?_⟩
 obtain⟨drawn,edr⟩:∃drawn:List Nat,drawn=(nn / 3+121) :: (nn / 7+228) :: (nn / 11+8) :: numsOf ns:=⟨_,rfl⟩
 have edn:(V.int ((nn / 3+121:Nat):Int) :: V.int ((nn / 7+228:Nat):Int) :: V.int ((nn / 11+8:Nat):Int) :: natL (numsOf ns))=natL drawn:=by rw[edr];rfl
 have edl:drawn.length≤11:=by rw[edr];exact Nat.add_le_add_right nll 3
 rw[show([V.int ((nn / 3+121:Nat):Int),V.int ((nn / 7+228:Nat):Int),V.int ((nn / 11+8:Nat):Int)]++natL (numsOf ns))=natL drawn from edn]
 obtain⟨ld,eld⟩:∃ld,(σ4++[O.list [V.int ((nn / 3+121:Nat):Int),V.int ((nn / 7+228:Nat):Int),V.int ((nn / 11+8:Nat):Int)]]).length=ld:=⟨_,rfl⟩
 obtain⟨σ5,eσ5⟩:∃σ5,σ4++[O.list [V.int ((nn / 3+121:Nat):Int),V.int ((nn / 7+228:Nat):Int),V.int ((nn / 11+8:Nat):Int)]]++[O.list (natL drawn)]=σ5:=⟨_,rfl⟩
 have g5:Gw σ4 σ5:=by rw[←eσ5];exact(Gw.push _ _).trans (Gw.push _ _)
 have hld:σ5[ld]?=some (.list (natL drawn)):=by rw[←eσ5,←eld];simp
 rw[eσ5,eld]
 have I5:=I4.gw g5
 have ha5:=g5 _ _ ha
 have hb5:=g5 _ _ hb
 have hc5:=g5 _ _ hc
 have hd5:=g5 _ _ hd
 have hlo5:=g5 _ _ (g4 _ _ (g3 _ _ (g2 _ _ e1)))
 have hlr5:=g5 _ _ (g4 _ _ hlr)
 obtain⟨lr,elr⟩:∃lr,σ2.length=lr:=⟨_,rfl⟩
 rw[elr]at hlr5 ⊢
 have tlr:P.top≤lr:=by rw[←elr];exact I2.len
 have ne:∀{l:List Nat} {j:Nat},σ5[j]?=some (.list (natL l))→j≠lr:=by
  intro l j h e
  rw[e,hlr5,erows]at h
  exact rows_ne h
 dsimp only[r73,List.set_cons_zero,List.set_cons_succ]
 refine seq_list hld ⟨by rw[nl];exact Nat.le_trans edl (by decide),?_⟩
 rw[nl]
 refine⟨⟨Int.natCast_nonneg _,Int.ofNat_le.mpr (Nat.le_trans edl (by decide))⟩,?_⟩
 show forItems _ _ (natL (List.range drawn.length)) _ _ _
 refine for_nat (RsI m P z0 z18 nn ln lo lr qq pa pb pc pd ld σ5) (fun d ρ σ' h=>trivial) ?_ ?_ (.mk (.refl _ _) I5.len hlr5 hrows (by rw[hrl];rfl))
 ·rintro d y r e ρ σ' ⟨kx,tl,h1,h2,h3⟩ K k1 k2 k3
  have hy:y∈List.range drawn.length:=by rw[e];simp
  have hyl:=List.mem_range.mp hy
  have hdl:d.length+(r.length+1)=drawn.length:=by
   have:=congrArg List.length e
   rw[List.length_range,List.length_append]at this
   exact this.symm
  have I':=I5.kx kx (all1 tlr) tl
  have kk:∀{l:List Nat} {j:Nat},σ5[j]?=some (.list (natL l))→σ'[j]?=some (.list (natL l)):=fun h=>kx _ _ (by rw[List.mem_singleton];exact ne h) h
  show wpSs (C (n+20+1)) b73j (r73 P z0 nn ln lo lr qq pa pb pc pd ld z3 (some (.int (y:Int))) z12 z13 z14 z15 z16 z17 z18) σ' K
  refine l_draw I' (kk ha5) (kk hb5) (kk hc5) (kk hd5) (kk hld) (kk hlo5) h1 h2 hyl (Nat.le_trans edl (by decide)) (by rw[h3];exact Nat.le_trans (Nat.add_le_add_left (Nat.le_trans (Nat.le_trans (Nat.le_add_right _ _) (Nat.le_of_eq hdl)) edl) 3) (by decide)) fun σ'' v z3 z12 z13 z14 z15 z16 z17 hv kx' h'=>?_
  refine k1 _ _ (.mk (kx.trans kx') ?_ h' (fun w hw=>?_) (by rw[List.length_append,List.length_append,h3];rfl))
  ·exact Nat.le_trans tlr (Nat.le_of_lt (get_lt h'))
  ·rcases List.mem_append.mp hw with hw | hw
   ·exact h2 w hw
   ·rw[List.mem_singleton]at hw;subst hw;exact hv
 ·rintro ρ σ' @⟨z3,z11,z12,z13,z14,z15,z16,z17,σ',rows',kx,tl,h1,h2,h3⟩
  have I':=I5.kx kx (all1 tlr) tl
  have:=l_rows (n:=n) (Q:=Q) (z0:=z0) (z1:=some (.int (nn:Int))) (z2:=some (.loc ln)) (z3:=z3) (z6:=some (.loc lo)) (z7:=some (.int (qq:Int))) (z9:=some (.tup [.loc pa,.loc pb,.loc pc,.loc pd])) (z10:=some (.loc ld)) (z11:=z11) (z12:=z12) (z13:=z13) (z14:=z14) (z15:=z15) (z16:=z16) (z17:=z17) (z18:=z18) I' h1 tlr h2 (by rw[h3,List.length_range];exact Nat.le_trans (Nat.add_le_add_left edl 3) (by decide)) q
  exact this
theorem l_law (W:RLaw n) {ns:List Int}(hns:ns.length≤63) (q:∀σ',Q (.bool true) σ'):C (n+22) 73 [.ext ns] [] Q:=by
 refine call_eq (m:=f73) rfl rfl ?_
 have nl:∀l:List Nat,(natL l).length=l.length:=natL_len
 refine⟨by decide,by decide,ext_of (Nat.le_trans hns (by decide)) (its_list rfl ?_)⟩
 refine comp_gen fmod (fun x σ K h=>h) _ [] _ rfl (by rw[List.length_nil,Nat.zero_add,List.length_take];exact Nat.le_trans (Nat.min_le_left _ _) (by decide)) (fun out'=>rfl) (fun y hy out' K hK=>?_) ?_
 ·obtain⟨i,-,rfl⟩:=List.mem_map.mp (List.mem_of_mem_take hy)
  exact mod_of (by decide) hK
 ·rw[show List.take (Int.toNat 8) (ns.map V.int)=(ns.map V.int).take 8 from rfl,nums_map,List.nil_append]
  have nlen:=nums_len ns
  obtain⟨σ1,eσ1⟩:∃σ1,[O.list (List.take 8 (List.map V.int ns)),O.list []].set 1 (O.list (natL (numsOf ns)))=σ1:=⟨_,rfl⟩
  have h1:σ1[1]?=some (.list (natL (numsOf ns))):=by rw[←eσ1];rfl
  have len1:σ1.length=2:=by rw[←eσ1];rfl
  have all:∀Q':PostS,(∀(nn:Nat) z3,nn < 1000000007→Q' .nx [some (.ext ns),some (.int (nn:Int)),some (.loc 1),z3,none,none,none,none,none,none,none,none,none,none,none,none,none,none,none] σ1) →
    forItems (srcOk (.loc 1) σ1) (stpK (wpSs (C (n+21)) [(.assign 1 (.bop .mod (.bop .add (.bop .mul (.var 1) (.lit (.int 31))) (.var 3)) (.lit (.int 1000000007))))]) (.inl 3)) (natL (numsOf ns)) [some (.ext ns),some (.int 0),some (.loc 1),none,none,none,none,none,none,none,none,none,none,none,none,none,none,none,none] σ1 Q':=by
   intro Q' hQ
   refine for_nat (fun Z=>NnI ns σ1) (fun d ρ σ' h=>by rw[h.src];rfl) ?_ ?_ (.mk (nn:=0) (by decide))
   ·rintro d y r e ρ σ' ⟨hnn⟩ K k1 k2 k3
    have hy:=nums_lt ns y (by rw[e];simp)
    have em:((nn:Int) * 31+(y:Int)) % 1000000007=(((nn * 31+y) % 1000000007:Nat):Int):=rfl
    refine mul_of (by rw[Int.natAbs_natCast];exact Nat.lt_trans hnn (by decide)) (by decide) (add_of (mod_of (by decide) ?_))
    rw[em]
    exact k1 _ _ (.mk (Nat.mod_lt _ (by decide)))
   ·rintro ρ σ' ⟨hnn⟩
    exact hQ _ _ hnn
  refine its_list (vs:=natL (numsOf ns)) rfl ⟨by rw[nl];exact Nat.le_trans nlen (by decide),?_⟩
  rw[show List.set ([O.list (List.take 8 (List.map V.int ns))]++[O.list []]) [O.list (List.take 8 (List.map V.int ns))].length (O.list ([]++natL (numsOf ns)))=σ1 from eσ1]
  refine all _ fun nn z3 hnn=>?_
  refine W nn σ1 _ hnn fun σ2 m P g I hm=>?_
  refine⟨rfl,?_⟩
  have h2:=g _ _ h1
  have hmut:(1:Nat)∉P.mut:=fun h=>absurd (len1▸hm 1 h) (by decide)
  exact l_rest (n:=n) (Q:=Q) (ns:=ns) (nn:=nn) (ln:=1) (z0:=some (.ext ns)) (z3:=z3) (z6:=none) (z7:=none) (z8:=none) (z9:=none) (z10:=none) (z11:=none) (z12:=none) (z13:=none) (z14:=none) (z15:=none) (z16:=none) (z17:=none) (z18:=none) I h2 hmut q
end
set_option maxRecDepth 20000
section
variable {m:Wm}{L:KtL}{σ σ':Store}{bx:List Nat}{k x y s i a b:Nat}{c:Option Int}{Q:Post}
noncomputable def rwsK (m:Wm) (k:Nat):List Ky:=(List.range k).map (rowOf m)
noncomputable def KS (m:Wm) (σ:Store) (L:KtL) (k:Nat):Prop:=∃de we op,KtAt σ L (rwsK m k) de we op∧(∀i d,i < 30→de[i]?=some d→d≤5)∧(∀d∈de,d≤10)∧(∀i w,i < 30→we[i]?=some w→w≤5)∧(∀w∈we,w≤10)
noncomputable def mutL (L:KtL):List Nat:=[L.r,L.x,L.de,L.we,L.op]
theorem rwsK_get (h:x < k):(rwsK m k)[x]?=some (rowOf m x):=by simp[rwsK,h]
theorem rwsK_len:(rwsK m k).length=k:=by simp[rwsK]
theorem rwsK_succ:rwsK m (k+1)=rwsK m k++[rowOf m k]:=by simp[rwsK,List.range_succ]
theorem rwsK_nodup (h:k≤N0 m):(rwsK m k).Nodup:=by
 unfold rwsK
 rw[List.Nodup,List.pairwise_map]
 refine List.Pairwise.imp_of_mem (fun ha hb hab e=>hab (rowOf_inj (m:=m) ?_ ?_ e)) List.nodup_range
 ·exact Nat.lt_of_lt_of_le (List.mem_range.mp ha) h
 ·exact Nat.lt_of_lt_of_le (List.mem_range.mp hb) h
theorem rwsK_new (h:k < N0 m):rowOf m k∉rwsK m k:=by
 intro h'
 obtain⟨j,hj,e⟩:=List.mem_map.mp h'
 have hj:=List.mem_range.mp hj
 exact Nat.ne_of_lt hj (rowOf_inj (m:=m) (Nat.lt_trans hj h) h e)
noncomputable def innK (m:Wm) (k:Nat):List Nat:=if k < 30 then [] else if k < 40 then [el m k] else [op m k]
theorem op_lt (h:isOpt k=true) (h2:k < N0 m):op m k < 30∧((1≤op m k∧op m k≤10)∨op m k=24∨op m k=25∨isVar (op m k)=true):=by
 rcases(op_ok h h2).1 with⟨h1,h3⟩ | h
 ·have:∀x∈nvL,isVal x=true→x < 30∧((1≤x∧x≤10)∨x=24∨x=25∨isVar x=true):=by decide
  exact this _ h3 h1
 ·refine⟨?_,.inr (.inr (.inr h))⟩
  exact Nat.lt_succ_of_le (isVar_iff.mp h).2
theorem hl_lt {x:Nat}(h:x∈hl m):x < 30:=by
 rcases hl_cases m x h with h | rfl | rfl | rfl | rfl | rfl | rfl | rfl
 ·exact Nat.lt_succ_of_le (isVar_iff.mp h).2
 all_goals decide
theorem stand_ok (hx:x < 30) (h:(1≤x∧x≤10)∨x=12∨x=16∨x=17∨x=18∨x=19∨x=24∨x=25∨isVar x=true):standR x (rowOf m x)=true:=by
 rw[rowOf_lt hx]
 have:∀x < 30,((1≤x∧x≤10)∨x=12∨x=16∨x=17∨x=18∨x=19∨x=24∨x=25∨isVar x=true)→standR x (rowS x)=true:=by decide
 exact this x hx h
theorem hl_stand {x:Nat}(h:x∈hl m):standR x (rowOf m x)=true:=by
 rw[rowOf_lt (hl_lt h)]
 exact(by decide:∀x < 30,(isVar x=true∨x=12∨x=16∨x=17∨x=18∨x=19∨x=24∨x=7)→standR x (rowS x)=true) x (hl_lt h) (hl_cases m x h)
theorem rowok_of {rows:List Ky}{r:Ky}{l:List Nat}(f:Form r (ci l)) (len:l.length≤1) (st:∀x∈l,∃r',rows[x]?=some r'∧standR x r'=true) (nm:(r.1=2∨r.1=3)→0 < r.2.1∧(agets (cdTab 1) r.2.1).isNone=true) (vr:(r.1=6∨r.1=7)→0≤r.2.1) (bx:r.1≠8):RowOk rows r (ci l):=by
 have s:∀x∈ci l,∃(k:Nat) (r:Ky),x=k∧rows[k]?=some r∧standR k r=true:=fun x hx=>by
  obtain⟨y,hy,e⟩:=List.mem_map.mp hx
  obtain⟨r',h1,h2⟩:=st y hy
  exact⟨y,r',e.symm,h1,h2⟩
 exact⟨f,fun x hx=>by obtain⟨a,b,c,d,_⟩:=s x hx;exact⟨a,b,c,d⟩,by rw[ci,List.length_map];exact Nat.le_trans len (by decide),fun h=>⟨(nm h).1,Option.isNone_iff_eq_none.mp (nm h).2,s⟩,fun Z=>s,vr,fun h=>absurd h bx⟩
noncomputable abbrev rsP (r:Ky):Prop:=(r=(2,r.2.1,some [])∨r=(3,r.2.1,some [])∨r=(6,r.2.1,none)∨r=(7,r.2.1,none))∧0≤r.2.1∧((r.1=2∨r.1=3)→0 < r.2.1∧(agets (cdTab 1) r.2.1).isNone=true)∧r.1≠8
theorem rowS_ok:∀k < 30,16≤k→rsP (rowS k):=by
 have:∀k < 30,decide (16≤k→rsP (rowS k))=true:=by decide +kernel
 exact fun k h=>of_decide_eq_true (this k h)
theorem row_one {x:Nat}(hx:x < k) (hs:standR x (rowOf m x)=true):∀y∈[x],∃r',(rwsK m k)[y]?=some r'∧standR y r'=true:=fun y hy=>by
 rw[List.mem_singleton.mp hy];exact⟨_,rwsK_get hx,hs⟩
theorem row_ok (h16:16≤k) (h:k < N0 m):RowOk (rwsK m k) (rowOf m k) (ci (innK m k))∧(innK m k).length≤1∧∀x∈innK m k,x < 30:=by
 rcases k_cases k with h' | h' | h' | h'
 ·have e:innK m k=[]:=by unfold innK;rw[if_pos h']
  rw[e,rowOf_lt h']
  obtain⟨f,h1,h2,h3⟩:=rowS_ok k h' h16
  refine⟨rowok_of ?_ (Nat.zero_le _) (fun Z h=>nomatch h) h2 (fun Z=>h1) h3,Nat.zero_le _,fun Z h=>nomatch h⟩
  rcases f with f | f | f | f
  ·exact .cls f
  ·exact .val f
  ·exact .var f
  ·exact .mvar f
 ·refine Classical.byContradiction fun kk=>?_
  obtain⟨g1,g2,g3⟩:=face_ge h'
  have h30:=(face_fl h').2.2.2.2.2.2.2.1
  have e:innK m k=[el m k]:=by unfold innK;rw[if_neg h30,if_pos (Nat.lt_of_le_of_lt g2 (by decide))]
  have hm:=(face_nv (m:=m) h').2.2.2.2.2.2.2
  have hl:=hl_lt hm
  refine kk ?_
  rw[e,rowOf_face h']
  exact⟨rowok_of (.cls rfl) (Nat.le_refl _) (row_one (Nat.lt_of_lt_of_le hl g1) (hl_stand hm)) (fun Z=>⟨show(0:Int) < 69 by decide,rfl⟩) (fun Z=>show(0:Int)≤69 by decide) (show(2:Int)≠8 by decide),Nat.le_refl _,fun x hx=>List.mem_singleton.mp hx▸hl⟩
 ·refine Classical.byContradiction fun kk=>?_
  obtain⟨g1,g2,g3⟩:=arr_ge h'
  have h30:=(arr_fl h').2.2.2.2.2.2.2.1
  have e:innK m k=[el m k]:=by unfold innK;rw[if_neg h30,if_pos (Nat.lt_of_le_of_lt g2 (by decide))]
  have hm:=(arr_nv (m:=m) h').2.2.2.2.2.2.2
  have hl:=hl_lt hm
  refine kk ?_
  rw[e,rowOf_arr h']
  exact⟨rowok_of (.arr rfl) (Nat.le_refl _) (row_one (Nat.lt_of_lt_of_le hl (Nat.le_of_not_lt h30)) (hl_stand hm)) (fun h=>(by rcases h with h | h <;> cases h)) (fun h=>(by rcases h with h | h <;> cases h)) (show(4:Int)≠8 by decide),Nat.le_refl _,fun x hx=>List.mem_singleton.mp hx▸hl⟩
 ·have g:=opt_ge h'
  have h30:=(opt_fl h').2.2.2.2.2.2.2.1
  have e:innK m k=[op m k]:=by unfold innK;rw[if_neg h30,if_neg (Nat.not_lt.mpr g)]
  have hm:=op_lt h' h
  rw[e,rowOf_opt h']
  exact⟨rowok_of (.val rfl) (Nat.le_refl _) (row_one (Nat.lt_of_lt_of_le hm.1 (Nat.le_of_not_lt h30)) (stand_ok hm.1 (hm.2.imp (fun h=>h) fun h=>by rcases h with h | h | h <;> simp[h]))) (fun Z=>⟨show(0:Int) < 8 by decide,rfl⟩) (fun Z=>show(0:Int)≤8 by decide) (show(3:Int)≠8 by decide),Nat.le_refl _,fun x hx=>List.mem_singleton.mp hx▸hm.1⟩
theorem s_put (K:KS m σ L k) (h16:16≤k) (h:k < N0 m) {f:Calls→Prop}(q:∀σ',KS m σ' L (k+1)→Kx (mutL L) σ σ'→σ'.length=σ.length→Q (.int (k:Int)) σ') :
  ∃de we op,KtAt σ L (rwsK m k) de we op∧(rwsK m k).Nodup∧PutOk (rwsK m k) de we (rowOf m k) (ci (innK m k))∧PutQ L (rwsK m k) de we op (rowOf m k) (ci (innK m k)) σ Q:=by
 refine Classical.byContradiction fun kk=>?_
 obtain⟨de,we,op,K,d1,d2,w1,w2⟩:=K
 have n0:=n0_le m
 obtain⟨ro,r1,r2⟩:=row_ok h16 h
 refine kk ?_
 refine⟨de,we,op,K,rwsK_nodup (Nat.le_of_lt h),⟨ro,by simpa[ci] using r1,by rw[rwsK_len];exact Nat.le_trans h (Nat.le_trans n0.1 (by decide)),fun d hd=>Int.le_trans (d2 d hd) (by decide),fun w hw=>Int.le_trans (w2 w hw) (by decide)⟩,fun k' hk'=>?_,fun Z σ' d w o K' on dw=>?_⟩
 ·exact absurd (List.mem_of_getElem? hk') (rwsK_new h)
 ·rw[rwsK_len]
  have lv:levelR (rowOf m k).1≤1:=by unfold levelR;split <;> decide
  have lde:=K.lde
  have lwe:=K.lwe
  rw[rwsK_len]at lde lwe
  have dwb:(k < 30→d≤5∧w≤5)∧d≤10∧w≤10:=by
   unfold innK at dw
   by_cases h30:k < 30
   ·rw[if_pos h30]at dw
    have:=dw.1 rfl
    rw[this.1,this.2];exact⟨fun Z=>by decide,by decide,by decide⟩
   ·refine⟨fun h=>absurd h h30,?_⟩
    have hx:∃x,x < 30∧innK m k=[x]:=by
     unfold innK
     rw[if_neg h30]
     split
     ·exact⟨_,r2 _ (by unfold innK;rw[if_neg h30,if_pos (by assumption)];simp),rfl⟩
     ·exact⟨_,r2 _ (by unfold innK;rw[if_neg h30,if_neg (by assumption)];simp),rfl⟩
    obtain⟨x,hx,e⟩:=hx
    unfold innK at e
    rw[e]at dw
    obtain⟨dx,wx,e1,e2,e3,e4⟩:=dw.2 x rfl
    exact⟨Int.le_trans e3 (Int.max_le.mpr ⟨by decide,Int.le_trans (Int.add_le_add (d1 x dx hx e1) lv) (by decide)⟩),e4▸Int.le_trans (Int.add_le_add_left (w1 x wx hx e2) 1) (by decide)⟩
  refine q σ' ⟨de++[d],we++[w],op++[o],by rw[rwsK_succ];exact K',fun i' d' hi he=>?_,fun d' hd'=>?_,fun i' w' hi he=>?_,fun w' hw'=>?_⟩ (fun i' o' hi e=>(on.2 i' hi).trans e) on.1
  ·by_cases hik:i' < k
   ·rw[List.getElem?_append_left (by rw[lde];exact hik)]at he;exact d1 i' d' hi he
   ·have:i'=k:=Nat.le_antisymm (Nat.le_of_lt_succ (by have:=get_lt he;rwa [List.length_append,lde]at this)) (Nat.le_of_not_lt hik)
    subst this
    rw[List.getElem?_append_right (Nat.le_of_eq lde),lde]at he
    simp at he;subst he;exact(dwb.1 hi).1
  ·rcases List.mem_append.mp hd' with hd' | hd'
   ·exact d2 d' hd'
   ·rw[List.mem_singleton]at hd';subst hd';exact dwb.2.1
  ·by_cases hik:i' < k
   ·rw[List.getElem?_append_left (by rw[lwe];exact hik)]at he;exact w1 i' w' hi he
   ·have:i'=k:=Nat.le_antisymm (Nat.le_of_lt_succ (by have:=get_lt he;rwa [List.length_append,lwe]at this)) (Nat.le_of_not_lt hik)
    subst this
    rw[List.getElem?_append_right (Nat.le_of_eq lwe),lwe]at he
    simp at he;subst he;exact(dwb.1 hi).2
  ·rcases List.mem_append.mp hw' with hw' | hw'
   ·exact w2 w' hw'
   ·rw[List.mem_singleton]at hw';subst hw';exact dwb.2.2
end
set_option maxRecDepth 20000
section
variable {m:Wm}{σ σ':Store}{n k x y t i a b:Nat}{c:Option Int}{Q:Post}
theorem gk (σ t:Store) (i:Nat):(σ++t)[σ.length+i]?=t[i]?:=by
 rw[List.getElem?_append_right (Nat.le_add_right ..),Nat.add_sub_cancel_left]
theorem g0 (σ t:Store):(σ++t)[σ.length]?=t[0]?:=gk σ t 0
theorem sk (σ t:Store) (i:Nat) (o:O):(σ++t).set (σ.length+i) o=σ++t.set i o:=by
 rw[List.set_append_right _ _ (Nat.le_add_right ..),Nat.add_sub_cancel_left]
theorem s00 (σ t:Store) (o:O):(σ++t).set σ.length o=σ++t.set 0 o:=sk σ t 0 o
theorem lnk (σ t:Store):(σ++t).length=σ.length+t.length:=by simp
noncomputable def rk (i:Nat):List Ky:=(List.range i).map fun k:Nat=>(1,(k:Int),none)
noncomputable def ktF (σ:Store):List (Nat×V):=[(0,.loc (σ.length+2)),(1,.loc (σ.length+3)),(2,.loc (σ.length+4)),(3,.loc (σ.length+5)),(4,.loc (σ.length+6))]
noncomputable def ktS (σ:Store) (j:Nat):Store:=σ++[.ns (ktF σ),.inst 0 σ.length,.list ((rk j).map kyV),.dT ((rk j).zipIdx.map fun p=>(p.1,.int (p.2:Int))),.list ((List.replicate j (1:Int)).map .int),.list ((List.replicate j (1:Int)).map .int),.list ((List.replicate j (0:Int)).map .int)]
noncomputable def Lk (σ:Store):KtL:=⟨σ.length+1,σ.length,σ.length+2,σ.length+3,σ.length+4,σ.length+5,σ.length+6⟩
theorem rk_succ (j:Nat):rk (j+1)=rk j++[(1,(j:Int),none)]:=by simp[rk,List.range_succ]
theorem rk_new (j:Nat):((1,(j:Int),none):Ky)∉rk j:=by
 intro h
 obtain⟨i,hi,e⟩:=List.mem_map.mp h
 have:=List.mem_range.mp hi
 simp only[Prod.mk.injEq,and_true,true_and]at e
 exact Nat.ne_of_lt this (Int.ofNat.inj e)
theorem rk_len (j:Nat):(rk j).length=j:=by simp[rk]
theorem rep_snoc (j:Nat) (a:Int):(List.replicate j a).map V.int++[V.int a]=(List.replicate (j+1) a).map V.int:=by
 rw[List.replicate_succ',List.map_append];rfl
section
variable {K:Store→Prop}{fs:List (Nat×V)}{f cl:Nat}{t:Store}{o:O}
theorem st_new (h:Nat.ble fs.length 30=true) (q:K (σ++(.ns (asets fs f (.loc (σ.length+(t.length+2)))) :: .inst cl σ.length :: (t++[o])))) :
  setattrR (.loc (σ.length+1)) f (.loc (σ++(.ns fs :: .inst cl σ.length :: t)).length) ((σ++(.ns fs :: .inst cl σ.length :: t))++[o]) K:=by
 rw[List.append_assoc,lnk]
 exact sat_of (gk σ _ 1) (g0 σ _) (Nat.le_of_ble_eq_true h) (by rw[s00];exact q)
theorem st_set {v:V}(h:Nat.ble fs.length 30=true) (q:K (σ++(.ns (asets fs f v) :: .inst cl σ.length :: t))) :
  setattrR (.loc (σ.length+1)) f v (σ++(.ns fs :: .inst cl σ.length :: t)) K:=
 sat_of (gk σ _ 1) (g0 σ _) (Nat.le_of_ble_eq_true h) (by rw[s00];exact q)
end
theorem kt_raw {R:List V}{X:List (Ky×V)}{D W O':List V}:Raw (σ++[.ns (ktF σ),.inst 0 σ.length,.list R,.dT X,.list D,.list W,.list O']) (Lk σ) R X D W O':=⟨gk _ _ 1,g0 _ _,gk _ _ 2,gk _ _ 3,gk _ _ 4,gk _ _ 5,gk _ _ 6⟩
theorem kt_set {p q a b c d e a' b' c' d' e':O}:(((((σ++[p,q,a,b,c,d,e]).set (Lk σ).r a').set (Lk σ).x b').set (Lk σ).de c').set (Lk σ).we d').set (Lk σ).op e'=σ++[p,q,a',b',c',d',e']:=by
 show((((List.set _ (σ.length+2) _).set (σ.length+3) _).set (σ.length+4) _).set (σ.length+5) _).set (σ.length+6) _=_
 rw[sk,sk,sk,sk,sk];rfl
theorem Lk_nd:[(Lk σ).i,(Lk σ).d,(Lk σ).r,(Lk σ).x,(Lk σ).de,(Lk σ).we,(Lk σ).op].Nodup:=
 show List.Nodup (([1,0,2,3,4,5,6]:List Nat).map fun i=>σ.length+i) from List.pairwise_map.mpr (List.Pairwise.imp (fun h e=>h (Nat.add_left_cancel e)) (by decide:([1,0,2,3,4,5,6]:List Nat).Nodup))
theorem c_ktinit (σ:Store) (q:Q .none (ktS σ 16)):C (n+1) 100 [.loc (σ.length+1)] (σ++[.ns [],.inst 0 σ.length]) Q:=by
 refine call_eq (m:=f100) rfl rfl ?_
 have loop:wpSs (C n) (f100.body.drop 5) [some (.loc (σ.length+1)),none,none,none] (ktS σ 0) (rtn Q):=by
  refine⟨by decide,?_⟩
  show forItems _ _ (natL (List.range 16)) _ _ _
  refine for_nat (fun d ρ σ'=>(∃z1 z2 z3,ρ=[some (.loc (σ.length+1)),z1,z2,z3])∧σ'=ktS σ d.length∧∃r,List.range 16=d++r) (fun d ρ σ' h=>trivial) ?_ ?_ ⟨⟨_,_,_,rfl⟩,rfl,_,rfl⟩
  ·rintro d y r e ρ σ' ⟨⟨z1,z2,z3,rfl⟩,rfl,-⟩ K k1 k2 k3
   have hy:y=d.length:=by
    have h1:(List.range 16)[d.length]?=some y:=by rw[e];simp
    obtain⟨h2,h3⟩:=List.getElem?_eq_some_iff.mp h1
    simpa using h3.symm
   have hd16:d.length < 16:=by
    have:=congrArg List.length e
    rw[List.length_append]at this
    exact Nat.lt_of_lt_of_eq (Nat.lt_add_of_pos_right (Nat.succ_pos _)) this.symm
   have h:=k1 [some (.loc (σ.length+1)),some (.int (y:Int)),some (.tup [.int 1,.int (y:Int)]),z3] (ktS σ (d++[y]).length) ⟨⟨_,_,_,rfl⟩,rfl,r,by rw[e,List.append_assoc];rfl⟩
   clear k1 k2 k3
   subst hy
   rw[List.length_append,List.length_singleton]at h
   have ip:=index_put (rk_new d.length)
   rw[rk_len,←rk_succ]at ip
   have u1:d.length≤line:=Nat.le_trans (Nat.le_of_lt hd16) (by decide)
   have u:∀{a:Int},((List.replicate d.length a).map V.int).length≤line:=by intro a;rw[List.length_map,List.length_replicate];exact u1
   have k0:=kt_raw (σ:=σ) (R:=(rk d.length).map kyV) (X:=(rk d.length).zipIdx.map fun p=>(p.1,.int (p.2:Int))) (D:=(List.replicate d.length (1:Int)).map .int) (W:=(List.replicate d.length (1:Int)).map .int) (O':=(List.replicate d.length (0:Int)).map .int)
   rw[show(σ++[.ns (ktF σ),.inst 0 σ.length,.list ((rk d.length).map kyV),.dT ((rk d.length).zipIdx.map fun p=>(p.1,.int (p.2:Int))),.list ((List.replicate d.length (1:Int)).map .int),.list ((List.replicate d.length (1:Int)).map .int),.list ((List.replicate d.length (0:Int)).map .int)])=ktS σ d.length from rfl]at k0
   refine⟨lel rfl,k0.at_ rfl ⟨lat_of k0.rws,app_of k0.rws (by rw[List.length_map,rk_len];exact u1) ?_⟩⟩
   have k1:=k0.sr Lk_nd (N:=(rk d.length).map kyV++[kyV (1,(d.length:Int),none)])
   refine k1.at_ rfl (siT_of (ky:=(1,(d.length:Int),none)) k1.index (by rw[List.length_map,List.length_zipIdx,rk_len];exact u1) rfl ?_)
   rw[ip]
   have k2:=k1.sx Lk_nd (N:=(rk (d.length+1)).zipIdx.map fun p=>(p.1,.int (p.2:Int)))
   refine k2.at_ rfl ⟨lat_of k2.depths,app_of k2.depths u ?_⟩
   rw[rep_snoc]
   have k3:=k2.sd Lk_nd (N:=(List.replicate (d.length+1) (1:Int)).map .int)
   refine k3.at_ rfl ⟨lat_of k3.weights,app_of k3.weights u ?_⟩
   rw[rep_snoc]
   have k4:=k3.sw Lk_nd (N:=(List.replicate (d.length+1) (1:Int)).map .int)
   refine k4.at_ rfl ⟨lat_of k4.opens,app_of k4.opens u ?_⟩
   rw[rep_snoc,show ktS σ d.length=σ++[.ns (ktF σ),.inst 0 σ.length,.list ((rk d.length).map kyV),.dT ((rk d.length).zipIdx.map fun p=>(p.1,.int (p.2:Int))),.list ((List.replicate d.length (1:Int)).map .int),.list ((List.replicate d.length (1:Int)).map .int),.list ((List.replicate d.length (0:Int)).map .int)] from rfl,kt_set]
   rw[map_snoc,←rk_succ]
   exact h
  ·rintro ρ σ' ⟨⟨z1,z2,z3,rfl⟩,rfl,-⟩
   exact q
 refine⟨lel rfl,st_new rfl (dT_of (st_new rfl ⟨lel rfl,st_new rfl ⟨lel rfl,st_new rfl ⟨lel rfl,st_new rfl loop⟩⟩⟩))⟩
theorem ks16 (m:Wm) (σ:Store):KS m (ktS σ 16) (Lk σ) 16:=by
 have er:rwsK m 16=rk 16:=by
  unfold rwsK rk
  apply List.map_congr_left
  intro k hk
  have:=List.mem_range.mp hk
  unfold rowOf rowS
  rw[if_pos (Nat.lt_trans this (by decide)),if_pos this]
 refine⟨List.replicate 16 1,List.replicate 16 1,List.replicate 16 0,?_,?_,?_,?_,?_⟩
 ·rw[er]
  refine⟨?_,?_,?_,?_,?_,?_,?_,by rw[rk_len];decide,?_,by rw[rk_len];rfl,by rw[rk_len];rfl,by rw[rk_len];rfl⟩
  ·exact gk _ _ _
  ·exact g0 _ _
  ·exact gk _ _ _
  ·exact gk _ _ _
  ·exact gk _ _ _
  ·exact gk _ _ _
  ·exact gk _ _ _
  ·exact Lk_nd
 ·intro i d _ h;have:=List.eq_of_mem_replicate (List.mem_of_getElem? h);rw[this];decide
 ·intro d h;have:=List.eq_of_mem_replicate h;rw[this];decide
 ·intro i d _ h;have:=List.eq_of_mem_replicate (List.mem_of_getElem? h);rw[this];decide
 ·intro d h;have:=List.eq_of_mem_replicate h;rw[this];decide
noncomputable def hoF (σ:Store) (kt:Nat):List (Nat×V):=[(5,.loc kt),(6,.loc (σ.length+2)),(7,.loc (σ.length+3)),(8,.loc (σ.length+4)),(9,.loc (σ.length+5)),(10,.loc (σ.length+6)),(11,.loc (σ.length+7)),(12,.loc (σ.length+8)),(13,.loc (σ.length+9))]
noncomputable def hoS (σ:Store) (kt:Nat):Store:=σ++[.ns (hoF σ kt),.inst 1 σ.length,.dI [],.dI [],.dI [],.dI [],.dI [],.dI [],.dI [],.dI []]
noncomputable def hoD (σ:Store) (kt i:Nat):Store:=σ++(.ns ((hoF σ kt).take (i+1)) :: .inst 1 σ.length :: List.replicate i (.dI []))
theorem ho_step {kt i f:Nat}{K:Store→Prop}(h:i < 8) (hf:f=6+i) (q:K (hoD σ kt (i+1))):dictR 0 [] (hoD σ kt i) (fun v τ=>setattrR (.loc (σ.length+1)) f v τ K):=by
 subst hf
 refine dI_of (lel30 rfl) rfl List.nodup_nil (st_new ?_ ?_)
 ·exact Nat.ble_eq_true_of_le (Nat.le_trans (List.length_take_le' ..) (show 9≤30 by decide))
 ·rw[List.length_replicate,←List.replicate_succ',show asets ((hoF σ kt).take (i+1)) (6+i) (.loc (σ.length+(i+2)))=(hoF σ kt).take (i+1+1) from ?_]
  ·exact q
  ·have:i=0∨i=1∨i=2∨i=3∨i=4∨i=5∨i=6∨i=7:=(by decide:∀i,i < 8→i=0∨i=1∨i=2∨i=3∨i=4∨i=5∨i=6∨i=7) i h
   rcases this with rfl | rfl | rfl | rfl | rfl | rfl | rfl | rfl <;> rfl
theorem c_hoinit (σ:Store) {kt:Nat}(q:Q .none (hoS σ kt)):C (n+1) 103 [.loc (σ.length+1),.loc kt] (σ++[.ns [],.inst 1 σ.length]) Q:=by
 refine call_eq (m:=f103) rfl rfl ?_
 refine st_set rfl ?_
 refine ho_step (kt:=kt) (i:=0) (by decide) rfl (ho_step (by decide) rfl (ho_step (by decide) rfl (ho_step (by decide) rfl (ho_step (by decide) rfl (ho_step (by decide) rfl (ho_step (by decide) rfl (ho_step (by decide) rfl ?_)))))))
 exact q
end
set_option maxRecDepth 20000
noncomputable def dd (n i:Nat):Nat:=n / 12 ^ i+[3,5,8,4].getD i 0
noncomputable def bfr (n:Nat):Nat→List Nat
 | 0=>[]
 | i+1=>if (bnd (dd n i) (bfr n i)).2=2 then bfr n i else [26+i]
noncomputable def mkW (n:Nat):Wm where
 h0:=n / 5 % 4
 h1:=n / 19 % 7
 way:=[1,2,0].getD (n / 7 % 3) 0
 r0:=n / 23 % 2
 r1:=n / 23 / 2 % 2
 r2:=n / 23 / 4 % 2
 r3:=n / 23 / 8 % 2
 r4:=n / 23 / 16 % 3
 r5:=n / 23 / 48 % 3
 r6:=n / 23 / 144 % 3
 r7:=n / 23 / 432 % 2
 un:=numL.getD (n / 29 % 8) 0
 ro:=n / 31 % 10
 bd:=fun i=>bnd (dd n i) (bfr n i)
theorem bfr_ok (n i:Nat):bfr n i=[]∨∃j < i,bfr n i=[26+j]∧((mkW n).bd j).2≠2:=by
 induction i with
 | zero=>exact .inl rfl
 | succ i ih=>
  by_cases h:(bnd (dd n i) (bfr n i)).2=2
  ·rw[show bfr n (i+1)=bfr n i from if_pos h]
   exact ih.imp_right fun zz=>by obtain⟨j,hj,h⟩:=zz;exact⟨j,Nat.lt_succ_of_lt hj,h⟩
  ·exact .inr ⟨i,Nat.lt_succ_self i,if_neg h,h⟩
theorem mkW_ok (n:Nat):WOk (mkW n):=by
 refine⟨Nat.mod_lt _ (by decide),?_,?_,Nat.mod_lt _ (by decide),Nat.mod_lt _ (by decide),Nat.mod_lt _ (by decide),fun i hi=>⟨dd n i,bfr n i,rfl,bfr_ok n i⟩⟩
 ·have:∀i < 3,[1,2,0].getD i 0 < 3:=by decide
  exact this _ (Nat.mod_lt _ (by decide))
 ·have:∀i < 8,numL.getD i 0 < 11:=by decide
  exact this _ (Nat.mod_lt _ (by decide))
section
variable {m:Wm}{L:KtL}{σ σ':Store}{n k x y s i a b:Nat}{c:Option Int}{Q:Post}
theorem unp_list {xs:List Nat}{ρ:Rho}{Q:PostS}{l:Nat}{vs:List V}(h:σ[l]?=some (.list vs)) (q:vs.length=xs.length∧Q .nx (setAll xs vs ρ) σ):unpK xs ρ Q (.loc l) σ:=by
 show bindR _ _ _ _ _
 show(match (match σ[l]? with | some (.list vs)=>some vs | _=>none)with | some vs=>vs.length=xs.length∧Q .nx (setAll xs vs ρ) σ | none=>False)
 rw[h];exact q
theorem comp_st {cond:V→Rho→Store→(Bool→Store→Prop)→Prop}{elt:V→Rho→Store→Post→Prop}{src:Store→Prop}{acc:Nat}{ρ:Rho}{Q:Store→Prop}(f:Nat→V) (J:Nat→Store→Prop) {items:List V}(hc:∀x σ K,K true σ→cond x ρ σ K)
  (hJ:∀j σ o,J j σ→J j (σ.set acc o)) (hsrc:∀j σ,J j σ→src σ) (hs:items.length≤1000)
  (helt:∀j x σ K,items[j]?=some x→J j σ→(∀σ',J (j+1) σ'→(∀o,σ[acc]?=some o→σ'[acc]?=some o)→K (f j) σ')→elt x ρ σ K)
  (fin:∀σ',J items.length σ'→σ'[acc]?=some (.list ((List.range items.length).map f))→Q σ') (h0:J 0 σ) (ha:σ[acc]?=some (.list [])):compItems cond elt src acc ρ items [] σ Q:=by
 have:∀(r d:List V) (σ:Store),items=d++r→J d.length σ→σ[acc]?=some (.list ((List.range d.length).map f))→compItems cond elt src acc ρ r ((List.range d.length).map f) σ Q:=by
  intro r
  induction r with
  | nil=>
   intro d σ e hj ha
   rw[List.append_nil]at e
   subst e
   exact⟨hsrc _ _ hj,ha,fin _ hj ha⟩
  | cons x r ih=>
   intro d σ e hj ha
   have hdl:d.length≤1000:=by
    have:=congrArg List.length e
    rw[List.length_append]at this;exact Nat.le_trans (Nat.le_trans (Nat.le_add_right _ _) (Nat.le_of_eq this.symm)) hs
   refine⟨hsrc _ _ hj,ha,by rw[List.length_map,List.length_range];exact Nat.le_trans hdl (by decide),hc _ _ _ ?_⟩
   refine helt d.length x σ _ (by rw[e];simp) hj fun σ' hj' ka=>⟨ka _ ha,?_⟩
   have e2:(List.range d.length).map f++[f d.length]=(List.range (d++[x]).length).map f:=by simp[List.range_succ]
   rw[e2]
   refine ih (d++[x]) _ (by rw[e,List.append_assoc];rfl) ?_ ?_
   ·rw[List.length_append,List.length_singleton];exact hJ _ _ _ hj'
   ·rw[List.getElem?_set_self (get_lt (ka _ ha))]
 exact this items [] σ rfl h0 ha
noncomputable def ktP (L:KtL):List Nat:=[L.i,L.d,L.r,L.x,L.de,L.we,L.op]
theorem KS.kx {N:List Nat}(K:KS m σ L k) (h:Kx N σ σ') (hN:∀j∈ktP L,j∉N):KS m σ' L k:=by
 refine Classical.byContradiction fun kk=>?_
 obtain⟨de,we,op,K,d1,d2,w1,w2⟩:=K
 refine kk ?_
 exact⟨de,we,op,K.keep fun i hi o e=>h i o (hN i hi) e,d1,d2,w1,w2⟩
theorem KS.gw (K:KS m σ L k) (g:Gw σ σ'):KS m σ' L k:=K.kx (N:=[]) (fun i o Z e=>g i o e) (by simp)
theorem form_of {s tid:Int}{l l':List Int}(hs:s=2∨s=3) (f:Form (s,tid,some l) l'):l'=l:=by
 induction f with
 | cls h=>simp only[Prod.mk.injEq,Option.some.injEq]at h;exact h.2.2.symm
 | val h=>simp only[Prod.mk.injEq,Option.some.injEq]at h;exact h.2.2.symm
 | arr h=>simp at h
 | var h=>simp at h
 | mvar h=>simp at h
 | boxed h=>simp at h
theorem s_class (K:KS m σ L k) (h16:16≤k) (h:k < N0 m) {tid:Int}{l:List Int}(e:rowOf m k=(2,tid,some l)) (ht:agets (cdTab 1) tid=none) (q:∀σ',KS m σ' L (k+1)→Kx (mutL L) σ σ'→σ'.length=σ.length→Q (.int (k:Int)) σ') :
  C (n+7) 7 [.loc L.i,.int tid,.tup (l.map .int)] σ Q:=by
 obtain⟨de,we,op,K',nd,ok,pq⟩:=s_put (f:=fun Z=>True) K h16 h q
 have hi:ci (innK m k)=l:=form_of (.inl rfl) (e▸ok.row.form)
 rw[e,hi]at ok pq
 exact c_class_put K' nd ht ok pq
theorem s_value (K:KS m σ L k) (h16:16≤k) (h:k < N0 m) {tid:Int}{l:List Int}(e:rowOf m k=(3,tid,some l)) (ht:agets (cdTab 1) tid=none) (q:∀σ',KS m σ' L (k+1)→Kx (mutL L) σ σ'→σ'.length=σ.length→Q (.int (k:Int)) σ') :
  C (n+7) 8 [.loc L.i,.int tid,.tup (l.map .int)] σ Q:=by
 obtain⟨de,we,op,K',nd,ok,pq⟩:=s_put (f:=fun Z=>True) K h16 h q
 have hi:ci (innK m k)=l:=form_of (.inr rfl) (e▸ok.row.form)
 rw[e,hi]at ok pq
 exact c_value_put K' nd ht ok pq
theorem s_array (K:KS m σ L k) (h:k < N0 m) (ha:isArr k=true) (q:∀σ',KS m σ' L (k+1)→Kx (mutL L) σ σ'→σ'.length=σ.length→Q (.int (k:Int)) σ') :
  C (n+7) 10 [.loc L.i,.int (el m k:Int)] σ Q:=by
 refine Classical.byContradiction fun kk=>?_
 have g:=arr_ge ha
 obtain⟨de,we,op,K',nd,ok,pq⟩:=s_put (f:=fun Z=>True) K (Nat.le_trans (by decide) g.1) h q
 have hi:ci (innK m k)=[(el m k:Int)]:=by unfold innK;rw[if_neg (Nat.not_lt.mpr (Nat.le_trans (by decide) g.1)),if_pos (Nat.lt_succ_of_le g.2.1)];rfl
 rw[rowOf_arr ha,hi]at ok pq
 refine kk ?_
 exact c_array_put K' nd ok pq
theorem s_var (K:KS m σ L k) (h16:16≤k) (h:k < 30) {i:Int}(e:rowS k=(6,i,none)) (q:∀σ',KS m σ' L (k+1)→Kx (mutL L) σ σ'→σ'.length=σ.length→Q (.int (k:Int)) σ') :
  C (n+7) 11 [.loc L.i,.int i] σ Q:=by
 have n0:=n0_le m
 obtain⟨de,we,op,K',nd,ok,pq⟩:=s_put (f:=fun Z=>True) K h16 (Nat.lt_of_lt_of_le h (Nat.le_trans (by decide) n0.2)) q
 have hi:ci (innK m k)=[]:=by unfold innK;rw[if_pos h];rfl
 rw[rowOf_lt h,e,hi]at ok pq
 exact c_var_put K' nd ok pq
theorem s_mvar (K:KS m σ L k) (h16:16≤k) (h:k < 30) {i:Int}(e:rowS k=(7,i,none)) (q:∀σ',KS m σ' L (k+1)→Kx (mutL L) σ σ'→σ'.length=σ.length→Q (.int (k:Int)) σ') :
  C (n+7) 12 [.loc L.i,.int i] σ Q:=by
 have n0:=n0_le m
 obtain⟨de,we,op,K',nd,ok,pq⟩:=s_put (f:=fun Z=>True) K h16 (Nat.lt_of_lt_of_le h (Nat.le_trans (by decide) n0.2)) q
 have hi:ci (innK m k)=[]:=by unfold innK;rw[if_pos h];rfl
 rw[rowOf_lt h,e,hi]at ok pq
 exact c_mvar_put K' nd ok pq
noncomputable def e70c:ME:=.call 7 [(.var 1),(.var 25),(.tup [])]
noncomputable def w3:MS:=.unpack [3,4,5,6,7] (.comp 25 (.tup [(.lit (.int 64)),(.lit (.int 65)),(.lit (.int 66)),(.lit (.int 67)),(.lit (.int 68))]) [] e70c)
noncomputable def w4:MS:=.unpack [8,9,10] (.comp 25 (.tup [(.lit (.int 2)),(.lit (.int 3)),(.lit (.int 5))]) [] e70c)
noncomputable def w5:MS:=.assign 11 (.call 8 [(.var 1),(.lit (.int 70)),(.tup [])])
noncomputable def w6:MS:=.assign 12 (.call 8 [(.var 1),(.lit (.int 71)),(.tup [])])
noncomputable def w7:MS:=.assign 13 (.list [(.call 11 [(.var 1),(.lit (.int 0))]),(.call 12 [(.var 1),(.lit (.int 0))]),(.call 11 [(.var 1),(.lit (.int 1))]),(.call 12 [(.var 1),(.lit (.int 1))])])
theorem w_classes {Φ:Calls}{kt host:V}{ρ:Rho}(tids:List Nat) {K0:Nat}(hΦ:Φ=C (n+7)) (h1:ρ[1]?=some (some (.loc L.i))) (h25:25 < ρ.length) (K:KS m σ L K0) (hk:K0+tids.length≤24) (hk16:16≤K0) (hp:∀j∈ktP L,j < σ.length)
  (rows:∀(j tid:Nat),tids[j]?=some tid→rowS (K0+j)=(2,(tid:Int),some [])∧agets (cdTab 1) (tid:Int)=none) {Q:Store→Prop}
  (q:∀σ' l,KS m σ' L (K0+tids.length)→Kx (mutL L) σ σ'→σ.length≤σ'.length→l=σ.length→σ'[l]?=some (.list ((List.range tids.length).map fun j=>V.int ((K0+j:Nat):Int)))→Q σ') :
  compItems (fun y ρ σ' K=>K true σ') (fun y ρ σ' K=>wpE Φ e70c (ρ.set 25 (some y)) σ' K) (srcOk (.tup (natL tids)) σ) σ.length ρ (natL tids) [] (σ++[.list []]) Q:=by
 subst hΦ
 have n0:=n0_le m
 have g:=Gw.push σ (.list [])
 refine comp_st (fun j=>V.int ((K0+j:Nat):Int)) (fun j σ'=>KS m σ' L (K0+j)∧Kx (mutL L) σ σ'∧σ.length < σ'.length) (fun x σ K h=>h) (fun j σ' o h=>⟨h.1.kx (N:=[σ.length]) (Kx.set (by simp)) fun j hj h'=>?_,fun i o hi e=>?_,by simpa using h.2.2⟩) (fun j σ' h=>trivial) (by rw[natL_len];exact Nat.le_trans (Nat.le_add_left _ _) (Nat.le_trans hk (by decide))) ?_ (fun σ' h ha=>?_) ⟨K.gw g,Kx.gw g,by simp⟩ (by simp)
 ·rw[List.mem_singleton]at h'
  exact Nat.ne_of_lt (hp j hj) h'
 ·have:=get_lt e
  rw[List.getElem?_set_ne (Nat.ne_of_gt this)]
  exact h.2.1 i o hi e
 ·rintro j x σ' K' hx ⟨k1,k2,k3⟩ hK
  unfold natL at hx
  rw[List.getElem?_map]at hx
  obtain⟨tid,ht,rfl⟩:=Option.map_eq_some_iff.mp hx
  obtain⟨r1,r2⟩:=rows j tid ht
  have hkj:=Nat.lt_of_lt_of_le (Nat.add_lt_add_left (get_lt ht) K0) hk
  have g1:(ρ.set 25 (some (.int (tid:Int))))[1]?=some (some (.loc L.i)):=by rw[List.getElem?_set_ne (by decide)];exact h1
  have g25:(ρ.set 25 (some (.int (tid:Int))))[25]?=some (some (.int (tid:Int))):=by rw[List.getElem?_set_self h25]
  refine va_of (Φ:=C (n+7)) g1 (va_of (Φ:=C (n+7)) g25 ⟨Nat.zero_le _,?_⟩)
  refine s_class (l:=[]) k1 (Nat.le_trans hk16 (Nat.le_add_right _ _)) (Nat.lt_of_lt_of_le hkj (Nat.le_trans (by decide) n0.2)) (by rw[rowOf_lt (Nat.lt_of_lt_of_le hkj (by decide))];exact r1) r2 fun σ2 a b c=>?_
  refine hK σ2 ⟨a,k2.trans b,Nat.lt_of_lt_of_eq k3 c.symm⟩ fun o ho=>b _ _ ?_ ho
  intro h'
  exact Nat.lt_irrefl _ (hp _ (.tail _ (.tail _ h')))
 ·rw[natL_len]at h ha
  exact q σ' _ h.1 h.2.1 (Nat.le_of_lt h.2.2) rfl ha
end
set_option maxRecDepth 20000
noncomputable def w8:MS:=.assign 14 (.list [(.lit (.int 12)),(.var 3),(.var 4),(.var 5),(.var 6),(.var 11),(.lit (.int 7))])
noncomputable def e9a:ME:=.list [(.sub (.var 13) (.bop .mod (.bop .div (.var 0) (.lit (.int 5))) (.lit (.int 4)))),(.sub (.var 13) (.bop .mod (.bop .add (.bop .div (.var 0) (.lit (.int 5))) (.lit (.int 1))) (.lit (.int 4))))]
noncomputable def e9b:ME:=.sub (.var 14) (.bop .mod (.bop .add (.bop .div (.var 0) (.lit (.int 19))) (.var 25)) (.lit (.int 7)))
noncomputable def w9:MS:=.assign 15 (.bop .add e9a (.comp 25 (.tup [(.lit (.int 1)),(.lit (.int 2)),(.lit (.int 4))]) [] e9b))
noncomputable def b12:List MS:=[(.setitem (.var 16) (.call 7 [(.var 1),(.lit (.int 69)),(.tup [(.var 18)])]) (.var 18)),(.setitem (.var 17) (.call 10 [(.var 1),(.var 18)]) (.var 18))]
noncomputable def w12:MS:=.forS (.inl 18) (.var 15) b12
noncomputable def w13:MS:=.assign 19 (.listOf (.var 16))
noncomputable def w14:MS:=.assign 20 (.list [(.lit (.int 7)),(.lit (.int 8)),(.lit (.int 5)),(.lit (.int 9)),(.lit (.int 6)),(.lit (.int 10)),(.lit (.int 3)),(.lit (.int 4)),(.lit (.int 2)),(.lit (.int 1))])
noncomputable def w15:MS:=.assign 21 (.bop .div (.var 0) (.lit (.int 23)))
noncomputable def rest70:List MS:=f70.body.drop 15
noncomputable def w1:MS:=.assign 1 (.new 0 [])
noncomputable def w2:MS:=.assign 2 (.new 1 [(.var 1)])
section
variable {m:Wm}{L:KtL}{σ σ':Store}{n k t i nn:Nat}{c:Option Int}{Q:Post}
theorem ktP_in {σ:Store}{i:Nat}(h:i∈ktP (Lk σ)):σ.length≤i∧i < σ.length+7:=by
 obtain⟨c,hc,rfl⟩:=List.mem_map.mp (show i∈[1,0,2,3,4,5,6].map (σ.length + ·) from h)
 exact⟨Nat.le_add_right ..,Nat.add_lt_add_left ((by decide:∀c∈[1,0,2,3,4,5,6],c < 7) c hc) _⟩
theorem mutL_in {σ:Store}{i:Nat}(h:i∈mutL (Lk σ)):σ.length≤i∧i < σ.length+7:=ktP_in (.tail _ (.tail _ h))
theorem not_mutL {σ:Store}{i:Nat}(h:σ.length+7≤i):i∉mutL (Lk σ):=fun h'=>Nat.not_le.mpr (mutL_in h').2 h
structure K2 (m:Wm) (σ₀ σ:Store) (k:Nat) (NF:List (Nat×V)) (F Bo Gf:List (Int×V)):Prop where
 ks:KS m σ (Lk σ₀) k
 old:Gw σ₀ σ
 hi:σ[σ₀.length+8]?=some (.inst 1 (σ₀.length+7))
 hd:σ[σ₀.length+7]?=some (.ns NF)
 fa:σ[σ₀.length+10]?=some (.dI F)
 bo:σ[σ₀.length+14]?=some (.dI Bo)
 gf:σ[σ₀.length+15]?=some (.dI Gf)
 len:σ₀.length+17≤σ.length
theorem K2.step {σ₀:Store}{NF:List (Nat×V)}{F Bo Gf:List (Int×V)}(h:K2 m σ₀ σ k NF F Bo Gf) (ks:KS m σ' (Lk σ₀) t) (kx:Kx (mutL (Lk σ₀)) σ σ') (l:σ.length≤σ'.length):K2 m σ₀ σ' t NF F Bo Gf:=
 ⟨ks,fun j o e=>kx _ _ (fun h'=>Nat.not_le.mpr (get_lt e) (mutL_in h').1) (h.old _ _ e),kx _ _ (not_mutL (up7 _ 8 rfl)) h.hi,kx _ _ (not_mutL (up7 _ 7 rfl)) h.hd,kx _ _ (not_mutL (up7 _ 10 rfl)) h.fa,kx _ _ (not_mutL (up7 _ 14 rfl)) h.bo,kx _ _ (not_mutL (up7 _ 15 rfl)) h.gf,Nat.le_trans h.len l⟩
theorem K2.kx {N:List Nat}{σ₀:Store}{NF:List (Nat×V)}{F Bo Gf:List (Int×V)}(h:K2 m σ₀ σ k NF F Bo Gf) (kx:Kx N σ σ') (hN:∀j∈N,σ₀.length+17≤j) (l:σ.length≤σ'.length):K2 m σ₀ σ' k NF F Bo Gf:=
 have no:∀{j},j < σ₀.length+17→j∉N:=fun hj h'=>Nat.not_le.mpr hj (hN _ h')
 ⟨h.ks.kx kx fun j hj=>no (Nat.lt_trans (ktP_in hj).2 (lo17 _ 7 rfl)),fun j o e=>kx _ _ (no (Nat.lt_of_lt_of_le (get_lt e) (Nat.le_add_right ..))) (h.old _ _ e),kx _ _ (no (lo17 _ 8 rfl)) h.hi,kx _ _ (no (lo17 _ 7 rfl)) h.hd,kx _ _ (no (lo17 _ 10 rfl)) h.fa,kx _ _ (no (lo17 _ 14 rfl)) h.bo,kx _ _ (no (lo17 _ 15 rfl)) h.gf,Nat.le_trans h.len l⟩
theorem K2.gw {σ₀:Store}{NF:List (Nat×V)}{F Bo Gf:List (Int×V)}(h:K2 m σ₀ σ k NF F Bo Gf) (g:Gw σ σ'):K2 m σ₀ σ' k NF F Bo Gf:=h.kx (N:=[]) (Kx.gw g) (fun j hj=>absurd hj List.not_mem_nil) (gw_len g)
noncomputable def NF0 (B:Nat):List (Nat×V):=[(5,.loc (B+1)),(6,.loc (B+9)),(7,.loc (B+10)),(8,.loc (B+11)),(9,.loc (B+12)),(10,.loc (B+13)),(11,.loc (B+14)),(12,.loc (B+15)),(13,.loc (B+16))]
noncomputable abbrev K1 (m:Wm) (σ₀ σ:Store) (k:Nat):Prop:=K2 m σ₀ σ k (NF0 σ₀.length) [] [] []
theorem k1_start (m:Wm) (σ:Store):K1 m σ (hoS (ktS σ 16) (σ.length+1)) 16:=by
 have l7:(ktS σ 16).length=σ.length+7:=by unfold ktS;rw[lnk];rfl
 have g:Gw (ktS σ 16) (hoS (ktS σ 16) (σ.length+1)):=Gw.app _ _
 have at_:∀i,(hoS (ktS σ 16) (σ.length+1))[σ.length+(7+i)]?=[O.ns (hoF (ktS σ 16) (σ.length+1)),.inst 1 (σ.length+7),.dI [],.dI [],.dI [],.dI [],.dI [],.dI [],.dI [],.dI []][i]?:=fun i=>by
  unfold hoS
  have:=gk (ktS σ 16) [O.ns (hoF (ktS σ 16) (σ.length+1)),.inst 1 (σ.length+7),.dI [],.dI [],.dI [],.dI [],.dI [],.dI [],.dI [],.dI []] i
  rw[l7]at this
  rw[l7,←Nat.add_assoc];exact this
 refine⟨(ks16 m σ).gw g,?_,?_,?_,at_ 3,at_ 7,at_ 8,?_⟩
 ·unfold hoS ktS;exact(Gw.app _ _).trans (Gw.app _ _)
 ·exact at_ 1
 ·have:=at_ 0;unfold hoF at this;simp only[l7]at this;exact this
 ·unfold hoS;rw[lnk,l7];exact Nat.le_refl _
theorem w_start {R:List MS}(q:∀σ',K1 m σ σ' 24→wpSs (C (n+7)) (w5 :: R) [some (.int (nn:Int)),some (.loc (σ.length+1)),some (.loc (σ.length+8)),some (.int 16),some (.int 17),some (.int 18),some (.int 19),some (.int 20),some (.int 21),some (.int 22),some (.int 23),none,none,none,none,none,none,none,none,none,none,none,none,none,none,none] σ' (rtn Q)) :
  wpSs (C (n+7)) (w1 :: w2 :: w3 :: w4 :: w5 :: R) [some (.int (nn:Int)),none,none,none,none,none,none,none,none,none,none,none,none,none,none,none,none,none,none,none,none,none,none,none,none,none] σ (rtn Q):=by
 have l7:(ktS σ 16).length=σ.length+7:=by unfold ktS;rw[lnk];rfl
 refine c_ktinit σ ⟨rfl,?_⟩
 show wpSs (C (n+7)) (w2 :: w3 :: w4 :: w5 :: R) [some (.int (nn:Int)),some (.loc (σ.length+1)),none,none,none,none,none,none,none,none,none,none,none,none,none,none,none,none,none,none,none,none,none,none,none,none] (ktS σ 16) (rtn Q)
 have hk:=c_hoinit (n:=n+6) (ktS σ 16) (kt:=σ.length+1) (Q:=fun r σ'=>r = .none∧wpSs (C (n+7)) (w3 :: w4 :: w5 :: R) [some (.int (nn:Int)),some (.loc (σ.length+1)),some (.loc ((ktS σ 16).length+1)),none,none,none,none,none,none,none,none,none,none,none,none,none,none,none,none,none,none,none,none,none,none,none] σ' (rtn Q))
 refine hk ⟨rfl,?_⟩
 rw[l7]
 have S:=k1_start m σ
 obtain⟨σ2,eσ2⟩:∃σ2,hoS (ktS σ 16) (σ.length+1)=σ2:=⟨_,rfl⟩
 rw[eσ2]at S ⊢
 have ei:(Lk σ).i=σ.length+1:=rfl
 refine⟨lel rfl,its_tup ?_⟩
 refine w_classes (L:=Lk σ) (n:=n) (host:=.none) (kt:=.none) (m:=m) [64,65,66,67,68] rfl rfl ?_ S.ks (by decide) (by decide) (fun j hj=>?_) ?_ fun σ3 l k3 kx3 ln3 hl e3=>?_
 ·show 25 < 26;decide
 ·exact Nat.lt_of_lt_of_le (Nat.lt_trans (ktP_in hj).2 (lo17 _ 7 rfl)) S.len
 ·intro j tid h
  have hj:=get_lt h
  have:=(by decide:∀j,j < 5→j=0∨j=1∨j=2∨j=3∨j=4) j hj
  rcases this with rfl | rfl | rfl | rfl | rfl <;> cases h <;> exact⟨rfl,rfl⟩
 ·have S3:=S.step k3 kx3 ln3
  have e3':σ3[l]?=some (.list [V.int 16,V.int 17,V.int 18,V.int 19,V.int 20]):=e3
  rw[hl]at e3'
  refine unp_list e3' ⟨rfl,?_⟩
  refine⟨lel rfl,its_tup ?_⟩
  refine w_classes (L:=Lk σ) (n:=n) (host:=.none) (kt:=.none) (m:=m) [2,3,5] rfl rfl ?_ S3.ks (by decide) (by decide) (fun j hj=>?_) ?_ fun σ4 l k4 kx4 ln4 hl e4=>?_
  ·show 25 < 26;decide
  ·exact Nat.lt_of_lt_of_le (Nat.lt_trans (ktP_in hj).2 (lo17 _ 7 rfl)) S3.len
  ·intro j tid h
   have hj:=get_lt h
   have:=(by decide:∀j,j < 3→j=0∨j=1∨j=2) j hj
   rcases this with rfl | rfl | rfl <;> cases h <;> exact⟨rfl,rfl⟩
  ·have S4:=S3.step k4 kx4 ln4
   have e4':σ4[l]?=some (.list [V.int 21,V.int 22,V.int 23]):=e4
   rw[hl]at e4'
   exact unp_list e4' ⟨rfl,q σ4 S4⟩
end
set_option maxRecDepth 20000
section
variable {m:Wm}{L:KtL}{σ σ':Store}{n k x y i nn B:Nat}{Q:Post}
theorem natL_at {l:List Nat}{r:Nat}(h:r < l.length):(natL l)[r]?=some (.int ((l.getD r 0:Nat):Int)):=by
 unfold natL;rw[List.getElem?_map,List.getD_eq_getElem?_getD,List.getElem?_eq_getElem h];rfl
theorem p4 (i:Nat) (h:i < 4):(natL [26,27,28,29])[i]?=some (.int ((26+i:Nat):Int)):=by
 have:=(by decide:∀i,i < 4→i=0∨i=1∨i=2∨i=3) i h
 rcases this with rfl | rfl | rfl | rfl <;> rfl
theorem p7 (i:Nat) (h:i < 7):(natL [12,16,17,18,19,24,7])[i]?=some (.int (([12,16,17,18,19,24,7].getD i 0:Nat):Int)):=natL_at h
noncomputable abbrev ρ1 (nn B:Nat) (z11 z12 z13 z14 z15 z16 z17 z18 z19 z20 z21 z25:Option V):Rho:=[some (.int (nn:Int)),some (.loc (B+1)),some (.loc (B+8)),some (.int 16),some (.int 17),some (.int 18),some (.int 19),some (.int 20),some (.int 21),some (.int 22),some (.int 23),z11,z12,z13,z14,z15,z16,z17,z18,z19,z20,z21,none,none,none,z25]
theorem w_mid {R:List MS}{σ₀:Store}(S:K1 (mkW nn) σ₀ σ 24)
  (q:∀σ' l13 l14 l15 l16 l17 z25,K1 (mkW nn) σ₀ σ' 30→σ'[l13]?=some (.list (natL [26,27,28,29]))→σ'[l15]?=some (.list (natL (hl (mkW nn))))→σ₀.length+17≤l13→l13 < l15→l15 < l16→l16 < l17→σ'[l16]?=some (.dI [])→σ'[l17]?=some (.dI []) →
   wpSs (C (n+7)) (w12 :: R) (ρ1 nn σ₀.length (some (.int 24)) (some (.int 25)) (some (.loc l13)) (some (.loc l14)) (some (.loc l15)) (some (.loc l16)) (some (.loc l17)) none none none none z25) σ' (rtn Q)) :
  wpSs (C (n+7)) (w5 :: w6 :: w7 :: w8 :: w9 :: (.assign 16 (.dict 0 [])) :: (.assign 17 (.dict 0 [])) :: w12 :: R) (ρ1 nn σ₀.length none none none none none none none none none none none none) σ (rtn Q):=by
 have n0:=n0_le (mkW nn)
 refine s_asg ⟨Nat.zero_le _,?_⟩
 refine s_value (L:=Lk σ₀) (l:=[]) (m:=mkW nn) (k:=24) S.ks (by decide) (n0l n0.2 rfl) rfl rfl fun σ1 k1 kx1 ln1=>?_
 have S1:=S.step k1 kx1 (Nat.le_of_eq ln1.symm)
 refine s_asg ⟨Nat.zero_le _,?_⟩
 refine s_value (L:=Lk σ₀) (l:=[]) (m:=mkW nn) (k:=25) S1.ks (by decide) (n0l n0.2 rfl) rfl rfl fun σ2 k2 kx2 ln2=>?_
 have S2:=S1.step k2 kx2 (Nat.le_of_eq ln2.symm)
 refine s_var (L:=Lk σ₀) (m:=mkW nn) (k:=26) S2.ks (by decide) (by decide) rfl fun σ3 k3 kx3 ln3=>?_
 have S3:=S2.step k3 kx3 (Nat.le_of_eq ln3.symm)
 refine s_mvar (L:=Lk σ₀) (m:=mkW nn) (k:=27) S3.ks (by decide) (by decide) rfl fun σ4 k4 kx4 ln4=>?_
 have S4:=S3.step k4 kx4 (Nat.le_of_eq ln4.symm)
 refine s_var (L:=Lk σ₀) (m:=mkW nn) (k:=28) S4.ks (by decide) (by decide) rfl fun σ5 k5 kx5 ln5=>?_
 have S5:=S4.step k5 kx5 (Nat.le_of_eq ln5.symm)
 refine s_mvar (L:=Lk σ₀) (m:=mkW nn) (k:=29) S5.ks (by decide) (by decide) rfl fun σ6 k6 kx6 ln6=>?_
 have S6:=S5.step k6 kx6 (Nat.le_of_eq ln6.symm)
 have en:[V.int ((26:Nat):Int),V.int ((27:Nat):Int),V.int ((28:Nat):Int),V.int ((29:Nat):Int)]=natL [26,27,28,29]:=rfl
 have h13:(σ6++[O.list (natL [26,27,28,29])])[σ6.length]?=some (.list (natL [26,27,28,29])):=by simp
 have S7:=S6.gw (Gw.push σ6 (.list (natL [26,27,28,29])))
 refine⟨lel rfl,?_⟩
 refine Classical.byContradiction fun kk=>?_
 obtain⟨σ7,e7⟩:∃σ7,σ6++[O.list (natL [26,27,28,29])]=σ7:=⟨_,rfl⟩
 have l67:σ7.length=σ6.length+1:=by rw[←e7];simp
 rw[e7]at S7 h13
 refine kk ?_
 rw[show σ6++[O.list [V.int ((26:Nat):Int),V.int ((27:Nat):Int),V.int ((28:Nat):Int),V.int ((29:Nat):Int)]]=σ7 from e7]
 have l6:=S6.len
 obtain⟨σ8,e8⟩:∃σ8,σ7++[O.list (natL [12,16,17,18,19,24,7])]=σ8:=⟨_,rfl⟩
 have g78:Gw σ7 σ8:=by rw[←e8];exact Gw.push _ _
 have h14:σ8[σ7.length]?=some (.list (natL [12,16,17,18,19,24,7])):=by rw[←e8];simp
 have S8:=S7.gw g78
 have h13':=g78 _ _ h13
 have l78:σ8.length=σ7.length+1:=by rw[←e8];simp
 refine s_asg ⟨lel rfl,?_⟩
 rw[show σ7++[O.list [V.int 12,V.int 16,V.int 17,V.int 18,V.int 19,V.int ((24:Nat):Int),V.int 7]]=σ8 from e8]
 show wpSs (C (n+7)) (w9 :: (.assign 16 (.dict 0 [])) :: (.assign 17 (.dict 0 [])) :: w12 :: R) (ρ1 nn σ₀.length (some (.int 24)) (some (.int 25)) (some (.loc σ6.length)) (some (.loc σ7.length)) none none none none none none none none) σ8 (rtn Q)
 have q5:=p4 (nn / 5 % 4) (Nat.mod_lt _ (by decide))
 have q5':=p4 ((nn / 5+1) % 4) (Nat.mod_lt _ (by decide))
 refine s_asg (div_of (by decide) (by decide) (mod_of (by decide) (sub_list (k:=nn / 5 % 4) h13' (lel rfl) q5 ?_)))
 refine div_of (by decide) (by decide) (add_of (mod_of (by decide) (sub_list (k:=(nn / 5+1) % 4) h13' (lel rfl) q5' ?_)))
 refine⟨lel rfl,?_⟩
 obtain⟨σ9,e9⟩:∃σ9,σ8++[O.list [V.int ((26+nn / 5 % 4:Nat):Int),V.int ((26+(nn / 5+1) % 4:Nat):Int)]]=σ9:=⟨_,rfl⟩
 have g89:Gw σ8 σ9:=by rw[←e9];exact Gw.push _ _
 have h9:σ9[σ8.length]?=some (.list [V.int ((26+nn / 5 % 4:Nat):Int),V.int ((26+(nn / 5+1) % 4:Nat):Int)]):=by rw[←e9];simp
 have l89:σ9.length=σ8.length+1:=by rw[←e9];simp
 rw[show σ8++[O.list [V.int ((26+nn / 5 % 4:Nat):Int),V.int ((26+(nn / 5+1) % 4:Nat):Int)]]=σ9 from e9]
 have ss:∀o,(σ9++[O.list []]).set σ9.length o=σ9++[o]:=fun o=>by simp
 refine⟨lel rfl,its_tup ?_⟩
 show compItems _ _ _ _ _ (natL [1,2,4]) _ _ _
 refine comp_nat (fun i=>V.int ((sev ((mkW nn).h1+i):Nat):Int)) (fun x σ K h=>h) [1,2,4] [] _ (by simp) (by simp) (fun out'=>trivial) (fun y hy out' K hK=>?_) ?_
 ·rw[ss]at hK ⊢
  have i7:=p7 ((nn / 19+y) % 7) (Nat.mod_lt _ (by decide))
  have es:[12,16,17,18,19,24,7].getD ((nn / 19+y) % 7) 0=sev ((mkW nn).h1+y):=by
   unfold sev mkW
   have:(nn / 19 % 7+y) % 7=(nn / 19+y) % 7:=Nat.mod_add_mod ..
   simp only[this]
  rw[es]at i7
  have h14':=Gw.push σ9 (.list out') _ _ (g89 _ _ h14)
  exact div_of (by decide) (by decide) (add_of (mod_of (by decide) (sub_list (k:=(nn / 19+y) % 7) h14' (lel rfl) i7 hK)))
 ·rw[ss,List.nil_append]
  have h9':=Gw.push σ9 (.list ([1,2,4].map fun i=>V.int ((sev ((mkW nn).h1+i):Nat):Int))) _ _ h9
  have h9b:(σ9++[O.list ([1,2,4].map fun i=>V.int ((sev ((mkW nn).h1+i):Nat):Int))])[σ9.length]?=some (.list ([1,2,4].map fun i=>V.int ((sev ((mkW nn).h1+i):Nat):Int))):=by simp
  have ehl:[V.int ((26+nn / 5 % 4:Nat):Int),V.int ((26+(nn / 5+1) % 4:Nat):Int)]++([1,2,4].map fun i=>V.int ((sev ((mkW nn).h1+i):Nat):Int))=natL (hl (mkW nn)):=by
   unfold hl natL
   have e1:(mkW nn).h0 % 4=nn / 5 % 4:=Nat.mod_mod ..
   have e2:((mkW nn).h0+1) % 4=(nn / 5+1) % 4:=Nat.mod_add_mod ..
   rw[e1,e2];rfl
  refine addL_of h9' h9b (by simp[line]) ?_
  rw[ehl]
  obtain⟨σa,ea⟩:∃σa,σ9++[O.list ([1,2,4].map fun i=>V.int ((sev ((mkW nn).h1+i):Nat):Int))]=σa:=⟨_,rfl⟩
  have la:σa.length=σ9.length+1:=by rw[←ea];simp
  have ga:Gw σ9 σa:=by rw[←ea];exact Gw.push _ _
  rw[ea]
  have h15:(σa++[O.list (natL (hl (mkW nn)))]++[O.dI []]++[O.dI []])[σa.length]?=some (.list (natL (hl (mkW nn)))):=by simp
  have h16:(σa++[O.list (natL (hl (mkW nn)))]++[O.dI []]++[O.dI []])[σa.length+1]?=some (.dI []):=by simp
  have h17:(σa++[O.list (natL (hl (mkW nn)))]++[O.dI []]++[O.dI []])[σa.length+2]?=some (.dI []):=by simp
  have gf:Gw σ8 (σa++[O.list (natL (hl (mkW nn)))]++[O.dI []]++[O.dI []]):=((g89.trans ga).trans (Gw.push _ _)).trans ((Gw.push _ _).trans (Gw.push _ _))
  have e1:(σa++[O.list (natL (hl (mkW nn)))]).length=σa.length+1:=by simp
  have e2:(σa++[O.list (natL (hl (mkW nn)))]++[O.dI []]).length=σa.length+2:=by simp
  refine dI_of (lel30 rfl) rfl List.nodup_nil (dI_of (lel30 rfl) rfl List.nodup_nil ?_)
  rw[e1,e2]
  exact q _ σ6.length σ7.length σa.length (σa.length+1) (σa.length+2) none (S8.gw gf) (gf _ _ h13') h15 l6 (Nat.lt_of_lt_of_le (l67▸Nat.lt_succ_self _) (Nat.le_trans (gw_len g78) (Nat.le_trans (gw_len g89) (gw_len ga)))) (Nat.lt_succ_self _) (Nat.lt_succ_self _) h16 h17
end
set_option maxRecDepth 20000
section
variable {m:Wm}{L:KtL}{σ₀ σ σ':Store}{n k x y nn:Nat}{Q:Post}
theorem asets_map (l:List Nat) (f:Nat→V) {k:Nat}(h:k∉l):asets (l.map fun x:Nat=>((x:Int),f x)) (k:Int) (f k)=(l++[k]).map fun x:Nat=>((x:Int),f x):=by
 unfold asets
 have:((l.map fun x:Nat=>((x:Int),f x)).any fun p=>decide (p.1=(k:Int)))=false:=by
  rw[List.any_eq_false]
  intro p hp
  obtain⟨y,hy,rfl⟩:=List.mem_map.mp hp
  simp only[decide_eq_true_eq]
  intro e
  exact h (Int.ofNat.inj e▸hy)
 rw[this,if_neg (by simp)]
 simp
noncomputable def faD (m:Wm) (j:Nat):List (Int×V):=(faL.take j).map fun k:Nat=>((k:Int),V.int (el m k:Int))
noncomputable def arD (m:Wm) (j:Nat):List (Int×V):=(arL.take j).map fun k:Nat=>((k:Int),V.int (el m k:Int))
theorem fa_take:∀j < 5,faL.take (j+1)=faL.take j++[30+2 * j]∧(30+2 * j)∉faL.take j∧arL.take (j+1)=arL.take j++[31+2 * j]∧(31+2 * j)∉arL.take j∧isFace (30+2 * j)=true∧isArr (31+2 * j)=true:=by decide
theorem el_j (m:Wm) (j:Nat) (h:j < 5) {x:Nat}(e:(hl m)[j]?=some x):el m (30+2 * j)=x∧el m (31+2 * j)=x:=by
 unfold el
 have h1:(30+2 * j - 30) / 2=j:=by rw[Nat.add_sub_cancel_left,Nat.mul_div_cancel_left _ (by decide)]
 have h2:(31+2 * j - 30) / 2=j:=by rw[show 31+2 * j=30+(1+2 * j) from Nat.add_assoc 30 1 _,Nat.add_sub_cancel_left,Nat.add_mul_div_left _ _ (by decide)];exact Nat.zero_add j
 rw[h1,h2,List.getD_eq_getElem?_getD,e]
 exact⟨rfl,rfl⟩
inductive FcI (m:Wm) (σ₀:Store) (nn l13 l14 l15 l16 l17:Nat) (z25:Option V) (d:List Nat):Rho→Store→Prop
 | mk {z18:Option V} {σ':Store} (S:K1 m σ₀ σ' (30+2 * d.length)) (e13:σ'[l13]?=some (.list (natL [26,27,28,29]))) (e15:σ'[l15]?=some (.list (natL (hl m)))) (e16:σ'[l16]?=some (.dI (faD m d.length))) (e17:σ'[l17]?=some (.dI (arD m d.length))) :
   FcI m σ₀ nn l13 l14 l15 l16 l17 z25 d (ρ1 nn σ₀.length (some (.int 24)) (some (.int 25)) (some (.loc l13)) (some (.loc l14)) (some (.loc l15)) (some (.loc l16)) (some (.loc l17)) z18 none none none z25) σ'
theorem w_faces {R:List MS}{l13 l14 l15 l16 l17:Nat}{z25:Option V}(S:K1 m σ₀ σ 30) (h13:σ[l13]?=some (.list (natL [26,27,28,29]))) (h15:σ[l15]?=some (.list (natL (hl m)))) (b13:σ₀.length+17≤l13) (b15:l13 < l15) (b16:l15 < l16) (b17:l16 < l17) (h16:σ[l16]?=some (.dI [])) (h17:σ[l17]?=some (.dI []))
  (q:∀σ' l19 l20 z18,K1 m σ₀ σ' 40→σ'[l13]?=some (.list (natL [26,27,28,29]))→σ'[l16]?=some (.dI (faD m 5))→σ'[l17]?=some (.dI (arD m 5))→l17 < l19→l19 < l20→σ'[l19]?=some (.list (natL faL))→σ'[l20]?=some (.list (natL numL)) →
   wpSs (C (n+7)) R (ρ1 nn σ₀.length (some (.int 24)) (some (.int 25)) (some (.loc l13)) (some (.loc l14)) (some (.loc l15)) (some (.loc l16)) (some (.loc l17)) z18 (some (.loc l19)) (some (.loc l20)) (some (.int ((nn / 23:Nat):Int))) z25) σ' (rtn Q)) :
  wpSs (C (n+7)) (w12 :: w13 :: w14 :: w15 :: R) (ρ1 nn σ₀.length (some (.int 24)) (some (.int 25)) (some (.loc l13)) (some (.loc l14)) (some (.loc l15)) (some (.loc l16)) (some (.loc l17)) none none none none z25) σ (rtn Q):=by
 have n0:=n0_le m
 have hlen:(hl m).length=5:=by simp[hl]
 have nl:∀l:List Nat,(natL l).length=l.length:=natL_len
 refine its_list h15 ⟨by rw[nl,hlen];decide,?_⟩
 refine for_nat (FcI m σ₀ nn l13 l14 l15 l16 l17 z25) (fun d ρ σ' h=>(by cases h;assumption:σ'[l15]?=_).trans h15.symm) ?_ ?_ (.mk S h13 h15 h16 h17)
 ·rintro d y r e ρ σ' ⟨S',e13,e15,e16,e17⟩ K k1 k2 k3
  refine Classical.byContradiction fun kk=>?_
  have hd:d.length < 5:=by
   have:=congrArg List.length e
   rw[hlen,List.length_append]at this;exact Nat.lt_of_lt_of_eq (Nat.lt_add_of_pos_right (Nat.succ_pos _)) this.symm
  have hy:(hl m)[d.length]?=some y:=by rw[e];simp
  obtain⟨f1,f2,f3,f4,f5,f6⟩:=fa_take d.length hd
  obtain⟨el1,el2⟩:=el_j m d.length hd hy
  have uf:(faD m d.length).length≤line:=by rw[faD,List.length_map];exact Nat.le_trans (List.length_take_le' ..) (by decide)
  have ua:(arD m d.length).length≤line:=by rw[arD,List.length_map];exact Nat.le_trans (List.length_take_le' ..) (by decide)
  have af:asets (faD m d.length) ((30+2 * d.length:Nat):Int) (.int (y:Int))=faD m (d.length+1):=by
   unfold faD
   rw[f1,←asets_map (faL.take d.length) (fun k=>V.int (el m k:Int)) f2]
   simp only[el1]
  have aa:asets (arD m d.length) ((31+2 * d.length:Nat):Int) (.int (y:Int))=arD m (d.length+1):=by
   unfold arD
   rw[f3,←asets_map (arL.take d.length) (fun k=>V.int (el m k:Int)) f4]
   simp only[el2]
  have rf:rowOf m (30+2 * d.length)=(2,69,some [(y:Int)]):=by rw[rowOf_face f5,el1]
  have hi:∀{τ τ':Store} {j:Nat} {o:O},Kx (mutL (Lk σ₀)) τ τ'→σ₀.length+17≤j→τ[j]?=some o→τ'[j]?=some o:=fun kx hj ho=>kx _ _ (not_mutL (le17 hj)) ho
  have b16':=le_lt (le_lt b13 b15) b16
  have b17':=le_lt b16' b17
  refine kk ?_
  refine⟨lel rfl,?_⟩
  refine s_class (L:=Lk σ₀) (m:=m) (k:=30+2 * d.length) (l:=[(y:Int)]) S'.ks (Nat.le_trans (by decide) (Nat.le_add_right 30 _)) (Nat.lt_of_le_of_lt (Nat.add_le_add_left (Nat.mul_le_mul_left 2 (Nat.le_of_lt_succ hd)) 30) (Nat.lt_of_lt_of_le (by decide) n0.2)) rf rfl fun σ1 ks1 kx1 ln1=>?_
  have S1:=S'.step ks1 kx1 (Nat.le_of_eq ln1.symm)
  have e16a:=hi kx1 b16' e16
  have e17a:=hi kx1 b17' e17
  have e13a:=hi kx1 b13 e13
  have e15a:=hi kx1 (le_lt b13 b15) e15
  refine siI_g e16a uf af fun σ2 eσ2=>?_
  have kx2:Kx [l16] σ1 σ2:=by rw[←eσ2];exact Kx.set (by simp)
  have ln2:σ2.length=σ1.length:=by rw[←eσ2];simp
  have S2:=S1.kx kx2 (all1 b16') (Nat.le_of_eq ln2.symm)
  have e16b:σ2[l16]?=some (.dI (faD m (d.length+1))):=by rw[←eσ2,List.getElem?_set_self (get_lt e16a)]
  have e17b:=kx2 _ _ (ni1 (Nat.ne_of_gt b17)) e17a
  have e13b:=kx2 _ _ (ni1 (Nat.ne_of_lt (Nat.lt_trans b15 b16))) e13a
  have e15b:=kx2 _ _ (ni1 (Nat.ne_of_lt b16)) e15a
  rw[show(V.int (y:Int))=V.int (el m (31+2 * d.length):Int) by rw[el2]]
  refine s_array (L:=Lk σ₀) (m:=m) (k:=31+2 * d.length) (by have:=S2.ks;rwa [show 30+2 * d.length+1=31+2 * d.length from Nat.add_right_comm 30 _ 1]at this) (Nat.lt_of_le_of_lt (Nat.add_le_add_left (Nat.mul_le_mul_left 2 (Nat.le_of_lt_succ hd)) 31) (Nat.lt_of_lt_of_le (by decide) n0.2)) f6 fun σ3 ks3 kx3 ln3=>?_
  have S3:=S2.step ks3 kx3 (Nat.le_of_eq ln3.symm)
  have e16c:=hi kx3 b16' e16b
  have e17c:=hi kx3 b17' e17b
  have e13c:=hi kx3 b13 e13b
  have e15c:=hi kx3 (le_lt b13 b15) e15b
  rw[el2]
  refine siI_g e17c ua aa fun σ4 eσ4=>?_
  have kx4:Kx [l17] σ3 σ4:=by rw[←eσ4];exact Kx.set (by simp)
  have ln4:σ4.length=σ3.length:=by rw[←eσ4];simp
  have S4:=S3.kx kx4 (all1 b17') (Nat.le_of_eq ln4.symm)
  have dl:(d++[y]).length=d.length+1:=by simp
  refine k1 _ _ (.mk ?_ (kx4 _ _ (ni1 (Nat.ne_of_lt (Nat.lt_trans b15 (Nat.lt_trans b16 b17)))) e13c) (kx4 _ _ (ni1 (Nat.ne_of_lt (Nat.lt_trans b16 b17))) e15c) ?_ ?_)
  ·rw[dl]
   have:=S4
   rwa [show 31+2 * d.length+1=30+2 * (d.length+1) from congrArg (·+1) (Nat.add_right_comm 30 1 (2 * d.length))]at this
  ·rw[dl];exact kx4 _ _ (ni1 (Nat.ne_of_lt b17)) e16c
  ·rw[dl,←eσ4,List.getElem?_set_self (get_lt e17c)]
 ·rintro ρ σ' ⟨S',e13,e15,e16,e17⟩
  rw[hlen]at S' e16 e17
  refine its_dict e16 ⟨lel rfl,?_⟩
  rw[show(faD m 5).map (fun p=>V.int p.1)=natL faL from rfl]
  refine s_asg ⟨lel rfl,?_⟩
  rw[show [V.int 7,V.int 8,V.int 5,V.int 9,V.int 6,V.int 10,V.int 3,V.int 4,V.int 2,V.int 1]=natL numL from rfl]
  refine s_asg (div_of (by decide) (by decide) ?_)
  have g:Gw σ' (σ'++[O.list (natL faL)]++[O.list (natL numL)]):=(Gw.push _ _).trans (Gw.push _ _)
  have ln:(σ'++[O.list (natL faL)]).length=σ'.length+1:=by simp
  have l17':=get_lt e17
  rw[ln]
  exact q _ σ'.length (σ'.length+1) z18 (S'.gw g) (g _ _ e13) (g _ _ e16) (g _ _ e17) l17' (Nat.lt_succ_self _) (by simp) (by simp)
end
set_option maxRecDepth 20000
noncomputable def EvI (Φ:Calls) (ρ:Rho) (σ:Store) (e:ME) (v:V):Prop:=∀σ1,Gw σ σ1→∀K:Post,K v σ1→wpE Φ e ρ σ1 K
section
variable {Φ:Calls}{ρ:Rho}{σ σ':Store}{e e' a b:ME}{v v':V}{xs ys:List V}{l i:Nat}
theorem EvI.lit:EvI Φ ρ σ (.lit v) v:=fun σ1 g K k=>k
theorem EvI.var (h:ρ[i]?=some (some v)):EvI Φ ρ σ (.var i) v:=fun σ1 g K k=>va_of h k
theorem EvI.mono (h:EvI Φ ρ σ e v) (g:Gw σ σ'):EvI Φ ρ σ' e v:=fun σ1 g1 K k=>h σ1 (g.trans g1) K k
theorem EvI.mod {x y:Nat}(h1:EvI Φ ρ σ a (.int (x:Int))) (h2:0 < y):EvI Φ ρ σ (.bop .mod a (.lit (.int (y:Int)))) (.int ((x % y:Nat):Int)):=fun σ1 g K k=>
 h1 σ1 g _ (mod_of (Int.ofNat_lt.mpr h2) k)
theorem EvI.div {x y:Nat}(h1:EvI Φ ρ σ a (.int (x:Int))) (h2:0 < y) (h3:y < 2 ^ 30):EvI Φ ρ σ (.bop .div a (.lit (.int (y:Int)))) (.int ((x / y:Nat):Int)):=fun σ1 g K k=>
 h1 σ1 g _ (div_of (Int.ofNat_lt.mpr h2) (Int.ofNat_lt.mpr h3) k)
theorem EvI.add {x y:Nat}(h1:EvI Φ ρ σ a (.int (x:Int))) (h2:EvI Φ ρ σ b (.int (y:Int))):EvI Φ ρ σ (.bop .add a b) (.int ((x+y:Nat):Int)):=fun σ1 g K k=>
 h1 σ1 g _ (h2 σ1 g _ (add_of k))
theorem EvI.at_ {x:Nat}(h1:ρ[i]?=some (some (.loc l))) (h2:σ[l]?=some (.list xs)) (h3:EvI Φ ρ σ b (.int (x:Int))) (h4:xs[x]?=some v) (h5:xs.length≤1000000):EvI Φ ρ σ (.sub (.var i) b) v:=fun σ1 g K k=>
 va_of (Φ:=Φ) h1 (h3 σ1 g _ (sub_list (g _ _ h2) h5 h4 k))
theorem EvI.tup {x:Nat}(ht:EvI Φ ρ σ a (.tup xs)) (h3:EvI Φ ρ σ b (.int (x:Int))) (h4:xs[x]?=some v) (h5:xs.length≤1000000):EvI Φ ρ σ (.sub a b) v:=fun σ1 g K k=>
 ht σ1 g _ (h3 σ1 g _ (sub_tupN h5 h4 k))
theorem EvI.tup2 (h1:EvI Φ ρ σ a v) (h2:EvI Φ ρ σ b v'):EvI Φ ρ σ (.tup [a,b]) (.tup [v,v']):=fun σ1 g K k=>
 h1 σ1 g _ (h2 σ1 g _ ⟨lel rfl,k⟩)
theorem EvI.tup3 {c:ME}{v'':V}(h1:EvI Φ ρ σ a v) (h2:EvI Φ ρ σ b v') (h3:EvI Φ ρ σ c v''):EvI Φ ρ σ (.tup [a,b,c]) (.tup [v,v',v'']):=fun σ1 g K k=>
 h1 σ1 g _ (h2 σ1 g _ (h3 σ1 g _ ⟨lel rfl,k⟩))
noncomputable def EvN (Φ:Calls) (ρ:Rho) (σ:Store) (e:ME) (xs:List V):Prop:=∀σ1,Gw σ σ1→∀K:Post,(∀σ2 l,Gw σ1 σ2→σ1.length≤l→σ2[l]?=some (.list xs)→K (.loc l) σ2)→wpE Φ e ρ σ1 K
theorem EvN.toL (h:EvN Φ ρ σ e xs):EvL Φ ρ σ e xs:=fun σ1 g K k=>h σ1 g K fun σ2 l g2 Z e2=>k σ2 l g2 e2
theorem EvN.add (ha:EvL Φ ρ σ a xs) (hb:EvL Φ ρ σ b ys) (hl:xs.length+ys.length≤1000000):EvN Φ ρ σ (.bop .add a b) (xs++ys):=fun σ1 g1 K k=>
 ha σ1 g1 _ fun σ2 l2 g2 e2=>hb σ2 (g1.trans g2) _ fun σ3 l3 g3 e3=>addL_of (g3 _ _ e2) e3 hl
  (k _ _ (g2.trans (g3.trans (Gw.push _ _))) (Nat.le_trans (gw_len g2) (gw_len g3)) (List.getElem?_concat_length ..))
theorem EvN.list1 (h:EvI Φ ρ σ e v):EvN Φ ρ σ (.list [e]) [v]:=fun σ1 g K k=>
 h σ1 g _ ⟨lel rfl,k _ _ (Gw.push _ _) (Nat.le_refl _) (List.getElem?_concat_length ..)⟩
theorem EvN.list2 (h:EvI Φ ρ σ e v) (h':EvI Φ ρ σ e' v'):EvN Φ ρ σ (.list [e,e']) [v,v']:=fun σ1 g K k=>
 h σ1 g _ (h' σ1 g _ ⟨lel rfl,k _ _ (Gw.push _ _) (Nat.le_refl _) (List.getElem?_concat_length ..)⟩)
theorem EvL.list1 (h:EvI Φ ρ σ e v):EvL Φ ρ σ (.list [e]) [v]:=(EvN.list1 h).toL
theorem EvL.list2 (h:EvI Φ ρ σ e v) (h':EvI Φ ρ σ e' v'):EvL Φ ρ σ (.list [e,e']) [v,v']:=(EvN.list2 h h').toL
theorem EvN.far (h:EvN Φ ρ σ e xs) (hh:xs=ys):EvN Φ ρ σ e ys:=hh▸h
theorem EvL.fromI {n:Nat}(h:EvL Φ ρ σ e xs) (h2:EvI Φ ρ σ b (.int (n:Int))) (hn:n < 64) (hl:xs.length≤1000000):EvL Φ ρ σ (.from_ e b) (xs.drop n):=fun σ1 g1 K k=>
 h σ1 g1 _ fun σ2 l2 g2 e2=>h2 σ2 (g1.trans g2) _ ⟨Int.natCast_nonneg _,Int.ofNat_lt.mpr hn,lis_of e2 hl (k _ _ (g2.trans (Gw.push _ _)) (List.getElem?_concat_length ..))⟩
end
noncomputable def d22:ME:=.list [(.var 8)]
noncomputable def d12:ME:=.list [(.lit (.int 12))]
noncomputable def d25:ME:=.list [(.var 9)]
noncomputable def d20:ME:=.bop .add (.list [(.lit (.int 12))]) (.from_ (.list [(.var 6)]) (.bop .mod (.var 21) (.lit (.int 2))))
noncomputable def d16:ME:=.bop .add (.list [(.lit (.int 12))]) (.from_ (.list [(.var 6)]) (.bop .mod (.bop .div (.var 21) (.lit (.int 2))) (.lit (.int 2))))
noncomputable def d17:ME:=.bop .add (.list [(.sub (.tup [(.var 3),(.lit (.int 12))]) (.bop .mod (.bop .div (.var 21) (.lit (.int 4))) (.lit (.int 2))))]) (.from_ (.list [(.var 7)]) (.bop .mod (.bop .div (.var 21) (.lit (.int 8))) (.lit (.int 2))))
noncomputable def d18:ME:=.list [(.sub (.tup [(.var 4),(.var 3),(.lit (.int 12))]) (.bop .mod (.bop .div (.var 21) (.lit (.int 16))) (.lit (.int 3)))),(.sub (.var 19) (.bop .add (.lit (.int 2)) (.bop .mod (.bop .div (.var 21) (.lit (.int 48))) (.lit (.int 3)))))]
noncomputable def d24:ME:=.list [(.var 8),(.sub (.tup [(.var 7),(.var 6),(.sub (.var 19) (.lit (.int 4)))]) (.bop .mod (.bop .div (.var 21) (.lit (.int 144))) (.lit (.int 3))))]
noncomputable def d7:ME:=.bop .add (.list [(.var 8)]) (.from_ (.list [(.var 6)]) (.bop .mod (.bop .div (.var 21) (.lit (.int 432))) (.lit (.int 2))))
noncomputable def w16:MS:=.assign 22 (.dict 0 [(.var 8),d12,(.var 9),d22,(.var 10),d12,(.lit (.int 13)),d12,(.var 12),d25,(.var 6),d12,(.var 7),d20,(.var 3),d16,(.var 4),d17,(.var 5),d18,(.var 11),d24,(.lit (.int 7)),d7])
noncomputable def rest16:List MS:=f70.body.drop 16
theorem rest70_eq:rest70=w16 :: rest16:=rfl
section
variable {m:Wm}{σ σ':Store}{n k x y t a b nn B:Nat}{c:Option Int}{Q:Post}
noncomputable abbrev ρ2 (nn B l13 l14 l15 l16 l17:Nat) (z18:Option V) (l19 l20:Nat) (z22 z23 z24 z25:Option V):Rho:=[some (.int (nn:Int)),some (.loc (B+1)),some (.loc (B+8)),some (.int 16),some (.int 17),some (.int 18),some (.int 19),some (.int 20),some (.int 21),some (.int 22),some (.int 23),some (.int 24),some (.int 25),some (.loc l13),some (.loc l14),some (.loc l15),some (.loc l16),some (.loc l17),z18,some (.loc l19),some (.loc l20),some (.int ((nn / 23:Nat):Int)),z22,z23,z24,z25]
noncomputable def OvD (m:Wm) (B:Nat) (σ:Store) (lo:Nat) (ks:List Nat) (ol:Nat→Nat):Prop:=σ[lo]?=some (.dI (ks.map fun k:Nat=>((k:Int),.loc (ol k))))∧∀k∈ks,σ[ol k]?=some (.list (natL (over m k)))∧B+17≤ol k
theorem EvL.far {Φ:Calls}{ρ:Rho}{e:ME}{xs ys:List V}(h:EvL Φ ρ σ e xs) (hh:xs=ys):EvL Φ ρ σ e ys:=hh▸h
theorem EvN.drop {Φ:Calls}{ρ:Rho}{e e' b:ME}{v:V}{z:Nat}(h1:EvI Φ ρ σ e v) (h2:EvI Φ ρ σ e' (.int (x:Int))) (h3:EvI Φ ρ σ b (.int (z:Int))):EvN Φ ρ σ (.bop .add (.list [e]) (.from_ (.list [e']) (.bop .mod b (.lit (.int 2))))) ([v]++natL (if z % 2=0 then [x] else [])):=by
 have h:=EvL.fromI (.list1 h2) (.mod (y:=2) h3 (by decide)) (Nat.lt_trans (Nat.mod_lt z (by decide)) (by decide)) (Nat.le_of_ble_eq_true rfl)
 have e:[V.int (x:Int)].drop (z % 2)=natL (if z % 2=0 then [x] else []):=by rcases Nat.mod_two_eq_zero_or_one z with h | h <;> rw[h] <;> rfl
 rw[e]at h
 exact .add (.list1 h1) h (by split <;> exact Nat.le_of_ble_eq_true rfl)
inductive DPs (Φ:Calls) (m:Wm) (ρ:Rho) (σ:Store):List ME→List Nat→Prop
 | nil:DPs Φ m ρ σ [] []
 | cons {e e':ME} {es:List ME} {k:Nat} {ks:List Nat} (h:EvI Φ ρ σ e (.int (k:Int))) (h':EvN Φ ρ σ e' (natL (over m k))) (t:DPs Φ m ρ σ es ks):DPs Φ m ρ σ (e :: e' :: es) (k :: ks)
noncomputable def flatK (ol:Nat→Nat):List Nat→List V
 | []=>[]
 | k :: ks=>.int (k:Int) :: .loc (ol k) :: flatK ol ks
theorem flatK_eq {ol ol':Nat→Nat}{ks:List Nat}(h:∀k∈ks,ol k=ol' k):flatK ol ks=flatK ol' ks:=by
 induction ks with
 | nil=>rfl
 | cons k ks ih=>
  show V.int (k:Int) :: .loc (ol k) :: flatK ol ks=V.int (k:Int) :: .loc (ol' k) :: flatK ol' ks
  rw[h k (.head _),ih fun x hx=>h x (.tail _ hx)]
theorem DPs.ev {Φ:Calls}{ρ:Rho}{es:List ME}{ks:List Nat}(h:DPs Φ m ρ σ es ks) (nd:ks.Nodup) {σ1:Store}(g:Gw σ σ1) {K:List V→Store→Prop}(q:∀σ2 ol,Gw σ1 σ2→(∀k∈ks,σ2[ol k]?=some (.list (natL (over m k)))∧σ1.length≤ol k)→∀vs,vs=flatK ol ks→K vs σ2):wpEs Φ es ρ σ1 K:=by
 induction h generalizing σ1 K with
 | nil=>exact q σ1 (fun Z=>0) (.refl _) (fun k h=>absurd h List.not_mem_nil) _ rfl
 | @cons e e' es k ks h h' t ih=>
  obtain⟨nk,nd⟩:=List.nodup_cons.mp nd
  refine h σ1 g _ (h' σ1 g _ fun σ2 p g2 l2 e2=>ih nd (g.trans g2) fun σ3 ol g3 hol vs ev=>?_)
  have kp:(if k=k then p else ol k)=p:=if_pos rfl
  have hk:∀x∈ks,ol x=(if x=k then p else ol x):=fun x hx=>(if_neg (fun e:x=k=>nk (e▸hx))).symm
  refine q σ3 (fun x=>if x=k then p else ol x) (g2.trans g3) (fun x hx=>?_) _ ?_
  ·rcases List.mem_cons.mp hx with rfl | hx
   ·rw[kp];exact⟨g3 _ _ e2,l2⟩
   ·rw[←hk x hx];exact⟨(hol x hx).1,Nat.le_trans (gw_len g2) (hol x hx).2⟩
  ·rw[ev,flatK_eq hk]
   show _=V.int (k:Int) :: .loc (if k=k then p else ol k) :: _
   rw[kp]
theorem t2 (r a b:Nat) (h:r < 2):[V.int (a:Int),V.int (b:Int)][r]?=some (.int ((if r=0 then a else b:Nat):Int)):=by
 rcases Nat.lt_succ_iff_lt_or_eq.mp h with h | rfl
 ·rw[Nat.lt_one_iff.mp h];rfl
 ·rfl
theorem t3 (r a b c:Nat) (h:r < 3):[V.int (a:Int),V.int (b:Int),V.int (c:Int)][r]?=some (.int ((if r=0 then a else if r=1 then b else c:Nat):Int)):=by
 have:∀r < 3,r=0∨r=1∨r=2:=by decide
 rcases this r h with rfl | rfl | rfl <;> rfl
theorem g5 (r:Nat) (h:r < 3):(natL faL)[2+r]?=some (.int ((34+2 * r:Nat):Int)):=by
 have:∀r < 3,r=0∨r=1∨r=2:=by decide
 rcases this r h with rfl | rfl | rfl <;> rfl
theorem w_over {R:List MS}{l13 l14 l15 l16 l17 l19 l20:Nat}{z18 z25:Option V}(hm:m=mkW nn) (h19:σ[l19]?=some (.list (natL faL))) (hB:B+17≤σ.length)
  (q:∀σ' ol,Gw σ σ'→OvD m B σ' (σ'.length - 1) (ovK.take 12) ol→(∀k∈ovK.take 12,ol k < σ'.length - 1∧σ.length≤ol k)→wpSs (C (n+7)) R (ρ2 nn B l13 l14 l15 l16 l17 z18 l19 l20 (some (.loc (σ'.length - 1))) none none z25) σ' (rtn Q)) :
  wpSs (C (n+7)) (w16 :: R) (ρ2 nn B l13 l14 l15 l16 l17 z18 l19 l20 none none none z25) σ (rtn Q):=by
 have I21:EvI (C (n+7)) (ρ2 nn B l13 l14 l15 l16 l17 z18 l19 l20 none none none z25) σ (.var 21) (.int ((nn / 23:Nat):Int)):=.var rfl
 have D:∀{y:Nat},0 < y→y < 2 ^ 30→EvI (C (n+7)) (ρ2 nn B l13 l14 l15 l16 l17 z18 l19 l20 none none none z25) σ (.bop .div (.var 21) (.lit (.int (y:Int)))) (.int ((nn / 23 / y:Nat):Int)):=fun h h'=>.div I21 h h'
 have L20:EvN (C (n+7)) (ρ2 nn B l13 l14 l15 l16 l17 z18 l19 l20 none none none z25) σ d20 (natL (over m 20)):=(EvN.drop .lit (.var rfl) I21).far (by rw[hm];rfl)
 have L16:EvN (C (n+7)) (ρ2 nn B l13 l14 l15 l16 l17 z18 l19 l20 none none none z25) σ d16 (natL (over m 16)):=(EvN.drop .lit (.var rfl) (D (y:=2) (by decide) (by decide))).far (by rw[hm];rfl)
 have L7:EvN (C (n+7)) (ρ2 nn B l13 l14 l15 l16 l17 z18 l19 l20 none none none z25) σ d7 (natL (over m 7)):=(EvN.drop (.var rfl) (.var rfl) (D (y:=432) (by decide) (by decide))).far (by rw[hm];rfl)
 have L17:EvN (C (n+7)) (ρ2 nn B l13 l14 l15 l16 l17 z18 l19 l20 none none none z25) σ d17 (natL (over m 17)):=(EvN.drop (.tup (.tup2 (.var rfl) (.lit (v:=.int ((12:Nat):Int)))) (.mod (y:=2) (D (y:=4) (by decide) (by decide)) (by decide)) (t2 _ _ _ (Nat.mod_lt _ (by decide))) (by decide)) (.var rfl) (D (y:=8) (by decide) (by decide))).far (by rw[hm];rfl)
 have L18:EvN (C (n+7)) (ρ2 nn B l13 l14 l15 l16 l17 z18 l19 l20 none none none z25) σ d18 (natL (over m 18)):=(EvN.list2 (.tup (.tup3 (.var rfl) (.var rfl) (.lit (v:=.int ((12:Nat):Int)))) (.mod (y:=3) (D (y:=16) (by decide) (by decide)) (by decide)) (t3 _ _ _ _ (Nat.mod_lt _ (by decide))) (by decide)) (.at_ rfl h19 (.add (x:=2) .lit (.mod (y:=3) (D (y:=48) (by decide) (by decide)) (by decide))) (g5 _ (Nat.mod_lt _ (by decide))) (by decide))).far (by rw[hm];rfl)
 have L24:EvN (C (n+7)) (ρ2 nn B l13 l14 l15 l16 l17 z18 l19 l20 none none none z25) σ d24 (natL (over m 24)):=(EvN.list2 (.var rfl) (.tup (.tup3 (.var rfl) (.var rfl) (.at_ (x:=4) rfl h19 .lit (v:=.int ((38:Nat):Int)) rfl (by decide))) (.mod (y:=3) (D (y:=144) (by decide) (by decide)) (by decide)) (t3 _ _ _ _ (Nat.mod_lt _ (by decide))) (by decide))).far (by rw[hm];rfl)
 have L12:EvN (C (n+7)) (ρ2 nn B l13 l14 l15 l16 l17 z18 l19 l20 none none none z25) σ d12 (natL [12]):=.list1 .lit
 refine s_asg (DPs.ev (m:=m) (ks:=ovK.take 12) (.cons (.var rfl) L12 (.cons (.var rfl) (.list1 (.var rfl)) (.cons (.var rfl) L12 (.cons .lit L12 (.cons (.var rfl) (.list1 (.var rfl)) (.cons (.var rfl) L12 (.cons (.var rfl) L20 (.cons (.var rfl) L16 (.cons (.var rfl) L17 (.cons (.var rfl) L18 (.cons (.var rfl) L24 (.cons .lit L7 .nil)))))))))))) (by decide) (.refl σ) fun σ2 ol g hol vs ev=>?_)
 refine dI_of (kvs:=(ovK.take 12).map fun k:Nat=>((k:Int),.loc (ol k))) (ev▸lel30 rfl) (ev▸rfl) (by decide:([21,22,23,13,25,19,20,16,17,18,24,7]:List Int).Nodup) ?_
 have gf:=Gw.push σ2 (.dI ((ovK.take 12).map fun k:Nat=>((k:Int),.loc (ol k))))
 have:=q _ ol (g.trans gf)
 rw[show(σ2++[O.dI ((ovK.take 12).map fun k:Nat=>((k:Int),V.loc (ol k)))]).length - 1=σ2.length by rw[List.length_append,List.length_singleton,Nat.add_sub_cancel]]at this
 exact this ⟨List.getElem?_concat_length ..,fun k hk=>⟨gf _ _ (hol k hk).1,Nat.le_trans hB (hol k hk).2⟩⟩ fun k hk=>⟨get_lt (hol k hk).1,(hol k hk).2⟩
end
set_option maxRecDepth 20000
section
variable {m:Wm}{σ σ':Store}{n k x y nn B:Nat}{Q:Post}
noncomputable def addB (ev:ME):List MS:=[(.setitem (.var 22) (.var 18) (.list [ev]))]
theorem OvD.kx {N:List Nat}{lo:Nat}{ks:List Nat}{ol:Nat→Nat}(Ov:OvD m B σ lo ks ol) (kx:Kx N σ σ') (h1:lo∉N) (h2:∀k∈ks,ol k∉N):OvD m B σ' lo ks ol:=
 ⟨kx _ _ h1 Ov.1,fun k hk=>⟨kx _ _ (h2 k hk) (Ov.2 k hk).1,(Ov.2 k hk).2⟩⟩
theorem OvD.gw {lo:Nat}{ks:List Nat}{ol:Nat→Nat}(Ov:OvD m B σ lo ks ol) (g:Gw σ σ'):OvD m B σ' lo ks ol:=
 ⟨g _ _ Ov.1,fun k hk=>⟨g _ _ (Ov.2 k hk).1,(Ov.2 k hk).2⟩⟩
theorem OvD.ne {lo:Nat}{ks:List Nat}{ol:Nat→Nat}(Ov:OvD m B σ lo ks ol) {k:Nat}(hk:k∈ks):ol k≠lo:=fun e=>by
 have:=(Ov.2 k hk).1
 rw[e,Ov.1]at this
 cases this
theorem OvD.put {lo l:Nat}{ks:List Nat}{ol:Nat→Nat}(Ov:OvD m B σ lo ks ol) (hk:k∉ks) (hl:σ[l]?=some (.list (natL (over m k)))) (hb:B+17≤l) :
  asets (ks.map fun k:Nat=>((k:Int),V.loc (ol k))) (k:Int) (.loc l)=(ks++[k]).map (fun x:Nat=>((x:Int),V.loc (if x=k then l else ol x))) ∧
  OvD m B (σ.set lo (.dI ((ks++[k]).map (fun x:Nat=>((x:Int),V.loc (if x=k then l else ol x)))))) lo (ks++[k]) (fun x=>if x=k then l else ol x):=by
 have e1:(ks.map fun x:Nat=>((x:Int),V.loc (ol x)))=ks.map fun x:Nat=>((x:Int),V.loc (if x=k then l else ol x)):=by
  apply List.map_congr_left
  intro x hx
  rw[if_neg (fun h=>hk (by rw[←h];exact hx))]
 have lne:l≠lo:=fun e=>by rw[e,Ov.1]at hl;cases hl
 refine⟨?_,by rw[List.getElem?_set_self (get_lt Ov.1)],fun x hx=>?_⟩
 ·have:=asets_map ks (fun x=>V.loc (if x=k then l else ol x)) hk
  rw[if_pos rfl]at this
  rw[e1];exact this
 ·by_cases h:x=k
  ·subst h
   dsimp only
   rw[if_pos rfl,List.getElem?_set_ne (Ne.symm lne)]
   exact⟨hl,hb⟩
  ·dsimp only
   rw[if_neg h]
   have hx':x∈ks:=by
    rcases List.mem_append.mp hx with hx | hx
    ·exact hx
    ·exact absurd (List.mem_singleton.mp hx) h
   rw[List.getElem?_set_ne (Ne.symm (Ov.ne hx'))]
   exact Ov.2 x hx'
theorem ov_loop {ev:ME}{v:V}{l13 l14 l15 l16 l17 l19 l20 lo:Nat}{z18 z23 z24 z25:Option V}{src:Store→Prop}{items ks:List Nat}{ol:Nat→Nat}{Q:PostS}(Ov:OvD m B σ lo ks ol) (hB:B+17≤σ.length) (hlo:B+17≤lo)
  (hev:∀z σ',EvI (C (n+7)) (ρ2 nn B l13 l14 l15 l16 l17 z l19 l20 (some (.loc lo)) z23 z24 z25) σ' ev v) (hov:∀k∈items,natL (over m k)=[v]) (hnd:(ks++items).Nodup) (hlen:(ks++items).length≤1000) (hsrc:∀σ',Kx [lo] σ σ'→src σ')
  (q:∀σ' ol' z,OvD m B σ' lo (ks++items) ol'→Kx [lo] σ σ'→σ.length≤σ'.length→Q .nx (ρ2 nn B l13 l14 l15 l16 l17 z l19 l20 (some (.loc lo)) z23 z24 z25) σ') :
  forItems src (fun y ρ σ' K=>wpSs (C (n+7)) (addB ev) (ρ.set 18 (some y)) σ' K) (natL items) (ρ2 nn B l13 l14 l15 l16 l17 z18 l19 l20 (some (.loc lo)) z23 z24 z25) σ Q:=by
 refine for_nat (fun d ρ σ'=>(∃z,ρ=ρ2 nn B l13 l14 l15 l16 l17 z l19 l20 (some (.loc lo)) z23 z24 z25)∧(∃ol',OvD m B σ' lo (ks++d) ol')∧Kx [lo] σ σ'∧σ.length≤σ'.length) (fun d ρ σ' h=>hsrc _ h.2.2.1) ?_ ?_ ⟨⟨_,rfl⟩,⟨ol,by rw[List.append_nil];exact Ov⟩,.refl _ _,Nat.le_refl _⟩
 ·rintro d y r e ρ σ' ⟨⟨z,rfl⟩,⟨ol',O'⟩,kx,ln⟩ K k1 k2 k3
  have hy:y∉ks++d:=by
   rw[e,←List.append_assoc,List.nodup_append]at hnd
   exact fun h=>hnd.2.2 y h y (.head _) rfl
  have hdl:(ks++d).length≤1000:=by
   rw[e,←List.append_assoc,List.length_append]at hlen;exact Nat.le_trans (Nat.le_add_right _ _) hlen
  have hov':=hov y (by rw[e];simp)
  refine EvN.list1 (hev _ σ') σ' (.refl _) _ fun σ1 l g hl el=>?_
  have O1:=O'.gw g
  rw[←hov']at el
  obtain⟨ea,O2⟩:=O1.put hy el (by lia)
  refine siI_of O1.1 (by rw[List.length_map];exact Nat.le_trans hdl (by decide)) ?_
  rw[ea]
  refine k1 _ _ ⟨⟨_,rfl⟩,⟨_,by rw[←List.append_assoc];exact O2⟩,(kx.trans (Kx.gw g)).trans (Kx.set (by simp)),?_⟩
  have:=gw_len g
  rw[List.length_set];exact Nat.le_trans ln this
 ·rintro ρ σ' ⟨⟨z,rfl⟩,⟨ol',O'⟩,kx,ln⟩
  exact q _ _ _ O' kx ln
noncomputable def w17:MS:=.forS (.inl 18) (.from_ (.var 20) (.lit (.int 1))) (addB (.var 8))
noncomputable def w18:MS:=.forS (.inl 18) (.var 19) (addB (.lit (.int 12)))
noncomputable def w19:MS:=.forS (.inl 18) (.var 17) (addB (.var 10))
noncomputable def rest19:List MS:=f70.body.drop 19
theorem rest16_eq:rest16=w17 :: w18 :: w19 :: rest19:=rfl
theorem w_over2 {R:List MS}{l13 l14 l15 l16 l17 l19 l20 lo:Nat}{z18 z25:Option V}{ol:Nat→Nat}(Ov:OvD m B σ lo (ovK.take 12) ol) (hB:B+17≤σ.length) (hlo:B+17≤lo) (h20:σ[l20]?=some (.list (natL numL))) (h19:σ[l19]?=some (.list (natL faL))) (h17:σ[l17]?=some (.dI (arD m 5))) (n17:l17≠lo)
  (q:∀σ' ol' z,OvD m B σ' lo ovK ol'→Kx [lo] σ σ'→σ.length≤σ'.length→wpSs (C (n+7)) R (ρ2 nn B l13 l14 l15 l16 l17 z l19 l20 (some (.loc lo)) none none z25) σ' (rtn Q)) :
  wpSs (C (n+7)) (w17 :: w18 :: w19 :: R) (ρ2 nn B l13 l14 l15 l16 l17 z18 l19 l20 (some (.loc lo)) none none z25) σ (rtn Q):=by
 have u20:(natL numL).length≤1000000:=by decide
 have u19:(natL faL).length≤1000000:=by decide
 have n19:l19≠lo:=fun e=>by rw[e,Ov.1]at h19;cases h19
 have et:(natL numL).drop 1=natL [8,5,9,6,10,3,4,2,1]:=rfl
 refine⟨by decide,by decide,lis_of h20 u20 ?_⟩
 rw[show List.drop (Int.toNat 1) (natL numL)=natL [8,5,9,6,10,3,4,2,1] from rfl]
 have eN:(σ++[O.list (natL [8,5,9,6,10,3,4,2,1])])[σ.length]?=some (.list (natL [8,5,9,6,10,3,4,2,1])):=by simp
 have lo_lt:=get_lt Ov.1
 refine its_list eN ⟨lel rfl,?_⟩
 have u9:(natL [8,5,9,6,10,3,4,2,1]).length≤1000000:=by decide
 have g:=Gw.push σ (.list (natL [8,5,9,6,10,3,4,2,1]))
 have bN:=Nat.le_trans hB (gw_len g)
 refine ov_loop (Ov.gw g) bN hlo (v:=.int 21) (fun z σ'=>.var rfl) (fun k hk=>?_) (by decide) (by decide) (fun σ' kx=>(kx _ _ (ni1 (Nat.ne_of_gt lo_lt)) eN).trans eN.symm) fun σ1 ol1 z1 O1 kx1 ln1=>?_
 ·have:k=8∨k=5∨k=9∨k=6∨k=10∨k=3∨k=4∨k=2∨k=1:=by simpa using hk
  rcases this with rfl | rfl | rfl | rfl | rfl | rfl | rfl | rfl | rfl <;> rfl
 have b1:=Nat.le_trans bN ln1
 have h19a:=kx1 _ _ (ni1 n19) (g _ _ h19)
 have h17a:=kx1 _ _ (ni1 n17) (g _ _ h17)
 refine its_list h19a ⟨u19,?_⟩
 refine ov_loop O1 b1 hlo (v:=.int 12) (fun z σ'=>.lit) (fun k hk=>?_) (by decide) (by decide) (fun σ' kx=>(kx _ _ (ni1 n19) h19a).trans h19a.symm) fun σ2 ol2 z2 O2 kx2 ln2=>?_
 ·have:k=30∨k=32∨k=34∨k=36∨k=38:=by simpa[faL] using hk
  rcases this with rfl | rfl | rfl | rfl | rfl <;> rfl
 have b2:=Nat.le_trans b1 ln2
 have h17b:=kx2 _ _ (ni1 n17) h17a
 have ek:(arD m 5).map (fun p=>V.int p.1)=natL arL:=rfl
 have u5:(natL arL).length≤1000000:=by decide
 refine its_dict h17b ⟨u5,?_⟩
 rw[ek]
 refine ov_loop O2 b2 hlo (v:=.int 23) (fun z σ'=>.var rfl) (fun k hk=>?_) (by decide) (by decide) (fun σ' kx=>(kx _ _ (ni1 n17) h17b).trans h17b.symm) fun σ3 ol3 z3 O3 kx3 ln3=>?_
 ·have:k=31∨k=33∨k=35∨k=37∨k=39:=by simpa[arL] using hk
  rcases this with rfl | rfl | rfl | rfl | rfl <;> rfl
 exact q σ3 ol3 z3 O3 (((Kx.gw g).trans kx1).trans (kx2.trans kx3)) (Nat.le_trans (gw_len g) (Nat.le_trans ln1 (Nat.le_trans ln2 ln3)))
end
set_option maxRecDepth 20000
section
variable {m:Wm}{L:KtL}{σ₀ σ σ':Store}{n k x y i a b nn:Nat}{Q:Post}{NF NF':List (Nat×V)}{F Bo Gf F':List (Int×V)}
theorem K2.ksset (h:K2 m σ₀ σ k NF F Bo Gf) {j:Nat}{o:O}(hj:σ₀.length+7≤j):KS m (σ.set j o) (Lk σ₀) k∧Gw σ₀ (σ.set j o):=by
 refine⟨h.ks.kx (Kx.set (L:=[j]) (by simp)) fun i hi h'=>?_,fun i x e=>?_⟩
 ·rw[List.mem_singleton.mp h']at hi
  exact Nat.not_le.mpr (ktP_in hi).2 hj
 ·rw[List.getElem?_set_ne (Nat.ne_of_gt (Nat.lt_of_lt_of_le (get_lt e) (Nat.le_trans (Nat.le_add_right ..) hj)))];exact h.old _ _ e
theorem K2.setfa (h:K2 m σ₀ σ k NF F Bo Gf):K2 m σ₀ (σ.set (σ₀.length+10) (.dI F')) k NF F' Bo Gf:=by
 obtain⟨a,b⟩:=h.ksset (o:=.dI F') (j:=σ₀.length+10) (up7 _ 10 rfl)
 have l:=get_lt h.fa
 refine⟨a,b,?_,?_,by rw[List.getElem?_set_self l],?_,?_,by rw[List.length_set];exact h.len⟩ <;> rw[List.getElem?_set_ne (nac rfl)]
 ·exact h.hi
 ·exact h.hd
 ·exact h.bo
 ·exact h.gf
theorem K2.sethd (h:K2 m σ₀ σ k NF F Bo Gf):K2 m σ₀ (σ.set (σ₀.length+7) (.ns NF')) k NF' F Bo Gf:=by
 obtain⟨a,b⟩:=h.ksset (o:=.ns NF') (j:=σ₀.length+7) (Nat.le_refl _)
 have l:=get_lt h.hd
 refine⟨a,b,?_,by rw[List.getElem?_set_self l],?_,?_,?_,by rw[List.length_set];exact h.len⟩ <;> rw[List.getElem?_set_ne (nac rfl)]
 ·exact h.hi
 ·exact h.fa
 ·exact h.bo
 ·exact h.gf
inductive HSet (m:Wm) (σ₀ σ:Store) (k:Nat) (NF NF':List (Nat×V)) (F Bo Gf kvs:List (Int×V)):Prop
 | mk (σ':Store) (e:(σ++[O.dI kvs]).set (σ₀.length+7) (.ns NF')=σ') (T:K2 m σ₀ (σ++[O.dI kvs]) k NF F Bo Gf) (S:K2 m σ₀ σ' k NF' F Bo Gf) (kx:Kx [σ₀.length+7] σ σ') (lt:σ.length < σ'.length) (hb:σ'[σ.length]?=some (.dI kvs)):HSet m σ₀ σ k NF NF' F Bo Gf kvs
theorem K2.hset (h:K2 m σ₀ σ k NF F Bo Gf) (NF':List (Nat×V)) (kvs:List (Int×V)):HSet m σ₀ σ k NF NF' F Bo Gf kvs:=by
 have T:=h.gw (Gw.push σ (.dI kvs))
 refine⟨_,rfl,T,T.sethd,(Kx.gw (Gw.push _ _)).trans (Kx.set (.head _)),?_,?_⟩
 ·rw[List.length_set,List.length_append];exact Nat.lt_succ_self _
 ·rw[List.getElem?_set_ne (Nat.ne_of_lt (get_lt h.hd))];exact List.getElem?_concat_length ..
theorem comp_filt {cond:V→Rho→Store→(Bool→Store→Prop)→Prop}{elt:V→Rho→Store→Post→Prop}{src:Store→Prop}{acc:Nat}{ρ:Rho}{Q:Store→Prop}(p:Nat→Bool) :
  ∀(l:List Nat) (out:List V) (σ:Store),σ[acc]?=some (.list out)→out.length+l.length≤100000→(∀out',src (σ.set acc (.list out')))→(∀y∈l,∀out' K,K (p y) (σ.set acc (.list out'))→cond (.int y) ρ (σ.set acc (.list out')) K) →
   (∀y∈l,∀out' K,K (.int y) (σ.set acc (.list out'))→elt (.int y) ρ (σ.set acc (.list out')) K)→Q (σ.set acc (.list (out++natL (l.filter p))))→compItems cond elt src acc ρ (natL l) out σ Q:=by
 intro l
 have self:∀(σ:Store) (out:List V),σ[acc]?=some (.list out)→σ.set acc (.list out)=σ:=fun σ out h1=>set_same h1
 induction l with
 | nil=>
  intro out σ h1 h2 hs hc he q
  have:=hs out
  rw[List.filter_nil,show natL []=[] from rfl,List.append_nil]at q
  rw[self σ out h1]at this q
  exact⟨this,h1,q⟩
 | cons y l ih=>
  intro out σ h1 h2 hs hc he q
  have hs0:=hs out
  rw[self σ out h1]at hs0
  rw[List.length_cons]at h2
  refine⟨hs0,h1,Nat.le_trans (Nat.le_add_right _ _) (Nat.le_trans h2 (by decide)),?_⟩
  have hc0:=hc y (.head _) out
  rw[self σ out h1]at hc0
  refine hc0 _ ?_
  cases hp:p y with
  | false=>
   refine ih out σ h1 (Nat.le_trans (Nat.add_le_add_left (Nat.le_succ _) _) h2) hs (fun y' hy'=>hc y' (.tail _ hy')) (fun y' hy'=>he y' (.tail _ hy')) ?_
   rw[List.filter_cons,hp]at q
   exact q
  | true=>
   have he0:=he y (.head _) out
   rw[self σ out h1]at he0
   refine he0 _ ⟨h1,?_⟩
   refine ih (out++[.int y]) (σ.set acc (.list (out++[.int y]))) (by rw[List.getElem?_set_self (get_lt h1)]) (by rw[List.length_append,List.length_singleton,Nat.add_assoc,Nat.add_comm 1];exact h2) (fun out'=>by rw[List.set_set];exact hs out') (fun y' hy' out' K hK=>?_) (fun y' hy' out' K hK=>?_) ?_
   ·rw[List.set_set]at hK ⊢;exact hc y' (.tail _ hy') out' K hK
   ·rw[List.set_set]at hK ⊢;exact he y' (.tail _ hy') out' K hK
   ·rw[List.set_set,List.append_assoc]
    rw[List.filter_cons,hp]at q
    exact q
noncomputable def c20:MC:=.any [(.ex (.cmp .inn (.var 25) (.var 19))),(.ex (.cmp .inn (.var 25) (.tup [(.var 6),(.var 7)])))]
noncomputable def e20:ME:=.comp 25 (.sub (.var 22) (.var 18)) [c20] (.var 25)
noncomputable def b20:List MS:=[(.setitem (.attr (.var 2) 7) (.var 18) (.tupOf e20))]
noncomputable def w20:MS:=.forS (.inl 18) (.var 22) b20
noncomputable def rest20:List MS:=f70.body.drop 20
theorem rest19_eq:rest19=w20 :: rest20:=rfl
noncomputable def ifD (m:Wm) (ks:List Nat):List (Int×V):=ks.map fun k:Nat=>((k:Int),V.tup (natL (ifs m k)))
theorem if_mem:∀x∈nvL,(decide (x∈faL) || decide (x∈[19,20]))=isIf x:=by decide
theorem ovK_nv:∀k∈ovK,k∈nvL:=by decide
inductive IcI (m:Wm) (σ₀ σ:Store) (nn l13 l14 l15 l16 l17 l19 l20 lo:Nat) (d:List Nat):Rho→Store→Prop
 | mk {z z':Option V} {r:List Nat} {σ':Store} (h:ovK=d++r) (S:K2 m σ₀ σ' 40 (NF0 σ₀.length) (ifD m d) [] []) (kx:Kx [σ₀.length+10] σ σ') (ln:σ.length≤σ'.length) :
   IcI m σ₀ σ nn l13 l14 l15 l16 l17 l19 l20 lo d (ρ2 nn σ₀.length l13 l14 l15 l16 l17 z l19 l20 (some (.loc lo)) none none z') σ'
theorem w_ifaces {R:List MS}{l13 l14 l15 l16 l17 l19 l20 lo:Nat}{z18 z25:Option V}{ol:Nat→Nat}(ok:WOk m) (S:K2 m σ₀ σ 40 (NF0 σ₀.length) [] [] [])
  (Ov:OvD m σ₀.length σ lo ovK ol) (hlo:σ₀.length+17≤lo) (h19:σ[l19]?=some (.list (natL faL))) (b19:σ₀.length+17≤l19)
  (q:∀σ' z z',K2 m σ₀ σ' 40 (NF0 σ₀.length) (ifD m ovK) [] []→Kx [σ₀.length+10] σ σ'→σ.length≤σ'.length →
   wpSs (C (n+7)) R (ρ2 nn σ₀.length l13 l14 l15 l16 l17 z l19 l20 (some (.loc lo)) none none z') σ' (rtn Q)) :
  wpSs (C (n+7)) (w20 :: R) (ρ2 nn σ₀.length l13 l14 l15 l16 l17 z18 l19 l20 (some (.loc lo)) none none z25) σ (rtn Q):=by
 have ek:(ovK.map fun k:Nat=>((k:Int),V.loc (ol k))).map (fun p=>V.int p.1)=natL ovK:=rfl
 have u:(natL ovK).length≤1000000:=by decide
 refine its_dict Ov.1 ⟨u,?_⟩
 rw[ek]
 have lne:lo≠σ₀.length+10:=ne17 hlo rfl
 refine for_nat (IcI m σ₀ σ nn l13 l14 l15 l16 l17 l19 l20 lo) (fun d ρ σ' h=>by
  show σ'[lo]?=σ[lo]?
  have kx:Kx [σ₀.length+10] σ σ':=by cases h;assumption
  rw[kx _ _ (ni1 lne) Ov.1,Ov.1]) ?_ ?_ (.mk rfl S (.refl _ _) (Nat.le_refl _))
 ·rintro d y r e ρ σ' ⟨-,S',kx,ln⟩ K k1 k2 k3
  have hy:y∈ovK:=by rw[e];simp
  have hyn:y∉d:=by
   have:ovK.Nodup:=by decide
   rw[e,List.nodup_append]at this
   exact fun h=>this.2.2 y h y (.head _) rfl
  have hl31:ovK.length=31:=rfl
  have hdl:d.length≤31:=by rw[←hl31,e];simp
  have ynv:=ovK_nv y hy
  have Ov':=Ov.kx kx (ni1 lne) (fun k hk=>ni1 (ne17 (Ov.2 k hk).2 rfl))
  have hol:=(Ov'.2 y hy).1
  have lk:lookO σ' (.loc lo) (.int (y:Int))=some (some (.loc (ol y))):=by
   rw[loo_dI Ov'.1,agets_loc ovK (fun k=>V.loc (ol k)),if_pos hy]
  have h19':=kx _ _ (ni1 (ne17 b19 rfl)) h19
  have hov:=Ov'.1
  have ovl:=over_len ok ynv
  refine sub_look lk (seq_dI hov) (its_list hol ?_)
  have ss:∀o,(σ'++[O.list []]).set σ'.length o=σ'++[o]:=fun o=>by simp
  refine comp_filt isIf (over m y) [] _ (by simp) (by rw[List.length_nil,Nat.zero_add];exact Nat.le_trans ovl (by decide)) (fun out'=>?_) (fun x hx out' K hK=>?_) (fun x hx out' K hK=>hK) ?_
  ·rw[ss]
   show(σ'++[O.list out'])[ol y]?=σ'[ol y]?
   rw[List.getElem?_append_left (get_lt hol)]
  ·rw[ss]at hK ⊢
   have hxn:=(over_nv ok ynv x hx).1
   have h19a:=Gw.push σ' (.list out') _ _ h19'
   have im:=if_mem x hxn
   refine in_nat h19a ?_
   cases h1:decide (x∈faL) with
   | true=>
    rw[h1,Bool.true_or]at im
    rw[←im]at hK
    exact hK
   | false=>
    rw[h1,Bool.false_or]at im
    rw[←im]at hK
    exact⟨lel rfl,in_natT (xs:=[19,20]) (by cases h2:decide (x∈[19,20]) <;> rw[h2]at hK <;> exact hK)⟩
  ·rw[ss,List.nil_append,show natL ((over m y).filter isIf)=natL (ifs m y) from rfl]
   have g:=Gw.push σ' (.list (natL (ifs m y)))
   have S1:=S'.gw g
   have el:(σ'++[O.list (natL (ifs m y))])[σ'.length]?=some (.list (natL (ifs m y))):=by simp
   have il:=ifs_len ok ynv
   have u1:(natL (ifs m y)).length≤line:=by rw[natL_len];exact Nat.le_trans il (by decide)
   have u2:(ifD m d).length≤line:=by rw[ifD,List.length_map];exact Nat.le_trans hdl (by decide)
   have ea:asets (ifD m d) (y:Int) (.tup (natL (ifs m y)))=ifD m (d++[y]):=asets_map d (fun k=>V.tup (natL (ifs m k))) hyn
   have S2:=S1.setfa (F':=ifD m (d++[y]))
   refine lis_of el u1 (at_of S1.hi S1.hd rfl (siI_g S1.fa u2 ea fun σ4 e4=>?_))
   rw[←e4]
   exact k1 _ _ (.mk (r:=r) (by rw[e,List.append_assoc];rfl) S2 ((kx.trans (Kx.gw g)).trans (Kx.set (by simp))) (by rw[List.length_set];exact Nat.le_trans ln (gw_len g)))
 ·rintro ρ σ' ⟨-,S',kx,ln⟩
  exact q _ _ _ S' kx ln
end
set_option maxRecDepth 20000
section
variable {m:Wm}{σ₀ σ σ':Store}{n k nn B:Nat}{Q:Post}{F:List (Int×V)}
noncomputable def w21:MS:=.setattr (.var 2) 6 (.dict 0 [(.var 4),(.sub (.sub (.var 22) (.var 4)) (.lit (.int 0))),(.var 5),(.sub (.sub (.var 22) (.var 5)) (.lit (.int 0)))])
noncomputable def w22:MS:=.setattr (.var 2) 8 (.dict 0 [(.lit (.int 67)),(.lit (.int 3)),(.lit (.int 68)),(.lit (.int 3)),(.lit (.int 69)),(.lit (.int 3)),(.lit (.int 70)),(.lit (.int 2)),(.lit (.int 71)),(.lit (.int 5))])
noncomputable def w23:MS:=.setattr (.var 2) 10 (.dict 0 [(.var 12),(.sub (.var 20) (.bop .mod (.bop .div (.var 0) (.lit (.int 29))) (.lit (.int 8))))])
noncomputable def rest23:List MS:=f70.body.drop 23
theorem rest20_eq:rest20=w21 :: w22 :: w23 :: rest23:=rfl
noncomputable def NFx (B ba so va un:Nat):List (Nat×V):=[(5,.loc (B+1)),(6,.loc ba),(7,.loc (B+10)),(8,.loc so),(9,.loc va),(10,.loc un),(11,.loc (B+14)),(12,.loc (B+15)),(13,.loc (B+16))]
theorem w_attrs {R:List MS}{l13 l14 l15 l16 l17 l19 l20 lo:Nat}{z18 z25:Option V}{ol:Nat→Nat}(hm:m=mkW nn) (S:K2 m σ₀ σ 40 (NF0 σ₀.length) F [] []) (Ov:OvD m σ₀.length σ lo ovK ol) (h20:σ[l20]?=some (.list (natL numL)))
  (q:∀σ' ba so un,K2 m σ₀ σ' 40 (NFx σ₀.length ba so (σ₀.length+12) un) F [] []→Kx [σ₀.length+7] σ σ'→σ.length≤σ'.length→σ.length≤ba→σ.length≤so→σ.length≤un→σ'[ba]?=some (dInt (Dm m).bases)→σ'[so]?=some (dInt (Dm m).sorts)→σ'[un]?=some (dInt (Dm m).unders) →
   wpSs (C (n+7)) R (ρ2 nn σ₀.length l13 l14 l15 l16 l17 z18 l19 l20 (some (.loc lo)) none none z25) σ' (rtn Q)) :
  wpSs (C (n+7)) (w21 :: w22 :: w23 :: R) (ρ2 nn σ₀.length l13 l14 l15 l16 l17 z18 l19 l20 (some (.loc lo)) none none z25) σ (rtn Q):=by
 have h17:=(Ov.2 17 (by decide)).1
 have h18:=(Ov.2 18 (by decide)).1
 have lk:∀k∈ovK,lookO σ (.loc lo) (.int (k:Int))=some (some (.loc (ol k))):=fun k hk=>by
  rw[loo_dI Ov.1,agets_loc ovK (fun k=>V.loc (ol k)),if_pos hk]
 have lk17:lookO σ (.loc lo) (.int 17)=_:=lk 17 (by decide)
 have lk18:lookO σ (.loc lo) (.int 18)=_:=lk 18 (by decide)
 have e17:(natL (over m 17))[0]?=some (.int (((over m 17).headD 0:Nat):Int)):=by rw[show over m 17=(if m.r2=0 then 16 else 12) :: (if m.r3=0 then [20] else []) from rfl];rfl
 have e18:(natL (over m 18))[0]?=some (.int (((over m 18).headD 0:Nat):Int)):=by rw[show over m 18=[if m.r4=0 then 17 else if m.r4=1 then 16 else 12,34+2 * m.r5] from rfl];rfl
 have u17:(natL (over m 17)).length≤1000000:=by rw[natL_len];exact Nat.le_trans (over_len (hm▸mkW_ok nn) (by decide)) (by decide)
 have u18:(natL (over m 18)).length≤1000000:=by rw[natL_len];exact Nat.le_trans (over_len (hm▸mkW_ok nn) (by decide)) (by decide)
 have hov:=Ov.1
 refine sub_look lk17 (seq_dI hov) (sub_list (k:=0) h17 u17 e17 (sub_look lk18 (seq_dI hov) (sub_list (k:=0) h18 u18 e18 ?_)))
 refine dI_of (kvs:=[((17:Int),V.int (((over m 17).headD 0:Nat):Int)),((18:Int),V.int (((over m 18).headD 0:Nat):Int))]) (lel30 rfl) rfl (by decide:([17,18]:List Int).Nodup) ?_
 obtain⟨σ1,eσ1,T1,S1,kx1,lt1,hb1⟩:=S.hset (NFx σ₀.length σ.length (σ₀.length+11) (σ₀.length+12) (σ₀.length+13)) [((17:Int),V.int (((over m 17).headD 0:Nat):Int)),((18:Int),V.int (((over m 18).headD 0:Nat):Int))]
 refine sat_of T1.hi T1.hd (show 9≤30 by decide) ?_
 rw[show asets (NF0 σ₀.length) 6 (.loc σ.length)=NFx σ₀.length σ.length (σ₀.length+11) (σ₀.length+12) (σ₀.length+13) from rfl,eσ1]
 refine dI_of (kvs:=[((67:Int),V.int 3),((68:Int),V.int 3),((69:Int),V.int 3),((70:Int),V.int 2),((71:Int),V.int 5)]) (lel30 rfl) rfl (by decide:([67,68,69,70,71]:List Int).Nodup) ?_
 obtain⟨σ2,eσ2,T2,S2,kx2,lt2,hb2⟩:=S1.hset (NFx σ₀.length σ.length σ1.length (σ₀.length+12) (σ₀.length+13)) [((67:Int),V.int 3),((68:Int),V.int 3),((69:Int),V.int 3),((70:Int),V.int 2),((71:Int),V.int 5)]
 refine sat_of T2.hi T2.hd (show 9≤30 by decide) ?_
 rw[show asets (NFx σ₀.length σ.length (σ₀.length+11) (σ₀.length+12) (σ₀.length+13)) 8 (.loc σ1.length)=NFx σ₀.length σ.length σ1.length (σ₀.length+12) (σ₀.length+13) from rfl,eσ2]
 obtain⟨σ3,eσ3,T3,S3,kx3,lt3,hb3⟩:=S2.hset (NFx σ₀.length σ.length σ1.length (σ₀.length+12) σ2.length) [((25:Int),V.int ((m.un:Nat):Int))]
 have ne20:l20≠σ₀.length+7:=fun e=>by rw[e,S.hd]at h20;cases h20
 have h20':σ2[l20]?=some (.list (natL numL)):=(kx1.trans kx2) _ _ (ni1 ne20) h20
 have q29:(natL numL)[nn / 29 % 8]?=some (.int ((m.un:Nat):Int)):=by rw[hm];exact natL_at (Nat.lt_of_lt_of_le (Nat.mod_lt _ (by decide:0 < 8)) (by decide))
 refine div_of (by decide) (by decide) (mod_of (by decide) (sub_list (k:=nn / 29 % 8) h20' (by decide:(natL numL).length≤1000000) q29 ?_))
 refine dI_of (kvs:=[((25:Int),V.int ((m.un:Nat):Int))]) (lel30 rfl) rfl (by decide:([25]:List Int).Nodup) ?_
 refine sat_of T3.hi T3.hd (show 9≤30 by decide) ?_
 rw[show asets (NFx σ₀.length σ.length σ1.length (σ₀.length+12) (σ₀.length+13)) 10 (.loc σ2.length)=NFx σ₀.length σ.length σ1.length (σ₀.length+12) σ2.length from rfl,eσ3]
 have b7:=get_lt S.hd
 have b1:=Nat.lt_trans b7 lt1
 have hss:=kx3 _ _ (ni1 (Nat.ne_of_gt b1)) hb2
 have hbb:=kx3 _ _ (ni1 (Nat.ne_of_gt b7)) (kx2 _ _ (ni1 (Nat.ne_of_gt b7)) hb1)
 have l12:=Nat.le_of_lt (Nat.lt_trans lt1 lt2)
 exact q σ3 σ.length σ1.length σ2.length S3 ((kx1.trans kx2).trans kx3) (le_lt l12 lt3) (Nat.le_refl _) (Nat.le_of_lt lt1) l12 hbb hss hb3
end
set_option maxRecDepth 20000
section
variable {m:Wm}{σ₀ σ σ':Store}{n k i nn B:Nat}{Q:Post}{F:List (Int×V)}
noncomputable def w24:MS:=.assign 23 (.dict 1 [(.lit (.str 0)),(.var 12),(.lit (.str 3)),(.list [(.var 4),(.var 5),(.var 3)]),(.lit (.str 10)),(.list [(.var 6),(.sub (.var 19) (.lit (.int 0))),(.var 7),(.sub (.var 19) (.lit (.int 2)))]),(.lit (.str 11)),(.list [(.var 11),(.var 12),(.lit (.int 7))])])
noncomputable def w25:MS:=.setitem (.var 23) (.lit (.str 9)) (.list [(.var 8),(.var 9)])
noncomputable def w26:MS:=.setitem (.var 23) (.lit (.str 7)) (.sub (.tup [(.lit (.int 1)),(.lit (.int 2)),(.lit (.int 0))]) (.bop .mod (.bop .div (.var 0) (.lit (.int 7))) (.lit (.int 3))))
noncomputable def w27:MS:=.setattr (.var 2) 9 (.dict 0 [(.lit (.int 69)),(.tup [(.sub (.var 23) (.lit (.str 7)))])])
noncomputable def rest27:List MS:=f70.body.drop 27
theorem rest23_eq:rest23=w24 :: w25 :: w26 :: w27 :: rest27:=rfl
noncomputable def wD1 (B:Nat) (m:Wm):List (Nat×V):=[(0,.int 25),(3,.loc B),(10,.loc (B+1)),(11,.loc (B+2)),(9,.loc (B+4)),(7,.int (m.way:Int))]
theorem w_dict1 {R:List MS}{l13 l14 l15 l16 l17 l19 l20 lo ba so un:Nat}{z18 z25:Option V}(hm:m=mkW nn) (S:K2 m σ₀ σ 40 (NFx σ₀.length ba so (σ₀.length+12) un) F [] []) (h19:σ[l19]?=some (.list (natL faL)))
  (q:∀σ' va,K2 m σ₀ σ' 40 (NFx σ₀.length ba so va un) F [] []→Kx [σ₀.length+7] σ σ'→σ.length+5≤σ'.length→σ.length≤va→σ'[va]?=some (dTup (Dm m).variances)→σ'[σ.length]?=some (.list (natL [17,18,16]))→σ'[σ.length+1]?=some (.list (natL [19,30,20,34]))→σ'[σ.length+2]?=some (.list (natL [24,25,7]))→σ'[σ.length+3]?=some (.dS (wD1 σ.length m))→σ'[σ.length+4]?=some (.list (natL [21,22])) →
   wpSs (C (n+7)) R (ρ2 nn σ₀.length l13 l14 l15 l16 l17 z18 l19 l20 (some (.loc lo)) (some (.loc (σ.length+3))) none z25) σ' (rtn Q)) :
  wpSs (C (n+7)) (w24 :: w25 :: w26 :: w27 :: R) (ρ2 nn σ₀.length l13 l14 l15 l16 l17 z18 l19 l20 (some (.loc lo)) none none z25) σ (rtn Q):=by
 have b7:σ₀.length+7 < σ.length:=get_lt S.hd
 have a0:(natL faL)[0]?=some (.int 30):=rfl
 have a2:(natL faL)[2]?=some (.int 34):=rfl
 have uf:(natL faL).length≤1000000:=by decide
 have p1:=Gw.push σ (.list [V.int 17,V.int 18,V.int 16]) _ _ h19
 refine s_asg ⟨lel rfl,sub_list (k:=0) p1 uf a0 (sub_list (k:=2) p1 uf a2 ⟨lel rfl,?_⟩)⟩
 rw[lnk σ,List.append_assoc σ]
 refine⟨lel rfl,?_⟩
 rw[lnk σ,List.append_assoc σ]
 refine dS_of (kvs:=[(0,.int 25),(3,.loc σ.length),(10,.loc (σ.length+1)),(11,.loc (σ.length+2))]) (lel30 rfl) rfl (by decide:([0,3,10,11]:List Nat).Nodup) ?_
 rw[lnk σ,List.append_assoc σ]
 refine⟨lel rfl,?_⟩
 rw[lnk σ,List.append_assoc σ]
 refine siS_of (kvs:=[(0,.int 25),(3,.loc σ.length),(10,.loc (σ.length+1)),(11,.loc (σ.length+2))]) (gk _ _ 3) (Nat.le_of_ble_eq_true rfl) ?_
 rw[sk]
 have q7:[V.int 1,V.int 2,V.int 0][nn / 7 % 3]?=some (.int ((m.way:Nat):Int)):=by
  rw[hm]
  exact natL_at (l:=[1,2,0]) (Nat.mod_lt _ (by decide))
 refine⟨lel rfl,div_of (by decide) (by decide) (mod_of (by decide) (sub_tupN (k:=nn / 7 % 3) (lel rfl) q7 (siS_of (kvs:=[(0,.int 25),(3,.loc σ.length),(10,.loc (σ.length+1)),(11,.loc (σ.length+2)),(9,.loc (σ.length+4))]) (gk _ _ 3) (Nat.le_of_ble_eq_true rfl) ?_)))⟩
 rw[sk]
 show wpSs (C (n+7)) (w27 :: R) (ρ2 nn σ₀.length l13 l14 l15 l16 l17 z18 l19 l20 (some (.loc lo)) (some (.loc (σ.length+3))) none z25) (σ++[O.list [V.int 17,V.int 18,V.int 16],O.list [V.int 19,V.int 30,V.int 20,V.int 34],O.list [V.int 24,V.int 25,V.int 7],O.dS (wD1 σ.length m),O.list [V.int 21,V.int 22]]) (rtn Q)
 obtain⟨τ,eτ⟩:∃τ,σ++[O.list [V.int 17,V.int 18,V.int 16],O.list [V.int 19,V.int 30,V.int 20,V.int 34],O.list [V.int 24,V.int 25,V.int 7],O.dS (wD1 σ.length m),O.list [V.int 21,V.int 22]]=τ:=⟨_,rfl⟩
 have gt:Gw σ τ:=by rw[←eτ];exact Gw.app _ _
 have lt:τ.length=σ.length+5:=by rw[←eτ,lnk];rfl
 have at_:∀i,τ[σ.length+i]?=[O.list [V.int 17,V.int 18,V.int 16],O.list [V.int 19,V.int 30,V.int 20,V.int 34],O.list [V.int 24,V.int 25,V.int 7],O.dS (wD1 σ.length m),O.list [V.int 21,V.int 22]][i]?:=fun i=>by rw[←eτ];exact gk _ _ _
 have f0:τ[σ.length]?=_:=at_ 0
 have f1:=at_ 1
 have f2:=at_ 2
 have f3:=at_ 3
 have f4:=at_ 4
 have S1:=S.gw gt
 simp only[List.getElem?_cons_zero,List.getElem?_cons_succ]at f0 f1 f2 f3 f4
 rw[eτ]
 obtain⟨τ3,eτ3,S2,S3,kx,l3,hb⟩:=S1.hset (NFx σ₀.length ba so τ.length un) [((69:Int),V.tup [V.int (m.way:Int)])]
 refine sub_dS f3 rfl ⟨lel rfl,dI_of (kvs:=[((69:Int),V.tup [V.int (m.way:Int)])]) (lel30 rfl) rfl (by decide:([69]:List Int).Nodup) ?_⟩
 refine sat_of S2.hi S2.hd (show 9≤30 by decide) ?_
 rw[show asets (NFx σ₀.length ba so (σ₀.length+12) un) 9 (.loc τ.length)=NFx σ₀.length ba so τ.length un from rfl,eτ3]
 have nx:∀{i:Nat} {o:O},τ[σ.length+i]?=some o→τ3[σ.length+i]?=some o:=fun h=>kx _ _ (ni1 (Nat.ne_of_gt (Nat.lt_of_lt_of_le b7 (Nat.le_add_right ..)))) h
 have l5:=lt▸Nat.le_of_lt l3
 exact q τ3 τ.length S3 ((Kx.gw gt).trans kx) l5 (gw_len gt) hb (nx (i:=0) f0) (nx f1) (nx f2) (nx f3) (nx f4)
end
set_option maxRecDepth 20000
section
variable {m:Wm}{σ σ':Store}{n k i nn B:Nat}{Q:Post}
noncomputable def w28:MS:=.setitem (.var 23) (.lit (.str 1)) (.var 22)
noncomputable def w29:MS:=.setitem (.var 23) (.lit (.str 6)) (.var 16)
noncomputable def w30:MS:=.setitem (.var 23) (.lit (.str 5)) (.var 17)
noncomputable def w31:MS:=.setitem (.var 23) (.lit (.str 2)) (.dict 0 [])
noncomputable def e32l:ME:=.list [(.lit (.int 12)),(.lit (.int 13)),(.var 3),(.var 4),(.var 5),(.var 6),(.var 7),(.var 8),(.var 9),(.var 10)]
noncomputable def e32:ME:=.bop .add (.bop .add e32l (.var 19)) (.listOf (.var 17))
noncomputable def w32:MS:=.setitem (.var 23) (.lit (.str 4)) e32
noncomputable def rest32:List MS:=f70.body.drop 32
theorem rest27_eq:rest27=w28 :: w29 :: w30 :: w31 :: w32 :: rest32:=rfl
noncomputable def wD2 (B:Nat) (m:Wm) (lo l16 l17 fl re:Nat):List (Nat×V):=wD1 B m++[(1,.loc lo),(6,.loc l16),(5,.loc l17),(2,.loc fl),(4,.loc re)]
theorem w_dict2 {R:List MS}{l13 l14 l15 l16 l17 l19 l20 lo lw Bw:Nat}{z18 z25:Option V}(hw:σ[lw]?=some (.dS (wD1 Bw m))) (h19:σ[l19]?=some (.list (natL faL))) (h17:σ[l17]?=some (.dI (arD m 5)))
  (q:∀σ' re,Kx [lw] σ σ'→σ.length≤σ'.length→σ'[lw]?=some (.dS (wD2 Bw m lo l16 l17 σ.length re))→σ'[σ.length]?=some (.dI [])→σ.length < re→σ'[re]?=some (.list (natL refL)) →
   wpSs (C (n+7)) R (ρ2 nn B l13 l14 l15 l16 l17 z18 l19 l20 (some (.loc lo)) (some (.loc lw)) none z25) σ' (rtn Q)) :
  wpSs (C (n+7)) (w28 :: w29 :: w30 :: w31 :: w32 :: R) (ρ2 nn B l13 l14 l15 l16 l17 z18 l19 l20 (some (.loc lo)) (some (.loc lw)) none z25) σ (rtn Q):=by
 have lwl:=get_lt hw
 have ss:∀o:O,(σ.set lw o)[lw]?=some o:=fun o=>List.getElem?_set_self lwl
 have n19:l19≠lw:=fun e=>by rw[e,hw]at h19;cases h19
 have n17:l17≠lw:=fun e=>by rw[e,hw]at h17;cases h17
 refine siS_of hw (Nat.le_of_ble_eq_true rfl) (siS_of (ss _) (Nat.le_of_ble_eq_true rfl) ?_)
 rw[List.set_set]
 refine siS_of (ss _) (Nat.le_of_ble_eq_true rfl) ?_
 rw[List.set_set]
 have sp:∀(o o':O),(σ.set lw o++[o'])[lw]?=some o:=fun o o'=>by rw[List.getElem?_append_left (by simpa using lwl)];exact ss o
 have sa:∀(o o' o'':O),(σ.set lw o++[o']).set lw o''=σ.set lw o''++[o']:=fun o o' o''=>by rw[List.set_append_left _ _ (by simpa using lwl),List.set_set]
 refine dI_of (kvs:=[]) (lel30 rfl) rfl List.nodup_nil (siS_of (sp _ _) (Nat.le_of_ble_eq_true rfl) ?_)
 rw[sa,List.length_set]
 obtain⟨W,eW⟩:∃W:List (Nat×V),asets (asets (asets (asets (wD1 Bw m) 1 (.loc lo)) 6 (.loc l16)) 5 (.loc l17)) 2 (.loc σ.length)=W:=⟨_,rfl⟩
 rw[eW]
 obtain⟨σ1,eσ1⟩:∃σ1,σ.set lw (O.dS W)++[O.dI []]=σ1:=⟨_,rfl⟩
 rw[eσ1]
 have kx1:Kx [lw] σ σ1:=by rw[←eσ1];exact(Kx.set (by simp)).trans (Kx.gw (Gw.push _ _))
 have ln1:σ1.length=σ.length+1:=by rw[←eσ1];simp
 have w1:σ1[lw]?=some (.dS W):=by rw[←eσ1];exact sp _ _
 have fl1:σ1[σ.length]?=some (.dI []):=by
  rw[←eσ1]
  have:=g0 (σ.set lw (O.dS W)) [O.dI []]
  rw[List.length_set]at this;exact this
 have h19a:=kx1 _ _ (ni1 n19) h19
 have h17a:=kx1 _ _ (ni1 n17) h17
 obtain⟨ρ,eρ⟩:∃ρ,ρ2 nn B l13 l14 l15 l16 l17 z18 l19 l20 (some (.loc lo)) (some (.loc lw)) none z25=ρ:=⟨_,rfl⟩
 have L10:EvL (C (n+7)) ρ σ1 e32l (natL [12,13,16,17,18,19,20,21,22,23]):=fun σ2 g K k=>by
  rw[←eρ]
  exact⟨lel rfl,k _ _ (Gw.push _ _) (List.getElem?_concat_length ..)⟩
 have LA:EvL (C (n+7)) ρ σ1 (.listOf (.var 17)) (natL arL):=fun σ2 g K k=>by
  have:=g _ _ h17a
  have ek:(arD m 5).map (fun p=>V.int p.1)=natL arL:=rfl
  have u5:(natL arL).length≤1000000:=by decide
  rw[←eρ]
  exact its_dict this ⟨u5,k _ _ (Gw.push _ _) (by simp[ek])⟩
 show wpSs (C (n+7)) (w32 :: R) (ρ2 nn B l13 l14 l15 l16 l17 z18 l19 l20 (some (.loc lo)) (some (.loc lw)) none z25) σ1 (rtn Q)
 rw[eρ]
 refine EvN.add (EvL.add L10 (EvL.var (i:=19) (by rw[←eρ];rfl) h19a) (by decide)) LA (by decide) σ1 (.refl _) _ fun σ2 re g2 hre e2=>?_
 have w2:=g2 _ _ w1
 have l2:=gw_len g2
 have l1:σ.length < σ1.length:=ln1▸Nat.lt_succ_self _
 obtain⟨σ3,eσ3⟩:∃σ3,σ2.set lw (.dS (W++[(4,.loc re)]))=σ3:=⟨_,rfl⟩
 have kx3:Kx [lw] σ2 σ3:=by rw[←eσ3];exact Kx.set (by simp)
 have ln3:σ3.length=σ2.length:=by rw[←eσ3];simp
 have w3:σ3[lw]?=some (.dS (wD2 Bw m lo l16 l17 σ.length re)):=by rw[←eσ3,List.getElem?_set_self (get_lt w2),←eW];rfl
 have fl3:=kx3 _ _ (ni1 (Nat.ne_of_gt lwl)) (g2 _ _ fl1)
 have re3:=kx3 _ _ (ni1 (Nat.ne_of_gt (Nat.lt_of_lt_of_le (Nat.lt_trans lwl l1) hre))) e2
 have:=q σ3 re ((kx1.trans (Kx.gw g2)).trans kx3) (Nat.le_trans (Nat.le_of_lt l1) (Nat.le_trans l2 (Nat.le_of_eq ln3.symm))) w3 fl3 (Nat.lt_of_lt_of_le l1 hre) re3
 have ea:asets W 4 (.loc re)=W++[(4,.loc re)]:=by rw[←eW];rfl
 have uW:W.length≤line:=by rw[←eW];exact Nat.le_of_ble_eq_true rfl
 rw[←eρ]
 refine siS_of w2 uW ?_
 rw[ea,eσ3]
 exact this
end
set_option maxRecDepth 20000
section
variable {m:Wm}{σ:Store}{n k a d:Nat}{Q:Post}
structure Wr (σ:Store) (lw:Nat):Prop where
 ex:∃W:List (Nat×V),∃cl ba pl ro,σ[lw]?=some (.dS W)∧agets W 3=some (.loc cl)∧agets W 10=some (.loc ba)∧agets W 11=some (.loc pl)∧agets W 9=some (.loc ro) ∧
  σ[cl]?=some (.list (natL [17,18,16]))∧σ[ba]?=some (.list (natL [19,30,20,34]))∧σ[pl]?=some (.list (natL [24,25,7]))∧σ[ro]?=some (.list (natL [21,22]))
theorem lt12:∀r < 12,r=0∨r=1∨r=2∨r=3∨r=4∨r=5∨r=6∨r=7∨r=8∨r=9∨r=10∨r=11:=by decide
theorem c_bound (d:Nat) (bf:List Nat) (hbf:bf.length≤10) {lw:Nat}(W:Wr σ lw) (q:Q (.tup [.tup (natL (bnd d bf).1),.int ((bnd d bf).2:Nat)]) σ):C (n+1) 68 [.loc lw,.int (d:Int),.tup (natL bf)] σ Q:=by
 refine call_eq (m:=f68) rfl rfl ?_
 obtain⟨W,cl,ba,pl,ro,hw,g3,g10,g11,g9,hcl,hba,hpl,hro⟩:=W.ex
 obtain⟨one,e1⟩:∃a,[17,18,16].getD (d / 12 % 3) 0=a:=⟨_,rfl⟩
 obtain⟨face,e2⟩:∃a,[19,30,20,34].getD (d / 36 % 4) 0=a:=⟨_,rfl⟩
 obtain⟨value,e3⟩:∃a,[24,25,7].getD (d / 12 % 3) 0=a:=⟨_,rfl⟩
 have q3:(natL [17,18,16])[d / 12 % 3]?=some (.int (one:Int)):=by
  rw[←e1];exact natL_at (Nat.mod_lt _ (by decide))
 have q4:(natL [19,30,20,34])[d / 36 % 4]?=some (.int (face:Int)):=by
  rw[←e2];exact natL_at (Nat.mod_lt _ (by decide))
 have q5:(natL [24,25,7])[d / 12 % 3]?=some (.int (value:Int)):=by
  rw[←e3];exact natL_at (Nat.mod_lt _ (by decide))
 have ub:(natL bf).length≤100:=by rw[natL_len];exact Nat.le_trans (by assumption) (by decide)
 refine sub_dS hw g3 (div_of (by decide) (by decide) (mod_of (by decide) (sub_list (k:=d / 12 % 3) hcl (lel rfl) q3 ⟨lel rfl,?_⟩)))
 refine sub_dS hw g10 (div_of (by decide) (by decide) (mod_of (by decide) (sub_list (k:=d / 36 % 4) hba (lel rfl) q4 ⟨lel rfl,?_⟩)))
 refine sub_dS hw g11 (div_of (by decide) (by decide) (mod_of (by decide) (sub_list (k:=d / 12 % 3) hpl (lel rfl) q5 ⟨lel rfl,?_⟩)))
 refine⟨lel rfl,lel rfl,lel rfl,lel rfl,lel rfl,lel rfl,lel rfl,lel rfl,lel rfl,addT_of (by show 1+_≤line;exact Nat.le_trans (Nat.add_le_add_left ub 1) (by decide)) ⟨lel rfl,lel rfl,lel rfl,addT_of (lel (vs:=[.none,.none]) rfl) ⟨lel rfl,lel rfl,sub_dS hw g9 (sub_list (k:=1) hro (lel rfl) rfl ⟨lel rfl,lel rfl,lel rfl,?_⟩)⟩⟩⟩
 have eb:bnd d bf=[([],0),([],1),([],2),([one],0),([face],0),(bf,0),(face :: bf,0),([value],0),([face],2),([one,face],0),([face],1),([22],0)].getD (d % 12) ([],0):=by
  unfold bnd;rw[←e1,←e2,←e3]
 rw[eb]at q
 clear eb q3 q4 q5
 have h12:=lt12 (d % 12) (Nat.mod_lt _ (by decide))
 obtain⟨r,hr,hq⟩:∃r:V,[V.tup [V.tup [],V.int 0],V.tup [V.tup [],V.int 1],V.tup [V.tup [],V.int 2],V.tup [V.tup [V.int (one:Int)],V.int 0],V.tup [V.tup [V.int (face:Int)],V.int 0],V.tup [V.tup (natL bf),V.int 0],V.tup [V.tup (V.int (face:Int) :: natL bf),V.int 0],V.tup [V.tup [V.int (value:Int)],V.int 0],V.tup [V.tup [V.int (face:Int)],V.int 2],V.tup [V.tup [V.int (one:Int),V.int (face:Int)],V.int 0],V.tup [V.tup [V.int (face:Int)],V.int 1],V.tup [V.tup [V.int 22],V.int 0]][d % 12]?=some r∧Q r σ:=by
  rcases h12 with h | h | h | h | h | h | h | h | h | h | h | h <;> rw[h]at q ⊢ <;> exact⟨_,rfl,q⟩
 exact mod_of (by decide) (sub_tupN (k:=d % 12) (lel rfl) hr hq)
theorem c_bound_eq {d:Nat}{bf bs:List Nat}{f:Nat}(hbf:bf.length≤10) {lw:Nat}(W:Wr σ lw) (e:bnd d bf=(bs,f)) (q:Q (.tup [.tup (natL bs),.int (f:Nat)]) σ):C (n+1) 68 [.loc lw,.int (d:Int),.tup (natL bf)] σ Q:=c_bound d bf hbf W (by rw[e];exact q)
end
set_option maxRecDepth 20000
noncomputable def s69a:MS:=.unpack [7,8] (.call 68 [(.var 0),(.bop .add (.bop .div (.var 2) (.bop .pow (.lit (.int 12)) (.var 6))) (.sub (.tup [(.lit (.int 3)),(.lit (.int 5)),(.lit (.int 8)),(.lit (.int 4))]) (.var 6))),(.var 4)])
noncomputable def s69b:MS:=.assign 9 (.sub (.var 3) (.var 6))
noncomputable def s69c:MS:=.setitem (.attr (.var 1) 11) (.var 9) (.var 7)
noncomputable def s69d:MS:=.setitem (.attr (.var 1) 12) (.var 9) (.var 8)
noncomputable def s69e:MS:=.setitem (.sub (.var 0) (.lit (.str 2))) (.var 9) (.var 8)
noncomputable def e69f:ME:=.bop .add (.listOf (.var 7)) (.list [(.lit (.int 12))])
noncomputable def s69f:MS:=.setitem (.sub (.var 0) (.lit (.str 1))) (.var 9) e69f
noncomputable def s69g1:MS:=.expr (.append (.sub (.sub (.var 0) (.lit (.str 1))) (.var 9)) (.sub (.sub (.var 0) (.lit (.str 9))) (.lit (.int 0))))
noncomputable def s69g2:MS:=.expr (.append (.var 5) (.var 9))
noncomputable def s69h:MS:=.assign 4 (.tup [(.var 9)])
noncomputable def s69g:MS:=.ifS (.ex (.cmp .eq (.var 8) (.lit (.int 2)))) [s69g1,s69g2] [s69h]
noncomputable def b69:List MS:=[s69a,s69b,s69c,s69d,s69e,s69f,s69g]
section
variable {m:Wm}{σ₀ σ σ':Store}{n k x t i a b nn B:Nat}{NF:List (Nat×V)}{F Bo Gf F':List (Int×V)}
noncomputable def pL (i:Nat):List Nat:=[26,27,28,29].take i
noncomputable def boD (m:Wm) (i:Nat):List (Int×V):=(pL i).map fun k:Nat=>((k:Int),V.tup (natL (bounds m k)))
noncomputable def gfD (m:Wm) (i:Nat):List (Int×V):=(pL i).map fun k:Nat=>((k:Int),V.int (flag m k:Int))
noncomputable def vaL (m:Wm) (i:Nat):List Nat:=(pL i).filter fun p=>flag m p==2
theorem pL_succ:∀i < 4,pL (i+1)=pL i++[26+i]∧26+i∉pL i:=by decide
theorem K2.setbo (h:K2 m σ₀ σ k NF F Bo Gf):K2 m σ₀ (σ.set (σ₀.length+14) (.dI F')) k NF F F' Gf:=by
 obtain⟨a,b⟩:=h.ksset (o:=.dI F') (j:=σ₀.length+14) (up7 _ 14 rfl)
 have l:=get_lt h.bo
 refine⟨a,b,?_,?_,?_,by rw[List.getElem?_set_self l],?_,by rw[List.length_set];exact h.len⟩ <;> rw[List.getElem?_set_ne (nac rfl)]
 ·exact h.hi
 ·exact h.hd
 ·exact h.fa
 ·exact h.gf
theorem K2.setgf (h:K2 m σ₀ σ k NF F Bo Gf):K2 m σ₀ (σ.set (σ₀.length+15) (.dI F')) k NF F Bo F':=by
 obtain⟨a,b⟩:=h.ksset (o:=.dI F') (j:=σ₀.length+15) (up7 _ 15 rfl)
 have l:=get_lt h.gf
 refine⟨a,b,?_,?_,?_,?_,by rw[List.getElem?_set_self l],by rw[List.length_set];exact h.len⟩ <;> rw[List.getElem?_set_ne (nac rfl)]
 ·exact h.hi
 ·exact h.hd
 ·exact h.fa
 ·exact h.bo
structure Pst (m:Wm) (σ₀ σ:Store) (NF:List (Nat×V)) (F:List (Int×V)) (W:List (Nat×V)) (lw lo fl lv i:Nat) (ol:Nat→Nat):Prop where
 k2:K2 m σ₀ σ 40 NF F (boD m i) (gfD m i)
 hw:σ[lw]?=some (.dS W)
 hf:σ[fl]?=some (.dI (gfD m i))
 ov:OvD m σ₀.length σ lo (ovK++pL i) ol
 hv:σ[lv]?=some (.list (natL (vaL m i)))
 nv:∀k∈ovK++pL i,ol k≠lv
noncomputable abbrev r69 (nn B lw l13 lv:Nat) (bf:List Nat) (z6 z7 z8 z9 z10:Option V):Rho:=[some (.loc lw),some (.loc (B+8)),some (.int (nn:Int)),some (.loc l13),some (.tup (natL bf)),some (.loc lv),z6,z7,z8,z9,z10]
theorem w_param {W:List (Nat×V)}{lw lo fl lv l13 ba so va un:Nat}{ol:Nat→Nat}{z7 z8 z9 z10:Option V}{K:PostS}{i:Nat}(hi:i < 4) (hm:m=mkW nn)
  (S:Pst m σ₀ σ (NFx σ₀.length ba so va un) F W lw lo fl lv i ol) (g1:agets W 1=some (.loc lo)) (g2:agets W 2=some (.loc fl)) (g9:∃ro,agets W 9=some (.loc ro)∧σ[ro]?=some (.list (natL [21,22]))) (wr:Wr σ lw) (h13:σ[l13]?=some (.list (natL [26,27,28,29])))
  (hlo:σ₀.length+17≤lo) (hfl:σ₀.length+17≤fl) (hlv:σ₀.length+17≤lv) (hlw:σ₀.length+17≤lw) (h13':σ₀.length+17≤l13) (dis:lo≠fl∧lo≠lv∧fl≠lv)
  (q:∀σ' ol' z7 z8 z9,Pst m σ₀ σ' (NFx σ₀.length ba so va un) F W lw lo fl lv (i+1) ol'→Kx [σ₀.length+14,σ₀.length+15,fl,lo,lv] σ σ'→σ.length≤σ'.length→K .nx (r69 nn σ₀.length lw l13 lv (bfr nn (i+1)) (some (.int (i:Int))) z7 z8 z9 z10) σ') :
  wpSs (C (n+1)) b69 (r69 nn σ₀.length lw l13 lv (bfr nn i) (some (.int (i:Int))) z7 z8 z9 z10) σ K:=by
 have hbl:(bfr nn i).length≤10:=by rcases bfr_ok nn i with h | ⟨j,-,h,-⟩ <;> rw[h] <;> simp
 have e12:(12:Int) ^ i=((12 ^ i:Nat):Int):=by norm_cast
 have p12:0 < 12 ^ i∧12 ^ i < 2 ^ 30:=by
  exact(by decide:∀i < 4,0 < 12 ^ i∧12 ^ i < 2 ^ 30) i hi
 have q4:[V.int 3,V.int 5,V.int 8,V.int 4][i]?=some (.int (([3,5,8,4].getD i 0:Nat):Int)):=by
  have:=(by decide:∀i < 4,i=0∨i=1∨i=2∨i=3) i hi
  rcases this with rfl | rfl | rfl | rfl <;> rfl
 have ed:(nn:Int) / ((12:Int) ^ i)+(([3,5,8,4].getD i 0:Nat):Int)=((dd nn i:Nat):Int):=by
  rw[e12,cast_div];rfl
 refine pow_of ⟨rfl,Int.natCast_nonneg _,Int.ofNat_lt.mpr hi⟩ (div_of (b:=(12:Int) ^ i) (by rw[e12];exact Int.ofNat_lt.mpr p12.1) (by rw[e12];exact Int.ofNat_lt.mpr p12.2) ⟨lel rfl,sub_tupN (k:=i) (lel rfl) q4 (add_eq ed ?_)⟩)
 have eb:bnd (dd nn i) (bfr nn i)=(bounds m (26+i),flag m (26+i)):=by rw[hm];unfold bounds flag mkW;simp
 refine c_bound_eq hbl wr eb ⟨rfl,?_⟩
 refine Classical.byContradiction fun kk=>?_
 have ok:WOk m:=by rw[hm];exact mkW_ok nn
 have hv:=(by decide:∀i < 4,isVar (26+i)=true) i hi
 have bl:=(bdp ok hv).len
 have fl2:=(bdp ok hv).fl2
 obtain⟨ps,pn⟩:=pL_succ i hi
 have q13:=p4 i hi
 refine kk ?_
 refine sub_list (k:=i) h13 (lel rfl) q13 ?_
 have ub:(boD m i).length≤line:=by unfold boD;rw[List.length_map];exact(by decide:∀i < 4,(pL i).length≤1000000) i hi
 have ug:(gfD m i).length≤line:=by unfold gfD;rw[List.length_map];exact(by decide:∀i < 4,(pL i).length≤1000000) i hi
 have ab:asets (boD m i) ((26+i:Nat):Int) (.tup (natL (bounds m (26+i))))=boD m (i+1):=by
  unfold boD;rw[ps,←asets_map (pL i) (fun k=>V.tup (natL (bounds m k))) pn]
 have ag:asets (gfD m i) ((26+i:Nat):Int) (.int (flag m (26+i):Int))=gfD m (i+1):=by
  unfold gfD;rw[ps,←asets_map (pL i) (fun k=>V.int (flag m k:Int)) pn]
 refine at_of S.k2.hi S.k2.hd rfl (siI_g S.k2.bo ub ab fun σ1 e1=>?_)
 have K1:=S.k2.setbo (F':=boD m (i+1))
 rw[e1]at K1
 refine at_of K1.hi K1.hd rfl (siI_g K1.gf ug ag fun σ2 e2=>?_)
 have K2':=K1.setgf (F':=gfD m (i+1))
 rw[e2]at K2'
 have kx2:Kx [σ₀.length+14,σ₀.length+15] σ σ2:=by rw[←e2,←e1];exact(Kx.set (by simp)).trans (Kx.set (by simp))
 have far:∀{j:Nat} {o:O},σ₀.length+17≤j→σ[j]?=some o→σ2[j]?=some o:=fun hj h=>kx2 _ _ (ni2 (ne17 hj rfl) (ne17 hj rfl)) h
 have hw2:=far hlw S.hw
 have hf2:=far hfl S.hf
 refine sub_dS hw2 g2 (siI_g hf2 ug ag fun σ3 e3=>?_)
 refine Classical.byContradiction fun kk=>?_
 have kx3:Kx [fl] σ2 σ3:=by rw[←e3];exact Kx.set (by simp)
 have K3:=K2'.kx kx3 (all1 hfl) (by rw[←e3];simp)
 have nlw:lw≠fl:=fun e=>by rw[e,hf2]at hw2;cases hw2
 have hf3:σ3[fl]?=some (.dI (gfD m (i+1))):=by rw[←e3,List.getElem?_set_self (get_lt hf2)]
 have hw3:=kx3 _ _ (by rw[List.mem_singleton];exact nlw) hw2
 have hv3:=kx3 _ _ (ni1 (Ne.symm dis.2.2)) (far hlv S.hv)
 have Ov3:OvD m σ₀.length σ3 lo (ovK++pL i) ol:=by
  have O2:OvD m σ₀.length σ2 lo (ovK++pL i) ol:=⟨far hlo S.ov.1,fun k hk=>⟨far (S.ov.2 k hk).2 (S.ov.2 k hk).1,(S.ov.2 k hk).2⟩⟩
  refine O2.kx kx3 (ni1 dis.1) fun k hk h=>?_
  rw[List.mem_singleton]at h
  have:=(O2.2 k hk).1
  rw[h,hf2]at this;cases this
 obtain⟨ro,gro,hro⟩:=g9
 have ln3:σ3.length=σ.length:=by rw[←e3,←e2,←e1];simp
 have pk:26+i∉ovK++pL i:=by
  have:∀i < 4,26+i∉ovK++pL i:=by decide
  exact this i hi
 have LA:EvL (C (n+1)) (r69 nn σ₀.length lw l13 lv (bfr nn i) (some (.int (i:Int))) (some (.tup (natL (bounds m (26+i))))) (some (.int (flag m (26+i):Int))) (some (.int ((26+i:Nat):Int))) z10) σ3 (.listOf (.var 7)) (natL (bounds m (26+i))):=fun τ g K k=>by
  have u7:(natL (bounds m (26+i))).length≤1000000:=by rw[natL_len];exact Nat.le_trans bl (by decide)
  exact its_tup ⟨u7,k _ _ (Gw.push _ _) (List.getElem?_concat_length ..)⟩
 refine kk ?_
 show wpSs (C (n+1)) [s69f,s69g] (r69 nn σ₀.length lw l13 lv (bfr nn i) (some (.int (i:Int))) (some (.tup (natL (bounds m (26+i))))) (some (.int (flag m (26+i):Int))) (some (.int ((26+i:Nat):Int))) z10) σ3 K
 refine EvN.add LA (EvN.list1 (EvI.lit (v:=.int 12))).toL (by rw[natL_len];exact Nat.le_trans (Nat.add_le_add_right bl 1) (by decide)) σ3 (.refl _) _ fun σ4 l g4 hl4 e4=>?_
 have hw4:=g4 _ _ hw3
 have Ov4:=Ov3.gw g4
 have ul:∀{f:Nat→Int×V},((ovK++pL i).map f).length≤line:=by
  intro f
  rw[List.length_map]
  have:∀i < 4,(ovK++pL i).length≤1000000:=by decide
  exact this i hi
 obtain⟨ol',eol⟩:∃ol':Nat→Nat,ol'=fun x=>if x=26+i then l else ol x:=⟨_,rfl⟩
 have olk:ol' (26+i)=l:=by rw[eol];simp
 have olo:∀k∈ovK++pL i,ol' k=ol k:=fun k hk=>by
  rw[eol];exact if_neg (fun h=>pk (by rw[←h];exact hk))
 have eput:asets ((ovK++pL i).map fun k:Nat=>((k:Int),V.loc (ol k))) ((26+i:Nat):Int) (.loc l)=(ovK++pL (i+1)).map fun k:Nat=>((k:Int),V.loc (ol' k)):=by
  have h1:((ovK++pL i).map fun k:Nat=>((k:Int),V.loc (ol k)))=(ovK++pL i).map fun k:Nat=>((k:Int),V.loc (ol' k)):=List.map_congr_left fun k hk=>by rw[olo k hk]
  have:=asets_map (ovK++pL i) (fun k=>V.loc (ol' k)) pk
  rw[olk]at this
  rw[h1,this,ps,List.append_assoc]
 refine sub_dS hw4 g1 (siI_g Ov4.1 ul eput fun σ5 e5=>?_)
 have ln4:=gw_len g4
 have lol:=get_lt Ov4.1
 have lvl:=get_lt hv3
 have kx5:Kx [lo] σ4 σ5:=by rw[←e5];exact Kx.set (by simp)
 have ln5:σ5.length=σ4.length:=by rw[←e5];simp
 have nlo:lw≠lo:=fun e=>by rw[e,Ov4.1]at hw4;cases hw4
 have n5:∀{j:Nat} {o:O},j≠lo→σ4[j]?=some o→σ5[j]?=some o:=fun h e=>kx5 _ _ (fun h'=>h (List.mem_singleton.mp h')) e
 have hw5:=n5 nlo hw4
 have l_lo:l≠lo:=Nat.ne_of_gt (Nat.lt_of_lt_of_le (get_lt Ov3.1) hl4)
 have nvl:lv≠l:=Nat.ne_of_lt (Nat.lt_of_lt_of_le lvl hl4)
 have e4':σ5[l]?=some (.list (natL (bounds m (26+i))++[.int 12])):=n5 l_lo e4
 have hv5:=n5 (Ne.symm dis.2.1) (g4 _ _ hv3)
 have hf5:=n5 (Ne.symm dis.1) (g4 _ _ hf3)
 have d5:σ5[lo]?=some (.dI ((ovK++pL (i+1)).map fun k:Nat=>((k:Int),V.loc (ol' k)))):=by rw[←e5,List.getElem?_set_self lol]
 have K5:=(K3.gw g4).kx kx5 (all1 hlo) (Nat.le_of_eq ln5.symm)
 have hl17:=Nat.le_trans K3.len hl4
 have lle:σ.length≤σ5.length:=Nat.le_trans (Nat.le_of_eq ln3.symm) (Nat.le_trans ln4 (Nat.le_of_eq ln5.symm))
 have old5:∀k∈ovK++pL i,σ5[ol' k]?=some (.list (natL (over m k)))∧σ₀.length+17≤ol' k∧ol' k≠l∧ol' k≠lv:=fun k hk=>by
  rw[olo k hk]
  have h3:=Ov3.2 k hk
  exact⟨n5 (Ov4.ne hk) (g4 _ _ h3.1),h3.2,Nat.ne_of_lt (Nat.lt_of_lt_of_le (get_lt h3.1) hl4),S.nv k hk⟩
 have mem_split:∀k∈ovK++pL (i+1),k∈ovK++pL i∨k=26+i:=fun k hk=>by
  rw[ps,←List.append_assoc]at hk
  exact(List.mem_append.mp hk).imp (fun h=>h) List.mem_singleton.mp
 have kx05:∀(j:Nat) o,j∉[σ₀.length+14,σ₀.length+15,fl,lo,lv]→σ[j]?=some o→σ5[j]?=some o:=fun j o hj e=>by
  simp only[List.mem_cons,List.not_mem_nil,or_false,not_or]at hj
  exact n5 hj.2.2.2.1 (g4 _ _ (kx3 _ _ (by rw[List.mem_singleton];exact hj.2.2.1) (kx2 _ _ (ni2 hj.1 hj.2.1) e)))
 have ebf:bfr nn (i+1)=if flag m (26+i)=2 then bfr nn i else [26+i]:=by
  have:bfr nn (i+1)=if (bnd (dd nn i) (bfr nn i)).2=2 then bfr nn i else [26+i]:=rfl
  rw[this,eb]
 have eov:=over_var (m:=m) hv
 by_cases h2:flag m (26+i)=2
 ·refine eqT (by rw[h2];rfl) ?_
  rw[if_pos h2]at ebf eov
  have lk5:lookO σ5 (.loc lo) (.int ((26+i:Nat):Int))=some (some (.loc l)):=by
   rw[loo_dI d5,agets_loc (ovK++pL (i+1)) (fun k=>V.loc (ol' k)),if_pos (by rw[ps];simp),olk]
  have nro:ro≠fl∧ro≠lo:=⟨(fun e=>by have:=S.hf;rw[←e,hro]at this;cases this),(fun e=>by have:=S.ov.1;rw[←e,hro]at this;cases this)⟩
  have q9:(natL [21,22])[0]?=some (.int 21):=rfl
  have v9:(natL [21,22]).length≤1000000:=by decide
  have hro5:σ5[ro]?=some (.list (natL [21,22])):=n5 nro.2 (g4 _ _ (kx3 _ _ (by rw[List.mem_singleton];exact nro.1) (kx2 _ _ (by
   intro h
   simp only[List.mem_cons,List.not_mem_nil,or_false]at h
   rcases h with h | h
   ·have:=S.k2.bo;rw[←h,hro]at this;cases this
   ·have:=S.k2.gf;rw[←h,hro]at this;cases this) hro)))
  have ub5:(natL (bounds m (26+i))).length≤100:=by rw[natL_len];exact Nat.le_trans bl (by decide)
  obtain⟨σ6,e6⟩:∃τ,σ5.set l (.list (natL (bounds m (26+i))++[.int 12]++[.int 21]))=τ:=⟨_,rfl⟩
  have kx6:Kx [l] σ5 σ6:=by rw[←e6];exact Kx.set (by simp)
  have n6:∀{j:Nat} {o:O},j≠l→σ5[j]?=some o→σ6[j]?=some o:=fun h e=>kx6 _ _ (fun h'=>h (List.mem_singleton.mp h')) e
  have hv6:=n6 nvl hv5
  have uv:(natL (vaL m i)).length≤1000000:=by
   rw[natL_len]
   have:(vaL m i).length≤(pL i).length:=List.length_filter_le _ _
   have h4:∀i < 4,(pL i).length≤4:=by decide
   exact Nat.le_trans this (Nat.le_trans (h4 i hi) (by decide))
  obtain⟨σ7,e7⟩:∃τ,σ6.set lv (.list (natL (vaL m i)++[.int ((26+i:Nat):Int)]))=τ:=⟨_,rfl⟩
  have kx7:Kx [lv] σ6 σ7:=by rw[←e7];exact Kx.set (by simp)
  have n7:∀{j:Nat} {o:O},j≠lv→σ6[j]?=some o→σ7[j]?=some o:=fun h e=>kx7 _ _ (fun h'=>h (List.mem_singleton.mp h')) e
  have ln7:σ7.length=σ5.length:=by rw[←e7,←e6];simp
  have eva:natL (vaL m (i+1))=natL (vaL m i)++[.int ((26+i:Nat):Int)]:=by
   have:vaL m (i+1)=vaL m i++[26+i]:=by
    unfold vaL;rw[ps,List.filter_append]
    have:(flag m (26+i)==2)=true:=by simpa using h2
    simp[this]
   rw[this,natL_snoc]
  have lwl:lw≠l∧lw≠lv:=⟨Nat.ne_of_lt (Nat.lt_of_lt_of_le (get_lt hw3) hl4),fun e=>by rw[e,hv5]at hw5;cases hw5⟩
  have P':Pst m σ₀ σ7 (NFx σ₀.length ba so va un) F W lw lo fl lv (i+1) ol':=by
   refine⟨(K5.kx kx6 (all1 hl17) (by rw[←e6];simp)).kx kx7 (all1 hlv) (by rw[←e7];simp),n7 lwl.2 (n6 lwl.1 hw5),n7 dis.2.2 (n6 (Nat.ne_of_lt (Nat.lt_of_lt_of_le (get_lt hf3) hl4)) hf5),⟨n7 dis.2.1 (n6 (Ne.symm l_lo) d5),fun k hk=>?_⟩,by rw[←e7,List.getElem?_set_self (get_lt hv6),eva],fun k hk=>?_⟩
   ·rcases mem_split k hk with h | rfl
    ·have o:=old5 k h
     exact⟨n7 o.2.2.2 (n6 o.2.2.1 o.1),o.2.1⟩
    ·rw[olk,eov]
     refine⟨n7 (Ne.symm nvl) ?_,hl17⟩
     rw[←e6,List.getElem?_set_self (get_lt e4')];simp[natL]
   ·rcases mem_split k hk with h | rfl
    ·exact(old5 k h).2.2.2
    ·rw[olk];exact Ne.symm nvl
  have:=q σ7 ol' (some (.tup (natL (bounds m (26+i))))) (some (.int (flag m (26+i):Int))) (some (.int ((26+i:Nat):Int))) P' (fun j o hj e=>by
   have h5:=kx05 j o hj e
   simp only[List.mem_cons,List.not_mem_nil,or_false,not_or]at hj
   have:=get_lt e
   exact n7 hj.2.2.2.2 (n6 (Nat.ne_of_lt (Nat.lt_of_lt_of_le (Nat.lt_of_lt_of_eq this ln3.symm) hl4)) h5)) (Nat.le_trans lle (Nat.le_of_eq ln7.symm))
  rw[ebf]at this
  refine sub_dS hw5 g1 (sub_look lk5 (seq_dI d5) ⟨lat_of e4',sub_dS hw5 gro (sub_list (k:=0) hro5 v9 q9 (app_of e4' (by rw[List.length_append];exact Nat.le_trans (Nat.add_le_add_right ub5 1) (by decide)) ?_))⟩)
  rw[e6]
  refine⟨lat_of hv6,app_of hv6 uv ?_⟩
  rw[e7]
  exact this
 ·refine eqF (nat_ne (t:=2) h2) ?_
  rw[if_neg h2]at ebf eov
  have eva:vaL m (i+1)=vaL m i:=by
   unfold vaL;rw[ps,List.filter_append]
   have:(flag m (26+i)==2)=false:=by simpa using h2
   simp[this]
  have P':Pst m σ₀ σ5 (NFx σ₀.length ba so va un) F W lw lo fl lv (i+1) ol':=by
   refine⟨K5,hw5,hf5,⟨d5,fun k hk=>?_⟩,by rw[eva];exact hv5,fun k hk=>?_⟩
   ·rcases mem_split k hk with h | rfl
    ·exact⟨(old5 k h).1,(old5 k h).2.1⟩
    ·rw[olk,eov]
     refine⟨?_,hl17⟩
     rw[e4'];simp[natL]
   ·rcases mem_split k hk with h | rfl
    ·exact(old5 k h).2.2.2
    ·rw[olk];exact Ne.symm nvl
  have:=q σ5 ol' (some (.tup (natL (bounds m (26+i))))) (some (.int (flag m (26+i):Int))) (some (.int ((26+i:Nat):Int))) P' (fun j o hj e=>kx05 j o hj e) lle
  rw[ebf]at this
  exact⟨lel rfl,this⟩
end
set_option maxRecDepth 20000
section
variable {m:Wm}{P:Pl}{σ₀ σ σ':Store}{n k y nn d:Nat}{Q:Post}{F:List (Int×V)}
inductive PmI (m:Wm) (σ₀ σ1:Store) (nn ba so va un lw l13 lo fl lv:Nat) (F:List (Int×V)) (W:List (Nat×V)) (d:List Nat):Rho→Store→Prop
 | mk {z6 z7 z8 z9 z10:Option V} {ol':Nat→Nat} {σ':Store} (P:Pst m σ₀ σ' (NFx σ₀.length ba so va un) F W lw lo fl lv d.length ol') (kx:Kx [σ₀.length+14,σ₀.length+15,fl,lo,lv] σ1 σ') (ln:σ1.length≤σ'.length) :
   PmI m σ₀ σ1 nn ba so va un lw l13 lo fl lv F W d (r69 nn σ₀.length lw l13 lv (bfr nn d.length) z6 z7 z8 z9 z10) σ'
theorem c_params {W:List (Nat×V)}{lw lo fl l13 ba so va un:Nat}{ol:Nat→Nat}(hm:m=mkW nn) (S:K2 m σ₀ σ 40 (NFx σ₀.length ba so va un) F [] []) (hw:σ[lw]?=some (.dS W)) (hf:σ[fl]?=some (.dI [])) (Ov:OvD m σ₀.length σ lo ovK ol)
  (g1:agets W 1=some (.loc lo)) (g2:agets W 2=some (.loc fl)) {cl bar pl ro:Nat} (w3:agets W 3=some (.loc cl)) (w10:agets W 10=some (.loc bar)) (w11:agets W 11=some (.loc pl)) (w9:agets W 9=some (.loc ro))
  (hcl:σ[cl]?=some (.list (natL [17,18,16]))) (hba:σ[bar]?=some (.list (natL [19,30,20,34]))) (hpl:σ[pl]?=some (.list (natL [24,25,7]))) (hro:σ[ro]?=some (.list (natL [21,22]))) (h13:σ[l13]?=some (.list (natL [26,27,28,29])))
  (hlo:σ₀.length+17≤lo) (hfl:σ₀.length+17≤fl) (hlw:σ₀.length+17≤lw) (h13':σ₀.length+17≤l13) (dis:lo≠fl)
  (q:∀σ' lv ol',Pst m σ₀ σ' (NFx σ₀.length ba so va un) F W lw lo fl lv 4 ol'→Kx [σ₀.length+14,σ₀.length+15,fl,lo] σ σ'→σ.length < σ'.length→σ.length≤lv→Q (.loc lv) σ') :
  C (n+2) 69 [.loc lw,.loc (σ₀.length+8),.int (nn:Int),.loc l13] σ Q:=by
 refine call_eq (m:=f69) rfl rfl ?_
 have sl:=S.len
 have g:=Gw.push σ (.list [])
 have ln:(σ++[O.list []]).length=σ.length+1:=by simp
 refine⟨lel rfl,lel rfl,?_⟩
 obtain⟨σ1,e1⟩:∃τ,σ++[O.list []]=τ:=⟨_,rfl⟩
 rw[e1]at g ln ⊢
 have lol:=get_lt Ov.1
 have P0:Pst m σ₀ σ1 (NFx σ₀.length ba so va un) F W lw lo fl σ.length 0 ol:=⟨S.gw g,g _ _ hw,g _ _ hf,by have:=Ov.gw g;rwa [show ovK++pL 0=ovK from List.append_nil _],by rw[←e1];simp;rfl,fun k hk=>by
  rw[show ovK++pL 0=ovK from List.append_nil _]at hk
  exact Nat.ne_of_lt (get_lt (Ov.2 k hk).1)⟩
 refine⟨by decide,?_⟩
 show forItems _ _ (natL (List.range 4)) _ _ _
 refine for_nat (PmI m σ₀ σ1 nn ba so va un lw l13 lo fl σ.length F W) (fun d ρ σ' h=>trivial) ?_ ?_ (.mk P0 (.refl _ _) (Nat.le_refl _))
 ·rintro d y r e ρ σ' ⟨P',kx,ln'⟩ K k1 k2 k3
  have hy:y=d.length:=by
   have h1:(List.range 4)[d.length]?=some y:=by rw[e];simp
   obtain⟨h2,h3⟩:=List.getElem?_eq_some_iff.mp h1
   simpa using h3.symm
  have hd4:d.length < 4:=by
   have:=congrArg List.length e
   rw[List.length_append]at this
   exact Nat.lt_of_lt_of_eq (Nat.lt_add_of_pos_right (Nat.succ_pos _)) this.symm
  subst hy
  have li:∀{j:Nat} {l:List Nat},l≠[]→σ[j]?=some (.list (natL l))→σ'[j]?=some (.list (natL l)):=fun{j l} hl h=>by
   refine kx _ _ (fun h'=>?_) (g _ _ h)
   have jl:=get_lt h
   simp only[List.mem_cons,List.not_mem_nil,or_false]at h'
   rcases h' with h' | h' | h' | h' | h'
   ·rw[h',S.bo]at h;cases h
   ·rw[h',S.gf]at h;cases h
   ·rw[h',hf]at h;cases h
   ·rw[h',Ov.1]at h;cases h
   ·exact Nat.ne_of_lt jl h'
  have wr:Wr σ' lw:=⟨W,cl,bar,pl,ro,P'.hw,w3,w10,w11,w9,li (by simp) hcl,li (by simp) hba,li (by simp) hpl,li (by simp) hro⟩
  refine w_param hd4 hm P' g1 g2 ⟨ro,w9,li (by simp) hro⟩ wr (li (by simp) h13) hlo hfl sl hlw h13' ⟨dis,Nat.ne_of_lt lol,Nat.ne_of_lt (get_lt hf)⟩ fun σ2 ol2 z7 z8 z9 P2 kx2 ln2=>?_
  have R:=PmI.mk (l13:=l13) (nn:=nn) (d:=d++[d.length]) (z6:=some (.int (d.length:Int))) (z7:=z7) (z8:=z8) (z9:=z9) (z10:=z10) (by rw[List.length_append,List.length_singleton];exact P2) (kx.trans kx2) (Nat.le_trans ln' ln2)
  rw[List.length_append,List.length_singleton]at R
  exact k1 _ _ R
 ·rintro ρ σ' ⟨P',kx,ln'⟩
  refine q σ' σ.length ol' P' (fun j o hj e=>?_) (Nat.le_trans (Nat.le_of_eq ln.symm) ln') (Nat.le_refl _)
  have:=get_lt e
  refine kx _ _ (fun h=>?_) (g _ _ e)
  simp only[List.mem_cons,List.not_mem_nil,or_false,not_or]at h hj
  exact h.elim hj.1 fun h=>h.elim hj.2.1 fun h=>h.elim hj.2.2.1 fun h=>h.elim hj.2.2.2 (Nat.ne_of_lt this)
end
set_option maxRecDepth 20000
section
variable {m:Wm}{σ:Store}{k x y nn:Nat}
noncomputable def e35:ME:=.sub (.var 20) (.bop .mod (.bop .add (.bop .div (.var 0) (.lit (.int 31))) (.var 25)) (.lit (.int 10)))
noncomputable def e35l:ME:=.bop .add (.bop .add (.comp 25 (.tup [(.lit (.int 0)),(.lit (.int 1)),(.lit (.int 3)),(.lit (.int 6))]) [] e35) (.list [(.var 11),(.var 12)])) (.var 24)
noncomputable def b35:List MS:=[(.setitem (.sub (.var 23) (.lit (.str 8))) (.call 8 [(.var 1),(.lit (.int 8)),(.tup [(.var 18)])]) (.var 18))]
noncomputable def w33:MS:=.assign 24 (.call 69 [(.var 23),(.var 2),(.var 0),(.var 13)])
noncomputable def w34:MS:=.setitem (.var 23) (.lit (.str 8)) (.dict 0 [])
noncomputable def w35:MS:=.forS (.inl 18) e35l b35
noncomputable def w36:MS:=.setitem (.var 23) (.lit (.str 12)) (.var 20)
noncomputable def w37:MS:=.ret (.tup [(.var 23),(.var 2)])
theorem rest32_eq:rest32=[w33,w34,w35,w36,w37]:=rfl
theorem e_ops {ρ:Rho}{l20 lv:Nat}{Φ:Calls}(hm:m=mkW nn) (r0:ρ[0]?=some (some (.int (nn:Int)))) (r11:ρ[11]?=some (some (.int ((24:Nat):Int)))) (r12:ρ[12]?=some (some (.int ((25:Nat):Int)))) (r20:ρ[20]?=some (some (.loc l20))) (r24:ρ[24]?=some (some (.loc lv))) (h25:25 < ρ.length)
  (h20:σ[l20]?=some (.list (natL numL))) (hv:σ[lv]?=some (.list (natL (vals m)))):EvN Φ ρ σ e35l (natL (ops m)):=by
 have cm:EvL Φ ρ σ (.comp 25 (.tup [(.lit (.int 0)),(.lit (.int 1)),(.lit (.int 3)),(.lit (.int 6))]) [] e35) ([0,1,3,6].map fun j=>V.int ((num (m.ro+j):Nat):Int)):=by
  intro σ1 g K k
  refine⟨lel rfl,its_tup ?_⟩
  have ss:∀o,(σ1++[O.list []]).set σ1.length o=σ1++[o]:=fun o=>by simp
  show compItems _ _ _ _ _ (natL [0,1,3,6]) _ _ _
  refine comp_nat (fun j=>V.int ((num (m.ro+j):Nat):Int)) (fun x σ K h=>h) [0,1,3,6] [] _ (by simp) (by simp) (fun out'=>trivial) (fun y hy out' K' hK=>?_) ?_
  ·rw[ss]at hK ⊢
   have h20':=Gw.push σ1 (.list out') _ _ (g _ _ h20)
   have g0':(ρ.set 25 (some (.int (y:Int))))[0]?=some (some (.int (nn:Int))):=by rw[List.getElem?_set_ne (by decide)];exact r0
   have g20:(ρ.set 25 (some (.int (y:Int))))[20]?=some (some (.loc l20)):=by rw[List.getElem?_set_ne (by decide)];exact r20
   have g25:(ρ.set 25 (some (.int (y:Int))))[25]?=some (some (.int (y:Int))):=by rw[List.getElem?_set_self h25]
   have un:(natL numL).length≤1000000:=by decide
   have q31:(natL numL)[(nn / 31+y) % 10]?=some (.int ((num (m.ro+y):Nat):Int)):=by
    have h1:(m.ro+y) % 10=(nn / 31+y) % 10:=by rw[hm];exact Nat.mod_add_mod _ _ _
    unfold num
    rw[h1]
    exact natL_at (Nat.mod_lt _ (by decide))
   exact va_of (Φ:=Φ) g20 (va_of (Φ:=Φ) g0' (div_of (by decide) (by decide) (va_of (Φ:=Φ) g25 (add_of (mod_of (by decide) (sub_list (k:=(nn / 31+y) % 10) h20' un q31 hK))))))
  ·rw[ss,List.nil_append]
   exact k _ _ (Gw.push _ _) (by simp)
 have:=EvN.add (EvL.add cm (EvL.list2 (.var r11) (.var r12)) (by simp)) (EvL.var r24 hv) (by have:=vals_len m;simp[natL];lia)
 refine this.far ?_
 unfold ops natL
 rw[List.map_append]
 rfl
end
set_option maxRecDepth 20000
section
variable {m:Wm}{L:KtL}{σ₀ σ σ':Store}{n k y d:Nat}{Q:Post}
noncomputable def oL (j:Nat):List Nat:=(List.range j).map (40 + ·)
noncomputable def opD (m:Wm) (j:Nat):List (Int×V):=(oL j).map fun k:Nat=>((k:Int),V.int (op m k:Int))
theorem oL_succ (j:Nat):oL (j+1)=oL j++[40+j]:=by simp[oL,List.range_succ]
theorem oL_new (j:Nat):40+j∉oL j:=by simp[oL] <;> lia
theorem w_opts {W:List (Nat×V)}{lw lop:Nat}{ρ:Rho}{Q:PostS}{src:Store→Prop}(K:KS m σ (Lk σ₀) 40) (hw:σ[lw]?=some (.dS W)) (g8:agets W 8=some (.loc lop)) (hop:σ[lop]?=some (.dI [])) (blw:σ₀.length+17≤lw) (blo:σ₀.length+17≤lop)
  (r1:ρ[1]?=some (some (.loc (σ₀.length+1)))) (r23:ρ[23]?=some (some (.loc lw))) (h18:18 < ρ.length) (hsrc:∀σ',Kx (lop :: mutL (Lk σ₀)) σ σ'→src σ')
  (q:∀σ' z,KS m σ' (Lk σ₀) (N0 m)→σ'[lop]?=some (.dI ((optL m).map fun k:Nat=>((k:Int),V.int (op m k:Int))))→Kx (lop :: mutL (Lk σ₀)) σ σ'→σ.length≤σ'.length→Q .nx (ρ.set 18 z) σ') :
  forItems src (fun y ρ σ' K=>wpSs (C (n+7)) b35 (ρ.set 18 (some y)) σ' K) (natL (ops m)) ρ σ Q:=by
 refine Classical.byContradiction fun kk=>?_
 have nlw:lw≠lop:=fun e=>by rw[e,hop]at hw;cases hw
 obtain⟨z0,hz0⟩:∃z,ρ[18]?=some z:=⟨_,List.getElem?_eq_getElem h18⟩
 have self:ρ=ρ.set 18 z0:=(set_same hz0).symm
 refine kk ?_
 refine for_nat (fun d ρ' σ'=>(∃z,ρ'=ρ.set 18 z)∧KS m σ' (Lk σ₀) (40+d.length)∧σ'[lop]?=some (.dI (opD m d.length))∧Kx (lop :: mutL (Lk σ₀)) σ σ'∧σ.length≤σ'.length) (fun d ρ' σ' h=>hsrc _ h.2.2.2.1) ?_ ?_ ⟨⟨z0,self⟩,K,hop,.refl _ _,Nat.le_refl _⟩
 ·rintro d y r e ρ' σ' ⟨⟨z,rfl⟩,K',ho,kx,ln⟩ K2 k1 k2 k3
  have hd:d.length < (ops m).length:=by rw[e];simp
  have hy:op m (40+d.length)=y:=by
   unfold op
   rw[Nat.add_sub_cancel_left,List.getD_eq_getElem?_getD,e];simp
  have hopt:isOpt (40+d.length)=true:=by simp[isOpt]
  have hn0:40+d.length < N0 m:=Nat.add_lt_add_left hd 40
  have n0:=n0_le m
  have h1:((ρ.set 18 z).set 18 (some (.int (y:Int))))[1]?=some (some (.loc (σ₀.length+1))):=by rw[List.getElem?_set_ne (by decide),List.getElem?_set_ne (by decide)];exact r1
  have h23:((ρ.set 18 z).set 18 (some (.int (y:Int))))[23]?=some (some (.loc lw)):=by rw[List.getElem?_set_ne (by decide),List.getElem?_set_ne (by decide)];exact r23
  have hh18:((ρ.set 18 z).set 18 (some (.int (y:Int))))[18]?=some (some (.int (y:Int))):=by rw[List.getElem?_set_self (by simpa using h18)]
  have hmut:∀j,σ₀.length+17≤j→j∉mutL (Lk σ₀):=fun j hj=>not_mutL (le17 hj)
  have hw':σ'[lw]?=some (.dS W):=kx _ _ (by rw[List.mem_cons,not_or];exact⟨nlw,hmut _ blw⟩) hw
  have rr:=rowOf_opt (m:=m) hopt
  rw[hy]at rr
  refine va_of (Φ:=C (n+7)) hh18 (va_of (Φ:=C (n+7)) h23 (sub_dS hw' g8 (va_of (Φ:=C (n+7)) h1 (va_of (Φ:=C (n+7)) hh18 ⟨lel rfl,?_⟩))))
  refine s_value (L:=Lk σ₀) (l:=[(y:Int)]) K' (Nat.le_trans (by decide) (Nat.le_add_right 40 _)) hn0 rr rfl fun σ1 ks1 kx1 ln1=>?_
  have ho1:=kx1 _ _ (hmut _ blo) ho
  have uo:(opD m d.length).length≤line:=by unfold N0 at n0;simp[opD,oL,line];lia
  have ea:asets (opD m d.length) ((40+d.length:Nat):Int) (.int (y:Int))=opD m (d.length+1):=by
   unfold opD
   rw[oL_succ,←asets_map (oL d.length) (fun k=>V.int (op m k:Int)) (oL_new _)]
   simp only[hy]
  refine siI_of ho1 uo ?_
  rw[ea]
  have dl:(d++[y]).length=d.length+1:=by simp
  refine k1 _ _ ⟨⟨some (.int (y:Int)),by rw[List.set_set]⟩,?_,by rw[dl,List.getElem?_set_self (get_lt ho1)],?_,by rw[List.length_set,ln1];assumption⟩
  ·rw[dl]
   refine KS.kx (N:=[lop]) ks1 (Kx.set (.head _)) fun j hj h=>?_
   rw[List.mem_singleton.mp h]at hj
   exact Nat.not_le.mpr (ktP_in hj).2 (le17 blo)
  ·intro j o hj ej
   rw[List.mem_cons,not_or]at hj
   rw[List.getElem?_set_ne (Ne.symm hj.1)]
   exact kx1 _ _ hj.2 (kx _ _ (by rw[List.mem_cons,not_or];exact hj) ej)
 ·rintro ρ' σ' ⟨⟨z,rfl⟩,K',ho,kx,ln⟩
  exact q σ' z K' ho kx ln
end
set_option maxRecDepth 20000
section
variable {m:Wm}{σ₀ σ σ':Store}{n k nn:Nat}{Q:Post}{F:List (Int×V)}
noncomputable def wD3 (Bw:Nat) (m:Wm) (lo l16 l17 fl re lop l20:Nat):List (Nat×V):=wD2 Bw m lo l16 l17 fl re++[(8,.loc lop),(12,.loc l20)]
theorem w_end {l13 l14 l15 l16 l17 l19 l20 lo lw fl re Bw ba so va un:Nat}{z18 z25:Option V}{ol:Nat→Nat}(hm:m=mkW nn) (S:K2 m σ₀ σ 40 (NFx σ₀.length ba so va un) F [] []) (hw:σ[lw]?=some (.dS (wD2 Bw m lo l16 l17 fl re))) (hf:σ[fl]?=some (.dI [])) (Ov:OvD m σ₀.length σ lo ovK ol)
  (hcl:σ[Bw]?=some (.list (natL [17,18,16]))) (hba:σ[Bw+1]?=some (.list (natL [19,30,20,34]))) (hpl:σ[Bw+2]?=some (.list (natL [24,25,7]))) (hro:σ[Bw+4]?=some (.list (natL [21,22]))) (h13:σ[l13]?=some (.list (natL [26,27,28,29]))) (h20:σ[l20]?=some (.list (natL numL)))
  (hlo:σ₀.length+17≤lo) (hfl:σ₀.length+17≤fl) (hlw:σ₀.length+17≤lw) (h13':σ₀.length+17≤l13) (h20':σ₀.length+17≤l20)
  (q:∀σ' lv ol' lop W,Pst m σ₀ W (NFx σ₀.length ba so va un) F (wD2 Bw m lo l16 l17 fl re) lw lo fl lv 4 ol'→σ.length≤W.length→Kx [σ₀.length+14,σ₀.length+15,fl,lo] σ W→σ.length≤lop→KS m σ' (Lk σ₀) (N0 m)→Kx (lw :: mutL (Lk σ₀)) W σ'→σ'[lw]?=some (.dS (wD3 Bw m lo l16 l17 fl re lop l20))→σ'[lop]?=some (.dI ((optL m).map fun k:Nat=>((k:Int),V.int (op m k:Int))))→σ.length≤σ'.length→Q (.tup [.loc lw,.loc (σ₀.length+8)]) σ') :
  wpSs (C (n+7)) [w33,w34,w35,w36,w37] (ρ2 nn σ₀.length l13 l14 l15 l16 l17 z18 l19 l20 (some (.loc lo)) (some (.loc lw)) none z25) σ (rtn Q):=by
 have dis:lo≠fl:=fun e=>by
  have:=Ov.1
  rw[e,hf]at this
  have:=congrArg (fun o=>match o with | some (O.dI l)=>l.length | _=>0) this
  simp[ovK]at this
 refine s_asg ?_
 refine c_params (n:=n+5) hm S hw hf Ov rfl rfl rfl rfl rfl rfl hcl hba hpl hro h13 hlo hfl hlw h13' dis fun σ1 lv ol1 P1 kx1 ln1 hlv=>?_
 have hw1:=P1.hw
 have l1w:=get_lt hw1
 have bl:=S.len
 have g1:=Gw.push σ1 (.dI [])
 have hw2:=g1 _ _ hw1
 have K1:=P1.k2.ks.gw g1
 obtain⟨lop,elop⟩:∃l,σ1.length=l:=⟨_,rfl⟩
 have hop:(σ1++[O.dI []])[lop]?=some (.dI []):=by rw[←elop];simp
 obtain⟨σ2,e2⟩:∃τ,(σ1++[O.dI []]).set lw (.dS (wD2 Bw m lo l16 l17 fl re++[(8,.loc lop)]))=τ:=⟨_,rfl⟩
 have kx2:Kx [lw] (σ1++[O.dI []]) σ2:=by rw[←e2];exact Kx.set (by simp)
 have hw3:σ2[lw]?=some (.dS (wD2 Bw m lo l16 l17 fl re++[(8,.loc lop)])):=by rw[←e2,List.getElem?_set_self (get_lt hw2)]
 have hop2:=kx2 _ _ (ni1 (fun e=>Nat.ne_of_lt l1w (e.symm.trans elop.symm))) hop
 have ln2:σ2.length=σ1.length+1:=by rw[←e2];simp
 have K2':=K1.kx (N:=[lw]) kx2 (fun j hj h=>by
  rw[List.mem_singleton.mp h]at hj
  exact Nat.not_le.mpr (ktP_in hj).2 (le17 hlw))
 have ea:asets (wD2 Bw m lo l16 l17 fl re) 8 (.loc lop)=wD2 Bw m lo l16 l17 fl re++[(8,.loc lop)]:=rfl
 refine dI_of (kvs:=[]) (lel30 rfl) rfl List.nodup_nil (siS_of hw2 (Nat.le_of_ble_eq_true rfl) ?_)
 rw[elop,ea,e2]
 show wpSs (C (n+7)) [w35,w36,w37] (ρ2 nn σ₀.length l13 l14 l15 l16 l17 z18 l19 l20 (some (.loc lo)) (some (.loc lw)) (some (.loc lv)) z25) σ2 (rtn Q)
 have n20:l20∉[σ₀.length+14,σ₀.length+15,fl,lo]:=fun h=>by
  simp only[List.mem_cons,List.not_mem_nil,or_false]at h
  rcases h with h | h | h | h
  ·exact ne17 h20' rfl h
  ·exact ne17 h20' rfl h
  ·rw[h,hf]at h20;cases h20
  ·rw[h,Ov.1]at h20;cases h20
 have h20a:=kx2 _ _ (by rw[List.mem_singleton];intro h;rw[h]at h20;have:=kx1 _ _ (by rw[←h];exact n20) h20;rw[P1.hw]at this;cases this) (g1 _ _ (kx1 _ _ n20 h20))
 have hv2:σ2[lv]?=some (.list (natL (vals m))):=kx2 _ _ (by rw[List.mem_singleton];intro h;have:=P1.hv;rw[h,P1.hw]at this;cases this) (g1 _ _ P1.hv)
 refine e_ops (ρ:=ρ2 nn σ₀.length l13 l14 l15 l16 l17 z18 l19 l20 (some (.loc lo)) (some (.loc lw)) (some (.loc lv)) z25) (nn:=nn) (l20:=l20) (lv:=lv) hm rfl rfl rfl rfl rfl (show 25 < 26 by decide) h20a hv2 σ2 (.refl _) _ fun σ3 l g3 hl3 e3=>?_
 have hw4:=g3 _ _ hw3
 have hop4:=g3 _ _ hop2
 have ul:(natL (ops m)).length≤1000000:=by rw[natL_len];exact Nat.le_trans (Nat.le_trans (Nat.le_add_left _ 40) (n0_le m).1) (by decide)
 refine its_list e3 ⟨ul,?_⟩
 refine w_opts (ρ:=ρ2 nn σ₀.length l13 l14 l15 l16 l17 z18 l19 l20 (some (.loc lo)) (some (.loc lw)) (some (.loc lv)) z25) (n:=n) (K2'.gw g3) hw4 rfl hop4 hlw (by lia) rfl rfl (show 18 < 26 by decide) (fun σ' kx=>?_) fun σ4 z ks4 op4 kx4 ln4=>?_
 ·show σ'[l]?=σ3[l]?
  rw[kx _ _ (fun h=>?_) e3,e3]
  rcases List.mem_cons.mp h with h | h
  ·rw[h,hop4]at e3;cases e3
  ·exact not_mutL (Nat.le_trans (le17 P1.k2.len) (Nat.le_trans (Nat.le_of_lt (ln2▸Nat.lt_succ_self _)) hl3)) h
 ·have hw5:=kx4 _ _ (fun h=>(List.mem_cons.mp h).elim (fun e=>Nat.ne_of_lt l1w (e.trans elop.symm)) (not_mutL (le17 hlw))) hw4
  have l3:=gw_len g3
  have lw1:=get_lt P1.hw
  obtain⟨σ5,e5⟩:∃τ,σ4.set lw (.dS (wD3 Bw m lo l16 l17 fl re lop l20))=τ:=⟨_,rfl⟩
  have ea5:asets (wD2 Bw m lo l16 l17 fl re++[(8,.loc lop)]) 12 (.loc l20)=wD3 Bw m lo l16 l17 fl re lop l20:=rfl
  refine siS_of hw5 (Nat.le_of_ble_eq_true rfl) ?_
  rw[ea5,e5]
  have kx5:Kx [lw] σ4 σ5:=by rw[←e5];exact Kx.set (by simp)
  refine⟨lel rfl,q σ5 lv ol1 lop σ1 P1 (by lia) kx1 (by lia) (ks4.kx (N:=[lw]) kx5 fun j hj h=>?_) (fun j o hj e=>?_) (by rw[←e5,List.getElem?_set_self (get_lt hw5)]) (kx5 _ _ (ni1 (fun e=>Nat.ne_of_lt l1w (e.symm.trans elop.symm))) op4) (by rw[←e5,List.length_set];lia)⟩
  ·rw[List.mem_singleton.mp h]at hj
   exact Nat.not_le.mpr (ktP_in hj).2 (le17 hlw)
  ·have jl:=get_lt e
   rw[List.mem_cons,not_or]at hj
   refine kx5 _ _ (ni1 hj.1) (kx4 _ _ ?_ (g3 _ _ (kx2 _ _ (ni1 hj.1) (g1 _ _ e))))
   rw[List.mem_cons,not_or]
   exact⟨Nat.ne_of_lt (elop▸jl),hj.2⟩
end
set_option maxRecDepth 20000
theorem dTup_ci (l:List Nat) (f:Nat→List Nat):dTup (l.map fun k:Nat=>((k:Int),ci (f k))) = .dI (l.map fun k:Nat=>((k:Int),V.tup (natL (f k)))):=by
 unfold dTup
 rw[List.map_map]
 congr 1
 apply List.map_congr_left
 intro k _
 show((k:Int),itup (ci (f k)))=_
 rw[itup_ci]
section
variable {m:Wm}{P:Pl}{σ₀ σ σ':Store}{n k x i a b d:Nat}{Q:Post}
theorem rlaw (n:Nat):RLaw n:=by
 intro nn σ₀ Q hnn q
 refine call_eq (m:=f70) rfl rfl ?_
 show wpSs (C (n+13+7)) f70.body [some (.int (nn:Int)),none,none,none,none,none,none,none,none,none,none,none,none,none,none,none,none,none,none,none,none,none,none,none,none,none] σ₀ (rtn Q)
 rw[show f70.body=w1 :: w2 :: w3 :: w4 :: w5 :: w6 :: w7 :: w8 :: w9 :: (.assign 16 (.dict 0 [])) :: (.assign 17 (.dict 0 [])) :: w12 :: w13 :: w14 :: w15 :: rest70 from rfl]
 have ok:=mkW_ok nn
 refine w_start (n:=n+13) (m:=mkW nn) fun σ1 S1=>?_
 refine w_mid (n:=n+13) S1 fun σ2 l13 l14 l15 l16 l17 z25 S2 a13 a15 b13 b15 b16 b17 a16 a17=>?_
 refine w_faces (n:=n+13) S2 a13 a15 b13 b15 b16 b17 a16 a17 fun σ3 l19 l20 z18 S3 c13 c16 c17 b19 b20 c19 c20=>?_
 rw[rest70_eq]
 refine w_over (n:=n+13) rfl c19 S3.len fun σ4 ol4 g4 Ov4 hol4=>?_
 have S4:=S3.gw g4
 obtain⟨lo,elo⟩:∃lo,σ4.length - 1=lo:=⟨_,rfl⟩
 rw[elo]at Ov4 hol4 ⊢
 have hs3:σ3.length < lo:=Nat.lt_of_le_of_lt (hol4 21 (by decide)).2 (hol4 21 (by decide)).1
 have hlo:=le_lt S3.len hs3
 have b16':=le_lt (le_lt b13 b15) b16
 have b17':=le_lt b16' b17
 have b19':=le_lt b17' b19
 have b20':=le_lt b19' b20
 rw[rest16_eq]
 have nlo:∀{j:Nat} {o:O},σ3[j]?=some o→j≠lo:=fun h=>Nat.ne_of_lt (Nat.lt_trans (get_lt h) hs3)
 refine w_over2 (n:=n+13) Ov4 S4.len hlo (g4 _ _ c20) (g4 _ _ c19) (g4 _ _ c17) (nlo c17) fun σ5 ol5 z5 Ov5 kx5 ln5=>?_
 rw[rest19_eq]
 have S5:=S4.kx kx5 (all1 hlo) ln5
 have f:∀{j:Nat} {o:O},σ3[j]?=some o→σ5[j]?=some o:=fun h=>kx5 _ _ (ni1 (nlo h)) (g4 _ _ h)
 refine w_ifaces (n:=n+13) ok S5 Ov5 hlo (f c19) b19' fun σ6 z6 z6' S6 kx6 ln6=>?_
 have t6:∀{j:Nat} {o:O},σ₀.length+17≤j→σ5[j]?=some o→σ6[j]?=some o:=fun hj h=>kx6 _ _ (ni1 (ne17 hj rfl)) h
 have Ov6:OvD (mkW nn) σ₀.length σ6 lo ovK ol5:=⟨t6 hlo Ov5.1,fun k hk=>⟨t6 (Ov5.2 k hk).2 (Ov5.2 k hk).1,(Ov5.2 k hk).2⟩⟩
 rw[rest20_eq]
 refine w_attrs (n:=n+13) rfl S6 Ov6 (t6 b20' (f c20)) fun σ7 ba so un S7 kx7 ln7 bba bso bun hba hso hun=>?_
 have t7:∀{j:Nat} {o:O},σ₀.length+17≤j→σ6[j]?=some o→σ7[j]?=some o:=fun hj h=>kx7 _ _ (ni1 (ne17 hj rfl)) h
 have u7:∀{j:Nat} {o:O},σ₀.length+17≤j→σ3[j]?=some o→σ7[j]?=some o:=fun hj h=>t7 hj (t6 hj (f h))
 rw[rest23_eq]
 refine w_dict1 (n:=n+13) rfl S7 (u7 b19' c19) fun σ8 va S8 kx8 ln8 bva hva h0 h1 h2 h3 h4=>?_
 have t8:∀{j:Nat} {o:O},σ₀.length+17≤j→σ7[j]?=some o→σ8[j]?=some o:=fun hj h=>kx8 _ _ (ni1 (ne17 hj rfl)) h
 rw[rest27_eq]
 refine w_dict2 (n:=n+13) h3 (t8 b19' (u7 b19' c19)) (t8 b17' (u7 b17' c17)) fun σ9 re kx9 ln9 hw9 hf9 bre hre9=>?_
 have l73:σ₀.length+17≤σ7.length+3:=Nat.le_trans S7.len (Nat.le_add_right ..)
 have t9:∀{j:Nat} {o:O},j≠σ7.length+3→σ8[j]?=some o→σ9[j]?=some o:=fun hj h=>kx9 _ _ (ni1 hj) h
 have S9:=S8.kx kx9 (all1 l73) ln9
 have ne3:∀{j:Nat} {o:O},σ7[j]?=some o→j≠σ7.length+3:=fun h=>Nat.ne_of_lt (Nat.lt_of_lt_of_le (get_lt h) (Nat.le_add_right ..))
 have u9:∀{j:Nat} {o:O},σ₀.length+17≤j→σ7[j]?=some o→σ9[j]?=some o:=fun hj h=>t9 (ne3 h) (t8 hj h)
 have up:∀{j:Nat} {o:O},σ₀.length+17≤j→σ5[j]?=some o→σ9[j]?=some o:=fun hj h=>u9 hj (t7 hj (t6 hj h))
 have Ov9:OvD (mkW nn) σ₀.length σ9 lo ovK ol5:=⟨up hlo Ov5.1,fun k hk=>⟨up (Ov5.2 k hk).2 (Ov5.2 k hk).1,(Ov5.2 k hk).2⟩⟩
 rw[rest32_eq]
 have v0:=t9 (nac (a:=0) (b:=3) rfl) h0
 have v2:=t9 (nac rfl) h2
 refine w_end (n:=n+13) (Bw:=σ7.length) rfl S9 hw9 hf9 Ov9 v0 (t9 (nac rfl) h1) v2 (t9 (nac rfl) h4) (up b13 (f c13)) (up b20' (f c20)) hlo S8.len l73 b13 b20' fun σe lv ole lop W PW lnW kxW blop KSe kxe hwe hope lne=>?_
 have te:∀{j:Nat} {o:O},j≠σ7.length+3→σ₀.length+7≤j→W[j]?=some o→σe[j]?=some o:=fun hj h7 h=>kxe _ _ (fun h'=>(List.mem_cons.mp h').elim hj (not_mutL h7)) h
 have tc:∀{c:Nat} {o:O},Nat.ble 7 c=true→Nat.ble c 16=true→W[σ₀.length+c]?=some o→σe[σ₀.length+c]?=some o:=fun h7 h16 h=>te (Nat.ne_of_lt (Nat.lt_of_lt_of_le (lo17 _ _ h16) l73)) (up7 _ _ h7) h
 have tW:∀{j:Nat} {o:O},j≠σ7.length+3→σ₀.length+17≤j→j≠σ8.length→j≠lo→σ9[j]?=some o→σe[j]?=some o:=fun h1 h2 h3 h4 h=>te h1 (le17 h2) (kxW _ _ (ni4 (ne17 h2 rfl) (ne17 h2 rfl) h3 h4) h)
 have l78:σ7.length≤σ8.length:=Nat.le_trans (Nat.le_add_right ..) ln8
 have tV:∀{j:Nat} {o:O},σ₀.length+17≤j→j≠lo→σ7[j]?=some o→σe[j]?=some o:=fun h2 h4 h=>tW (ne3 h) h2 (Nat.ne_of_lt (Nat.lt_of_lt_of_le (get_lt h) l78)) h4 (u9 h2 h)
 have gl:∀{j:Nat},σ6.length≤j→j≠lo:=fun h=>Nat.ne_of_gt (Nat.lt_of_lt_of_le (get_lt Ov6.1) h)
 have gl7:∀{j:Nat},σ7.length≤j→j≠lo:=fun h=>gl (Nat.le_trans ln7 h)
 have tU:∀{j:Nat} {o:O},j≠σ7.length+3→σ7.length≤j→σ8[j]?=some o→σe[j]?=some o:=fun h1 h2 h=>tW h1 (Nat.le_trans S7.len h2) (Nat.ne_of_lt (get_lt h)) (gl7 h2) (t9 h1 h)
 have e_hi:=tc rfl rfl PW.k2.hi
 have e_hd:=tc rfl rfl PW.k2.hd
 have e_fa:=tc rfl rfl PW.k2.fa
 have e_bo:=tc rfl rfl PW.k2.bo
 have e_gf:=tc rfl rfl PW.k2.gf
 have e_ba:=tV (Nat.le_trans S6.len bba) (gl bba) hba
 have e_so:=tV (Nat.le_trans S6.len bso) (gl bso) hso
 have e_un:=tV (Nat.le_trans S6.len bun) (gl bun) hun
 have e_va:=tU (fun e=>by rw[e,h3]at hva;cases hva) bva hva
 have e_cl:=tU (nac (a:=0) (b:=3) rfl) (Nat.le_refl _) h0
 have e_pl:=tU (nac rfl) (Nat.le_add_right ..) h2
 have e_16:=tV b16' (nlo c16) (u7 b16' c16)
 have e_17:=tV b17' (nlo c17) (u7 b17' c17)
 have e_20:=tV b20' (nlo c20) (u7 b20' c20)
 have l8r:σ8.length≤re:=Nat.le_of_lt bre
 have e_re:=tW (Nat.ne_of_gt (Nat.lt_of_lt_of_le (Nat.add_lt_add_left (by decide) _) (Nat.le_trans ln8 l8r))) (Nat.le_trans S8.len l8r) (Nat.ne_of_gt bre) (gl7 (Nat.le_trans l78 l8r)) hre9
 have e_fl:=te (Nat.ne_of_gt (Nat.lt_of_lt_of_le (Nat.add_lt_add_left (by decide) _) ln8)) (le17 S8.len) PW.hf
 have e_ov:=te (Nat.ne_of_lt (Nat.lt_of_lt_of_le (get_lt Ov6.1) (Nat.le_trans ln7 (Nat.le_add_right ..)))) (le17 hlo) PW.ov.1
 have e_ol:∀k∈ovK++pL 4,σe[ole k]?=some (.list (natL (over (mkW nn) k))):=fun k hk=>te (fun e=>by
  have:=(PW.ov.2 k hk).1
  rw[e,PW.hw]at this;cases this) (le17 (PW.ov.2 k hk).2) (PW.ov.2 k hk).1
 obtain⟨P,eP⟩:∃P:Pl,P=⟨Lk σ₀,⟨σ₀.length+8,σ₀.length+7,ba,σ₀.length+10,so,va,un,σ₀.length+14,σ₀.length+15,σ₀.length+16⟩,⟨σ7.length+3,σ7.length,σ7.length+1,σ7.length+2,σ7.length+4,lo,l16,l17,σ8.length,re,lop,l20,ole⟩,σe.length⟩:=⟨_,rfl⟩
 have hmut:∀i∈P.mut,σ₀.length≤i∧i < σ₀.length+7:=fun i hi=>by
  rw[eP]at hi
  exact mutL_in hi
 have ei:=dTup_ci ovK (ifs (mkW nn))
 have ebo:=dTup_ci [26,27,28,29] (bounds (mkW nn))
 have I:Inv (mkW nn) P σe []:=by
  refine⟨ok,?_,fun σ' b=>?_,List.nodup_nil,(fun x h=>absurd h List.not_mem_nil),by rw[eP];exact Nat.le_refl _,?_⟩
  ·obtain⟨de,we,op,Kt,d1,d2,v1,v2⟩:=KSe
   refine⟨de,we,op,?_,fun d hd=>Int.le_trans (d2 d hd) (by decide),fun i w Z hw=>v2 w (List.mem_of_getElem? hw),fun w hw=>Int.le_trans (v2 w hw) (by decide)⟩
   rw[eP]
   have:rowsM (mkW nn) []=rwsK (mkW nn) (N0 (mkW nn)):=by unfold rowsM R0 rwsK;simp
   rw[this];exact Kt
  ·have tb:∀{j:Nat} {o:O},σ₀.length+7≤j→σe[j]?=some o→σ'[j]?=some o:=fun hj h=>b _ _ (by rw[eP];exact get_lt h) (fun h'=>Nat.not_le.mpr (hmut _ h').2 hj) h
   have x_hi:=tb (up7 _ 8 rfl) e_hi
   have x_hd:=tb (up7 _ 7 rfl) e_hd
   have x_fa:=tb (up7 _ 10 rfl) e_fa
   have x_bo:=tb (up7 _ 14 rfl) e_bo
   have x_gf:=tb (up7 _ 15 rfl) e_gf
   have x_ba:=tb (le17 (Nat.le_trans S6.len bba)) e_ba
   have x_so:=tb (le17 (Nat.le_trans S6.len bso)) e_so
   have x_un:=tb (le17 (Nat.le_trans S6.len bun)) e_un
   have x_va:=tb (le17 (Nat.le_trans S7.len bva)) e_va
   have x_w:=tb (le17 l73) hwe
   have x_cl:=tb (le17 S7.len) e_cl
   have x_pl:=tb (le17 (Nat.le_trans S7.len (Nat.le_add_right ..))) e_pl
   have x_16:=tb (le17 b16') e_16
   have x_17:=tb (le17 b17') e_17
   have x_20:=tb (le17 b20') e_20
   have x_re:=tb (le17 (Nat.le_trans S8.len l8r)) e_re
   have x_fl:=tb (le17 S8.len) e_fl
   have x_ov:=tb (le17 hlo) e_ov
   have x_op:=tb (le17 (Nat.le_trans S9.len blop)) hope
   have x_ol:∀k∈ovK++pL 4,σ'[ole k]?=some (.list (natL (over (mkW nn) k))):=fun k hk=>tb (le17 (PW.ov.2 k hk).2) (e_ol k hk)
   rw[eP]
   refine⟨⟨x_hi,x_hd,x_ba,?_,x_so,x_va,x_un,?_,x_gf⟩,⟨x_w,x_cl,x_pl,x_ov,x_ol,x_16,x_17,x_fl,x_re,x_op,x_20⟩⟩
   ·show σ'[σ₀.length+10]?=some (dTup (ovK.map fun k:Nat=>((k:Int),ci (ifs (mkW nn) k))))
    rw[ei];exact x_fa
   ·show σ'[σ₀.length+14]?=some (dTup ([26,27,28,29].map fun k:Nat=>((k:Int),ci (bounds (mkW nn) k))))
    rw[ebo];exact x_bo
  ·rw[eP]
   exact fun i hi=>Nat.lt_of_lt_of_le (ktP_in (σ:=σ₀) hi).2 (Nat.le_trans (le17 S9.len) lne)
 have:=q σe (mkW nn) P (fun j o e=>kxe _ _ (fun h'=>(List.mem_cons.mp h').elim (Nat.ne_of_lt (Nat.lt_of_lt_of_le (get_lt e) (Nat.le_trans (Nat.le_add_right ..) l73))) fun h'=>Nat.not_le.mpr (get_lt e) (mutL_in h').1) (PW.k2.old _ _ e)) I fun i hi=>(hmut i hi).1
 rw[eP]at this;exact this
end
set_option maxRecDepth 20000
theorem in_add {K:Frag}{h:Heap}{a:Addr}{o:Obj}(X:K.In h) (e:h.get? a=some o):Frag.In (K++[(a,o)]) h:=by
 intro b ob hb
 rw[List.lookup_append,Option.or_eq_some_iff]at hb
 rcases hb with hb | ⟨-,hb⟩
 ·exact X _ _ hb
 ·rw[List.lookup_cons]at hb
  split at hb
  ·rename_i q;cases hb;rw[beq_iff_eq.mp q];exact e
  ·cases hb
theorem glo_none {K:Frag}{h:Heap}{N:Addr}{mg:Str→Option Value}{n:Str}(X:K.In h) (G:h.Ns N mg) (e:nsIn K N n=some none):mg n=none:=by
 obtain⟨o,es,ep,ho,hd,-,hf⟩:=G
 unfold nsIn at e
 cases hk:K.lookup N with
 | none=>rw[hk]at e;cases e
 | some o'=>
  rw[hk]at e
  have q:=X _ _ hk
  rw[ho]at q
  cases q
  obtain⟨c,d,dt,sl⟩:=o
  cases hd
  dsimp only at e
  rw[←hf]
  show(es.find? fun x=>x.key.isStr n).map (·.val)=none
  rw[←Array.find?_toList]
  cases q2:es.toList.find? (fun x=>x.key.isStr n) with
  | none=>rfl
  | some y=>rw[q2]at e;cases e
theorem gl_of {K:Frag}{p:Program}{loose:List Str}{mean:ExcName→Option Value}{mg mb:Str→Option Value}{h:Heap}(X:K.In h) (T:Top p loose mean mg mb h):Gl K h:=
 ⟨⟨mg,T.g,fun Z Z e=>mg_of X T.g e,fun Z e=>glo_none X T.g e⟩,
 ⟨mb,T.b,(T.builtins "len" (by decide)).trans (by decide +kernel),(T.builtins "list" (by decide)).trans (by decide +kernel),(T.builtins "tuple" (by decide)).trans (by decide +kernel),(T.builtins "range" (by decide)).trans (by decide +kernel)⟩⟩
theorem ints_all2 {vs:List Value}{ns:List Int}(h:IntsAre vs ns):All2 (fun x y=>∃t,x = .int y t) vs ns:=by
 induction h with
 | nil=>exact .nil
 | cons n t _ ih=>exact .cons ⟨t,rfl⟩ ih
theorem fin {prog p:Program}{w:World}{K:Frag}{s₁:Shared}{a fa:Addr}{vals:List Value}{ns:List Int}{loose:List Str}{mean mean':ExcName→Option Value}{mg mb:Str→Option Value}{c:ClaimW}{cl:Str→Option Addr}{args:List WData}
  (X0:K.In s₁.heap) (T:Top p loose mean mg mb s₁.heap) (hL:s₁.heap.IsList a vals.toArray) (hI:IntsAre vals ns) (hn:ns.length≤63) (hg:s₁.gens = #[]) (hmg:mg "law"=some (.ref fa))
  (hb:(K.lookup cStatics).isSome=true) (h1:∀o,kChk (K++[(a,o)])=true) (h2:∀o,fnsChk (K++[(a,o)])=true) (h3:∀o,codesL.map (fnBody (K++[(a,o)]))=codesL.map bodyOf)
  (hr:∀cls,c.raises args cls=false) (hp:c.post args (.bool true) args=true):codeAny (model prog w) callerA (.call (.ref fa) ⟨[.ref a],[]⟩) (GoodWG c cl mean' args s₁) s₁:=by
 refine Classical.byContradiction fun kk=>?_
 obtain⟨o,ho,hc,n,hd⟩:=hL
 have X:=in_add X0 ho
 have hl:List.lookup a (K++[(a,o)])=some o:=by
  rw[List.lookup_append]
  cases q:List.lookup a K with
  | none=>simp
  | some o'=>have:=X0 a o' q;rw[ho]at this;rw[this];rfl
 have fb:Fb ⟨prog,w,K++[(a,o)],s₁.heap⟩ mfTab:=fb_of (U:=⟨prog,w,K++[(a,o)],s₁.heap⟩) X T.nolimit (gl_of X T) (h1 o) (h2 o) (List.map_inj_left.mp (h3 o))
 obtain⟨b,hb1,-⟩:=fb.funs 73 "law" rfl
 have hb2:=mg_of X T.g hb1
 rw[hmg]at hb2
 refine kk ?_
 cases hb2
 have hf:fnAddr (K++[(a,o)]) 73=some fa:=by
  show(match (funTab[73]?).map fun n=>nsIn _ mainGlobals n with | some (some (some (.ref a)))=>some a | _=>none)=_
  rw[show(funTab[73]?).map (fun n=>nsIn (K++[(a,o)]) mainGlobals n)=some (nsIn (K++[(a,o)]) mainGlobals "law") from rfl,hb1]
 have room:Room 22 callerA:=⟨rfl,by decide +kernel,by decide +kernel⟩
 have hs:∃x,s₁.heap.get? cStatics=some x:=by
  obtain⟨x,hx⟩:=Option.isSome_iff_exists.mp hb
  exact⟨x,X0 _ _ hx⟩
 have hr0:HRel ⟨prog,w,K++[(a,o)],s₁.heap⟩ s₁.heap [] []:=⟨rfl,.nil,(fun Z h=>by cases h),(fun i a o e=>by simp at e),(fun Z Z e=>e),(fun Z h=>by cases h),hs⟩
 have rv:RepVs ⟨prog,w,K++[(a,o)],s₁.heap⟩ s₁.heap [] [.ref a] [.ext ns]:=.cons (.ext hl hc hd (by simpa using ints_all2 hI)) .nil
 refine codeAny_mono (calls_ok fb 22 73 fa hf (Q:=fun v Z=>v = .bool true) room hr0 rv (l_law (n:=0) (rlaw 0) hn fun Z=>rfl)) fun r s' z=>?_
 rcases r with e | fl
 ·exact z.elim
 induction fl with
 | ret v=>
  obtain⟨u,μ',σ',st,ru,rfl⟩:=z
  cases ru
  obtain⟨h',t,rfl⟩:=st.same
  exact GoodW.toG ⟨.inl ⟨_,_,[],rfl,hr,ReadsW.bool true,hp,fun Z=>⟨List.nodup_nil,fun Z hm=>(nomatch hm)⟩⟩,fun b ob e=>st.keep b ob e (by simp),rfl,hg⟩
 | _=>exact z.elim
end Mine
namespace Mine.hd
def tw17183258118801545161:=Nat
def tw10727248033764811480:=Nat
def tw13986541588201334227:=Nat
def tw11256090449914621168:=Nat
def tw3811592773271367157:=Nat
def tw26425463804135960:=Nat
def tw5258571084090599385:=Nat
def tw16246349783247904111:=Nat
def tw12273058598527411343:=Nat
def tw13958120312559236348:=Nat
def tw266627367137399047:=Nat
def tw17811857907434863601:=Nat
def tw9571369944969941477:=Nat
def tw14137390275340422267:=Nat
def tw7854228177987924090:=Nat
def tw5095010599579401659:=Nat
def tw8053944837975664402:=Nat
def tw100483095206116625:=Nat
def tw12925607291903140011:=Nat
def tw14060154772996877548:=Nat
def tw7031273417212677730:=Nat
def tw16157073509204512506:=Nat
def tw262745018181394680:=Nat
def tw7433558315747005067:=Nat
def tw7763873220885509757:=Nat
def tw13111874981228315014:=Nat
def tw4706079058837389440:=Nat
def tw11128854368766332075:=Nat
def tw17065624631693535813:=Nat
def tw10657642232665330674:=Nat
def tw9238262914530080051:=Nat
def tw18293269684757346571:=Nat
def tw15453881632637574043:=Nat
def tw18264374347568628810:=Nat
def tw243823211424636713:=Nat
def tw14984183105004643987:=Nat
def tw6473349456372846780:=Nat
def tw8136687328062707162:=Nat
def tw8458067239894703972:=Nat
def tw2000490053193787569:=Nat
def tw6186238094035137676:=Nat
def tw9983995961361265002:=Nat
def tw5961118342813265553:=Nat
def tw6136932545381038964:=Nat
def tw3493717111155160527:=Nat
def tw17673860158736603733:=Nat
def tw17183224562656869120:=Nat
def tw11063760108456719545:=Nat
def tw7023726343779634624:=Nat
def tw9277588360372424766:=Nat
def tw10601615944963115059:=Nat
def tw4159134105002834734:=Nat
def tw11709330566771433103:=Nat
def tw12058812876911547015:=Nat
def tw190519026028168232:=Nat
def tw11801993109049149486:=Nat
def tw12870888531099404533:=Nat
def tw12127338746724423809:=Nat
def tw11009917854222514473:=Nat
def tw10361463201686427433:=Nat
def tw9990345226319884068:=Nat
def tw10258999931320997221:=Nat
def tw17001982702790524580:=Nat
def tw280609765759037681:=Nat
def tw5292301768408028288:=Nat
def tw5238241317806426387:=Nat
def tw12414669353804360901:=Nat
def tw11912922877643110818:=Nat
def tw9228397985900620932:=Nat
def tw6761669909254768831:=Nat
def tw1425423193147277237:=Nat
def tw4021928978595405253:=Nat
def tw2295870552580634182:=Nat
def tw14492701947808656938:=Nat
def tw6830512106363814048:=Nat
def tw442638132926106271:=Nat
def tw12268275109542032366:=Nat
def tw13929354066492186541:=Nat
def tw2448417245163862455:=Nat
def tw257007361410690125:=Nat
def tw14052039701678915610:=Nat
def tw9459050058782445324:=Nat
def tw9406673726873002282:=Nat
def tw15427206886491885616:=Nat
def tw14754404106442844205:=Nat
def tw12092154237167983948:=Nat
def tw6482722132109649516:=Nat
def tw10522781889535271158:=Nat
def tw2701402951725559080:=Nat
def tw1792636949448641307:=Nat
def tw4068527845204499245:=Nat
def tw15759970867653108152:=Nat
def tw4282304852377368616:=Nat
def tw9702936160620672325:=Nat
def tw1865391376527767206:=Nat
def tw8545014587354053640:=Nat
def tw1413172679324656950:=Nat
def tw7746578258024575070:=Nat
def tw162610821266807592:=Nat
def tw8664936974563722654:=Nat
def tw11632984921778587759:=Nat
def tw12629568148972539762:=Nat
def tw18245042118932799458:=Nat
def tw16477043939570097188:=Nat
def tw17471934795394947791:=Nat
def tw9430268157657104642:=Nat
def tw5549315172176941698:=Nat
def tw15610959940260225430:=Nat
def tw7512474625130614241:=Nat
def tw6898005170327248138:=Nat
def tw9577689765879766989:=Nat
def tw1847840615245081061:=Nat
def tw15833661619300960221:=Nat
def tw1013155817946168525:=Nat
def tw1043307727769730188:=Nat
def tw2781682124601125471:=Nat
def tw4367231431732253908:=Nat
def tw11249132867342737325:=Nat
def tw14457593812595234344:=Nat
def tw5247051413645994129:=Nat
def tw14852329139284432860:=Nat
def tw2304311442786299043:=Nat
def tw13783031573616600631:=Nat
def tw758273949599710562:=Nat
def tw11713075325732132258:=Nat
def tw13363553139645760527:=Nat
def tw12832683148521936107:=Nat
def tw10117440562283002822:=Nat
def tw9271970288684553227:=Nat
def tw3443669649825651883:=Nat
def tw5635641802508607975:=Nat
def tw15837987909243819085:=Nat
def tw5174551420813472067:=Nat
def tw14294344414604881677:=Nat
def tw16154546982801380032:=Nat
def tw12070654863422294720:=Nat
def tw17843490464661113860:=Nat
def tw7540741092611519060:=Nat
def tw1033889070964956483:=Nat
def tw2323474266016966308:=Nat
def tw16722109127936396110:=Nat
def tw2855845756224970109:=Nat
def tw5416991563250132298:=Nat
def tw13566260322249332789:=Nat
def tw10678649693572172417:=Nat
def tw6412100933407834118:=Nat
def tw16064382804478563927:=Nat
def tw15813434630575017362:=Nat
def tw16598086639473574507:=Nat
def tw728884934406724761:=Nat
def tw4172343393113369950:=Nat
def tw4315991029959535628:=Nat
def tw10879034167726328663:=Nat
def tw17903497710992402801:=Nat
def tw2068664650715991707:=Nat
def tw1382963296337349011:=Nat
def tw14400467628812073631:=Nat
def tw6438293893037913957:=Nat
def tw212345690472687942:=Nat
def tw12050417470231563642:=Nat
def tw16357263729072622229:=Nat
def tw6838551448383532254:=Nat
def tw3530705653197291679:=Nat
def tw16006246977917349235:=Nat
def tw876933089483189297:=Nat
def tw6545403380812914513:=Nat
def tw11162318198679636149:=Nat
def tw17599816209265215132:=Nat
def tw5562173858411828344:=Nat
def tw8960069828448710407:=Nat
def tw15529170255622000948:=Nat
def tw17177331786930743035:=Nat
def tw11389486352061984695:=Nat
def tw2887051446865420828:=Nat
def tw16240987189780228909:=Nat
def tw5608270528595127837:=Nat
def tw6264232113106981867:=Nat
def tw13903934854276604550:=Nat
def tw18291419657060728153:=Nat
def tw1331086792558400476:=Nat
def tw17606422857730326317:=Nat
def tw3694398316872202419:=Nat
def tw6469175993241445255:=Nat
def tw17447410573909459338:=Nat
def tw5036846961687405229:=Nat
def tw6990203504111849199:=Nat
def tw1506431575118746342:=Nat
def tw14772383043592177042:=Nat
def tw10743916045514856203:=Nat
def tw12588582704262371052:=Nat
def tw17491317419825422843:=Nat
def tw395138700845864316:=Nat
def tw1836080755315867724:=Nat
def tw17919194246423945575:=Nat
def tw5190246844813560578:=Nat
def tw6423634429210846174:=Nat
def tw8134915037123179040:=Nat
def tw8516288146210602744:=Nat
def tw11151547217846952531:=Nat
def tw3795277891434052102:=Nat
def tw5343241284826551009:=Nat
def tw6394381022753523788:=Nat
def tw6555240042291301478:=Nat
def tw9741134391959003819:=Nat
def tw11319892378374348655:=Nat
def tw1800889605409440832:=Nat
def tw8242931771332617035:=Nat
def tw17672654358674132775:=Nat
def tw8268277133935991078:=Nat
def tw541196102884509978:=Nat
def tw5592360268479517082:=Nat
def tw8025032847418708242:=Nat
def tw7676003278276379012:=Nat
def tw15948780112781908787:=Nat
def tw11011131195910976488:=Nat
def tw3953601041324332601:=Nat
def tw7654286748164834634:=Nat
def tw461538923250603899:=Nat
def tw13321331477185743149:=Nat
def tw14294001040229213422:=Nat
def tw12131494931117144662:=Nat
def tw10424393626065333798:=Nat
def tw13368278939475635651:=Nat
def tw8226494294326810461:=Nat
def tw15166520500009309586:=Nat
def tw6767318904944593275:=Nat
def tw9170477692918782315:=Nat
def tw18093812233618175256:=Nat
def tw14906377314874228009:=Nat
def tw8684328023851190084:=Nat
def tw8457440626546761165:=Nat
def tw8117029840178788049:=Nat
def tw432457690288141553:=Nat
def tw5318216170032084099:=Nat
def tw2930668341846507884:=Nat
def tw3309697970292668127:=Nat
def tw6924109203229866365:=Nat
def tw3452082135128663414:=Nat
def tw17454471701868102899:=Nat
def tw4402725079659364252:=Nat
def tw17047115858639842297:=Nat
def tw12350410155528471161:=Nat
def tw2480057099694739299:=Nat
def tw307737655149646647:=Nat
def tw10264135568141901301:=Nat
def tw11917015161858427179:=Nat
def tw2134215046882385847:=Nat
def tw3229955645248102723:=Nat
def tw6196171512934965099:=Nat
def tw12487502673411948298:=Nat
def tw16009884308244765898:=Nat
def tw9013056391748086436:=Nat
def tw9763420282994701918:=Nat
def tw13409441903868389331:=Nat
def tw10860895700388868024:=Nat
def tw8879563391730754479:=Nat
def tw5505005885091257285:=Nat
def tw4494801613693538912:=Nat
def tw14896477498954680388:=Nat
def tw15790720579355451973:=Nat
def tw17588044629489971554:=Nat
def tw10024716035694756283:=Nat
def tw10458740792067480800:=Nat
def tw16640546478005224243:=Nat
def tw15595854959937240912:=Nat
def tw17925215291927510665:=Nat
def tw16056359734778111409:=Nat
def tw12602439190401603521:=Nat
def tw4377701919642642989:=Nat
def tw2167537188350426706:=Nat
def tw7510230149288206974:=Nat
def tw1699103778626983548:=Nat
def tw1147470481896660410:=Nat
def tw697623264460660564:=Nat
def tw2788664435532181463:=Nat
def tw402640490398009360:=Nat
def tw4138081844389336918:=Nat
def tw4111692666942324129:=Nat
def tw18293851220164018083:=Nat
def tw1781861727890032366:=Nat
def tw6320253292602491972:=Nat
def tw18103420901670897651:=Nat
def tw8965841893048198262:=Nat
def tw3381375190539634487:=Nat
def tw250903467453971090:=Nat
def tw16634568088961857937:=Nat
def tw189712035060473897:=Nat
def tw10949625832625181284:=Nat
def tw11778180911958503814:=Nat
def tw17213754286329925777:=Nat
def tw6578402527460240241:=Nat
def tw1088296927520436173:=Nat
def tw9386895884608548742:=Nat
def tw15987713032478767096:=Nat
def tw2051048951616859547:=Nat
def tw7068711184596962023:=Nat
def tw6931407450589930559:=Nat
def tw15642763164714097627:=Nat
def tw3008623586974134963:=Nat
def tw15992342658441690333:=Nat
def tw15675198926951892251:=Nat
def tw13047593935725612058:=Nat
def tw6982297934935202809:=Nat
def tw3085183777334472315:=Nat
def tw16029623286316568529:=Nat
def tw8428860471423672150:=Nat
def tw1129884963351977449:=Nat
def tw519851828213033955:=Nat
def tw1439246655266547700:=Nat
def tw18219297243305740317:=Nat
def tw8671608845466749128:=Nat
def tw17711083657039698284:=Nat
def tw12393119488966705847:=Nat
def tw11032806212648032379:=Nat
def tw13365295217650922812:=Nat
def tw16178712458983371728:=Nat
def tw9298403506768410418:=Nat
def tw17714235663813219645:=Nat
def tw185848376630758926:=Nat
def tw881544763273948857:=Nat
def tw11905163887095721015:=Nat
def tw15852365999677673905:=Nat
def tw7880807054014371918:=Nat
def tw4136554803537287180:=Nat
def tw6046454685291232161:=Nat
def tw8269573656231971908:=Nat
def tw10784824025267889561:=Nat
def tw12769127236821124696:=Nat
def tw17062030032774818151:=Nat
def tw17696971302532935780:=Nat
def tw6528754448969337418:=Nat
def tw16155205043701107222:=Nat
def tw14892549342360969540:=Nat
def tw12614811148066621264:=Nat
def tw9073681462420916055:=Nat
def tw7369741819223213686:=Nat
def tw12647368939536790636:=Nat
def tw5388632664720090651:=Nat
def tw13066319289922817542:=Nat
def tw9345929723534960622:=Nat
def tw7541792107247259296:=Nat
def tw4297731678662094536:=Nat
def tw11136197038861592535:=Nat
def tw10847404155465417027:=Nat
def tw4360684699965382250:=Nat
def tw8683856772340465682:=Nat
def tw8789358453043137523:=Nat
def tw14029546391885035639:=Nat
def tw3434918251397683217:=Nat
def tw17895171251205151618:=Nat
def tw8716120427605611371:=Nat
def tw7628703163842673926:=Nat
def tw11953376511379268794:=Nat
def tw13225837485096350037:=Nat
def tw6785817131721698500:=Nat
def tw4870687313549177768:=Nat
def tw9155422001095189878:=Nat
def tw9719896912496429819:=Nat
def tw3922637787740509324:=Nat
def tw15616948245753086127:=Nat
def tw3704167492566942397:=Nat
def tw9960721518486171458:=Nat
def tw5902613922787404954:=Nat
def tw15083628210047938546:=Nat
def tw13289513938125300765:=Nat
def tw7519716089354478335:=Nat
def tw2951005344575393816:=Nat
def tw17491280204586788870:=Nat
def tw8004679753235328684:=Nat
def tw5505332120971382143:=Nat
def tw14685462170515437407:=Nat
def tw2502866573005156581:=Nat
def tw12611767792052310623:=Nat
def tw15578025631644234493:=Nat
def tw7914949630228597729:=Nat
def tw12901994302517312135:=Nat
def tw17377529257436501650:=Nat
def tw8735263284916673568:=Nat
def tw1118553966540926140:=Nat
def tw16473244170626142550:=Nat
def tw2195365466389143174:=Nat
def tw1760603350576429475:=Nat
def tw6164396464334811476:=Nat
def tw3350844169311001129:=Nat
def tw7721951785955056133:=Nat
def tw1222794163293265305:=Nat
def tw9783614193127449063:=Nat
def tw2327210489368252092:=Nat
def tw2216850387143573719:=Nat
def tw10525666975642140466:=Nat
def tw18343703819029505601:=Nat
def tw16211521421427940678:=Nat
def tw3109861748172591687:=Nat
def tw11213053971927718326:=Nat
def tw10292235466723388172:=Nat
def tw1610171440888473627:=Nat
def tw9496365245306024149:=Nat
def tw2708950531961675432:=Nat
def tw6868836192036940282:=Nat
def tw17234923516513369237:=Nat
def tw1409312971732116557:=Nat
def tw13285133528070534704:=Nat
def tw2114630138375439770:=Nat
def tw1997569388931296116:=Nat
def tw15527848837575444561:=Nat
def tw6759412095888398321:=Nat
def tw10402091048462035790:=Nat
def tw15643275761693703936:=Nat
def tw15967140613478806237:=Nat
def tw7028611270464810887:=Nat
def tw14598272352848978880:=Nat
def tw18293732401869909652:=Nat
def tw1452849714261714991:=Nat
def tw7793673504863384051:=Nat
def tw8356816923877370021:=Nat
def tw17054507655720011243:=Nat
def tw12070051907170230399:=Nat
def tw16853341256802265648:=Nat
def tw6627881031435992008:=Nat
def tw13315533130655954831:=Nat
def tw14478148883734587675:=Nat
def tw16794629799341752650:=Nat
def tw6998783941825042932:=Nat
def tw10030107230732127627:=Nat
def tw2284436838669742495:=Nat
def tw3451239065008710300:=Nat
def tw5366084841770067474:=Nat
def tw17420951861521290806:=Nat
def tw15103106377680225435:=Nat
def tw16412773359747925120:=Nat
def tw15042006015671813226:=Nat
def tw9748044761591592747:=Nat
def tw10614716105012338702:=Nat
def tw17901334829092211166:=Nat
def tw15043168886218598503:=Nat
def tw12591134339009171964:=Nat
def tw12173100003817136821:=Nat
def tw464777395874653626:=Nat
def tw13866372431405929976:=Nat
def tw12239354291974867115:=Nat
def tw3759623122121258479:=Nat
def tw7540655947842036084:=Nat
def tw15048261121198461528:=Nat
def tw17130151131035750659:=Nat
def tw16945582573551092051:=Nat
def tw13609717118414637909:=Nat
def tw16858285156579221889:=Nat
def tw14176624398918483544:=Nat
def tw17562767543260142214:=Nat
def tw16432713993328977331:=Nat
def tw11232374478483605306:=Nat
def tw7754304195085646258:=Nat
def tw17311223219408574766:=Nat
def tw16171809288044610508:=Nat
def tw1712922718373300912:=Nat
def tw3404104791013757517:=Nat
def tw13372043803930879067:=Nat
def tw4654797750381630734:=Nat
def tw14745743045033390146:=Nat
def tw17542962492245011380:=Nat
def tw17950676927832955104:=Nat
def tw8381844023166312768:=Nat
def tw13267510147771200024:=Nat
def tw15910714762333108613:=Nat
def tw2867327485932766208:=Nat
def tw4225703048834024713:=Nat
def tw6276725880618359904:=Nat
def tw9673543361469618366:=Nat
def tw7296583596125217682:=Nat
def tw13828106393651249627:=Nat
def tw12744807935193187038:=Nat
def tw9153386212771759811:=Nat
def tw8587404781116728655:=Nat
def tw3646829019195819677:=Nat
def tw9641152695372364146:=Nat
def tw18300207936620678264:=Nat
def tw12023040214023829324:=Nat
def tw16828841361933241965:=Nat
def tw11465210709893060100:=Nat
def tw5283464899586487735:=Nat
def tw11587034568685482758:=Nat
def tw10491609206876299696:=Nat
def tw6411954120941647267:=Nat
def tw4086058157674990017:=Nat
def tw8343274005884668182:=Nat
def tw7891253978561527248:=Nat
def tw9421340871869096474:=Nat
def tw1194904439430580092:=Nat
def tw9566141503761928105:=Nat
def tw8015326511298524721:=Nat
def tw11631869004601391166:=Nat
def tw6184208073178115725:=Nat
def tw5987830557187376847:=Nat
def tw13431754692932380062:=Nat
def tw14955159897011116063:=Nat
def tw10404513684093684653:=Nat
def tw5282504435634884242:=Nat
def tw10246146449241189800:=Nat
def tw1588505670450824345:=Nat
def tw17975533764899295144:=Nat
def tw6598312636042714100:=Nat
def tw6804821044290156842:=Nat
def tw4856431653887292112:=Nat
def tw4523669819894539328:=Nat
def tw14768889098011018680:=Nat
def tw13638418597567726942:=Nat
def tw13855946660403688772:=Nat
def tw9184186324627900627:=Nat
def tw12590977762386282803:=Nat
def tw5245234834050458271:=Nat
def tw1600037746751723098:=Nat
def tw15089522573102190283:=Nat
def tw13293453174229064190:=Nat
def tw17650839729002327288:=Nat
def tw13770079208771991547:=Nat
def tw17739348878880393726:=Nat
def tw2391449824757734642:=Nat
def tw991583007596301734:=Nat
def tw11513968764499736323:=Nat
def tw16299908979028503884:=Nat
def tw15279998641719260112:=Nat
def tw7120233287515763914:=Nat
def tw1359830224848277088:=Nat
def tw4383666589626881386:=Nat
def tw6123773746684550334:=Nat
def tw4478177076189095293:=Nat
def tw17258206423299326598:=Nat
def tw15416985209724490359:=Nat
def tw10738003575532504788:=Nat
def tw6906073325868019850:=Nat
def tw15411387601460861337:=Nat
def tw17574625026820762457:=Nat
def tw14560493823538711346:=Nat
def tw2386827423013361158:=Nat
def tw10905682514733158466:=Nat
def tw4363365295628954845:=Nat
def tw2799067240506288376:=Nat
def tw7927469264209771579:=Nat
def tw5480042469492414594:=Nat
def tw8977307856219701671:=Nat
def tw15368132723985388332:=Nat
def tw4642405928176397000:=Nat
def tw226724450230711188:=Nat
def tw11660266114150955751:=Nat
def tw5732804406350252772:=Nat
def tw7379015992945566340:=Nat
def tw14960593345356199642:=Nat
def tw9499510787657705874:=Nat
def tw11968265576560266318:=Nat
def tw13790719812936386609:=Nat
def tw15673258824015622330:=Nat
def tw9427301549700849589:=Nat
def tw9244321171653502345:=Nat
def tw11754176132448286083:=Nat
def tw14705683404202351889:=Nat
def tw15508949281206285077:=Nat
def tw12994019391074448376:=Nat
def tw4478166936697009375:=Nat
def tw13518370688599389936:=Nat
def tw4272726840584523970:=Nat
def tw22551697357593593:=Nat
def tw18268791191939849864:=Nat
def tw12399718760709695909:=Nat
def tw16257038226119295666:=Nat
def tw2315301623876862497:=Nat
def tw16456969618363192440:=Nat
def tw7534799579077118603:=Nat
def tw663384727985864361:=Nat
def tw5781342201191254626:=Nat
def tw7355570028127101125:=Nat
def tw8652628183442184457:=Nat
def tw7610815399733428385:=Nat
def tw11117797201346649052:=Nat
def tw1882180444382439491:=Nat
def tw8538877666451538035:=Nat
def tw7292484366425897655:=Nat
def tw6038821095411175016:=Nat
def tw13342606739435360313:=Nat
def tw15615537253650120727:=Nat
def tw5363564295841288755:=Nat
def tw7598622570094877466:=Nat
def tw15207398651663016943:=Nat
def tw16053994301053490033:=Nat
def tw12575139184659369484:=Nat
def tw4971549296188076032:=Nat
def tw920214292312260371:=Nat
def tw15422856539912107476:=Nat
def tw7317836474542784337:=Nat
def tw7289634563603522867:=Nat
def tw13931416462566266981:=Nat
def tw4993660671451451078:=Nat
def tw17330945745186091897:=Nat
def tw2603259988358896889:=Nat
def tw12459740579856956213:=Nat
def tw13642289790063256904:=Nat
def tw16970440968685349367:=Nat
def tw4115565904173853331:=Nat
def tw17387473266821786944:=Nat
def tw7366208706002141716:=Nat
def tw16007149819294483003:=Nat
def tw8112040973832200146:=Nat
def tw15463257786427224491:=Nat
def tw1666387254794493845:=Nat
def tw3673020696563887462:=Nat
def tw7578210074245671484:=Nat
def tw4702841417184801058:=Nat
def tw1011335219593555734:=Nat
def tw8047900516022102942:=Nat
def tw6818987989461384207:=Nat
def tw7523672394736509286:=Nat
def tw4449123307109862055:=Nat
def tw8068729725432388964:=Nat
def tw12112201142124510154:=Nat
def tw10752148897807903841:=Nat
def tw6442067068224118133:=Nat
def tw11375277706881905925:=Nat
def tw3915529967508079626:=Nat
def tw14980023328507725902:=Nat
def tw6882427118574961969:=Nat
def tw16302227732802510677:=Nat
def tw8770205317985620760:=Nat
def tw10844753989422098599:=Nat
def tw5054737718236178183:=Nat
def tw10806950440038215891:=Nat
def tw10216474801634566288:=Nat
def tw13532847315355080253:=Nat
def tw5976792059365374437:=Nat
def tw8990313861142287110:=Nat
def tw14620637471214046174:=Nat
def tw14353793391729792155:=Nat
def tw17893044597097874663:=Nat
def tw17902569758825723728:=Nat
def tw7698358502638924378:=Nat
def tw7153062008950511462:=Nat
def tw18185175575083235020:=Nat
def tw4990156530697904881:=Nat
def tw845060206244984605:=Nat
def tw8493152586797012548:=Nat
def tw12936449754285732098:=Nat
def tw17681399029576232318:=Nat
def tw17070941380808615275:=Nat
def tw12113243949977362033:=Nat
def tw13322179722446271537:=Nat
def tw10203026625882799534:=Nat
def tw8228950375871286339:=Nat
def tw6060742912462422084:=Nat
def tw6820862383352777685:=Nat
def tw9132557439983319658:=Nat
def tw4014540891139286612:=Nat
def tw13277076834127875243:=Nat
def tw14667805832236412624:=Nat
def tw8081886968326746073:=Nat
def tw7526368328331116154:=Nat
def tw1589133516308662214:=Nat
def tw5716766192118558609:=Nat
def tw5148922909946612681:=Nat
def tw6305734824756694309:=Nat
def tw2252305205657439004:=Nat
def tw6819123309680001836:=Nat
def tw3484992998616243462:=Nat
def tw16332348944364537037:=Nat
def tw11551083187376567056:=Nat
def tw10543509907540572799:=Nat
def tw7085514621470718492:=Nat
def tw13330244855972007585:=Nat
def tw5486487638281291605:=Nat
def tw3429492842335990350:=Nat
def tw10781468475247234061:=Nat
end Mine.hd
set_option tactic.hygienic true
set_option backward.match.sparseCases true
set_option genInjectivity true
set_option genSizeOf true
set_option genCtorIdx true
set_option bootstrap.genMatcherCode true
set_option Elab.async true
set_option maxRecDepth 100000 in
set_option maxHeartbeats 8000000 in
theorem Mine.hd : PySem.Challenge.rw_xm0314_01.Holds := by
  w_on; o_law; k_head; (case hw => w_witness2)
  w_strict (k_fill
            intro w s₀ s₁ mg mb G Y fa o pm cd doc dV kV ho hd hcd hD hmg hg args vals as hpre hlay hrd hwl hlo
            have KX := kIn_of Y
            refine Ground.open G ?_
            intro T B D TE TW
            try (refine guard_noD D (by decide +kernel) ?_; clear D)
            wrow_args hpre hlay hrd hwl hlo
            all_goals (
              refine enter_call ?_
              refine Mine.fin KX T (by assumption) (by assumption) ?_ hg hmg (by kernel_rfl) (fun o => ?_) (fun o => ?_) (fun o => ?_) (fun _ => rfl) ?_
              · omega
              · kernel_rfl
              · kernel_rfl
              · kernel_rfl
              · first | rfl | wrow_post))
theorem PySem.Challenge.cw_xm0314_01_holds : PySem.Challenge.rw_xm0314_01.Holds :=
  Mine.hd
