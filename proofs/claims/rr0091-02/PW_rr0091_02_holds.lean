import PyProof.Rows.All
import Wide.All
import OpenK.AllK
import Wide.FinOn
import KE.KRevSl
import KE.KSortKey
import KE.KDictSum
import KE.KSuper
import PySem.Challenge.RW_rr0091_02
set_option Elab.async false
set_option maxRecDepth 100000
set_option genInjectivity false
set_option genCtorIdx false
set_option genSizeOf false
set_option genSizeOfSpec false
set_option linter.unusedVariables false
set_option linter.unusedSimpArgs false
set_option linter.unusedSectionVars false
section
namespace Mini
inductive MV where
 | none
 | bool (b:Bool)
 | int (i:Int)
 | str (s:Nat)
 | tup (vs:List MV)
 | rng (lo hi:Int)
 | script
 | ref (a:Nat)
 | keys (a t:Nat)
noncomputable def MV.ctorIdx (v:MV):Nat:=MV.casesOn (motive_1:=fun uu=>Nat) v 0 (fun uu=>1) (fun uu=>2) (fun uu=>3) (fun uu=>4) (fun uu uu=>5) 6 (fun uu=>7) fun uu uu=>8
noncomputable def MV.flat:MV→Bool
 | .tup _=>false
 | .keys _ _=>false
 | _=>true
inductive MObj where
 | list (xs:List MV)
 | idict (es:List (Int×MV))
 | sdict (es:List (Nat×MV))
 | inst (as:List (Nat×MV))
noncomputable def MObj.ctorIdx (v:MObj):Nat:=MObj.casesOn (motive:=fun uu=>Nat) v (fun uu=>0) (fun uu=>1) (fun uu=>2) fun uu=>3
structure MHeap where
 next:Nat
 obj:Nat→Option MObj
 tick:Nat
noncomputable def MHeap.set (h:MHeap)(a:Nat)(o:MObj):MHeap:=⟨h.next,fun b=>if b=a then some o else h.obj b,h.tick + 1⟩
noncomputable def MHeap.new (h:MHeap)(o:MObj):MHeap:=⟨h.next + 1,fun b=>if b=h.next then some o else h.obj b,h.tick + 1⟩
noncomputable abbrev Vars:=Nat→Option MV
noncomputable def Vars.set (ρ:Vars)(x:Nat)(v:MV):Vars:=fun y=>if y=x then some v else ρ y
noncomputable abbrev HP:=MHeap→Prop
noncomputable abbrev KV:=MV→MHeap→Prop
noncomputable abbrev PT (α:Type):=(α→MHeap→Prop)→MHeap→Prop
inductive MFlow where
 | next | brk | cont
 | ret (v:MV)
 | raise
noncomputable def MFlow.ctorIdx (v:MFlow):Nat:=MFlow.casesOn (motive:=fun uu=>Nat) v 0 1 2 (fun uu=>3) 4
noncomputable abbrev KF:=MFlow→Vars→MHeap→Prop
noncomputable abbrev PS:=KF→Vars→MHeap→Prop
set_option genCtorIdx true in
inductive MOp where
 | add | sub | mul | fdiv | mod | band | shr | pow | cat | bor
set_option genCtorIdx true in
inductive MCmp where
 | eq | ne | lt | le | gt | ge | is | isnot | isin | notin
set_option genCtorIdx true in
inductive MB where
 | len | abs | list | tuple | range1 | range2 | int | sum
mutual
inductive ME where
 | none
 | bool (b:Bool)
 | int (i:Int)
 | str (s:Nat)
 | var (x:Nat)
 | glob (i:Int)
 | attr (e:ME)(a:Nat)
 | bin (op:MOp)(l r:ME)
 | neg (e:ME)
 | not (e:ME)
 | cmp (op:MCmp)(l r:ME)
 | and (es:MEs)
 | or (es:MEs)
 | ite (t a b:ME)
 | sub (e i:ME)
 | sliceTo (e hi:ME)
 | sliceFrom (e lo:ME)
 | list (es:MEs)
 | tup (es:MEs)
 | dict0
 | dict2 (k:Nat)(e:ME)(k':Nat)(e':ME)
 | callF (f:Nat)(es:MEs)
 | callM (o:ME)(m:Nat)(es:MEs)
 | callB (b:MB)(es:MEs)
 | isbool (e:ME)
 | new (es:MEs)
 | comp (elt:ME)(x:Nat)(it:ME)(cond:MEs)
 | dcomp (k v:ME)(x:Nat)(it:ME)
 | sortAbs (e:ME)
 | sortKeyRev (e o:ME)(m:Nat)
 | keys (e:ME)
 | rev (e:ME)
 | dict1 (k e:ME)
 | chain (p q:MCmp)(a b c:ME)
 | gtup (is:List Int)
inductive MEs where
 | nil
 | cons (e:ME)(es:MEs)
end
inductive MT where
 | var (x:Nat)
 | attr (o:ME)(a:Nat)
 | sub (o i:ME)
mutual
inductive MS where
 | assign (t:MT)(e:ME)
 | assigns (ts:List MT)(es:MEs)
 | expr (e:ME)
 | ite (t:ME)(a b:MSs)
 | while (t:ME)(b:MSs)
 | for (x:Nat)(it:ME)(b:MSs)
 | ret (e:ME)
 | retNone
 | brk
 | cont
 | bad
 | raise (e:ME)
 | tryM (x:Nat)(o:ME)(m:Nat)(es:MEs)
inductive MSs where
 | nil
 | cons (s:MS)(r:MSs)
end
structure MFn where
 npar:Nat
 sup:Option Nat
 body:MSs
structure MProg where
 fns:List MFn
 meths:List (Nat×Nat)
 init:Nat
inductive Yields {α:Type}(R Q:α→Prop):Prop
 | mk {a:α}(r:R a)(q:Q a)
inductive Via (R:MV→MHeap→Prop)(Q:MV→MHeap→Prop):Prop
 | mk {u:MV}{h:MHeap}(r:R u h)(q:Q u h)
inductive Alt (R:MHeap→Prop)(Q:MHeap→Prop):Prop
 | mk {h:MHeap}(r:R h)(q:Q h)
inductive Tru:MV→Bool→Prop
 | none:Tru .none false
 | bool (b:Bool):Tru (.bool b) b
 | int (i:Int):Tru (.int i) (i != 0)
noncomputable def fin:Bool→KV→KV
 | false,Q=>Q
 | true,Q=>fun v h=>Yields (Tru v) fun b=>Q (.bool b) h
inductive AEq:MV→MV→Bool→Prop
 | nn:AEq .none .none true
 | nb (b:Bool):AEq .none (.bool b) false
 | ni (i:Int):AEq .none (.int i) false
 | bn (b:Bool):AEq (.bool b) .none false
 | int (i:Int):AEq (.int i) .none false
 | bb (a b:Bool):AEq (.bool a) (.bool b) (a==b)
 | ii (a b:Int):AEq (.int a) (.int b) (a==b)
inductive EqL (R:MV→MV→Bool→Prop):List MV→List MV→Bool→Prop
 | nil:EqL R [] [] true
 | left (x:MV)(r:List MV):EqL R (x::r) [] false
 | right (y:MV)(s:List MV):EqL R [] (y::s) false
 | cons {x y:MV}{r s:List MV}{a b:Bool}(h:R x y a)(t:EqL R r s b):EqL R (x::r) (y::s) (a&&b)
inductive FEq:MV→MV→Bool→Prop
 | at {x y:MV}{b:Bool}(e:AEq x y b):FEq x y b
 | nt (vs:List MV):FEq .none (.tup vs) false
 | tn (vs:List MV):FEq (.tup vs) .none false
 | tt {xs ys:List MV}{b:Bool}(e:EqL AEq xs ys b):FEq (.tup xs) (.tup ys) b
noncomputable def kget {κ:Type} [DecidableEq κ]:List (κ×MV)→κ→Option MV
 | [],_=>none
 | p::r,k=>if p.1=k then some p.2 else kget r k
inductive LEq (xs ys:List MV):Bool→Prop
 | all {b:Bool}(e:EqL FEq xs ys b):LEq xs ys b
 | lens (e:xs.length≠ys.length):LEq xs ys false
inductive Eqv (h:MHeap):MV→MV→Bool→Prop
 | flat {x y:MV}{b:Bool}(e:FEq x y b):Eqv h x y b
 | list {i j:Nat}{xs ys:List MV}{b:Bool}(p:h.obj i=some (.list xs))(q:h.obj j=some (.list ys))(e:EqL FEq xs ys b):Eqv h (.ref i) (.ref j) b
 | lens {i j:Nat}{xs ys:List MV}(p:h.obj i=some (.list xs))(q:h.obj j=some (.list ys))(e:xs.length≠ys.length):Eqv h (.ref i) (.ref j) false
inductive IsV:MV→MV→Bool→Prop
 | nn:IsV .none .none true
 | nb (b:Bool):IsV .none (.bool b) false
 | bn (b:Bool):IsV (.bool b) .none false
 | int (i:Int):IsV (.int i) .none false
 | tn (vs:List MV):IsV (.tup vs) .none false
 | rn (i:Nat):IsV (.ref i) .none false
 | bb (a b:Bool):IsV (.bool a) (.bool b) (a==b)
inductive InL (v:MV):List MV→Bool→Prop
 | nil:InL v [] false
 | cons {x:MV}{r:List MV}{a b:Bool}(e:AEq x v a)(t:InL v r b):InL v (x::r) (a||b)
inductive InV (h:MHeap):MV→MV→Bool→Prop
 | tup {v:MV}{xs:List MV}{b:Bool}(e:InL v xs b):InV h v (.tup xs) b
 | list {v:MV}{i:Nat}{xs:List MV}{b:Bool}(p:h.obj i=some (.list xs))(e:InL v xs b):InV h v (.ref i) b
 | dict {k:Int}{i:Nat}{es:List (Int×MV)}(p:h.obj i=some (.idict es)):InV h (.int k) (.ref i) (es.any fun e=>e.1==k)
 | two {k i j:Nat}{xs ys zs:List MV}{a b:Bool}(r:h.obj k=some (.list zs))(p:h.obj i=some (.list xs))(q:h.obj j=some (.list ys))(n:i≠j)(m:k≠i)(m':k≠j)(e:LEq xs zs a)(f:LEq ys zs b):InV h (.ref k) (.tup [.ref i,.ref j]) (a||b)
inductive Cmp (h:MHeap):MCmp→MV→MV→Bool→Prop
 | eq {x y:MV}{b:Bool}(e:Eqv h x y b):Cmp h .eq x y b
 | ne {x y:MV}{b:Bool}(e:Eqv h x y b):Cmp h .ne x y (!b)
 | is {x y:MV}{b:Bool}(e:IsV x y b):Cmp h .is x y b
 | isnot {x y:MV}{b:Bool}(e:IsV x y b):Cmp h .isnot x y (!b)
 | isin {x y:MV}{b:Bool}(e:InV h x y b):Cmp h .isin x y b
 | notin {x y:MV}{b:Bool}(e:InV h x y b):Cmp h .notin x y (!b)
 | lt (a b:Int):Cmp h .lt (.int a) (.int b) (decide (a<b))
 | le (a b:Int):Cmp h .le (.int a) (.int b) (decide (a≤b))
 | gt (a b:Int):Cmp h .gt (.int a) (.int b) (decide (b<a))
 | ge (a b:Int):Cmp h .ge (.int a) (.int b) (decide (b≤a))
 | gt2 (a b c d:Int):Cmp h .gt (.tup [.int a,.int b]) (.tup [.int c,.int d]) (decide (c<a)||(a==c&&decide (d<b)))
noncomputable abbrev intLine:Int:=2 ^ 60
noncomputable def small (i:Int):Prop:=-intLine<i∧i<intLine
noncomputable abbrev lenLine:Nat:=2 ^ 20
inductive Ari:MOp→Int→Int→Int→Prop
 | add (a b:Int):Ari .add a b (a + b)
 | sub (a b:Int):Ari .sub a b (a - b)
 | mul {a b:Int}(l:small a∨small b):Ari .mul a b (a * b)
 | fdiv {a b:Int}(l:0<b)(m:b≤1000000000):Ari .fdiv a b (a.fdiv b)
 | mod {a b:Int}(l:b≠0):Ari .mod a b (a.fmod b)
 | band {a b:Int}(l:0≤a)(m:0≤b):Ari .band a b ((a.toNat&&&b.toNat:Nat):Int)
 | bor {a b:Int}(l:0≤a)(m:0≤b):Ari .bor a b ((a.toNat|||b.toNat:Nat):Int)
 | shr {a b:Int}(l:0≤b):Ari .shr a b (a.fdiv (2 ^ b.toNat))
 | pow {a b:Int}(l:0≤b)(m:b≤1000)(n:small a):Ari .pow a b (a ^ b.toNat)
inductive Bin (h:MHeap):MOp→MV→MV→MV→MHeap→Prop
 | ari {op:MOp}{a b c:Int}(e:Ari op a b c):Bin h op (.int a) (.int b) (.int c) h
 | cat {i j:Nat}{xs ys:List MV}(p:h.obj i=some (.list xs))(q:h.obj j=some (.list ys))(l:xs.length + ys.length≤lenLine):Bin h .cat (.ref i) (.ref j) (.ref h.next) (h.new (.list (xs++ys)))
noncomputable def kset {κ:Type} [DecidableEq κ]:List (κ×MV)→κ→MV→List (κ×MV)
 | [],k,v=>[(k,v)]
 | p::r,k,v=>if p.1=k then (p.1,v)::r else p::kset r k v
noncomputable def kdel {κ:Type} [DecidableEq κ]:List (κ×MV)→κ→List (κ×MV)
 | [],_=>[]
 | p::r,k=>if p.1=k then r else p::kdel r k
inductive Place (n:Nat):Int→Nat→Prop
 | pos {j:Nat}(l:j<n):Place n (j:Int) j
 | neg {j:Nat}(l:j<n):Place n ((j:Int) - n) j
noncomputable def clamp (n:Nat)(i:Int):Nat:=
 if 0≤i then min i.toNat n else (n + i).toNat
inductive GetA (h:MHeap):MV→Nat→MV→Prop
 | mk {x a:Nat}{as:List (Nat×MV)}{w:MV}(p:h.obj x=some (.inst as))(q:kget as a=some w):GetA h (.ref x) a w
inductive GetI (h:MHeap):MV→MV→MV→Prop
 | tup {xs:List MV}{k:Int}{j:Nat}{w:MV}(l:Place xs.length k j)(q:xs[j]?=some w):GetI h (.tup xs) (.int k) w
 | list {i:Nat}{xs:List MV}{k:Int}{j:Nat}{w:MV}(p:h.obj i=some (.list xs))(l:Place xs.length k j)(q:xs[j]?=some w):GetI h (.ref i) (.int k) w
 | idict {i:Nat}{es:List (Int×MV)}{k:Int}{w:MV}(p:h.obj i=some (.idict es))(q:kget es k=some w):GetI h (.ref i) (.int k) w
 | sdict {i:Nat}{es:List (Nat×MV)}{k:Nat}{w:MV}(p:h.obj i=some (.sdict es))(q:kget es k=some w):GetI h (.ref i) (.str k) w
inductive SetI (h:MHeap)(w:MV):MV→MV→MHeap→Prop
 | list {i:Nat}{xs:List MV}{j:Nat}(p:h.obj i=some (.list xs))(l:j<xs.length):SetI h w (.ref i) (.int (j:Int)) (h.set i (.list (xs.set j w)))
 | idict {i:Nat}{es:List (Int×MV)}{k:Int}(p:h.obj i=some (.idict es))(l:es.length<lenLine):SetI h w (.ref i) (.int k) (h.set i (.idict (kset es k w)))
 | sdict {i:Nat}{es:List (Nat×MV)}{k:Nat}(p:h.obj i=some (.sdict es))(l:es.length<lenLine):SetI h w (.ref i) (.str k) (h.set i (.sdict (kset es k w)))
inductive SetA (h:MHeap)(a:Nat)(w:MV):MV→MHeap→Prop
 | mk {x:Nat}{as:List (Nat×MV)}(p:h.obj x=some (.inst as))(l:as.length<100):SetA h a w (.ref x) (h.set x (.inst (kset as a w)))
inductive SlTo (sc:List Int)(h:MHeap):MV→MV→MV→MHeap→Prop
 | script (k:Int):SlTo sc h .script (.int k) (.ref h.next) (h.new (.list ((sc.take (clamp sc.length k)).map .int)))
 | list {i:Nat}{xs:List MV}(k:Int)(p:h.obj i=some (.list xs)):SlTo sc h (.ref i) (.int k) (.ref h.next) (h.new (.list (xs.take (clamp xs.length k))))
inductive SlFrom (h:MHeap):MV→MV→MV→MHeap→Prop
 | list {i:Nat}{xs:List MV}(k:Int)(p:h.obj i=some (.list xs)):SlFrom h (.ref i) (.int k) (.ref h.next) (h.new (.list (xs.drop (clamp xs.length k))))
inductive Rev (h:MHeap):MV→MV→MHeap→Prop
 | list {i:Nat}{xs:List MV}(p:h.obj i=some (.list xs)):Rev h (.ref i) (.ref h.next) (h.new (.list xs.reverse))
inductive Keys (h:MHeap):MV→MV→Prop
 | mk (i:Nat):Keys h (.ref i) (.keys i h.tick)
noncomputable def rngL (lo hi:Int):List MV:=(List.range (hi - lo).toNat).map fun k:Nat=>.int (lo + (k:Int))
inductive Items (h:MHeap):MV→List MV→Prop
 | tup (xs:List MV):Items h (.tup xs) xs
 | rng (lo hi:Int):Items h (.rng lo hi) (rngL lo hi)
 | list {i:Nat}{xs:List MV}(p:h.obj i=some (.list xs)):Items h (.ref i) xs
 | keys {i:Nat}{es:List (Int×MV)}(p:h.obj i=some (.idict es)):Items h (.keys i h.tick) (es.map fun e=>.int e.1)
noncomputable def compL (chk:HP)(cond:MV→PT Bool)(elt:MV→PT MV):List MV→List MV→PT (List MV)
 | [],acc=>fun Q h=>chk h∧Q acc h
 | v::r,acc=>fun Q h=>chk h∧cond v (fun b h=>match b with
  | true=>elt v (fun w h=>acc.length<lenLine∧compL chk cond elt r (acc++[w]) Q h) h
  | false=>compL chk cond elt r acc Q h) h
inductive PairQ (acc:List (Int×MV))(Q:List (Int×MV)→Prop):MV→MV→Prop
 | mk {i:Int}{w:MV}(l:acc.length<lenLine)(q:Q (kset acc i w)):PairQ acc Q (.int i) w
noncomputable def dcompL (chk:HP)(ke ve:MV→PT MV):List MV→List (Int×MV)→PT (List (Int×MV))
 | [],acc=>fun Q h=>chk h∧Q acc h
 | v::r,acc=>fun Q h=>chk h∧ke v (fun k h=>ve v (fun w h=>PairQ acc (fun acc'=>dcompL chk ke ve r acc' Q h) k w) h) h
noncomputable def forL (chk:HP)(body:MV→PS):List MV→PS
 | [],Q,ρ,h=>chk h∧Q .next ρ h
 | v::r,Q,ρ,h=>chk h∧body v (fun f ρ' h'=>match f with
  | .next=>forL chk body r Q ρ' h'
  | .cont=>forL chk body r Q ρ' h'
  | .brk=>Q .next ρ' h'
  | .ret w=>Q (.ret w) ρ' h'
  | .raise=>Q .raise ρ' h') ρ h
inductive If (v:MV)(P Q:Prop):Prop
 | yes (e:v = .bool true)(p:P)
 | no (e:v = .bool false)(q:Q)
noncomputable def whileN (test:Vars→PT MV)(body:PS):Nat→PS
 | 0,_,_,_=>False
 | n + 1,Q,ρ,h=>test ρ (fun v h'=>If v (body (fun f ρ' h''=>match f with
   | .next=>whileN test body n Q ρ' h''
   | .cont=>whileN test body n Q ρ' h''
   | .brk=>Q .next ρ' h''
   | .ret w=>Q (.ret w) ρ' h''
   | .raise=>Q .raise ρ' h'') ρ h') (Q .next ρ h')) h
inductive Bui (h:MHeap):MB→List MV→MV→MHeap→Prop
 | lenT (xs:List MV):Bui h .len [.tup xs] (.int xs.length) h
 | lenL {i:Nat}{xs:List MV}(p:h.obj i=some (.list xs)):Bui h .len [.ref i] (.int xs.length) h
 | abs (i:Int):Bui h .abs [.int i] (.int i.natAbs) h
 | listT (xs:List MV):Bui h .list [.tup xs] (.ref h.next) (h.new (.list xs))
 | listL {i:Nat}{xs:List MV}(p:h.obj i=some (.list xs)):Bui h .list [.ref i] (.ref h.next) (h.new (.list xs))
 | tupL {i:Nat}{xs:List MV}(p:h.obj i=some (.list xs))(f:xs.all MV.flat=true):Bui h .tuple [.ref i] (.tup xs) h
 | int (a:Int):Bui h .int [.int a] (.int a) h
 | sum {i:Nat}{is:List Int}(p:h.obj i=some (.list (is.map .int)))(l:is.length<64)(m:∀ a∈is,0≤a∧a≤1000):Bui h .sum [.ref i] (.int is.sum) h
 | range1 {n:Int}(l:small n):Bui h .range1 [.int n] (.rng 0 n) h
 | range2 {m n:Int}(l:small m)(l':small n):Bui h .range2 [.int m,.int n] (.rng m n) h
inductive MK where
 | list | dict
 | inst (f:Nat)
noncomputable def MK.ctorIdx (v:MK):Nat:=MK.casesOn (motive:=fun uu=>Nat) v 0 1 fun uu=>2
inductive Kind (P:MProg)(h:MHeap)(m:Nat):MV→MK→Prop
 | list {i:Nat}{xs:List MV}(p:h.obj i=some (.list xs))(l:m<3):Kind P h m (.ref i) .list
 | dict {i:Nat}{es:List (Int×MV)}(p:h.obj i=some (.idict es))(l:m=2∨m=3∨m=4∨m=5):Kind P h m (.ref i) .dict
 | inst {i:Nat}{as:List (Nat×MV)}{f:Nat}(p:h.obj i=some (.inst as))(e:P.meths.lookup m=some f):Kind P h m (.ref i) (.inst f)
inductive Meth (h:MHeap):MK→Nat→MV→List MV→MV→MHeap→Prop
 | append {i:Nat}{xs:List MV}{w:MV}(p:h.obj i=some (.list xs))(l:xs.length<lenLine):Meth h .list 0 (.ref i) [w] .none (h.set i (.list (xs++[w])))
 | extend {i j:Nat}{xs ys:List MV}(p:h.obj i=some (.list xs))(q:h.obj j=some (.list ys))(l:xs.length + ys.length≤lenLine):Meth h .list 1 (.ref i) [.ref j] .none (h.set i (.list (xs++ys)))
 | popL {i:Nat}{xs:List MV}{w:MV}(p:h.obj i=some (.list (xs++[w]))):Meth h .list 2 (.ref i) [] w (h.set i (.list xs))
 | get {i:Nat}{es:List (Int×MV)}(k:Int)(p:h.obj i=some (.idict es)):Meth h .dict 4 (.ref i) [.int k] ((kget es k).getD .none) h
 | get2 {i:Nat}{es:List (Int×MV)}(k:Int)(w:MV)(p:h.obj i=some (.idict es)):Meth h .dict 4 (.ref i) [.int k,w] ((kget es k).getD w) h
 | update {i j:Nat}{es fs:List (Int×MV)}(p:h.obj i=some (.idict es))(q:h.obj j=some (.idict fs))(n:i≠j)(l:es.length + fs.length≤lenLine):Meth h .dict 3 (.ref i) [.ref j] .none (h.set i (.idict (fs.foldl (fun a e=>kset a e.1 e.2) es)))
 | popD {i:Nat}{es:List (Int×MV)}{k:Int}{w:MV}{r:List MV}(p:h.obj i=some (.idict es))(e:kget es k=some w)(l:r.length≤1):Meth h .dict 2 (.ref i) (.int k::r) w (h.set i (.idict (kdel es k)))
 | popN {i:Nat}{es:List (Int×MV)}{k:Int}{w:MV}(p:h.obj i=some (.idict es))(e:kget es k=none):Meth h .dict 2 (.ref i) [.int k,w] w h
 | defS {i:Nat}{es:List (Int×MV)}{k:Int}{u w:MV}(p:h.obj i=some (.idict es))(e:kget es k=some u):Meth h .dict 5 (.ref i) [.int k,w] u h
 | defN {i:Nat}{es:List (Int×MV)}{k:Int}{w:MV}(p:h.obj i=some (.idict es))(e:kget es k=none)(l:es.length<lenLine):Meth h .dict 5 (.ref i) [.int k,w] w (h.set i (.idict (kset es k w)))
inductive IsB:MV→Bool→Prop
 | bool (b:Bool):IsB (.bool b) true
 | int (i:Int):IsB (.int i) false
inductive One2:MV→Prop
 | one:One2 (.int 1)
 | two:One2 (.int 2)
noncomputable def keysL (call:Nat→List MV→PT MV)(f:Nat)(o:MV):List MV→PT (List Int)
 | []=>fun Q h=>Q [] h
 | v::r=>fun Q h=>call f [o,v] (fun k h=>Yields (fun i=>k = .int i) fun i=>keysL call f o r (fun ks h=>Q (i::ks) h) h) h
inductive SortA (h:MHeap)(Q:KV):MV→Prop
 | mk {i:Nat}{es:List (Int×MV)}(p:h.obj i=some (.idict es))(l:es.length<64)(q:∀ ys:List Int,ys.Perm (es.map (·.1))→ys.Pairwise (fun a b=>a.natAbs≤b.natAbs)→Q (.ref h.next) (h.new (.list (ys.map .int)))):SortA h Q (.ref i)
 | list {i:Nat}{is:List Int}(p:h.obj i=some (.list (is.map .int)))(l:is.length<64)(q:∀ ys:List Int,ys.Perm is→ys.Pairwise (fun a b=>a.natAbs≤b.natAbs)→Q (.ref h.next) (h.new (.list (ys.map .int)))):SortA h Q (.ref i)
inductive SortK (P:MProg)(call:Nat→List MV→PT MV)(h:MHeap)(m:Nat)(Q:KV):MV→MV→Prop
 | mk {i f:Nat}{xs:List MV}{u:MV}(p:h.obj i=some (.list xs))(k:Kind P h m u (.inst f))(l:xs.length<64)
  (q:keysL call f u xs (fun ks h=>∀ ps:List (Int×MV),ps.Perm (ks.zip xs)→ps.Pairwise (fun a b=>b.1≤a.1)→Q (.ref h.next) (h.new (.list (ps.map (·.2))))) h):SortK P call h m Q (.ref i) u
structure Lg where
 P:MProg
 sc:List Int
 call:Nat→List MV→PT MV
 tryc:Nat→List MV→PT (Option MV)
inductive Neg:MV→MV→Prop
 | mk (i:Int):Neg (.int i) (.int (-i))
noncomputable def doM (L:Lg)(h:MHeap)(v:MV)(m:Nat)(vs:List MV)(Q:KV):MK→Prop
 | .inst f=>L.call f (v::vs) Q h
 | k=>Via (Meth h k m v vs) Q
noncomputable def doTry (L:Lg)(h:MHeap)(v:MV)(vs:List MV)(Q:Option MV→MHeap→Prop):MK→Prop
 | .inst f=>L.tryc f (v::vs) Q h
 | _=>False
section
variable (L:Lg)
mutual
noncomputable def ev:ME→Vars→Bool→PT MV
 | .none,_,t=>fun Q h=>fin t Q .none h
 | .bool b,_,t=>fun Q h=>fin t Q (.bool b) h
 | .int i,_,t=>fun Q h=>fin t Q (.int i) h
 | .str s,_,t=>fun Q h=>fin t Q (.str s) h
 | .var x,ρ,t=>fun Q h=>Yields (fun v=>ρ x=some v) fun v=>fin t Q v h
 | .glob i,_,t=>fun Q h=>fin t Q (.int i) h
 | .attr e a,ρ,t=>fun Q h=>ev e ρ false (fun v h=>Yields (GetA h v a) fun w=>fin t Q w h) h
 | .bin op l r,ρ,t=>fun Q h=>ev l ρ false (fun v h=>ev r ρ false (fun w h=>Via (Bin h op v w) (fin t Q)) h) h
 | .neg e,ρ,t=>fun Q h=>ev e ρ false (fun v h=>Yields (Neg v) fun w=>fin t Q w h) h
 | .not e,ρ,t=>fun Q h=>ev e ρ t (fun v h=>Yields (Tru v) fun b=>Q (.bool (!b)) h) h
 | .cmp op l r,ρ,_=>fun Q h=>ev l ρ false (fun v h=>ev r ρ false (fun w h=>Yields (Cmp h op v w) fun b=>Q (.bool b) h) h) h
 | .and es,ρ,t=>evB es ρ true t
 | .or es,ρ,t=>evB es ρ false t
 | .ite c a b,ρ,t=>fun Q h=>ev c ρ true (fun v h=>If v (ev a ρ t Q h) (ev b ρ t Q h)) h
 | .sub e i,ρ,t=>fun Q h=>ev e ρ false (fun v h=>ev i ρ false (fun w h=>Yields (GetI h v w) fun u=>fin t Q u h) h) h
 | .sliceTo e i,ρ,t=>fun Q h=>ev e ρ false (fun v h=>ev i ρ false (fun w h=>Via (SlTo L.sc h v w) (fin t Q)) h) h
 | .sliceFrom e i,ρ,t=>fun Q h=>ev e ρ false (fun v h=>ev i ρ false (fun w h=>Via (SlFrom h v w) (fin t Q)) h) h
 | .list es,ρ,t=>fun Q h=>evL es ρ (fun vs h=>vs.length≤100∧fin t Q (.ref h.next) (h.new (.list vs))) h
 | .tup es,ρ,t=>fun Q h=>evL es ρ (fun vs h=>vs.length≤100∧vs.all MV.flat=true∧fin t Q (.tup vs) h) h
 | .dict0,_,t=>fun Q h=>fin t Q (.ref h.next) (h.new (.idict []))
 | .dict2 k e k' e',ρ,t=>fun Q h=>ev e ρ false (fun v h=>ev e' ρ false (fun w h=>fin t Q (.ref h.next) (h.new (.sdict [(k,v),(k',w)]))) h) h
 | .callF f es,ρ,t=>fun Q h=>evL es ρ (fun vs h=>L.call f vs (fin t Q) h) h
 | .callM o m es,ρ,t=>fun Q h=>ev o ρ false (fun v h=>Yields (Kind L.P h m v) fun k=>evL es ρ (fun vs h=>doM L h v m vs (fin t Q) k) h) h
 | .callB b es,ρ,t=>fun Q h=>evL es ρ (fun vs h=>Via (Bui h b vs) (fin t Q)) h
 | .isbool e,ρ,t=>fun Q h=>ev e ρ false (fun v h=>Yields (IsB v) fun b=>fin t Q (.bool b) h) h
 | .new es,ρ,t=>fun Q h=>evL es ρ (fun vs h=>L.call L.P.init (.ref h.next::vs) (fun r h'=>r = .none∧fin t Q (.ref h.next) h') (h.new (.inst []))) h
 | .comp elt x it cond,ρ,t=>fun Q h=>ev it ρ false (fun s h=>Yields (Items h s) fun xs=>
   compL (fun h=>Items h s xs) (fun v=>evC cond (Vars.set ρ x v)) (fun v=>ev elt (Vars.set ρ x v) false) xs [] (fun ys h=>fin t Q (.ref h.next) (h.new (.list ys))) h) h
 | .dcomp k w x it,ρ,t=>fun Q h=>ev it ρ false (fun s h=>Yields (Items h s) fun xs=>
   dcompL (fun h=>Items h s xs) (fun v=>ev k (Vars.set ρ x v) false) (fun v=>ev w (Vars.set ρ x v) false) xs [] (fun es h=>fin t Q (.ref h.next) (h.new (.idict es))) h) h
 | .sortAbs e,ρ,t=>fun Q h=>ev e ρ false (fun v h=>SortA h (fin t Q) v) h
 | .sortKeyRev e o m,ρ,t=>fun Q h=>ev e ρ false (fun v h=>ev o ρ false (fun u h=>SortK L.P L.call h m (fin t Q) v u) h) h
 | .keys e,ρ,t=>fun Q h=>ev e ρ false (fun v h=>Yields (Keys h v) fun w=>fin t Q w h) h
 | .rev e,ρ,t=>fun Q h=>ev e ρ false (fun v h=>Via (Rev h v) (fin t Q)) h
 | .dict1 k e,ρ,t=>fun Q h=>ev k ρ false (fun v h=>ev e ρ false (fun w h=>Yields (fun i=>v = .int i) fun i=>fin t Q (.ref h.next) (h.new (.idict [(i,w)]))) h) h
 | .chain p q a b c,ρ,_=>fun Q h=>ev a ρ false (fun v h=>ev b ρ false (fun w h=>Yields (Cmp h p v w) fun r=>If (.bool r) (ev c ρ false (fun u h=>Yields (Cmp h q w u) fun r=>Q (.bool r) h) h) (Q (.bool false) h)) h) h
 | .gtup is,_,t=>fun Q h=>fin t Q (.tup (is.map .int)) h
noncomputable def evL:MEs→Vars→PT (List MV)
 | .nil,_=>fun Q h=>Q [] h
 | .cons e es,ρ=>fun Q h=>ev e ρ false (fun v h=>evL es ρ (fun vs h=>Q (v::vs) h) h) h
noncomputable def evB:MEs→Vars→Bool→Bool→PT MV
 | .nil,_,_,_=>fun uu uu=>False
 | .cons e .nil,ρ,_,t=>ev e ρ t
 | .cons e (.cons i es),ρ,isAnd,t=>fun Q h=>ev e ρ t (fun v h=>If v (match isAnd with | true=>evB (.cons i es) ρ isAnd t Q h | false=>Q (.bool true) h) (match isAnd with | true=>Q (.bool false) h | false=>evB (.cons i es) ρ isAnd t Q h)) h
noncomputable def evC:MEs→Vars→PT Bool
 | .nil,_=>fun Q h=>Q true h
 | .cons e es,ρ=>fun Q h=>ev e ρ true (fun v h=>If v (evC es ρ Q h) (Q false h)) h
end
noncomputable def asg:MT→MV→(Vars→HP)→Vars→HP
 | .var x,v,Q,ρ,h=>Q (Vars.set ρ x v) h
 | .attr o a,v,Q,ρ,h=>ev L o ρ false (fun u h=>Alt (SetA h a v u) fun h=>Q ρ h) h
 | .sub o i,v,Q,ρ,h=>ev L o ρ false (fun u h=>ev L i ρ false (fun k h=>Alt (SetI h v u k) fun h=>Q ρ h) h) h
noncomputable def asgL:List MT→List MV→(Vars→HP)→Vars→HP
 | [],[],Q,ρ,h=>Q ρ h
 | t::ts,v::vs,Q,ρ,h=>asg L t v (fun ρ h=>asgL ts vs Q ρ h) ρ h
 | _,_,_,_,_=>False
mutual
noncomputable def ex:MS→PS
 | .assign t e,Q,ρ,h=>ev L e ρ false (fun v h=>asg L t v (fun ρ h=>Q .next ρ h) ρ h) h
 | .assigns ts es,Q,ρ,h=>evL L es ρ (fun vs h=>vs.length≤100∧vs.length=ts.length∧asgL L ts vs (fun ρ h=>Q .next ρ h) ρ h) h
 | .expr e,Q,ρ,h=>ev L e ρ false (fun uu h=>Q .next ρ h) h
 | .ite t a b,Q,ρ,h=>ev L t ρ true (fun v h=>If v (exs a Q ρ h) (exs b Q ρ h)) h
 | .while t b,Q,ρ,h=>∃ n,whileN (fun ρ=>ev L t ρ true) (exs b) n Q ρ h
 | .for x it b,Q,ρ,h=>ev L it ρ false (fun s h=>Yields (Items h s) fun xs=>forL (fun h=>Items h s xs) (fun v Q ρ h=>exs b Q (Vars.set ρ x v) h) xs Q ρ h) h
 | .ret e,Q,ρ,h=>ev L e ρ false (fun v h=>Q (.ret v) ρ h) h
 | .retNone,Q,ρ,h=>Q (.ret .none) ρ h
 | .brk,Q,ρ,h=>Q .brk ρ h
 | .cont,Q,ρ,h=>Q .cont ρ h
 | .bad,_,_,_=>False
 | .raise e,Q,ρ,h=>ev L e ρ false (fun v h=>One2 v∧Q .raise ρ h) h
 | .tryM x o m es,Q,ρ,h=>ev L o ρ false (fun v h=>Yields (Kind L.P h m v) fun k=>evL L es ρ (fun vs h=>doTry L h v vs (fun r h=>Q .next (Vars.set ρ x (r.getD .none)) h) k) h) h
noncomputable def exs:MSs→PS
 | .nil,Q,ρ,h=>Q .next ρ h
 | .cons s r,Q,ρ,h=>ex s (fun f ρ h=>match f with
  | .next=>exs r Q ρ h
  | f=>Q f ρ h) ρ h
end
end
noncomputable def bindV (args:List MV):Vars:=fun i=>args[i]?
noncomputable def retQ (Q:KV):KF
 | .ret v,_,h=>Q v h
 | .next,_,h=>Q .none h
 | _,_,_=>False
inductive SupQ (call:Nat→List MV→PT MV)(Q:HP)(h:MHeap)(g:Nat):List MV→Prop
 | mk {i:Nat}{as:List (Nat×MV)}{r:List MV}(p:h.obj i=some (.inst as))(q:call g [.ref i] (fun uu h=>Q h) h):SupQ call Q h g (.ref i::r)
noncomputable def supD (call:Nat→List MV→PT MV)(args:List MV)(Q:HP)(h:MHeap):Option Nat→Prop
 | none=>Q h
 | some g=>SupQ call Q h g args
noncomputable def tryQ (Q:Option MV→MHeap→Prop):KF
 | .ret v,_,h=>Q (some v) h
 | .next,_,h=>Q (some .none) h
 | .raise,_,h=>Q none h
 | _,_,_=>False
noncomputable def runD (L:Lg)(f:Nat)(args:List MV)(Q:KF)(h:MHeap):Prop:=Yields (fun fn=>L.P.fns[f]?=some fn) fun fn=>
 fn.npar=args.length∧supD L.call args (fun h=>exs L fn.body Q (bindV args) h) h fn.sup
structure Cls where
 call:Nat→List MV→PT MV
 tryc:Nat→List MV→PT (Option MV)
noncomputable def calls (P:MProg)(sc:List Int):Nat→Cls
 | 0=>⟨fun uu uu uu uu=>False,fun uu uu uu uu=>False⟩
 | d + 1=>⟨fun f args Q h=>runD ⟨P,sc,(calls P sc d).call,(calls P sc d).tryc⟩ f args (retQ Q) h,fun f args Q h=>runD ⟨P,sc,(calls P sc d).call,(calls P sc d).tryc⟩ f args (tryQ Q) h∧∀ fn,P.fns[f]?=some fn→fn.sup=none⟩
noncomputable abbrev callD (P:MProg)(sc:List Int)(d:Nat):Nat→List MV→PT MV:=(calls P sc d).call
noncomputable abbrev tryD (P:MProg)(sc:List Int)(d:Nat):Nat→List MV→PT (Option MV):=(calls P sc d).tryc
noncomputable abbrev lg (P:MProg)(sc:List Int)(d:Nat):Lg:=⟨P,sc,callD P sc d,tryD P sc d⟩
end Mini
end
section
namespace Mini
open PySem PySem.W PyProof.Rows
theorem ff {P:Prop}(h:false=true):P:=Bool.noConfusion h
theorem ns {α:Type}{x:α}{P:Prop}(h:none=some x):P:=nomatch h
structure Tab where
 strTab:List Str
 fnTab:List Str
 globTab:List (Str×Int)
 gtupTab:List (Str×List Int)
 attrTab:List Nat
 cname:Str
 xname:Str
structure Wd where
 prog:Program
 w:World
 B:Heap
 K:Frag
 T:Tab
 P:MProg
 script:List Int
 scriptAt:Addr
 C:Addr
 LF:Addr
 faddr:Nat→Addr
 mg:Str→Option Value
 mb:Str→Option Value
noncomputable abbrev Wd.M (W:Wd):=model W.prog W.w
structure Cell where
 a:Addr
 d:Addr
noncomputable abbrev Cells:=List Cell
noncomputable def Cell.own (c:Cell):List Addr:=if c.a=c.d then [c.a] else [c.a,c.d]
noncomputable def owned (ρ:Cells):List Addr:=ρ.flatMap Cell.own
theorem owned_append (ρ σ:Cells):owned (ρ++σ)=owned ρ++owned σ:=List.flatMap_append
theorem mem_own {c:Cell}{b:Addr}:b∈c.own↔b=c.a∨b=c.d:=by
 unfold Cell.own; split
 ·rename_i h; rw [← h,or_self]; exact List.mem_singleton
 ·rw [List.mem_cons,List.mem_singleton]
theorem own_a (c:Cell):c.a∈c.own:=mem_own.mpr (.inl rfl)
theorem own_d (c:Cell):c.d∈c.own:=mem_own.mpr (.inr rfl)
theorem owned_one (c:Cell):owned [c]=c.own:=List.append_nil _
theorem mem_owned {ρ:Cells}{c:Cell}{i:Nat}{b:Addr}(h:ρ[i]?=some c)(hb:b∈c.own):b∈owned ρ:=
 List.mem_flatMap.mpr ⟨c,List.mem_of_getElem? h,hb⟩
theorem nodup_own {ρ:Cells}(hn:(owned ρ).Nodup){i j:Nat}{c c':Cell}(hi:ρ[i]?=some c)(hj:ρ[j]?=some c')(hij:i≠j):∀ a∈c.own,a∉c'.own:=by
 induction ρ generalizing i j with
 | nil=>exact ns (List.getElem?_nil.symm.trans hi)
 | cons d r ih=>
  have hn:(d.own++owned r).Nodup:=hn
  rw [List.nodup_append] at hn
  intro a ha hb
  rcases i with _ | i
  ·rcases j with _ | j
   ·exact hij rfl
   ·exact hn.2.2 a (Option.some.inj hi▸ha) a (mem_owned hj hb) rfl
  ·rcases j with _ | j
   ·exact hn.2.2 a (Option.some.inj hj▸hb) a (mem_owned hi ha) rfl
   ·exact ih hn.2.1 hi hj (fun e=>hij (congrArg _ e)) a ha hb
noncomputable def setD:Data→Bool
 | .dict ..=>false
 | .cell ..=>false
 | _=>true
noncomputable def setC:Value→Bool
 | .type "tuple"=>true
 | .type "range"=>true
 | _=>false
structure Frozen (o:Obj):Prop where
 c:setC o.cls=true
 d:setD o.data=true
theorem nf_c {o:Obj}(e:setC o.cls=false)(f:Frozen o):False:=ff (e.symm.trans f.c)
theorem nf_d {o:Obj}(e:setD o.data=false)(f:Frozen o):False:=ff (e.symm.trans f.d)
theorem mem_of_look {α β:Type} [BEq α] [LawfulBEq α]{l:List (α×β)}{a:α}{b:β}(h:l.lookup a=some b):(a,b)∈l:=by
 induction l with
 | nil=>exact ns h
 | cons p r ih=>
  obtain ⟨k,v⟩:=p
  rw [List.lookup_cons] at h
  by_cases q:(a==k)=true
  ·rw [q] at h
   rw [eq_of_beq q,← Option.some.inj h]; exact .head _
  ·rw [Bool.eq_false_iff.mpr q] at h
   exact .tail _ (ih h)
inductive All2 {α β:Type}(R:α→β→Prop):List α→List β→Prop
 | nil:All2 R [] []
 | cons {a:α}{b:β}{r:List α}{s:List β}(h:R a b)(t:All2 R r s):All2 R (a::r) (b::s)
inductive IsInt (i:Int):Value→Prop
 | mk (t:Tok):IsInt i (.int i t)
section
variable (W:Wd)(ρ:Cells)(h:Heap)
noncomputable def isStrs (s:Nat)(x:Str):Prop:=W.T.strTab[s]?=some x
inductive IsStr (s:Nat):Value→Prop
 | mk {x:Str}(t:Tok)(e:isStrs W s x):IsStr s (.str x t)
inductive IsRng (lo hi:Int):Value→Prop
 | mk {a:Addr}{x y z:Tok}(r:IsRange h a lo hi 1 x y z)(l:small lo)(l':small hi):IsRng lo hi (.ref a)
inductive IsRef (i:Nat):Value→Prop
 | mk {c:Cell}(e:ρ[i]?=some c):IsRef i (.ref c.a)
noncomputable def FRel:MV→Value→Prop
 | .none,v=>v = .none
 | .bool b,v=>v = .bool b
 | .int i,v=>IsInt i v
 | .str s,v=>IsStr W s v
 | .tup _,_=>False
 | .keys _ _,_=>False
 | .rng lo hi,v=>IsRng h lo hi v
 | .script,v=>v = .ref W.scriptAt
 | .ref i,v=>IsRef ρ i v
inductive IsTup (vs:List MV):Value→Prop
 | mk {a:Addr}{its:Array Value}{n:Nat}(g:h.get? a=some { cls:=.type "tuple",data:=.seq its n })(r:All2 (FRel W ρ h) vs its.toList)(l:vs.length≤lenLine):IsTup vs (.ref a)
noncomputable def VRel:MV→Value→Prop
 | .tup vs,v=>IsTup W ρ h vs v
 | .none,v=>v = .none
 | .bool b,v=>v = .bool b
 | .int i,v=>IsInt i v
 | .str s,v=>IsStr W s v
 | .rng lo hi,v=>IsRng h lo hi v
 | .script,v=>v = .ref W.scriptAt
 | .ref i,v=>IsRef ρ i v
 | .keys i _,v=>IsRef ρ i v
noncomputable abbrev VRels:=All2 (VRel W ρ h)
noncomputable def KRel {κ κ':Type}(nm:κ→κ'→Prop):List (κ×MV)→List (κ'×Value)→Prop:=All2 fun p q=>nm p.1 q.1∧VRel W ρ h p.2 q.2
inductive AtE (p:Nat×MV):DictEntry→Prop
 | mk {nm:Str}{v:Value}(hs:Int)(t:Tok)(n:isStrs W p.1 nm)(r:VRel W ρ h p.2 v):AtE p ⟨hs,.str nm t,v⟩
noncomputable def ARel:List (Nat×MV)→List DictEntry→Prop:=All2 (AtE W ρ h)
inductive LRel (xs:List MV)(c:Cell):Prop
 | mk {its:Array Value}{n:Nat}(d:c.d=c.a)(g:h.get? c.a=some (listOf its n))(r:VRels W ρ h xs its.toList)(l:xs.length≤lenLine)
inductive DRel {κ κ':Type} [DecidableEq κ'](knd:KeyKind W.prog W.w κ')(nm:κ→κ'→Prop)(es:List (κ×MV))(c:Cell):Prop
 | mk {kvs:List (κ'×Value)}(d:c.d=c.a)(g:h.DictOf knd c.a kvs)(r:KRel W ρ h nm es kvs)(l:es.length≤lenLine)
inductive NRel (as:List (Nat×MV))(c:Cell):Prop
 | mk {es:List DictEntry}{n:Nat}(d:c.d≠c.a)(g:h.get? c.a=some (instObj W.C c.d))(g':h.get? c.d=some (dictOf es n))(r:ARel W ρ h as es)(l:as.length≤100)(al:∀ e∈as,e.1∈W.T.attrTab)
noncomputable def ORel:MObj→Cell→Prop
 | .list xs,c=>LRel W ρ h xs c
 | .idict es,c=>DRel W ρ h (intKind W.prog W.w) Eq es c
 | .sdict es,c=>DRel W ρ h (strKind W.prog W.w) (isStrs W) es c
 | .inst as,c=>NRel W ρ h as c
end
noncomputable def Above (h:Heap)(a:Addr):Prop:=∀ b o,h.get? b=some o→b<a
theorem Above.no {h:Heap}{a:Addr}{o:Obj}(x:Above h a)(e:h.get? a=some o):False:=Nat.lt_irrefl _ (x a o e)
theorem above_size (h:Heap){a:Addr}(e:h.objs.size≤a):Above h a:=fun b o q=>Nat.lt_of_lt_of_le (Heap.lt_size q) e
noncomputable def Alive (h h':Heap):Prop:=∀ b o,h.get? b=some o→∃ o',h'.get? b=some o'
theorem Above.back {h h':Heap}{a:Addr}(x:Above h' a)(l:Alive h h'):Above h a:=fun b o e=>let ⟨o',e'⟩:=l b o e; x b o' e'
noncomputable def Ext (h h':Heap):Prop:=∀ b o,h.get? b=some o→h'.get? b=some o
theorem Ext.refl (h:Heap):Ext h h:=fun uu uu e=>e
theorem Ext.trans {h h' h'':Heap}(x:Ext h h')(y:Ext h' h''):Ext h h'':=fun b o e=>y b o (x b o e)
theorem Ext.push (h:Heap)(o:Obj):Ext h (h.push o):=fun uu uu e=>Heap.get?_push_of_some _ e
theorem Ext.alive {h h':Heap}(x:Ext h h'):Alive h h':=fun b o e=>⟨o,x b o e⟩
structure Stay (ρ:Cells)(h:Heap)(ρ':Cells)(h':Heap):Prop where
 at_:∀ {i:Nat}{c:Cell},ρ[i]?=some c→ρ'[i]?=some c
 froz:∀ b o,h.get? b=some o→Frozen o→h'.get? b=some o
theorem Ext.stay {h h':Heap}(x:Ext h h'){ρ:Cells}:Stay ρ h ρ h':=⟨fun e=>e,fun b o e uu=>x b o e⟩
section
variable {α β:Type}{R R':α→β→Prop}{xs:List α}{vs:List β}
theorem All2.imp (f:∀ a b,R a b→R' a b)(r:All2 R xs vs):All2 R' xs vs:=by
 induction r with
 | nil=>exact .nil
 | cons h t ih=>exact .cons (f _ _ h) ih
theorem All2.length (r:All2 R xs vs):vs.length=xs.length:=by
 induction r with
 | nil=>rfl
 | cons h t ih=>exact congrArg (· + 1) ih
theorem All2.append {ys:List α}{us:List β}(q:All2 R ys us)(r:All2 R xs vs):All2 R (xs++ys) (vs++us):=by
 induction r with
 | nil=>exact q
 | cons h t ih=>exact .cons h ih
theorem All2.get {i:Nat}{x:α}(r:All2 R xs vs)(e:xs[i]?=some x):∃ v,vs[i]?=some v∧R x v:=by
 induction r generalizing i with
 | nil=>exact ns (List.getElem?_nil.symm.trans e)
 | cons h t ih=>
  rcases i with _ | i
  ·exact ⟨_,rfl,Option.some.inj e▸h⟩
  ·exact ih (i:=i) e
theorem All2.take (n:Nat)(r:All2 R xs vs):All2 R (xs.take n) (vs.take n):=by
 induction r generalizing n with
 | nil=>rw [List.take_nil,List.take_nil]; exact .nil
 | cons h t ih=>
  rcases n with _ | n
  ·exact .nil
  ·exact .cons h (ih n)
theorem All2.drop (n:Nat)(r:All2 R xs vs):All2 R (xs.drop n) (vs.drop n):=by
 induction r generalizing n with
 | nil=>rw [List.drop_nil,List.drop_nil]; exact .nil
 | cons h t ih=>
  rcases n with _ | n
  ·exact .cons h t
  ·exact ih n
theorem All2.set {y:α}{u:β}(b:R y u)(n:Nat)(r:All2 R xs vs):All2 R (xs.set n y) (vs.set n u):=by
 induction r generalizing n with
 | nil=>exact .nil
 | cons h t ih=>
  rcases n with _ | n
  ·exact .cons b t
  ·exact .cons h (ih n)
@[elab_as_elim] theorem All2.nilE {P:List β→Prop}(r:All2 R [] vs)(k:P []):P vs:=by cases r; exact k
@[elab_as_elim] theorem All2.consE {P:List β→Prop}{x:α}(r:All2 R (x::xs) vs)(k:∀ v s,R x v→All2 R xs s→P (v::s)):P vs:=by cases r with | cons h t=>exact k _ _ h t
theorem All2.one {y:α}{u:β}(b:R y u):All2 R [y] [u]:=.cons b .nil
end
section
variable {W:Wd}{ρ ρ':Cells}{h h':Heap}
theorem FRel.up {x:MV}{v:Value}(r:FRel W ρ h x v):VRel W ρ h x v:=by
 rcases x with _ | _ | _ | _ | _ | _ | _ | _ | _ <;> first | exact r | exact r.elim
theorem IsRng.stay (S:Stay ρ h ρ' h'){lo hi:Int}{v:Value}(r:IsRng h lo hi v):IsRng h' lo hi v:=by
 induction r with | mk r l l'=>exact .mk (S.froz _ _ r ⟨rfl,rfl⟩) l l'
theorem IsRef.stay (S:Stay ρ h ρ' h'){i:Nat}{v:Value}(r:IsRef ρ i v):IsRef ρ' i v:=by
 induction r with | mk e=>exact .mk (S.at_ e)
theorem FRel.stay (S:Stay ρ h ρ' h'){x:MV}{v:Value}(r:FRel W ρ h x v):FRel W ρ' h' x v:=by
 rcases x with _ | _ | _ | _ | _ | _ | _ | _ | _ <;> first | exact IsRef.stay S r | exact IsRng.stay S r | exact r
theorem IsTup.stay (S:Stay ρ h ρ' h'){vs:List MV}{v:Value}(r:IsTup W ρ h vs v):IsTup W ρ' h' vs v:=by
 induction r with | mk g r l=>exact .mk (S.froz _ _ g ⟨rfl,rfl⟩) (r.imp fun uu uu=>FRel.stay S) l
theorem VRel.stay (S:Stay ρ h ρ' h'){x:MV}{v:Value}(r:VRel W ρ h x v):VRel W ρ' h' x v:=by
 rcases x with _ | _ | _ | _ | _ | _ | _ | _ | _ <;> first | exact IsRef.stay S r | exact IsTup.stay S r | exact IsRng.stay S r | exact r
theorem VRels.stay (S:Stay ρ h ρ' h'){xs:List MV}{vs:List Value}(r:VRels W ρ h xs vs):VRels W ρ' h' xs vs:=r.imp fun uu uu=>VRel.stay S
theorem KRel.stay {κ κ':Type}{nm:κ→κ'→Prop}(S:Stay ρ h ρ' h'){es:List (κ×MV)}{l:List (κ'×Value)}(r:KRel W ρ h nm es l):KRel W ρ' h' nm es l:=r.imp fun uu uu q=>⟨q.1,q.2.stay S⟩
theorem ARel.stay (S:Stay ρ h ρ' h'){es:List (Nat×MV)}{l:List DictEntry}(r:ARel W ρ h es l):ARel W ρ' h' es l:=r.imp fun uu uu q=>by
 induction q with | mk hs t n r=>exact .mk hs t n (r.stay S)
noncomputable def Kept (c:Cell)(h h':Heap):Prop:=∀ a∈c.own,∀ x,h.get? a=some x→h'.get? a=some x
theorem DRel.stay {κ κ':Type} [DecidableEq κ']{knd:KeyKind W.prog W.w κ'}{nm:κ→κ'→Prop}{es:List (κ×MV)}{c:Cell}(S:Stay ρ h ρ' h')(k:Kept c h h')(R:DRel W ρ h knd nm es c):DRel W ρ' h' knd nm es c:=by
 induction R with | mk d g r l=>exact .mk d (by obtain ⟨o,x,y,g,z⟩:=g; exact ⟨o,x,y,k _ (own_a c) _ g,z⟩) (r.stay S) l
theorem ORel.stay {o:MObj}{c:Cell}(S:Stay ρ h ρ' h')(k:Kept c h h')(R:ORel W ρ h o c):ORel W ρ' h' o c:=by
 rcases o with xs | es | es | as
 ·have R:LRel W ρ h xs c:=R
  induction R with | mk d g r l=>exact LRel.mk d (k _ (own_a c) _ g) (VRels.stay S r) l
 ·exact DRel.stay S k R
 ·exact DRel.stay S k R
 ·have R:NRel W ρ h as c:=R
  induction R with | mk d g g' r l al=>exact NRel.mk d (k _ (own_a c) _ g) (k _ (own_d c) _ g') (r.stay S) l al
inductive Lives (h:Heap)(a:Addr):Prop
 | mk {x:Obj}(e:h.get? a=some x)(f:¬ Frozen x)
theorem setC_type {x:Value}{T:String}(e:x = .type T)(h:setC (.type T)=false):setC x=false:=by rw [e]; exact h
theorem DictOf.lives {κ:Type} [DecidableEq κ]{knd:KeyKind W.prog W.w κ}{a:Addr}{kvs:List (κ×Value)}(d:h.DictOf knd a kvs):Lives h a:=by
 obtain ⟨_,_,_,g,x⟩:=d
 exact .mk g (nf_c (setC_type x.1.1 rfl))
theorem Lives.own {c:Cell}{a:Addr}(ha:a∈c.own)(e:c.d=c.a)(q:Lives h c.a):Lives h a:=by
 rw [mem_own,e,or_self] at ha; rw [ha]; exact q
theorem ORel.live {o:MObj}{c:Cell}(R:ORel W ρ h o c)(a:Addr)(ha:a∈c.own):Lives h a:=by
 rcases o with xs | es | es | as
 ·have R:LRel W ρ h xs c:=R
  induction R with | mk d g r l=>exact .own ha d (.mk g (nf_c rfl))
 ·have R:DRel W ρ h _ _ es c:=R
  induction R with | mk d g r l=>exact .own ha d (DictOf.lives g)
 ·have R:DRel W ρ h _ _ es c:=R
  induction R with | mk d g r l=>exact .own ha d (DictOf.lives g)
 ·have R:NRel W ρ h as c:=R
  induction R with | mk d g g' r l al=>
  rcases mem_own.mp ha with rfl | rfl
  ·exact .mk g (nf_c rfl)
  ·exact .mk g' (nf_d rfl)
end
end Mini
end
section
namespace Mini
open PySem PySem.W PyProof.Rows
noncomputable def ExtX (X:List Addr)(h h':Heap):Prop:=∀ b o,b∉X→h.get? b=some o→h'.get? b=some o
theorem Ext.x {h h':Heap}(k:Ext h h'):ExtX [] h h':=fun b o uu e=>k b o e
inductive HasO (W:Wd)(ρ:Cells)(h:Heap)(i:Nat)(o:MObj):Prop
 | mk {c:Cell}(e:ρ[i]?=some c)(r:ORel W ρ h o c)
structure SimC (W:Wd)(ρ:Cells)(hm:MHeap)(h:Heap):Prop where
 base:Ext W.B h
 len:ρ.length=hm.next
 objs:∀ i o,hm.obj i=some o→HasO W ρ h i o
 nodup:(owned ρ).Nodup
 out:∀ a∈owned ρ,Above W.B a
 live:∀ a∈owned ρ,Lives h a
structure Aside (h₀:Heap)(ρ:Cells)(h:Heap)(a:Addr):Prop where
 out:a∉owned ρ
 new:Above h₀ a
 live:Lives h a
theorem Lives.nf {h:Heap}{a:Addr}{o:Obj}(l:Lives h a)(e:h.get? a=some o)(f:Frozen o):False:=by
 induction l with | mk e' n=>rw [e] at e'; exact n (Option.some.inj e'▸f)
section
variable {W:Wd}{ρ:Cells}{hm:MHeap}{h h':Heap}{X:List Addr}
theorem stay_x (x:∀ a∈X,Lives h a)(k:ExtX X h h'):Stay ρ h ρ h':=⟨fun e=>e,fun b o e f=>k b o (fun q=>(x b q).nf e f) e⟩
theorem Lives.x {a:Addr}(l:Lives h a)(k:ExtX X h h')(n:a∉X):Lives h' a:=by
 induction l with | mk e f=>exact .mk (k _ _ n e) f
theorem SimC.move (S:SimC W ρ hm h)(x:∀ a∈X,Aside W.B ρ h a)(k:ExtX X h h'):SimC W ρ hm h' where
 base:=fun b o e=>k b o (fun q=>(x b q).new.no e) (S.base b o e)
 len:=S.len
 objs:=fun i o e=>by
  induction S.objs i o e with
  | mk hc r=>exact .mk hc (r.stay (stay_x (fun a ha=>(x a ha).live) k) fun b hb y e=>k b y (fun q=>(x b q).out (mem_owned hc hb)) e)
 nodup:=S.nodup
 out:=S.out
 live:=fun a ha=>(S.live a ha).x k fun q=>(x a q).out ha
theorem SimC.grow (S:SimC W ρ hm h)(k:Ext h h'):SimC W ρ hm h':=S.move (X:=[]) nofun k.x
theorem own_nodup (c:Cell):c.own.Nodup:=by
 unfold Cell.own; split
 ·exact List.nodup_cons.mpr ⟨List.not_mem_nil,List.nodup_nil⟩
 ·rename_i q; exact List.nodup_cons.mpr ⟨fun e=>q (List.mem_singleton.mp e),List.nodup_cons.mpr ⟨List.not_mem_nil,List.nodup_nil⟩⟩
theorem at_app {c d:Cell}{i:Nat}(e:ρ[i]?=some c):(ρ++[d])[i]?=some c:=by rw [List.getElem?_append_left (List.getElem?_eq_some_iff.mp e).1]; exact e
theorem new_at (l:ρ.length=hm.next)(c:Cell):(ρ++[c])[hm.next]?=some c:=by rw [← l]; exact List.getElem?_concat_length
theorem own_or {a:Addr}{c:Cell}(ha:a∈owned (ρ++[c])):a∈owned ρ∨a∈c.own:=by
 rw [owned_append,owned_one] at ha; exact List.mem_append.mp ha
theorem SimC.adopt (S:SimC W ρ hm h){c:Cell}{o:MObj}(k:ExtX c.own h h')(hn:∀ a∈c.own,a∉owned ρ)(hB:∀ a∈c.own,Above W.B a)(hf:∀ a∈c.own,∀ x,h.get? a=some x→¬ Frozen x)(R:ORel W (ρ++[c]) h' o c):SimC W (ρ++[c]) (hm.new o) h' where
 base:=fun a o e=>k a o (fun q=>(hB a q).no e) (S.base a o e)
 len:=by rw [List.length_append,S.len]; rfl
 objs:=fun i o' e=>by
  have e:(if i=hm.next then some o else hm.obj i)=some o':=e
  by_cases q:i=hm.next
  ·rw [if_pos q] at e
   rw [q]
   exact .mk (new_at S.len c) (Option.some.inj e▸R)
  ·rw [if_neg q] at e
   induction S.objs i o' e with
   | mk hc r=>exact .mk (at_app hc) (r.stay ⟨at_app,fun b o e f=>k b o (fun q=>hf b q o e f) e⟩ fun a ha x e=>k a x (fun q=>hn a q (mem_owned hc ha)) e)
 nodup:=by
  rw [owned_append,owned_one,List.nodup_append]
  exact ⟨S.nodup,own_nodup c,fun a ha b hb q=>hn b hb (q▸ha)⟩
 out:=fun a ha=>(own_or ha).elim (S.out a) (hB a)
 live:=fun a ha=>(own_or ha).elim (fun ha=>(S.live a ha).x k fun q=>hn a q ha) fun ha=>R.live a ha
theorem SimC.set (S:SimC W ρ hm h){i:Nat}{c:Cell}{o:MObj}(hi:ρ[i]?=some c)(k:ExtX c.own h h')(R:ORel W ρ h' o c):SimC W ρ (hm.set i o) h' where
 base:=fun a x e=>k a x (fun hb=>(S.out a (mem_owned hi hb)).no e) (S.base a x e)
 len:=S.len
 objs:=fun j o' e=>by
  have e:(if j=i then some o else hm.obj j)=some o':=e
  by_cases q:j=i
  ·rw [if_pos q] at e
   exact .mk (q▸hi) (Option.some.inj e▸R)
  ·rw [if_neg q] at e
   induction S.objs j o' e with
   | mk a b=>exact .mk a (b.stay (stay_x (fun a ha=>S.live a (mem_owned hi ha)) k) fun y hy x ex=>k y x (nodup_own S.nodup a hi q y hy) ex)
 nodup:=S.nodup
 out:=S.out
 live:=fun a ha=>by
  by_cases hb:a∈c.own
  ·exact R.live a hb
  ·exact (S.live a ha).x k hb
end
structure LaterR (X S:List Addr)(ρ:Cells)(s:Shared)(ρ':Cells)(s':Shared):Prop where
 at_:∀ {i:Nat}{c:Cell},ρ[i]?=some c→ρ'[i]?=some c
 fresh:∀ a∈owned ρ',a∈owned ρ∨Above s.heap a
 keep:∀ b o,s.heap.get? b=some o→b∉owned ρ→b∉X→b∉S→s'.heap.get? b=some o
 slot:∀ b o,s.heap.get? b=some o→b∉owned ρ→b∉X→∃ sl,s'.heap.get? b=some { o with slots:=sl }
 froz:∀ b o,s.heap.get? b=some o→Frozen o→s'.heap.get? b=some o
 alive:Alive s.heap s'.heap
 rest:s'.gens=s.gens∧s'.os=s.os
section
variable {X Y S:List Addr}{ρ ρ' ρ'':Cells}{s s' s'':Shared}
theorem LaterR.refl:LaterR X S ρ s ρ s:=⟨fun e=>e,fun uu=>.inl,fun uu uu e uu uu uu=>e,fun uu o e uu uu=>⟨o.slots,e⟩,fun uu uu e uu=>e,fun uu o e=>⟨o,e⟩,rfl,rfl⟩
theorem LaterR.off (x:LaterR X S ρ s ρ' s'){b:Addr}{o:Obj}(e:s.heap.get? b=some o)(hb:b∉owned ρ):b∉owned ρ':=fun q=>(x.fresh b q).elim hb fun n=>n.no e
theorem LaterR.trans (x:LaterR X S ρ s ρ' s')(y:LaterR X S ρ' s' ρ'' s''):LaterR X S ρ s ρ'' s'' where
 at_:=fun e=>y.at_ (x.at_ e)
 fresh:=fun a ha=>(y.fresh a ha).elim (x.fresh a) fun n=>.inr (n.back x.alive)
 keep:=fun b o e hb hX hS=>y.keep b o (x.keep b o e hb hX hS) (x.off e hb) hX hS
 slot:=fun b o e hb hX=>by obtain ⟨sl,e'⟩:=x.slot b o e hb hX; exact y.slot b { o with slots:=sl } e' (x.off e hb) hX
 froz:=fun b o e f=>y.froz b o (x.froz b o e f) f
 alive:=fun b o e=>let ⟨o',e'⟩:=x.alive b o e; y.alive b o' e'
 rest:=⟨y.rest.1.trans x.rest.1,y.rest.2.trans x.rest.2⟩
theorem LaterR.mono (x:LaterR X S ρ s ρ' s')(h:∀ a∈X,a∈Y):LaterR Y S ρ s ρ' s':=⟨x.at_,x.fresh,fun b o e hb hY=>x.keep b o e hb fun q=>hY (h b q),fun b o e hb hY=>x.slot b o e hb fun q=>hY (h b q),x.froz,x.alive,x.rest⟩
theorem LaterR.stay (x:LaterR X S ρ s ρ' s'):Stay ρ s.heap ρ' s'.heap:=⟨x.at_,x.froz⟩
theorem not_owned {a:Addr}(l:Lives s.heap a)(n:a∉owned ρ)(L:LaterR X S ρ s ρ' s'):a∉owned ρ':=by
 induction l with | mk e f=>exact L.off e n
theorem Lives.later {a:Addr}(l:Lives s.heap a)(n:a∉owned ρ)(L:LaterR X S ρ s ρ' s')(hX:a∉X):Lives s'.heap a:=by
 induction l with | mk e f=>obtain ⟨sl,e'⟩:=L.slot _ _ e n hX; exact .mk e' fun q=>f ⟨q.c,q.d⟩
theorem Aside.later {h₀:Heap}{a:Addr}(x:Aside h₀ ρ s.heap a)(L:LaterR X S ρ s ρ' s')(hX:a∉X):Aside h₀ ρ' s'.heap a:=⟨not_owned x.live x.out L,x.new,x.live.later x.out L hX⟩
theorem LaterR.buts {h':Heap}{t:Nat}(L:LaterR X S ρ s ρ' s')(ab:∀ a∈Y,Above s.heap a)(k:ExtX Y s'.heap h'):LaterR X S ρ s ρ' { s' with heap:=h',toks:=t } where
 at_:=L.at_
 fresh:=L.fresh
 keep:=fun b o e hb hX hS=>k b o (fun q=>(ab b q).no e) (L.keep b o e hb hX hS)
 slot:=fun b o e hb hX=>by obtain ⟨sl,e'⟩:=L.slot b o e hb hX; exact ⟨sl,k b _ (fun q=>(ab b q).no e) e'⟩
 froz:=fun b o e f=>k b o (fun q=>(ab b q).no e) (L.froz b o e f)
 alive:=fun b o e=>let ⟨o',e'⟩:=L.alive b o e; ⟨o',k b o' (fun q=>(ab b q).no e) e'⟩
 rest:=L.rest
theorem LaterR.one (at_:∀ {i:Nat}{c:Cell},ρ[i]?=some c→ρ'[i]?=some c)(fresh:∀ a∈owned ρ',a∈owned ρ∨Above s.heap a)(keep:∀ b o,s.heap.get? b=some o→b∉owned ρ→b∉X→s'.heap.get? b=some o)(froz:∀ b o,s.heap.get? b=some o→Frozen o→s'.heap.get? b=some o)
  (alive:Alive s.heap s'.heap)(r1:s'.gens=s.gens)(r2:s'.os=s.os):LaterR X S ρ s ρ' s':=⟨at_,fresh,fun b o e hb hX uu=>keep b o e hb hX,fun b o e hb hX=>⟨o.slots,keep b o e hb hX⟩,froz,alive,r1,r2⟩
end
structure Cf (W:Wd) where
 ρ:Cells
 hm:MHeap
 s:Shared
 sim:SimC W ρ hm s.heap
 F:List Addr
 fr:∀ a∈F,∃ o,s.heap.get? a=some o
noncomputable abbrev Cf.h {W:Wd}(c:Cf W):Heap:=c.s.heap
noncomputable def Cf.V {W:Wd}(c:Cf W)(x:MV)(v:Value):Prop:=VRel W c.ρ c.h x v
noncomputable def Cf.Vs {W:Wd}(c:Cf W)(x:List MV)(v:List Value):Prop:=VRels W c.ρ c.h x v
structure Later {W:Wd}(X:List Addr)(c c':Cf W):Prop extends LaterR X c.F c.ρ c.s c'.ρ c'.s where
 f:c'.F=c.F
 tick:c.hm.tick≤c'.hm.tick
 own:c.hm.tick=c'.hm.tick→∀ b o,b∈owned c.ρ→c.s.heap.get? b=some o→c'.s.heap.get? b=some o
theorem owned_lives {W:Wd}(c:Cf W){b:Addr}(h:b∈owned c.ρ):∃ o,c.s.heap.get? b=some o:=by induction c.sim.live b h with | mk e _=>exact ⟨_,e⟩
theorem fr_alive {h h':Heap}{F:List Addr}(x:∀ a∈F,∃ o,h.get? a=some o)(l:Alive h h'):∀ a∈F,∃ o,h'.get? a=some o:=fun a ha=>let ⟨o,e⟩:=x a ha; l a o e
section
variable {W:Wd}{c c' c'':Cf W}{X Y:List Addr}
theorem own_at {ρ ρ':Cells}{b:Addr}(k:∀ {i:Nat}{c:Cell},ρ[i]?=some c→ρ'[i]?=some c)(h:b∈owned ρ):b∈owned ρ':=by
 obtain ⟨c,hc,hb⟩:=List.mem_flatMap.mp h
 obtain ⟨i,hi⟩:=List.getElem?_of_mem hc
 exact mem_owned (k hi) hb
theorem Later.refl:Later X c c:=⟨.refl,rfl,Nat.le_refl _,fun uu uu uu uu e=>e⟩
theorem Later.trans (x:Later X c c')(y:Later X c' c''):Later X c c'':=⟨x.toLaterR.trans (x.f▸y.toLaterR),y.f.trans x.f,Nat.le_trans x.tick y.tick,fun e b o hb g=>by
 have e1:c.hm.tick=c'.hm.tick:=Nat.le_antisymm x.tick (e▸y.tick)
 exact y.own (e1.symm.trans e) b o (own_at x.at_ hb) (x.own e1 b o hb g)⟩
theorem Later.up (x:Later [] c c'):Later X c c':=⟨x.toLaterR.mono nofun,x.f,x.tick,x.own⟩
theorem Above.nf {a:Addr}(x:Above c.h a):a∉c.F:=fun q=>let ⟨_,e⟩:=c.fr a q; x.no e
theorem Later.nf (L:Later X c c'){a:Addr}(x:Above c.h a):a∉c'.F:=L.f▸x.nf
theorem Cf.V.later {x:MV}{v:Value}(r:c.V x v)(L:Later X c c'):c'.V x v:=VRel.stay L.stay r
theorem Cf.Vs.later {x:List MV}{v:List Value}(r:c.Vs x v)(L:Later X c c'):c'.Vs x v:=VRels.stay L.stay r
noncomputable def Cf.grow (c:Cf W){h':Heap}(t:Nat)(k:Ext c.h h'):Cf W:=⟨c.ρ,c.hm,{ c.s with heap:=h',toks:=t },c.sim.grow k,c.F,fr_alive c.fr k.alive⟩
theorem later_grow {h':Heap}{t:Nat}(k:Ext c.h h'):Later X c (c.grow t k):=⟨.one (fun e=>e) (fun uu=>.inl) (fun b o e uu uu=>k b o e) (fun b o e uu=>k b o e) k.alive rfl rfl,rfl,Nat.le_refl _,fun uu b o uu e=>k b o e⟩
noncomputable def Cf.new (c:Cf W){h':Heap}(t:Nat){d:Cell}{o:MObj}(k:Ext c.h h')(hc:∀ a∈d.own,Above c.h a)(R:ORel W (c.ρ++[d]) h' o d):Cf W:=
 ⟨c.ρ++[d],c.hm.new o,{ c.s with heap:=h',toks:=t },c.sim.adopt (fun b o uu=>k b o) (fun a ha q=>by induction c.sim.live a q with | mk e f=>exact (hc a ha).no e) (fun a ha=>(hc a ha).back c.sim.base.alive) (fun a ha x e=>((hc a ha).no e).elim) R,c.F,fr_alive c.fr k.alive⟩
theorem later_new {h':Heap}{t:Nat}{d:Cell}{o:MObj}{k:Ext c.h h'}{hc:∀ a∈d.own,Above c.h a}{R:ORel W (c.ρ++[d]) h' o d}:Later X c (c.new t k hc R):=
 ⟨.one at_app (fun a ha=>(own_or ha).imp id (hc a)) (fun b o e uu uu=>k b o e) (fun b o e uu=>k b o e) k.alive rfl rfl,rfl,Nat.le_succ _,fun uu b o uu e=>k b o e⟩
theorem alive_x {h h':Heap}(k:ExtX X h h')(l:∀ a∈X,∃ o,h'.get? a=some o):Alive h h':=fun b o e=>by
 by_cases q:b∈X
 ·exact l b q
 ·exact ⟨o,k b o q e⟩
noncomputable def Cf.side (c:Cf W){h':Heap}(t:Nat)(a:∀ a∈X,Aside W.B c.ρ c.h a)(k:ExtX X c.h h')(l:∀ b∈c.F,b∈X→∃ o,h'.get? b=some o):Cf W:=⟨c.ρ,c.hm,{ c.s with heap:=h',toks:=t },c.sim.move a k,c.F,fun b hb=>by
 by_cases q:b∈X
 ·exact l b hb q
 ·obtain ⟨o,e⟩:=c.fr b hb; exact ⟨o,k b o q e⟩⟩
theorem Later.side {h':Heap}{t:Nat}{a:∀ a∈Y,Aside W.B c'.ρ c'.h a}{k:ExtX Y c'.h h'}{l:∀ b∈c'.F,b∈Y→∃ o,h'.get? b=some o}(L:Later X c c')(ab:∀ a∈Y,Above c.h a):Later X c (c'.side t a k l):=⟨LaterR.buts L.toLaterR ab k,L.f,L.tick,fun e b o hb g=>k b o (fun q=>let ⟨_,x⟩:=owned_lives c hb; (ab b q).no x) (L.own e b o hb g)⟩
theorem Aside.base {c:Cf W}{ρ:Cells}{h:Heap}{a:Addr}(x:Aside c.h ρ h a):Aside W.B ρ h a:=⟨x.out,x.new.back c.sim.base.alive,x.live⟩
noncomputable def Cf.set (c:Cf W){h':Heap}(t:Nat){i:Nat}{d:Cell}{o:MObj}(hi:c.ρ[i]?=some d)(k:ExtX d.own c.h h')(R:ORel W c.ρ h' o d):Cf W:=⟨c.ρ,c.hm.set i o,{ c.s with heap:=h',toks:=t },c.sim.set hi k R,c.F,fr_alive c.fr (alive_x k fun a ha=>by induction R.live a ha with | mk e _=>exact ⟨_,e⟩)⟩
theorem later_set {h':Heap}{t:Nat}{i:Nat}{d:Cell}{o:MObj}{hi:c.ρ[i]?=some d}{k:ExtX d.own c.h h'}{R:ORel W c.ρ h' o d}:Later X c (c.set t hi k R):=
 ⟨.one (fun e=>e) (fun uu=>.inl) (fun b o e hb uu=>k b o (fun q=>hb (mem_owned hi q)) e) (fun b o e f=>k b o (fun q=>(c.sim.live b (mem_owned hi q)).nf e f) e) (alive_x k fun a ha=>by induction R.live a ha with | mk e _=>exact ⟨_,e⟩) rfl rfl,rfl,Nat.le_succ _,fun e=>absurd e (Nat.ne_of_lt (Nat.lt_succ_self _))⟩
theorem stay_set {h':Heap}{i:Nat}{d:Cell}(hi:c.ρ[i]?=some d)(k:ExtX d.own c.h h'):Stay c.ρ c.h c.ρ h':=stay_x (fun a ha=>c.sim.live a (mem_owned hi ha)) k
end
inductive Out {α β:Type}{W:Wd}(c:Cf W)(R:Cf W→α→β→Prop)(Q:α→MHeap→Prop):β→Shared→Prop
 | mk {a:α}{b:β}{c':Cf W}(r:R c' a b)(q:Q a c'.hm)(l:Later [] c c'):Out c R Q b c'.s
noncomputable abbrev noE:Value→Shared→Prop:=fun uu uu=>False
noncomputable def RB {W:Wd}(c:Cf W)(m:MV)(b:Bool):Prop:=m = .bool b
noncomputable def REq {α:Type}{W:Wd}(c:Cf W)(a b:α):Prop:=a=b
section
variable {W:Wd}{A:Around}{c c':Cf W}{α β γ δ:Type}{R:Cf W→α→β→Prop}{R':Cf W→γ→δ→Prop}{Q:α→MHeap→Prop}{Q':γ→MHeap→Prop}
theorem Out.trans {b:β}{s':Shared}(L:Later [] c c')(h:Out c' R Q b s'):Out c R Q b s':=by
 induction h with | mk r q l=>exact .mk r q (L.trans l)
theorem wmono {t:Sem β}{P:β→Shared→Prop}{P':β→Shared→Prop}{s:Shared}(h:wpAny W.M A t P noE s)(k:∀ b s',P b s'→P' b s'):wpAny W.M A t P' noE s:=wpAny_mono h k fun uu uu e=>e
theorem wout {t:Sem β}{P:β→Shared→Prop}(h:wpAny W.M A t (Out c R Q) noE c.s)(k:∀ a b c',R c' a b→Q a c'.hm→Later [] c c'→P b c'.s):wpAny W.M A t P noE c.s:=
 wmono h fun b s' h=>by induction h with | mk r q l=>exact k _ _ _ r q l
theorem wout' {t:Sem β}{P:β→Shared→Prop}{E:Value→Shared→Prop}(h:wpAny W.M A t (Out c R Q) noE c.s)(k:∀ a b c',R c' a b→Q a c'.hm→Later [] c c'→P b c'.s):wpAny W.M A t P E c.s:=
 wpAny_mono (wout h k) (fun uu uu e=>e) fun uu uu e=>e.elim
theorem wtrans {t:Sem β}(L:Later [] c c')(h:wpAny W.M A t (Out c' R Q) noE c'.s):wpAny W.M A t (Out c R Q) noE c'.s:=wmono h fun uu uu=>Out.trans L
theorem seqO {t:Sem β}{f:β→Sem δ}(h:wpAny W.M A t (Out c R Q) noE c.s)(k:∀ a b c',R c' a b→Q a c'.hm→Later [] c c'→wpAny W.M A (f b) (Out c' R' Q') noE c'.s):wpAny W.M A (t>>=f) (Out c R' Q') noE c.s:=
 wpAny_bind (wout h fun a b c' r q l=>wtrans l (k a b c' r q l))
theorem seqH {t:Sem β}{f:β→Sem δ}{vs:List Value}(h:wpAny W.M A t (Out c R Q) noE c.s)(k:∀ a b c',R c' a b→Q a c'.hm→Later [] c c'→wpAny W.M A (f b) (Out c' R' Q') noE c'.s):wpAny W.M A (holding vs t>>=f) (Out c R' Q') noE c.s:=
 wpAny_bind (wpAny_holding (wout h fun a b c' r q l=>wtrans l (k a b c' r q l)))
theorem atP {f:Unit→Sem β}{pos:Pos}{P:β→Shared→Prop}{s:Shared}(h:wpAny W.M A (f ()) P noE s):wpAny W.M A (standAt pos>>=f) P noE s:=wpAny_bind (wpAny_standAt h)
theorem out_at {a:α}{b:β}{t:Nat}(r:R (c.grow t (.refl _)) a b)(q:Q a c.hm):Out c R Q b { c.s with toks:=t }:=Out.mk (c':=c.grow t (.refl _)) r q (later_grow _)
theorem out_now {a:α}{b:β}(r:R c a b)(q:Q a c.hm):Out c R Q b c.s:=Out.mk r q .refl
section
variable {Q:KV}{m:MV}{v:Value}
theorem out_same {t:Nat}(r:c.V m v)(q:Q m c.hm):Out c Cf.V Q v { c.s with toks:=t }:=out_at r q
theorem out_grow {h':Heap}{t:Nat}(k:Ext c.h h')(r:VRel W c.ρ h' m v)(q:Q m c.hm):Out c Cf.V Q v { c.s with heap:=h',toks:=t }:=Out.mk (c':=c.grow t k) r q (later_grow _)
theorem out_new {h':Heap}{t:Nat}{d:Cell}{o:MObj}(k:Ext c.h h')(hc:∀ a∈d.own,Above c.h a)(R:ORel W (c.ρ++[d]) h' o d)(q:Q (.ref c.hm.next) (c.hm.new o)):Out c Cf.V Q (.ref d.a) { c.s with heap:=h',toks:=t }:=
 Out.mk (a:=MV.ref c.hm.next) (c':=c.new t k hc R) (IsRef.mk (new_at c.sim.len d)) q later_new
theorem out_set {h':Heap}{t:Nat}{i:Nat}{d:Cell}{o:MObj}(hi:c.ρ[i]?=some d)(k:ExtX d.own c.h h')(R:ORel W c.ρ h' o d)(r:VRel W c.ρ h' m v)(q:Q m (c.hm.set i o)):Out c Cf.V Q v { c.s with heap:=h',toks:=t }:=
 Out.mk (c':=c.set t hi k R) r q later_set
end
end
end Mini
end
section
namespace Mini
open PySem PySem.W PyProof.Rows PySem.SeqAt
structure Room (A:Around)(d:Nat):Prop where
 handled:A.handled=none
 depth:A.depth + 4 * d≤900
 units:A.units + 40 * d≤9000
theorem Room.line {A:Around}{d:Nat}(r:Room A d):A.units + 100<cLine:=Nat.lt_of_le_of_lt (Nat.add_le_add_right (Nat.le_trans (Nat.le_add_right ..) r.units) 100) (by decide)
structure WdOk (W:Wd):Prop where
 words:W.T.strTab.take 6=(["append", "extend", "pop", "update", "get", "setdefault"]:List Str)
 gtups:∀ x is,W.T.gtupTab.lookup x=some is→∃ a its n,nsIn W.K mainGlobals x=some (some (.ref a))∧W.K.lookup a=some { cls:=.type "tuple",data:=.seq its n }∧All2 IsInt is its.toList∧is.length≤100
 globs:∀ x i,W.T.globTab.lookup x=some i→∃ t,nsIn W.K mainGlobals x=some (some (.int i t))
 fnGlob:∀ f x,W.T.fnTab[f]?=some x→nsIn W.K mainGlobals x=some (some (.ref (W.faddr f)))∧fnIn W.K (W.faddr f)=true
 cGlob:nsIn W.K mainGlobals W.T.cname=some (some (.ref W.C))
 cCall:specialIn W.K (.ref W.C) "__call__"=some (some (.builtin "type.__call__"))
 cls:isClsIn W.K W.C=true
 noBuiltin:∀ x∈(["len", "abs", "list", "tuple", "sum", "isinstance", "sorted", "range", "super", "int", "bool"]:List Str),nsIn W.K mainGlobals x=some none
 meths:∀ m f x,W.P.meths.lookup m=some f→isStrs W m x→findIn W.K (.ref W.C) x=some (some (.ref (W.faddr f)))∧typeIn W.K (.ref (W.faddr f))=some (.type "function")∧(∀ a∈W.T.attrTab,a≠m)∧fnIn W.K (W.faddr f)=true ∧
  specialIn W.K (.ref (W.faddr f)) "__get__"=some (some (.builtin "function.__get__"))∧takesIn W.K (.ref (W.faddr f))=some false∧copiedNames.contains x=false
 make:makesIn W.K W.C=true
 ckeep:keepIn W.K (.ref W.C)=true
 initOf:findIn W.K (.ref W.C) "__init__"=some (some (.ref (W.faddr W.P.init)))
 initFn:typeIn W.K (.ref (W.faddr W.P.init))=some (.type "function")
 xGlob:nsIn W.K mainGlobals W.T.xname=some (some (.ref W.LF))
 xKeep:keepIn W.K (.ref W.LF)=true
 xCls:isClsIn W.K W.LF=true
 xBase:mroIn W.K W.LF (.type "BaseException")=some true
 xSelf:mroIn W.K W.LF (.ref W.LF)=some true
 xType:typeIn W.K (.ref W.LF)=some (.type "type")
 X:W.K.In W.B
 g:W.B.Ns mainGlobals W.mg
 b:W.B.Ns builtinsNs W.mb
 nolimit:W.B.NoLimit
 boots:∀ x:Str,x≠"__name__"→W.mb x=bootBuiltins x
 script:∃ vs,W.B.IsList W.scriptAt vs.toArray∧IntsAre vs W.script
 slen:W.script.length≤lenLine
 nodup:W.T.strTab.Nodup
 hga:findIn W.K (.ref W.C) "__getattribute__"=some (some (.builtin "object.__getattribute__"))
 hgt:findIn W.K (.ref W.C) "__getattr__"=some none
 hsa:findIn W.K (.ref W.C) "__setattr__"=some (some (.builtin "object.__setattr__"))
 over:plainOver W.K W.C=true
 has:hasDictIn W.K W.C=true
 attr:∀ a x,a∈W.T.attrTab→isStrs W a x→findIn W.K (.ref W.C) x=some none
structure EqAll (v u:Value)(b:Bool):Prop where
 e:∀ A s,EqAt A s v u b
 r:∀ A s,RcAt A s v u b
 n:∀ A s,RcNeAt A s v u (!b)
 same:v=u→b=true
noncomputable def vaeq (v u:Value):Bool:=match v with
 | .none=>(match u with | .none=>true | _=>false)
 | .bool a=>(match u with | .bool b=>a==b | _=>false)
 | .int a _=>(match u with | .int b _=>a==b | _=>false)
 | _=>false
section
variable {W:Wd}{ρ:Cells}{h:Heap}{A:Around}{s:Shared}
@[elab_as_elim] theorem IsInt.elim {P:Value→Prop}{i:Int}{v:Value}(r:IsInt i v)(k:∀ t,P (.int i t)):P v:=by
 induction r with | mk t=>exact k t
theorem aeq_at {x y:MV}{b:Bool}{v u:Value}(e:AEq x y b)(hv:VRel W ρ h x v)(hu:VRel W ρ h y u):EqAll v u b∧vaeq v u=b:=by
 induction e with
 | nn=>rw [show v = .none from hv,show u = .none from hu]; exact ⟨⟨fun uu uu=>EqAt.same _,fun uu uu=>RcAt.none_none,fun uu uu=>RcNeAt.none_none,fun uu=>rfl⟩,rfl⟩
 | nb b=>rw [show v = .none from hv,show u = .bool b from hu]; exact ⟨⟨fun uu uu=>EqAt.none_bool _,fun uu uu=>RcAt.none_bool _,fun uu uu=>RcNeAt.none_bool _,nofun⟩,rfl⟩
 | ni i=>rw [show v = .none from hv]; refine IsInt.elim hu fun t=>?_; exact ⟨⟨fun uu uu=>EqAt.none_int _ _,fun uu uu=>RcAt.none_int _ _,fun uu uu=>RcNeAt.none_int _ _,nofun⟩,rfl⟩
 | bn b=>rw [show v = .bool b from hv,show u = .none from hu]; exact ⟨⟨fun uu uu=>EqAt.bool_none _,fun uu uu=>RcAt.bool_none _,fun uu uu=>RcNeAt.bool_none _,nofun⟩,rfl⟩
 | int i=>rw [show u = .none from hu]; refine IsInt.elim hv fun t=>?_; exact ⟨⟨fun uu uu=>EqAt.int_none _ _,fun uu uu=>RcAt.int_none _ _,fun uu uu=>RcNeAt.int_none _ _,nofun⟩,rfl⟩
 | bb a b=>rw [show v = .bool a from hv,show u = .bool b from hu]; exact ⟨⟨fun uu uu=>EqAt.bool_bool _ _,fun uu uu=>RcAt.bool_bool _ _,fun uu uu=>RcNeAt.bool_bool _ _,fun e=>beq_iff_eq.mpr (Value.bool.inj e)⟩,rfl⟩
 | ii a b=>refine IsInt.elim hv fun t=>IsInt.elim hu fun t'=>?_; exact ⟨⟨fun uu uu=>EqAt.int_int _ _ _ _,fun uu uu=>RcAt.int_int _ _ _ _,fun uu uu=>RcNeAt.int_int _ _ _ _,fun e=>beq_iff_eq.mpr (Value.int.inj e).1⟩,rfl⟩
theorem succ_beq (n m:Nat):(n + 1==m + 1)=(n==m):=by rw [Bool.eq_iff_iff,beq_iff_eq,beq_iff_eq,Nat.add_right_cancel_iff]
structure Items2 (P:Value→Value→Bool→Prop)(vs us:List Value)(e:Nat→Bool)(b:Bool):Prop where
 at_:∀ j (h1:j<vs.length)(h2:j<us.length),P vs[j] us[j] (e j)
 all:((List.range (min vs.length us.length)).all e&&vs.length==us.length)=b
theorem eqL_at {R:MV→MV→Bool→Prop}{Q:MV→Value→Prop}{P:Value→Value→Bool→Prop}(hf:∀ x y b v u,R x y b→Q x v→Q y u→P v u b){xs ys:List MV}{b:Bool}{vs us:List Value}
  (e:EqL R xs ys b)(hv:All2 Q xs vs)(hu:All2 Q ys us):∃ e,Items2 P vs us e b:=by
 induction e generalizing vs us with
 | nil=>refine All2.nilE hv (All2.nilE hu ?_); exact ⟨fun uu=>true,nofun,rfl⟩
 | left x r=>refine All2.nilE hu (All2.consE hv fun v s uu uu=>?_); exact ⟨fun uu=>true,fun uu uu=>nofun,Bool.and_false _⟩
 | right y s=>refine All2.nilE hv (All2.consE hu fun v s uu uu=>?_); exact ⟨fun uu=>true,nofun,Bool.and_false _⟩
 | @cons x y r s a b e t ih=>
  refine All2.consE hv fun v vs hv rv=>All2.consE hu fun u us hu ru=>?_
  obtain ⟨f,I⟩:=ih rv ru
  refine ⟨fun j=>Nat.casesOn j a f,fun j k1 k2=>?_,?_⟩
  ·rcases j with _ | j
   ·exact hf _ _ _ _ _ e hv hu
   ·exact I.at_ j (Nat.lt_of_succ_lt_succ k1) (Nat.lt_of_succ_lt_succ k2)
  ·rw [← I.all,List.length_cons,List.length_cons,Nat.add_min_add_right,List.range_succ_eq_map,List.all_cons,List.all_map,Bool.and_assoc,succ_beq]
   rfl
structure Eq3 (A:Around)(s:Shared)(v u:Value)(b:Bool):Prop where
 e:EqAt A s v u b
 r:RcAt A s v u b
 n:RcNeAt A s v u (!b)
theorem isTuple_of {its:Array Value}{n:Nat}{a:Addr}(e:h.get? a=some { cls:=.type "tuple",data:=.seq its n }):h.IsTuple a its:=⟨_,e,rfl,n,rfl⟩
@[elab_as_elim] theorem IsTup.elim {P:Value→Prop}{vs:List MV}{v:Value}(r:IsTup W ρ h vs v)(k:∀ a its n,h.get? a=some { cls:=.type "tuple",data:=.seq its n }→All2 (FRel W ρ h) vs its.toList→vs.length≤lenLine→P (.ref a)):P v:=by
 induction r with | mk g r' l=>exact k _ _ _ g r' l
theorem feq_at {x y:MV}{b:Bool}{v u:Value}(e:FEq x y b)(hv:VRel W ρ s.heap x v)(hu:VRel W ρ s.heap y u)(hA:A.units<cLine):Eq3 A s v u b:=by
 induction e with
 | «at» e=>have q:=(aeq_at e hv hu).1; exact ⟨q.e _ _,q.r _ _,q.n _ _⟩
 | nt vs=>rw [show v = .none from hv]; exact IsTup.elim hu fun a its n g r l=>⟨EqAt.none_tuple (isTuple_of g) hA,RcAt.none_tuple (isTuple_of g) hA,RcNeAt.none_tuple (isTuple_of g) hA⟩
 | tn vs=>rw [show u = .none from hu]; exact IsTup.elim hv fun a its n g r l=>⟨EqAt.tuple_none (isTuple_of g) hA,RcAt.tuple_none (isTuple_of g) hA,RcNeAt.tuple_none (isTuple_of g) hA⟩
 | @tt xs ys b e=>
  refine IsTup.elim hv fun a its n g r l=>IsTup.elim hu fun a2 its2 n2 g2 r2 l2=>?_
  have T:=isTuple_of g
  have T2:=isTuple_of g2
  obtain ⟨f,I⟩:=eqL_at (P:=EqAll) (fun x y b v u e hv hu=>(aeq_at (W:=W) (ρ:=ρ) (h:=s.heap) e hv.up hu.up).1) e r r2
  have he:∀ j (h1:j<its.size)(h2:j<its2.size),EqAt A.in1 s its[j] its2[j] (f j):=fun j k1 k2=>(I.at_ j k1 k2).e _ _
  have R:RcAt A s (.ref a) (.ref a2) b:=I.all▸RcAt.tuples T T2 hA he
  refine ⟨?_,R,I.all▸RcNeAt.tuples T T2 hA he⟩
  by_cases q:a=a2
  ·subst q
   rw [g] at g2
   have e2:its=its2:=(Data.seq.inj (Obj.mk.inj (Option.some.inj g2)).2.2.1).1
   subst e2
   have:b=true:=by
    rw [← I.all,Nat.min_self,beq_self_eq_true,Bool.and_true]
    exact List.all_eq_true.mpr fun j hj=>(I.at_ j (List.mem_range.mp hj) (List.mem_range.mp hj)).same rfl
   rw [this]
   exact EqAt.same _
  ·exact EqAt.of_refs q R
end
end Mini
end
section
namespace Mini
open PySem PySem.W PyProof.Rows PySem.SeqAt MeetsSeq AutoSeq1
theorem eq_ii {prog:Program}{w:World}{A:Around}{E:Value→Shared→Prop}{s:Shared}{x y:Int}{t u:Tok}{Q:Bool→Shared→Prop}(h:Q (x==y) s):wpAny (model prog w) A (eqBool (.int x t) (.int y u)) Q E s:=(EqAt.int_int x t y u:EqAt A s _ _ _) prog w E Q h
theorem pair_gtAt (l b:Addr)(a a' c c':Int)(t t' u u':Tok)(n n2:Nat)(dd dd2:Option Addr)(sl sl2:Array (Option Value)) :
  Meets (Builtin.«tuple.__gt__» ⟨[.ref l,.ref b],[]⟩)
   (fun A R s=>s.heap.get? l=some { cls:=.type "tuple",dict:=dd,data:=.seq #[.int a t,.int a' t'] n,slots:=sl }∧s.heap.get? b=some { cls:=.type "tuple",dict:=dd2,data:=.seq #[.int c u,.int c' u'] n2,slots:=sl2 } ∧
    R (.ok (.ret (.bool (decide (c<a)||(a==c&&decide (c'<a')))))) s):=
 .of_wp fun prog w A R s h=>by
  obtain ⟨hp,g,d,tk,os⟩:=s; obtain ⟨hl,hb,h⟩:=h
  have f2:=AutoSeq1.sub_tuple_tuple
  wp_walk using wpAny_loadPart' hl,wpAny_loadPart' hb,eq_ii
  have key:∀ {x y:Int}{t u:Tok}{A:Around}{E:Value→Shared→Prop}{s:Shared}{Q:Value→Shared→Prop},Q (.bool (decide (y<x))) s→wpAny (model prog w) A (richCompare .Gt (.int x t) (.int y u)) Q E s:=fun q=>gt_int q
  by_cases e:a=c
  ·subst e
   rw [show decide (a<a)=false from decide_eq_false (Int.lt_irrefl a),beq_self_eq_true,Bool.false_or,Bool.true_and] at h
   rw [show (!(a==a))=false by rw [beq_self_eq_true]; rfl]
   wp_walk using eq_ii
   by_cases e:a'=c'
   ·subst e
    rw [show decide (a'<a')=false from decide_eq_false (Int.lt_irrefl a')] at h
    rw [show (!(a'==a'))=false by rw [beq_self_eq_true]; rfl]
    wp_walk
    exact ⟨_,rfl,h⟩
   ·rw [show (!(a'==c'))=true by rw [beq_eq_false_iff_ne.mpr e]; rfl]
    wp_walk using key
    exact ⟨_,rfl,h⟩
  ·rw [beq_eq_false_iff_ne.mpr e,Bool.false_and,Bool.or_false] at h
   rw [show (!(a==c))=true by rw [beq_eq_false_iff_ne.mpr e]; rfl]
   wp_walk using key
   exact ⟨_,rfl,h⟩
section
variable {prog:Program}{w:World}{A:Around}{E:Value→Shared→Prop}{s:Shared}{l b:Addr}{a a' c c':Int}{t t' u u':Tok}{Q:Value→Shared→Prop}
theorem gt_pair (hl:s.heap.IsTuple l #[.int a t,.int a' t'])(hb:s.heap.IsTuple b #[.int c u,.int c' u'])(hu:A.units<cLine)(h:Q (.bool (decide (c<a)||(a==c&&decide (c'<a')))) s):wpAny (model prog w) A (compareOp .Gt (.ref l) (.ref b)) Q E s:=by
 obtain ⟨⟨cls,dd,data,sl⟩,ho,hc,n,hd⟩:=id hl
 obtain ⟨⟨cls2,dd2,data2,sl2⟩,ho2,hc2,n2,hd2⟩:=id hb
 simp only at hc hd hc2 hd2
 subst hc hd hc2 hd2
 exact richCompare_meets_room (op:=.Gt) ⟨_,ho,rfl⟩ ⟨_,ho2,rfl⟩ F.slot_tuple_gt F.entry_tuple_gt (F.args_tuple_gt_2 _ _) (pair_gtAt l b a a' c c' t t' u u' n n2 dd dd2 sl sl2) ⟨ho,ho2,⟨(fun x=>nomatch x),h⟩⟩ hu
end
end Mini
end
section
namespace Mini
open PySem PySem.W PyProof.Rows PySem.SeqAt
section
variable {κ κ':Type} [DecidableEq κ] [DecidableEq κ']{nm:κ→κ'→Prop}{k:κ}{k':κ'}{W:Wd}{ρ:Cells}{h:Heap}{es:List (κ×MV)}{kvs:List (κ'×Value)}
theorem kget_cons {p:κ×MV}{r:List (κ×MV)}:kget (p::r) k=if p.1=k then some p.2 else kget r k:=rfl
noncomputable def Fit (nm:κ→κ'→Prop)(k:κ)(k':κ'):Prop:=∀ a a',nm a a'→(a=k↔a'=k')
theorem fit_eq {k:Int}:Fit Eq k k:=fun a a' e=>by rw [e]
theorem KRel.get (hi:Fit nm k k')(r:KRel W ρ h nm es kvs):(∀ x,kget es k=some x→∃ v,valueAt kvs k'=some v∧VRel W ρ h x v)∧(kget es k=none→valueAt kvs k'=none):=by
 unfold valueAt
 induction r with
 | nil=>exact ⟨fun uu=>ns,fun uu=>rfl⟩
 | @cons a b _ _ q t ih=>
  rw [kget_cons,List.find?_cons]
  by_cases z:a.1=k
  ·rw [if_pos z,decide_eq_true ((hi _ _ q.1).mp z)]
   exact ⟨fun x e=>⟨b.2,rfl,Option.some.inj e▸q.2⟩,fun e=>ns e.symm⟩
  ·rw [if_neg z,decide_eq_false fun e=>z ((hi _ _ q.1).mpr e)]
   exact ih
end
section
variable {W:Wd}{c:Cf W}{A:Around}{Q:KV}{x y m:MV}{v u:Value}{i j:Nat}{P:Value→Prop}
theorem Cf.X (c:Cf W)(K:WdOk W):W.K.In c.h:=K.X.keeps c.sim.base
theorem IsRef.cell {ρ:Cells}{i:Nat}{d:Cell}{P:Value→Prop}{v:Value}(hv:IsRef ρ i v)(hd:ρ[i]?=some d)(k:P (.ref d.a)):P v:=by
 induction hv with | mk e=>rw [hd] at e; exact Option.some.inj e▸k
@[elab_as_elim] theorem Cf.listE {xs:List MV}(hv:c.V (.ref i) v)(eo:c.hm.obj i=some (.list xs))
  (k:∀ (d:Cell)(its:Array Value)(n:Nat),c.ρ[i]?=some d→d.d=d.a→IsL c.h d.a its n→VRels W c.ρ c.h xs its.toList→xs.length≤lenLine→its.size=xs.length→P (.ref d.a)):P v:=by
 induction c.sim.objs i _ eo with
 | mk hc r=>
  have r:LRel W c.ρ c.h xs _:=r
  induction r with | mk d g r l=>exact IsRef.cell hv hc (k _ _ _ hc d g r l (Array.length_toList.symm.trans r.length))
@[elab_as_elim] theorem Cf.dictE {es:List (Int×MV)}(hv:c.V (.ref i) v)(eo:c.hm.obj i=some (.idict es))
  (k:∀ (d:Cell)(kvs:List (Int×Value)),c.ρ[i]?=some d→d.d=d.a→c.h.DictOf (intKind W.prog W.w) d.a kvs→KRel W c.ρ c.h Eq es kvs→es.length≤lenLine→P (.ref d.a)):P v:=by
 induction c.sim.objs i _ eo with
 | mk hc r=>
  have r:DRel W c.ρ c.h (intKind W.prog W.w) Eq es _:=r
  induction r with | mk d g r l=>exact IsRef.cell hv hc (k _ _ hc d g r l)
@[elab_as_elim] theorem Cf.sdictE {es:List (Nat×MV)}(hv:c.V (.ref i) v)(eo:c.hm.obj i=some (.sdict es))
  (k:∀ (d:Cell)(kvs:List (Str×Value)),c.ρ[i]?=some d→d.d=d.a→c.h.DictOf (strKind W.prog W.w) d.a kvs→KRel W c.ρ c.h (isStrs W) es kvs→es.length≤lenLine→P (.ref d.a)):P v:=by
 induction c.sim.objs i _ eo with
 | mk hc r=>
  have r:DRel W c.ρ c.h (strKind W.prog W.w) (isStrs W) es _:=r
  induction r with | mk d g r l=>exact IsRef.cell hv hc (k _ _ hc d g r l)
@[elab_as_elim] theorem Cf.instE {as:List (Nat×MV)}(hv:c.V (.ref i) v)(eo:c.hm.obj i=some (.inst as))
  (k:∀ (d:Cell)(es:List DictEntry)(n:Nat),c.ρ[i]?=some d→d.d≠d.a→InstAt c.h d.a (instObj W.C d.d) W.C (some (dictOf es n))→c.h.get? d.d=some (dictOf es n)→ARel W c.ρ c.h as es→as.length≤100→(∀ e∈as,e.1∈W.T.attrTab)→P (.ref d.a)):P v:=by
 induction c.sim.objs i _ eo with
 | mk hc r=>
  have r:NRel W c.ρ c.h as _:=r
  induction r with | mk d g g' r l al=>exact IsRef.cell hv hc (k _ _ _ hc d ⟨g,rfl,rfl,g'⟩ g' r l al)
theorem Cf.notMods (K:WdOk W){d:Cell}(e:c.ρ[i]?=some d):(d.a==sysModules)=false:=by
 obtain ⟨o,es,ep,g,_⟩:=K.g
 exact beq_eq_false_iff_ne.mpr fun q=>absurd (c.sim.out _ (mem_owned e (own_a d)) _ _ g) (by rw [q]; decide)
theorem line_of {n:Nat}(e:n≤lenLine):n≤sizeLine:=Nat.le_trans e (by decide)
noncomputable def cOp:MCmp→CmpOp
 | .eq=>.Eq | .ne=>.NotEq | .lt=>.Lt | .le=>.LtE | .gt=>.Gt | .ge=>.GtE | .is=>.Is | .isnot=>.IsNot | .isin=>.In | .notin=>.NotIn
noncomputable def RcW (A:Around)(s:Shared)(v u:Value)(b:Bool):Prop:=RcAt A s v u b∧RcNeAt A s v u (!b)
theorem eqv_at (K:WdOk W){b:Bool}(e:Eqv c.hm x y b)(hv:c.V x v)(hu:c.V y u)(hA:A.units + 1<cLine):RcW A c.s v u b:=by
 have hA':A.units<cLine:=Nat.lt_of_succ_lt hA
 induction e with
 | flat e=>exact ⟨(feq_at e hv hu hA').r,(feq_at e hv hu hA').n⟩
 | list p q e=>
  refine Cf.listE hv p fun d its n uu uu g r uu z=>Cf.listE hu q fun d2 its2 n2 uu uu g2 r2 uu z2=>?_
  obtain ⟨f,I⟩:=eqL_at (Q:=VRel W c.ρ c.h) (P:=fun v u b=>EqAt A.in1 c.s v u b) (fun x y b v u e hv hu=>(feq_at (W:=W) (ρ:=c.ρ) e hv hu hA).e) e r r2
  by_cases hz:its.size=its2.size
  ·have hb:=I.all
   rw [Array.length_toList,Array.length_toList,← hz,Nat.min_self,beq_self_eq_true,Bool.and_true] at hb
   have he:=fun j (h1:j<its.size)(h2:j<its2.size)=>I.at_ j h1 h2
   exact ⟨hb▸RcAt.lists (A:=A) g.isList g2.isList hz hA' he,hb▸RcNeAt.lists (A:=A) g.isList g2.isList hz hA' he⟩
  ·have hb:=I.all
   rw [Array.length_toList,Array.length_toList,beq_eq_false_iff_ne.mpr hz,Bool.and_false] at hb
   have hsz:=bne_iff_ne.mpr hz
   exact ⟨hb▸RcAt.lists_lengths g.isList g2.isList hsz hA',hb▸RcNeAt.lists_lengths g.isList g2.isList hsz hA'⟩
 | lens p q e=>
  refine Cf.listE hv p fun d its n uu uu g r uu z=>Cf.listE hu q fun d2 its2 n2 uu uu g2 r2 uu z2=>?_
  have hsz:=bne_iff_ne.mpr fun (q:its.size=its2.size)=>e (z.symm.trans (q.trans z2))
  exact ⟨RcAt.lists_lengths g.isList g2.isList hsz hA',RcNeAt.lists_lengths g.isList g2.isList hsz hA'⟩
theorem isv_at {ρ:Cells}{h:Heap}{b:Bool}(e:IsV x y b)(hv:VRel W ρ h x v)(hu:VRel W ρ h y u):plainIs v u=true∧(v==u)=b:=by
 induction e with
 | nn=>rw [show v = .none from hv,show u = .none from hu]; exact ⟨rfl,beq_self_eq_true _⟩
 | nb b=>rw [show v = .none from hv,show u = .bool b from hu]; exact ⟨rfl,rfl⟩
 | bn b=>rw [show v = .bool b from hv,show u = .none from hu]; exact ⟨rfl,rfl⟩
 | int i=>rw [show u = .none from hu]; refine IsInt.elim hv fun t=>⟨rfl,rfl⟩
 | tn vs=>rw [show u = .none from hu]; exact IsTup.elim hv fun a its n g r l=>⟨rfl,rfl⟩
 | rn i=>rw [show u = .none from hu]; have hv:IsRef ρ i v:=hv; induction hv with | mk e=>exact ⟨rfl,rfl⟩
 | bb a b=>rw [show v = .bool a from hv,show u = .bool b from hu]; exact ⟨rfl,by rw [Bool.eq_iff_iff,beq_iff_eq,beq_iff_eq,Value.bool.injEq]⟩
theorem inl_at {ρ:Cells}{h:Heap}{vs:List Value}{xs:List MV}{b:Bool}(hv:VRel W ρ h x v)(e:InL x xs b)(r:VRels W ρ h xs vs):(∀ w∈vs,∀ A s,EqAt A s w v (vaeq w v))∧vs.any (fun w=>vaeq w v)=b:=by
 induction e generalizing vs with
 | nil=>exact All2.nilE r ⟨fun w hw=>absurd hw List.not_mem_nil,rfl⟩
 | cons e t ih=>
  refine All2.consE r fun w s hw rw'=>?_
  obtain ⟨q1,q2⟩:=aeq_at e hw hv
  obtain ⟨h1,h2⟩:=ih rw'
  refine ⟨fun z hz=>(List.mem_cons.mp hz).elim (fun e=>?_) (h1 z),by rw [List.any_cons,h2,q2]⟩
  rw [e,q2]; exact q1.e
theorem KRel.any {ρ:Cells}{h:Heap}{es:List (Int×MV)}{kvs:List (Int×Value)}(r:KRel W ρ h Eq es kvs)(k:Int):(valueAt kvs k).isSome=es.any fun e=>e.1==k:=by
 unfold valueAt
 induction r with
 | nil=>rfl
 | @cons a b _ _ q t ih=>
  rw [List.find?_cons,List.any_cons,q.1]
  by_cases z:b.1=k
  ·rw [decide_eq_true z,beq_iff_eq.mpr z]; rfl
  ·rw [decide_eq_false z,beq_eq_false_iff_ne.mpr z]; exact ih
theorem rcl_at {xs ys:List MV}{b:Bool}(hv:c.V (.ref i) v)(hu:c.V (.ref j) u)(p:c.hm.obj i=some (.list xs))(q:c.hm.obj j=some (.list ys))(e:LEq xs ys b)(hA:A.units + 1<cLine):RcAt A c.s v u b:=by
 have hA':A.units<cLine:=Nat.lt_of_succ_lt hA
 refine Cf.listE hv p fun d its n uu uu g r uu z=>Cf.listE hu q fun d2 its2 n2 uu uu g2 r2 uu z2=>?_
 have z:its.size=xs.length:=z
 have z2:its2.size=ys.length:=z2
 induction e with
 | all e=>
  obtain ⟨f,I⟩:=eqL_at (Q:=VRel W c.ρ c.h) (P:=fun v u b=>EqAt A.in1 c.s v u b) (fun x y b v u e hv hu=>(feq_at (W:=W) (ρ:=c.ρ) e hv hu hA).e) e r r2
  by_cases hz:its.size=its2.size
  ·have hb:=I.all
   rw [Array.length_toList,Array.length_toList,← hz,Nat.min_self,beq_self_eq_true,Bool.and_true] at hb
   exact hb▸RcAt.lists (A:=A) g.isList g2.isList hz hA' fun j (h1:j<its.size)(h2:j<its2.size)=>I.at_ j h1 h2
  ·have hb:=I.all
   rw [Array.length_toList,Array.length_toList,beq_eq_false_iff_ne.mpr hz,Bool.and_false] at hb
   exact hb▸RcAt.lists_lengths g.isList g2.isList (bne_iff_ne.mpr hz) hA'
 | lens e=>exact RcAt.lists_lengths g.isList g2.isList (bne_iff_ne.mpr fun (q:its.size=its2.size)=>e (z.symm.trans (q.trans z2))) hA'
theorem pair_of {α:Type}{R:α→Value→Prop}{x y:α}{its:Array Value}(r:All2 R [x,y] its.toList):∃ v w,its=#[v,w]∧R x v∧R y w:=by
 rcases its with ⟨l⟩
 rcases r with _ | ⟨h,_ | ⟨h',_ | _⟩⟩
 exact ⟨_,_,rfl,h,h'⟩
inductive InAt (A:Around)(s:Shared)(v u:Value)(b:Bool):Prop
 | mk (i:∀ {Q:Value→Shared→Prop},(∀ t,Q (.bool b) { s with toks:=t })→wpAny W.M A (compareOp .In v u) Q noE s)(n:∀ {Q:Value→Shared→Prop},(∀ t,Q (.bool !b) { s with toks:=t })→wpAny W.M A (compareOp .NotIn v u) Q noE s)
theorem inv_at (K:WdOk W){b:Bool}(e:InV c.hm x y b)(hv:c.V x v)(hu:c.V y u)(hA:A.units + 2<cLine):InAt (W:=W) A c.s v u b:=by
 induction e with
 | tup e=>
  refine IsTup.elim hu fun a its n g r l=>?_
  obtain ⟨h1,h2⟩:=inl_at hv e (r.imp fun uu uu=>FRel.up)
  rw [Array.any_toList] at h2
  exact ⟨fun q=>in_tupleAt (fun y=>vaeq y v) (isTuple_of g) (fun y hy=>h1 y (Array.mem_toList_iff.mpr hy) _ _) (h2▸q c.s.toks),fun q=>notIn_tupleAt (fun y=>vaeq y v) (isTuple_of g) (fun y hy=>h1 y (Array.mem_toList_iff.mpr hy) _ _) (h2▸q c.s.toks)⟩
 | list p e=>
  refine Cf.listE hu p fun d its n uu uu g r l z=>?_
  obtain ⟨h1,h2⟩:=inl_at hv e r
  rw [Array.any_toList] at h2
  exact ⟨fun q=>in_listAt (fun y=>vaeq y v) g.isList (fun y hy=>h1 y (Array.mem_toList_iff.mpr hy) _ _) (h2▸q c.s.toks),fun q=>notIn_listAt (fun y=>vaeq y v) g.isList (fun y hy=>h1 y (Array.mem_toList_iff.mpr hy) _ _) (h2▸q c.s.toks)⟩
 | dict p=>
  refine Cf.dictE hu p fun d kvs hc uu g r l=>IsInt.elim hv fun t=>?_
  exact ⟨fun q=>wpAny_in_of (intKind_is _ _ _ t) (Cf.notMods K hc) g.mapOf (by rw [r.any]; exact q _),fun q=>wpAny_notIn_of (intKind_is _ _ _ t) (Cf.notMods K hc) g.mapOf (by rw [r.any]; exact q _)⟩
 | @two k i j xs ys zs a b r p q n m m' e f=>
  refine IsTup.elim hu fun ta its tn g rr l=>?_
  obtain ⟨v1,v2,rfl,h1,h2⟩:=pair_of rr
  have h1:IsRef c.ρ i v1:=h1
  have h2:IsRef c.ρ j v2:=h2
  have hv:IsRef c.ρ k v:=hv
  have e1:=rcl_at (A:=A.in1) (W:=W) (c:=c) h1 hv p r e hA
  have e2:=rcl_at (A:=A.in1) (W:=W) (c:=c) h2 hv q r f hA
  rcases h1 with @⟨c1,q1⟩
  rcases h2 with @⟨c2,q2⟩
  rcases hv with @⟨c3,q3⟩
  have d1:c2.a≠c1.a:=fun q=>nodup_own c.sim.nodup q2 q1 n.symm _ (own_a c2) (q▸own_a c1)
  have d2:c1.a≠c3.a:=fun q=>nodup_own c.sim.nodup q1 q3 m.symm _ (own_a c1) (q▸own_a c3)
  have d3:c2.a≠c3.a:=fun q=>nodup_own c.sim.nodup q2 q3 m'.symm _ (own_a c2) (q▸own_a c3)
  have n1:(Value.ref c2.a)≠.ref c1.a:=fun q=>d1 (Value.ref.inj q)
  have he:∀ y,y∈#[Value.ref c1.a,.ref c2.a]→EqAt A.in1 c.s y (.ref c3.a) (if y = .ref c1.a then a else b):=fun y hy=>by
   rcases List.mem_cons.mp (Array.mem_toList_iff.mpr hy) with e | e
   ·rw [e,if_pos rfl]; exact EqAt.of_refs d2 e1
   ·rw [List.mem_singleton.mp e,if_neg n1]; exact EqAt.of_refs d3 e2
  have ha:#[Value.ref c1.a,.ref c2.a].any (fun y=>if y = .ref c1.a then a else b)=(a||b):=by
   rw [← Array.any_toList]
   show ((if Value.ref c1.a = .ref c1.a then a else b)||((if Value.ref c2.a = .ref c1.a then a else b)||false))=_
   rw [if_pos rfl,if_neg n1,Bool.or_false]
  exact ⟨fun q=>in_tupleAt _ (isTuple_of g) he (ha▸q c.s.toks),fun q=>notIn_tupleAt _ (isTuple_of g) he (ha▸q c.s.toks)⟩
theorem cmp_ok (K:WdOk W){op:MCmp}{b:Bool}(e:Cmp c.hm op x y b)(hv:c.V x v)(hu:c.V y u)(hA2:A.units + 2<cLine)(q:Q (.bool b) c.hm):wpAny W.M A (compareOp (cOp op) v u) (Out c Cf.V Q) noE c.s:=by
 have hA:=Nat.lt_of_succ_lt hA2
 have o:∀ t,Out c Cf.V Q (.bool b) { c.s with toks:=t }:=fun t=>out_same (m:=.bool b) rfl q
 induction e with
 | eq e=>exact (eqv_at K e hv hu hA).1 _ _ _ _ (o c.s.toks)
 | ne e=>exact (eqv_at K e hv hu hA).2 _ _ _ _ (o c.s.toks)
 | is e=>exact wpAny_is_plain (isv_at e hv hu).1 ((isv_at e hv hu).2▸o c.s.toks)
 | isnot e=>exact wpAny_isNot_plain (isv_at e hv hu).1 ((isv_at e hv hu).2▸o c.s.toks)
 | isin e=>induction inv_at (A:=A) K e hv hu hA2 with | mk i n=>exact i o
 | notin e=>induction inv_at (A:=A) K e hv hu hA2 with | mk i n=>exact n o
 | lt a b=>exact IsInt.elim hv fun t=>IsInt.elim hu fun t'=>lt_int (o c.s.toks)
 | le a b=>exact IsInt.elim hv fun t=>IsInt.elim hu fun t'=>P.le_int (o c.s.toks)
 | gt a b=>exact IsInt.elim hv fun t=>IsInt.elim hu fun t'=>gt_int (o c.s.toks)
 | gt2 a a' b b'=>
  refine IsTup.elim hv fun x1 its tn g rr l=>IsTup.elim hu fun x2 its2 tn2 g2 rr2 l2=>?_
  obtain ⟨v1,v2,rfl,h1,h2⟩:=pair_of rr
  obtain ⟨u1,u2,rfl,k1,k2⟩:=pair_of rr2
  have h1:IsInt a v1:=h1
  have h2:IsInt a' v2:=h2
  have k1:IsInt b u1:=k1
  have k2:IsInt b' u2:=k2
  rcases h1 with ⟨t1⟩
  rcases h2 with ⟨t2⟩
  rcases k1 with ⟨t3⟩
  rcases k2 with ⟨t4⟩
  exact gt_pair (isTuple_of g) (isTuple_of g2) (Nat.lt_of_succ_lt hA) (o c.s.toks)
 | ge a b=>exact IsInt.elim hv fun t=>IsInt.elim hu fun t'=>P.ge_int (o c.s.toks)
end
end Mini
end
section
namespace Mini
open PySem PySem.W PyProof.Rows PySem.SeqAt
noncomputable abbrev cell (a:Addr):Cell:=⟨a,a⟩
theorem own_cell {a b:Addr}(h:b∈(cell a).own):b=a:=(mem_own.mp h).elim id id
theorem above_cell {h:Heap}{a:Addr}(e:h.objs.size≤a):∀ b∈(cell a).own,Above h b:=fun b hb=>by rw [own_cell hb]; exact above_size h e
section
variable {W:Wd}{c:Cf W}{A:Around}{Q:KV}{x y m:MV}{v u:Value}{i j:Nat}{E:Value→Shared→Prop}
theorem app_stay {ρ:Cells}{d:Cell}{h h':Heap}(k:Ext h h'):Stay ρ h (ρ++[d]) h':=⟨at_app,fun b o e uu=>k b o e⟩
theorem out_list' {h':Heap}{t n:Nat}{a:Addr}{xs:List MV}{its:Array Value}(k:Ext c.h h')(ha:c.h.objs.size≤a)(g:h'.get? a=some (listOf its n))(r:VRels W c.ρ c.h xs its.toList)(hl:xs.length≤lenLine)(q:Q (.ref c.hm.next) (c.hm.new (.list xs))) :
  Out c Cf.V Q (.ref a) { c.s with heap:=h',toks:=t }:=
 out_new (d:=cell a) (o:=.list xs) k (above_cell ha) (LRel.mk (c:=cell a) rfl g (VRels.stay (app_stay k) r) hl) q
theorem out_list {t:Nat}{xs:List MV}{its:Array Value}(r:VRels W c.ρ c.h xs its.toList)(hl:xs.length≤lenLine)(q:Q (.ref c.hm.next) (c.hm.new (.list xs))) :
  Out c Cf.V Q (.ref c.h.objs.size) { c.s with heap:=c.h.push { cls:=.type "list",data:=.seq its },toks:=t }:=
 out_list' (.push _ _) (Nat.le_refl _) (Heap.get?_push_size _ rfl) r hl q
noncomputable def bOp:MOp→Operator
 | .add=>.Add | .sub=>.Sub | .mul=>.Mult | .fdiv=>.FloorDiv | .mod=>.Mod | .band=>.BitAnd | .shr=>.RShift | .pow=>.Pow | .cat=>.Add | .bor=>.BitOr
theorem small_nat {a:Int}(e:small a):a.natAbs<2 ^ 60:=by unfold small intLine at e; lia
theorem small_bits {a:Int}(e:small a):Builtin.Int.intBits a≤64:=by
 have h1:=small_nat e
 unfold Builtin.Int.intBits
 split
 ·lia
 ·rename_i hz
  have h0:a.natAbs≠0:=by intro h0; apply hz; simp; lia
  have:=(Nat.log2_lt h0).mpr h1
  lia
theorem bitOr_pp {x y:Int}(hx:0≤x)(hy:0≤y):Builtin.bitOr x y=((x.toNat|||y.toNat:Nat):Int):=by
 have n:∀ z:Int,0≤z→¬ (0≤Builtin.bitNot z):=fun z h=>by unfold Builtin.bitNot; lia
 have nn:∀ z:Int,Builtin.bitNot (Builtin.bitNot z)=z:=fun z=>by unfold Builtin.bitNot; lia
 unfold Builtin.bitOr Builtin.bitAnd
 rw [decide_eq_false (n x hx),decide_eq_false (n y hy)]
 simp only [nn]
theorem ari_ok {op:MOp}{a b n:Int}{t t':Tok}(e:Ari op a b n)(q:∀ t,Out c Cf.V Q (.int n t) { c.s with toks:=c.s.toks + 1 }):wpAny W.M A (binaryOp (bOp op) (.int a t) (.int b t')) (Out c Cf.V Q) noE c.s:=by
 induction e with
 | add a b=>exact add_int (q _)
 | sub a b=>exact sub_int (q _)
 | mul l=>exact mul_int (q _) (l.elim (fun q=>IntMulOk.of_left (small_bits q)) fun q=>IntMulOk.of_right (small_bits q))
 | fdiv l m=>exact floordiv_int (Int.ne_of_gt l) (q _) (Or.inl (PyProof.noPylong_small (by lia)))
 | mod l=>exact mod_int l (q _)
 | band l m=>exact and_int (by rw [bitAnd_pp l m]; exact q _)
 | bor l m=>exact or_int (by rw [bitOr_pp l m]; exact q _)
 | shr l=>exact rshift_int l (q _)
 | pow l m n=>exact pow_int_small l (Int.le_trans m (by decide)) (Nat.lt_trans (small_nat n) (by decide)) (q _)
theorem bin_ok {op:MOp}{h':MHeap}(e:Bin c.hm op x y m h')(q:Q m h')(hv:c.V x v)(hu:c.V y u):wpAny W.M A (binaryOp (bOp op) v u) (Out c Cf.V Q) noE c.s:=by
 induction e with
 | ari e=>exact IsInt.elim hv fun t=>IsInt.elim hu fun t'=>ari_ok e fun t=>out_same (m:=.int _) (IsInt.mk t) q
 | cat p p' l=>
  refine Cf.listE hv p fun d its n uu uu g r uu z=>Cf.listE hu p' fun d2 its2 n2 uu uu g2 r2 uu z2=>?_
  exact P.add_list g g2 (out_list (by rw [Array.toList_append]; exact r2.append r) (by rw [List.length_append]; exact l) q) (line_of (by rw [z,z2]; exact l))
theorem tru_ok {b:Bool}{R:Bool→Shared→Prop}{ρ:Cells}{h:Heap}{s:Shared}(e:Tru x b)(hv:VRel W ρ h x v)(q:R b s):wpAny W.M A (truthy v) R E s:=by
 induction e with
 | none=>rw [show v = .none from hv]; exact truthy_none q
 | bool b=>rw [show v = .bool b from hv]; exact wpAny_truthy_bool q
 | int i=>exact IsInt.elim hv fun t=>P.truthy_int q
theorem neg_ok (e:Neg x m)(q:Q m c.hm)(hv:c.V x v):wpAny W.M A (unaryOp .USub v) (Out c Cf.V Q) noE c.s:=by
 induction e with | mk i=>exact IsInt.elim hv fun t=>P.neg_int (out_same (m:=.int _) (IsInt.mk _) q)
section
variable {κ κ':Type} [DecidableEq κ] [DecidableEq κ']{nm:κ→κ'→Prop}{k:κ}{k':κ'}{ρ:Cells}{h:Heap}{es:List (κ×MV)}{kvs:List (κ'×Value)}
theorem stored_head {k:κ'}{v u:Value}{s:List (κ'×Value)}(h:k∉s.map (·.1)):stored ((k,v)::s) k u=(k,u)::s:=by
 unfold stored
 rw [List.any_cons,decide_eq_true rfl,Bool.true_or,if_pos rfl,List.map_cons,map_store_of_not_mem s k u h,if_pos rfl]
theorem stored_tail {b:κ'×Value}{k:κ'}{u:Value}{s:List (κ'×Value)}(h:¬ b.1=k):stored (b::s) k u=b::stored s k u:=by
 unfold stored
 rw [List.any_cons,decide_eq_false h,Bool.false_or]
 split
 ·rw [List.map_cons,if_neg h]
 ·rfl
theorem without_head {k:κ'}{v:Value}{s:List (κ'×Value)}(h:k∉s.map (·.1)):without ((k,v)::s) k=s:=by
 unfold without
 rw [List.filter_cons_of_neg (by rw [decide_eq_true_eq]; exact fun q=>q rfl)]
 exact without_of_not_mem s k h
theorem without_tail {b:κ'×Value}{k:κ'}{s:List (κ'×Value)}(h:¬ b.1=k):without (b::s) k=b::without s k:=by
 unfold without
 exact List.filter_cons_of_pos (decide_eq_true h)
theorem kset_cons {p:κ×MV}{r:List (κ×MV)}{v:MV}:kset (p::r) k v=if p.1=k then (p.1,v)::r else p::kset r k v:=rfl
theorem kdel_cons {p:κ×MV}{r:List (κ×MV)}:kdel (p::r) k=if p.1=k then r else p::kdel r k:=rfl
theorem KRel.set (hn:nm k k')(hi:Fit nm k k'){y:MV}{u:Value}(hy:VRel W ρ h y u)(r:KRel W ρ h nm es kvs)(nd:(kvs.map (·.1)).Nodup):KRel W ρ h nm (kset es k y) (stored kvs k' u):=by
 induction r with
 | nil=>exact .cons ⟨hn,hy⟩ .nil
 | @cons a b es' kvs' q t ih=>
  have nd:(b.1::kvs'.map (·.1)).Nodup:=nd
  rw [List.nodup_cons] at nd
  rw [kset_cons]
  by_cases z:a.1=k
  ·have e:=(hi _ _ q.1).mp z
   rw [if_pos z]
   have:stored (b::kvs') k' u=(b.1,u)::kvs':=by
    obtain ⟨b1,b2⟩:=b
    obtain rfl:b1=k':=e
    exact stored_head nd.1
   rw [this]
   exact .cons ⟨q.1,hy⟩ t
  ·have e:¬ b.1=k':=fun e=>z ((hi _ _ q.1).mpr e)
   rw [if_neg z]
   have:stored (b::kvs') k' u=b::stored kvs' k' u:=stored_tail e
   rw [this]
   exact .cons q (ih nd.2)
theorem KRel.del (hi:Fit nm k k')(r:KRel W ρ h nm es kvs)(nd:(kvs.map (·.1)).Nodup):KRel W ρ h nm (kdel es k) (without kvs k'):=by
 induction r with
 | nil=>exact .nil
 | @cons a b es' kvs' q t ih=>
  have nd:(b.1::kvs'.map (·.1)).Nodup:=nd
  rw [List.nodup_cons] at nd
  rw [kdel_cons]
  by_cases z:a.1=k
  ·have e:=(hi _ _ q.1).mp z
   rw [if_pos z]
   have:without (b::kvs') k'=kvs':=by
    obtain ⟨b1,b2⟩:=b
    obtain rfl:b1=k':=e
    exact without_head nd.1
   rw [this]
   exact t
  ·rw [if_neg z,without_tail fun e=>z ((hi _ _ q.1).mpr e)]
   exact .cons q (ih nd.2)
theorem kset_len (k:κ)(y:MV)(l:List (κ×MV)):(kset l k y).length≤l.length + 1:=by
 induction l with
 | nil=>exact Nat.le_refl _
 | cons a l ih=>
  rw [kset_cons]
  by_cases z:a.1=k
  ·rw [if_pos z]; exact Nat.le_succ _
  ·rw [if_neg z]; exact Nat.succ_le_succ ih
theorem kdel_len (k:κ)(l:List (κ×MV)):(kdel l k).length≤l.length:=by
 induction l with
 | nil=>exact Nat.le_refl _
 | cons a l ih=>
  rw [kdel_cons]
  by_cases z:a.1=k
  ·rw [if_pos z]; exact Nat.le_succ _
  ·rw [if_neg z]; exact Nat.succ_le_succ ih
theorem kset_mem {k:κ}{y:MV}{R:κ→Prop}(hk:R k){l:List (κ×MV)}(hl:∀ e∈l,R e.1):∀ e∈kset l k y,R e.1:=by
 induction l with
 | nil=>intro e he; rw [List.mem_singleton.mp he]; exact hk
 | cons a l ih=>
  rw [kset_cons]
  rw [List.forall_mem_cons] at hl
  by_cases z:a.1=k
  ·rw [if_pos z,List.forall_mem_cons]; exact ⟨hl.1,hl.2⟩
  ·rw [if_neg z,List.forall_mem_cons]; exact ⟨hl.1,ih hl.2⟩
end
theorem fit_str (hnd:W.T.strTab.Nodup){k:Nat}{x:Str}(hk:isStrs W k x):Fit (isStrs W) k x:=fun a a' e=>by
 unfold isStrs at hk e
 constructor
 ·intro q; rw [q,hk] at e; exact (Option.some.inj e).symm
 ·intro q
  obtain ⟨h1,e1⟩:=List.getElem?_eq_some_iff.mp hk
  obtain ⟨h2,e2⟩:=List.getElem?_eq_some_iff.mp e
  exact (List.getElem_inj (h₀:=h2) (h₁:=h1) hnd).mp (e2.trans (q.trans e1.symm))
theorem AtE.isStr {ρ:Cells}{h:Heap}{p:Nat×MV}{e:DictEntry}{a:Nat}{nm:Str}(hf:Fit (isStrs W) a nm)(r:AtE W ρ h p e):(e.key.isStr nm=true↔p.1=a)∧VRel W ρ h p.2 e.val∧e.refKey=false:=by
 induction r with
 | @mk nm' v hs t n r=>exact ⟨⟨fun e=>(hf _ _ n).mpr (eq_of_beq e),fun e=>beq_iff_eq.mpr ((hf _ _ n).mp e)⟩,r,rfl⟩
theorem ARel.find {ρ:Cells}{h:Heap}{as:List (Nat×MV)}{es:List DictEntry}{a:Nat}{nm:Str}(hf:Fit (isStrs W) a nm)(r:ARel W ρ h as es) :
  (∀ y,kget as a=some y→∃ e,es.find? (·.key.isStr nm)=some e∧VRel W ρ h y e.val)∧(kget as a=none→es.find? (·.key.isStr nm)=none)∧es.any (·.refKey)=false:=by
 induction r with
 | nil=>exact ⟨fun uu=>ns,fun uu=>rfl,rfl⟩
 | @cons p e as' es' q t ih=>
  obtain ⟨q1,q2,q3⟩:=q.isStr hf
  rw [kget_cons,List.find?_cons,List.any_cons,q3,Bool.false_or]
  by_cases z:p.1=a
  ·rw [if_pos z,q1.mpr z]
   exact ⟨fun y e'=>⟨e,rfl,Option.some.inj e'▸q2⟩,fun e=>ns e.symm,ih.2.2⟩
  ·rw [if_neg z,Bool.eq_false_iff.mpr fun e=>z (q1.mp e)]
   exact ih
theorem ARel.put {ρ:Cells}{h:Heap}{as:List (Nat×MV)}{es:List DictEntry}{a:Nat}{nm:Str}{hs:Int}{t:Tok}(hf:Fit (isStrs W) a nm)(hn:isStrs W a nm)(hy:VRel W ρ h y u)(r:ARel W ρ h as es):ARel W ρ h (kset as a y) (putL nm hs (.str nm t) u es):=by
 induction r with
 | nil=>exact .cons (.mk hs t hn hy) .nil
 | @cons p e as' es' q t' ih=>
  have q1:=(q.isStr hf).1
  unfold putL
  rw [kset_cons]
  by_cases z:p.1=a
  ·rw [if_pos z,if_pos (q1.mpr z)]
   refine .cons ?_ t'
   induction q with | mk hs t n r=>exact AtE.mk hs t n hy
  ·rw [if_neg z,if_neg fun e=>z (q1.mp e)]
   exact .cons q ih
theorem hand_of {x:MV}{v:Value}{ρ:Cells}{h:Heap}(r:VRel W ρ h x v):handedIn v=true:=by
 rcases x with _ | _ | _ | _ | vs | _ | _ | _ | _
 ·rw [show v = .none from r]; rfl
 ·rw [show v = .bool _ from r]; rfl
 ·exact IsInt.elim r fun uu=>rfl
 ·have r:IsStr W _ v:=r; induction r with | mk t e=>rfl
 ·exact IsTup.elim r fun uu uu uu uu uu uu=>rfl
 ·have r:IsRng h _ _ v:=r; induction r with | mk r l l'=>rfl
 ·rw [show v = .ref _ from r]; rfl
 ·have r:IsRef ρ _ v:=r; induction r with | mk e=>rfl
 ·have r:IsRef ρ _ v:=r; induction r with | mk e=>rfl
theorem getA_ok (K:WdOk W){a:Nat}{nm:Str}(e:GetA c.hm x a y)(ha:a∈W.T.attrTab)(hn:isStrs W a nm)(hx:c.V x v)(q:Q y c.hm){b:Bool}:wpAny W.M A (getAttr v nm b) (Out c Cf.V Q) noE c.s:=by
 induction e with
 | mk p eg=>
  refine Cf.instE hx p fun d es n hc uu I gd r uu uu=>?_
  obtain ⟨en,he,hu⟩:=(r.find (fit_str K.nodup hn)).1 _ eg
  have hcd:=K.has
  unfold hasDictIn at hcd
  obtain ⟨cd,hcd,hh⟩:=any_some hcd
  have hfo:findObj W.K W.C (some (dictOf es n)) nm=some (.value en.val):=by
   unfold findObj PySem.W.ownOf lookIn
   rw [hcd,K.attr _ nm ha hn]
   simp only [Option.bind_some,hh,if_true,he]
  exact get_value (c.X K) I K.hga hfo (hand_of hu) (out_same hu q)
noncomputable def RU {W:Wd}(c:Cf W)(_ _:Unit):Prop:=True
theorem setA_ok (K:WdOk W){a:Nat}{nm:Str}{h':MHeap}{Q:MHeap→Prop}(e:SetA c.hm a y x h')(ha:a∈W.T.attrTab)(hn:isStrs W a nm)(hx:c.V x v)(hy:c.V y u)(q:Q h'):wpAny W.M A (setAttr v nm u) (Out c RU fun uu=>Q) noE c.s:=by
 induction e with
 | mk p hl=>
  refine Cf.instE hx p fun d es n hc hne I gd r uu al=>?_
  have X:=c.X K
  have hcd:=K.has
  unfold hasDictIn at hcd
  obtain ⟨cd,hcd,hh⟩:=any_some hcd
  refine set_plain X I K.hsa ?_
  have ht:takerIn W.K W.C nm=some none:=by unfold takerIn; rw [K.attr a nm ha hn]; rfl
  refine osa_open (s:={ c.s with toks:=c.s.toks + 1 }) X I K.over ht fun b=>?_
  refine wpAny_bind (wpAny_pure (wpAny_bind (wpAny_bind (wpAny_loadPart I.at_ (wpAny_bind ((looks_clsIn (h:=c.h) X hcd).at ?_))))))
  rw [hh]
  refine wpAny_pure (a:=some d.d) (wpAny_bind (wpAny_pure (wpAny_bind ?_)))
  unfold nsSet
  refine wpAny_bind (wpAny_bind (wpAny_askSetting (wpAny_pure (wpAny_bind (wpAny_mkText (wpAny_bind (wpAny_loadPart gd ?_)))))))
  dsimp only
  have hf:=fit_str K.nodup hn
  have cc:(!(es.toArray).any (·.key.isStr nm)&&(es.toArray).any (·.refKey))=false:=by
   rw [← Array.any_toList,← Array.any_toList,(r.find hf).2.2,Bool.and_false]
  rw [aRefKeyMayBeTheName_at,cc]
  refine wpAny_updatePart gd ?_
  have gd':(c.h.update d.d (Obj.putName nm (PyData.keyHash W.w.params nm) (.str nm (c.s.toks + 1)) u)).get? d.d=some (dictOf (putL nm (PyData.keyHash W.w.params nm) (.str nm (c.s.toks + 1)) u es) (putN nm es n)):=by
   rw [← putName_dict]
   exact Heap.get?_update_self _ gd (by rw [putName_dict]; rfl)
  have r':=ARel.put (hs:=PyData.keyHash W.w.params nm) (t:=c.s.toks + 1) hf hn hy r
  have hkl:(kset _ a y).length≤100:=Nat.le_trans (kset_len a y _) hl
  refine wpAny_bind (wpAny_lookBehind gd' (pastItsLine_dict (by rw [List.size_toArray,All2.length r',sizeLine_eq]; exact Nat.le_trans hkl (by decide))) ?_)
  have G:ExtX d.own c.h (c.h.update d.d (Obj.putName nm (PyData.keyHash W.w.params nm) (.str nm (c.s.toks + 1)) u)):=fun b o hb e=>((Heap.SameBut.update ..).2 b fun q=>hb (q▸own_d d)).trans e
  exact wpAny_pure (Out.mk (a:=()) (c':=c.set (o:=.inst _) _ hc G (NRel.mk hne ((Heap.get?_update_other _ _ hne).trans I.at_) gd' (r'.stay (stay_set hc G)) hkl (kset_mem ha al))) trivial q later_set)
end
end Mini
end
section
namespace Mini
open PySem PySem.W PyProof.Rows PySem.SeqAt
section
variable {W:Wd}{c:Cf W}{A:Around}{Q:KV}{x y i m:MV}{v u w:Value}{E:Value→Shared→Prop}
theorem seqIndex_of {n j:Nat}{k i:Int}(h:(if k<0 then k + n else k)=i)(hi:i=j)(z:j<n):seqIndex? k n=some j:=by
 unfold seqIndex?
 rw [h,hi]
 rw [if_pos (by rw [Bool.and_eq_true,decide_eq_true_eq,decide_eq_true_eq]; exact ⟨Int.natCast_nonneg j,Int.ofNat_lt.mpr z⟩),Int.toNat_natCast]
theorem place_neg {n j:Nat}(z:j<n):(j:Int) - n<0:=Int.sub_neg_of_lt (Int.ofNat_lt.mpr z)
theorem place_seq {n j:Nat}{k:Int}(e:Place n k j)(l:n≤lenLine):seqIndex? k n=some j∧-2 ^ 63≤k∧k<2 ^ 63:=by
 have hl:(n:Int)<2 ^ 63:=Int.lt_of_le_of_lt (Int.ofNat_le.mpr l) (by decide)
 induction e with
 | @pos j z=>
  exact ⟨seqIndex_of (if_neg (Int.not_lt.mpr (Int.natCast_nonneg j))) rfl z,Int.le_trans (by decide) (Int.natCast_nonneg j),Int.lt_trans (Int.ofNat_lt.mpr z) hl⟩
 | @neg j z=>
  exact ⟨seqIndex_of (if_pos (place_neg z)) (Int.sub_add_cancel ..) z,by lia,Int.lt_trans (place_neg z) (by decide)⟩
theorem notPy {T:String}{id:String}{s:Shared}{v:Value}{Q:Bool→Shared→Prop}(hT:s.TypeIs v T)(slot:Slot T "__getitem__" id)(q:Q false s):wpAny W.M A (getitemInPython v) Q E s:=by
 unfold getitemInPython
 exact wpAny_bind (wpAny_specialOf hT slot.lookup (wpAny_pure q))
theorem getI_ok (K:WdOk W)(e:GetI c.hm x i y)(hx:c.V x v)(hi:c.V i u)(q:Q y c.hm):wpAny W.M A (getItem v u) (Out c Cf.V Q) noE c.s∧∀ P:Bool→Shared→Prop,P false c.s→wpAny W.M A (getitemInPython v) P noE c.s:=by
 induction e with
 | tup l e=>
  refine IsTup.elim hx fun a its n g r l'=>IsInt.elim hi fun t=>⟨?_,fun P=>notPy ⟨_,g,rfl⟩ F.slot_tuple_getitem⟩
  obtain ⟨w,hw,hr⟩:=r.get e
  obtain ⟨p1,p2,p3⟩:=place_seq l l'
  have hz:its.size=_:=Array.length_toList.symm.trans r.length
  exact P.getItem_tuple (n:=n) g p2 p3 (by rw [hz]; exact p1) (Array.getElem?_toList.symm.trans hw) (out_same hr.up q)
 | list p l e=>
  refine Cf.listE hx p fun d its n uu uu g r l' z=>IsInt.elim hi fun t=>⟨?_,fun P=>notPy ⟨_,g,rfl⟩ F.slot_list_getitem⟩
  obtain ⟨w,hw,hr⟩:=r.get e
  induction l with
  | @pos j l=>exact wpAny_getItem_list g.isList (Int.natCast_nonneg j) (Int.lt_of_le_of_lt (Int.ofNat_le.mpr (Nat.le_trans (Nat.le_of_lt l) l')) (by decide)) (by rw [Int.toNat_natCast]; exact Array.getElem?_toList.symm.trans hw) (out_same hr q)
  | @neg j l=>exact wpAny_getItem_list_neg g.isList (place_neg l) (by rw [z]; lia) (place_seq (.neg l) l').2.1 (by rw [z,Int.sub_add_cancel,Int.toNat_natCast]; exact Array.getElem?_toList.symm.trans hw) (out_same hr q)
 | idict p e=>
  refine Cf.dictE hx p fun d kvs hc uu g r l=>IsInt.elim hi fun t=>⟨?_,fun P=>notPy g.typeIs F.slot_dict_getitem⟩
  obtain ⟨w,hw,hr⟩:=(r.get fit_eq).1 _ e
  exact wpAny_getItem_of (intKind_is _ _ _ t) g.mapOf hw (out_same hr q)
 | sdict p e=>
  refine Cf.sdictE hx p fun d kvs hc uu g r l=>?_
  have hi:IsStr W _ u:=hi
  induction hi with
  | mk t hn=>
  obtain ⟨w,hw,hr⟩:=(r.get (fit_str K.nodup hn)).1 _ e
  exact ⟨wpAny_getItem_of (strKind_is _ _ _ t) g.mapOf hw (out_same hr q),fun P=>notPy g.typeIs F.slot_dict_getitem⟩
theorem setItem_listX {s:Shared}{l:Addr}{items:Array Value}{n j:Nat}{k:Int}{t:Tok}{v:Value}{Q:Unit→Shared→Prop}(hl:IsL s.heap l items n)(hk:k=(j:Int))(hn:j<items.size)(hfit:k<2 ^ 63)
  (hQ:Q () { s with heap:=s.heap.update l (Obj.mapSeq (·.setIfInBounds j v)) }):wpAny W.M A (setItem (.ref l) (.int k t) v) Q E s:=by
 unfold setItem
 have T:=hl.isList
 try with_reducible refine wpAny_holding ?_
 first | refine wpAny_bind (wpAny_pure ?_) | skip
 refine wpAny_bind (wpAny_sequenceKey T.typeIs (by decide) ?_)
 refine wpAny_bind (wpAny_callSpecial?_slot (name:=Str.ofString "__setitem__") T.typeIs slot_list_setitem
  (wpAny_call_entry slot_list_setitem T.typeIs entry_list_setitem ?_ (args_list_setitem _ _ _)))
 show wpAny _ _ (Builtin.List.listSubscript? (.int k t)>>=_) _ _ s
 refine wpAny_bind (wpAny_listSubscript_int (fitsIndex_of (hk▸Int.natCast_nonneg j) hfit) ?_)
 clear hfit
 subst hk
 have hx':items[j]?=some items[j]:=Array.getElem?_eq_getElem hn
 show wpAny _ _ ((seqItemAt l j>>=fun r=>pure (r.map (j,·)))>>=_) _ _ s
 refine wpAny_bind (wpAny_bind (wpAny_seqItemAt hl rfl (wpAny_pure ?_)))
 rw [hx']
 show wpAny _ _ (setSeqItemAt l j v>>=_) _ _ s
 refine wpAny_bind (wpAny_setSeqItemAt hl rfl ?_)
 first
  | exact wpAny_bind (wpAny_pure (wpAny_pure ⟨.none,rfl,wpAny_pure hQ⟩))
  | exact wpAny_pure ⟨.none,rfl,wpAny_pure hQ⟩
theorem dict_nodup {κ:Type} [DecidableEq κ]{knd:KeyKind W.prog W.w κ}{h:Heap}{a:Addr}{kvs:List (κ×Value)}(g:h.DictOf knd a kvs):(kvs.map (·.1)).Nodup:=by
 obtain ⟨_,_,_,_,_,_,_,_,n⟩:=g
 exact n
theorem ext_own {d:Cell}{h h':Heap}(he:d.d=d.a)(sb:Heap.SameBut d.a h h'):ExtX d.own h h':=fun b o hb e=>(sb.2 b fun q=>hb (q▸own_a d)).trans e
structure LUpd (c:Cf W)(d:Cell)(xs:List MV)(f:Array Value→Array Value):Prop where
 k:ExtX d.own c.h (c.h.update d.a (Obj.mapSeq f))
 r:ORel W c.ρ (c.h.update d.a (Obj.mapSeq f)) (.list xs) d
theorem listUpd {j n:Nat}{d:Cell}{its:Array Value}(hc:c.ρ[j]?=some d)(he:d.d=d.a)(g:IsL c.h d.a its n){xs:List MV}(f:Array Value→Array Value)(r:VRels W c.ρ c.h xs (f its).toList)(hl:xs.length≤lenLine):LUpd c d xs f:=
 have k:=ext_own he (Heap.SameBut.update ..)
 ⟨k,LRel.mk he (g.update f) (VRels.stay (stay_set hc k) r) hl⟩
theorem setI_ok (K:WdOk W){h':MHeap}{Q:MHeap→Prop}(e:SetI c.hm y x i h')(hx:c.V x v)(hi:c.V i u)(hy:c.V y w)(q:Q h'):wpAny W.M A (setItem v u w) (Out c RU fun uu=>Q) noE c.s:=by
 induction e with
 | @list k xs j p l=>
  refine Cf.listE hx p fun d its n hc he g r l' z=>IsInt.elim hi fun t=>?_
  have U:=listUpd hc he g (xs:=xs.set j y) (·.setIfInBounds j w) (by rw [Array.toList_setIfInBounds]; exact r.set hy j) (by rw [List.length_set]; exact l')
  exact setItem_listX g rfl (by rw [z]; exact l) (Int.lt_of_le_of_lt (Int.ofNat_le.mpr (Nat.le_trans (Nat.le_of_lt l) l')) (by decide)) (Out.mk (a:=()) (c':=c.set _ hc U.k U.r) trivial q later_set)
 | @idict k es kk p l=>
  refine Cf.dictE hx p fun d kvs hc he g r l'=>IsInt.elim hi fun t=>?_
  refine wpAny_setItem_pairs (intKind_is _ _ _ t) g (fun h' d' sb=>?_) (line_of (by rw [r.length]; exact l'))
  have k:=ext_own he sb
  exact Out.mk (a:=()) (c':=c.set (o:=.idict _) _ hc k (DRel.mk he d' ((KRel.set rfl fit_eq hy r (dict_nodup g)).stay (stay_set hc k)) (Nat.le_trans (kset_len ..) l))) trivial q later_set
 | @sdict k es kk p l=>
  refine Cf.sdictE hx p fun d kvs hc he g r l'=>?_
  have hi:IsStr W _ u:=hi
  induction hi with
  | mk t hn=>
  refine wpAny_setItem_pairs (strKind_is _ _ _ t) g (fun h' d' sb=>?_) (line_of (by rw [r.length]; exact l'))
  have k:=ext_own he sb
  exact Out.mk (a:=()) (c':=c.set (o:=.sdict _) _ hc k (DRel.mk he d' ((KRel.set hn (fit_str K.nodup hn) hy r (dict_nodup g)).stay (stay_set hc k)) (Nat.le_trans (kset_len ..) l))) trivial q later_set
end
end Mini
end
section
namespace Mini
open PySem PySem.W PyProof.Rows PySem.SeqAt PySem.MeetsSeq
section
variable {W:Wd}{c:Cf W}{A:Around}{Q:KV}{x y m:MV}{v u w:Value}{vs:List Value}{xs:List MV}{E:Value→Shared→Prop}
theorem ints_rel {ρ:Cells}{h:Heap}{is:List Int}{vs:List Value}(r:VRels W ρ h (is.map .int) vs):IntsAre vs is:=by
 induction is generalizing vs with
 | nil=>exact All2.nilE r .nil
 | cons i is ih=>exact All2.consE r fun v s hv hs=>IsInt.elim hv fun t=>.cons _ t (ih hs)
theorem rel_ints {ρ:Cells}{h:Heap}{is:List Int}{vs:List Value}(I:IntsAre vs is):VRels W ρ h (is.map .int) vs:=by
 induction I with
 | nil=>exact .nil
 | cons n t _ ih=>exact .cons (IsInt.mk t) ih
theorem eraseIdx_concat (l:List Value)(v:Value):(l++[v]).eraseIdx ((l++[v]).length - 1)=l:=by
 rw [List.length_append,List.length_singleton,Nat.add_sub_cancel,List.eraseIdx_append_of_length_le (Nat.le_refl _),Nat.sub_self]
 exact List.append_nil l
theorem popRel {ρ:Cells}{h:Heap}(r:VRels W ρ h (xs++[x]) vs):∃ us v,vs=us++[v]∧VRels W ρ h xs us∧VRel W ρ h x v:=by
 induction xs generalizing vs with
 | nil=>exact All2.consE r fun v s hv hs=>All2.nilE hs ⟨[],v,rfl,.nil,hv⟩
 | cons y xs ih=>
  refine All2.consE r fun v s hv hs=>?_
  obtain ⟨us,w,e,h1,h2⟩:=ih hs
  exact ⟨v::us,w,congrArg (v::·) e,.cons hv h1,h2⟩
theorem out_dict {j t:Nat}{d:Cell}{h':Heap}{es:List (Int×MV)}{kvs kvs':List (Int×Value)}(hc:c.ρ[j]?=some d)(he:d.d=d.a)(g:c.h.DictOf (intKind W.prog W.w) d.a kvs)(d':h'.DictOf (intKind W.prog W.w) d.a kvs')(sb:Heap.SameBut d.a c.h h')
  (r:(kvs.map (·.1)).Nodup→KRel W c.ρ c.h Eq es kvs')(l:es.length≤lenLine)(hm:c.V m v)(q:Q m (c.hm.set j (.idict es))):Out c Cf.V Q v { c.s with heap:=h',toks:=t }:=by
 have k:=ext_own he sb
 exact out_set (o:=.idict es) hc k (DRel.mk he d' ((r (dict_nodup g)).stay (stay_set hc k)) l) (hm.stay (stay_set hc k)) q
theorem append_ok {i:Nat}(p:c.hm.obj i=some (.list xs))(l:xs.length<lenLine)(q:Q .none (c.hm.set i (.list (xs++[x]))))(hv:c.V (.ref i) v)(hx:c.V x u):wpAny W.M A (call (.builtin "list.append") [v,u]) (Out c Cf.V Q) noE c.s:=by
 refine Cf.listE hv p fun d its n hc he g r l' z=>?_
 have U:=listUpd hc he g (xs:=xs++[x]) (·.push u) (by rw [Array.toList_push]; exact (All2.one hx).append r) (by rw [List.length_append]; exact l)
 exact call_meets F.slot_list_append ⟨_,g,rfl⟩ F.entry_list_append (F.args_list_append_2 _ _) (list_append d.a its n u (line_of (by rw [z]; exact l'))) ⟨g,out_set (m:=.none) hc U.k U.r rfl q⟩
theorem extend_ok {i j:Nat}{ys:List MV}(p:c.hm.obj i=some (.list xs))(p':c.hm.obj j=some (.list ys))(l:xs.length + ys.length≤lenLine)(q:Q .none (c.hm.set i (.list (xs++ys))))(hv:c.V (.ref i) v)(hx:c.V (.ref j) u) :
  wpAny W.M A (call (.builtin "list.extend") [v,u]) (Out c Cf.V Q) noE c.s:=by
 refine Cf.listE hv p fun d its n hc he g r l' z=>Cf.listE hx p' fun d2 its2 n2 uu uu g2 r2 l2 z2=>?_
 have U:=listUpd hc he g (xs:=xs++ys) (·++its2) (by rw [Array.toList_append]; exact r2.append r) (by rw [List.length_append]; exact l)
 have hz:its.size + its2.size≤sizeLine:=line_of (by rw [z,z2]; exact l)
 exact call_meets F.slot_list_extend ⟨_,g,rfl⟩ F.entry_list_extend (F.args_list_extend_2 _ _) (AutoSeq1.list_extend_list_list_0 d.a its n d2.a its2 n2 (by
  have:Builtin.List.listTooLong (its.size + its2.size)=false:=by unfold Builtin.List.listTooLong; simpa using hz
  rw [this]; simp) (by lia) (by lia)) ⟨g,g2,out_set (m:=.none) hc U.k U.r rfl q⟩
theorem popL_ok {i:Nat}(p:c.hm.obj i=some (.list (xs++[x])))(q:Q x (c.hm.set i (.list xs)))(hv:c.V (.ref i) v):wpAny W.M A (call (.builtin "list.pop") [v]) (Out c Cf.V Q) noE c.s:=by
 refine Cf.listE hv p fun d its n hc he g r l z=>?_
 obtain ⟨us,w,e,r1,r2⟩:=popRel r
 have hs:its.size=(us++[w]).length:=Array.length_toList.symm.trans (congrArg _ e)
 have U:=listUpd hc he g (xs:=xs) (fun ys=>ys.eraseIdxIfInBounds (its.size - 1)) (by rw [Array.toList_eraseIdxIfInBounds,hs,e,eraseIdx_concat]; exact r1) (Nat.le_trans (by rw [List.length_append]; exact Nat.le_add_right ..) l)
 exact call_meets F.slot_list_pop ⟨_,g,rfl⟩ F.entry_list_pop (F.args_list_pop_1 _) (list_pop_last d.a its n w (by
  rw [← Array.getElem?_toList,e,hs,List.length_append,List.length_singleton,Nat.add_sub_cancel]; exact List.getElem?_concat_length) (line_of (by rw [z]; exact l))) ⟨g,out_set hc U.k U.r (r2.stay (stay_set hc U.k)) q⟩
theorem get_ok (K:WdOk W){i:Nat}{es:List (Int×MV)}{k:Int}(p:c.hm.obj i=some (.idict es))(q:Q ((kget es k).getD .none) c.hm)(hv:c.V (.ref i) v)(hx:c.V (.int k) u):wpAny W.M A (call (.builtin "dict.get") [v,u]) (Out c Cf.V Q) noE c.s:=by
 refine Cf.dictE hv p fun d kvs hc he g r l=>IsInt.elim hx fun t=>?_
 have gg:=r.get (fit_eq (k:=k))
 refine call_meetsIn F.slot_dict_get g.typeIs F.entry_dict_get (F.args_dict_get_2 _ _) (meets_dict_get (intKind W.prog W.w) d.a (intKind_is _ _ k t) (Cf.notMods K hc)) ⟨_,g.mapOf,?_⟩
 cases e:kget es k with
 | none=>rw [gg.2 e]; rw [e] at q; exact out_same (m:=.none) rfl q
 | some x=>
  obtain ⟨w,hw,hr⟩:=gg.1 x e
  rw [hw]; rw [e] at q
  exact out_same hr q
theorem get2_ok (K:WdOk W){i:Nat}{es:List (Int×MV)}{k:Int}(p:c.hm.obj i=some (.idict es))(q:Q ((kget es k).getD x) c.hm)(hv:c.V (.ref i) v)(hx:c.V (.int k) u)(hw:c.V x w):wpAny W.M A (call (.builtin "dict.get") [v,u,w]) (Out c Cf.V Q) noE c.s:=by
 refine Cf.dictE hv p fun d kvs hc he g r l=>IsInt.elim hx fun t=>?_
 have gg:=r.get (fit_eq (k:=k))
 refine call_meetsIn F.slot_dict_get g.typeIs F.entry_dict_get (F.args_dict_get_3 _ _ _) (meets_dict_get_default (intKind W.prog W.w) d.a (intKind_is _ _ k t) (Cf.notMods K hc) w) ⟨_,g.mapOf,?_⟩
 cases e:kget es k with
 | none=>rw [gg.2 e]; rw [e] at q; exact out_same hw q
 | some x=>
  obtain ⟨w,hw,hr⟩:=gg.1 x e
  rw [hw]; rw [e] at q
  exact out_same hr q
theorem stored_nodup {kvs:List (Int×Value)}{k:Int}{x:Value}(hn:(kvs.map (·.1)).Nodup):((stored kvs k x).map (·.1)).Nodup:=by
 unfold stored
 by_cases h:(kvs.any fun kv=>decide (kv.1=k))=true
 ·rw [if_pos h,keys_map_store]; exact hn
 ·rw [if_neg h,List.map_append,List.nodup_append]
  refine ⟨hn,List.nodup_cons.mpr ⟨List.not_mem_nil,List.nodup_nil⟩,fun a ha b hb e=>h ?_⟩
  rw [List.mem_singleton.mp hb] at e
  obtain ⟨kv,hkv,he⟩:=List.mem_map.mp ha
  exact List.any_eq_true.mpr ⟨kv,hkv,decide_eq_true (he.trans e)⟩
theorem KRel.merge {ρ:Cells}{h:Heap}{es fs:List (Int×MV)}{kvs more:List (Int×Value)}(r:KRel W ρ h Eq es kvs)(r':KRel W ρ h Eq fs more)(nd:(kvs.map (·.1)).Nodup):KRel W ρ h Eq (fs.foldl (fun a e=>kset a e.1 e.2) es) (merged kvs more):=by
 induction r' generalizing es kvs with
 | nil=>exact r
 | @cons a b _ _ q t ih=>
  obtain ⟨b1,b2⟩:=b
  obtain rfl:a.1=b1:=q.1
  exact ih (KRel.set rfl fit_eq q.2 r nd) (stored_nodup nd)
theorem merge_len {fs es:List (Int×MV)}:(fs.foldl (fun a e=>kset a e.1 e.2) es).length≤es.length + fs.length:=by
 induction fs generalizing es with
 | nil=>exact Nat.le_refl _
 | cons f fs ih=>exact Nat.le_trans ih (Nat.le_trans (Nat.add_le_add_right (kset_len ..) _) (by rw [List.length_cons]; lia))
theorem upd_ok (K:WdOk W){i j:Nat}{es fs:List (Int×MV)}(p:c.hm.obj i=some (.idict es))(p':c.hm.obj j=some (.idict fs))(n:i≠j)(l:es.length + fs.length≤lenLine)(q:Q .none (c.hm.set i (.idict (fs.foldl (fun a e=>kset a e.1 e.2) es))))(hv:c.V (.ref i) v)(hx:c.V (.ref j) u):wpAny W.M A (call (.builtin "dict.update") [v,u]) (Out c Cf.V Q) noE c.s:=by
 refine Cf.dictE hv p fun d kvs hc he g r l1=>Cf.dictE hx p' fun d2 kvs2 hc2 he2 g2 r2 l2=>?_
 refine call_meetsIn F.slot_dict_update g.typeIs F.entry_dict_update (F.args_dict_update_2 _ _) (meets_dict_update (intKind W.prog W.w) d.a d2.a (fun q=>nodup_own c.sim.nodup hc hc2 n _ (own_a d) (q▸own_a d2)) (Cf.notMods K hc2)) ⟨_,_,g,g2,line_of (by rw [r.length,r2.length]; exact l),fun h' d' uu sb=>?_⟩
 exact out_dict (t:=c.s.toks) (m:=.none) hc he g d' sb (fun nd=>KRel.merge r r2 nd) (Nat.le_trans merge_len l) rfl q
theorem popD_ok {i:Nat}{es:List (Int×MV)}{k:Int}{rest:List Value}(p:c.hm.obj i=some (.idict es))(e:kget es k=some x)(hr:rest.length≤1)(q:Q x (c.hm.set i (.idict (kdel es k))))(hv:c.V (.ref i) v)(hx:c.V (.int k) u) :
  wpAny W.M A (call (.builtin "dict.pop") (v::u::rest)) (Out c Cf.V Q) noE c.s:=by
 refine Cf.dictE hv p fun d kvs hc he g r l=>IsInt.elim hx fun t=>?_
 obtain ⟨w,hw,hrel⟩:=(r.get (fit_eq (k:=k))).1 x e
 have hr':rest=[]∨∃ d,rest=[d]:=by
  rcases rest with _ | ⟨d,_ | ⟨e,r⟩⟩
  ·exact .inl rfl
  ·exact .inr ⟨d,rfl⟩
  ·exact absurd hr (Nat.not_le.mpr (Nat.succ_lt_succ (Nat.succ_pos _)))
 refine call_meetsIn F.slot_dict_pop g.typeIs F.entry_dict_pop (by rcases hr' with e | ⟨d,e⟩ <;> rw [e]; exact F.args_dict_pop_2 _ _; exact F.args_dict_pop_3 _ _ _)
  (meets_dict_pop_there (intKind W.prog W.w) d.a (intKind_is _ _ k t) rest hr' rfl) ⟨_,_,g,line_of (by rw [r.length]; exact l),hw,fun h' d' sb=>?_⟩
 exact out_dict hc he g d' sb (fun n=>KRel.del fit_eq r n) (Nat.le_trans (kdel_len ..) l) hrel q
theorem popN_ok (K:WdOk W){i:Nat}{es:List (Int×MV)}{k:Int}(p:c.hm.obj i=some (.idict es))(e:kget es k=none)(q:Q x c.hm)(hv:c.V (.ref i) v)(hx:c.V (.int k) u)(hw:c.V x w):wpAny W.M A (call (.builtin "dict.pop") [v,u,w]) (Out c Cf.V Q) noE c.s:=
 Cf.dictE hv p fun d kvs hc he g r l=>IsInt.elim hx fun t=>
  call_meetsIn F.slot_dict_pop g.typeIs F.entry_dict_pop (F.args_dict_pop_3 _ _ _) (meets_dict_pop_default (intKind W.prog W.w) d.a (intKind_is _ _ k t) (Cf.notMods K hc) rfl w) ⟨_,g,(r.get (fit_eq (k:=k))).2 e,out_same hw q⟩
theorem def_ok (K:WdOk W){i:Nat}{es:List (Int×MV)}{k:Int}(p:c.hm.obj i=some (.idict es))(hs:∀ y,kget es k=some y→Q y c.hm)(hn:kget es k=none→es.length<lenLine∧Q x (c.hm.set i (.idict (kset es k x))))(hv:c.V (.ref i) v)(hx:c.V (.int k) u)(hw:c.V x w) :
  wpAny W.M A (call (.builtin "dict.setdefault") [v,u,w]) (Out c Cf.V Q) noE c.s:=by
 refine Cf.dictE hv p fun d kvs hc he g r l=>IsInt.elim hx fun t=>?_
 have gg:=r.get (fit_eq (k:=k))
 refine call_meetsIn F.slot_dict_setdefault g.typeIs F.entry_dict_setdefault (F.args_dict_setdefault_3 _ _ _)
  (kt_meets_setdefault (intKind W.prog W.w) d.a (intKind_is _ _ k t) (Cf.notMods K hc) w) ⟨_,g,line_of (by rw [r.length]; exact l),fun w' hw'=>?_,fun e h' d' sb=>?_⟩
 ·cases e:kget es k with
  | none=>rw [gg.2 e] at hw'; exact ns hw'
  | some y=>
   obtain ⟨w2,hw2,hr⟩:=gg.1 y e
   rw [hw'] at hw2
   exact out_same (Option.some.inj hw2▸hr) (hs y e)
 ·have e2:kget es k=none:=by
   cases e2:kget es k with
   | none=>rfl
   | some y=>obtain ⟨w2,hw2,_⟩:=gg.1 y e2; rw [e] at hw2; exact ns hw2
  exact out_dict hc he g d' sb (fun n=>KRel.set rfl fit_eq hw r n) (Nat.le_trans (kset_len ..) (hn e2).1) hw (hn e2).2
noncomputable def bVal:MB→Value
 | .len=>.builtin "len" | .abs=>.builtin "abs" | .list=>.type "list" | .tuple=>.type "tuple" | .range1=>.type "range" | .range2=>.type "range" | .int=>.type "int" | .sum=>.builtin "sum"
theorem listCopy {a:Addr}{T:String}{its:Array Value}{n:Nat}{o:Obj}(hT:T="list"∨T="tuple")(ho:c.h.get? a=some o)(hc:o.cls = .type T)(hd:o.data = .seq its n)(r:VRels W c.ρ c.h xs its.toList)(l:xs.length≤lenLine)(q:Q (.ref c.hm.next) (c.hm.new (.list xs))) :
  wpAny W.M A (call (.type "list") [.ref a]) (Out c Cf.V Q) noE c.s:=
 call_list_seq a hT ho hc hd (fun h' c' hk hD=>out_list' (t:=c.s.toks) hk (Nat.le_refl _) hD r l q) (line_of (by rw [← Array.length_toList,r.length]; exact l))
theorem tup_up {h:Heap}{ρ:Cells}{vs:List MV}{us:List Value}(r:All2 (FRel W ρ h) vs us):VRels W ρ h vs us:=r.imp fun uu uu=>FRel.up
theorem flat_rel {ρ:Cells}{h:Heap}(f:xs.all MV.flat=true)(r:VRels W ρ h xs vs):All2 (FRel W ρ h) xs vs:=by
 induction r with
 | nil=>exact .nil
 | @cons x v _ _ q t ih=>
  rw [List.all_cons,Bool.and_eq_true] at f
  refine .cons ?_ (ih f.2)
  rcases x with _ | _ | _ | _ | vs | _ | _ | _ | _ <;> first | exact q | exact ff f.1
end
end Mini
end
section
namespace Mini
open PySem PySem.W PyProof.Rows PySem.SeqAt PySem.MeetsSeq
section
variable {W:Wd}{c:Cf W}{A:Around}{Q:KV}{x y m:MV}{v u w:Value}{vs:List Value}{xs:List MV}
@[elab_as_elim] theorem one {P:List Value→Prop}(r:c.Vs [x] vs)(k:∀ v,c.V x v→P [v]):P vs:=All2.consE r fun v s hv hs=>All2.nilE hs (k v hv)
@[elab_as_elim] theorem two {P:List Value→Prop}(r:c.Vs [x,y] vs)(k:∀ v u,c.V x v→c.V y u→P [v,u]):P vs:=All2.consE r fun v s hv hs=>one hs fun u hu=>k v u hv hu
theorem abs_eq (i:Int):(if i<0 then -i else i)=(i.natAbs:Int):=by
 by_cases h:i<0
 ·rw [if_pos h,Int.ofNat_natAbs_of_nonpos (Int.le_of_lt h)]
 ·rw [if_neg h,Int.natAbs_of_nonneg (Int.not_lt.mp h)]
theorem len63 {n:Nat}(e:n≤lenLine):(n:Int)<2 ^ 63:=Int.lt_of_le_of_lt (Int.ofNat_le.mpr e) (by decide)
theorem sum_ok {i:Nat}{is:List Int}(hh:A.handled=none)(p:c.hm.obj i=some (.list (is.map .int)))(q:Q (.int is.sum) c.hm)(hv:c.V (.ref i) v):wpAny W.M A (call (.builtin "sum") [v]) (Out c Cf.V Q) noE c.s:=by
 refine Cf.listE hv p fun d its k hc uu g r uu z=>?_
 have I:=ints_rel r
 obtain ⟨zs,hzs⟩:=I.allInts.items
 rw [Array.toArray_toList] at hzs
 have hns:is=zs.toList.map (·.1):=by rw [← I.numsOf,hzs,nums_intItems]
 refine sum_intListG hh (hzs▸g.isList) fun h' tk t' hk=>?_
 rw [preSum_eq,List.take_of_length_le (Nat.le_of_eq (by rw [List.length_map,Array.length_toList])),← hns]
 exact out_grow (m:=.int _) hk (IsInt.mk _) q
theorem isbool_ok {b t:Bool}(e:IsB x b)(hv:c.V x v)(q:fin t Q (.bool b) c.hm):wpAny W.M A (call (.builtin "isinstance") [v,.type "bool"]) (Out c Cf.V (fin t Q)) noE c.s:=by
 induction e with
 | bool b=>rw [show v = .bool b from hv]; exact PySem.IsiPair.bool_bool (out_same (t:=c.s.toks) (m:=.bool true) rfl q)
 | int i=>exact IsInt.elim hv fun t=>PySem.IsiPair.int_bool (out_same (m:=.bool false) rfl q)
theorem bui_ok (K:WdOk W){b:MB}{h':MHeap}(e:Bui c.hm b xs m h')(q:Q m h')(hh:A.handled=none)(hx:c.Vs xs vs):wpAny W.M A (call (bVal b) vs) (Out c Cf.V Q) noE c.s:=by
 induction e with
 | lenT ys=>
  refine one hx fun v hv=>IsTup.elim hv fun a its n g r l=>?_
  have hz:its.size=_:=Array.length_toList.symm.trans r.length
  exact P.len_tuple (n:=n) g (Int.not_le.mpr (hz▸len63 l)) (by rw [hz]; exact out_same (m:=.int _) (IsInt.mk _) q)
 | lenL p=>exact one hx fun v hv=>Cf.listE hv p fun d its n uu uu g r l z=>Calls.call_len_list g.isList (z▸len63 l) (by rw [z]; exact out_same (m:=.int _) (IsInt.mk _) q)
 | abs i=>
  refine one hx fun v hv=>IsInt.elim hv fun t=>call_abs_int fun u tk=>?_
  rw [abs_eq]
  exact out_same (m:=.int _) (IsInt.mk _) q
 | listT ys=>exact one hx fun v hv=>IsTup.elim hv fun a its n g r l=>listCopy (.inr rfl) g rfl rfl (tup_up r) l q
 | listL p=>exact one hx fun v hv=>Cf.listE hv p fun d its n uu uu g r l z=>listCopy (.inl rfl) g rfl rfl r l q
 | tupL p f=>
  refine one hx fun v hv=>Cf.listE hv p fun d its n uu uu g r l z=>call_tuple_list g.isList (fun h' hk=>?_) (line_of (z▸l))
  have G:Ext c.h (h'.push { cls:=.type "tuple",data:=.seq its }):=Ext.trans hk (.push _ _)
  exact out_grow (t:=c.s.toks) (m:=.tup _) G (IsTup.mk (Heap.get?_push_size _ rfl) (flat_rel f (VRels.stay G.stay r)) l) q
 | int a=>exact one hx fun v hv=>IsInt.elim hv fun t=>call_int_int (out_same (t:=c.s.toks) (m:=.int _) (IsInt.mk _) q)
 | sum p l mm=>exact one hx fun v hv=>sum_ok hh p q hv
 | range1 l=>exact one hx fun v hv=>IsInt.elim hv fun t=>call_range_1 (out_grow (m:=.rng 0 _) (.push _ _) (IsRng.mk (IsRange.new ..) (by unfold small intLine; decide) l) q)
 | range2 l l'=>exact two hx fun v u hv hu=>IsInt.elim hv fun t=>IsInt.elim hu fun t'=>call_range_2 (out_grow (m:=.rng _ _) (.push _ _) (IsRng.mk (IsRange.new ..) l l') q)
theorem clamp_neg {n:Nat}{k:Int}(h:¬ 0≤k):∃ j:Nat,1≤j∧k = -(j:Int)∧(n + k).toNat=n - j:=by
 obtain ⟨j,rfl⟩:=Int.exists_eq_neg_ofNat (Int.le_of_lt (Int.not_le.mp h))
 exact ⟨j,Nat.pos_of_ne_zero fun z=>h (by rw [z]; decide),rfl,Int.toNat_sub n j⟩
theorem clamp_take (items:Array Value)(k:Int):(slicePick items none (some k) none).toList=items.toList.take (clamp items.size k):=by
 unfold clamp
 by_cases h0:0≤k
 ·rw [if_pos h0]
  obtain ⟨j,rfl⟩:=Int.eq_ofNat_of_zero_le h0
  rw [slicePick_upto',Int.toNat_natCast]
  rcases Nat.le_total j items.size with z | z
  ·rw [Nat.min_eq_left z]
  ·rw [Nat.min_eq_right z,List.take_of_length_le (show items.toList.length≤j from z),List.take_of_length_le (show items.toList.length≤items.size from Nat.le_refl _)]
 ·rw [if_neg h0]
  obtain ⟨j,h1,h2,h3⟩:=clamp_neg (n:=items.size) h0
  rw [h3,h2,slicePick_butLast _ _ h1]
theorem clamp_drop (items:Array Value)(k:Int):(slicePick items (some k) none none).toList=items.toList.drop (clamp items.size k):=by
 unfold clamp
 by_cases h0:0≤k
 ·rw [if_pos h0]
  obtain ⟨j,rfl⟩:=Int.eq_ofNat_of_zero_le h0
  rw [slicePick_from',Int.toNat_natCast]
  rcases Nat.le_total j items.size with z | z
  ·rw [Nat.min_eq_left z]
  ·rw [Nat.min_eq_right z,List.drop_eq_nil_of_le (show items.toList.length≤j from z),List.drop_eq_nil_of_le (show items.toList.length≤items.size from Nat.le_refl _)]
 ·rw [if_neg h0]
  obtain ⟨j,h1,h2,h3⟩:=clamp_neg (n:=items.size) h0
  rw [h3,h2,slicePick_last _ _ h1]
end
end Mini
end
section
namespace Mini
open PySem PySem.W PyProof.Rows PySem.SeqAt
structure Ck where
 scope:Scope
 vs:List (Str×Nat)
structure Gx where
 env:Env
 vs:List (Str×Nat)
 A:Around
noncomputable def Gx.own (G:Gx):List Addr:=G.env.locals::G.env.cells.filterMap fun p=>G.env.cells.lookup p.1
noncomputable def Gx.mine (G:Gx):List Addr:=G.env.locals::G.env.cells.filterMap fun p=>if G.env.kindOf p.1==some .cell then G.env.cells.lookup p.1 else none
inductive Stored (G:Gx)(m cm:Str→Option Value)(x:Str)(u:Value):Prop
 | loc (k:G.env.kindOf x=some .local)(e:m x=some u)
 | cell (k:G.env.kindOf x=some .cell∨G.env.kindOf x=some .free){a:Addr}(l:G.env.cells.lookup x=some a)(e:cm x=some u)
structure GOk (W:Wd)(k:Ck)(d:Nat)(G:Gx):Prop where
 scope:G.env.scope=k.scope
 vs:G.vs=k.vs
 fn:G.env.scope.kind = .function
 globals:G.env.globals=mainGlobals
 builtins:G.env.builtins=builtinsNs
 room:Room G.A (d + 1)
 apart:∀ n c,G.env.cells.lookup n=some c→c≠G.env.locals
 apartC:∀ n n' c,G.env.cells.lookup n=some c→G.env.cells.lookup n'=some c→n=n'
 place:∀ x i,G.vs.lookup x=some i→G.env.kindOf x=some .cell∨G.env.kindOf x=some .free→(G.env.cells.lookup x).isSome=true
 inj:∀ x y i,G.vs.lookup x=some i→G.vs.lookup y=some i→x=y
 base:∀ a∈G.mine,Above W.B a
inductive HasV (W:Wd)(G:Gx)(ρ:Cells)(h:Heap)(m cm:Str→Option Value)(x:Str)(v:MV):Prop
 | mk {u:Value}(r:VRel W ρ h v u)(s:Stored G m cm x u)
inductive Store (W:Wd)(G:Gx)(vars:Vars)(ρ:Cells)(h:Heap):Prop
 | mk {m cm:Str→Option Value}(l:h.Ns G.env.locals m)(c:∀ n c,G.env.cells.lookup n=some c→h.IsCell c (cm n))(v:∀ x i v,G.vs.lookup x=some i→vars i=some v→HasV W G ρ h m cm x v)
inductive Stk {W:Wd}(A:Around)(c:Cf W):Prop
 | mk {l:List Env}(e:A.frames=some l)(f:c.F=l.filterMap (·.frame))(u:c.h.FunFrames W.B l)(o:∀ a∈c.F,Aside W.B c.ρ c.h a):Stk A c
structure Fr {W:Wd}(G:Gx)(vars:Vars)(c:Cf W):Prop where
 store:Store W G vars c.ρ c.h
 out:∀ a∈G.own,a∉owned c.ρ
 stk:Stk G.A c
section
variable {W:Wd}{G:Gx}{vars:Vars}{c c':Cf W}{X:List Addr}{h h':Heap}{ρ ρ':Cells}
theorem Gx.own_cell {n:Str}{a:Addr}(e:G.env.cells.lookup n=some a):a∈G.own:=List.mem_cons_of_mem _ (List.mem_filterMap.mpr ⟨(n,a),mem_of_look e,e⟩)
theorem ns_keep {a:Addr}{m:Str→Option Value}(n:h.Ns a m)(k:∀ o,h.get? a=some o→∃ sl,h'.get? a=some { o with slots:=sl }):h'.Ns a m:=by
 obtain ⟨o,es,ep,g,r⟩:=n
 obtain ⟨sl,g'⟩:=k _ g
 exact ⟨_,es,ep,g',r⟩
theorem same_slots {a:Addr}(k:∀ o,h.get? a=some o→h'.get? a=some o)(o:Obj)(e:h.get? a=some o):∃ sl,h'.get? a=some { o with slots:=sl }:=⟨o.slots,k o e⟩
theorem ns_lives {a:Addr}{m:Str→Option Value}(n:h.Ns a m):Lives h a:=by
 obtain ⟨o,es,ep,g,e,r⟩:=n
 exact .mk g (nf_d (by rw [e]; rfl))
theorem cell_lives {a:Addr}{v:Option Value}(n:h.IsCell a v):Lives h a:=by
 obtain ⟨o,g,e⟩:=n
 exact .mk g (nf_d (by rw [e]; rfl))
theorem cell_keep {a:Addr}{v:Option Value}(n:h.IsCell a v)(k:∀ o,h.get? a=some o→∃ sl,h'.get? a=some { o with slots:=sl }):h'.IsCell a v:=by
 obtain ⟨o,g,r⟩:=n
 obtain ⟨sl,g'⟩:=k _ g
 exact ⟨_,g',r⟩
theorem HasV.stay {m cm:Str→Option Value}{x:Str}{v:MV}(r:HasV W G ρ h m cm x v)(st:Stay ρ h ρ' h'):HasV W G ρ' h' m cm x v:=by
 induction r with | mk r s=>exact .mk (r.stay st) s
theorem Store.keep (S:Store W G vars ρ h)(st:Stay ρ h ρ' h')(k:∀ a∈G.own,∀ o,h.get? a=some o→∃ sl,h'.get? a=some { o with slots:=sl }):Store W G vars ρ' h':=by
 induction S with
 | mk l cc v=>exact .mk (ns_keep l (k _ (.head _))) (fun n a e=>cell_keep (cc n a e) (k _ (Gx.own_cell e))) fun x i w e1 e2=>(v x i w e1 e2).stay st
theorem Store.lives (S:Store W G vars ρ h)(a:Addr)(ha:a∈G.own):Lives h a:=by
 induction S with
 | mk l cc v=>
  rcases List.mem_cons.mp ha with e | e
  ·rw [e]; exact ns_lives l
  ·obtain ⟨p,_,e⟩:=List.mem_filterMap.mp e; exact cell_lives (cc _ _ e)
theorem ff_mono {B:Heap}{l:List Env}(u:h.FunFrames B l)(k:∀ a∈l.filterMap (·.frame),∀ o,h.get? a=some o→(∀ vs,o.data≠.fields vs)→∃ o',h'.get? a=some o'∧∀ vs,o'.data≠.fields vs):h'.FunFrames B l:=by
 induction l with
 | nil=>exact trivial
 | cons e l ih=>
  obtain ⟨hk,⟨L,o,hf,hn,ho,hd⟩,r⟩:=u
  have z:(e::l).filterMap (·.frame)=L::l.filterMap (·.frame):=by rw [List.filterMap_cons,hf]
  rw [z] at k
  obtain ⟨o',g,d⟩:=k L (.head _) o ho hd
  exact ⟨hk,⟨L,o',hf,hn,g,d⟩,ih r fun a ha=>k a (.tail _ ha)⟩
theorem Stk.laterX {A:Around}(S:Stk A c)(L:Later X c c')(hF:∀ a∈c.F,a∉X):Stk A c':=by
 induction S with
 | mk e f u o=>
  exact .mk e (L.f.trans f) (ff_mono u fun a ha x g d=>let ⟨sl,g'⟩:=L.slot a x g (o a (f▸ha)).out (hF a (f▸ha)); ⟨_,g',d⟩) fun a ha=>by
   rw [L.f] at ha
   exact (o a ha).later L.toLaterR (hF a ha)
theorem Stk.later {A:Around}(S:Stk A c)(L:Later [] c c'):Stk A c':=S.laterX L fun uu uu=>List.not_mem_nil
theorem Stk.to {A A':Around}(S:Stk A c)(e:A'.frames=A.frames):Stk A' c:=by
 induction S with | mk e' f u o=>exact .mk (e.trans e') f u o
theorem Fr.laterX (O:Fr G vars c)(L:Later X c c')(hX:∀ a∈G.own,a∉X)(hF:∀ a∈c.F,a∉X):Fr G vars c':=
 ⟨O.store.keep L.stay fun a ha o e=>L.slot a o e (O.out a ha) (hX a ha),fun a ha=>not_owned (O.store.lives a ha) (O.out a ha) L.toLaterR,O.stk.laterX L hF⟩
theorem Fr.later (O:Fr G vars c)(L:Later [] c c'):Fr G vars c':=O.laterX L (fun uu uu=>List.not_mem_nil) fun uu uu=>List.not_mem_nil
end
structure Off {W:Wd}(c₁ c:Cf W)(a:Addr):Prop where
 out:a∉owned c.ρ
 new:Above c₁.h a
inductive Exc {W:Wd}(c₀ c:Cf W)(e:Addr):Option Value→Prop
 | raw {o:Obj}{vs:Array Value}(g:c.h.get? e=some o)(cl:o.cls = .ref W.LF)(d:o.data = .fields vs)(h1:vs[1]?=some .none)(off:Off c₀ c e):Exc c₀ c e none
 | at {o oT:Obj}{vs ts:Array Value}{T:Addr}{fl:Value}(g:c.h.get? e=some o)(cl:o.cls = .ref W.LF)(d:o.data = .fields vs)(h1:vs[1]?=some (.ref T))(off:Off c₀ c e)(ne:T≠e)(gT:c.h.get? T=some oT)(cT:oT.cls = .type "traceback")(dT:oT.data = .fields ts)(h3:ts[3]?=some fl)(offT:Off c₀ c T):Exc c₀ c e (some fl)
inductive Flew {W:Wd}(c₀:Cf W)(Q:HP):Value→Shared→Prop
 | mk {c:Cf W}{e:Addr}(l:Later [] c₀ c)(q:Q c.hm)(x:Exc c₀ c e (some .none)):Flew c₀ Q (.ref e) c.s
noncomputable def CallOk (W:Wd)(d:Nat)(call:Nat→List MV→PT MV):Prop:=
 ∀ (f:Nat)(A:Around)(xs:List MV)(vs:List Value)(Q:KV)(c:Cf W),A.handled=none→A.depth + 4 * d + 2≤900→A.units + 40 * d + 20≤9000→Stk A c→c.Vs xs vs→call f xs Q c.hm →
  codeAny W.M A (.call (.ref (W.faddr f)) ⟨vs,[]⟩) (fun r s'=>match r with | .ok (.ret v)=>Out c Cf.V Q v s' | _=>False) c.s
noncomputable def TryOk (W:Wd)(d:Nat)(tryc:Nat→List MV→PT (Option MV)):Prop:=
 ∀ (f:Nat)(A:Around)(xs:List MV)(vs:List Value)(Q:Option MV→MHeap→Prop)(c:Cf W),A.handled=none→A.depth + 4 * d + 2≤900→A.units + 40 * d + 20≤9000→Stk A c→c.Vs xs vs→tryc f xs Q c.hm →
  codeAny W.M A (.call (.ref (W.faddr f)) ⟨vs,[]⟩) (fun r s'=>match r with | .ok (.ret v)=>Out c Cf.V (fun m=>Q (some m)) v s' | .ok _=>False | .error e=>Flew c (Q none) e s') c.s
inductive MadeX {W:Wd}(c:Cf W):Value→Shared→Prop
 | mk {c':Cf W}{e:Addr}(l:Later [] c c')(hm:c'.hm=c.hm)(x:Exc c c' e none):MadeX c (.ref e) c'.s
noncomputable def MakeOk (W:Wd):Prop:=∀ (A:Around)(c:Cf W)(x:Str)(t:Tok),A.handled=none→A.depth≤896→A.units≤8960→x.length≤100→wpAny W.M A (call (.ref W.LF) [.str x t]) (MadeX c) noE c.s
structure Lx (W:Wd) where
 d:Nat
 call:Nat→List MV→PT MV
 tryc:Nat→List MV→PT (Option MV)
 K:WdOk W
 ok:CallOk W d call
 tok:TryOk W d tryc
 made:MakeOk W
noncomputable abbrev Lx.lg {W:Wd}(X:Lx W):Lg:=⟨W.P,W.script,X.call,X.tryc⟩
structure Pt (W:Wd)(k:Ck)(d:Nat) where
 G:Gx
 vars:Vars
 c:Cf W
 g:GOk W k d G
 O:Fr G vars c
noncomputable def Pt.to {W:Wd}{k:Ck}{d:Nat}(p:Pt W k d){c':Cf W}(L:Later [] p.c c'):Pt W k d:=⟨p.G,p.vars,c',p.g,p.O.later L⟩
structure SE (W:Wd)(k:Ck)(m:ME)(e:Expr):Prop where
 v:∀ (X:Lx W)(p:Pt W k X.d)(Q:KV),ev X.lg m p.vars false Q p.c.hm→wpAny W.M p.G.A (eval e p.G.env) (Out p.c Cf.V Q) noE p.c.s
 t:∀ (X:Lx W)(p:Pt W k X.d)(Q:KV),ev X.lg m p.vars true Q p.c.hm→wpAny W.M p.G.A (isTrue e p.G.env (eval e p.G.env)) (Out p.c RB Q) noE p.c.s
section
variable {W:Wd}{c:Cf W}
theorem rb {b:Bool}:RB c (.bool b) b:=rfl
theorem vnone:c.V .none .none:=rfl
theorem vbool {b:Bool}:c.V (.bool b) (.bool b):=rfl
theorem vint {i:Int}{t:Tok}:c.V (.int i) (.int i t):=IsInt.mk t
end
theorem SE.of {W:Wd}{k:Ck}{m:ME}{e:Expr}(hm:∀ (X:Lx W) vars Q h,ev X.lg m vars true Q h→ev X.lg m vars false (fin true Q) h)
  (hp:∀ env,isTrue e env (eval e env)=(eval e env>>=fun v=>standAt e.pos>>=fun uu=>holding [v] (truthy v)))
  (h:∀ (X:Lx W)(p:Pt W k X.d)(Q:KV),ev X.lg m p.vars false Q p.c.hm→wpAny W.M p.G.A (eval e p.G.env) (Out p.c Cf.V Q) noE p.c.s):SE W k m e:=
 ⟨h,fun X p Q q=>by
  rw [hp]
  refine seqO (h X p _ (hm X _ _ _ q)) fun a v c' r q l=>atP (wpAny_holding ?_)
  induction q with | mk e q=>exact tru_ok e r (out_now rb q)⟩
noncomputable def Ck.kind (k:Ck)(id:Str):Option NameKind:=k.scope.names.lookup id
noncomputable def isVar (k:Ck)(id:Str)(x:Nat):Bool:=
 k.vs.lookup id==some x&&(k.kind id==some .local||(k.kind id==some .cell||k.kind id==some .free))&&!(id==("__debug__":Str))&&!(id==("__classdict__":Str))
noncomputable def isGl (k:Ck)(id:Str):Bool:=k.kind id==some .globalImplicit&&!(id==("__debug__":Str))
theorem t2 {a b:Bool}(h:(a&&b)=true):a=true∧b=true:=(Bool.and_eq_true a b).mp h
theorem tn {a:Bool}(h:(!a)=true):a=false:=Bool.not_eq_true' a |>.mp h
section
variable {W:Wd}{k:Ck}{d:Nat}{X:Lx W}{P:Value→Shared→Prop}{E:Value→Shared→Prop}{id:Str}{pos:Pos}
theorem GOk.kind {G:Gx}(g:GOk W k d G)(id:Str):G.env.kindOf id=k.kind id:=by unfold Env.kindOf; rw [g.scope]; rfl
theorem load_var (p:Pt W k d){x:Nat}(q:isVar k id x=true){v:MV}(hv:p.vars x=some v)(h:∀ u,p.c.V v u→P u p.c.s):wpAny W.M p.G.A (eval (.Name id pos) p.G.env) P E p.c.s:=by
 obtain ⟨q,q4⟩:=t2 q
 obtain ⟨q,q3⟩:=t2 q
 obtain ⟨q1,q2⟩:=t2 q
 refine wpAny_Name ?_ (tn q3)
 induction p.O.store with
 | mk l cc hh=>
  induction hh id x v (by rw [p.g.vs]; exact eq_of_beq q1) hv with
  | mk r s=>
   induction s with
   | loc kk e=>exact wpAny_loadName_local p.g.fn kk l e (h _ r)
   | cell kk l' e=>
    rcases kk with kk | kk
    ·exact wpAny_loadName_cell p.g.fn kk l' (e▸cc _ _ l') (h _ r)
    ·exact wpAny_loadName_free p.g.fn kk l' (e▸cc _ _ l') (h _ r) (tn q4)
theorem load_glob {A:Around}(K:WdOk W)(p:Pt W k d)(q:isGl k id=true){v:Value}(hv:nsIn W.K mainGlobals id=some (some v))(h:P v p.c.s):wpAny W.M A (eval (.Name id pos) p.G.env) P E p.c.s:=
 Calls.Name_function_global p.g.fn ((p.g.kind id).trans (eq_of_beq (t2 q).1)) (Calls.loadGlobal_global (mg:=W.mg) (by rw [p.g.globals]; exact K.g.keeps p.c.sim.base) (mg_of K.X K.g hv) h) (tn (t2 q).2)
theorem load_builtin (K:WdOk W)(p:Pt W k d)(q:isGl k id=true){v:Value}(hv:nsIn W.K mainGlobals id=some none)(hb:bootBuiltins id=some v)(hn:id≠"__name__")(h:P v p.c.s):wpAny W.M p.G.A (eval (.Name id pos) p.G.env) P E p.c.s:=
 Calls.Name_function_global p.g.fn ((p.g.kind id).trans (eq_of_beq (t2 q).1))
  (Calls.loadGlobal_builtin (mg:=W.mg) (mb:=W.mb) (by rw [p.g.globals]; exact K.g.keeps p.c.sim.base) (mg_none_of K.X K.g hv) (by rw [p.g.builtins]; exact K.b.keeps p.c.sim.base) ((K.boots id hn).trans hb) h) (tn (t2 q).2)
end
end Mini
end
section
namespace Mini
open PySem PySem.W PyProof.Rows PySem.SeqAt
noncomputable def notSlice (e:Expr):Bool:=e.ctorIdx != 26
noncomputable def notStar (e:Expr):Bool:=e.ctorIdx != 22
noncomputable def notSetE (e:Expr):Bool:=e.ctorIdx != 7
noncomputable def notSuper (e:Expr):Bool:=if h:e.ctorIdx=16 then Expr.Call.elim e h (fun f uu uu uu=>f.ctorIdx != 23) else true
section
variable {W:Wd}{k:Ck}{pos:Pos}{kk:Nat}{e l r o i c a b:Expr}{me ml mr mo mi mc ma mb:ME}
theorem se_none:SE W k .none (.Constant .none kk pos):=.of (fun uu uu uu uu q=>q) (fun uu=>rfl) fun X p Q q=>wpAny_pure (out_now vnone q)
theorem se_bool {b:Bool}:SE W k (.bool b) (.Constant (.bool b) kk pos):=.of (fun uu uu uu uu q=>q) (fun uu=>rfl) fun X p Q q=>wpAny_pure (out_now vbool q)
theorem se_int {i:Int}:SE W k (.int i) (.Constant (.int i) kk pos):=.of (fun uu uu uu uu q=>q) (fun uu=>rfl) fun X p Q q=>wpAny_Constant_int (out_same vint q)
theorem se_str {n:Nat}{x:Str}(e:isStrs W n x):SE W k (.str n) (.Constant (.str x) kk pos):=.of (fun uu uu uu uu q=>q) (fun uu=>rfl) fun X p Q q=>Calls.Constant_str (out_same (m:=.str n) (IsStr.mk _ e) q)
theorem se_var {x:Nat}{id:Str}(e:isVar k id x=true):SE W k (.var x) (.Name id pos):=.of (fun uu uu uu uu q=>q) (fun uu=>rfl) fun X p Q q=>by
 induction q with | mk h q=>exact load_var p e h fun u r=>out_now r q
theorem se_glob {i:Int}{id:Str}(e:isGl k id=true)(e':W.T.globTab.lookup id=some i):SE W k (.glob i) (.Name id pos):=.of (fun uu uu uu uu q=>q) (fun uu=>rfl) fun X p Q q=>by
 obtain ⟨t,ht⟩:=X.K.globs _ _ e'
 exact load_glob X.K p e ht (out_now vint q)
theorem notSuper_base {attr:Str}{env:Env}{whole:Sem Value}(e:notSuper o=true):attributeBase o attr env whole=whole:=by
 rcases o with  _ | _ | _ | _ | _ | _ | _ | _ | _ | _ | _ | _ | _ | _ | _ | _ | _ | _ | _ | _ | _ | _ | _ | _ | _ | _ | _  <;> try exact rfl
 rename_i f a kw p
 rcases f with  _ | _ | _ | _ | _ | _ | _ | _ | _ | _ | _ | _ | _ | _ | _ | _ | _ | _ | _ | _ | _ | _ | _ | _ | _ | _ | _  <;> first | exact rfl | exact ff e
theorem go_pure {α:Type}{A:Around}{base:Expr}{o r:Value}{P:Value→Shared→Prop}{s:Shared}(h:P r s):wpAny W.M A (letTemporaryGo base o r>>=fun uu=>pure r) P noE s:=wpAny_bind (wpAny_letTemporaryGo (wpAny_pure h))
theorem se_attr {n:Nat}{x:Str}(ho:SE W k mo o)(hs:notSuper o=true)(ha:n∈W.T.attrTab)(hn:isStrs W n x):SE W k (.attr mo n) (.Attribute o x pos):=.of (fun uu uu uu uu q=>q) (fun uu=>rfl) fun X p Q q=>by
 rw [arm_eval_Attribute,notSuper_base hs]
 refine seqO (ho.v X p _ q) fun m v c' r q l=>atP (wpAny_bind (wpAny_holding ?_))
 induction q with | mk e q=>exact wmono (getA_ok X.K e ha hn r q) fun r s' h=>go_pure (α:=Unit) h
theorem eval_BinOp_arm (l op r pos env):eval (.BinOp l op r pos) env=(eval l env>>=fun a=>holding [a] (eval r env)>>=fun b=>standAt pos>>=fun uu=>operate [a,b] (binaryOp op a b)):=rfl
theorem se_bin {op:MOp}(hl:SE W k ml l)(hr:SE W k mr r):SE W k (.bin op ml mr) (.BinOp l (bOp op) r pos):=.of (fun uu uu uu uu q=>q) (fun uu=>rfl) fun X p Q q=>by
 rw [eval_BinOp_arm]
 refine seqO (hl.v X p _ q) fun m v c' r q l=>seqH (hr.v X (p.to l) _ q) fun n u c2 r2 q l2=>atP ?_
 induction q with | mk e q=>exact wpAny_operating (bin_ok e q (r.later l2) r2)
theorem eval_USub_arm (e pos env):eval (.UnaryOp .USub e pos) env=(eval e env>>=fun v=>standAt pos>>=fun uu=>holding [v] (unaryOp .USub v)):=rfl
theorem se_neg (he:SE W k me e):SE W k (.neg me) (.UnaryOp .USub e pos):=.of (fun uu uu uu uu q=>q) (fun uu=>rfl) fun X p Q q=>by
 rw [eval_USub_arm]
 refine seqO (he.v X p _ q) fun m v c' r q l=>atP (wpAny_holding ?_)
 induction q with | mk e q=>exact neg_ok e q r
theorem eval_Not_arm (e pos env):eval (.UnaryOp .Not e pos) env=(eval e env>>=fun v=>standAt pos>>=fun uu=>holding [v] (unaryOp .Not v)):=rfl
theorem test_Not_arm (e pos env):isTrue (.UnaryOp .Not e pos) env (eval (.UnaryOp .Not e pos) env)=(isTrue e env (eval e env)>>=fun b=>pure (!b)):=rfl
theorem se_not (he:SE W k me e):SE W k (.not me) (.UnaryOp .Not e pos) where
 v:=fun X p Q q=>by
  rw [eval_Not_arm]
  refine seqO (he.v X p _ q) fun m v c' r q l=>atP (wpAny_holding ?_)
  induction q with | mk e q=>exact not_of (tru_ok e r (out_now vbool q))
 t:=fun X p Q q=>by
  rw [test_Not_arm]
  refine seqO (he.t X p _ q) fun m b c' r q l=>wpAny_pure ?_
  rw [show m = .bool b from r] at q
  induction q with | mk e q=>exact out_now (by cases e; exact rb) q
theorem marked1 {op:CmpOp}{t:Sem Value}(h:notSetE e=true):markedEach [op] [e] [t]=[t]:=by
 show [markedBehindIn op e t]=[t]
 have:behindInMarks op e=false:=by
  rcases e with  _ | _ | _ | _ | _ | _ | _ | _ | _ | _ | _ | _ | _ | _ | _ | _ | _ | _ | _ | _ | _ | _ | _ | _ | _ | _ | _  <;> first | exact rfl | exact ff h
 unfold markedBehindIn; rw [this]
theorem eval_Cmp_arm (l op r pos env):eval (.Compare l [op] [r] pos) env=(eval l env>>=fun a=>compareChain pos a [op] (markedEach [op] [r] [eval r env])):=rfl
theorem chain_arm (pos v op t):compareChain pos v [op] [t]=(holding [v] t>>=fun w=>standAt pos>>=fun uu=>operate [v,w] (compareOp op v w)):=rfl
theorem test_Cmp_arm (l op r pos env):isTrue (.Compare l [op] [r] pos) env (eval (.Compare l [op] [r] pos) env)=(eval l env>>=fun a=>testChain pos a [op] (markedEach [op] [r] [eval r env])):=rfl
theorem testc_arm (pos v op t):testChain pos v [op] [t]=(holding [v] t>>=fun w=>standAt pos>>=fun uu=>operate [v,w] (compareOp op v w)>>=fun c=>holding [c] (truthy c)):=rfl
theorem se_cmp {op:MCmp}(hl:SE W k ml l)(hr:SE W k mr r)(hs:notSetE r=true):SE W k (.cmp op ml mr) (.Compare l [cOp op] [r] pos) where
 v:=fun X p Q q=>by
  rw [eval_Cmp_arm,marked1 hs]
  refine seqO (hl.v X p _ q) fun m v c' r q l=>?_
  rw [chain_arm]
  refine seqH (hr.v X (p.to l) _ q) fun n u c2 r2 q l2=>atP (wpAny_operating ?_)
  induction q with | mk e q=>exact cmp_ok X.K e (r.later l2) r2 (Nat.lt_of_le_of_lt (Nat.add_le_add_left (by decide) _) p.g.room.line) q
 t:=fun X p Q q=>by
  rw [test_Cmp_arm,marked1 hs]
  refine seqO (hl.v X p _ q) fun m v c' r q l=>?_
  rw [testc_arm]
  refine seqH (hr.v X (p.to l) _ q) fun n u c2 r2 q l2=>atP ?_
  induction q with
  | @mk b e q=>
   refine seqO (Q:=fun m h=>m = .bool b∧Q (.bool b) h) (wpAny_operating (cmp_ok X.K e (r.later l2) r2 (Nat.lt_of_le_of_lt (Nat.add_le_add_left (by decide) _) p.g.room.line) ⟨rfl,q⟩)) fun m v c3 r3 q l3=>wpAny_holding ?_
   rw [q.1] at r3
   rw [show v = .bool b from r3]
   exact wpAny_truthy_bool (out_now rb q.2)
theorem If.elim {b:Bool}{P Q:Prop}(h:If (.bool b) P Q):cond b P Q:=by
 rcases b with _ | _
 ·cases h with
  | yes e p=>exact MV.noConfusion e fun q=>Bool.noConfusion q
  | no e q=>exact q
 ·cases h with
  | yes e p=>exact p
  | no e q=>exact MV.noConfusion e fun q=>Bool.noConfusion q
theorem eval_If_arm (c a b pos env):eval (.IfExp c a b pos) env=(isTrue c env (eval c env)>>=fun t=>if t=true then eval a env else eval b env):=rfl
theorem test_If_arm (c a b pos env):isTrue (.IfExp c a b pos) env (eval (.IfExp c a b pos) env)=(isTrue c env (eval c env)>>=fun t=>if t=true then isTrue a env (eval a env) else isTrue b env (eval b env)):=rfl
theorem se_ite (hc:SE W k mc c)(ha:SE W k ma a)(hb:SE W k mb b):SE W k (.ite mc ma mb) (.IfExp c a b pos) where
 v:=fun X p Q q=>by
  rw [eval_If_arm]
  refine seqO (hc.t X p _ q) fun m t c' r q l=>?_
  rw [show m = .bool t from r] at q
  rcases t with _ | _
  ·exact hb.v X (p.to l) _ q.elim
  ·exact ha.v X (p.to l) _ q.elim
 t:=fun X p Q q=>by
  rw [test_If_arm]
  refine seqO (hc.t X p _ q) fun m t c' r q l=>?_
  rw [show m = .bool t from r] at q
  rcases t with _ | _
  ·exact hb.t X (p.to l) _ q.elim
  ·exact ha.t X (p.to l) _ q.elim
theorem sub_notSlice (h:notSlice i=true)(o v:Value):subscripted i false o v=operate [o,v] (getItem o v):=by
 rcases i with  _ | _ | _ | _ | _ | _ | _ | _ | _ | _ | _ | _ | _ | _ | _ | _ | _ | _ | _ | _ | _ | _ | _ | _ | _ | _ | _  <;> first | exact rfl | exact ff h
theorem se_sub (ho:SE W k mo o)(hi:SE W k mi i)(hs:notSlice i=true):SE W k (.sub mo mi) (.Subscript o i pos):=.of (fun uu uu uu uu q=>q) (fun uu=>rfl) fun X p Q q=>by
 rw [arm_eval_Subscript]
 refine seqO (ho.v X p _ q) fun m v c' r q l=>seqH (hi.v X (p.to l) _ q) fun n u c2 r2 q l2=>atP ?_
 induction q with
 | mk e q=>
  have z:=getI_ok (A:=p.G.A) X.K e (r.later l2) r2 q
  refine wpAny_bind (z.2 _ ?_)
  rw [sub_notSlice hs]
  exact wpAny_bind (wpAny_operating (wmono z.1 fun r s' h=>go_pure (α:=Unit) h))
theorem VRels.rev {ρ:Cells}{h:Heap}{xs:List MV}{vs:List Value}(r:VRels W ρ h xs vs):VRels W ρ h xs.reverse vs.reverse:=by
 induction r with
 | nil=>exact .nil
 | cons h t ih=>rw [List.reverse_cons,List.reverse_cons]; exact All2.append (.one h) ih
theorem wpAny_of_operate {A:Around}{t t':Sem Value}{ws:List Value}{P:Value→Shared→Prop}{s:Shared}(e:t=operate ws t')(h:wpAny W.M A t' P noE s):wpAny W.M A t P noE s:=by rw [e]; exact wpAny_operating h
theorem cut_ok {c c₀:Cf W}{A:Around}{Q:KV}{d:Addr}{its:Array Value}{vl vu vs:Value}{lo hi st:Option Int}{xs:List MV}{p1 p2 p3:Option Expr}{pp:Pos}{base:Expr}(L:Later [] c₀ c)(hl:c.h.IsList d its)(hz:its.size≤lenLine)(pl:IsPart vl lo)(pu:IsPart vu hi)(ps:IsPart vs st)(h0:st≠some 0)
  (r:VRels W c.ρ c.h xs (slicePick its lo hi st).toList)(hx:xs.length≤lenLine)(q:Q (.ref c.hm.next) (c.hm.new (.list xs))) :
  wpAny W.M A (newFields "slice" [vl,vu,vs]) (fun i s'=>wpAny W.M A (do
   standAt pos
   let r ← subscripted (.Slice p1 p2 p3 pp) (← getitemInPython (.ref d)) (.ref d) i
   letTemporaryGo base (.ref d) r
   pure r) (Out c₀ Cf.V Q) noE s') noE c.s:=by
 unfold newFields
 refine wpAny_newObj_type (atP (wpAny_bind ?_))
 have hl':(c.h.push { cls:=.type "slice",data:=.fields #[vl,vu,vs] }).IsList d its:=hl.push _
 refine notPy (s:={ c.s with heap:=c.h.push { cls:=.type "slice",data:=.fields #[vl,vu,vs] } }) hl'.typeIs F.slot_list_getitem ?_
 obtain ⟨ws,e⟩:∃ ws,subscripted (.Slice p1 p2 p3 pp) false (.ref d) (.ref c.h.objs.size)=operate ws (getItem (.ref d) (.ref c.h.objs.size)):=by rcases p3 with _ | _ <;> exact ⟨_,rfl⟩
 refine wpAny_bind (wpAny_of_operate e (wpAny_getItem_list_slice (s:={ c.s with heap:=c.h.push { cls:=.type "slice",data:=.fields #[vl,vu,vs] } }) hl' (Heap.IsSliceOf.new ..) pl pu ps h0 (go_pure (α:=Unit) (Out.trans L ?_)) (line_of hz)))
 exact out_list' (t:=c.s.toks) (Ext.trans (.push _ _) (.push _ _)) (by rw [Heap.size_push]; exact Nat.le_succ _) (Heap.get?_push_size _ rfl) r hx q
theorem take_le {xs:List MV}(n:Nat)(l:xs.length≤lenLine):(xs.take n).length≤lenLine:=Nat.le_trans (List.length_take_le' ..) l
theorem drop_le {xs:List MV}(n:Nat)(l:xs.length≤lenLine):(xs.drop n).length≤lenLine:=Nat.le_trans (by rw [List.length_drop]; exact Nat.sub_le ..) l
theorem slTo_ok {c c₀:Cf W}{A:Around}{Q:KV}{x i m:MV}{v u:Value}{h':MHeap}{p1 p2:Option Expr}{pp:Pos}{base:Expr}(K:WdOk W)(L:Later [] c₀ c)(e:SlTo W.script c.hm x i m h')(q:Q m h')(hv:c.V x v)(hu:c.V i u) :
  wpAny W.M A (newFields "slice" [.none,u,.none]) (fun i s'=>wpAny W.M A (do
   standAt pos
   let r ← subscripted (.Slice p1 p2 none pp) (← getitemInPython v) v i
   letTemporaryGo base v r
   pure r) (Out c₀ Cf.V Q) noE s') noE c.s:=by
 induction e with
 | script n=>
  obtain ⟨vs,l1,I⟩:=K.script
  rw [show v = .ref W.scriptAt from hv]
  have hlen:=I.length
  have l2:c.h.IsList W.scriptAt vs.toArray:=by obtain ⟨o,g,r⟩:=l1; exact ⟨o,c.sim.base _ _ g,r⟩
  refine IsInt.elim hu fun t=>cut_ok L l2 (by rw [List.size_toArray,hlen]; exact K.slen) .none (.int _ t) .none nofun ?_ ?_ q
  ·rw [clamp_take,List.size_toArray,hlen,List.map_take]
   exact (rel_ints I).take _
  ·rw [List.length_map]; exact Nat.le_trans (List.length_take_le' ..) K.slen
 | list n p=>exact Cf.listE hv p fun d its k uu uu g r l z=>IsInt.elim hu fun t=>cut_ok L g.isList (z▸l) .none (.int _ t) .none nofun (by rw [clamp_take,z]; exact r.take _) (take_le _ l) q
theorem slFrom_ok {c c₀:Cf W}{A:Around}{Q:KV}{x i m:MV}{v u:Value}{h':MHeap}{p1 p2:Option Expr}{pp:Pos}{base:Expr}(L:Later [] c₀ c)(e:SlFrom c.hm x i m h')(q:Q m h')(hv:c.V x v)(hu:c.V i u) :
  wpAny W.M A (newFields "slice" [u,.none,.none]) (fun i s'=>wpAny W.M A (do
   standAt pos
   let r ← subscripted (.Slice p1 p2 none pp) (← getitemInPython v) v i
   letTemporaryGo base v r
   pure r) (Out c₀ Cf.V Q) noE s') noE c.s:=by
 induction e with
 | list n p=>exact Cf.listE hv p fun d its k uu uu g r l z=>IsInt.elim hu fun t=>cut_ok L g.isList (z▸l) (.int _ t) .none .none nofun (by rw [clamp_drop,z]; exact r.drop _) (drop_le _ l) q
theorem se_sliceTo {pp:Pos}(ho:SE W k mo o)(hi:SE W k mi i):SE W k (.sliceTo mo mi) (.Subscript o (.Slice none (some i) none pp) pos):=.of (fun uu uu uu uu q=>q) (fun uu=>rfl) fun X p Q q=>by
 rw [arm_eval_Subscript]
 refine seqO (ho.v X p _ q) fun m v c' r q l=>?_
 rw [arm_eval_Slice]
 refine wpAny_bind (wpAny_holding (wpAny_bind (wpAny_pure (wpAny_bind (wpAny_holding (wout (hi.v X (p.to l) _ q) fun n u c2 r2 q l2=>wpAny_bind (wpAny_holding (wpAny_pure ?_))))))))
 induction q with | mk e q=>exact slTo_ok X.K l2 e q (r.later l2) r2
theorem se_sliceFrom {pp:Pos}(ho:SE W k mo o)(hi:SE W k mi i):SE W k (.sliceFrom mo mi) (.Subscript o (.Slice (some i) none none pp) pos):=.of (fun uu uu uu uu q=>q) (fun uu=>rfl) fun X p Q q=>by
 rw [arm_eval_Subscript]
 refine seqO (ho.v X p _ q) fun m v c' r q l=>?_
 rw [arm_eval_Slice]
 refine wpAny_bind (wpAny_holding (wpAny_bind (wout (hi.v X (p.to l) _ q) fun n u c2 r2 q l2=>wpAny_bind (wpAny_holding (wpAny_pure (wpAny_bind (wpAny_holding (wpAny_pure ?_))))))))
 induction q with | mk e q=>exact slFrom_ok l2 e q (r.later l2) r2
theorem se_rev {pp p1 p2:Pos}(ho:SE W k mo o):SE W k (.rev mo) (.Subscript o (.Slice none none (some (.UnaryOp .USub (.Constant (.int 1) kk p1) p2)) pp) pos):=.of (fun uu uu uu uu q=>q) (fun uu=>rfl) fun X p Q q=>by
 rw [arm_eval_Subscript]
 refine seqO (ho.v X p _ q) fun m v c' r q l=>?_
 rw [arm_eval_Slice]
 refine wpAny_bind (wpAny_holding (wpAny_bind (wpAny_pure (wpAny_bind (wpAny_holding (wpAny_pure (wpAny_bind (wpAny_holding ?_))))))))
 show wpAny _ _ (eval (.UnaryOp .USub (.Constant (.int 1) kk p1) p2) p.G.env) _ _ _
 rw [eval_USub_arm]
 refine wpAny_bind (wpAny_Constant_int (atP (wpAny_holding (P.neg_int ?_))))
 induction q with
 | mk e q=>
 induction e with
 | list p'=>exact Cf.listE r p' fun d its n uu uu g r l' z=>cut_ok (c:=c'.grow (c'.s.toks + 1 + 1) (.refl _)) (later_grow _) g.isList (z▸l') .none .none (.int _ _) (by decide) (by rw [krv_pick,List.toList_toArray]; exact VRels.rev r) (by rw [List.length_reverse]; exact l') q
theorem dict_keys_at {id:Str}(he:SE W k me (.Attribute o id pos)):SE W k (.keys me) (.Attribute o id pos):=.of (fun X vars Q h q=>q) (fun uu=>rfl) fun X p Q q=>wmono (he.v X p _ q) fun v s h=>by
 induction h with
 | mk r q l=>
 induction q with
 | mk e q=>induction e with | mk i=>exact .mk (a:=MV.keys i _) r q l
theorem se_gtup {is:List Int}{id:Str}(e:isGl k id=true)(e':W.T.gtupTab.lookup id=some is):SE W k (.gtup is) (.Name id pos):=.of (fun uu uu uu uu q=>q) (fun uu=>rfl) fun X p Q q=>by
 obtain ⟨a,its,n,h1,h2,h3,h4⟩:=X.K.gtups _ _ e'
 refine load_glob X.K p e h1 (out_now (R:=Cf.V) (a:=MV.tup (is.map .int)) (IsTup.mk (p.c.sim.base _ _ (X.K.X _ _ h2)) ?_ (by rw [List.length_map]; exact Nat.le_trans h4 (by decide))) q)
 generalize its.toList=l at h3
 clear h2 h4 e' q
 induction h3 with
 | nil=>exact .nil
 | cons h t ih=>exact .cons h ih
theorem eval_Chain_arm (l o1 o2 r1 r2 pos env):eval (.Compare l [o1,o2] [r1,r2] pos) env=(eval l env>>=fun a=>compareChain pos a [o1,o2] (eval r1 env::markedEach [o2] [r2] [eval r2 env])):=rfl
theorem test_Chain_arm (l o1 o2 r1 r2 pos env):isTrue (.Compare l [o1,o2] [r1,r2] pos) env (eval (.Compare l [o1,o2] [r1,r2] pos) env)=(eval l env>>=fun a=>testChain pos a [o1,o2] (eval r1 env::markedEach [o2] [r2] [eval r2 env])):=rfl
theorem chain2_arm (pos v o1 o2 t1 t2):compareChain pos v [o1,o2] [t1,t2]=(holding [v] t1>>=fun w=>standAt pos>>=fun uu=>holding [v,w] (compareOp o1 v w)>>=fun c=>release [v,w] [c]>>=fun uu=>holding [c,w] (truthy c)>>=fun b=>if b=true then compareChain pos w [o2] [t2] else pure c):=rfl
theorem testc2_arm (pos v o1 o2 t1 t2):testChain pos v [o1,o2] [t1,t2]=(holding [v] t1>>=fun w=>standAt pos>>=fun uu=>holding [v,w] (compareOp o1 v w)>>=fun c=>release [v,w] [c]>>=fun uu=>holding [c,w] (truthy c)>>=fun b=>if b=true then testChain pos w [o2] [t2] else pure false):=rfl
theorem cmp_at {X:Lx W}{p:Pt W k X.d}{op:MCmp}{x y:MV}{b:Bool}{v u:Value}{c:Cf W}{P:HP}(e:Cmp c.hm op x y b)(hv:c.V x v)(hu:c.V y u)(q:P c.hm):wpAny W.M p.G.A (compareOp (cOp op) v u) (Out c Cf.V fun m h=>m = .bool b∧P h) noE c.s:=
 cmp_ok X.K e hv hu (Nat.lt_of_le_of_lt (Nat.add_le_add_left (by decide) _) p.g.room.line) ⟨rfl,q⟩
theorem se_chain {op op':MCmp}{r':Expr}{mr':ME}(hl:SE W k ml l)(hr:SE W k mr r)(hr':SE W k mr' r')(hs:notSetE r'=true):SE W k (.chain op op' ml mr mr') (.Compare l [cOp op,cOp op'] [r,r'] pos) where
 v:=fun X p Q q=>by
  rw [eval_Chain_arm,marked1 hs]
  refine seqO (hl.v X p _ q) fun m v c' r q l=>?_
  rw [chain2_arm]
  refine seqH (hr.v X (p.to l) _ q) fun n u c2 r2 q l2=>atP ?_
  induction q with
  | @mk b e q=>
  refine seqH (cmp_at (P:=fun h=>If (.bool b) (ev X.lg mr' p.vars false (fun u h=>Yields (Cmp h op' n u) fun r=>Q (MV.bool r) h) h) (Q (.bool false) h)) e (r.later l2) r2 q) fun m v3 c3 r3 q3 l3=>wpAny_bind (wpAny_release (wpAny_bind (wpAny_holding ?_)))
  rw [q3.1] at r3
  rw [show v3 = .bool b from r3]
  refine wpAny_truthy_bool ?_
  have q:=q3.2.elim
  rcases b with _ | _
  ·rw [if_neg Bool.false_ne_true]; exact wpAny_pure (out_now (R:=Cf.V) (a:=MV.bool false) rfl q)
  ·rw [if_pos rfl,chain_arm]
   refine seqH (hr'.v X (((p.to l).to l2).to l3) _ q) fun n u' c4 r4 q l4=>atP (wpAny_operating ?_)
   induction q with | mk e q=>exact cmp_ok X.K e (r2.later (l3.trans l4)) r4 (Nat.lt_of_le_of_lt (Nat.add_le_add_left (by decide) _) p.g.room.line) q
 t:=fun X p Q q=>by
  rw [test_Chain_arm,marked1 hs]
  refine seqO (hl.v X p _ q) fun m v c' r q l=>?_
  rw [testc2_arm]
  refine seqH (hr.v X (p.to l) _ q) fun n u c2 r2 q l2=>atP ?_
  induction q with
  | @mk b e q=>
  refine seqH (cmp_at (P:=fun h=>If (.bool b) (ev X.lg mr' p.vars false (fun u h=>Yields (Cmp h op' n u) fun r=>Q (MV.bool r) h) h) (Q (.bool false) h)) e (r.later l2) r2 q) fun m v3 c3 r3 q3 l3=>wpAny_bind (wpAny_release (wpAny_bind (wpAny_holding ?_)))
  rw [q3.1] at r3
  rw [show v3 = .bool b from r3]
  refine wpAny_truthy_bool ?_
  have q:=q3.2.elim
  rcases b with _ | _
  ·rw [if_neg Bool.false_ne_true]; exact wpAny_pure (out_now rb q)
  ·rw [if_pos rfl,testc_arm]
   refine seqH (hr'.v X (((p.to l).to l2).to l3) _ q) fun n u' c4 r4 q l4=>atP ?_
   induction q with
   | @mk b e q=>
    refine seqO (Q:=fun m h=>m=MV.bool b∧Q (.bool b) h) (wpAny_operating (cmp_at (p:=p) e (r2.later (l3.trans l4)) r4 q)) fun m v c5 r5 q l5=>wpAny_holding ?_
    rw [q.1] at r5
    rw [show v = .bool b from r5]
    exact wpAny_truthy_bool (out_now rb q.2)
theorem se_dict0:SE W k .dict0 (.Dict [] [] pos):=.of (fun uu uu uu uu q=>q) (fun uu=>rfl) fun X p Q q=>
 wpAny_Dict_empty (out_new (d:=cell p.c.h.objs.size) (o:=.idict []) (t:=p.c.s.toks) (.push _ _) (above_cell (Nat.le_refl _)) (DRel.mk (c:=cell _) rfl (Heap.DictOf.new _) .nil (by decide)) q)
end
end Mini
end
section
namespace Mini
open PySem PySem.W PyProof.Rows PySem.SeqAt
noncomputable def pl (es:List Expr)(env:Env):List (Bool×Sem Value):=es.map fun e=>(false,eval e env)
theorem pl_any (es:List Expr)(env:Env):(pl es env).any (·.1)=false:=by
 induction es with
 | nil=>rfl
 | cons e r ih=>exact ih
theorem pl_all (es:List Expr)(env:Env):(pl es env).all (fun x=>!x.1)=true:=by
 induction es with
 | nil=>rfl
 | cons e r ih=>exact ih
theorem star_cons {e:Expr}{r:List Expr}{env:Env}(h:notStar e=true):starEach (e::r) env=(false,eval e env)::starEach r env:=by
 rcases e with  _ | _ | _ | _ | _ | _ | _ | _ | _ | _ | _ | _ | _ | _ | _ | _ | _ | _ | _ | _ | _ | _ | _ | _ | _ | _ | _  <;> first | exact rfl | exact ff h
noncomputable def ifsLoop (env:Env)(ifs:List Expr)(b:Bool):Sem Bool:=
 forIn ifs b fun c r=>if r=true then do let ok ← isTrue c env (eval c env); pure (ForInStep.yield ok) else pure (ForInStep.yield r)
theorem ifs_false (env:Env)(es:List Expr):ifsLoop env es false=pure false:=by
 induction es with
 | nil=>rfl
 | cons e r ih=>
  unfold ifsLoop
  rw [List.forIn_cons]
  exact ih
structure SLs (W:Wd)(k:Ck)(ms:MEs)(es:List Expr):Prop where
 Z:ms = .nil↔es=[]
 N:∀ pos env,backTo pos (starEach es env)=pl es env
 L:∀ (X:Lx W)(p:Pt W k X.d) Q,evL X.lg ms p.vars Q p.c.hm→wpAny W.M p.G.A (spliced (pl es p.G.env)) (Out p.c Cf.Vs Q) noE p.c.s
 B:∀ (X:Lx W)(p:Pt W k X.d) pos isAnd Q,evB X.lg ms p.vars isAnd false Q p.c.hm→wpAny W.M p.G.A (boolOp pos (cond isAnd .And .Or) (evalEach es p.G.env)) (Out p.c Cf.V Q) noE p.c.s
 T:∀ (X:Lx W)(p:Pt W k X.d) isAnd Q,evB X.lg ms p.vars isAnd true Q p.c.hm→wpAny W.M p.G.A (allTrue (cond isAnd .And .Or) es p.G.env) (Out p.c RB Q) noE p.c.s
 C:∀ (X:Lx W)(p:Pt W k X.d) Q,evC X.lg ms p.vars Q p.c.hm→wpAny W.M p.G.A (ifsLoop p.G.env es true) (Out p.c REq Q) noE p.c.s
section
variable {W:Wd}{k:Ck}{pos:Pos}{e:Expr}{es:List Expr}{m:ME}{ms:MEs}
theorem sl_nil:SLs W k .nil [] where
 Z:=⟨fun uu=>rfl,fun uu=>rfl⟩
 N:=fun uu uu=>rfl
 L:=fun X p Q q=>wpAny_pure (out_now (R:=Cf.Vs) .nil q)
 B:=fun X p pos isAnd Q q=>q.elim
 T:=fun X p isAnd Q q=>q.elim
 C:=fun X p Q q=>wpAny_pure (out_now (R:=REq) rfl q)
theorem b_step {c:Cf W}{A:Around}{isAnd t:Bool}{v:Value}{r:Sem Value}{Q:KV}{P:Prop}(q:If (.bool t) (match isAnd with | true=>P | false=>Q (.bool true) c.hm) (match isAnd with | true=>Q (.bool false) c.hm | false=>P))(hv:v = .bool t)(h:P→wpAny W.M A r (Out c Cf.V Q) noE c.s) :
  wpAny W.M A (match (cond isAnd BoolOp.And BoolOp.Or),t with | .And,false=>pure v | .Or,true=>pure v | _,_=>r) (Out c Cf.V Q) noE c.s:=by
 rw [hv]
 rcases t with _ | _ <;> rcases isAnd with _ | _
 ·exact h q.elim
 ·exact wpAny_pure (out_now vbool q.elim)
 ·exact wpAny_pure (out_now vbool q.elim)
 ·exact h q.elim
theorem t_step {c:Cf W}{A:Around}{isAnd t:Bool}{r:Sem Bool}{Q:KV}{P:Prop}(q:If (.bool t) (match isAnd with | true=>P | false=>Q (.bool true) c.hm) (match isAnd with | true=>Q (.bool false) c.hm | false=>P))(h:P→wpAny W.M A r (Out c RB Q) noE c.s) :
  wpAny W.M A (match (cond isAnd BoolOp.And BoolOp.Or),t with | .And,false=>pure false | .Or,true=>pure true | _,_=>r) (Out c RB Q) noE c.s:=by
 rcases t with _ | _ <;> rcases isAnd with _ | _
 ·exact h q.elim
 ·exact wpAny_pure (out_now rb q.elim)
 ·exact wpAny_pure (out_now rb q.elim)
 ·exact h q.elim
theorem bool_arm (pos op x y r):boolOp pos op (x::y::r)=(x>>=fun v=>standAt pos>>=fun uu=>holding [v] (truthy v)>>=fun t=>match op,t with | .And,false=>pure v | .Or,true=>pure v | _,_=>boolOp pos op (y::r)):=rfl
theorem all_arm (op e r env):allTrue op (e::r) env=(isTrue e env (eval e env)>>=fun t=>match op,t with | .And,false=>pure false | .Or,true=>pure true | _,_=>allTrue op r env):=rfl
theorem sl_cons (hm:SE W k m e)(hs:SLs W k ms es)(hn:notStar e=true):SLs W k (.cons m ms) (e::es) where
 Z:=⟨fun h=>MEs.noConfusion h,fun h=>absurd h (List.cons_ne_nil _ _)⟩
 N:=fun pos env=>by
  rw [star_cons hn]
  exact congrArg ((false,eval e env)::·) (hs.N pos env)
 L:=fun X p Q q=>by
  refine seqO (hm.v X p _ q) fun a v c' r q l=>?_
  refine wpAny_bind (wpAny_pure (wpAny_bind (wpAny_holding (wout (hs.L X (p.to l) _ q) fun as vs c2 r2 q l2=>?_))))
  exact wpAny_pure (Out.mk (R:=Cf.Vs) (.cons (r.later l2) r2) q l2)
 B:=fun X p pos isAnd Q q=>by
  rcases ms with _ | ⟨m2,ms2⟩
  ·rw [hs.Z.mp rfl]
   exact hm.v X p _ q
  ·rcases es with _ | ⟨e2,es2⟩
   ·exact MEs.noConfusion (hs.Z.mpr rfl)
   rw [show evalEach (e::e2::es2) p.G.env=eval e p.G.env::eval e2 p.G.env::evalEach es2 p.G.env from rfl,bool_arm]
   refine seqO (hm.v X p _ q) fun a v c' r q l=>atP (wpAny_bind (wpAny_holding ?_))
   have ih:=hs.B X (p.to l) pos isAnd Q
   cases q with
   | yes ea p=>
    rw [ea] at r
    exact tru_ok (.bool true) r (b_step (.yes rfl p) r ih)
   | no ea p=>
    rw [ea] at r
    exact tru_ok (.bool false) r (b_step (.no rfl p) r ih)
 T:=fun X p isAnd Q q=>by
  rw [all_arm]
  rcases ms with _ | ⟨m2,ms2⟩
  ·rw [hs.Z.mp rfl]
   refine wpAny_bind (wmono (hm.t X p _ q) fun b s' h=>?_)
   rcases b with _ | _ <;> rcases isAnd with _ | _ <;> exact wpAny_pure h
  ·refine seqO (hm.t X p _ q) fun a t c' r q l=>?_
   rw [show a = .bool t from r] at q
   exact t_step q (hs.T X (p.to l) isAnd Q)
 C:=fun X p Q q=>by
  unfold ifsLoop
  rw [List.forIn_cons]
  refine seqO (Q:=fun b h=>If (.bool b) (evC X.lg ms p.vars Q h) (Q false h)) (R:=fun uu a b=>ForInStep.yield a=b) (wpAny_bind (wout (hm.t X p _ q) fun a b c' r q l=>wpAny_pure (Out.mk (R:=fun uu a b=>ForInStep.yield a=b) (a:=b) rfl ?_ l))) ?_
  ·rw [show a = .bool b from r] at q; exact q
  ·intro b b' c' r q l
   rw [← show ForInStep.yield b=b' from r]
   rcases b with _ | _
   ·show wpAny _ _ (ifsLoop p.G.env es false) _ _ _
    rw [ifs_false]
    exact wpAny_pure (out_now (R:=REq) rfl q.elim)
   ·exact hs.C X (p.to l) Q q.elim
end
end Mini
end
section
namespace Mini
open PySem PySem.W PyProof.Rows PySem.SeqAt
theorem fnIn_of {K:Frag}{f:Addr}(h:fnIn K f=true):∃ o fd,K.lookup f=some o∧o.data = .func fd:=by
 unfold fnIn at h
 split at h
 ·rename_i e; exact ⟨_,_,e,rfl⟩
 ·exact ff h
section
variable {W:Wd}{k:Ck}{pos:Pos}{kk:Nat}{e:Expr}{es:List Expr}{m:ME}{ms:MEs}
theorem se_and (hs:SLs W k ms es):SE W k (.and ms) (.BoolOp .And es pos):=⟨fun X p Q q=>hs.B X p pos true Q q,fun X p Q q=>hs.T X p true Q q⟩
theorem se_or (hs:SLs W k ms es):SE W k (.or ms) (.BoolOp .Or es pos):=⟨fun X p Q q=>hs.B X p pos false Q q,fun X p Q q=>hs.T X p false Q q⟩
theorem size_ok {c:Cf W}{xs:List MV}{vs:List Value}(r:c.Vs xs vs)(l:xs.length≤100):sizeOk (Data.seq vs.toArray):=by
 show vs.toArray.size≤sizeLine
 rw [List.size_toArray,r.length]; exact Nat.le_trans l (by decide)
theorem se_list (hs:SLs W k ms es):SE W k (.list ms) (.List es pos):=.of (fun uu uu uu uu q=>q) (fun uu=>rfl) fun X p Q q=>by
 rw [arm_eval_List,hs.N]
 refine atP (seqO (hs.L X p _ q) fun xs vs c' r q l=>?_)
 unfold newList
 exact wpAny_newObj_type (out_list (t:=c'.s.toks) r (Nat.le_trans q.1 (by decide)) q.2) (size_ok r q.1)
theorem se_tup (hs:SLs W k ms es):SE W k (.tup ms) (.Tuple es kk pos):=.of (fun uu uu uu uu q=>q) (fun uu=>rfl) fun X p Q q=>by
 rw [arm_eval_Tuple,hs.N]
 refine atP (seqO (hs.L X p _ q) fun xs vs c' r q l=>?_)
 unfold newTuple
 have G:Ext c'.h (c'.h.push { cls:=.type "tuple",data:=.seq vs.toArray }):=.push _ _
 exact wpAny_newObj_type (out_grow (m:=.tup xs) (t:=c'.s.toks) G (IsTup.mk (Heap.get?_push_size _ rfl) (flat_rel q.2.1 (VRels.stay G.stay r)) (Nat.le_trans q.1 (by decide))) q.2.2) (size_ok r q.1)
theorem args_ok {c:Cf W}{A:Around}{f:Value}{env:Env}{P:Args→Shared→Prop}{Q:List MV→MHeap→Prop}(h:wpAny W.M A (spliced (pl es env)) (Out c Cf.Vs Q) noE c.s)(k:∀ xs vs c',c'.Vs xs vs→Q xs c'.hm→Later [] c c'→P ⟨vs,[]⟩ c'.s):wpAny W.M A (evalArgs f true (pl es env) []) P noE c.s:=by
 rcases es with _ | ⟨e,r⟩
 ·unfold evalArgs
  show wpAny _ A (spliced []>>=_) P _ c.s
  refine wpAny_bind (wout h fun xs vs c' r q l=>wpAny_bind (wpAny_pure (wpAny_holding ?_)))
  exact wpAny_bind (wpAny_pure (wpAny_bind (wpAny_pure (wpAny_pure (k xs vs c' r q l)))))
 ·exact Calls.evalArgs_plain (wout h k)
theorem room1 {X:Lx W}{p:Pt W k X.d}:p.G.A.handled=none∧p.G.A.depth + 4 * X.d + 2≤900∧p.G.A.units + 40 * X.d + 20≤9000:=⟨p.g.room.handled,Nat.le_trans (Nat.le_add_right _ 2) p.g.room.depth,Nat.le_trans (Nat.le_add_right _ 20) p.g.room.units⟩
theorem call_fn {X:Lx W}{p:Pt W k X.d}{c':Cf W}{f:Nat}{xs:List MV}{vs:List Value}{Q:KV}(L:Later [] p.c c')(r:c'.Vs xs vs)(q:X.call f xs Q c'.hm):wpAny W.M p.G.A (call (.ref (W.faddr f)) vs) (Out p.c Cf.V Q) noE c'.s:=
 wpAny_call (codeAny_mono (X.ok f p.G.A xs vs Q c' room1.1 room1.2.1 room1.2.2 (p.O.stk.later L) r q) fun r s'' h=>by
  rcases r with e | (_ | _ | _ | v) <;> first | exact h.elim | exact Out.trans L h)
theorem se_callF {f:Nat}{id:Str}{np:Pos}(hs:SLs W k ms es)(hi:isGl k id=true)(hf:W.T.fnTab[f]?=some id):SE W k (.callF f ms) (.Call (.Name id np) es [] pos):=.of (fun uu uu uu uu q=>q) (fun uu=>rfl) fun X p Q q=>by
 rw [arm_eval_Call_Name']
 obtain ⟨hg,hfn⟩:=X.K.fnGlob f id hf
 obtain ⟨o,fd,ho,hd⟩:=fnIn_of hfn
 refine wpAny_bind (load_glob X.K p hi hg ?_)
 rw [hs.N]
 exact Calls.callWith_function (o:=o) (fd:=fd) (args_ok (hs.L X p _ q) fun xs vs c' r q l=>⟨⟨c'.sim.base _ _ (X.K.X _ _ ho),hd⟩,call_fn l r q⟩)
noncomputable def bName:MB→Str
 | .len=>"len" | .abs=>"abs" | .list=>"list" | .tuple=>"tuple" | .range1=>"range" | .range2=>"range" | .int=>"int" | .sum=>"sum"
theorem b_facts (b:MB):bName b∈(["len", "abs", "list", "tuple", "sum", "isinstance", "sorted", "range", "super", "int", "bool"]:List Str)∧bootBuiltins (bName b)=some (bVal b)∧bName b≠"__name__":=by
 rcases b with _ | _ | _ | _ | _ | _ | _ | _
 ·exact ⟨by decide,boot_len,by decide⟩
 ·exact ⟨by decide,boot_abs,by decide⟩
 ·exact ⟨by decide,boot_list,by decide⟩
 ·exact ⟨by decide,boot_tuple,by decide⟩
 ·exact ⟨by decide,boot_range,by decide⟩
 ·exact ⟨by decide,boot_range,by decide⟩
 ·exact ⟨by decide,by kernel_rfl,by decide⟩
 ·exact ⟨by decide,by kernel_rfl,by decide⟩
theorem with_b {b:MB}{M:Model}{A:Around}{s:Shared}{E:Value→Shared→Prop}{P:Value→Shared→Prop}{args:List (Bool×Sem Value)}(h:args.any (·.1)=false)(g:wpAny M A (evalArgs (bVal b) true args []) (fun a s'=>wpAny M A (call (bVal b) a.pos a.kw) P E s') E s) :
  wpAny M A (callWith pos (bVal b) [] args []) P E s:=by
 rcases b with _ | _ | _ | _ | _ | _ | _ | _
 ·exact Calls.callWith_builtin (id:="len") h g
 ·exact Calls.callWith_builtin (id:="abs") h g
 ·exact _root_.PySem.callWith_type (T:="list") h g
 ·exact _root_.PySem.callWith_type (T:="tuple") h g
 ·exact _root_.PySem.callWith_type (T:="range") h g
 ·exact _root_.PySem.callWith_type (T:="range") h g
 ·exact _root_.PySem.callWith_type (T:="int") h g
 ·exact Calls.callWith_builtin (id:="sum") h g
theorem se_callB {b:MB}{np:Pos}(hs:SLs W k ms es)(hi:isGl k (bName b)=true):SE W k (.callB b ms) (.Call (.Name (bName b) np) es [] pos):=.of (fun uu uu uu uu q=>q) (fun uu=>rfl) fun X p Q q=>by
 rw [arm_eval_Call_Name']
 obtain ⟨h1,h2,h3⟩:=b_facts b
 refine wpAny_bind (load_builtin X.K p hi (X.K.noBuiltin _ h1) h2 h3 ?_)
 rw [hs.N]
 exact with_b (pl_any ..) (args_ok (hs.L X p _ q) fun xs vs c' r q l=>by induction q with | mk e q=>exact wtrans l (bui_ok X.K e q p.g.room.handled r))
theorem method_call {env:Env}{o:Expr}{name:Str}{apos pos:Pos}{ov f:Value}{first:List Value}{n:Nat}{args:List (Bool×Sem Value)}{A:Around}{s s':Shared}{E P:Value→Shared→Prop}(hfew:args.all (fun x=>!x.1)=true)(hn:n<29)(hline:(apos.endLine==pos.line)=true)
  (hm:∀ (R:Value×List Value→Shared→Prop)(pl:Sem Bool),R (f,first) s'→wpAny W.M A (getMethod ov name pl) R E s)(h:wpAny W.M A (callWith pos f first args []) P E s'):wpAny W.M A (methodCall o name apos pos env ov n args []) P E s:=by
 have hform:methodCallForm n args []=true:=by
  unfold methodCallForm
  rw [hfew]
  simp; lia
 have hpos:methodCallPos true o env apos pos=pure pos:=by unfold methodCallPos; simp [hline]
 unfold methodCall
 rw [hform]
 exact wpAny_bind (wpAny_holding (hm _ _ (wpAny_bind (wpAny_of_eq hpos h))))
theorem se_isbool {np bp:Pos}(he:SE W k m e)(hn:notStar e=true)(hi:isGl k "isinstance"=true)(hb:isGl k "bool"=true):SE W k (.isbool m) (.Call (.Name "isinstance" np) [e,.Name "bool" bp] [] pos):=.of (fun uu uu uu uu q=>q) (fun uu=>rfl) fun X p Q q=>by
 rw [arm_eval_Call_Name']
 refine wpAny_bind (load_builtin X.K p hi (X.K.noBuiltin "isinstance" (by decide)) (v:=.builtin "isinstance") (by kernel_rfl) (by decide) ?_)
 have z:backTo pos (starEach [e,.Name "bool" bp] p.G.env)=[(false,eval e p.G.env),(false,eval (.Name "bool" bp) p.G.env)]:=by rw [star_cons hn]; rfl
 rw [z]
 refine Calls.callWith_builtin (id:="isinstance") rfl (Calls.evalArgs_plain (Calls.spliced_cons (wout (he.v X p _ q) fun x v c' r q l=>Calls.spliced_cons (load_builtin X.K (p.to l) hb (X.K.noBuiltin "bool" (by decide)) (v:=.type "bool") (by kernel_rfl) (by decide) (Calls.spliced_nil ?_)))))
 induction q with | mk e q=>exact wtrans l (isbool_ok (t:=false) e r q)
noncomputable def lName:Nat→String
 | 0=>"list.append"
 | 1=>"list.extend"
 | _=>"list.pop"
noncomputable def dName:Nat→String
 | 2=>"dict.pop"
 | 3=>"dict.update"
 | 4=>"dict.get"
 | _=>"dict.setdefault"
noncomputable def mVal (W:Wd):MK→Nat→Value
 | .list,n=>.builtin (lName n)
 | .dict,n=>.builtin (dName n)
 | .inst f,_=>.ref (W.faddr f)
theorem word_at (K:WdOk W){i:Nat}{x:Str}(hi:i<6)(e:isStrs W i x):(["append", "extend", "pop", "update", "get", "setdefault"]:List Str)[i]?=some x:=by
 rw [← K.words,List.getElem?_take_of_lt hi]; exact e
theorem kget_none {as:List (Nat×MV)}{m:Nat}{L:List Nat}(al:∀ e∈as,e.1∈L)(h:∀ a∈L,a≠m):kget as m=none:=by
 induction as with
 | nil=>rfl
 | cons z l ih=>
  rw [List.forall_mem_cons] at al
  rw [kget_cons,if_neg (h _ al.1)]
  exact ih al.2
theorem slotMeth {c:Cf W}{A:Around}{T:String}{name:Str}{id:String}{a:Addr}{o:Obj}{R:Value×List Value→Shared→Prop}{pl:Sem Bool}(pa:PlainAttrs T)(slot:Slot T name id)(hty:typeOf (.builtin id)=pure (.type "method_descriptor"))(ho:c.h.get? a=some o)(hc:o.cls = .type T)(hd:o.dict=none)
  (q:R (.builtin id,[.ref a]) c.s):wpAny W.M A (getMethod (.ref a) name pl) R noE c.s:=
 getMethod_builtin ⟨_,ho,hc⟩ pa slot hty (fun b e=>by cases e; exact ⟨o,ho,hd⟩) q
theorem getM_ok (K:WdOk W){c:Cf W}{A:Around}{n:Nat}{x:MV}{v:Value}{nm:Str}{kd:MK}(e:Kind W.P c.hm n x kd)(hn:isStrs W n nm)(hv:c.V x v)(R:Value×List Value→Shared→Prop)(pl:Sem Bool)(q:R (mVal W kd n,[v]) c.s):wpAny W.M A (getMethod v nm pl) R noE c.s:=by
 induction e with
 | list p l=>
  refine Cf.listE hv p (P:=fun v=>R (_,[v]) c.s→wpAny W.M A (getMethod v nm pl) R noE c.s) (fun d its j uu uu g uu uu uu q=>?_) q
  have w:=word_at K (Nat.lt_trans l (by decide)) hn
  have hpl:PlainAttrs "list":=F.plainAttrs_list
  rcases n with _ | _ | _ | n
  ·rw [← Option.some.inj w]; exact slotMeth hpl F.slot_list_append F.type_list_append g rfl rfl q
  ·rw [← Option.some.inj w]; exact slotMeth hpl F.slot_list_extend F.type_list_extend g rfl rfl q
  ·rw [← Option.some.inj w]; exact slotMeth hpl F.slot_list_pop F.type_list_pop g rfl rfl q
  ·exact absurd l (Nat.not_lt.mpr (Nat.le_add_left ..))
 | dict p l=>
  refine Cf.dictE hv p (P:=fun v=>R (_,[v]) c.s→wpAny W.M A (getMethod v nm pl) R noE c.s) (fun d kvs uu uu g uu uu q=>?_) q
  have hpl:PlainAttrs "dict":=F.plainAttrs_dict
  obtain ⟨o,_,_,g1,g2,_⟩:=g
  rcases l with rfl | rfl | rfl | rfl
  ·rw [← Option.some.inj (word_at K (by decide) hn)]; exact slotMeth hpl F.slot_dict_pop F.type_dict_pop g1 g2.1 g2.2.1 q
  ·rw [← Option.some.inj (word_at K (by decide) hn)]; exact slotMeth hpl F.slot_dict_update F.type_dict_update g1 g2.1 g2.2.1 q
  ·rw [← Option.some.inj (word_at K (by decide) hn)]; exact slotMeth hpl F.slot_dict_get F.type_dict_get g1 g2.1 g2.2.1 q
  ·rw [← Option.some.inj (word_at K (by decide) hn)]; exact slotMeth hpl F.slot_dict_setdefault F.type_dict_setdefault g1 g2.1 g2.2.1 q
 | inst p e=>
  refine Cf.instE hv p (P:=fun v=>R (_,[v]) c.s→wpAny W.M A (getMethod v nm pl) R noE c.s) (fun d ds j hc uu I gd r uu al q=>?_) q
  obtain ⟨hf,ht,hat,_⟩:=K.meths _ _ _ e hn
  have hz:=r.find (fit_str K.nodup hn)
  have hsh:shadowIn (some (dictOf ds j)) nm=some false:=by
   unfold shadowIn lookIn
   simp only [hz.2.1 (kget_none al hat),hz.2.2]
   rfl
  exact method_fn (c.X K) I K.hga K.hgt hf ht hsh q
theorem meth_ok (K:WdOk W){c:Cf W}{A:Around}{n:Nat}{x u:MV}{v:Value}{xs:List MV}{vs:List Value}{kd:MK}{h':MHeap}{Q:KV}(e:Meth c.hm kd n x xs u h')(q:Q u h')(hv:c.V x v)(r:c.Vs xs vs):wpAny W.M A (call (mVal W kd n) (v::vs)) (Out c Cf.V Q) noE c.s:=by
 induction e with
 | append p l=>exact one r fun u hu=>append_ok p l q hv hu
 | extend p p' l=>exact one r fun u hu=>extend_ok p p' l q hv hu
 | popL p=>exact All2.nilE r (popL_ok p q hv)
 | get k p=>exact one r fun u hu=>get_ok K p q hv hu
 | get2 k w p=>exact two r fun u w hu hw=>get2_ok K p q hv hu hw
 | update p p' n l=>exact one r fun u hu=>upd_ok K p p' n l q hv hu
 | popD p e l=>exact All2.consE r fun u s hu hs=>popD_ok p e (by rw [hs.length]; exact l) q hv hu
 | popN p e=>exact two r fun u w hu hw=>popN_ok K p e q hv hu hw
 | defS p e=>exact two r fun u w hu hw=>def_ok K p (fun y e'=>by rw [e] at e'; exact Option.some.inj e'▸q) (fun e'=>ns (e'.symm.trans e)) hv hu hw
 | defN p e l=>exact two r fun u w hu hw=>def_ok K p (fun y e'=>ns (e.symm.trans e')) (fun uu=>⟨l,q⟩) hv hu hw
theorem se_callM {n:Nat}{o:Expr}{mo:ME}{nm:Str}{apos:Pos}(ho:SE W k mo o)(hs:SLs W k ms es)(hb:notSuper o=true)(hn:isStrs W n nm)(hl:(apos.endLine==pos.line)=true)(hk:es.length<29):SE W k (.callM mo n ms) (.Call (.Attribute o nm apos) es [] pos):=.of (fun uu uu uu uu q=>q) (fun uu=>rfl) fun X p Q q=>by
 rw [arm_eval_Call,notSuper_base hb]
 refine seqO (ho.v X p _ q) fun x v c' r q l=>atP ?_
 rw [hs.N]
 induction q with
 | @mk kd e q=>
 refine method_call (pl_all ..) hk hl (fun R pl q=>getM_ok X.K e hn r R pl q) ?_
 have go:=fun {P:Args→Shared→Prop}{f:Value}(g:∀ xs vs c2,c2.Vs xs vs→doM X.lg c2.hm x n xs Q kd→Later [] c' c2→P ⟨vs,[]⟩ c2.s)=>args_ok (f:=f) (hs.L X (p.to l) _ q) g
 rcases kd with _ | _ | f
 ·exact Calls.callWith_builtin (id:=lName n) (pl_any ..) (go fun xs vs c2 r2 q l2=>by induction q with | mk e q=>exact wtrans l2 (meth_ok X.K e q (r.later l2) r2))
 ·exact Calls.callWith_builtin (id:=dName n) (pl_any ..) (go fun xs vs c2 r2 q l2=>by induction q with | mk e q=>exact wtrans l2 (meth_ok X.K e q (r.later l2) r2))
 ·obtain ⟨_,_,_,hfn,_⟩:=X.K.meths n f nm (by cases e; assumption) hn
  obtain ⟨og,fd,hog,hfd⟩:=fnIn_of hfn
  exact Calls.callWith_function (o:=og) (fd:=fd) (go fun xs vs c2 r2 q l2=>⟨⟨c2.sim.base _ _ (X.K.X _ _ hog),hfd⟩,call_fn (p:=p.to l) l2 (.cons (r.later l2) r2) q⟩)
end
end Mini
end
section
namespace Mini
open PySem PySem.W PyProof.Rows PySem.SeqAt
section
variable {W:Wd}{c c':Cf W}{Q:KV}{D:Addr}
theorem ext_cell {h h':Heap}(k:ExtX [D] h h'):ExtX (cell D).own h h':=fun b o n e=>k b o (fun q=>n (by rw [List.mem_singleton.mp q]; exact own_a _)) e
noncomputable def Cf.adopt (c:Cf W){o:MObj}{h':Heap}(t:Nat)(a:Aside W.B c.ρ c.h D)(k:ExtX [D] c.h h')(R:ORel W (c.ρ++[cell D]) h' o (cell D)):Cf W:=
 ⟨c.ρ++[cell D],c.hm.new o,{ c.s with heap:=h',toks:=t },c.sim.adopt (ext_cell k) (fun b hb=>by rw [own_cell hb]; exact a.out) (fun b hb=>by rw [own_cell hb]; exact a.new) (fun b hb x e f=>by rw [own_cell hb] at e; exact a.live.nf e f) R,c.F,fr_alive c.fr (alive_x k fun a ha=>by induction R.live a (List.mem_singleton.mp ha▸own_a _) with | mk e _=>exact ⟨_,e⟩)⟩
theorem Later.adopt {o:MObj}{h':Heap}{t:Nat}{a:Aside W.B c'.ρ c'.h D}{k:ExtX [D] c'.h h'}{R:ORel W (c'.ρ++[cell D]) h' o (cell D)}(L:Later [] c c')(ab:Above c.h D):Later [] c (c'.adopt t a k R):=by
 have ne:∀ b o,c.h.get? b=some o→b∉[D]:=fun b o e q=>by rw [List.mem_singleton.mp q] at e; exact ab.no e
 exact ⟨⟨fun e=>at_app (L.at_ e),fun b hb=>(own_or hb).elim (L.fresh b) fun hb=>.inr (by rw [own_cell hb]; exact ab),fun b o e hb hX hS=>k b o (ne b o e) (L.keep b o e hb hX hS),fun b o e hb hX=>let ⟨sl,e'⟩:=L.slot b o e hb hX; ⟨sl,k b _ (ne b o e) e'⟩,fun b o e f=>k b o (ne b o e) (L.froz b o e f),fun b o e=>by
  obtain ⟨o',e'⟩:=L.alive b o e
  exact ⟨o',k b o' (ne b o e) e'⟩,L.rest⟩,L.f,Nat.le_succ_of_le L.tick,fun e=>absurd e (Nat.ne_of_lt (Nat.lt_succ_of_le L.tick))⟩
theorem adopt_V {o:MObj}{h':Heap}{t:Nat}{a:Aside W.B c'.ρ c'.h D}{k:ExtX [D] c'.h h'}{R:ORel W (c'.ρ++[cell D]) h' o (cell D)}:(c'.adopt t a k R).V (.ref c'.hm.next) (.ref D):=IsRef.mk (new_at c'.sim.len (cell D))
theorem out_adopt {o:MObj}{h':Heap}{t:Nat}(L:Later [] c c')(a:Aside c.h c'.ρ c'.h D)(k:ExtX [D] c'.h h')(R:ORel W (c'.ρ++[cell D]) h' o (cell D))(q:Q (.ref c'.hm.next) (c'.hm.new o)):Out c Cf.V Q (.ref D) { c'.s with heap:=h',toks:=t }:=
 Out.mk (c':=c'.adopt t a.base k R) adopt_V q (L.adopt a.new)
theorem not_own {c:Cf W}{a:Addr}(ab:Above c.h a):a∉owned c.ρ:=fun q=>by induction c.sim.live a q with | mk e _=>exact ab.no e
theorem aside_new {h':Heap}{a:Addr}(ab:c.h.objs.size≤a)(l:Lives h' a):Aside c.h c.ρ h' a:=⟨not_own (above_size _ ab),above_size _ ab,l⟩
end
section
variable {W:Wd}{k:Ck}{pos:Pos}{kk:Nat}{e e':Expr}{es:List Expr}{m m':ME}{ms:MEs}
theorem pairs_arm (a:Sem Value)(v:Sem Value) (r):evalPairs ((a,v)::r)=(a>>=fun kv=>holding [kv] v>>=fun vv=>holding [kv,vv] (evalPairs r)>>=fun s=>pure ((kv,vv)::s)):=rfl
theorem se_dict2 {n n':Nat}{x x':Str}{a a':Nat}{q₁ q₂:Pos}(he:SE W k m e)(he':SE W k m' e')(hn:isStrs W n x)(hn':isStrs W n' x')(hne:n≠n'):SE W k (.dict2 n m n' m') (.Dict [some (.Constant (.str x) a q₁),some (.Constant (.str x') a' q₂)] [e,e'] pos):=.of (fun uu uu uu uu q=>q) (fun uu=>rfl) fun X p Q q=>by
 have hx:x≠x':=fun z=>hne ((fit_str X.K.nodup hn' _ _ hn).mpr z)
 refine wpAny_Dict_pairs (knd:=strKind W.prog W.w) (pairs:=[(eval (.Constant (.str x) a q₁) p.G.env,eval e p.G.env>>=fun x=>standAt pos>>=fun uu=>pure x),(eval (.Constant (.str x') a' q₂) p.G.env,eval e' p.G.env>>=fun x=>standAt pos>>=fun uu=>pure x)]) rfl (List.cons_ne_nil _ _) (Nat.le_of_ble_eq_true rfl) ?_
 have g0:Ext p.c.h (p.c.h.push { cls:=.type "dict",data:=.dict #[] }):=.push _ _
 have D0:(p.c.h.push { cls:=.type "dict",data:=.dict #[] }).DictOf (strKind W.prog W.w) p.c.h.objs.size []:=Heap.DictOf.new _
 have L0:=later_grow (X:=[]) (t:=p.c.s.toks + 1) g0
 have a0:Aside p.c.h (p.c.grow (p.c.s.toks + 1) g0).ρ (p.c.grow (p.c.s.toks + 1) g0).h p.c.h.objs.size:=aside_new (Nat.le_refl _) (DictOf.lives D0)
 rw [pairs_arm]
 refine wpAny_bind (Calls.Constant_str (wpAny_bind (wpAny_holding (wpAny_bind (wout (c:=p.c.grow (p.c.s.toks + 1) g0) (he.v X (p.to L0) _ q) fun v u c1 r q l=>?_)))))
 refine atP (wpAny_pure (wpAny_bind (wpAny_holding ?_)))
 rw [pairs_arm]
 have L1:Later [] c1 (c1.grow (c1.s.toks + 1) (.refl _)):=later_grow _
 refine wpAny_bind (Calls.Constant_str (wpAny_bind (wpAny_holding (wpAny_bind (wout (c:=c1.grow (c1.s.toks + 1) (.refl _)) (he'.v X ((p.to (L0.trans l)).to L1) _ q) fun v' u' c2 r' q l'=>?_)))))
 refine atP (wpAny_pure (wpAny_bind (wpAny_holding (wpAny_pure (wpAny_pure (wpAny_pure ?_))))))
 have l2:=L1.trans l'
 have L:=(L0.trans l).trans l2
 have a2:Aside p.c.h c2.ρ c2.h p.c.h.objs.size:=(a0.later l.toLaterR List.not_mem_nil).later l2.toLaterR List.not_mem_nil
 refine ⟨[(x,u),(x',u')],⟨strKind_is _ _ _ _,rfl,strKind_is _ _ _ _,rfl,trivial⟩,?_,fun h' d' sb=>out_adopt (o:=.sdict _) L a2 (fun b o n e=>(sb.2 b fun q=>n (List.mem_singleton.mpr q)).trans e) ?_ q⟩
 ·obtain ⟨o,es,ep,g,r⟩:=D0
  exact ⟨o,es,ep,(l.trans l2).keep _ _ g a0.out List.not_mem_nil (Above.nf (c:=p.c) a0.new),r⟩
 ·rw [merged_nil_of_nodup [(x,u),(x',u')] (List.nodup_cons.mpr ⟨fun q=>hx (List.mem_singleton.mp q),List.nodup_cons.mpr ⟨List.not_mem_nil,List.nodup_nil⟩⟩)] at d'
  have st:Stay c2.ρ c2.h (c2.ρ++[cell p.c.h.objs.size]) h':=⟨at_app,fun b o e f=>(sb.2 b fun q=>by rw [q] at e; exact a2.live.nf e f).trans e⟩
  exact DRel.mk (c:=cell _) rfl d' (KRel.stay st (.cons ⟨hn,r.later l2⟩ (.cons ⟨hn',r'⟩ .nil))) (Nat.le_of_ble_eq_true rfl)
theorem se_dict1 (he:SE W k m e)(he':SE W k m' e'):SE W k (.dict1 m m') (.Dict [some e] [e'] pos):=.of (fun X vars Q h q=>q) (fun uu=>rfl) fun X p Q q=>by
 refine wpAny_Dict_pairs (knd:=intKind W.prog W.w) (pairs:=[(eval e p.G.env,eval e' p.G.env>>=fun x=>standAt pos>>=fun uu=>pure x)]) rfl (List.cons_ne_nil _ _) (Nat.le_of_ble_eq_true rfl) ?_
 have g0:Ext p.c.h (p.c.h.push { cls:=.type "dict",data:=.dict #[] }):=.push _ _
 have D0:(p.c.h.push { cls:=.type "dict",data:=.dict #[] }).DictOf (intKind W.prog W.w) p.c.h.objs.size []:=Heap.DictOf.new _
 have L0:=later_grow (X:=[]) (t:=p.c.s.toks) g0
 have a0:Aside p.c.h (p.c.grow p.c.s.toks g0).ρ (p.c.grow p.c.s.toks g0).h p.c.h.objs.size:=aside_new (Nat.le_refl _) (DictOf.lives D0)
 rw [pairs_arm]
 refine wpAny_bind (wout (c:=p.c.grow p.c.s.toks g0) (he.v X (p.to L0) _ q) fun v kv c1 r q l=>?_)
 refine wpAny_bind (wpAny_holding (wpAny_bind (wout (he'.v X ((p.to L0).to l) _ q) fun v' u c2 r' q l2=>?_)))
 refine atP (wpAny_pure (wpAny_bind (wpAny_holding (wpAny_pure (wpAny_pure ?_)))))
 have L:=(L0.trans l).trans l2
 have a2:Aside p.c.h c2.ρ c2.h p.c.h.objs.size:=(a0.later l.toLaterR List.not_mem_nil).later l2.toLaterR List.not_mem_nil
 have r:=r.later l2
 induction q with
 | @mk i e q=>
 rw [e] at r
 have r:IsInt i kv:=r
 induction r with
 | mk tk=>
 refine ⟨[(i,u)],⟨intKind_is _ _ _ tk,rfl,trivial⟩,?_,fun h' d' sb=>out_adopt (o:=.idict _) L a2 (fun b o n e=>(sb.2 b fun q=>n (List.mem_singleton.mpr q)).trans e) ?_ q⟩
 ·obtain ⟨o,es,ep,g,r⟩:=D0
  exact ⟨o,es,ep,(l.trans l2).keep _ _ g a0.out List.not_mem_nil (Above.nf (c:=p.c) a0.new),r⟩
 ·rw [merged_nil_of_nodup [(i,u)] (List.nodup_cons.mpr ⟨List.not_mem_nil,List.nodup_nil⟩)] at d'
  have st:Stay c2.ρ c2.h (c2.ρ++[cell p.c.h.objs.size]) h':=⟨at_app,fun b o e f=>(sb.2 b fun q=>by rw [q] at e; exact a2.live.nf e f).trans e⟩
  exact DRel.mk (c:=cell _) rfl d' (KRel.stay st (.cons ⟨rfl,r'⟩ .nil)) (Nat.le_of_ble_eq_true rfl)
theorem se_new {id:Str}{np:Pos}(hs:SLs W k ms es)(hi:isGl k id=true)(hid:id=W.T.cname):SE W k (.new ms) (.Call (.Name id np) es [] pos):=.of (fun uu uu uu uu q=>q) (fun uu=>rfl) fun X p Q q=>by
 have K:=X.K
 subst hid
 rw [arm_eval_Call_Name']
 refine wpAny_bind (load_glob K p hi K.cGlob ?_)
 rw [hs.N]
 refine callWith_of (by rw [pl_any]; rfl) (keeps_K K.ckeep) (args_ok (hs.L X p _ q) fun xs vs c' r q l=>?_)
 have XK:=c'.X K
 refine ⟨XK,wpAny_call ?_⟩
 refine make_core (h:=c'.h) (g:=c'.s.gens) (d:=c'.s.drawn) (t:=c'.s.toks) (os:=c'.s.os) (makes_of XK K.make) (looks_findIn XK K.initOf) (fun self=>bind_fn XK self K.initFn) (.inl rfl) ?_
 have g1:Ext c'.h ((c'.h.push emptyDict).push (instObj W.C c'.h.objs.size)):=.trans (.push _ _) (.push _ _)
 have hd:∀ a∈(Cell.mk (c'.h.objs.size + 1) c'.h.objs.size).own,Above c'.h a:=fun a ha=>(mem_own.mp ha).elim (fun e=>e▸above_size _ (Nat.le_succ _)) fun e=>e▸above_size _ (Nat.le_refl _)
 have R:ORel W (c'.ρ++[⟨c'.h.objs.size + 1,c'.h.objs.size⟩]) ((c'.h.push emptyDict).push (instObj W.C c'.h.objs.size)) (.inst []) ⟨c'.h.objs.size + 1,c'.h.objs.size⟩:=
  NRel.mk (es:=[]) (n:=0) (Nat.ne_of_lt (Nat.lt_succ_self _)) (by have:=Heap.get?_push_size (c'.h.push emptyDict) (o:=instObj W.C c'.h.objs.size) rfl; rwa [Heap.size_push] at this) (Heap.get?_push_of_some _ (Heap.get?_push_size _ rfl)) .nil (Nat.zero_le _) fun e he=>absurd he List.not_mem_nil
 have L2:Later [] c' (c'.new c'.s.toks g1 hd R):=later_new
 have hself:(c'.new c'.s.toks g1 hd R).V (.ref c'.hm.next) (.ref (c'.h.objs.size + 1)):=IsRef.mk (new_at c'.sim.len _)
 have e:(Code.builtin "type.__call__" { pos:=Value.ref W.C::([]++vs) }).frames=0:=rfl
 refine codeAny_mono (X.ok W.P.init (p.G.A.under _) (.ref c'.hm.next::xs) (.ref (c'.h.objs.size + 1)::vs) _ (c'.new c'.s.toks g1 hd R) p.g.room.handled ?_ ?_ ((p.O.stk.later (l.trans L2)).to rfl) (.cons hself (r.later L2)) q) fun r s'' h=>?_
 ·have:=p.g.room.depth
  show p.G.A.depth + 1 + 4 * X.d + 2≤900
  omega
 ·have:=p.g.room.units
  show p.G.A.units + _ + 40 * X.d + 20≤9000
  simp only [Code.cUnits,e]
  omega
 ·rcases r with e | (_ | _ | _ | v) <;> first | exact h.elim | skip
  have h:Out (c'.new c'.s.toks g1 hd R) Cf.V _ v s'':=h
  induction h with
  | mk r q l3=>
   rw [q.1] at r
   exact ⟨r,Out.mk (a:=MV.ref c'.hm.next) (hself.later l3) q.2 ((l.trans L2).trans l3)⟩
end
end Mini
end
section
namespace Mini
open PySem PySem.W PyProof.Rows PySem.SeqAt
noncomputable def clStep (env:Env)(p:Str×NameKind)(cs:List (Str×Addr)):List (Str×Addr):=if p.2==.free then (match env.cells.lookup p.1 with | some a=>(p.1,a)::cs | none=>cs) else cs
noncomputable def clFold (env:Env):List (Str×NameKind)→List (Str×Addr)→List (Str×Addr)
 | [],cs=>cs
 | p::r,cs=>clFold env r (clStep env p cs)
section
variable {env:Env}{names:List (Str×NameKind)}{cs:List (Str×Addr)}
theorem clFold_eq (h:∀ p∈names,p.2 = .free→(env.cells.lookup p.1).isSome=true) :
  (forIn names cs fun x r=>(match x with | (name,kind)=>if kind==.free then do let a ← cellOf env name; pure (ForInStep.yield ((name,a)::r)) else pure (ForInStep.yield r):Sem (ForInStep (List (Str×Addr)))))=pure (clFold env names cs):=by
 induction names generalizing cs with
 | nil=>rfl
 | cons p r ih=>
  rw [List.forall_mem_cons] at h
  obtain ⟨n,k⟩:=p
  rw [List.forIn_cons]
  unfold clFold clStep
  by_cases hk:(k==NameKind.free)=true
  ·obtain ⟨a,ha⟩:=Option.isSome_iff_exists.mp (h.1 (eq_of_beq hk))
   have e:cellOf env n=pure a:=by unfold cellOf; rw [ha]
   dsimp only
   rw [if_pos hk,if_pos hk,e,ha]
   exact ih h.2
  ·dsimp only
   rw [if_neg hk,if_neg hk]
   exact ih h.2
theorem clStep_sound {n:Str}{a:Addr}{p:Str×NameKind}(h:(clStep env p cs).lookup n=some a):cs.lookup n=some a∨((n,NameKind.free)=p∧env.cells.lookup n=some a):=by
 unfold clStep at h
 by_cases hk:(p.2==NameKind.free)=true
 ·rw [if_pos hk] at h
  cases ha:env.cells.lookup p.1 with
  | none=>rw [ha] at h; exact .inl h
  | some b=>
   rw [ha] at h
   dsimp only at h
   rw [List.lookup_cons] at h
   by_cases q:(n==p.1)=true
   ·rw [q] at h
    obtain ⟨m,kk⟩:=p
    obtain rfl:n=m:=eq_of_beq q
    obtain rfl:kk = .free:=eq_of_beq hk
    exact .inr ⟨rfl,ha.trans h⟩
   ·rw [Bool.eq_false_iff.mpr q] at h
    exact .inl h
 ·rw [if_neg hk] at h
  exact .inl h
theorem clFold_sound {n:Str}{a:Addr}(h:(clFold env names cs).lookup n=some a):cs.lookup n=some a∨((n,NameKind.free)∈names∧env.cells.lookup n=some a):=by
 induction names generalizing cs with
 | nil=>exact .inl h
 | cons p r ih=>
  rcases ih h with h | h
  ·rcases clStep_sound h with h | ⟨e,h⟩
   ·exact .inl h
   ·exact .inr ⟨e▸.head _,h⟩
  ·exact .inr ⟨.tail _ h.1,h.2⟩
theorem clFold_some {n:Str}(hn:∀ p∈names,p.2 = .free→(env.cells.lookup p.1).isSome=true)(h:(cs.lookup n).isSome=true∨(n,NameKind.free)∈names):((clFold env names cs).lookup n).isSome=true:=by
 induction names generalizing cs with
 | nil=>exact h.resolve_right List.not_mem_nil
 | cons p r ih=>
  rw [List.forall_mem_cons] at hn
  refine ih hn.2 ?_
  unfold clStep
  by_cases hk:(p.2==NameKind.free)=true
  ·obtain ⟨a,ha⟩:=Option.isSome_iff_exists.mp (hn.1 (eq_of_beq hk))
   rw [if_pos hk,ha]
   dsimp only
   rw [List.lookup_cons]
   by_cases q:(n==p.1)=true
   ·rw [q]; exact .inl rfl
   ·rw [Bool.eq_false_iff.mpr q]
    exact h.imp id fun h=>(List.mem_cons.mp h).resolve_left fun e=>q (by rw [← e]; exact beq_self_eq_true n)
  ·rw [if_neg hk]
   exact h.imp id fun h=>(List.mem_cons.mp h).resolve_left fun e=>hk (by rw [← e]; rfl)
theorem closure_eq {scope:Scope}(h:∀ p∈scope.names,p.2 = .free→(env.cells.lookup p.1).isSome=true):closureFor scope env=pure (clFold env scope.names []):=by
 unfold closureFor
 show (forIn scope.names [] _>>=fun cs=>pure cs)=_
 refine Eq.trans (congrArg (·>>=fun cs=>pure cs) (Eq.trans ?_ (clFold_eq (cs:=[]) h))) rfl
 congr 1
end
noncomputable def reKind (outer:Ck)(n:Str)(k:NameKind):NameKind:=if (k==.free&&outer.scope.kind==.function&&outer.kind n==some .cell) then .cell else k
noncomputable def relabelS (outer:Ck)(scope:Scope):Scope:={ scope with names:=scope.names.map fun p=>(p.1,reKind outer p.1 p.2) }
noncomputable def innerVs (k:Ck)(scope:Scope):List (Str×Nat):=scope.names.filterMap fun nk=>if nk.2==.free then (k.vs.lookup nk.1).map (nk.1,·) else none
noncomputable def Ck.inner (k:Ck)(scope:Scope)(y:Str)(x:Nat):Ck:=⟨relabelS k scope,(y,x)::innerVs k scope⟩
noncomputable def compOk (k:Ck)(scope:Scope)(y:Str)(x:Nat):Bool:=
 scope.kind==.function&&(scope.names.lookup y==some .local&&(scope.names.all (fun nk=>nk.2 != .cell&&(nk.2 != .local||scope.names.lookup nk.1==some .local)) &&
 (scope.names.all (fun nk=>nk.2 != .free||((k.vs.lookup nk.1).isSome&&(k.kind nk.1==some .cell||k.kind nk.1==some .free)&&scope.names.lookup nk.1==some .free))&&k.vs.all (fun p=>p.2 != x))))
structure CompOk (k:Ck)(scope:Scope)(y:Str)(x:Nat):Prop where
 kind:scope.kind = .function
 here:scope.names.lookup y=some .local
 noCell:∀ p∈scope.names,p.2≠.cell
 loc:∀ p∈scope.names,p.2 = .local→scope.names.lookup p.1=some .local
 free:∀ p∈scope.names,p.2 = .free→(k.vs.lookup p.1).isSome=true∧(k.kind p.1=some .cell∨k.kind p.1=some .free)∧scope.names.lookup p.1=some .free
 fresh:∀ n i,k.vs.lookup n=some i→i≠x
theorem bor {a b:Bool}(h:(a||b)=true):a=true∨b=true:=(Bool.or_eq_true a b).mp h
theorem imp_of {α:Type} [BEq α] [LawfulBEq α]{a b:α}{c:Bool}(h:(a != b||c)=true)(e:a=b):c=true:=(bor h).resolve_left fun q=>by rw [e,bne_self_eq_false] at q; exact ff q
section
variable {W:Wd}{G:Gx}{k:Ck}{d:Nat}{scope:Scope}{y:Str}{x:Nat}
theorem compOk_of (h:compOk k scope y x=true):CompOk k scope y x:=by
 obtain ⟨h1,h⟩:=t2 h
 obtain ⟨h2,h⟩:=t2 h
 obtain ⟨h3,h⟩:=t2 h
 obtain ⟨h4,h5⟩:=t2 h
 exact ⟨eq_of_beq h1,eq_of_beq h2,fun p hp=>bne_iff_ne.mp (t2 (List.all_eq_true.mp h3 p hp)).1,fun p hp e=>eq_of_beq (imp_of (t2 (List.all_eq_true.mp h3 p hp)).2 e),fun p hp e=>
  have q:=t2 (imp_of (List.all_eq_true.mp h4 p hp) e)
  ⟨(t2 q.1).1,(bor (t2 q.1).2).imp (fun e=>eq_of_beq e) (fun e=>eq_of_beq e),eq_of_beq q.2⟩,fun n i e=>bne_iff_ne.mp (List.all_eq_true.mp h5 _ (mem_of_look e))⟩
theorem lookup_map2 {f:Str→NameKind→NameKind}{l:List (Str×NameKind)}{n:Str}:(l.map fun p=>(p.1,f p.1 p.2)).lookup n=(l.lookup n).map (f n):=by
 induction l with
 | nil=>rfl
 | cons p r ih=>
  obtain ⟨m,kk⟩:=p
  rw [List.map_cons,List.lookup_cons,List.lookup_cons]
  by_cases q:(n==m)=true
  ·rw [q,eq_of_beq q]; rfl
  ·rw [Bool.eq_false_iff.mpr q]; exact ih
theorem relabel_eq (g:GOk W k d G):relabel scope G.env=relabelS k scope:=by
 unfold relabel relabelS
 congr 1
 refine List.map_congr_left fun p uu=>?_
 obtain ⟨n,kk⟩:=p
 unfold reKind
 rw [← g.kind,← g.scope]
 dsimp only
 split <;> rfl
noncomputable def Gx.inner (G:Gx)(k:Ck)(scope:Scope)(C:Addr)(y:Str)(x:Nat):Gx:=⟨compEnvC scope (clFold G.env scope.names []) C G.env,(k.inner scope y x).vs,G.A⟩
theorem cells_there (o:CompOk k scope y x)(g:GOk W k d G):∀ p∈scope.names,p.2 = .free→(G.env.cells.lookup p.1).isSome=true:=fun p hp e=>by
 obtain ⟨h1,h2,_⟩:=o.free p hp e
 obtain ⟨i,hi⟩:=Option.isSome_iff_exists.mp h1
 exact g.place p.1 i (by rw [g.vs]; exact hi) (by rw [g.kind]; exact h2)
theorem inner_look {n:Str}{i:Nat}(h:(innerVs k scope).lookup n=some i):(n,NameKind.free)∈scope.names∧k.vs.lookup n=some i:=by
 obtain ⟨p,hp,e⟩:=List.mem_filterMap.mp (mem_of_look h)
 obtain ⟨m,kk⟩:=p
 by_cases q:(kk==NameKind.free)=true
 ·rw [if_pos q] at e
  obtain ⟨j,hj,e⟩:=Option.map_eq_some_iff.mp e
  obtain ⟨e1,e2⟩:=Prod.mk.inj e
  exact ⟨e1▸eq_of_beq q▸hp,e1▸e2▸hj⟩
 ·rw [if_neg q] at e; exact ns e
inductive InnerV (k:Ck)(scope:Scope)(y:Str)(x:Nat)(n:Str)(i:Nat):Prop
 | here (e:n=y)(e':i=x)
 | out (ne:n≠y)(m:(n,NameKind.free)∈scope.names)(l:k.vs.lookup n=some i)(ne':i≠x)
theorem innerV (o:CompOk k scope y x){n:Str}{i:Nat}(h:(k.inner scope y x).vs.lookup n=some i):InnerV k scope y x n i:=by
 have h:List.lookup n ((y,x)::innerVs k scope)=some i:=h
 rw [List.lookup_cons] at h
 by_cases q:(n==y)=true
 ·rw [q] at h; exact .here (eq_of_beq q) (Option.some.inj h).symm
 ·rw [Bool.eq_false_iff.mpr q] at h
  have z:=inner_look h
  exact .out (fun e=>q (beq_iff_eq.mpr e)) z.1 z.2 (o.fresh _ _ z.2)
end
end Mini
end
section
namespace Mini
open PySem PySem.W PyProof.Rows PySem.SeqAt
section
variable {W:Wd}{G:Gx}{k:Ck}{d:Nat}{scope:Scope}{y:Str}{x:Nat}{c:Cf W}{C:Addr}{vars:Vars}
theorem inner_kind (g:GOk W k d G){n:Str}:(G.inner k scope C y x).env.kindOf n=(scope.names.lookup n).map (reKind k n):=by
 show (relabel scope G.env).names.lookup n=_
 rw [relabel_eq g]
 exact lookup_map2
theorem inner_here (o:CompOk k scope y x)(g:GOk W k d G):(G.inner k scope C y x).env.kindOf y=some .local:=by rw [inner_kind g,o.here]; rfl
theorem inner_free (o:CompOk k scope y x)(g:GOk W k d G){n:Str}(h:(n,NameKind.free)∈scope.names):(G.inner k scope C y x).env.kindOf n=some .cell∧k.kind n=some .cell∨(G.inner k scope C y x).env.kindOf n=some .free:=by
 rw [inner_kind g,(o.free _ h rfl).2.2,Option.map_some]
 unfold reKind
 split
 ·rename_i q; exact .inl ⟨rfl,eq_of_beq (t2 q).2⟩
 ·exact .inr rfl
theorem inner_sound {n:Str}{a:Addr}(e:(G.inner k scope C y x).env.cells.lookup n=some a):(n,NameKind.free)∈scope.names∧G.env.cells.lookup n=some a:=(clFold_sound e).resolve_left fun e=>ns e
theorem inner_g (o:CompOk k scope y x)(g:GOk W k d G)(hB:Above W.B C)(hne:∀ n a,G.env.cells.lookup n=some a→a≠C):GOk W (k.inner scope y x) d (G.inner k scope C y x) where
 scope:=relabel_eq g
 vs:=rfl
 fn:=o.kind
 globals:=g.globals
 builtins:=g.builtins
 room:=g.room
 apart:=fun n a e=>hne n a (inner_sound e).2
 apartC:=fun n n' a e e'=>g.apartC n n' a (inner_sound e).2 (inner_sound e').2
 place:=fun n i e e'=>by
  induction innerV o e with
  | here e1 e2=>rw [e1,inner_here o g] at e'; rcases e' with e' | e' <;> cases e'
  | out ne m l ne'=>exact clFold_some (cells_there o g) (.inr m)
 inj:=fun n n' i e e'=>by
  induction innerV o e with
  | here e1 e2=>
   induction innerV o e' with
   | here e3 e4=>exact e1.trans e3.symm
   | out ne m l ne'=>exact absurd e2 ne'
  | out ne m l ne'=>
   induction innerV o e' with
   | here e3 e4=>exact absurd e4 ne'
   | out ne2 m2 l2 _=>exact g.inj n n' i (by rw [g.vs]; exact l) (by rw [g.vs]; exact l2)
 base:=fun a ha=>by
  rcases List.mem_cons.mp ha with e | e
  ·rw [e]; exact hB
  ·obtain ⟨p,hp,e⟩:=List.mem_filterMap.mp e
   by_cases q:((G.inner k scope C y x).env.kindOf p.1==some .cell)=true
   ·rw [if_pos q] at e
    have z:=inner_sound e
    rcases inner_free (C:=C) o g z.1 with w | w
    ·exact g.base a (List.mem_cons_of_mem _ (List.mem_filterMap.mpr ⟨(p.1,a),mem_of_look z.2,by rw [g.kind,w.2,if_pos (beq_self_eq_true _)]; exact z.2⟩))
    ·rw [w] at q; exact ff q
   ·rw [if_neg q] at e; exact ns e
theorem inner_fr (o:CompOk k scope y x)(g:GOk W k d G)(O:Fr G vars c){m':Str→Option Value}{v:MV}{u:Value}(hC:C∉owned c.ρ)(n:c.h.Ns C m')(hm:m' y=some u)(hv:c.V v u):Fr (G.inner k scope C y x) (Vars.set vars x v) c:=by
 induction O.store with
 | @mk m cm l cc hh=>
 refine ⟨.mk n (fun n a e=>cc n a (inner_sound e).2) fun n i w e1 e2=>?_,fun a ha=>?_,?_⟩
 ·have e2:(if i=x then some v else vars i)=some w:=e2
  induction innerV o e1 with
  | here q1 q2=>
   rw [if_pos q2] at e2
   exact .mk (Option.some.inj e2▸hv) (.loc (by rw [q1]; exact inner_here o g) (by rw [q1]; exact hm))
  | out ne m l ne'=>
   rw [if_neg ne'] at e2
   induction hh n i w (by rw [g.vs]; exact l) e2 with
   | mk r s=>
    refine .mk r ?_
    obtain ⟨a,ha⟩:=Option.isSome_iff_exists.mp (clFold_some (cs:=[]) (cells_there o g) (.inr m))
    refine .cell ((inner_free o g m).imp And.left id) ha ?_
    induction s with
    | loc k1 e=>
     rw [g.kind] at k1
     rcases (o.free _ m rfl).2.1 with z | z <;> rw [z] at k1 <;> cases k1
    | cell _ _ e=>exact e
 ·rcases List.mem_cons.mp ha with e | e
  ·rw [e]; exact hC
  ·obtain ⟨p,_,e⟩:=List.mem_filterMap.mp e
   exact O.out a (Gx.own_cell (inner_sound e).2)
 ·exact O.stk
end
inductive TupIt (W:Wd)(ρ:Cells)(h:Heap)(I:Addr)(j:Nat)(vs:List MV):Prop
 | mk {a:Addr}{its:Array Value}{n:Nat}(g:h.get? a=some { cls:=.type "tuple",data:=.seq its n })(r:All2 (FRel W ρ h) vs its.toList)(ne:a≠I)(it:h.IsTupleIter I a j)
inductive RefIt (ρ:Cells)(h:Heap)(I:Addr)(j:Nat)(i:Nat):Prop
 | mk {c:Cell}(e:ρ[i]?=some c)(it:h.IsListIter I c.a j)(ne:c.a≠I)
inductive KeyIt (W:Wd)(ρ:Cells)(h:Heap)(n:Nat)(I:Addr)(j i t:Nat):Prop
 | mk {c:Cell}{sz ep:Nat}(e:ρ[i]?=some c)(it:h.IsKeyIter I c.a j sz ep)(ne:c.a≠I)(le:t≤n)(d:n=t→∃ kvs:List (Int×Value),h.DictAt (intKind W.prog W.w) c.a kvs ep∧kvs.length=sz)
noncomputable def IterOk (W:Wd)(ρ:Cells)(h:Heap)(n:Nat)(I:Addr)(j:Nat):MV→Prop
 | .keys i t=>KeyIt W ρ h n I j i t
 | .tup vs=>TupIt W ρ h I j vs
 | .rng lo hi=>IsRangeIter h I (lo + (j:Int)) (((hi - lo).toNat:Int) - (j:Int)) 1
 | .ref i=>RefIt ρ h I j i
 | _=>False
theorem rangeSize1 (lo hi:Int):Builtin.Range.rangeSize lo hi 1=((hi - lo).toNat:Int):=by
 unfold Builtin.Range.rangeSize
 split
 ·split <;> simp <;> lia
 ·lia
theorem rng_small {lo hi:Int}(h1:small lo)(h2:small hi):Builtin.Range.small lo hi 1=true:=by
 unfold Builtin.Range.small Builtin.Range.rangeFitsLong
 rw [rangeSize1]
 unfold small intLine at h1 h2
 have:(1:Int) > 0:=by lia
 simp only [this,if_true,Bool.and_eq_true,decide_eq_true_eq,Bool.or_eq_true]
 refine ⟨⟨⟨⟨?_,?_⟩,?_⟩,?_⟩,.inr ?_⟩ <;> constructor <;> lia
section
variable {W:Wd}{c:Cf W}{A:Around}{v:MV}{u:Value}{xs:List MV}{I:Addr}{j n n':Nat}{ρ ρ':Cells}{h h':Heap}
theorem iter_start (K:WdOk W)(e:Items c.hm v xs)(hv:c.V v u){Q:Value→Shared→Prop}(k:∀ o,Lives (c.h.push o) c.h.objs.size→IterOk W c.ρ (c.h.push o) c.hm.tick c.h.objs.size 0 v→Q (.ref c.h.objs.size) { c.s with heap:=c.h.push o }):wpAny W.M A (pyIter u) Q noE c.s:=by
 induction e with
 | @keys i es p=>
  refine Cf.dictE (P:=fun u=>wpAny W.M A (pyIter u) Q noE c.s) (show c.V (.ref i) u from hv) p fun d kvs hc uu g r l=>?_
  obtain ⟨ep,g⟩:=g.dictAt
  exact wpAny_pyIter_dict (Cf.notMods K hc) g (k _ (.mk (Heap.get?_push_size _ rfl) (nf_c rfl)) (KeyIt.mk hc ⟨_,Heap.get?_push_size _ rfl,rfl,rfl⟩ (Nat.ne_of_lt g.lt_size) (Nat.le_refl _) fun uu=>⟨kvs,g.push _,rfl⟩))
 | tup xs=>
  refine IsTup.elim hv fun a its n g r l=>wpAny_pyIter_tuple ⟨_,g,rfl,n,rfl⟩ (k _ (.mk (Heap.get?_push_size _ rfl) (nf_c rfl)) ?_)
  exact TupIt.mk (Heap.get?_push_of_some _ g) (r.imp fun uu uu=>FRel.stay (Ext.stay (.push _ _))) (Nat.ne_of_lt (Heap.lt_size g)) ⟨_,Heap.get?_push_size _ rfl,rfl,rfl⟩
 | rng lo hi=>
  have hv:IsRng c.h lo hi u:=hv
  induction hv with
  | mk g l1 l2=>
   refine wpAny_pyIter_range g (rng_small l1 l2) (k _ (.mk (Heap.get?_push_size _ rfl) (nf_c rfl)) ?_)
   show IsRangeIter _ _ _ _ _
   rw [rangeSize1]
   simpa using Heap.get?_push_size _ rfl
 | list p=>
  refine Cf.listE hv p fun d its n hc uu g r l z=>wpAny_pyIter_list g.isList (k _ (.mk (Heap.get?_push_size _ rfl) (nf_c rfl)) ?_)
  exact RefIt.mk hc ⟨_,Heap.get?_push_size _ rfl,rfl,rfl⟩ (Nat.ne_of_lt (Heap.lt_size g))
theorem iter_self {s:Shared}{E:Value→Shared→Prop}(it:IterOk W ρ s.heap n I j v){Q:Value→Shared→Prop}(q:Q (.ref I) s):wpAny W.M A (pyIter (.ref I)) Q E s:=by
 rcases v with _ | _ | _ | _ | vs | ⟨lo,hi⟩ | _ | i | ⟨i,t⟩ <;> try exact it.elim
 ·have it:TupIt W ρ s.heap I j vs:=it
  induction it with | mk g r ne it=>exact wpAny_pyIter_tupleiter it q
 ·exact wpAny_pyIter_rangeiter it q
 ·have it:RefIt ρ s.heap I j i:=it
  induction it with | mk e it ne=>exact wpAny_pyIter_listiter it q
 ·have it:KeyIt W ρ s.heap n I j i t:=it
  induction it with | mk e it ne le d=>exact wpAny_pyIter_keyiter it q
theorem IterOk.keep (it:IterOk W ρ h n I j v)(st:Stay ρ h ρ' h')(k:∀ o,h.get? I=some o→h'.get? I=some o)(tk:n≤n')(ow:n=n'→∀ b o,b∈owned ρ→h.get? b=some o→h'.get? b=some o):IterOk W ρ' h' n' I j v:=by
 rcases v with _ | _ | _ | _ | vs | ⟨lo,hi⟩ | _ | i | ⟨i,t⟩ <;> try exact it.elim
 ·have it:TupIt W ρ h I j vs:=it
  induction it with | mk g r ne it=>obtain ⟨o,e1,e2⟩:=it; exact TupIt.mk (st.froz _ _ g ⟨rfl,rfl⟩) (r.imp fun uu uu=>FRel.stay st) ne ⟨o,k o e1,e2⟩
 ·exact k _ it
 ·have it:RefIt ρ h I j i:=it
  induction it with | mk e it ne=>obtain ⟨o,e1,e2⟩:=it; exact RefIt.mk (st.at_ e) ⟨o,k o e1,e2⟩ ne
 ·have it:KeyIt W ρ h n I j i t:=it
  induction it with
  | mk e it ne le d=>
   obtain ⟨o,e1,e2⟩:=it
   refine KeyIt.mk (st.at_ e) ⟨o,k o e1,e2⟩ ne (Nat.le_trans le tk) fun q=>?_
   have z:=Nat.le_antisymm (q▸tk) le
   obtain ⟨kvs,⟨od,es,g,x⟩,y⟩:=d z
   exact ⟨kvs,⟨od,es,ow (z.trans q.symm) _ _ (mem_owned e (own_a _)) g,x⟩,y⟩
theorem IterOk.lives (it:IterOk W ρ h n I j v):Lives h I:=by
 rcases v with _ | _ | _ | _ | vs | ⟨lo,hi⟩ | _ | i | ⟨i,t⟩ <;> try exact it.elim
 ·have it:TupIt W ρ h I j vs:=it
  induction it with | mk g r ne it=>obtain ⟨o,e1,e2,_⟩:=it; exact .mk e1 (nf_c (by rw [e2]; rfl))
 ·exact .mk it (nf_c rfl)
 ·have it:RefIt ρ h I j i:=it
  induction it with | mk e it ne=>obtain ⟨o,e1,e2,_⟩:=it; exact .mk e1 (nf_c (by rw [e2]; rfl))
 ·have it:KeyIt W ρ h n I j i t:=it
  induction it with | mk e it ne le d=>obtain ⟨o,e1,e2,_⟩:=it; exact .mk e1 (nf_c (by rw [e2]; rfl))
theorem sb_x {a:Addr}(sb:Heap.SameBut a h h'):ExtX [a] h h':=fun b o n e=>(sb.2 b fun q=>n (List.mem_singleton.mpr q)).trans e
theorem eb_x {a:Addr}(k:Heap.ExtBut a h h'):ExtX [a] h h':=fun b o n e=>k b o (fun q=>n (List.mem_singleton.mpr q)) e
theorem iter_next (e:Items c.hm v xs)(it:IterOk W c.ρ c.h c.hm.tick I j v)(hj:j≤xs.length)(hh:A.handled=none){Q:Option Value→Shared→Prop}{E:Value→Shared→Prop}(hN:j=xs.length→∀ h',ExtX [I] c.h h'→Q none { c.s with heap:=h' })
  (hS:∀ x u h' t,xs[j]?=some x→ExtX [I] c.h h'→VRel W c.ρ h' x u→IterOk W c.ρ h' c.hm.tick I (j + 1) v→Q (some u) { c.s with heap:=h',toks:=t }):wpAny W.M A (pyNext (.ref I)) Q E c.s:=by
 have st:∀ {h'},ExtX [I] c.h h'→Stay c.ρ c.h c.ρ h':=fun k=>stay_x (fun a ha=>by rw [List.mem_singleton.mp ha]; exact it.lives) k
 induction e with
 | @keys i es p=>
  have it:KeyIt W c.ρ c.h c.hm.tick I j i c.hm.tick:=it
  induction it with
  | @mk cl sz ep e it ne le d=>
  obtain ⟨kvs,D,hz⟩:=d rfl
  refine Cf.dictE (P:=fun u=>u=u→_) (IsRef.mk e) p (fun d kvs2 hc uu g r l uu=>?_) rfl
  rw [e] at hc
  obtain rfl:=Option.some.inj hc
  obtain ⟨ep2,g⟩:=g.dictAt
  obtain ⟨o1,es1,g1,x1⟩:=D
  obtain ⟨o2,es2,g2,x2⟩:=g
  rw [g1] at g2
  obtain rfl:=Option.some.inj g2
  obtain ⟨ex1,dd1,hk1,p1,nd1⟩:=x1
  obtain ⟨ex2,dd2,hk2,p2,nd2⟩:=x2
  rw [dd1] at dd2
  obtain ⟨e1,e2⟩:=Data.dict.inj dd2
  subst e1 e2
  have hlen:kvs2.length=kvs.length:=p2.length.symm.trans p1.length
  have D2:c.h.DictAt (intKind W.prog W.w) cl.a kvs2 ep:=⟨o1,es1,g1,ex1,dd1,hk1,p2,nd2⟩
  rw [← hz,← hlen] at it
  have hle:es.length=kvs2.length:=r.length.symm
  rw [List.length_map,hle] at hj hN
  by_cases q:j<kvs2.length
  ·obtain ⟨en,he⟩:∃ en,es[j]?=some en:=⟨_,List.getElem?_eq_getElem (hle▸q)⟩
   obtain ⟨kv,hkv,hr⟩:=All2.get r he
   refine wpAny_pyNext_dict_item (k:=kv.1) (v:=kv.2) it D2 hkv fun key h' hk it' sb=>?_
   obtain ⟨tk,rfl⟩:=Value.isInt_shape hk
   exact hS (.int en.1) _ h' c.s.toks (by rw [List.getElem?_map,he]; rfl) (sb_x sb) (hr.1▸IsInt.mk tk) (KeyIt.mk e it' ne (Nat.le_refl _) fun uu=>⟨kvs2,⟨o1,es1,(sb.2 _ ne).trans g1,ex1,dd1,hk1,p2,nd2⟩,rfl⟩)
  ·have q:=Nat.le_antisymm hj (Nat.not_lt.mp q)
   exact wpAny_pyNext_dict_end hh it D2 (List.getElem?_eq_none (Nat.le_of_eq q.symm)) fun h' k=>hN q h' (eb_x k)
 | tup xs=>
  have it:TupIt W c.ρ c.h I j xs:=it
  induction it with
  | @mk a its n g r ne it=>
  by_cases q:j<xs.length
  ·obtain ⟨u,e2,hr⟩:=r.get (List.getElem?_eq_getElem q)
   exact wpAny_pyNext_tuple_item it ⟨_,g,rfl,n,rfl⟩ (x:=u) (Array.getElem?_toList.symm.trans e2) fun h' it' sb=>
    have st:=st (sb_x sb)
    hS _ u h' c.s.toks (List.getElem?_eq_getElem q) (sb_x sb) (hr.up.stay st) (TupIt.mk ((sb.2 a ne).trans g) (r.imp fun uu uu=>FRel.stay st) ne it')
  ·have q:=Nat.le_antisymm hj (Nat.not_lt.mp q)
   exact wpAny_pyNext_tuple_end hh it ⟨_,g,rfl,n,rfl⟩ (Array.getElem?_eq_none (by rw [← Array.length_toList,r.length,q]; exact Nat.le_refl _)) fun h' k=>hN q h' (eb_x k)
 | rng lo hi=>
  have it:IsRangeIter c.h I (lo + (j:Int)) (((hi - lo).toNat:Int) - (j:Int)) 1:=it
  have hl:(rngL lo hi).length=(hi - lo).toNat:=by unfold rngL; rw [List.length_map,List.length_range]
  by_cases q:j<(rngL lo hi).length
  ·have q':=q
   rw [hl] at q'
   refine wpAny_pyNext_range_item it (by lia) fun h' it' sb=>hS (.int (lo + (j:Int))) _ h' _ ?_ (sb_x sb) (IsInt.mk _) ?_
   ·unfold rngL; rw [List.getElem?_map,List.getElem?_range q']; rfl
   ·show IsRangeIter _ _ _ _ _
    rw [show lo + ((j + 1:Nat):Int)=lo + (j:Int) + 1 by lia,show ((hi - lo).toNat:Int) - ((j + 1:Nat):Int)=((hi - lo).toNat:Int) - (j:Int) - 1 by lia]
    exact it'
  ·have q:=Nat.le_antisymm hj (Nat.not_lt.mp q)
   exact wpAny_pyNext_range_end hh it (by rw [q,hl]; lia) fun h' k=>hN q h' (eb_x k)
 | @list i xs p=>
  have it:RefIt c.ρ c.h I j i:=it
  induction it with
  | mk e it ne=>
  refine Cf.listE (P:=fun u=>u=u→_) (IsRef.mk e) p (fun d its n hc uu g r l z uu=>?_) rfl
  rw [e] at hc
  obtain rfl:=Option.some.inj hc
  by_cases q:j<xs.length
  ·obtain ⟨u,e2,hr⟩:=r.get (List.getElem?_eq_getElem q)
   exact wpAny_pyNext_list_item it g.isList (x:=u) (Array.getElem?_toList.symm.trans e2) fun h' it' sb=>hS _ u h' c.s.toks (List.getElem?_eq_getElem q) (sb_x sb) (hr.stay (st (sb_x sb))) (RefIt.mk e it' ne)
  ·have q:=Nat.le_antisymm hj (Nat.not_lt.mp q)
   exact wpAny_pyNext_list_end hh it g.isList (Array.getElem?_eq_none (by rw [z,q]; exact Nat.le_refl _)) fun h' k=>hN q h' (eb_x k)
end
end Mini
end
section
namespace Mini
open PySem PySem.W PyProof.Rows PySem.SeqAt
inductive HasNs (h:Heap)(C:Addr):Prop
 | mk {m:Str→Option Value}(n:h.Ns C m)
structure AidE {W:Wd}(c₁ c:Cf W)(D C:Addr)(o:MObj):Prop where
 L:Later [] c₁ c
 d:Off c₁ c D
 n:Off c₁ c C
 ns:HasNs c.h C
 acc:ORel W c.ρ c.h o (cell D)
 dn:D≠C
structure Aid {W:Wd}(c₁ c:Cf W)(D C I:Addr)(o:MObj)(v:MV)(j:Nat):Prop extends AidE c₁ c D C o where
 i:Off c₁ c I
 it:IterOk W c.ρ c.h c.hm.tick I j v
 id:I≠D
 ic:I≠C
section
variable {W:Wd}{c₁ c c':Cf W}{I D C Z:Addr}{v:MV}{j j':Nat}{o o':MObj}{h h':Heap}{t:Nat}
theorem HasNs.lives (n:HasNs h C):Lives h C:=by induction n with | mk n=>exact ns_lives n
theorem HasNs.keep (n:HasNs h C)(k:∀ o,h.get? C=some o→∃ sl,h'.get? C=some { o with slots:=sl }):HasNs h' C:=by induction n with | mk n=>exact .mk (ns_keep n k)
theorem Off.later (a:Off c₁ c Z)(l:Lives c.h Z)(L:Later [] c c'):Off c₁ c' Z:=⟨not_owned l a.out L.toLaterR,a.new⟩
theorem Off.aside (a:Off c₁ c Z)(l:Lives c.h Z):Aside c₁.h c.ρ c.h Z:=⟨a.out,a.new,l⟩
theorem acc_lives {ρ:Cells}(a:ORel W ρ h o (cell D)):Lives h D:=a.live D (own_a (cell D))
theorem kept_cell (k:∀ x,h.get? D=some x→h'.get? D=some x):Kept (cell D) h h':=fun a ha x e=>by rw [own_cell ha] at e ⊢; exact k x e
theorem out_keep {Z Y:Addr}(k:ExtX [Z] h h')(n:Y≠Z):∀ o,h.get? Y=some o→h'.get? Y=some o:=fun o e=>k Y o (fun q=>n (List.mem_singleton.mp q)) e
noncomputable def Cf.turn (c:Cf W){h':Heap}(t:Nat)(a:Aside W.B c.ρ c.h Z)(k:ExtX [Z] c.h h')(l:Z∈c.F→∃ o,h'.get? Z=some o):Cf W:=c.side t (X:=[Z]) (fun b hb=>by rw [List.mem_singleton.mp hb]; exact a) k fun b hb q=>by rw [List.mem_singleton.mp q] at hb ⊢; exact l hb
theorem stay_turn {h₀:Heap}(a:Aside h₀ c.ρ c.h Z)(k:ExtX [Z] c.h h'):Stay c.ρ c.h c.ρ h':=stay_x (fun b hb=>by rw [List.mem_singleton.mp hb]; exact a.live) k
theorem acc_turn (a:ORel W c.ρ c.h o (cell D))(z:Aside c₁.h c.ρ c.h Z)(k:ExtX [Z] c.h h')(n:D≠Z):ORel W c.ρ h' o (cell D):=a.stay (stay_turn z k) (kept_cell (out_keep k n))
theorem Later.turn {X:List Addr}{a:Aside W.B c.ρ c.h Z}{k:ExtX [Z] c.h h'}{l:Z∈c.F→∃ o,h'.get? Z=some o}(L:Later X c₁ c)(n:Above c₁.h Z):Later X c₁ (c.turn t a k l):=L.side fun b hb=>by rw [List.mem_singleton.mp hb]; exact n
theorem Off.nf (a:Off c₁ c Z)(L:Later [] c₁ c){P:Prop}(q:Z∈c.F):P:=absurd q (L.nf a.new)
theorem own_turn (a:Aside c₁.h c.ρ c.h Z)(k:ExtX [Z] c.h h')(b:Addr)(o:Obj)(hb:b∈owned c.ρ)(e:c.h.get? b=some o):h'.get? b=some o:=k b o (fun q=>a.out (List.mem_singleton.mp q▸hb)) e
theorem Aid.later (a:Aid c₁ c D C I o v j)(l:Later [] c c'):Aid c₁ c' D C I o v j:=by
 have k:∀ {Z},Off c₁ c Z→∀ o,c.h.get? Z=some o→c'.h.get? Z=some o:=fun z o e=>l.keep _ o e z.out List.not_mem_nil (a.L.nf z.new)
 exact ⟨⟨a.L.trans l,a.d.later (acc_lives a.acc) l,a.n.later a.ns.lives l,a.ns.keep (same_slots (k a.n)),a.acc.stay l.stay (kept_cell (k a.d)),a.dn⟩,a.i.later a.it.lives l,a.it.keep l.stay (k a.i) l.tick l.own,a.id,a.ic⟩
theorem Aid.endI (a:Aid c₁ c D C I o v j)(k:ExtX [I] c.h h')(z:Aside c₁.h c.ρ c.h I):AidE c₁ (c.turn t z.base k (a.i.nf a.L)) D C o:=
 have r:=acc_turn a.acc z k a.id.symm
 ⟨a.L.turn z.new,⟨a.d.out,a.d.new⟩,⟨a.n.out,a.n.new⟩,a.ns.keep (same_slots (out_keep k a.ic.symm)),r,a.dn⟩
theorem Aid.setI (a:Aid c₁ c D C I o v j)(k:ExtX [I] c.h h')(z:Aside c₁.h c.ρ c.h I)(it:IterOk W c.ρ h' c.hm.tick I j' v):Aid c₁ (c.turn t z.base k (a.i.nf a.L)) D C I o v j':=
 ⟨a.endI k z,⟨a.i.out,a.i.new⟩,it,a.id,a.ic⟩
theorem Aid.setC (a:Aid c₁ c D C I o v j)(k:ExtX [C] c.h h')(z:Aside c₁.h c.ρ c.h C)(n:HasNs h' C):Aid c₁ (c.turn t z.base k (a.n.nf a.L)) D C I o v j:=
 have r:=acc_turn a.acc z k a.dn
 ⟨⟨a.L.turn z.new,⟨a.d.out,a.d.new⟩,⟨a.n.out,a.n.new⟩,n,r,a.dn⟩,⟨a.i.out,a.i.new⟩,a.it.keep (stay_turn z k) (out_keep k a.ic) (Nat.le_refl _) fun uu=>own_turn z k,a.id,a.ic⟩
theorem Aid.setD (a:Aid c₁ c D C I o v j)(k:ExtX [D] c.h h')(z:Aside c₁.h c.ρ c.h D)(r:ORel W c.ρ h' o' (cell D)):Aid c₁ (c.turn t z.base k (a.d.nf a.L)) D C I o' v j:=
 ⟨⟨a.L.turn z.new,⟨a.d.out,a.d.new⟩,⟨a.n.out,a.n.new⟩,a.ns.keep (same_slots (out_keep k a.dn.symm)),r,a.dn⟩,⟨a.i.out,a.i.new⟩,a.it.keep (stay_turn z k) (out_keep k a.id) (Nat.le_refl _) fun uu=>own_turn z k,a.id,a.ic⟩
inductive OutC (c₀:Cf W)(Q:KV)(C:Addr):Value→Shared→Prop
 | mk {m:MV}{w:Value}{c:Cf W}(r:c.V m w)(q:Q m c.hm)(l:Later [] c₀ c)(n:Off c₀ c C)(ns:HasNs c.h C):OutC c₀ Q C w c.s
theorem AidE.out {c₀:Cf W}{Q:KV}(a:AidE c₁ c D C o)(L:Later [] c₀ c₁)(q:Q (.ref c.hm.next) (c.hm.new o)):OutC c₀ Q C (.ref D) c.s:=by
 have aD:Aside c₀.h c.ρ c.h D:=⟨a.d.out,a.d.new.back L.alive,acc_lives a.acc⟩
 have R:ORel W (c.ρ++[cell D]) c.h o (cell D):=a.acc.stay ⟨at_app,fun uu uu e uu=>e⟩ fun uu uu uu e=>e
 exact OutC.mk (c:=c.adopt c.s.toks aD.base (fun b o uu e=>e) R) adopt_V q ((L.trans a.L).adopt aD.new) ⟨fun q=>(own_or (ρ:=c.ρ) (c:=cell D) q).elim a.n.out fun q=>a.dn (own_cell q).symm,a.n.new.back L.alive⟩ a.ns
theorem outC_out {c₀:Cf W}{Q:KV}{w:Value}{s':Shared}(h:OutC c₀ Q C w s'):∃ m,s'.heap.Ns C m∧∀ h',Heap.SameBut C s'.heap h'→Out c₀ Cf.V Q w { s' with heap:=h' }:=by
 induction h with
 | @mk m w c r q l n ns=>
  have z:=n.aside ns.lives
  induction ns with
  | mk ns=>exact ⟨_,ns,fun h' sb=>Out.mk (c':=c.turn c.s.toks z.base (sb_x sb) (n.nf l)) (r.stay (stay_turn z (sb_x sb))) q (l.turn z.new)⟩
end
section
variable {W:Wd}{k:Ck}{d:Nat}{p:Pt W k d}{scope:Scope}{y:Str}{py:Pos}{x:Nat}{c₁ c:Cf W}{C D I:Addr}{v:MV}{xs:List MV}{j:Nat}{mo:MObj}
theorem comp_next (o:CompOk k scope y x)(L:Later [] p.c c₁)(a:Aid c₁ c D C I mo v j)(e:Items c.hm v xs)(hj:j≤xs.length)(hne:∀ n a,p.G.env.cells.lookup n=some a→a≠C){R:Shared→Prop}{P:Unit→Shared→Prop}{E:Value→Shared→Prop}
  (hN:j=xs.length→∀ c2,c2.hm=c.hm→AidE c₁ c2 D C mo→R c2.s)
  (hS:∀ xv (c3:Cf W),xs[j]?=some xv→GOk W (k.inner scope y x) d (p.G.inner k scope C y x)→Fr (p.G.inner k scope C y x) (Vars.set p.vars x xv) c3→c3.hm=c.hm→Aid c₁ c3 D C I mo v (j + 1)→P () c3.s) :
  wpAny W.M p.G.A (pyNext (.ref I)) (fun r s₁=>match r with
   | none=>R s₁
   | some v=>wpAny W.M p.G.A (assign (.Name y py) (compEnvC scope (clFold p.G.env scope.names []) C p.G.env) v) P E s₁) E c.s:=by
 have zI:=a.i.aside a.it.lives
 refine iter_next e a.it hj p.g.room.handled (fun hje h' k'=>hN hje (c.turn c.s.toks zI.base k' (a.i.nf a.L)) rfl (a.endI k' zI)) fun xv u h' t hx k' hu it=>?_
 have a2:=a.setI (t:=t) k' zI it
 induction a2.ns with
 | mk n2=>
 have zC:=a2.n.aside a2.ns.lives
 refine wpAny_assign_Name (wpAny_storeName_local (inner_here (C:=C) (x:=x) o p.g) n2 (fun h'' n3 sb=>?_) (by show (scope.kind==.class||(scope.kind==.module&&_))=false; rw [o.kind]; rfl))
 have a3:=a2.setC (t:=t + 1) (sb_x sb) zC (.mk n3)
 exact hS xv _ hx (inner_g o p.g (a3.n.aside a3.ns.lives).base.new hne) (inner_fr o p.g (p.O.later (L.trans a3.L)) a3.n.out n3 (if_pos rfl) (VRel.stay (stay_turn zC (sb_x sb)) hu)) rfl a3
theorem drop_at {α:Type}{xs:List α}{j:Nat}{x:α}(e:xs[j]?=some x):xs.drop j=x::xs.drop (j + 1)∧j<xs.length:=by
 obtain ⟨l,e⟩:=List.getElem?_eq_some_iff.mp e
 exact ⟨by rw [List.drop_eq_getElem_cons l,e],l⟩
theorem drop_end {α:Type}{xs:List α}{j:Nat}(e:j=xs.length):xs.drop j=[]:=List.drop_eq_nil_of_le (Nat.le_of_eq e.symm)
theorem comp_start {X:Lx W}{p:Pt W k X.d}{mi:ME}{it e:Expr}{gs:List Expr}{newAcc:Sem Value}{od:Obj}{pos:Pos}{use:Option (Value→Sem Unit)}{P:Value→Shared→Prop}(hi:SE W k mi it)(o:CompOk k scope y x)(hcl:clausesOf e=[⟨.Name y py,it,gs,0⟩])(hset:notSetE it=true)
  (hnew:∀ (s:Shared)(R:Value→Shared→Prop),R (.ref s.heap.objs.size) { s with heap:=s.heap.push od }→wpAny W.M p.G.A newAcc R noE s)(hod:∀ ρ (h:Heap),ORel W ρ (h.push od) mo (cell h.objs.size))
  (hst:∀ {s it acc env R},codeAny W.M p.G.A (.compLoop e 0 it acc env) R s→wpAny W.M p.G.A (pyIter it) (fun it' s'=>codeAny W.M p.G.A (.compLoop e 0 it' acc env) R s') (notedBy W.M p.G.A env fun x s'=>R (.error x) s') s→codeAny W.M p.G.A (.compStart e 0 it acc env) R s)
  {K:MV→List MV→MHeap→Prop}(q:ev X.lg mi p.vars false (fun s h=>Yields (Items h s) fun xs=>K s xs h) p.c.hm)
  (loop:∀ v xs c₁ c D C I,Items c.hm v xs→K v xs c.hm→Later [] p.c c₁→Aid c₁ c D C I mo v 0→(∀ n a,p.G.env.cells.lookup n=some a→a≠C)→codeAny W.M p.G.A (.compLoop e 0 (.ref I) (.ref D) (compEnvC scope (clFold p.G.env scope.names []) C p.G.env)) (compPost W.M p.G.A noE use P (.ref D) C) c.s) :
  wpAny W.M p.G.A (comprehension e scope p.G.env pos newAcc false (eval it p.G.env) use) P noE p.c.s:=by
 refine wpAny_comprehension_free (g:=⟨.Name y py,it,gs,0⟩) (gs:=[]) hcl (fun v=>?_) (closure_eq (cells_there o p.g)) o.kind o.loc ?_
 ·rcases it with _ | _ | _ | _ | _ | _ | _ | _ | _ | _ | _ | _ | _ | _ | _ | _ | _ | _ | _ | _ | _ | _ | _ | _ | _ | _ | _ <;> first | exact rfl | exact ff hset
 refine wout (hi.v X p _ q) fun v u c₁ r q L=>?_
 induction q with
 | @mk xs e q=>
 refine iter_start X.K e r fun oI lI it0=>hnew _ _ (wpAny_newFunctionEnv o.noCell (fun x hx=>absurd hx List.not_mem_nil) (fun h4 hns hsb=>?_) o.kind)
 have n1:c₁.h.objs.size<(c₁.h.push oI).objs.size:=by rw [Heap.size_push]; exact Nat.lt_succ_self _
 have n2:(c₁.h.push oI).objs.size<((c₁.h.push oI).push od).objs.size:=by rw [Heap.size_push (c₁.h.push oI)]; exact Nat.lt_succ_self _
 have k2:Ext (c₁.h.push oI) ((c₁.h.push oI).push od):=.push _ _
 have k4:Ext ((c₁.h.push oI).push od) h4:=fun b o e=>(hsb.2 b (Nat.ne_of_lt (Heap.lt_size e))).trans (Heap.get?_push_of_some _ e)
 have k24:=k2.trans k4
 have kk:Ext c₁.h h4:=(Ext.push _ _).trans k24
 have l3:∀ {ρ},ORel W ρ ((c₁.h.push oI).push od) mo (cell (c₁.h.push oI).objs.size):=fun {ρ}=>hod _ _
 have off:∀ a,c₁.h.objs.size≤a→Off c₁ (c₁.grow c₁.s.toks kk) a:=fun a ha=>⟨not_own (c:=c₁) (above_size _ ha),above_size _ ha⟩
 have A0:Aid c₁ (c₁.grow c₁.s.toks kk) (c₁.h.push oI).objs.size ((c₁.h.push oI).push od).objs.size c₁.h.objs.size mo v 0:=
  ⟨⟨later_grow kk,off _ (Nat.le_of_lt n1),off _ (Nat.le_of_lt (Nat.lt_trans n1 n2)),.mk hns,l3.stay k4.stay (kept_cell fun x e=>k4 _ x e),Nat.ne_of_lt n2⟩,off _ (Nat.le_refl _),it0.keep k24.stay (fun o e=>k24 _ o e) (Nat.le_refl _) fun uu b o uu e=>k24 b o e,Nat.ne_of_lt n1,Nat.ne_of_lt (Nat.lt_trans n1 n2)⟩
 have hne:∀ n a,p.G.env.cells.lookup n=some a→a≠((c₁.h.push oI).push od).objs.size:=fun n a e z=>by
  induction (p.O.later L).store.lives a (Gx.own_cell e) with | mk g _=>exact A0.n.new.no (z▸g)
 have lp:=loop v xs c₁ (c₁.grow c₁.s.toks kk) _ _ _ e q L A0 hne
 exact hst lp (iter_self A0.it lp)
end
end Mini
end
section
namespace Mini
open PySem PySem.W PyProof.Rows PySem.SeqAt
section
variable {W:Wd}{k:Ck}{scope:Scope}{y:Str}{py:Pos}{x:Nat}
inductive LoopI {d:Nat}(p:Pt W k d)(c₁:Cf W)(D C I:Addr)(v:MV)(xs:List MV)(mk:Nat→Cf W→MObj→Prop)(n:Nat):Shared→Prop
 | mk {c:Cf W}{j:Nat}{o:MObj}(en:n=xs.length + 1 - j)(hj:j≤xs.length)(a:Aid c₁ c D C I o v j)(q:mk j c o):LoopI p c₁ D C I v xs mk n c.s
theorem LoopI.next {d:Nat}{p:Pt W k d}{c₁ c:Cf W}{D C I:Addr}{v:MV}{xs:List MV}{mk:Nat→Cf W→MObj→Prop}{j:Nat}{o:MObj}(hj:j<xs.length)(a:Aid c₁ c D C I o v (j + 1))(q:mk (j + 1) c o):∃ m,m<xs.length + 1 - j∧LoopI p c₁ D C I v xs mk m c.s:=
 ⟨xs.length + 1 - (j + 1),by omega,.mk rfl hj a q⟩
inductive ListQ (P:List MV→HP)(c:Cf W):MObj→Prop
 | mk {acc:List MV}(q:P acc c.hm):ListQ P c (.list acc)
theorem append_own {c:Cf W}{A:Around}{D:Addr}{acc:List MV}{w:MV}{u:Value}(r:ORel W c.ρ c.h (.list acc) (cell D))(hw:c.V w u)(l:acc.length<lenLine){P:Value→Shared→Prop}{E:Value→Shared→Prop}(h:∀ h',ExtX [D] c.h h'→ORel W c.ρ h' (.list (acc++[w])) (cell D)→P .none { c.s with heap:=h' }) :
  wpAny W.M A (call (.builtin "list.append") [.ref D,u]) P E c.s:=by
 have r:LRel W c.ρ c.h acc (cell D):=r
 induction r with
 | @mk its n d g r l'=>
  have hz:its.size=acc.length:=Array.length_toList.symm.trans r.length
  refine append_at g (fun h' sb g'=>?_) (by rw [hz]; exact line_of l')
  have st:Stay c.ρ c.h c.ρ h':=stay_x (X:=[D]) (fun b hb=>by rw [List.mem_singleton.mp hb]; exact .mk g (nf_c rfl)) (sb_x sb)
  exact h h' (sb_x sb) (LRel.mk rfl g' (by rw [Array.toList_push]; exact (All2.one (hw.stay st)).append (VRels.stay st r)) (by rw [List.length_append]; exact l))
theorem comp_core {X:Lx W}{p:Pt W k X.d}{melt mit:ME}{conds:MEs}{e' it':Expr}{ifs:List Expr}{pos pos':Pos}{use:Option (Value→Sem Unit)}{P:Value→Shared→Prop}{Q:KV}(o:CompOk k scope y x)(hi:SE W k mit it')(he:SE W (k.inner scope y x) melt e')(hc:SLs W (k.inner scope y x) conds ifs)(hset:notSetE it'=true)
  (q:ev X.lg (.comp melt x mit conds) p.vars false Q p.c.hm)(hP:∀ C w s',OutC p.c Q C w s'→compPost W.M p.G.A noE use P w C (.ok .next) s') :
  wpAny W.M p.G.A (comprehension (.ListComp e' [⟨.Name y py,it',ifs,0⟩] scope pos) scope p.G.env pos' (newList []) false (eval it' p.G.env) use) P noE p.c.s:=by
 refine comp_start (mo:=.list []) (od:={ cls:=.type "list",dict:=none,data:=.seq ([]:List Value).toArray }) hi o rfl hset (fun s R h=>wpAny_newObj_type h) (fun ρ h=>LRel.mk (c:=cell _) rfl (Heap.get?_push_size _ rfl) .nil (Nat.zero_le _)) codeAny_compStart_list q fun v xs c₁ c D C I e q L a hne=>?_
 refine codeAny_compLoop_tests (LoopI p c₁ D C I v xs fun j c o=>ListQ (fun acc h=>compL (fun h=>Items h v xs) (fun v=>evC X.lg conds (Vars.set p.vars x v)) (fun v=>ev X.lg melt (Vars.set p.vars x v) false) (xs.drop j) acc (fun ys h=>fin false Q (.ref h.next) (h.new (.list ys))) h) c o) (fun n s hI=>?_) (xs.length + 1) (.mk rfl (Nat.zero_le _) a (.mk q))
 clear a q e
 induction hI with
 | @mk c j mo en hj a q=>
 induction q with
 | @mk acc q=>
 have ei:Items c.hm v xs:=by
  rcases hd:xs.drop j with _ | ⟨z,r⟩ <;> rw [hd] at q <;> exact q.1
 refine comp_next o L a ei hj hne (fun hje c2 e2 a2=>?_) fun xv c3 hx g3 O3 e3 a3=>?_
 ·rw [drop_end hje] at q
  exact hP C (.ref D) _ (a2.out L (by rw [e2]; exact q.2))
 ·obtain ⟨ed,hlt⟩:=drop_at hx
  rw [ed] at q
  have q:=q.2
  rw [← e3] at q
  refine wout' (hc.C X ⟨_,_,c3,g3,O3⟩ _ q) fun b b' c4 r4 q4 l4=>?_
  have a4:=a3.later l4
  rw [← show b=b' from r4]
  rcases b with _ | _
  ·rw [if_neg Bool.false_ne_true,en]
   exact LoopI.next hlt a4 (.mk q4)
  ·rw [if_pos rfl]
   refine wout' (he.v X (Pt.to ⟨_,_,c3,g3,O3⟩ l4) _ q4) fun w u c5 r5 q5 l5=>?_
   have a5:=a4.later l5
   refine append_own a5.acc r5 q5.1 fun h' k' R=>?_
   rw [en]
   exact LoopI.next hlt (a5.setD (t:=c5.s.toks) k' (a5.d.aside (acc_lives a5.acc)) R) (.mk q5.2)
inductive DictQ (P:List (Int×MV)→HP)(c:Cf W):MObj→Prop
 | mk {acc:List (Int×MV)}(q:P acc c.hm):DictQ P c (.idict acc)
theorem dcomp_core {X:Lx W}{p:Pt W k X.d}{mk mv mit:ME}{k' e' it':Expr}{pos pos':Pos}{use:Option (Value→Sem Unit)}{P:Value→Shared→Prop}{Q:KV}(o:CompOk k scope y x)(hi:SE W k mit it')(hk:SE W (k.inner scope y x) mk k')(he:SE W (k.inner scope y x) mv e')(hset:notSetE it'=true)
  (q:ev X.lg (.dcomp mk mv x mit) p.vars false Q p.c.hm)(hP:∀ C w s',OutC p.c Q C w s'→compPost W.M p.G.A noE use P w C (.ok .next) s') :
  wpAny W.M p.G.A (comprehension (.DictComp k' e' [⟨.Name y py,it',[],0⟩] scope pos) scope p.G.env pos' newDict false (eval it' p.G.env) use) P noE p.c.s:=by
 refine comp_start (mo:=.idict []) (od:={ cls:=.type "dict",dict:=none,data:=.dict #[] }) hi o rfl hset (fun s R h=>wpAny_newObj_type h) (fun ρ h=>DRel.mk (c:=cell _) rfl (Heap.DictOf.new _) .nil (Nat.zero_le _)) codeAny_compStart_dict q fun v xs c₁ c D C I e q L a hne=>?_
 refine codeAny_compLoop_testsD (LoopI p c₁ D C I v xs fun j c o=>DictQ (fun acc h=>dcompL (fun h=>Items h v xs) (fun v=>ev X.lg mk (Vars.set p.vars x v) false) (fun v=>ev X.lg mv (Vars.set p.vars x v) false) (xs.drop j) acc (fun ys h=>fin false Q (.ref h.next) (h.new (.idict ys))) h) c o) (fun n s hI=>?_) (xs.length + 1) (.mk rfl (Nat.zero_le _) a (.mk q))
 clear a q e
 induction hI with
 | @mk c j mo en hj a q=>
 induction q with
 | @mk acc q=>
 have ei:Items c.hm v xs:=by
  rcases hd:xs.drop j with _ | ⟨z,r⟩ <;> rw [hd] at q <;> exact q.1
 refine comp_next o L a ei hj hne (fun hje c2 e2 a2=>?_) fun xv c3 hx g3 O3 e3 a3=>?_
 ·rw [drop_end hje] at q
  exact hP C (.ref D) _ (a2.out L (by rw [e2]; exact q.2))
 ·obtain ⟨ed,hlt⟩:=drop_at hx
  rw [ed] at q
  have q:=q.2
  rw [← e3] at q
  refine wpAny_pure ?_
  rw [if_pos rfl]
  refine wout' (hk.v X ⟨_,_,c3,g3,O3⟩ _ q) fun km kv c4 r4 q4 l4=>?_
  refine wout' (he.v X (Pt.to ⟨_,_,c3,g3,O3⟩ l4) _ q4) fun w u c5 r5 q5 l5=>?_
  have a5:=(a3.later l4).later l5
  have r4:=r4.later l5
  induction q5 with
  | @mk i w l q5=>
  refine IsInt.elim r4 fun tk=>?_
  have R:DRel W c5.ρ c5.h (intKind W.prog W.w) Eq acc (cell D):=a5.acc
  induction R with
  | @mk kvs d g r l'=>
  refine wpAny_dictSet_pairs (intKind_is _ _ _ tk) g (fun h' g' sb=>?_) (by rw [r.length]; exact line_of l')
  have z5:=a5.d.aside (acc_lives a5.acc)
  have st:=stay_turn z5 (sb_x sb)
  rw [en]
  exact LoopI.next (o:=.idict _) hlt (a5.setD (sb_x sb) z5 (DRel.mk rfl g' ((KRel.set rfl fit_eq r5 r (dict_nodup g)).stay st) (Nat.le_trans (kset_len ..) l))) (.mk q5)
variable {melt mit mk mv:ME}{conds:MEs}{e' k' it':Expr}{ifs:List Expr}{pos:Pos}
theorem se_comp (o:CompOk k scope y x)(hi:SE W k mit it')(he:SE W (k.inner scope y x) melt e')(hc:SLs W (k.inner scope y x) conds ifs)(hset:notSetE it'=true):SE W k (.comp melt x mit conds) (.ListComp e' [⟨.Name y py,it',ifs,0⟩] scope pos):=.of (fun uu uu uu uu q=>q) (fun uu=>rfl) fun X p Q q=>by
 rw [eval_ListComp]
 exact comp_core o hi he hc hset q fun C w s' h=>outC_out h
theorem se_dcomp (o:CompOk k scope y x)(hi:SE W k mit it')(hk:SE W (k.inner scope y x) mk k')(he:SE W (k.inner scope y x) mv e')(hset:notSetE it'=true):SE W k (.dcomp mk mv x mit) (.DictComp k' e' [⟨.Name y py,it',[],0⟩] scope pos):=.of (fun uu uu uu uu q=>q) (fun uu=>rfl) fun X p Q q=>by
 rw [arm_eval_DictComp]
 exact dcomp_core o hi hk he hset q fun C w s' h=>outC_out h
end
end Mini
end
section
set_option maxHeartbeats 4000000
namespace Mini
open PySem PySem.W PyProof.Rows PySem.SeqAt
section
variable {prog:Program}{w:World}{A:Around}{E:Value→Shared→Prop}{s:Shared}{a kS:Addr}{b:Bool}{vs:List Value}{kz:List Int}{keys:Array Value}{e e1:Nat}{P:PySem.Fin→Shared→Prop}
theorem srt_tail {st:SortSt}(nk:s.heap.get? kS=some (seqObj "list" keys e))(na:s.heap.get? a=some (seqObj "list" #[] e1))(hka:kS≠a)
  (hk:IntsAre keys.toList kz)(hlen:kz.length=vs.length)(h64:vs.length<64)(hp:(arrOf st).Perm (keys.zip vs.toArray))(hs:SortedTo (arrOf st) (arrOf st).size)(hfl:failedOf st=none)
  (h:∀ (h':Heap)(tk:Nat)(out:Array Value)(c:Nat),(∀ (x:Addr)(o:Obj),x≠kS→x≠a→s.heap.get? x=some o→h'.get? x=some o)→h'.get? a=some (seqObj "list" out c)→KskOut b kz vs out.toList→P (.done (.ret .none)) { s with heap:=h',toks:=tk }) :
  wpAny (model prog w) A (ksk_tail a b e1 (.ref kS) st) P E s:=by
 have hsz:keys.size=vs.length:=by
  have h1:=hk.length
  rw [Array.length_toList] at h1
  lia
 have hsz2:(arrOf st).size=vs.length:=by rw [hp.size_eq,Array.size_zip,hsz,List.size_toArray,Nat.min_self]
 have hout:(if b then ((arrOf st).map (·.2)).reverse else (arrOf st).map (·.2)).size=vs.length:=by
  cases b with
  | false=>simp only [Bool.false_eq_true,if_false,Array.size_map]; exact hsz2
  | true=>simp only [if_true,Array.size_reverse,Array.size_map]; exact hsz2
 have s1:=Heap.SameBut.update s.heap kS (Obj.mapSeq fun uu=>(#[]:Array Value))
 have na1:(s.heap.update kS (Obj.mapSeq fun uu=>(#[]:Array Value))).get? a=some (seqObj "list" #[] e1):=(s1.2 a hka.symm).trans na
 have s2:=Heap.SameBut.update (s.heap.update kS (Obj.mapSeq fun uu=>(#[]:Array Value))) a (Obj.mapSeq fun uu=>if b then ((arrOf st).map (·.2)).reverse else (arrOf st).map (·.2))
 obtain ⟨c2,hc2⟩:∃ c2,((s.heap.update kS (Obj.mapSeq fun uu=>(#[]:Array Value))).update a (Obj.mapSeq fun uu=>if b then ((arrOf st).map (·.2)).reverse else (arrOf st).map (·.2))).get? a=some (seqObj "list" (if b then ((arrOf st).map (·.2)).reverse else (arrOf st).map (·.2)) c2):=
  ⟨_,get?_update_seq na1 fun uu=>if b then ((arrOf st).map (·.2)).reverse else (arrOf st).map (·.2)⟩
 unfold ksk_tail
 try dsimp only
 refine wpAny_bind (listUpdate_at nk rfl ?_ (by rw [hsz,sizeLine_eq]; lia) (Nat.zero_le _))
 refine wpAny_bind (wpAny_letGo ?_)
 refine wpAny_bind (seqEpoch_at na1 rfl ?_)
 refine wpAny_bind (listUpdate_at na1 rfl ?_ (Nat.zero_le _) (Nat.le_trans (Nat.le_of_eq hout) (by rw [sizeLine_eq]; lia)))
 rw [hfl]
 simp only [bne_self_eq_false,Bool.false_eq_true,if_false]
 have kk:∀ (x:Addr)(o:Obj),x≠kS→x≠a→s.heap.get? x=some o→((s.heap.update kS (Obj.mapSeq fun uu=>(#[]:Array Value))).update a (Obj.mapSeq fun uu=>if b then ((arrOf st).map (·.2)).reverse else (arrOf st).map (·.2))).get? x=some o:=fun x o n1 n2 q=>(s2.2 x n2).trans ((s1.2 x n1).trans q)
 exact wpAny_pure (h _ _ _ c2 kk hc2 (ksk_out hk hp hs))
theorem srt_end (nk:s.heap.get? kS=some (seqObj "list" keys e))(na:s.heap.get? a=some (seqObj "list" #[] e1))(hka:kS≠a)
  (hk:IntsAre keys.toList kz)(hlen:kz.length=vs.length)(h64:vs.length<64)
  (h:∀ (h':Heap)(tk:Nat)(out:Array Value)(c:Nat),(∀ (x:Addr)(o:Obj),x≠kS→x≠a→s.heap.get? x=some o→h'.get? x=some o)→h'.get? a=some (seqObj "list" out c)→KskOut b kz vs out.toList→P (.done (.ret .none)) { s with heap:=h',toks:=tk }) :
  wpAny (model prog w) A (ksk_end a b vs.toArray e1 (.ref kS) keys) P E s:=by
 have hsz:keys.size=vs.length:=by
  have h1:=hk.length
  rw [Array.length_toList] at h1
  lia
 have hzs:(keys.zip vs.toArray).size=vs.length:=by rw [Array.size_zip,hsz,List.size_toArray,Nat.min_self]
 have step:∀ t:Sem PySem.Fin,wpAny (model prog w) A t P E s→wpAny (model prog w) A (if b=true then (do let _ ← rule "list.sort.reverse"; t) else t) P E s:=by
  intro t ht
  split
  ·exact wpAny_bind (wpAny_rule ht)
  ·exact ht
 have hstart:(if b=true then (keys.zip vs.toArray).reverse else keys.zip vs.toArray).Perm (keys.zip vs.toArray):=by
  cases b with
  | false=>exact Array.Perm.refl _
  | true=>exact Array.perm_iff_toList_perm.mpr (by rw [if_pos rfl,Array.toList_reverse]; exact List.reverse_perm _)
 unfold ksk_end
 try dsimp only
 refine step _ ?_
 by_cases h2:vs.toArray.size<2
 ·rw [if_pos h2,if_pos h2]
  refine wpAny_bind (wpAny_pure ?_)
  rw [StateT.run_pure]
  refine wpAny_bind (wpAny_pure ?_)
  try dsimp only
  refine srt_tail (st:=SortSt.mk' general' (if b=true then (keys.zip vs.toArray).reverse else keys.zip vs.toArray) #[] 7 none) nk na hka hk hlen h64 hstart ?_ rfl h
  intro i j hij hj
  have hj2:j<(if b=true then (keys.zip vs.toArray).reverse else keys.zip vs.toArray).size:=hj
  rw [hstart.size_eq,hzs] at hj2
  rw [List.size_toArray] at h2
  have:i=j:=by lia
  subst this
  exact Int.le_refl _
 ·rw [if_neg h2,if_neg h2]
  rw [List.size_toArray] at h2
  rw [ksk_kind hk (by rw [hsz]; lia)]
  refine wpAny_bind (wpAny_pure ?_)
  refine wpAny_bind (wpAny_mono (wpS_sortRuns (a₀:=keys.zip vs.toArray) (st:=SortSt.mk' oneType' (if b=true then (keys.zip vs.toArray).reverse else keys.zip vs.toArray) #[] 7 none)
   (Q:=fun uu st'=>(arrOf st').Perm (keys.zip vs.toArray)∧failedOf st'=none∧SortedTo (arrOf st') (keys.zip vs.toArray).size)
   (ksk_intKeys hk) ⟨hstart,rfl,rfl,rfl⟩ (by rw [hzs]; lia) (by rw [hzs]; exact h64) fun st' a1 a2 a3=>⟨a1,a2,a3⟩) ?_ fun uu uu e=>e)
  rintro ⟨⟨⟩,st'⟩ s' ⟨rfl,hp,hf,hs⟩
  try dsimp only
  exact srt_tail nk na hka hk hlen h64 hp (by rw [hp.size_eq]; exact hs) hf h
end
end Mini
end
section
set_option maxHeartbeats 4000000
namespace Mini
open PySem PySem.W PyProof.Rows PySem.SeqAt
noncomputable abbrev Objs:=List (Addr×Obj)
noncomputable def Gs {W:Wd}(c₀ c:Cf W)(G:Objs):Prop:=∀ p∈G,Off c₀ c p.1∧c.h.get? p.1=some p.2∧¬ Frozen p.2
section
variable {W:Wd}{A:Around}{c₀ c c':Cf W}{a kS Z:Addr}{b:Bool}{vs:List Value}{e1:Nat}{G:Objs}{K:List Int→HP}{f:Value}{h':Heap}
theorem seq_lives {h:Heap}{xs:Array Value}{n:Nat}(g:h.get? a=some (seqObj "list" xs n)):Lives h a:=.mk g (nf_c rfl)
theorem Gs.later (g:Gs c₀ c G)(L:Later [] c₀ c)(l:Later [] c c'):Gs c₀ c' G:=fun p hp=>⟨(g p hp).1.later (.mk (g p hp).2.1 (g p hp).2.2) l,l.keep _ _ (g p hp).2.1 (g p hp).1.out List.not_mem_nil (L.nf (g p hp).1.new),(g p hp).2.2⟩
theorem Gs.turn (g:Gs c₀ c G){t:Nat}{z:Aside W.B c.ρ c.h Z}{k:ExtX [Z] c.h h'}{l:Z∈c.F→∃ o,h'.get? Z=some o}(n:∀ p∈G,p.1≠Z):Gs c₀ (c.turn t z k l) G:=fun p hp=>⟨⟨(g p hp).1.out,(g p hp).1.new⟩,out_keep k (n p hp) _ (g p hp).2.1,(g p hp).2.2⟩
theorem Gs.ext {t:Nat}(g:Gs c₀ c G)(k:Ext c.h h'):Gs c₀ (c.grow t k) G:=fun p hp=>⟨⟨(g p hp).1.out,(g p hp).1.new⟩,k _ _ (g p hp).2.1,(g p hp).2.2⟩
noncomputable def KeyQ (K:List Int→HP)(ks:List Int)(m:MV)(h:MHeap):Prop:=∃ n,m = .int n∧K (ks++[n]) h
noncomputable def KeyStep (W:Wd)(A:Around)(c₀:Cf W)(G:Objs)(f:Value)(vs:List Value)(K:List Int→HP):Prop:=
 ∀ (ks:List Int)(x:Value)(c:Cf W),vs[ks.length]?=some x→Later [] c₀ c→Gs c₀ c G→K ks c.hm→wpAny W.M A (PySem.call f [x]) (Out c Cf.V (KeyQ K ks)) noE c.s
inductive SrtI (c₀:Cf W)(kS a:Addr)(e1:Nat)(G:Objs)(vs:List Value)(K:List Int→HP)(i:Nat):Shared→Prop
 | mk {c:Cf W}{kA:Array Value}{e:Nat}{ks:List Int}(L:Later [] c₀ c)(zK:Off c₀ c kS)(zA:Off c₀ c a)(gK:c.h.get? kS=some (seqObj "list" kA e))(gA:c.h.get? a=some (seqObj "list" #[] e1))(I:IntsAre kA.toList ks)(hl:ks.length=i)(hle:i≤vs.length)(g:Gs c₀ c G)(q:K ks c.hm):SrtI c₀ kS a e1 G vs K i c.s
inductive SrtR (c₀:Cf W)(b:Bool)(vs:List Value)(K:List Int→HP)(a:Addr):Shared→Prop
 | mk {c:Cf W}{ks:List Int}{out:Array Value}{n:Nat}(hl:ks.length=vs.length)(q:K ks c.hm)(L:Later [] c₀ c)(z:Off c₀ c a)(g:c.h.get? a=some (seqObj "list" out n))(o:KskOut b ks vs out.toList):SrtR c₀ b vs K a c.s
theorem push_keys {c:Cf W}{kA:Array Value}{e i:Nat}{ks:List Int}{n:Int}{tk:Tok}(h64:vs.length<64)(hka:kS≠a)(hG:∀ p∈G,p.1≠kS)(hi:i<vs.length)(L:Later [] c₀ c)(zK:Off c₀ c kS)(zA:Off c₀ c a)(gK:c.h.get? kS=some (seqObj "list" kA e))(gA:c.h.get? a=some (seqObj "list" #[] e1))(I:IntsAre kA.toList ks)(hl:ks.length=i)(g:Gs c₀ c G)(q:K (ks++[n]) c.hm)
  {P:Unit→Shared→Prop}{E:Value→Shared→Prop}(h:∀ s,SrtI c₀ kS a e1 G vs K (i + 1) s→P () s):wpAny W.M A (Builtin.List.listUpdate (.ref kS) (·.push (.int n tk))) P E c.s:=by
 have s1:=Heap.SameBut.update c.h kS (Obj.mapSeq (·.push (Value.int n tk)))
 have hz:kA.size=i:=Array.length_toList.symm.trans (I.length.trans hl)
 have g2:=get?_update_seq gK (·.push (Value.int n tk))
 have zz:=zK.aside (seq_lives gK)
 refine listUpdate_at gK rfl (h _ ?_) (by rw [hz,sizeLine_eq]; lia) (Nat.le_trans (Nat.le_of_eq (Array.size_push ..)) (by rw [hz,sizeLine_eq]; lia))
 have ea:(kA.push (Value.int n tk)).toList=kA.toList++[Value.int n tk]:=Array.toList_push
 exact SrtI.mk (c:=c.turn c.s.toks zz.base (sb_x s1) (zK.nf L)) (L.turn zK.new) ⟨zK.out,zK.new⟩ ⟨zA.out,zA.new⟩ g2 (out_keep (sb_x s1) hka.symm _ gA) (by rw [ea]; exact ksk_snoc I) (by rw [List.length_append,hl]; rfl) hi (g.turn hG) q
theorem srt_rest (step:KeyStep W A c₀ G f vs K)(h64:vs.length<64)(hka:kS≠a)(hGK:∀ p∈G,p.1≠kS){s:Shared}{E:Value→Shared→Prop}(h:SrtI c₀ kS a e1 G vs K 0 s):wpAny W.M A (ksk_rest a f b vs.toArray e1 (.ref kS)) (fun r s'=>r = .done (.ret .none)∧SrtR c₀ b vs K a s') E s:=by
 unfold ksk_rest
 refine wpAny_bind (wpAny_rule ?_)
 first
  | rw [List.forIn_toArray]
  | (rw [← Array.forIn_toList]; simp only [List.toList_toArray])
  | rw [← Array.forIn_toList]
 refine wpAny_bind (ksk_fold (SrtI c₀ kS a e1 G vs K) vs 0 s h (fun j x s' hx hI=>?_) fun s' hI=>?_)
 ·have hj:j<vs.length:=(List.getElem?_eq_some_iff.mp hx).1
  rw [Nat.zero_add] at hI ⊢
  induction hI with
  | @mk c kA e ks L zK zA gK gA I hl hle g q=>
  refine wpAny_bind (wpAny_attempt (wout' (step ks x c (by rw [hl]; exact hx) L g q) fun m v c2 r q l=>?_))
  obtain ⟨n,rfl,q⟩:=q
  refine IsInt.elim r fun t=>?_
  have k:∀ {Z},Off c₀ c Z→∀ o,c.h.get? Z=some o→c2.h.get? Z=some o:=fun z o e=>l.keep _ o e z.out List.not_mem_nil (L.nf z.new)
  exact wpAny_bind (push_keys h64 hka hGK hj (L.trans l) (zK.later (seq_lives gK) l) (zA.later (seq_lives gA) l) (k zK _ gK) (k zA _ gA) I hl (g.later L l) q fun s h=>wpAny_pure ⟨rfl,h⟩)
 ·rw [Nat.zero_add] at hI
  induction hI with
  | @mk c kA e ks L zK zA gK gA I hl hle g q=>
  refine wpAny_bind (listItems_at gK rfl ?_)
  refine srt_end gK gA hka I hl h64 fun h3 tk3 out n k3 g3 o3=>⟨rfl,?_⟩
  have z:∀ b∈[kS,a],Aside c₀.h c.ρ c.h b:=fun b hb=>by
   rcases List.mem_cons.mp hb with e | e
   ·rw [e]; exact zK.aside (seq_lives gK)
   ·rw [List.mem_singleton.mp e]; exact zA.aside (seq_lives gA)
  have k3:ExtX [kS,a] c.h h3:=fun x o hx e=>k3 x o (fun q=>hx (q▸.head _)) (fun q=>hx (q▸.tail _ (.head _))) e
  exact SrtR.mk (c:=c.side tk3 (fun b hb=>(z b hb).base) k3 fun b hb q=>absurd hb (L.nf (z b q).new)) hl q (L.side fun b hb=>(z b hb).new) ⟨zA.out,zA.new⟩ g3 o3
theorem srt_sort (step:KeyStep W A c₀ G f vs K)(h64:vs.length<64){n:Nat}(L:Later [] c₀ c)(zA:Off c₀ c a)(gA:c.h.get? a=some (seqObj "list" vs.toArray n))(g:Gs c₀ c G)(hGa:∀ p∈G,p.1≠a)(q:K [] c.hm){E:Value→Shared→Prop} :
  wpAny W.M A (ksk_tree a f b) (fun r s'=>r = .done (.ret .none)∧SrtR c₀ b vs K a s') E c.s:=by
 have s1:=Heap.SameBut.update c.h a (Obj.mapSeq fun uu=>(#[]:Array Value))
 have g1:=get?_update_seq gA fun uu=>#[]
 have zz:=zA.aside (seq_lives gA)
 have k1:=sb_x s1
 unfold ksk_tree
 refine wpAny_bind (listItems_at gA rfl ?_)
 refine wpAny_bind (listUpdate_at gA rfl ?_ (by rw [List.size_toArray,sizeLine_eq]; lia) (Nat.zero_le _))
 refine wpAny_bind (seqEpoch_at g1 rfl ?_)
 refine wpAny_bind (wpAny_newTuple ?_ (by show vs.length≤_; rw [sizeLine_eq]; lia))
 refine wpAny_bind (wpAny_newList ?_ (Nat.zero_le _))
 refine wpAny_holding ?_
 have k2:Ext (c.turn c.s.toks zz.base k1 (zA.nf L)).h (((c.turn c.s.toks zz.base k1 (zA.nf L)).h.push (seqObj "tuple" vs.toArray 0)).push (seqObj "list" #[] 0)):=.trans (.push _ _) (.push _ _)
 have hsz:((c.turn c.s.toks zz.base k1 (zA.nf L)).h.push (seqObj "tuple" vs.toArray 0)).objs.size=c.h.objs.size + 1:=by rw [Heap.size_push]; exact congrArg (· + 1) (Heap.size_update ..)
 have gK:(((c.turn c.s.toks zz.base k1 (zA.nf L)).h.push (seqObj "tuple" vs.toArray 0)).push (seqObj "list" #[] 0)).get? ((c.turn c.s.toks zz.base k1 (zA.nf L)).h.push (seqObj "tuple" vs.toArray 0)).objs.size=some (seqObj "list" #[] 0):=Heap.get?_push_size _ rfl
 have L1:=L.turn (t:=c.s.toks) (a:=zz.base) (k:=k1) (l:=zA.nf L) zA.new
 have main:∀ kS,kS=c.h.objs.size + 1→(((c.turn c.s.toks zz.base k1 (zA.nf L)).h.push (seqObj "tuple" vs.toArray 0)).push (seqObj "list" #[] 0)).get? kS=some (seqObj "list" #[] 0)→wpAny W.M A (ksk_rest a f b vs.toArray _ (.ref kS)) (fun r s'=>r = .done (.ret .none)∧SrtR c₀ b vs K a s') E ((c.turn c.s.toks zz.base k1 (zA.nf L)).grow c.s.toks k2).s:=fun kS hsz gK=>by
  have lt:∀ x o,c.h.get? x=some o→x<kS:=fun x o e=>by rw [hsz]; exact Nat.lt_succ_of_lt (Heap.lt_size e)
  have nK:∀ x,Lives c.h x→x≠kS:=fun x l e=>by induction l with | mk g _=>exact Nat.lt_irrefl _ (e▸lt x _ g)
  refine srt_rest step h64 (nK a (seq_lives gA)).symm (fun p hp=>nK _ (.mk (g p hp).2.1 (g p hp).2.2)) (SrtI.mk (c:=(c.turn c.s.toks zz.base k1 (zA.nf L)).grow c.s.toks k2) (kA:=#[]) (L1.trans (later_grow k2)) ⟨fun q=>nK _ (c.sim.live _ q) rfl,fun x o e=>?_⟩ ⟨zA.out,zA.new⟩ gK (k2 _ _ g1) .nil rfl (Nat.zero_le _) (Gs.ext (Gs.turn g hGa) k2) q)
  obtain ⟨o',e'⟩:=L.alive x o e
  exact lt x o' e'
 exact main _ hsz gK
theorem sorted_go {PV:List Value→Prop}{src:Value}{kw:List (Str×Value)}(ha1:argsOk "sorted" ⟨[src],kw⟩)(ha2:∀ x,argsOk "list.sort" ⟨[.ref x],kw⟩)(ht:∀ x,Builtin.«list.sort» ⟨[.ref x],kw⟩=ksk_tree x f b)
  (hc:∀ (Qc:List Value→Shared→Prop)(E':Value→Shared→Prop),(∀ (h':Heap)(tk:Nat)(vs:List Value),PV vs→Ext c.h h'→Qc vs { c.s with heap:=h',toks:=tk })→wpAny W.M A.in1 (collect src) Qc E' c.s)
  (step:∀ vs,PV vs→KeyStep W A.in1.in1 c₀ G f vs K)(h64:∀ vs,PV vs→vs.length<64)(L:Later [] c₀ c)(g:Gs c₀ c G)(q:K [] c.hm){R:Value→Shared→Prop}{E:Value→Shared→Prop}(h:∀ D vs s,PV vs→SrtR c₀ b vs K D s→R (.ref D) s):wpAny W.M A (PySem.call (.builtin "sorted") [src] kw) R E c.s:=by
 refine call_function_entry_kw kind_sorted plain_sorted entry_sorted ha1 ?_
 unfold Builtin.«sorted»
 refine wpAny_bind (m:=checkCount "sorted" 1 1 _) (wpAny_pure ?_)
 refine wpAny_bind (hc _ _ fun h' tk vs pv up=>?_)
 have h64':=h64 vs pv
 refine wpAny_bind (wpAny_newList ?_ (by rw [sizeLine_eq]; lia))
 have gA:(h'.push (seqObj "list" vs.toArray 0)).get? h'.objs.size=some (seqObj "list" vs.toArray 0):=Heap.get?_push_size _ rfl
 have up2:Ext c.h (h'.push (seqObj "list" vs.toArray 0)):=Ext.trans up (.push _ _)
 have lt:∀ x o,c.h.get? x=some o→x<h'.objs.size:=fun x o e=>Heap.lt_size (up x o e)
 refine wpAny_bind (wpAny_holding (wpAny_call_entry_kw slot_list_sort ⟨_,gA,rfl⟩ entry_list_sort ?_ (ha2 _)))
 show wpAny W.M A.in1.in1 (Builtin.«list.sort» ⟨[.ref h'.objs.size],kw⟩) _ _ _
 rw [ht]
 refine wpAny_mono (srt_sort (c:=c.grow tk up2) (step vs pv) h64' (L.trans (later_grow up2)) ⟨fun q=>?_,fun x o e=>?_⟩ gA (g.ext up2) (fun p hp e=>Nat.lt_irrefl _ (e▸lt _ _ (g p hp).2.1)) q) (fun r s' h2=>?_) fun uu uu e=>e
 ·induction c.sim.live _ q with | mk e _=>exact Nat.lt_irrefl _ (lt _ _ e)
 ·obtain ⟨o',e'⟩:=L.alive x o e
  exact lt x o' e'
 ·obtain ⟨rfl,h2⟩:=h2
  exact ⟨_,rfl,wpAny_pure ⟨_,rfl,h _ vs _ pv h2⟩⟩
theorem sorted_out {Q:KV}{D:Addr}{s':Shared}(h:SrtR c₀ b vs K D s')(hn:vs.length≤lenLine)(fin:∀ ks (c:Cf W)(out:List Value),ks.length=vs.length→K ks c.hm→Later [] c₀ c→KskOut b ks vs out→∃ xs,c.Vs xs out∧Q (.ref c.hm.next) (c.hm.new (.list xs))):Out c₀ Cf.V Q (.ref D) s':=by
 induction h with
 | @mk c ks out n hl q L z g o=>
 obtain ⟨xs,r,q⟩:=fin ks c out.toList hl q L o
 have hlen:xs.length≤lenLine:=by
  obtain ⟨ps,hp,e,_⟩:=o
  rw [← r.length,e,List.length_map,hp.length_eq,List.length_zip]
  exact Nat.le_trans (Nat.min_le_right ..) hn
 exact out_adopt (o:=.list xs) (t:=c.s.toks) L (z.aside (seq_lives g)) (fun b o uu e=>e) (LRel.mk (c:=cell D) rfl g (VRels.stay ⟨at_app,fun uu uu e uu=>e⟩ r) hlen) q
end
end Mini
end
section
set_option maxHeartbeats 2000000
namespace Mini
open PySem PySem.W PyProof.Rows PySem.SeqAt
theorem perm_lift {α β:Type}{f:α→β}{ps l:List β}(h:ps.Perm l){T:List α}(e:T.map f=l):∃ T':List α,T'.Perm T∧T'.map f=ps:=by
 induction h generalizing T with
 | nil=>exact ⟨T,.refl _,e⟩
 | cons x h ih=>
  rcases T with _ | ⟨t,T⟩
  ·exact absurd e (List.cons_ne_nil _ _).symm
  ·obtain ⟨e1,e2⟩:=List.cons.inj e
   obtain ⟨T',a,b⟩:=ih e2
   exact ⟨t::T',a.cons t,by rw [List.map_cons,b,e1]⟩
 | swap x y l=>
  rcases T with _ | ⟨t1,_ | ⟨t2,T⟩⟩
  ·exact absurd e (List.cons_ne_nil _ _).symm
  ·exact absurd (List.cons.inj e).2 (List.cons_ne_nil _ _).symm
  ·obtain ⟨e1,e2⟩:=List.cons.inj e
   obtain ⟨e2,e3⟩:=List.cons.inj e2
   exact ⟨t2::t1::T,.swap _ _ _,by rw [List.map_cons,List.map_cons,e1,e2,e3]⟩
 | trans h1 h2 ih1 ih2=>
  obtain ⟨T2,a,b⟩:=ih2 e
  obtain ⟨T1,c,d⟩:=ih1 b
  exact ⟨T1,c.trans a,d⟩
section
variable {W:Wd}{k:Ck}{pos:Pos}
theorem rels_of {ρ:Cells}{h:Heap}{T:List (Int×(MV×Value))}(e:∀ p∈T,VRel W ρ h p.2.1 p.2.2):VRels W ρ h (T.map fun t=>t.2.1) (T.map fun t=>t.2.2):=by
 induction T with
 | nil=>exact .nil
 | cons p T ih=>rw [List.forall_mem_cons] at e; exact .cons e.1 (ih e.2)
theorem rels_zip {ρ:Cells}{h:Heap}{xs:List MV}{vs:List Value}(r:VRels W ρ h xs vs):∀ p∈xs.zip vs,VRel W ρ h p.1 p.2:=by
 induction r with
 | nil=>exact fun p hp=>absurd hp List.not_mem_nil
 | cons q t ih=>rw [List.zip_cons_cons,List.forall_mem_cons]; exact ⟨q,ih⟩
theorem key_out {ρ:Cells}{h:Heap}{b:Bool}{xs:List MV}{vs out:List Value}{ks:List Int}(r:VRels W ρ h xs vs)(hk:ks.length=vs.length)(ko:KskOut b ks vs out) :
  ∃ ps:List (Int×MV),ps.Perm (ks.zip xs)∧ps.Pairwise (fun x y=>if b then y.1≤x.1 else x.1≤y.1)∧VRels W ρ h (ps.map (·.2)) out:=by
 obtain ⟨qs,hp,rfl,hpw⟩:=ko
 have hx:=r.length
 have e1:(ks.zip (xs.zip vs)).map (fun t=>(t.1,t.2.2))=ks.zip vs:=by
  rw [show (fun t:Int×(MV×Value)=>(t.1,t.2.2))=Prod.map id Prod.snd from rfl,← List.zip_map,List.map_id,List.map_snd_zip (Nat.le_of_eq hx)]
 have e2:(ks.zip (xs.zip vs)).map (fun t=>(t.1,t.2.1))=ks.zip xs:=by
  rw [show (fun t:Int×(MV×Value)=>(t.1,t.2.1))=Prod.map id Prod.fst from rfl,← List.zip_map,List.map_id,List.map_fst_zip (Nat.le_of_eq hx.symm)]
 obtain ⟨T,h1,h2⟩:=perm_lift hp e1
 refine ⟨T.map fun t=>(t.1,t.2.1),e2▸h1.map _,?_,?_⟩
 ·rw [← h2,List.pairwise_map] at hpw
  rw [List.pairwise_map]
  exact hpw
 ·rw [← h2,List.map_map,List.map_map]
  exact rels_of fun p hp=>rels_zip r _ (List.of_mem_zip (h1.mem_iff.mp hp)).2
theorem ints_get {vs:List Value}{is:List Int}(I:IntsAre vs is){i:Nat}{v:Value}(h:vs[i]?=some v):∃ n,is[i]?=some n∧IsInt n v:=by
 induction I generalizing i with
 | nil=>exact ns (List.getElem?_nil.symm.trans h)
 | cons n t _ ih=>
  rcases i with _ | i
  ·exact ⟨n,rfl,Option.some.inj h▸.mk t⟩
  ·exact ih (i:=i) h
theorem ints_of {vs:List Value}{is:List Int}(l:vs.length=is.length)(h:∀ (j:Nat)(v:Value),vs[j]?=some v→∃ n,is[j]?=some n∧∃ t,v = .int n t):IntsAre vs is:=by
 induction vs generalizing is with
 | nil=>
  rcases is with _ | ⟨n,is⟩
  ·exact .nil
  ·exact absurd l (Nat.ne_of_lt (Nat.succ_pos _))
 | cons v vs ih=>
  rcases is with _ | ⟨n,is⟩
  ·exact absurd l (Nat.ne_of_gt (Nat.succ_pos _))
  ·obtain ⟨n',e1,t,e2⟩:=h 0 v rfl
   rw [e2,← Option.some.inj e1]
   exact .cons _ t (ih (Nat.succ.inj l) fun j v hj=>h (j + 1) v hj)
theorem KRel.keys {ρ:Cells}{h:Heap}{es:List (Int×MV)}{kvs:List (Int×Value)}(r:KRel W ρ h Eq es kvs):kvs.map (·.1)=es.map (·.1):=by
 induction r with
 | nil=>rfl
 | cons q t ih=>rw [List.map_cons,List.map_cons,ih,q.1]
variable {e:Expr}{me:ME}
theorem star_one {env:Env}(h:notStar e=true):starEach [e] env=[(false,eval e env)]:=by rw [star_cons h]; rfl
noncomputable def AbsK (h₀:MHeap)(is ks:List Int)(h:MHeap):Prop:=h=h₀∧ks=(is.take ks.length).map fun i=>(i.natAbs:Int)
theorem abs_step {A:Around}{c₀:Cf W}{is:List Int}{vs:List Value}{h₀:MHeap}(I:IntsAre vs is):KeyStep W A c₀ [] (.builtin "abs") vs (AbsK h₀ is):=fun ks x c hx L uu q=>by
 obtain ⟨n,hn,hx⟩:=ints_get I hx
 refine hx.elim fun t=>call_abs_int fun u tk=>?_
 rw [abs_eq]
 refine out_same (m:=.int n.natAbs) (IsInt.mk _) ⟨_,rfl,q.1,?_⟩
 rw [List.length_append,List.length_singleton,List.take_add_one,hn,List.map_append,← q.2]
 rfl
theorem abs_out {is ks:List Int}{ps:List (Int×MV)}(hk:ks=is.map fun i=>(i.natAbs:Int))(hp:ps.Perm (ks.zip (is.map .int)))(hs:ps.Pairwise (fun x y=>x.1≤y.1)):∃ ys:List Int,ps.map (·.2)=ys.map .int∧ys.Perm is∧ys.Pairwise fun a b=>a.natAbs≤b.natAbs:=by
 have e:is.map (fun i=>((i.natAbs:Int),MV.int i))=ks.zip (is.map .int):=by
  rw [hk]
  clear hk hp
  induction is with
  | nil=>rfl
  | cons i is ih=>rw [List.map_cons,ih]; rfl
 obtain ⟨ys,h1,h2⟩:=perm_lift hp e
 refine ⟨ys,by rw [← h2,List.map_map]; rfl,h1,?_⟩
 rw [← h2,List.pairwise_map] at hs
 exact hs.imp fun h=>Int.ofNat_le.mp h
theorem abs_done {c:Cf W}{is:List Int}{vs:List Value}{D:Addr}{s:Shared}{Q:KV}(pv:IntsAre vs is)(ll:is.length≤lenLine)(h:SrtR c false vs (AbsK c.hm is) D s)(q:∀ ys:List Int,ys.Perm is→ys.Pairwise (fun a b=>a.natAbs≤b.natAbs)→Q (.ref c.hm.next) (c.hm.new (.list (ys.map .int)))):Out c Cf.V Q (.ref D) s:=by
 have pvl:=pv.length
 refine sorted_out h (by rw [pvl]; exact ll) fun ks c2 out hl hK L ko=>?_
 obtain ⟨ps,h1,h2,h3⟩:=key_out (rel_ints pv) hl ko
 obtain ⟨ys,e1,e2,e3⟩:=abs_out (by rw [hK.2,List.take_of_length_le (by rw [hl,pvl]; exact Nat.le_refl _)]) h1 (h2.imp fun h=>h)
 exact ⟨_,e1▸h3,hK.1▸q ys e2 e3⟩
theorem se_sortAbs {np kp:Pos}{q:Pos}(he:SE W k me e)(hi:isGl k "sorted"=true)(hi':isGl k "abs"=true)(hs:notStar e=true):SE W k (.sortAbs me) (.Call (.Name "sorted" np) [e] [⟨some "key",.Name "abs" kp,q⟩] pos):=.of (fun uu uu uu uu q=>q) (fun uu=>rfl) fun X p Q q=>by
 have K:=X.K
 rw [arm_eval_Call_Name']
 refine wpAny_bind (load_builtin K p hi (K.noBuiltin "sorted" (by simp)) boot_sorted (by decide) ?_)
 refine callWith_kw (e:=e) (rest:=[]) ?_ (by rw [star_one hs]; rfl) (by rw [star_one hs]; rfl)
 rw [star_one hs]
 refine Calls.spliced_cons (wout (he.v X p _ q) fun v u c r q l=>Calls.spliced_nil ?_)
 refine kws_cons (load_builtin K (p.to l) hi' (K.noBuiltin "abs" (by simp)) boot_abs (by decide) (kws_nil ?_))
 induction q with
 | @list i is eo h64 q=>
  refine Cf.listE r eo fun d its nn hc uu g lr ll hz=>?_
  have pv:IntsAre its.toList is:=ints_rel lr
  refine sorted_go (c₀:=c) (c:=c) (b:=false) (f:=.builtin "abs") (src:=.ref d.a) (kw:=[(Str.ofString "key",.builtin "abs")]) (G:=[]) (PV:=fun vs=>IntsAre vs is) (K:=AbsK c.hm is)
   (ksk_s1 _ _) (fun uu=>ksk_l1 _ _) (fun x=>ksk_t4 "abs" x) (fun Qc E' hq=>?_) (fun vs pv=>abs_step pv) (fun vs pv=>by rw [pv.length]; exact h64) .refl (fun p hp=>absurd hp List.not_mem_nil) ⟨rfl,rfl⟩ fun D vs s pv h=>Out.trans l (abs_done pv (Nat.le_trans (Nat.le_of_lt h64) (by decide)) h q)
  refine collect_list (vs:=its.toList) (by rw [Array.toArray_toList]; exact g.isList) (hq _ _ _ pv fun x o e=>?_) (line_of (by rw [Array.length_toList,hz]; exact ll))
  have hlt:=Heap.lt_size e
  rw [Heap.get?_update_ne _ _ _ _ (Nat.ne_of_lt hlt),Heap.get?_push_ne _ _ _ (Nat.ne_of_lt hlt)]
  exact e
 | @mk i es eo h64 q=>
 refine Cf.dictE r eo fun d kvs hc hd dk kr ll=>?_
 obtain ⟨ep,dat⟩:=dk.dictAt
 have hkl:kvs.length=es.length:=kr.length
 have hke:=kr.keys
 have hnl:(es.map (·.1)).length=es.length:=List.length_map ..
 refine sorted_go (c₀:=c) (c:=c) (b:=false) (f:=.builtin "abs") (src:=.ref d.a) (kw:=[(Str.ofString "key",.builtin "abs")]) (G:=[]) (PV:=fun vs=>IntsAre vs (es.map (·.1))) (K:=AbsK c.hm (es.map (·.1)))
  (ksk_s1 _ _) (fun uu=>ksk_l1 _ _) (fun x=>ksk_t4 "abs" x) (fun Qc E' hq=>?_) (fun vs pv=>abs_step pv) (fun vs pv=>by rw [pv.length,hnl]; exact h64) .refl (fun p hp=>absurd hp List.not_mem_nil) ⟨rfl,rfl⟩ fun D vs s pv h=>?_
 ·refine kdu_collect (kdl_dict (prog:=W.prog) (w:=W.w) (knd:=intKind W.prog W.w) (kvs:=kvs) (ep:=ep) (Cf.notMods K hc)) p.g.room.handled dat (by rw [hkl]; exact line_of ll) fun h' tk acc up hacc=>hq h' tk acc.toList ?_ up
  refine ints_of (by rw [Array.length_toList,hacc.1,hkl,hnl]) fun j v hj=>?_
  rw [Array.getElem?_toList] at hj
  obtain ⟨k,y,g1,g2⟩:=hacc.2 j v hj
  exact ⟨k,by rw [← hke,List.getElem?_map,g1]; rfl,Value.isInt_shape g2⟩
 ·exact Out.trans l (abs_done pv (by rw [hnl]; exact ll) h q)
end
end Mini
end
section
set_option maxHeartbeats 2000000
namespace Mini
open PySem PySem.W PyProof.Rows PySem.SeqAt
section
variable {W:Wd}{k:Ck}{pos:Pos}{e o:Expr}{me mo:ME}
theorem bound_ok (K:WdOk W){c:Cf W}{A:Around}{n f:Nat}{x:MV}{v:Value}{nm:Str}{b:Bool}{P:Value→Shared→Prop}(e:Kind W.P c.hm n x (.inst f))(hn:isStrs W n nm)(hv:c.V x v)(h:P (.ref c.h.objs.size) { c.s with heap:=c.h.push (methodObj (.ref (W.faddr f)) v),toks:=c.s.toks + 1 }):wpAny W.M A (getAttr v nm b) P noE c.s:=by
 cases e with
 | @inst i as _ p e=>
 refine Cf.instE hv p (P:=fun v=>P (.ref c.h.objs.size) { c.s with heap:=c.h.push (methodObj (.ref (W.faddr f)) v),toks:=c.s.toks + 1 }→wpAny W.M A (getAttr v nm b) P noE c.s) (fun d ds j hc uu I gd r uu al h=>?_) h
 obtain ⟨hf,ht,hat,_,g1,g2,g3⟩:=K.meths _ _ _ e hn
 have hz:=r.find (fit_str K.nodup hn)
 have hcd:=K.has
 unfold hasDictIn at hcd
 obtain ⟨cd,hcd,hh⟩:=any_some hcd
 have hfo:findObj W.K W.C (some (dictOf ds j)) nm=some (.bind (.builtin "function.__get__") (.ref (W.faddr f))):=by
  unfold findObj PySem.W.ownOf lookIn
  rw [hcd,hf]
  simp only [Option.bind_some,hh,if_true,g1,g2,hz.2.1 (kget_none al hat),g3,Bool.false_and,Bool.false_eq_true,if_false,hz.2.2]
 refine get_bind (c.X K) I K.hga hfo K.hgt (wpAny_call (fn_get (c.X K) ht ?_))
 show wpAny _ A (handedOut _) _ _ _
 rw [handedOut_of rfl]
 exact wpAny_pure h
noncomputable def RevK (X:Lx W)(Q:KV)(f:Nat)(u:MV)(xs:List MV)(ks:List Int)(h:MHeap):Prop:=
 keysL X.call f u (xs.drop ks.length) (fun ks' h=>∀ ps:List (Int×MV),ps.Perm ((ks++ks').zip xs)→ps.Pairwise (fun a b=>b.1≤a.1)→Q (.ref h.next) (h.new (.list (ps.map (·.2))))) h
theorem rev_step {X:Lx W}{A:Around}{c c₀:Cf W}{Q:KV}{f:Nat}{u:MV}{ov:Value}{xs:List MV}{vs:List Value}{gm:Addr}(hA:A.handled=none∧A.depth + 4 * X.d + 2≤900∧A.units + 40 * X.d + 20≤9000)(hS:Stk A c)(L0:Later [] c₀ c)(hu:c₀.V u ov)(hr:c₀.Vs xs vs):KeyStep W A c [(gm,methodObj (.ref (W.faddr f)) ov)] (.ref gm) vs (RevK X Q f u xs):=fun ks x c' hx L g q=>by
 obtain ⟨l,e⟩:=List.getElem?_eq_some_iff.mp hx
 have l':ks.length<xs.length:=by rw [← hr.length]; exact l
 obtain ⟨w,hw,hxr⟩:=hr.get (List.getElem?_eq_getElem l')
 rw [hx] at hw
 obtain rfl:=Option.some.inj hw
 have LL:=L0.trans L
 unfold RevK at q
 rw [(drop_at (List.getElem?_eq_getElem l')).1] at q
 have q:X.call f [u,xs[ks.length]] _ c'.hm:=q
 refine wpAny_call (PySem.W.method_call (g _ (.head _)).2.1 ?_)
 refine codeAny_mono (X.ok f A [u,xs[ks.length]] [ov,x] _ c' hA.1 hA.2.1 hA.2.2 (hS.later L) (.cons (hu.later LL) (.cons (VRel.stay LL.stay hxr) .nil)) q) fun r s'' h=>?_
 rcases r with e | (_ | _ | _ | v) <;> first | exact h.elim | skip
 have h:Out c' Cf.V _ v s'':=h
 induction h with
 | mk r q l3=>
 induction q with
 | @mk i ei q=>
 refine Out.mk r ⟨i,ei,?_⟩ l3
 unfold RevK
 rw [List.length_append,List.length_singleton]
 have z:∀ ks':List Int,ks++[i]++ks'=ks++i::ks':=fun ks'=>List.append_assoc ..
 simp only [z]
 exact q
theorem room2 {X:Lx W}{p:Pt W k X.d}:p.G.A.in1.in1.handled=none∧p.G.A.in1.in1.depth + 4 * X.d + 2≤900∧p.G.A.in1.in1.units + 40 * X.d + 20≤9000:=
 ⟨p.g.room.handled,by have:=p.g.room.depth; simp; lia,by have:=p.g.room.units; simp; lia⟩
theorem se_sortKeyRev {n:Nat}{nm:Str}{np ap rp:Pos}{q q':Pos}{kk:Nat}(he:SE W k me e)(ho:SE W k mo o)(hi:isGl k "sorted"=true)(hs:notStar e=true)(hb:notSuper o=true)(hn:isStrs W n nm) :
  SE W k (.sortKeyRev me mo n) (.Call (.Name "sorted" np) [e] [⟨some "key",.Attribute o nm ap,q⟩,⟨some "reverse",.Constant (.bool true) kk rp,q'⟩] pos):=.of (fun uu uu uu uu q=>q) (fun uu=>rfl) fun X p Q q=>by
 have K:=X.K
 rw [arm_eval_Call_Name']
 refine wpAny_bind (load_builtin K p hi (K.noBuiltin "sorted" (by simp)) boot_sorted (by decide) ?_)
 refine callWith_kw (e:=e) (rest:=[]) ?_ (by rw [star_one hs]; rfl) (by rw [star_one hs]; rfl)
 rw [star_one hs]
 refine Calls.spliced_cons (wout (he.v X p _ q) fun v u c r q l=>Calls.spliced_nil ?_)
 refine kws_cons ?_
 rw [arm_eval_Attribute,notSuper_base hb]
 refine wpAny_bind (wout (ho.v X (p.to l) _ q) fun om ov c2 r2 q2 l2=>?_)
 have r:=r.later l2
 clear q
 induction q2 with
 | @mk i f xs om eo kd h64 q=>
 refine atP (wpAny_bind (wpAny_holding (bound_ok K kd hn r2 (wpAny_bind (wpAny_letTemporaryGo (wpAny_pure ?_))))))
 refine kws_cons ?_
 show wpAny W.M p.G.A (pure (Value.bool true)) _ _ _
 refine wpAny_pure (kws_nil ?_)
 refine Cf.listE r eo fun d its nn hc uu g lr ll hz=>?_
 have up:Ext c2.h (c2.h.push (methodObj (.ref (W.faddr f)) ov)):=.push _ _
 have L3:Later [] c2 (c2.grow (c2.s.toks + 1) up):=later_grow up
 refine sorted_go (c₀:=c2) (c:=c2.grow (c2.s.toks + 1) up) (b:=true) (f:=.ref c2.h.objs.size) (src:=.ref d.a) (kw:=[(Str.ofString "key",.ref c2.h.objs.size),(Str.ofString "reverse",.bool true)]) (G:=[(c2.h.objs.size,methodObj (.ref (W.faddr f)) ov)]) (PV:=fun vs=>vs=its.toList) (K:=RevK X Q f om xs)
  (ksk_s2 _ _ _) (fun uu=>ksk_l2 _ _ _) (fun x=>ksk_t2 _ x true) (fun Qc E' hq=>?_) (fun vs pv=>rev_step (c₀:=c2) room2 ((p.O.stk.later (l.trans l2)).to rfl) .refl r2 (pv▸lr)) (fun vs pv=>by rw [pv,Array.length_toList,hz]; exact h64) L3 (fun p hp=>?_) q fun D vs s pv h=>?_
 ·refine collect_list (vs:=its.toList) (by rw [Array.toArray_toList]; exact (show IsL _ _ _ _ from up _ _ g).isList) (hq _ _ _ rfl fun x o e=>?_) (line_of (by rw [Array.length_toList,hz]; exact ll))
  have hlt:=Heap.lt_size e
  rw [Heap.get?_update_ne _ _ _ _ (Nat.ne_of_lt hlt),Heap.get?_push_ne _ _ _ (Nat.ne_of_lt hlt)]
  exact e
 ·rw [List.mem_singleton.mp hp]
  exact ⟨⟨not_own (c:=c2) (above_size _ (Nat.le_refl _)),above_size _ (Nat.le_refl _)⟩,Heap.get?_push_size _ rfl,nf_c rfl⟩
 ·refine Out.trans (l.trans l2) (sorted_out h (by rw [pv,Array.length_toList,hz]; exact ll) fun ks c3 out hl hK L ko=>?_)
  rw [pv] at hl ko
  obtain ⟨ps,h1,h2,h3⟩:=key_out (VRels.stay L.stay lr) hl ko
  unfold RevK at hK
  rw [drop_end (hl.trans lr.length)] at hK
  have hK:∀ ps:List (Int×MV),ps.Perm ((ks++[]).zip xs)→ps.Pairwise (fun a b=>b.1≤a.1)→Q (.ref c3.hm.next) (c3.hm.new (.list (ps.map (·.2)))):=hK
  rw [List.append_nil] at hK
  exact ⟨_,h3,hK ps h1 (h2.imp fun h=>h)⟩
end
end Mini
end
section
namespace Mini
open PySem PySem.W
inductive Dec (p:Prop):Type
 | no
 | yes (h:p)
noncomputable def Dec.isYes {p:Prop}:Dec p→Bool
 | .no=>false
 | .yes _=>true
theorem Dec.get {p:Prop}{d:Dec p}(h:d.isYes=true):p:=by
 rcases d with _ | q
 ·exact ff h
 ·exact q
section
variable {p q:Prop}
noncomputable def Dec.bind (d:Dec p)(f:p→Dec q):Dec q:=match d with
 | .no=>.no
 | .yes h=>f h
noncomputable def need (b:Bool)(f:b=true→Dec p):Dec p:=if h:b=true then f h else .no
noncomputable def deq {α:Type} [DecidableEq α](a b:α)(f:a=b→Dec p):Dec p:=if h:a=b then f h else .no
variable {P:Expr→Prop}{e:Expr}
noncomputable def dBool (f:∀ op vs pos,Dec (P (.BoolOp op vs pos))):Dec (P e):=if h:e.ctorIdx=0 then Expr.BoolOp.elim (motive_1:=fun e=>Dec (P e)) e h f else .no
noncomputable def dBin (f:∀ l o r pos,Dec (P (.BinOp l o r pos))):Dec (P e):=if h:e.ctorIdx=2 then Expr.BinOp.elim (motive_1:=fun e=>Dec (P e)) e h f else .no
noncomputable def dUn (f:∀ o x pos,Dec (P (.UnaryOp o x pos))):Dec (P e):=if h:e.ctorIdx=3 then Expr.UnaryOp.elim (motive_1:=fun e=>Dec (P e)) e h f else .no
noncomputable def dIf (f:∀ c a b pos,Dec (P (.IfExp c a b pos))):Dec (P e):=if h:e.ctorIdx=5 then Expr.IfExp.elim (motive_1:=fun e=>Dec (P e)) e h f else .no
noncomputable def dDict (f:∀ ks vs pos,Dec (P (.Dict ks vs pos))):Dec (P e):=if h:e.ctorIdx=6 then Expr.Dict.elim (motive_1:=fun e=>Dec (P e)) e h f else .no
noncomputable def dLC (f:∀ x gs sc pos,Dec (P (.ListComp x gs sc pos))):Dec (P e):=if h:e.ctorIdx=8 then Expr.ListComp.elim (motive_1:=fun e=>Dec (P e)) e h f else .no
noncomputable def dDC (f:∀ x y gs sc pos,Dec (P (.DictComp x y gs sc pos))):Dec (P e):=if h:e.ctorIdx=10 then Expr.DictComp.elim (motive_1:=fun e=>Dec (P e)) e h f else .no
noncomputable def dCmp (f:∀ l os rs pos,Dec (P (.Compare l os rs pos))):Dec (P e):=if h:e.ctorIdx=15 then Expr.Compare.elim (motive_1:=fun e=>Dec (P e)) e h f else .no
noncomputable def dCall (f:∀ g as ks pos,Dec (P (.Call g as ks pos))):Dec (P e):=if h:e.ctorIdx=16 then Expr.Call.elim (motive_1:=fun e=>Dec (P e)) e h f else .no
noncomputable def dConst (f:∀ c k pos,Dec (P (.Constant c k pos))):Dec (P e):=if h:e.ctorIdx=19 then Expr.Constant.elim (motive_1:=fun e=>Dec (P e)) e h f else .no
noncomputable def dAttr (f:∀ b n pos,Dec (P (.Attribute b n pos))):Dec (P e):=if h:e.ctorIdx=20 then Expr.Attribute.elim (motive_1:=fun e=>Dec (P e)) e h f else .no
noncomputable def dSub (f:∀ o i pos,Dec (P (.Subscript o i pos))):Dec (P e):=if h:e.ctorIdx=21 then Expr.Subscript.elim (motive_1:=fun e=>Dec (P e)) e h f else .no
noncomputable def dNm (f:∀ id pos,Dec (P (.Name id pos))):Dec (P e):=if h:e.ctorIdx=23 then Expr.Name.elim (motive_1:=fun e=>Dec (P e)) e h f else .no
noncomputable def dList (f:∀ xs pos,Dec (P (.List xs pos))):Dec (P e):=if h:e.ctorIdx=24 then Expr.List.elim (motive_1:=fun e=>Dec (P e)) e h f else .no
noncomputable def dTuple (f:∀ xs k pos,Dec (P (.Tuple xs k pos))):Dec (P e):=if h:e.ctorIdx=25 then Expr.Tuple.elim (motive_1:=fun e=>Dec (P e)) e h f else .no
noncomputable def dSlice (f:∀ a b c pos,Dec (P (.Slice a b c pos))):Dec (P e):=if h:e.ctorIdx=26 then Expr.Slice.elim (motive_1:=fun e=>Dec (P e)) e h f else .no
noncomputable def dJoin (f:∀ a pos,Dec (P (.JoinedStr a pos))):Dec (P e):=if h:e.ctorIdx=18 then Expr.JoinedStr.elim (motive_1:=fun e=>Dec (P e)) e h f else .no
noncomputable def dFmt (f:∀ a n s pos,Dec (P (.FormattedValue a n s pos))):Dec (P e):=if h:e.ctorIdx=17 then Expr.FormattedValue.elim (motive_1:=fun e=>Dec (P e)) e h f else .no
variable {C:Const→Prop}{c:Const}
noncomputable def cNone (f:Dec (C .none)):Dec (C c):=if h:c.ctorIdx=0 then Const.none.elim (motive:=fun e=>Dec (C e)) c h f else .no
noncomputable def cBool (f:∀ b,Dec (C (.bool b))):Dec (C c):=if h:c.ctorIdx=1 then Const.bool.elim (motive:=fun e=>Dec (C e)) c h f else .no
noncomputable def cInt (f:∀ b,Dec (C (.int b))):Dec (C c):=if h:c.ctorIdx=2 then Const.int.elim (motive:=fun e=>Dec (C e)) c h f else .no
noncomputable def cStr (f:∀ b,Dec (C (.str b))):Dec (C c):=if h:c.ctorIdx=5 then Const.str.elim (motive:=fun e=>Dec (C e)) c h f else .no
variable {α:Type}{L:List α→Prop}{l:List α}{O:Option α→Prop}{o:Option α}
noncomputable def dNil (f:Dec (L [])):Dec (L l):=if h:l.ctorIdx=0 then List.nil.elim (motive:=fun e=>Dec (L e)) l h f else .no
noncomputable def dCons (f:∀ a r,Dec (L (a::r))):Dec (L l):=if h:l.ctorIdx=1 then List.cons.elim (motive:=fun e=>Dec (L e)) l h f else .no
noncomputable def dOne (f:∀ a,Dec (L [a])):Dec (L l):=dCons fun a r=>dNil (L:=fun r=>L (a::r)) (f a)
noncomputable def dNo (f:Dec (O none)):Dec (O o):=if h:o.ctorIdx=0 then Option.none.elim (motive:=fun e=>Dec (O e)) o h f else .no
noncomputable def dSome (f:∀ a,Dec (O (some a))):Dec (O o):=if h:o.ctorIdx=1 then Option.some.elim (motive:=fun e=>Dec (O e)) o h f else .no
end
section
variable (W:Wd)
mutual
noncomputable def trE:(m:ME)→(k:Ck)→(e:Expr)→Dec (SE W k m e)
 | .none,k,e=>dConst fun c kk pos=>cNone (C:=fun c=>SE W k _ (.Constant c kk pos)) (.yes se_none)
 | .bool b,k,e=>dConst fun c kk pos=>cBool (C:=fun c=>SE W k _ (.Constant c kk pos)) fun b'=>deq b b' fun h=>.yes (h▸se_bool)
 | .int i,k,e=>dConst fun c kk pos=>cInt (C:=fun c=>SE W k _ (.Constant c kk pos)) fun j=>deq i j fun h=>.yes (h▸se_int)
 | .str s,k,e=>dConst fun c kk pos=>cStr (C:=fun c=>SE W k _ (.Constant c kk pos)) fun x=>deq W.T.strTab[s]? (some x) fun h=>.yes (se_str h)
 | .var x,k,e=>dNm fun id pos=>need (isVar k id x) fun h=>.yes (se_var h)
 | .glob i,k,e=>dNm fun id pos=>need (isGl k id) fun h=>deq (W.T.globTab.lookup id) (some i) fun h'=>.yes (se_glob h h')
 | .attr o a,k,e=>dAttr fun b n pos=>need (notSuper b) fun h=>deq W.T.strTab[a]? (some n) fun hn=>need (W.T.attrTab.contains a) fun ha=>(trE o k b).bind fun ho=>.yes (se_attr ho h (List.contains_iff_mem.mp ha) hn)
 | .bin op l r,k,e=>dBin fun l' o r' pos=>deq o (bOp op) fun h=>(trE l k l').bind fun hl=>(trE r k r').bind fun hr=>.yes (h▸se_bin hl hr)
 | .neg x,k,e=>dUn fun o y pos=>deq o .USub fun h=>(trE x k y).bind fun hx=>.yes (h▸se_neg hx)
 | .not x,k,e=>dUn fun o y pos=>deq o .Not fun h=>(trE x k y).bind fun hx=>.yes (h▸se_not hx)
 | .cmp op l r,k,e=>dCmp fun l' os rs pos=>dOne (L:=fun os=>SE W k _ (.Compare l' os rs pos)) fun o=>dOne (L:=fun rs=>SE W k _ (.Compare l' [o] rs pos)) fun r'=>
   deq o (cOp op) fun h=>need (notSetE r') fun hs=>(trE l k l').bind fun hl=>(trE r k r').bind fun hr=>.yes (h▸se_cmp hl hr hs)
 | .and es,k,e=>dBool fun op vs pos=>deq op .And fun h=>(trL es k vs).bind fun hs=>.yes (h▸se_and hs)
 | .or es,k,e=>dBool fun op vs pos=>deq op .Or fun h=>(trL es k vs).bind fun hs=>.yes (h▸se_or hs)
 | .ite t a b,k,e=>dIf fun t' a' b' pos=>(trE t k t').bind fun ht=>(trE a k a').bind fun ha=>(trE b k b').bind fun hb=>.yes (se_ite ht ha hb)
 | .sub o i,k,e=>dSub fun o' i' pos=>need (notSlice i') fun h=>(trE o k o').bind fun ho=>(trE i k i').bind fun hi=>.yes (se_sub ho hi h)
 | .sliceTo o i,k,e=>dSub fun o' s pos=>dSlice (P:=fun s=>SE W k _ (.Subscript o' s pos)) fun a b c pp=>dNo (O:=fun a=>SE W k _ (.Subscript o' (.Slice a b c pp) pos)) (dSome (O:=fun b=>SE W k _ (.Subscript o' (.Slice none b c pp) pos)) fun i'=>dNo (O:=fun c=>SE W k _ (.Subscript o' (.Slice none (some i') c pp) pos))
   ((trE o k o').bind fun ho=>(trE i k i').bind fun hi=>.yes (se_sliceTo ho hi)))
 | .sliceFrom o i,k,e=>dSub fun o' s pos=>dSlice (P:=fun s=>SE W k _ (.Subscript o' s pos)) fun a b c pp=>dSome (O:=fun a=>SE W k _ (.Subscript o' (.Slice a b c pp) pos)) fun i'=>dNo (O:=fun b=>SE W k _ (.Subscript o' (.Slice (some i') b c pp) pos)) (dNo (O:=fun c=>SE W k _ (.Subscript o' (.Slice (some i') none c pp) pos))
   ((trE o k o').bind fun ho=>(trE i k i').bind fun hi=>.yes (se_sliceFrom ho hi)))
 | .list es,k,e=>dList fun xs pos=>(trL es k xs).bind fun hs=>.yes (se_list hs)
 | .tup es,k,e=>dTuple fun xs kk pos=>(trL es k xs).bind fun hs=>.yes (se_tup hs)
 | .dict0,k,e=>dDict fun ks vs pos=>dNil (L:=fun ks=>SE W k _ (.Dict ks vs pos)) (dNil (L:=fun vs=>SE W k _ (.Dict [] vs pos)) (.yes se_dict0))
 | .dict2 n m n' m',k,e=>dDict fun ks vs pos=>dCons (L:=fun ks=>SE W k _ (.Dict ks vs pos)) fun k1 ks=>dOne (L:=fun ks=>SE W k _ (.Dict (k1::ks) vs pos)) fun k2=>dCons (L:=fun vs=>SE W k _ (.Dict [k1,k2] vs pos)) fun v1 vs=>dOne (L:=fun vs=>SE W k _ (.Dict [k1,k2] (v1::vs) pos)) fun v2=>
   dSome (O:=fun k1=>SE W k _ (.Dict [k1,k2] [v1,v2] pos)) fun e1=>dSome (O:=fun k2=>SE W k _ (.Dict [some e1,k2] [v1,v2] pos)) fun e2=>
   dConst (P:=fun e1=>SE W k _ (.Dict [some e1,some e2] [v1,v2] pos)) fun c1 q1 p1=>dConst (P:=fun e2=>SE W k _ (.Dict [some (.Constant c1 q1 p1),some e2] [v1,v2] pos)) fun c2 q2 p2=>
   cStr (C:=fun c1=>SE W k _ (.Dict [some (.Constant c1 q1 p1),some (.Constant c2 q2 p2)] [v1,v2] pos)) fun x1=>cStr (C:=fun c2=>SE W k _ (.Dict [some (.Constant (.str x1) q1 p1),some (.Constant c2 q2 p2)] [v1,v2] pos)) fun x2=>
   deq W.T.strTab[n]? (some x1) fun h1=>deq W.T.strTab[n']? (some x2) fun h2=>need (n != n') fun hn=>(trE m k v1).bind fun hm=>(trE m' k v2).bind fun hm'=>.yes (se_dict2 hm hm' h1 h2 (bne_iff_ne.mp hn))
 | .callF f es,k,e=>dCall fun g as ks pos=>dNm (P:=fun g=>SE W k _ (.Call g as ks pos)) fun id np=>dNil (L:=fun ks=>SE W k _ (.Call (.Name id np) as ks pos)) (need (isGl k id) fun hi=>deq W.T.fnTab[f]? (some id) fun hf=>(trL es k as).bind fun hs=>.yes (se_callF hs hi hf))
 | .callM o m es,k,e=>dCall fun g as ks pos=>dAttr (P:=fun g=>SE W k _ (.Call g as ks pos)) fun b n ap=>dNil (L:=fun ks=>SE W k _ (.Call (.Attribute b n ap) as ks pos)) (need (notSuper b) fun hb=>deq W.T.strTab[m]? (some n) fun hn=>need (ap.endLine==pos.line) fun hl=>need (decide (as.length<29)) fun hk=>
   (trE o k b).bind fun ho=>(trL es k as).bind fun hs=>.yes (se_callM ho hs hb hn hl (of_decide_eq_true hk)))
 | .callB b es,k,e=>dCall fun g as ks pos=>dNm (P:=fun g=>SE W k _ (.Call g as ks pos)) fun id np=>dNil (L:=fun ks=>SE W k _ (.Call (.Name id np) as ks pos)) (deq id (bName b) fun h=>need (isGl k (bName b)) fun hi=>(trL es k as).bind fun hs=>.yes (h▸se_callB hs hi))
 | .isbool x,k,e=>dCall fun g as ks pos=>dNm (P:=fun g=>SE W k _ (.Call g as ks pos)) fun id np=>dCons (L:=fun as=>SE W k _ (.Call (.Name id np) as ks pos)) fun a as=>dOne (L:=fun as=>SE W k _ (.Call (.Name id np) (a::as) ks pos)) fun b=>dNil (L:=fun ks=>SE W k _ (.Call (.Name id np) [a,b] ks pos))
   (dNm (P:=fun b=>SE W k _ (.Call (.Name id np) [a,b] [] pos)) fun id' bp=>deq id "isinstance" fun h1=>deq id' "bool" fun h2=>need (isGl k "isinstance") fun g1=>need (isGl k "bool") fun g2=>need (notStar a) fun hs=>(trE x k a).bind fun hx=>.yes (h1▸h2▸se_isbool hx hs g1 g2))
 | .keys x,k,e=>dAttr fun b n pos=>(trE x k (.Attribute b n pos)).bind fun hx=>.yes (dict_keys_at hx)
 | .gtup is,k,e=>dNm fun id pos=>need (isGl k id) fun h=>deq (W.T.gtupTab.lookup id) (some is) fun h'=>.yes (se_gtup h h')
 | .dict1 m m',k,e=>dDict fun ks vs pos=>dOne (L:=fun ks=>SE W k _ (.Dict ks vs pos)) fun k1=>dOne (L:=fun vs=>SE W k _ (.Dict [k1] vs pos)) fun v1=>dSome (O:=fun k1=>SE W k _ (.Dict [k1] [v1] pos)) fun e1=>(trE m k e1).bind fun h=>(trE m' k v1).bind fun h'=>.yes (se_dict1 h h')
 | .chain op op' l r r',k,e=>dCmp fun a os rs pos=>dCons (L:=fun os=>SE W k _ (.Compare a os rs pos)) fun o1 os=>dOne (L:=fun os=>SE W k _ (.Compare a (o1::os) rs pos)) fun o2=>dCons (L:=fun rs=>SE W k _ (.Compare a [o1,o2] rs pos)) fun b rs=>dOne (L:=fun rs=>SE W k _ (.Compare a [o1,o2] (b::rs) pos)) fun c=>
   deq o1 (cOp op) fun h1=>deq o2 (cOp op') fun h2=>need (notSetE c) fun hs=>(trE l k a).bind fun hl=>(trE r k b).bind fun hr=>(trE r' k c).bind fun hr'=>.yes (h1▸h2▸se_chain hl hr hr' hs)
 | .rev o,k,e=>dSub fun o' s pos=>dSlice (P:=fun s=>SE W k _ (.Subscript o' s pos)) fun a b c pp=>dNo (O:=fun a=>SE W k _ (.Subscript o' (.Slice a b c pp) pos)) (dNo (O:=fun b=>SE W k _ (.Subscript o' (.Slice none b c pp) pos)) (dSome (O:=fun c=>SE W k _ (.Subscript o' (.Slice none none c pp) pos)) fun i=>
   dUn (P:=fun i=>SE W k _ (.Subscript o' (.Slice none none (some i) pp) pos)) fun u x p2=>dConst (P:=fun x=>SE W k _ (.Subscript o' (.Slice none none (some (.UnaryOp u x p2)) pp) pos)) fun n kk p1=>cInt (C:=fun n=>SE W k _ (.Subscript o' (.Slice none none (some (.UnaryOp u (.Constant n kk p1) p2)) pp) pos)) fun z=>
   deq u .USub fun h1=>deq z 1 fun h2=>(trE o k o').bind fun ho=>.yes (h1▸h2▸se_rev ho)))
 | .new es,k,e=>dCall fun g as ks pos=>dNm (P:=fun g=>SE W k _ (.Call g as ks pos)) fun id np=>dNil (L:=fun ks=>SE W k _ (.Call (.Name id np) as ks pos)) (need (isGl k id) fun hi=>deq id W.T.cname fun h=>(trL es k as).bind fun hs=>.yes (se_new hs hi h))
 | .comp elt x it cond,k,e=>dLC fun e' gs sc pos=>dOne (L:=fun gs=>SE W k _ (.ListComp e' gs sc pos)) fun g=>Comprehension.casesOn (motive_3:=fun g=>Dec (SE W k _ (.ListComp e' [g] sc pos))) g fun t it' ifs a=>
   dNm (P:=fun t=>SE W k _ (.ListComp e' [⟨t,it',ifs,a⟩] sc pos)) fun y py=>deq a 0 fun ha=>need (compOk k sc y x) fun hc=>need (notSetE it') fun hs=>(trE it k it').bind fun hi=>(trE elt (k.inner sc y x) e').bind fun he=>(trL cond (k.inner sc y x) ifs).bind fun hl=>.yes (ha▸se_comp (compOk_of hc) hi he hl hs)
 | .dcomp ke ve x it,k,e=>dDC fun k' e' gs sc pos=>dOne (L:=fun gs=>SE W k _ (.DictComp k' e' gs sc pos)) fun g=>Comprehension.casesOn (motive_3:=fun g=>Dec (SE W k _ (.DictComp k' e' [g] sc pos))) g fun t it' ifs a=>
   dNm (P:=fun t=>SE W k _ (.DictComp k' e' [⟨t,it',ifs,a⟩] sc pos)) fun y py=>dNil (L:=fun ifs=>SE W k _ (.DictComp k' e' [⟨.Name y py,it',ifs,a⟩] sc pos)) (deq a 0 fun ha=>need (compOk k sc y x) fun hc=>need (notSetE it') fun hs=>(trE it k it').bind fun hi=>(trE ke (k.inner sc y x) k').bind fun hk=>(trE ve (k.inner sc y x) e').bind fun he=>.yes (ha▸se_dcomp (compOk_of hc) hi hk he hs))
 | .sortAbs x,k,e=>dCall fun g as ks pos=>dNm (P:=fun g=>SE W k _ (.Call g as ks pos)) fun id np=>dOne (L:=fun as=>SE W k _ (.Call (.Name id np) as ks pos)) fun a=>dOne (L:=fun ks=>SE W k _ (.Call (.Name id np) [a] ks pos)) fun kw=>Keyword.casesOn (motive_7:=fun kw=>Dec (SE W k _ (.Call (.Name id np) [a] [kw] pos))) kw fun key v q=>
   dNm (P:=fun v=>SE W k _ (.Call (.Name id np) [a] [⟨key,v,q⟩] pos)) fun ab kp=>deq id "sorted" fun h1=>deq key (some "key") fun h2=>deq ab "abs" fun h3=>need (isGl k "sorted") fun g1=>need (isGl k "abs") fun g2=>need (notStar a) fun hs=>(trE x k a).bind fun hx=>.yes (h1▸h2▸h3▸se_sortAbs hx g1 g2 hs)
 | .sortKeyRev x o n,k,e=>dCall fun g as ks pos=>dNm (P:=fun g=>SE W k _ (.Call g as ks pos)) fun id np=>dOne (L:=fun as=>SE W k _ (.Call (.Name id np) as ks pos)) fun a=>dCons (L:=fun ks=>SE W k _ (.Call (.Name id np) [a] ks pos)) fun kw ks=>dOne (L:=fun ks=>SE W k _ (.Call (.Name id np) [a] (kw::ks) pos)) fun kw'=>
   Keyword.casesOn (motive_7:=fun kw=>Dec (SE W k _ (.Call (.Name id np) [a] [kw,kw'] pos))) kw fun key v q=>Keyword.casesOn (motive_7:=fun kw'=>Dec (SE W k _ (.Call (.Name id np) [a] [⟨key,v,q⟩,kw'] pos))) kw' fun key' v' q'=>
   dAttr (P:=fun v=>SE W k _ (.Call (.Name id np) [a] [⟨key,v,q⟩,⟨key',v',q'⟩] pos)) fun b nm ap=>dConst (P:=fun v'=>SE W k _ (.Call (.Name id np) [a] [⟨key,.Attribute b nm ap,q⟩,⟨key',v',q'⟩] pos)) fun c kk rp=>cBool (C:=fun c=>SE W k _ (.Call (.Name id np) [a] [⟨key,.Attribute b nm ap,q⟩,⟨key',.Constant c kk rp,q'⟩] pos)) fun bb=>
   deq id "sorted" fun h1=>deq key (some "key") fun h2=>deq key' (some "reverse") fun h3=>deq bb true fun h4=>need (isGl k "sorted") fun g1=>need (notStar a) fun hs=>need (notSuper b) fun hb=>deq W.T.strTab[n]? (some nm) fun hn=>(trE x k a).bind fun hx=>(trE o k b).bind fun ho=>.yes (h1▸h2▸h3▸h4▸se_sortKeyRev hx ho g1 hs hb hn)
noncomputable def trL:(ms:MEs)→(k:Ck)→(es:List Expr)→Dec (SLs W k ms es)
 | .nil,k,es=>dNil (.yes sl_nil)
 | .cons m ms,k,es=>dCons fun e r=>need (notStar e) fun hn=>(trE m k e).bind fun he=>(trL ms k r).bind fun hr=>.yes (sl_cons he hr hn)
end
end
end Mini
end
section
namespace Mini
open PySem PySem.W PyProof.Rows PySem.SeqAt
inductive FlRel {W:Wd}(c:Cf W):MFlow→Flow→Prop
 | next:FlRel c .next .next
 | brk:FlRel c .brk .brk
 | cont:FlRel c .cont .cont
 | ret {m:MV}{v:Value}(r:c.V m v):FlRel c (.ret m) (.ret v)
section
variable {W:Wd}{k:Ck}{d:Nat}
inductive OutS (p:Pt W k d)(Q:KF):Flow→Shared→Prop
 | mk {mf:MFlow}{fl:Flow}{vars:Vars}{c:Cf W}(r:FlRel c mf fl)(q:Q mf vars c.hm)(O:Fr p.G vars c)(l:Later p.G.mine p.c c):OutS p Q fl c.s
inductive OutA (p:Pt W k d)(Q:Vars→HP):Shared→Prop
 | mk {vars:Vars}{c:Cf W}(q:Q vars c.hm)(O:Fr p.G vars c)(l:Later p.G.mine p.c c):OutA p Q c.s
noncomputable def Pt.go (p:Pt W k d){vars:Vars}{c:Cf W}(O:Fr p.G vars c):Pt W k d:=⟨p.G,vars,c,p.g,O⟩
variable {p:Pt W k d}{c:Cf W}{Q:KF}
theorem OutS.trans {vars:Vars}{O:Fr p.G vars c}{fl:Flow}{s:Shared}(L:Later p.G.mine p.c c)(h:OutS (p.go O) Q fl s):OutS p Q fl s:=by
 induction h with | mk r q O l=>exact .mk r q O (L.trans l)
theorem OutA.trans {vars:Vars}{Q:Vars→HP}{O:Fr p.G vars c}{s:Shared}(L:Later p.G.mine p.c c)(h:OutA (p.go O) Q s):OutA p Q s:=by
 induction h with | mk q O l=>exact .mk q O (L.trans l)
theorem later_in {X:List Addr}{Z:Addr}{h':Heap}{t:Nat}{z:Aside W.B c.ρ c.h Z}{k':ExtX [Z] c.h h'}{l':Z∈c.F→∃ o,h'.get? Z=some o}(hZ:Z∈X)(l:Lives h' Z):Later X c (c.turn t z k' l'):=
 ⟨.one (fun e=>e) (fun uu=>.inl) (fun b o e uu n=>k' b o (fun q=>n (by rw [List.mem_singleton.mp q]; exact hZ)) e) (fun b o e f=>(stay_turn z k').froz b o e f) (alive_x k' fun b q=>by
  rw [List.mem_singleton.mp q]; induction l with | mk e _=>exact ⟨_,e⟩) rfl rfl,rfl,Nat.le_refl _,fun uu b o hb e=>k' b o (fun q=>z.out (List.mem_singleton.mp q▸hb)) e⟩
inductive FrD (h:Heap)(a:Addr):Prop
 | mk {o:Obj}(e:h.get? a=some o)(d:∀ vs,o.data≠.fields vs)(f:¬ Frozen o)
theorem FrD.lives {h:Heap}{a:Addr}(n:FrD h a):Lives h a:=by induction n with | mk e d f=>exact .mk e f
theorem FrD.there {h:Heap}{a:Addr}(n:FrD h a):∃ o,h.get? a=some o:=by induction n with | mk e d f=>exact ⟨_,e⟩
theorem Stk.side {A:Around}{Y:List Addr}{h':Heap}{t:Nat}{z:∀ a∈Y,Aside W.B c.ρ c.h a}{k:ExtX Y c.h h'}{l:∀ b∈c.F,b∈Y→∃ o,h'.get? b=some o}(S:Stk A c)(n:∀ b∈c.F,b∈Y→FrD h' b):Stk A (c.side t z k l):=by
 induction S with
 | mk e f u o=>
  refine .mk e f (ff_mono u fun a ha x g d=>?_) fun a ha=>⟨(o a ha).out,(o a ha).new,?_⟩
  ·by_cases q:a∈Y
   ·induction n a (f▸ha) q with | mk e d f=>exact ⟨_,e,d⟩
   ·exact ⟨x,k a x q g,d⟩
  ·by_cases q:a∈Y
   ·exact (n a ha q).lives
   ·exact (o a ha).live.x k q
theorem Stk.turn {A:Around}{Z:Addr}{h':Heap}{t:Nat}{z:Aside W.B c.ρ c.h Z}{k:ExtX [Z] c.h h'}{l:Z∈c.F→∃ o,h'.get? Z=some o}(S:Stk A c)(n:Z∈c.F→FrD h' Z):Stk A (c.turn t z k l):=
 S.side fun b hb q=>by rw [List.mem_singleton.mp q] at hb ⊢; exact n hb
theorem ns_data {h:Heap}{a:Addr}{m:Str→Option Value}(n:h.Ns a m):FrD h a:=by
 obtain ⟨o,es,ep,g,d,_⟩:=n
 exact .mk g (fun vs e=>by rw [d] at e; cases e) (nf_d (by rw [d]; rfl))
theorem cell_data {h:Heap}{a:Addr}{v:Option Value}(n:h.IsCell a v):FrD h a:=by
 obtain ⟨o,g,d⟩:=n
 exact .mk g (fun vs e=>by rw [d] at e; cases e) (nf_d (by rw [d]; rfl))
theorem set_cases {vars:Vars}{x i:Nat}{v w:MV}(e:Vars.set vars x v i=some w):i=x∧v=w∨i≠x∧vars i=some w:=by
 have e:(if i=x then some v else vars i)=some w:=e
 by_cases q:i=x
 ·rw [if_pos q] at e; exact .inl ⟨q,Option.some.inj e⟩
 ·rw [if_neg q] at e; exact .inr ⟨q,e⟩
theorem mine_cell {G:Gx}{n:Str}{a:Addr}(kk:G.env.kindOf n=some .cell)(e:G.env.cells.lookup n=some a):a∈G.mine:=List.mem_cons_of_mem _ (List.mem_filterMap.mpr ⟨(n,a),mem_of_look e,by rw [kk]; exact e⟩)
theorem store_ok {A:Around}{nm:Str}{x:Nat}{v:MV}{u:Value}{Q:Vars→HP}{E:Value→Shared→Prop}(hx:k.vs.lookup nm=some x)(hk:k.kind nm=some .local∨k.kind nm=some .cell)(hv:p.c.V v u)(q:Q (Vars.set p.vars x v) p.c.hm):wpAny W.M A (storeName p.G.env nm u) (fun uu=>OutA p Q) E p.c.s:=by
 rw [← p.g.vs] at hx
 rw [← p.g.kind] at hk
 have own:=p.O.out
 have ne:∀ {y i},p.G.vs.lookup y=some i→i≠x→y≠nm:=fun e n z=>n (by rw [z,hx] at e; exact (Option.some.inj e).symm)
 induction p.O.store with
 | @mk m cm l cc hh=>
 rcases hk with hk | hk
 ·refine wpAny_storeName_local hk l (fun h' n' sb=>?_) (by rw [p.g.fn]; rfl)
  have z:Aside W.B p.c.ρ p.c.h p.G.env.locals:=⟨own _ (.head _),p.g.base _ (.head _),ns_lives l⟩
  have st:=stay_turn z (sb_x sb)
  refine OutA.mk (c:=p.c.turn _ z (sb_x sb) fun uu=>(ns_data n').there) q ⟨.mk n' (fun n a e=>cell_keep (cc n a e) (same_slots (out_keep (sb_x sb) (p.g.apart n a e)))) fun y i w e1 e2=>?_,own,p.O.stk.turn fun uu=>ns_data n'⟩ (later_in (.head _) (ns_lives n'))
  rcases set_cases e2 with ⟨rfl,rfl⟩ | ⟨n,e2⟩
  ·rw [p.g.inj y nm i e1 hx]
   exact .mk (hv.stay st) (.loc hk (if_pos rfl))
  ·induction hh y i w e1 e2 with
   | mk r s=>
    refine .mk (r.stay st) ?_
    induction s with
    | loc kk e=>exact .loc kk ((if_neg (ne e1 n)).trans e)
    | cell kk l e=>exact .cell kk l e
 ·obtain ⟨ca,hca⟩:=Option.isSome_iff_exists.mp (p.g.place nm x hx (.inl hk))
  refine wpAny_storeName_cell p.g.fn hk hca (cc _ _ hca) fun h' c' sb=>?_
  have z:Aside W.B p.c.ρ p.c.h ca:=⟨own _ (Gx.own_cell hca),p.g.base _ (mine_cell hk hca),cell_lives (cc _ _ hca)⟩
  have st:=stay_turn z (sb_x sb)
  refine OutA.mk (c:=p.c.turn p.c.s.toks z (sb_x sb) fun uu=>(cell_data c').there) q ⟨.mk (cm:=fun n=>if n=nm then some u else cm n) (ns_keep l (same_slots (out_keep (sb_x sb) (p.g.apart nm ca hca).symm))) (fun n a e=>?_) fun y i w e1 e2=>?_,own,p.O.stk.turn fun uu=>cell_data c'⟩ (later_in (mine_cell hk hca) (cell_lives c'))
  ·by_cases q:n=nm
   ·rw [q,hca] at e
    rw [if_pos q,← Option.some.inj e]; exact c'
   ·rw [if_neg q]
    exact cell_keep (cc n a e) (same_slots (out_keep (sb_x sb) fun w=>q (p.g.apartC n nm ca (w▸e) hca)))
  ·rcases set_cases e2 with ⟨rfl,rfl⟩ | ⟨n,e2⟩
   ·rw [p.g.inj y nm i e1 hx]
    exact .mk (hv.stay st) (.cell (.inl hk) hca (if_pos rfl))
   ·induction hh y i w e1 e2 with
    | mk r s=>
     refine .mk (r.stay st) ?_
     induction s with
     | loc kk e=>exact .loc kk e
     | cell kk l e=>exact .cell kk l ((if_neg (ne e1 n)).trans e)
end
noncomputable def stores (k:Ck)(id:Str)(x:Nat):Bool:=k.vs.lookup id==some x&&(k.kind id==some .local||k.kind id==some .cell)
structure AE (W:Wd)(k:Ck)(t:MT)(tg:Expr):Prop where
 v:∀ (X:Lx W)(p:Pt W k X.d)(v:MV)(u:Value)(Q:Vars→HP),p.c.V v u→asg X.lg t v Q p.vars p.c.hm→wpAny W.M p.G.A (assign tg p.G.env u) (fun uu=>OutA p Q) noE p.c.s
 sw:∀ value env,swappedStores [tg] value env=pure none
 each:∀ r env,assignEach (tg::r) env=(false,assign tg env)::assignEach r env
 nm:∀ id pos,tg = .Name id pos→∃ x,t = .var x∧stores k id x=true
 cl:∀ e gs sc pos line env,swapsWithSole [tg] (.ListComp e gs sc pos) line env=pure false∨(∃ nm p,tg = .Name nm p)∧swapsWithSole [tg] (.ListComp e gs sc pos) line env=pure true
 cd:∀ e f gs sc pos line env,swapsWithSole [tg] (.DictComp e f gs sc pos) line env=pure false∨(∃ nm p,tg = .Name nm p)∧swapsWithSole [tg] (.DictComp e f gs sc pos) line env=pure true
theorem stores_of {k:Ck}{id:Str}{x:Nat}(h:stores k id x=true):k.vs.lookup id=some x∧(k.kind id=some .local∨k.kind id=some .cell):=⟨eq_of_beq (t2 h).1,(bor (t2 h).2).imp (fun e=>eq_of_beq e) fun e=>eq_of_beq e⟩
section
variable {W:Wd}{k:Ck}{pos:Pos}{o i:Expr}{mo mi:ME}
theorem or_pure {b:Bool}{P:Prop}(h:P):(pure b:Sem Bool)=pure false∨P∧(pure b:Sem Bool)=pure true:=by
 rcases b with _ | _
 ·exact .inl rfl
 ·exact .inr ⟨h,rfl⟩
theorem ae_var {x:Nat}{id:Str}(h:stores k id x=true):AE W k (.var x) (.Name id pos):=⟨fun X p v u Q r q=>wpAny_assign_Name (store_ok (stores_of h).1 (stores_of h).2 r q),fun uu uu=>rfl,fun uu uu=>rfl,fun id' pos' e=>⟨x,rfl,(Expr.Name.inj e).1▸h⟩,fun uu uu uu uu uu uu=>or_pure ⟨_,_,rfl⟩,fun uu uu uu uu uu uu uu=>or_pure ⟨_,_,rfl⟩⟩
theorem arm_assign_attr (o:Expr)(attr:Str)(pos:Pos)(env:Env)(v:Value):assign (.Attribute o attr pos) env v=(holding [v] (eval o env)>>=fun ov=>standAt pos.atName>>=fun uu=>holding [v,ov] (setAttr ov attr v)>>=fun uu=>release [v,ov] []):=rfl
theorem arm_assign_sub (o i:Expr)(pos:Pos)(env:Env)(v:Value):assign (.Subscript o i pos) env v=(holding [v] (eval o env)>>=fun ov=>holding [v,ov] (eval i env)>>=fun iv=>standAt pos>>=fun uu=>holding [v,ov,iv] (setItem ov iv v)>>=fun uu=>
  release (match i with | .Slice _ _ none _=>[iv,v,ov] | _=>[v,ov,iv]) []):=rfl
theorem ae_attr {a:Nat}{n:Str}(ho:SE W k mo o)(ha:a∈W.T.attrTab)(hn:isStrs W a n):AE W k (.attr mo a) (.Attribute o n pos):=⟨fun X p v u Q r q=>by
 rw [arm_assign_attr]
 refine wpAny_bind (wpAny_holding (wout (ho.v X p _ q) fun m ov c2 r2 q l2=>atP (wpAny_bind (wpAny_holding ?_))))
 induction q with
 | mk e q=>exact wout (setA_ok X.K e ha hn r2 (r.later l2) q) fun uu uu c3 uu q l3=>wpAny_release (.mk q (p.O.later (l2.trans l3)) (l2.trans l3).up),fun uu uu=>rfl,fun uu uu=>rfl,fun uu uu e=>Expr.noConfusion e,fun uu uu uu uu uu uu=>.inl rfl,fun uu uu uu uu uu uu uu=>.inl rfl⟩
theorem ae_sub (ho:SE W k mo o)(hi:SE W k mi i):AE W k (.sub mo mi) (.Subscript o i pos):=⟨fun X p v u Q r q=>by
 rw [arm_assign_sub]
 refine wpAny_bind (wpAny_holding (wout (ho.v X p _ q) fun m ov c2 r2 q l2=>wpAny_bind (wpAny_holding (wout (hi.v X (p.to l2) _ q) fun n iv c3 r3 q l3=>atP (wpAny_bind (wpAny_holding ?_))))))
 have L:=l2.trans l3
 induction q with
 | mk e q=>exact wout (setI_ok X.K e (r2.later l3) r3 (r.later L) q) fun uu uu c4 uu q l4=>wpAny_release (.mk q (p.O.later (L.trans l4)) (L.trans l4).up),fun uu uu=>rfl,fun uu uu=>rfl,fun uu uu e=>Expr.noConfusion e,fun uu uu uu uu uu uu=>.inl rfl,fun uu uu uu uu uu uu uu=>.inl rfl⟩
end
noncomputable def trT (W:Wd)(t:MT)(k:Ck)(e:Expr):Dec (AE W k t e):=match t with
 | .var x=>dNm fun id pos=>need (stores k id x) fun h=>.yes (ae_var h)
 | .attr o a=>dAttr fun b n pos=>deq W.T.strTab[a]? (some n) fun hn=>need (W.T.attrTab.contains a) fun ha=>(trE W o k b).bind fun ho=>.yes (ae_attr ho (List.contains_iff_mem.mp ha) hn)
 | .sub o i=>dSub fun o' i' pos=>(trE W o k o').bind fun ho=>(trE W i k i').bind fun hi=>.yes (ae_sub ho hi)
end Mini
end
section
namespace Mini
open PySem PySem.W PyProof.Rows PySem.SeqAt
structure Noted (F:List Addr)(h h':Heap)(e T:Addr)(oe:Obj)(L:Addr):Prop where
 keep:∀ b o,b≠e→b∉F→h.get? b=some o→h'.get? b=some o
 slot:∀ b∈F,∀ o,h.get? b=some o→∃ sl,h'.get? b=some { o with slots:=sl }
 new:Above h T
 e:h'.get? e=some (oe.mapFields (·.setIfInBounds 1 (.ref T)))
 tb:∃ oT ts,h'.get? T=some oT∧oT.cls = .type "traceback"∧oT.data = .fields ts∧ts[3]?=some (rawInt L)
section
variable {M:Model}{A:Around}{E:Value→Shared→Prop}{s:Shared}{base:Heap}{env:Env}{outer:List Env}{L e:Addr}{oe:Obj}{vs:Array Value}{head:Value}{hadNext:Bool}{Q:Unit→Shared→Prop}
theorem entry_at (hfr:A.frames=some (env::outer))(hl:s.heap.FunFrames base (env::outer))(hf:env.frame=some L)(he:s.heap.get? e=some oe)(hd:oe.data = .fields vs)(hsz:1<vs.size)
  (h:∀ h' T,Noted ((env::outer).filterMap (·.frame)) s.heap h' e T oe L→Q () { s with heap:=h' }) :
  wpAny M A (do let a ← frameOf env; let pl ← entryPlaceOf L hadNext; let b ← EntryCells.newEntry head a .none (rawInt L) .none pl; setField (.ref e) 1 b) Q E s:=by
 have hene:e∉(env::outer).filterMap (·.frame):=fun hm=>by
  obtain ⟨_,o,ho,hnf⟩:=hl.mem hm
  rw [he] at ho; injection ho with ho; subst ho; exact hnf vs hd
 refine wpAny_bind (wpAny_frameOf_fun hfr hl hf fun h₁ hs₁=>?_)
 refine wpAny_bind (wpAny_entryPlaceOf fun pl hpl=>?_)
 unfold EntryCells.newEntry newFields
 refine wpAny_bind (wpAny_newObj_type ?_ (hpl.sizeOk5 _ _ _ _ _))
 have he₁:h₁.get? e=some oe:=(hs₁.2.1 e hene).trans he
 generalize hts:([head,.ref L,.none,rawInt L,.none]++(if pl.isEmpty then List.replicate 6 Value.none else pl)).toArray=ts
 have h3:ts[3]?=some (rawInt L):=by rw [← hts,List.getElem?_toArray]; rfl
 have he₂:=Heap.get?_push_of_some (h:=h₁) { cls:=.type "traceback",dict:=none,data:=.fields ts } he₁
 refine wpAny_setField he₂ hd hsz (h _ h₁.objs.size ⟨fun b o hb hF g=>?_,fun b hF o g=>?_,above_size _ (Nat.le_of_eq hs₁.1.symm),Heap.get?_update_self _ he₂ (Obj.isFreed_of_fields (Obj.data_mapFields hd _)),?_⟩)
 ·rw [Heap.get?_update_other _ _ (Ne.symm hb)]
  exact Heap.get?_push_of_some _ ((hs₁.2.1 b hF).trans g)
 ·obtain ⟨sl,g'⟩:=hs₁.2.2 b o g
  refine ⟨sl,?_⟩
  have ne:e≠b:=fun q=>hene (q▸hF)
  rw [Heap.get?_update_other _ _ ne]
  exact Heap.get?_push_of_some _ g'
 ·refine ⟨{ cls:=.type "traceback",dict:=none,data:=.fields ts },ts,?_,rfl,rfl,h3⟩
  have ne:e≠h₁.objs.size:=Nat.ne_of_lt (Heap.lt_size he₁)
  rw [Heap.get?_update_other _ _ ne]
  exact Heap.get?_push_size h₁ rfl
end
inductive Turned {W:Wd}(c₀ c:Cf W)(e:Addr)(fl:Value):Shared→Prop
 | mk {c':Cf W}{Y:List Addr}(ab:∀ a∈Y,Above c₀.h a)(l:Later Y c c')(hm:c'.hm=c.hm)(x:Exc c₀ c' e (some fl)):Turned c₀ c e fl c'.s
section
variable {W:Wd}{c₀ c:Cf W}{X Y:List Addr}{e:Addr}{A:Around}{E:Value→Shared→Prop}{Q:Unit→Shared→Prop}
theorem Later.widen {c':Cf W}(l:Later X c c')(h:X ⊆ Y):Later Y c c':=⟨l.toLaterR.mono fun uu q=>h q,l.f,l.tick,l.own⟩
theorem Later.over {c':Cf W}(l:Later X c₀ c)(l':Later Y c c')(ab:∀ a∈Y,Above c₀.h a)(hm:c'.hm=c.hm):Later X c₀ c' where
 at_:=fun e=>l'.at_ (l.at_ e)
 fresh:=fun a ha=>(l'.fresh a ha).elim (l.fresh a) fun n=>.inr (n.back l.alive)
 keep:=fun b o e hb hX hF=>l'.keep b o (l.keep b o e hb hX hF) (l.off e hb) (fun q=>(ab b q).no e) (l.f▸hF)
 slot:=fun b o e hb hX=>by obtain ⟨sl,e'⟩:=l.slot b o e hb hX; exact l'.slot b { o with slots:=sl } e' (l.off e hb) fun q=>(ab b q).no e
 froz:=fun b o e f=>l'.froz b o (l.froz b o e f) f
 alive:=fun b o e=>let ⟨o',e'⟩:=l.alive b o e; l'.alive b o' e'
 rest:=⟨l'.rest.1.trans l.rest.1,l'.rest.2.trans l.rest.2⟩
 f:=l'.f.trans l.f
 tick:=by rw [hm]; exact l.tick
 own:=fun q b o hb g=>by
  rw [hm] at q
  exact l'.own (by rw [hm]) b o (own_at l.at_ hb) (l.own q b o hb g)
theorem Off.side {o:Obj}{a:Addr}(x:Off c₀ c a)(g:c.h.get? a=some o)(n:setC o.cls=false):Aside W.B c.ρ c.h a:=⟨x.out,x.new.back c₀.sim.base.alive,.mk g (nf_c n)⟩
theorem turned_at {F:List Addr}{h':Heap}(hF:c.F=F)(S:∀ a∈c.F,Aside W.B c.ρ c.h a)(y:∀ a∈Y,Aside W.B c.ρ c.h a)(keep:∀ b o,b∉Y→b∉F→c.h.get? b=some o→h'.get? b=some o)(slot:∀ b∈F,∀ o,c.h.get? b=some o→∃ sl,h'.get? b=some { o with slots:=sl })
  (there:∀ a∈Y,∃ o,h'.get? a=some o):∃ c':Cf W,Later Y c c'∧c'.hm=c.hm∧c'.ρ=c.ρ∧c'.s={ c.s with heap:=h' }:=by
 have z:∀ a∈Y++c.F,Aside W.B c.ρ c.h a:=fun a ha=>(List.mem_append.mp ha).elim (y a) (S a)
 have k:ExtX (Y++c.F) c.h h':=fun b o hb g=>keep b o (fun q=>hb (List.mem_append_left _ q)) (fun q=>hb (List.mem_append_right _ (hF▸q))) g
 have th:∀ a∈Y++c.F,∃ o,h'.get? a=some o:=fun a ha=>(List.mem_append.mp ha).elim (there a) fun q=>by
  obtain ⟨o,g⟩:=c.fr a q
  obtain ⟨sl,g'⟩:=slot a (hF▸q) o g
  exact ⟨_,g'⟩
 refine ⟨c.side c.s.toks z k fun b uu q=>th b q,⟨⟨fun e=>e,fun uu=>.inl,fun b o g uu hX hS=>k b o (fun q=>(List.mem_append.mp q).elim hX hS) g,fun b o g uu hX=>?_,fun b o g f=>k b o (fun q=>(z b q).live.nf g f) g,alive_x k th,rfl,rfl⟩,rfl,Nat.le_refl _,fun uu b o hb g=>k b o (fun q=>(z b q).out hb) g⟩,rfl,rfl,rfl⟩
 by_cases q:b∈c.F
 ·exact slot b (hF▸q) o g
 ·exact ⟨o.slots,k b o (fun w=>(List.mem_append.mp w).elim hX q) g⟩
theorem noted_turned {F:List Addr}{h':Heap}{T L:Addr}{oe:Obj}{vs:Array Value}{c':Cf W}(l:Later X c₀ c)(l':Later Y c c')(ab:∀ a∈Y,Above c₀.h a)(hm:c'.hm=c.hm)(hr:c'.ρ=c.ρ)(hs:c'.s={ c.s with heap:=h' })(n:Noted F c.h h' e T oe L)(cl:oe.cls = .ref W.LF)(d:oe.data = .fields vs)(sz:1<vs.size)(off:Off c₀ c e)(g:c.h.get? e=some oe):Turned c₀ c e (rawInt L) c'.s:=by
 obtain ⟨oT,ts,t1,t2,t3,t4⟩:=n.tb
 have eh:c'.h=h':=congrArg Shared.heap hs
 have nT:T∉owned c'.ρ:=fun q=>by
  rw [hr] at q
  obtain ⟨o,w⟩:=owned_lives c q
  exact n.new.no w
 exact .mk ab l' hm (.at (T:=T) (eh▸n.e) ((Obj.cls_mapFields ..).trans cl) (Obj.data_mapFields d _) (by simp [sz]) ⟨hr▸off.out,off.new⟩ (fun q=>n.new.no (q▸g)) (eh▸t1) t2 t3 t4 ⟨nT,n.new.back l.alive⟩)
theorem stk_side {env:Env}{outer:List Env}(S:Stk A c)(hfr:A.frames=some (env::outer)):c.F=(env::outer).filterMap (·.frame)∧c.h.FunFrames W.B (env::outer)∧∀ a∈c.F,Aside W.B c.ρ c.h a:=by
 induction S with
 | mk e f u o=>
  rw [hfr] at e
  have e:=Option.some.inj e
  subst e
  exact ⟨f,u,o⟩
theorem note_new {env:Env}{outer:List Env}{L:Addr}{oe:Obj}{vs:Array Value}{head:Value}{hadNext:Bool}(S:Stk A c)(hfr:A.frames=some (env::outer))(hf:env.frame=some L)(l:Later X c₀ c)(g:c.h.get? e=some oe)(cl:oe.cls = .ref W.LF)(d:oe.data = .fields vs)(sz:1<vs.size)(off:Off c₀ c e)(h:∀ s,Turned c₀ c e (rawInt L) s→Q () s) :
  wpAny W.M A (do let a ← frameOf env; let pl ← entryPlaceOf L hadNext; let b ← EntryCells.newEntry head a .none (rawInt L) .none pl; setField (.ref e) 1 b) Q E c.s:=by
 obtain ⟨f,u,o⟩:=stk_side S hfr
 refine entry_at hfr u hf g d sz fun h' T n=>?_
 obtain ⟨c',l',hm,hr,hs⟩:=turned_at (Y:=[e]) f o (fun a ha=>List.mem_singleton.mp ha▸off.side g (by rw [cl]; rfl)) (fun b o hb hF g=>n.keep b o (fun q=>hb (List.mem_singleton.mpr q)) hF g) n.slot fun a ha=>by rw [List.mem_singleton.mp ha]; exact ⟨_,n.e⟩
 have z:=noted_turned l l' (fun a ha=>List.mem_singleton.mp ha▸off.new) hm hr hs n cl d sz off g
 rw [hs] at z
 exact h _ z
theorem set_head {v fl:Value}{o oT:Obj}{vs ts:Array Value}{T:Addr}(l:Later X c₀ c)(S:∀ a∈c.F,Aside W.B c.ρ c.h a)(g:c.h.get? e=some o)(cl:o.cls = .ref W.LF)(d:o.data = .fields vs)(h1:vs[1]?=some (.ref T))(off:Off c₀ c e)(ne:T≠e)(gT:c.h.get? T=some oT)(cT:oT.cls = .type "traceback")(dT:oT.data = .fields ts)(h3:ts[3]?=some fl)(offT:Off c₀ c T)
  (h:∀ s,Turned c₀ c e v s→Q () s):wpAny W.M A (setField (.ref T) 3 v) Q E c.s:=by
 have sz:3<ts.size:=(Array.getElem?_eq_some_iff.mp h3).1
 refine wpAny_setField gT dT sz ?_
 have hd:=Obj.data_mapFields dT (·.setIfInBounds 3 v)
 have oth:∀ b,b≠T→(c.h.update T (Obj.mapFields (·.setIfInBounds 3 v))).get? b=c.h.get? b:=fun b hb=>Heap.get?_update_other _ _ (Ne.symm hb)
 have nF:T∉c.F:=l.nf offT.new
 have gT':=Heap.get?_update_self (Obj.mapFields (·.setIfInBounds 3 v)) gT (Obj.isFreed_of_fields hd)
 obtain ⟨c',l',hm,hr,hs⟩:=turned_at (Y:=[T]) rfl S (fun a ha=>List.mem_singleton.mp ha▸offT.side gT (by rw [cT]; rfl)) (fun b o hb uu g=>(oth b fun q=>hb (List.mem_singleton.mpr q)).trans g) (fun b hF o g=>⟨o.slots,(oth b fun q=>nF (q▸hF)).trans g⟩) fun a ha=>by rw [List.mem_singleton.mp ha]; exact ⟨_,gT'⟩
 have eh:c'.h=c.h.update T (Obj.mapFields (·.setIfInBounds 3 v)):=congrArg Shared.heap hs
 have z:Turned c₀ c e v c'.s:=.mk (fun a ha=>List.mem_singleton.mp ha▸offT.new) l' hm (.at (T:=T) (eh▸(oth e (Ne.symm ne)).trans g) cl d h1 ⟨hr▸off.out,off.new⟩ ne (eh▸gT') ((Obj.cls_mapFields ..).trans cT) hd (by simp [sz]) ⟨hr▸offT.out,offT.new⟩)
 rw [hs] at z
 exact h _ z
theorem flight_ok {fl:Value}{f:Option Addr}(S:Stk A c)(l:Later X c₀ c)(x:Exc c₀ c e (some fl))(h:∀ s,Turned c₀ c e (f.elim .none fun a=>rawInt a) s→Q () s):wpAny W.M A (setFlight (.ref e) f) Q E c.s:=by
 have o:∀ a∈c.F,Aside W.B c.ρ c.h a:=by induction S with | mk _ _ _ o=>exact o
 cases x with
 | «at» g cl d h1 off ne gT cT dT h3 offT=>
  unfold setFlight
  refine wpAny_bind (wpAny_field g d h1 ?_)
  rw [if_pos (show (Value.ref _ != Value.none)=true from by simp)]
  exact set_head (v:=f.elim .none fun a=>rawInt a) l o g cl d h1 off ne gT cT dT h3 offT h
theorem note_ok {env:Env}{outer:List Env}{L:Addr}{fl:Option Value}(S:Stk A c)(hfr:A.frames=some (env::outer))(hf:env.frame=some L)(l:Later X c₀ c)(x:Exc c₀ c e fl)(st:∀ v,fl=some v→v=rawInt L∨v = .none)(h:∀ s,Turned c₀ c e (rawInt L) s→Q () s):wpAny W.M A (noteFrame (.ref e) env) Q E c.s:=by
 unfold noteFrame
 simp only [hf]
 induction x with
 | raw g cl d h1 off=>
  refine wpAny_bind (wpAny_field g d h1 ?_)
  rw [if_neg (by decide)]
  exact note_new S hfr hf l g cl d (Array.getElem?_eq_some_iff.mp h1).1 off h
 | @«at» o oT vs ts T fl g cl d h1 off ne gT cT dT h3 offT=>
  refine wpAny_bind (wpAny_field g d h1 ?_)
  rw [if_pos (show (Value.ref T != Value.none)=true from by simp)]
  refine wpAny_bind (wpAny_field gT dT h3 ?_)
  rcases st fl rfl with q | q
  ·rw [if_pos (by rw [q]; exact beq_self_eq_true _)]
   exact wpAny_pure (h _ (.mk (Y:=[]) nofun .refl rfl (q▸.at g cl d h1 off ne gT cT dT h3 offT)))
  ·rw [if_neg (show ¬ ((fl==rawInt L)=true) from by rw [q]; simp [rawInt])]
   obtain ⟨f,u,o'⟩:=stk_side S hfr
   refine wpAny_bind (set_head (v:=.none) l o' g cl d h1 off ne gT cT dT h3 offT fun s t=>?_)
   induction t with
   | @mk c1 Y ab l1 hm x1=>
   have S1:Stk A c1:=S.laterX l1 fun a ha q=>(l.nf (ab a q)) ha
   have L1:=l.over l1 ab hm
   cases x1 with
   | «at» g cl d h1 off ne gT cT dT h3 offT=>
   refine note_new S1 hfr hf L1 g cl d (Array.getElem?_eq_some_iff.mp h1).1 off fun s t=>h _ ?_
   induction t with
   | @mk c2 Y2 ab2 l2 hm2 x2=>
   exact .mk (Y:=Y++Y2) (fun a ha=>(List.mem_append.mp ha).elim (ab a) (ab2 a)) ((l1.widen (List.subset_append_left _ _)).trans (l2.widen (List.subset_append_right _ _))) (hm2.trans hm) x2
end
end Mini
end
section
namespace Mini
open PySem PySem.W PyProof.Rows PySem.SeqAt
inductive OutE {W:Wd}{k:Ck}{d:Nat}(p:Pt W k d)(Q:KF):Value→Shared→Prop
 | mk {vars:Vars}{c:Cf W}{e:Addr}{fl:Option Value}(q:Q .raise vars c.hm)(O:Fr p.G vars c)(l:Later p.G.mine p.c c)(x:Exc p.c c e fl)(f:∀ v,fl=some v→∃ L,p.G.env.frame=some L∧v=rawInt L):OutE p Q (.ref e) c.s
inductive Top (G:Gx):Prop
 | mk {outer:List Env}{L:Addr}(e:G.A.frames=some (G.env::outer))(f:G.env.frame=some L)
noncomputable def XE (W:Wd)(k:Ck)(m:MS)(st:Stmt):Prop:=∀ (X:Lx W)(p:Pt W k X.d)(Q:KF),Top p.G→ex X.lg m Q p.vars p.c.hm→wpAny W.M p.G.A (exec st p.G.env) (OutS p Q) (OutE p Q) p.c.s
noncomputable def XEs (W:Wd)(k:Ck)(m:MSs)(st:List Stmt):Prop:=∀ (X:Lx W)(p:Pt W k X.d)(Q:KF),Top p.G→exs X.lg m Q p.vars p.c.hm→wpAny W.M p.G.A (execs st p.G.env) (OutS p Q) (OutE p Q) p.c.s
theorem nx {M:Model}{α:Type}{A:Around}{t:Sem α}{P:α→Shared→Prop}{E:Value→Shared→Prop}{s:Shared}(h:wpAny M A t P noE s):wpAny M A t P E s:=wpAny_mono h (fun uu uu h=>h) fun uu uu e=>e.elim
noncomputable def notComp (e:Expr):Bool:=e.ctorIdx != 8&&(e.ctorIdx != 9&&e.ctorIdx != 10)
section
variable {W:Wd}{k:Ck}{pos:Pos}{e:Expr}{me:ME}{ma mb:MSs}{a b:List Stmt}
theorem outS_now {d:Nat}{p:Pt W k d}{Q:KF}{mf:MFlow}{fl:Flow}{c:Cf W}(r:FlRel c mf fl)(q:Q mf p.vars c.hm)(l:Later [] p.c c):OutS p Q fl c.s:=.mk r q (p.O.later l) l.up
theorem xe_expr (he:SE W k me e)(hn:notComp e=true):XE W k (.expr me) (.Expr e pos):=fun X p Q T q=>
 wpAny_Expr_any (wout' (he.v X p _ q) fun m u c r q l=>outS_now .next q l) (by unfold interactive; rw [p.g.fn]; rfl) (by
  rcases e with _ | _ | _ | _ | _ | _ | _ | _ | _ | _ | _ | _ | _ | _ | _ | _ | _ | _ | _ | _ | _ | _ | _ | _ | _ | _ | _ <;> first | exact rfl | exact ff hn)
theorem xe_ret (he:SE W k me e):XE W k (.ret me) (.Return (some e) pos):=fun X p Q T q=>wpAny_Return_some (wout' (he.v X p _ q) fun m u c r q l=>outS_now (.ret r) q l)
theorem xe_retNone:XE W k .retNone (.Return none pos):=fun X p Q T q=>wpAny_Return_none (outS_now (.ret vnone) q .refl)
theorem xe_brk:XE W k .brk (.Break pos):=fun X p Q T q=>by rw [arm_exec_Break]; exact nx (atP (wpAny_pure (outS_now .brk q .refl)))
theorem xe_cont:XE W k .cont (.Continue pos):=fun X p Q T q=>by rw [arm_exec_Continue]; exact nx (atP (wpAny_pure (outS_now .cont q .refl)))
theorem xe_bad {st:Stmt}:XE W k .bad st:=fun X p Q T q=>q.elim
theorem Exc.back {c₀ c₁ c:Cf W}{e:Addr}{fl:Option Value}(x:Exc c₁ c e fl)(al:Alive c₀.h c₁.h):Exc c₀ c e fl:=by
 induction x with
 | raw g cl d h1 off=>exact .raw g cl d h1 ⟨off.out,off.new.back al⟩
 | «at» g cl d h1 off ne gT cT dT h3 offT=>exact .at g cl d h1 ⟨off.out,off.new.back al⟩ ne gT cT dT h3 ⟨offT.out,offT.new.back al⟩
theorem OutE.trans {d:Nat}{p:Pt W k d}{c:Cf W}{vars:Vars}{Q:KF}{O:Fr p.G vars c}(L:Later p.G.mine p.c c){e:Value}{s:Shared}(h:OutE (p.go O) Q e s):OutE p Q e s:=by
 induction h with | mk q O l x f=>exact .mk q O (L.trans l) (x.back L.alive) f
theorem go_on {d:Nat}{p:Pt W k d}{c:Cf W}{vars:Vars}{Q:KF}{t:Sem Flow}(O:Fr p.G vars c)(L:Later p.G.mine p.c c)(h:wpAny W.M p.G.A t (OutS (p.go O) Q) (OutE (p.go O) Q) c.s):wpAny W.M p.G.A t (OutS p Q) (OutE p Q) c.s:=wpAny_mono h (fun uu uu=>OutS.trans L) fun uu uu=>OutE.trans L
theorem Fr.turned {c₀ c c':Cf W}{G:Gx}{vars vars₀:Vars}{X Y:List Addr}(O₀:Fr G vars₀ c₀)(O:Fr G vars c)(L:Later X c₀ c)(l:Later Y c c')(ab:∀ a∈Y,Above c₀.h a):Fr G vars c':=O.laterX l (fun a ha q=>by
 induction O₀.store.lives a ha with | mk g _=>exact (ab a q).no g) fun a ha q=>(L.nf (ab a q)) ha
theorem out_loop {d:Nat}{p:Pt W k d}{Q:KF}{e:Value}{s:Shared}(T:Top p.G)(h:OutE p Q e s):notedBy W.M p.G.A p.G.env (cameBackBy W.M p.G.A p.G.env (OutE p Q)) e s:=by
 induction h with
 | @mk vars c e fl q O l x f=>
 induction T with
 | @mk outer L ea ef=>
 refine note_ok O.stk ea ef l x (fun v hv=>.inl ?_) fun s t=>?_
 ·obtain ⟨L',e1,e2⟩:=f v hv
  rw [ef] at e1; rw [e2,Option.some.inj e1]
 induction t with
 | @mk c1 Y ab l1 hm x1=>
 have O1:=Fr.turned p.O O l l1 ab
 have L1:=l.over l1 ab hm
 unfold cameBackBy
 have fo:=flight_ok (A:=p.G.A) (E:=OutE p Q) (Q:=fun uu s''=>OutE p Q (.ref e) s'') (f:=some L) O1.stk L1 x1 fun s t=>by
  induction t with
  | @mk c2 Y2 ab2 l2 hm2 x2=>exact .mk (by rw [hm2,hm]; exact q) (Fr.turned p.O O1 L1 l2 ab2) (L1.over l2 ab2 hm2) x2 fun v hv=>⟨L,ef,(Option.some.inj hv).symm⟩
 cases x1 with
 | «at» g cl dd h1 off ne gT cT dT h3 offT=>
  refine wpAny_bind (wpAny_field g dd h1 ?_)
  rw [if_neg (show ¬ ((Value.ref _==Value.none)=true) from by simp),ef]
  exact fo
theorem xe_ite (he:SE W k me e)(ha:XEs W k ma a)(hb:XEs W k mb b):XE W k (.ite me ma mb) (.If e a b pos):=fun X p Q T q=>by
 refine wpAny_If (wout' (he.t X p _ q) fun m t c r q l=>?_)
 rw [show m = .bool t from r] at q
 rcases t with _ | _
 ·exact go_on (p.O.later l) l.up (hb X (p.go (p.O.later l)) Q T q.elim)
 ·exact go_on (p.O.later l) l.up (ha X (p.go (p.O.later l)) Q T q.elim)
inductive WhileI {d:Nat}(p:Pt W k d)(K:Nat→Vars→HP)(n:Nat):Shared→Prop
 | mk {vars:Vars}{c:Cf W}(q:K n vars c.hm)(O:Fr p.G vars c)(l:Later p.G.mine p.c c):WhileI p K n c.s
noncomputable def turnF (Q:KF)(K:Vars→HP):KF:=fun f ρ h=>match f with
 | .next=>K ρ h
 | .cont=>K ρ h
 | .brk=>Q .next ρ h
 | .ret w=>Q (.ret w) ρ h
 | .raise=>Q .raise ρ h
theorem turn_raise {d:Nat}{p:Pt W k d}{Q:KF}{K:Vars→HP}{e:Value}{s:Shared}(h:OutE p (turnF Q K) e s):OutE p Q e s:=by
 induction h with | mk q O l x f=>exact .mk q O l x f
theorem xe_while (he:SE W k me e)(hb:XEs W k mb b):XE W k (.while me mb) (.While e b [] pos):=fun X p Q T q=>by
 obtain ⟨n,q⟩:=q
 refine wpAny_While (codeAny_whileLoop (WhileI p fun n ρ h=>whileN (fun ρ=>ev X.lg me ρ true) (exs X.lg mb) n Q ρ h) (fun n s hI=>?_) n (.mk q p.O .refl))
 induction hI with
 | @mk vars c q O l=>
 rcases n with _ | n
 ·exact q.elim
 refine wout' (he.t X (p.go O) _ q) fun m t c2 r q l2=>?_
 rw [show m = .bool t from r] at q
 rcases t with _ | _
 ·rw [if_neg Bool.false_ne_true]
  exact wpAny_execs_nil (.mk .next q.elim (O.later l2) (l.trans l2.up))
 ·rw [if_pos rfl]
  refine wpAny_mono (hb X (p.go (O.later l2)) (turnF Q fun ρ h=>whileN (fun ρ=>ev X.lg me ρ true) (exs X.lg mb) n Q ρ h) T q.elim) (fun fl s h=>?_) fun e s h=>out_loop T (OutE.trans (l.trans l2.up) (O:=O.later l2) (Q:=Q) (turn_raise h))
  induction h with
  | mk r q O3 l3=>
  have L:=(l.trans l2.up).trans l3
  induction r with
  | next=>exact ⟨n,Nat.lt_succ_self _,.mk q O3 L⟩
  | brk=>exact .mk .next q O3 L
  | cont=>exact ⟨n,Nat.lt_succ_self _,.mk q O3 L⟩
  | ret r=>exact .mk (.ret r) q O3 L
end
end Mini
end
section
namespace Mini
open PySem PySem.W PyProof.Rows PySem.SeqAt
section
variable {W:Wd}{k:Ck}{pos np:Pos}{e:Expr}{me:ME}{mb:MSs}{b:List Stmt}
theorem Fr.turn {G:Gx}{vars:Vars}{c:Cf W}{Z:Addr}{h':Heap}{t:Nat}{z:Aside W.B c.ρ c.h Z}{k:ExtX [Z] c.h h'}{l:Z∈c.F→∃ o,h'.get? Z=some o}(O:Fr G vars c)(n:Z∉G.own)(nf:Z∉c.F):Fr G vars (c.turn t z k l):=
 ⟨O.store.keep (stay_turn z k) fun a ha=>same_slots (out_keep k fun q=>n (q▸ha)),O.out,O.stk.turn fun q=>absurd q nf⟩
theorem mine_own {G:Gx}{a:Addr}(h:a∈G.mine):a∈G.own:=by
 rcases List.mem_cons.mp h with q | q
 ·rw [q]; exact .head _
 ·obtain ⟨p,hp,e⟩:=List.mem_filterMap.mp q
  by_cases z:(G.env.kindOf p.1==some .cell)=true
  ·rw [if_pos z] at e; exact Gx.own_cell e
  ·rw [if_neg z] at e; exact ns e
theorem fresh_own {G:Gx}{vars:Vars}{c:Cf W}{a:Addr}(O:Fr G vars c)(n:Above c.h a):a∉G.own:=fun q=>by
 induction O.store.lives a q with | mk g _=>exact n.no g
theorem notSet_fold {env:Env}(h:notSetE e=true)(v:Value):foldedSetIterable e env v=pure v:=by
 rcases e with _ | _ | _ | _ | _ | _ | _ | _ | _ | _ | _ | _ | _ | _ | _ | _ | _ | _ | _ | _ | _ | _ | _ | _ | _ | _ | _ <;> first | exact rfl | exact ff h
inductive ForI {d:Nat}(p:Pt W k d)(I:Addr)(v:MV)(xs:List MV)(K:Nat→Vars→HP)(n:Nat):Shared→Prop
 | mk {vars:Vars}{c:Cf W}{j:Nat}(en:n=xs.length + 1 - j)(hj:j≤xs.length)(q:K j vars c.hm)(O:Fr p.G vars c)(l:Later p.G.mine p.c c)(out:I∉owned c.ρ)(it:IterOk W c.ρ c.h c.hm.tick I j v):ForI p I v xs K n c.s
theorem xe_for {x:Nat}{id:Str}(he:SE W k me e)(hb:XEs W k mb b)(hs:stores k id x=true)(hset:notSetE e=true):XE W k (.for x me mb) (.For (.Name id np) e b [] pos):=fun X p Q T q=>by
 refine wpAny_For ?_ (notSet_fold hset)
 refine wout' (he.v X p _ q) fun v u c₁ r q L=>?_
 induction q with
 | @mk xs e q=>
 refine nx (iter_start X.K e r fun oI lI it0=>?_)
 have O1:=p.O.later L
 have k2:Ext c₁.h (c₁.h.push oI):=.push _ _
 have nI:=fresh_own O1 (above_size c₁.h (Nat.le_refl _))
 have nM:c₁.h.objs.size∉p.G.mine:=fun q=>nI (mine_own q)
 have nF:c₁.h.objs.size∉p.c.F:=L.f▸Above.nf (above_size c₁.h (Nat.le_refl _))
 have aI:Above p.c.h c₁.h.objs.size:=(above_size c₁.h (Nat.le_refl _)).back L.alive
 have L2:Later [] p.c (c₁.grow c₁.s.toks k2):=L.trans (later_grow k2)
 refine codeAny_forLoop (ForI p c₁.h.objs.size v xs fun j ρ h=>forL (fun h=>Items h v xs) (fun v Q ρ h=>exs X.lg mb Q (Vars.set ρ x v) h) (xs.drop j) Q ρ h) (fun n s hI=>?_) (xs.length + 1) (.mk (c:=c₁.grow c₁.s.toks k2) rfl (Nat.zero_le _) q (p.O.later L2) L2.up (not_own (c:=c₁) (above_size _ (Nat.le_refl _))) it0)
 clear q e r it0 lI
 generalize c₁.h.objs.size=I at *
 induction hI with
 | @mk vars c j en hj q O l out it=>
 have ei:Items c.hm v xs:=by
  rcases hd:xs.drop j with _ | ⟨z,r⟩ <;> rw [hd] at q <;> exact q.1
 have z:Aside W.B c.ρ c.h I:=⟨out,aI.back p.c.sim.base.alive,it.lives⟩
 have nC:I∉c.F:=l.f▸nF
 refine iter_next ei it hj p.g.room.handled (fun hje h' k'=>?_) fun xv u h' t hx k' hu it'=>?_
 ·rw [drop_end hje] at q
  exact wpAny_execs_nil (.mk (c:=c.turn c.s.toks z k' fun q=>absurd q nC) .next q.2 (O.turn nI nC) (l.turn aI))
 ·obtain ⟨ed,hlt⟩:=drop_at hx
  rw [ed] at q
  have O2:Fr p.G vars (c.turn t z k' fun q=>absurd q nC):=O.turn nI nC
  have LT:Later p.G.mine p.c (c.turn t z k' fun q=>absurd q nC):=l.turn aI
  refine wpAny_assign_Name (wpAny_mono (store_ok (p:=p.go O2) (Q:=fun ρ h=>ρ=Vars.set vars x xv∧h=c.hm) (E:=noE) (stores_of hs).1 (stores_of hs).2 hu ⟨rfl,rfl⟩) (fun uu s h=>?_) fun uu uu e=>e.elim)
  induction h with
  | @mk vars3 c3 q3 O3 l3=>
  have q:=q.2
  rw [← q3.2] at q
  have O3':=q3.1▸O3
  have it3:=IterOk.keep (n:=c.hm.tick) it' l3.stay (fun o e=>l3.keep _ o e out nM nC) l3.tick l3.own
  have n3F:I∉c3.F:=l3.f▸nC
  have n3:=not_owned it'.lives out l3.toLaterR
  refine wpAny_mono (hb X (p.go O3') (turnF Q fun ρ h=>forL (fun h=>Items h v xs) (fun v Q ρ h=>exs X.lg mb Q (Vars.set ρ x v) h) (xs.drop (j + 1)) Q ρ h) T q) (fun fl s h=>?_) fun e s h=>out_loop (p:=p) T (OutE.trans (p:=p) (LT.trans l3) (O:=O3') (Q:=Q) (turn_raise h))
  induction h with
  | @mk mf fl vars4 c4 r q O4 l4=>
  have LL:Later p.G.mine p.c c4:=(LT.trans l3).trans l4
  have back:j<xs.length→forL (fun h=>Items h v xs) (fun v Q ρ h=>exs X.lg mb Q (Vars.set ρ x v) h) (xs.drop (j + 1)) Q vars4 c4.hm→∃ m,m<n∧ForI p I v xs (fun j ρ h=>forL (fun h=>Items h v xs) (fun v Q ρ h=>exs X.lg mb Q (Vars.set ρ x v) h) (xs.drop j) Q ρ h) m c4.s:=fun hlt q=>
   ⟨xs.length + 1 - (j + 1),by omega,.mk rfl hlt q O4 LL (not_owned it3.lives n3 l4.toLaterR) (it3.keep l4.stay (fun o e=>l4.keep _ o e n3 nM n3F) l4.tick l4.own)⟩
  induction r with
  | next=>exact back hlt q
  | brk=>exact .mk .next q O4 LL
  | cont=>exact back hlt q
  | ret r=>exact .mk (.ret r) q O4 LL
end
end Mini
end
section
namespace Mini
open PySem PySem.W PyProof.Rows PySem.SeqAt
section
variable {W:Wd}{k:Ck}{pos:Pos}{e tg:Expr}{me:ME}{t:MT}
theorem swaps_plain (h:notComp e=true)(tgs:List Expr)(line:Nat)(env:Env):swapsWithSole tgs e line env=pure false:=by
 rcases tgs with _ | ⟨a,_ | ⟨b,r⟩⟩
 ·exact rfl
 ·rcases e with _ | _ | _ | _ | _ | _ | _ | _ | _ | _ | _ | _ | _ | _ | _ | _ | _ | _ | _ | _ | _ | _ | _ | _ | _ | _ | _ <;> first | exact rfl | exact ff h
 ·exact rfl
theorem assign_arm (a:Expr)(v:Expr)(pos:Pos)(env:Env)(h:swapsWithSole [a] v pos.line env=pure false)(M:Model)(A:Around)(Q:Flow→Shared→Prop)(E:Value→Shared→Prop)(s:Shared)
  (g:wpAny M A (eval v env>>=fun u=>swappedStores [a] v env>>=fun w=>assignStores env u w ((assignEach [a] env).map (·.2))) Q E s):wpAny M A (exec (.Assign [a] v pos) env) Q E s:=by
 rw [arm_exec_Assign]
 refine wpAny_bind (wpAny_standAt ?_)
 rw [h]
 exact wpAny_bind (wpAny_pure (by rw [if_neg Bool.false_ne_true]; exact g))
theorem assign_one {X:Lx W}{p:Pt W k X.d}{Q:KF}(he:SE W k me e)(ht:AE W k t tg)(hw:swapsWithSole [tg] e pos.line p.G.env=pure false)(q:ex X.lg (.assign t me) Q p.vars p.c.hm):wpAny W.M p.G.A (exec (.Assign [tg] e pos) p.G.env) (OutS p Q) noE p.c.s:=by
 refine assign_arm _ _ _ _ hw _ _ _ _ _ (wpAny_bind (wout (he.v X p _ q) fun m u c r q l=>?_))
 rw [ht.sw,ht.each]
 refine wpAny_bind (wpAny_pure ?_)
 show wpAny _ _ (assign tg p.G.env u>>=fun uu=>pure Flow.next) _ _ _
 exact wpAny_bind (wmono (ht.v X (p.to l) m u _ r q) fun uu s h=>wpAny_pure (by
  have h:OutA (p.to l) _ s:=h
  induction h with | mk q O l3=>exact .mk .next q O (l.up.trans l3)))
theorem xe_assign (he:SE W k me e)(ht:AE W k t tg)(hn:notComp e=true):XE W k (.assign t me) (.Assign [tg] e pos):=fun X p Q T q=>nx <| assign_one he ht (swaps_plain hn _ _ _) q
theorem use_after {X:Lx W}{p:Pt W k X.d}{Q:KF}{C:Addr}{w:Value}{s:Shared}(ht:AE W k t tg)(h:OutC p.c (fun v h=>asg X.lg t v (fun ρ h=>Q .next ρ h) p.vars h) C w s):compPost W.M p.G.A noE (some fun v=>assignAll v ((assignEach [tg] p.G.env).map (·.2))) (fun uu s'=>OutS p Q .next s') w C (.ok .next) s:=by
 induction h with
 | @mk m w c r q l n ns=>
 have nC:=fresh_own p.O n.new
 rw [ht.each]
 show wpAny _ _ (assign tg p.G.env w) _ _ _
 refine wmono (ht.v X (p.to l) m w _ r q) fun uu s h=>?_
 have h:OutA (p.to l) _ s:=h
 induction h with
 | @mk vars c2 q O l2=>
 have nM:C∉p.G.mine:=fun q=>nC (mine_own q)
 have nF:=l.nf n.new
 have ns2:=ns.keep fun o e=>l2.slot _ o e n.out nM
 have z:Aside p.c.h c2.ρ c2.h C:=⟨not_owned ns.lives n.out l2.toLaterR,n.new,ns2.lives⟩
 induction ns2 with
 | mk n2=>
 refine ⟨_,n2,fun h' sb=>?_⟩
 have L:Later p.G.mine p.c c2:=l.up.trans l2
 exact OutS.mk (c:=c2.turn c2.s.toks z.base (sb_x sb) fun q=>absurd (l2.f▸q) nF) .next q (O.turn nC fun q=>nF (l2.f▸q)) (L.turn n.new)
theorem use_arm {X:Lx W}{p:Pt W k X.d}{Q:KF}{scope:Scope}{newAcc:Sem Value}{it:Expr}{pos':Pos}(hs:swapsWithSole [tg] e pos.line p.G.env=pure true)
  (hu:∀ use:Value→Sem Unit,evalThenUse e p.G.env use=(comprehension e scope p.G.env pos' newAcc false (eval it p.G.env) (some use)>>=fun uu=>pure ()))
  (h:wpAny W.M p.G.A (comprehension e scope p.G.env pos' newAcc false (eval it p.G.env) (some fun v=>assignAll v ((assignEach [tg] p.G.env).map (·.2)))) (fun uu s'=>OutS p Q .next s') noE p.c.s):wpAny W.M p.G.A (exec (.Assign [tg] e pos) p.G.env) (OutS p Q) noE p.c.s:=by
 rw [arm_exec_Assign]
 refine wpAny_bind (wpAny_standAt ?_)
 rw [hs]
 refine wpAny_bind (wpAny_pure ?_)
 rw [if_pos rfl,hu]
 exact wpAny_bind (wpAny_bind (wmono h fun uu s' h=>wpAny_pure (wpAny_pure h)))
variable {scope:Scope}{y:Str}{py cp:Pos}{x:Nat}{melt mit mk mv:ME}{conds:MEs}{e' k' it':Expr}{ifs:List Expr}
theorem xe_assignL (ht:AE W k t tg)(o:CompOk k scope y x)(hi:SE W k mit it')(he:SE W (k.inner scope y x) melt e')(hc:SLs W (k.inner scope y x) conds ifs)(hset:notSetE it'=true):XE W k (.assign t (.comp melt x mit conds)) (.Assign [tg] (.ListComp e' [⟨.Name y py,it',ifs,0⟩] scope cp) pos):=fun X p Q T q=>nx <| by
 rcases ht.cl e' [⟨.Name y py,it',ifs,0⟩] scope cp pos.line p.G.env with h | ⟨_,h⟩
 ·exact assign_one (se_comp o hi he hc hset) ht h q
 ·exact use_arm h (fun uu=>rfl) (comp_core o hi he hc hset q fun C w s h=>use_after ht h)
theorem xe_assignD (ht:AE W k t tg)(o:CompOk k scope y x)(hi:SE W k mit it')(hk:SE W (k.inner scope y x) mk k')(he:SE W (k.inner scope y x) mv e')(hset:notSetE it'=true):XE W k (.assign t (.dcomp mk mv x mit)) (.Assign [tg] (.DictComp k' e' [⟨.Name y py,it',[],0⟩] scope cp) pos):=fun X p Q T q=>nx <| by
 rcases ht.cd k' e' [⟨.Name y py,it',[],0⟩] scope cp pos.line p.G.env with h | ⟨_,h⟩
 ·exact assign_one (se_dcomp o hi hk he hset) ht h q
 ·exact use_arm h (fun uu=>rfl) (dcomp_core o hi hk he hset q fun C w s h=>use_after ht h)
end
end Mini
end
section
namespace Mini
open PySem PySem.W PyProof.Rows PySem.SeqAt
noncomputable def swapOk (e:Expr):Bool:=if h:e.ctorIdx=25 then Expr.Tuple.elim e h (fun vs uu uu=>vs.all (foldedForSure 8)||!(vs.all (constantsAlone 8))) else true
noncomputable def nameOf (env:Env)(line:Nat):Expr→Option Str
 | .Name id pos=>if env.kindOf id==some .local&&pos.line==line then some id else none
 | _=>none
theorem filterMap_all {α β:Type}{f:α→Option β}{l:List α}(h:(l.filterMap f).length=l.length):l.map f=(l.filterMap f).map some:=by
 induction l with
 | nil=>rfl
 | cons a l ih=>
  rw [List.filterMap_cons] at h ⊢
  cases q:f a with
  | none=>
   rw [q] at h
   exact absurd (Nat.le_of_eq h.symm) (Nat.not_le.mpr (Nat.lt_succ_of_le (List.length_filterMap_le f l)))
  | some b=>
   rw [q] at h
   rw [List.map_cons,q,ih (Nat.succ.inj h)]; rfl
inductive Swap (elts:List Expr)(env:Env)(t:Sem (Option (List Str))):Prop
 | no (e:t=pure none)
 | yes (names:List Str)(line:Nat)(e:t=pure (some names))(d:names.eraseDups.length=names.length)(m:elts.map (nameOf env line)=names.map some)(l:elts.length=2∨elts.length=3)
theorem swapped_cases {elts:List Expr}{a:Nat}{b:Pos}{v:Expr}{env:Env}(h:swapOk v=true):Swap elts env (swappedStores [.Tuple elts a b] v env):=by
 rcases v with _ | _ | _ | _ | _ | _ | _ | _ | _ | _ | _ | _ | _ | _ | _ | _ | _ | _ | _ | _ | _ | _ | _ | _ | _ | ⟨vs,x,y⟩ | _ <;> try exact .no rfl
 have h:=bor (show (vs.all (foldedForSure 8)||!(vs.all (constantsAlone 8)))=true from h)
 unfold swappedStores
 dsimp only
 split
 ·exact .no rfl
 ·rename_i h0
  split
  ·exact .no rfl
  ·split
   ·exact .no rfl
   ·rename_i hnm
    split
    ·exact .no rfl
    ·rename_i hf
     split
     ·rename_i hc
      exact absurd (tn (h.resolve_left hf)) (by rw [hc]; exact Bool.noConfusion)
     ·rw [Bool.not_eq_true,Bool.or_eq_false_iff,bne_eq_false_iff_eq,bne_eq_false_iff_eq] at hnm
      rw [Bool.not_eq_true,Bool.or_eq_false_iff,Bool.or_eq_false_iff,Bool.not_eq_false',Bool.or_eq_true,beq_iff_eq,beq_iff_eq] at h0
      refine .yes _ ((elts.head?.map (·.pos.line)).getD 0) rfl hnm.2 ?_ h0.1.1
      refine Eq.trans ?_ (filterMap_all hnm.1)
      refine List.map_congr_left fun e uu=>?_
      rcases e with _ | _ | _ | _ | _ | _ | _ | _ | _ | _ | _ | _ | _ | _ | _ | _ | _ | _ | _ | _ | _ | _ | _ | _ | _ | _ | _ <;> rfl
theorem nameOf_eq {env:Env}{line:Nat}{e:Expr}{n:Str}(h:nameOf env line e=some n):∃ pos,e = .Name n pos:=by
 rcases e with _ | _ | _ | _ | _ | _ | _ | _ | _ | _ | _ | _ | _ | _ | _ | _ | _ | _ | _ | _ | _ | _ | _ | ⟨id,pos⟩ | _ | _ | _ <;> try exact ns h
 have h:(if env.kindOf id==some .local&&pos.line==line then some id else none)=some n:=h
 by_cases q:(env.kindOf id==some .local&&pos.line==line)=true
 ·rw [if_pos q] at h; exact ⟨pos,by rw [Option.some.inj h]⟩
 ·rw [if_neg q] at h; exact ns h
theorem set_comm {vars:Vars}{a b:Nat}{v w:MV}(h:a≠b):Vars.set (Vars.set vars a v) b w=Vars.set (Vars.set vars b w) a v:=by
 funext i
 show (if i=b then some w else if i=a then some v else vars i)=(if i=a then some v else if i=b then some w else vars i)
 by_cases q:i=b
 ·rw [if_pos q,if_neg fun z=>h (z.symm.trans q),if_pos q]
 ·rw [if_neg q,if_neg q]
theorem dups_le (n:Nat)(l:List Str)(h:l.length≤n):l.eraseDups.length≤l.length:=by
 induction n generalizing l with
 | zero=>rw [List.eq_nil_of_length_eq_zero (Nat.le_zero.mp h)]; exact Nat.le_refl _
 | succ n ih=>
  rcases l with _ | ⟨a,l⟩
  ·exact Nat.le_refl _
  ·rw [List.eraseDups_cons]
   have z:=List.length_filter_le (fun b=>!b==a) l
   exact Nat.succ_le_succ (Nat.le_trans (ih _ (Nat.le_trans z (Nat.le_of_succ_le_succ h))) z)
theorem dups_cons {a:Str}{l:List Str}(h:(a::l).eraseDups.length=(a::l).length):a∉l∧l.eraseDups.length=l.length:=by
 rw [List.eraseDups_cons] at h
 have h:=Nat.succ.inj h
 have hf:(l.filter fun b=>!b==a).length=l.length:=Nat.le_antisymm (List.length_filter_le _ _) (h▸dups_le _ _ (Nat.le_refl _))
 have all:=List.length_filter_eq_length_iff.mp hf
 rw [List.filter_eq_self.mpr all] at h
 exact ⟨fun hm=>ff ((by rw [beq_self_eq_true]; rfl:false=(!a==a)).trans (all a hm)),h⟩
section
variable {W:Wd}{k:Ck}{pos tp:Pos}{kk:Nat}{e:Expr}{me:ME}{ts:List MT}{elts:List Expr}
theorem star_none {env:Env}(h:All2 (AE W k) ts elts):(assignEach elts env).findIdx? (·.1)=none∧(assignEach elts env).length=ts.length:=by
 induction h with
 | nil=>exact ⟨rfl,rfl⟩
 | cons h t ih=>
  rw [h.each,List.findIdx?_cons,ih.1]
  exact ⟨rfl,congrArg (· + 1) ih.2⟩
theorem asgL_ok {X:Lx W}{Q:Vars→HP}(hts:All2 (AE W k) ts elts){p:Pt W k X.d}{vs:List MV}{us:List Value}(hl:vs.length=ts.length)(r:p.c.Vs vs us)(q:asgL X.lg ts vs Q p.vars p.c.hm):wpAny W.M p.G.A (assignInOrder ((assignEach elts p.G.env).map (·.2)) us) (fun uu=>OutA p Q) noE p.c.s:=by
 induction hts generalizing p vs us with
 | nil=>
  rcases vs with _ | ⟨v,vs⟩
  ·exact All2.nilE r (wpAny_pure (.mk q p.O .refl))
  ·exact absurd hl (Nat.succ_ne_zero _)
 | @cons t tg ts tgs h t' ih=>
  rcases vs with _ | ⟨v,vs⟩
  ·exact absurd hl.symm (Nat.succ_ne_zero _)
  refine All2.consE r fun u us hu hus=>?_
  rw [h.each]
  show wpAny _ _ (holding us (assign tg p.G.env u)>>=fun uu=>assignInOrder ((assignEach tgs p.G.env).map (·.2)) us) _ _ _
  refine wpAny_bind (wpAny_holding (wmono (h.v X p v u _ hu q) fun uu s h=>?_))
  induction h with
  | @mk vars c q O l=>exact wmono (ih (p:=p.go O) (Nat.succ.inj hl) (VRels.stay l.stay hus) q) fun uu uu=>OutA.trans l
theorem bind_ok {d:Nat}{p:Pt W k d}{n:Str}{x:Nat}{v:MV}{u:Value}{Q:Vars→HP}(h:stores k n x=true)(hv:p.c.V v u)(q:Q (Vars.set p.vars x v) p.c.hm):wpAny W.M p.G.A (bindName p.G.env n u) (fun uu=>OutA p Q) noE p.c.s:=wpAny_bindName (store_ok (stores_of h).1 (stores_of h).2 hv q)
theorem ae_name {t:MT}{n:Str}{q:Pos}(h:AE W k t (.Name n q)):∃ x,t = .var x∧stores k n x=true:=h.nm n q rfl
theorem ne_var {d:Nat}{G:Gx}(g:GOk W k d G){a b:Str}{x y:Nat}(n:a≠b)(h1:stores k a x=true)(h2:stores k b y=true):x≠y:=fun e=>n (g.inj a b x (by rw [g.vs]; exact (stores_of h1).1) (by rw [g.vs,e]; exact (stores_of h2).1))
theorem put_comm {X:Lx W}{line:Nat}{env:Env}{names:List Str}(hts:All2 (AE W k) ts elts)(m:elts.map (nameOf env line)=names.map some){x:Nat}{v:MV}(hx:∀ n∈names,∀ y,stores k n y=true→y≠x){vs:List MV}{Q:Vars→HP}{ρ:Vars}{h:MHeap}(q:asgL X.lg ts vs Q (Vars.set ρ x v) h) :
  asgL X.lg ts vs (fun ρ h=>Q (Vars.set ρ x v) h) ρ h:=by
 induction hts generalizing names vs ρ with
 | nil=>
  rcases vs with _ | ⟨w,vs⟩
  ·exact q
  ·exact q.elim
 | cons a t ih=>
  rcases vs with _ | ⟨w,vs⟩
  ·exact q.elim
  rcases names with _ | ⟨n,names⟩
  ·exact absurd m (List.cons_ne_nil _ _)
  obtain ⟨m1,m2⟩:=List.cons.inj m
  obtain ⟨qq,rfl⟩:=nameOf_eq m1
  obtain ⟨y,rfl,s1⟩:=ae_name a
  rw [List.forall_mem_cons] at hx
  have q:asgL X.lg _ vs Q (Vars.set (Vars.set ρ x v) y w) h:=q
  rw [set_comm (hx.1 y s1).symm] at q
  exact ih m2 hx.2 q
theorem swapped_ok {X:Lx W}{Q:Vars→HP}{p:Pt W k X.d}{names:List Str}{line:Nat}{vs:List MV}{us us2:List Value}{fs2:List (Value→Sem Unit)}{P:Unit→Shared→Prop}(hts:All2 (AE W k) ts elts)(d:names.eraseDups.length=names.length)(m:elts.map (nameOf p.G.env line)=names.map some)
  (r:p.c.Vs vs us)(q:asgL X.lg ts vs Q p.vars p.c.hm)(kont:∀ vars c,Fr p.G vars c→Later p.G.mine p.c c→Q vars c.hm→wpAny W.M p.G.A (assignInOrder fs2 us2) P noE c.s):wpAny W.M p.G.A (assignInOrder (names.reverse.map (fun n=>bindName p.G.env n)++fs2) (us.reverse++us2)) P noE p.c.s:=by
 induction hts generalizing names vs us Q us2 fs2 with
 | nil=>
  rcases vs with _ | ⟨w,vs⟩
  ·rcases names with _ | ⟨n,names⟩
   ·exact All2.nilE r (kont _ _ p.O .refl q)
   ·exact absurd m (List.cons_ne_nil _ _).symm
  ·exact q.elim
 | cons a t ih=>
  rcases vs with _ | ⟨v,vs⟩
  ·exact q.elim
  rcases names with _ | ⟨n,names⟩
  ·exact absurd m (List.cons_ne_nil _ _)
  obtain ⟨m1,m2⟩:=List.cons.inj m
  obtain ⟨qq,rfl⟩:=nameOf_eq m1
  obtain ⟨x,rfl,s1⟩:=ae_name a
  obtain ⟨d1,d2⟩:=dups_cons d
  refine All2.consE r fun u us hu hus=>?_
  have hu:p.c.V v u:=hu
  rw [List.reverse_cons,List.reverse_cons,List.map_append,List.append_assoc,List.append_assoc]
  refine ih d2 m2 hus (put_comm t m2 (fun n' hn' y hy=>ne_var p.g (fun e=>d1 (by rw [← e]; exact hn')) hy s1) q) fun vars c O l q=>?_
  show wpAny _ _ (holding us2 (bindName p.G.env n u)>>=fun uu=>assignInOrder fs2 us2) _ _ _
  refine wpAny_bind (wpAny_holding (wmono (bind_ok (p:=p.go O) s1 (hu.later l) q) fun uu s h=>?_))
  have h:OutA (p.go O) Q s:=h
  induction h with
  | mk q O2 l2=>exact kont _ _ O2 (l.trans l2) q
inductive TupV (c:Cf W)(vs:List MV):Value→Prop
 | mk {a:Addr}{its:Array Value}{n:Nat}(g:c.h.get? a=some { cls:=.type "tuple",data:=.seq its n })(r:VRels W c.ρ c.h vs its.toList):TupV c vs (.ref a)
variable {ms:MEs}{es:List Expr}
theorem disp_ok {X:Lx W}{p:Pt W k X.d}{Q:List MV→MHeap→Prop}(hs:SLs W k ms es)(q:evL X.lg ms p.vars (fun vs h=>vs.length≤100∧Q vs h) p.c.hm):wpAny W.M p.G.A (eval (.Tuple es kk pos) p.G.env) (Out p.c TupV Q) noE p.c.s:=by
 rw [arm_eval_Tuple,hs.N]
 refine atP (seqO (hs.L X p _ q) fun xs us c' r q l=>?_)
 unfold newTuple
 have G:Ext c'.h (c'.h.push { cls:=.type "tuple",data:=.seq us.toArray }):=.push _ _
 exact wpAny_newObj_type (Out.mk (c':=c'.grow c'.s.toks G) (TupV.mk (Heap.get?_push_size _ rfl) (VRels.stay G.stay r)) q.2 (later_grow _)) (size_ok r q.1)
theorem xe_assigns {kk2:Nat}{tp2:Pos}(hs:SLs W k ms es)(hts:All2 (AE W k) ts elts)(hw:swapOk (.Tuple es kk2 tp2)=true):XE W k (.assigns ts ms) (.Assign [.Tuple elts kk tp] (.Tuple es kk2 tp2) pos):=fun X p Q T q=>nx <| by
 refine assign_arm _ _ _ _ (swaps_plain rfl _ _ _) _ _ _ _ _ (wpAny_bind (wout (disp_ok hs q) fun vs u c r q l=>?_))
 obtain ⟨hl,q⟩:=q
 induction r with
 | @mk ta its tn g rt=>
 have htup:=isTuple_of g
 have hsz:its.size=vs.length:=Array.length_toList.symm.trans rt.length
 have kx:∀ {h'},Heap.ExtBut c.h.objs.size c.h h'→Ext c.h h':=fun ext b o e=>ext b o (Nat.ne_of_lt (Heap.lt_size e)) e
 induction swapped_cases (a:=kk) (b:=tp) (elts:=elts) (env:=p.G.env) hw with
 | no e=>
  rw [e]
  refine wpAny_bind (wpAny_pure ?_)
  show wpAny _ _ (assign (.Tuple elts kk tp) p.G.env (.ref ta)>>=fun uu=>pure Flow.next) _ _ _
  obtain ⟨h1,h2⟩:=star_none (env:=p.G.env) hts
  refine wpAny_bind (atP (wpAny_unpack_tuple p.g.room.handled htup (by rw [h2,← hl,hsz]) h1 fun h' ext=>?_))
  have L2:Later [] c (c.grow c.s.toks (kx ext)):=later_grow _
  refine wmono (asgL_ok (p:=(p.to l).to L2) hts hl (VRels.stay L2.stay (rt)) q) fun uu s h=>wpAny_pure ?_
  have h:OutA ((p.to l).to L2) _ s:=h
  induction h with | mk q O l3=>exact .mk .next q O ((l.trans L2).up.trans l3)
 | yes names line e d m l'=>
  rw [e]
  refine wpAny_bind (wpAny_pure ?_)
  have hnl:names.length=its.size:=by rw [hsz,hl,← hts.length,← List.length_map (f:=some),← m,List.length_map]
  show wpAny _ _ (rule "assign.swapped-stores">>=fun uu=>unpackItems (.ref ta) names.length none>>=fun items=>assignInOrder (names.reverse.map fun n=>bindName p.G.env n) items.reverse>>=fun uu=>pure Flow.next) _ _ _
  rw [hnl]
  refine wpAny_bind (wpAny_rule (wpAny_bind (wpAny_unpackItems_tuple p.g.room.handled htup fun h' ext=>?_)))
  have L2:Later [] c (c.grow c.s.toks (kx ext)):=later_grow _
  have z:=swapped_ok (p:=(p.to l).to L2) (fs2:=[]) (us2:=[]) (P:=fun uu s=>wpAny W.M p.G.A (pure Flow.next) (OutS p Q) noE s) hts d m (VRels.stay L2.stay (rt)) q fun vars c O l3 q=>wpAny_pure (wpAny_pure (.mk .next q O ((l.trans L2).up.trans l3)))
  rw [List.append_nil,List.append_nil] at z
  exact wpAny_bind z
end
end Mini
end
section
namespace Mini
open PySem PySem.W PyProof.Rows PySem.SeqAt
section
variable {W:Wd}{k:Ck}{pos np cp p1 p2 p3:Pos}{kk:Nat}{e:Expr}{me:ME}
theorem data_ncls {o:Obj}{vs:Array Value}(d:o.data = .fields vs)(c:ClassData):o.data≠.cls c:=fun q=>by rw [d] at q; cases q
theorem cls_at (K:WdOk W){c:Cf W}{a:Addr}(q:isClsIn W.K a=true):∃ o cd,c.h.get? a=some o∧o.data = .cls cd:=by
 unfold isClsIn clsIn at q
 split at q
 ·rename_i ho
  exact ⟨_,_,c.X K _ _ ho,rfl⟩
 ·exact ff q
theorem raise_ok (K:WdOk W){A:Around}{env:Env}{c₀:Cf W}{E:Value→Shared→Prop}{Q:Flow→Shared→Prop}{x:Sem Value}{s:Shared}(hh:A.handled=none)(h:wpAny W.M A x (fun v s'=>∃ (c:Cf W)(e:Addr),v = .ref e∧s'=c.s∧Exc c₀ c e none∧E (.ref e) c.s) E s):wpAny W.M A (raiseStmt env (some x) none) Q E s:=by
 unfold raiseStmt
 refine wpAny_bind (wpAny_mono h (fun v s' h=>?_) fun uu uu e=>e)
 obtain ⟨c,e,rfl,rfl,x,hE⟩:=h
 cases x with
 | @raw o vs g cl d h1 off=>
 have X:=c.X K
 have tp:∀ {Q:Value→Shared→Prop}{E:Value→Shared→Prop},Q (.ref W.LF) c.s→wpAny W.M A (typeOf (.ref e)) Q E c.s:=fun q=>wpAny_bind (wpAny_loadPart g (wpAny_pure (by rw [cl]; exact q)))
 have ni:∀ {Q:Bool→Shared→Prop}{E:Value→Shared→Prop},Q false c.s→wpAny W.M A (isType (.ref e)) Q E c.s:=fun q=>ks_wpAny_isType_inst g (data_ncls d) q
 dsimp only
 refine wpAny_bind (wpAny_pure (wpAny_bind (wpAny_holding ?_)))
 unfold excFromValue isExcClass
 refine wpAny_bind (wpAny_bind (ni (wpAny_pure ?_)))
 rw [if_neg Bool.false_ne_true]
 unfold isInstance
 refine wpAny_bind (wpAny_bind (tp ((looks_mroIn X K.xBase).here ?_)))
 rw [if_pos rfl]
 refine wpAny_pure (wpAny_bind (ni ?_))
 rw [if_neg Bool.false_ne_true]
 unfold raisedInstance
 refine wpAny_bind (wpAny_bind (tp (wpAny_bind ((looks_typeIn X K.xType).here ?_))))
 rw [if_pos (by decide)]
 refine wpAny_pure ?_
 unfold setFlight
 refine wpAny_bind (wpAny_bind (wpAny_field g d h1 ?_))
 rw [if_neg (by decide)]
 exact wpAny_pure (wpAny_raiseNew_none hh hE)
theorem fstr_ok {X:Lx W}{p:Pt W k X.d}{Q:HP}{P:Value→Shared→Prop}{y:Str}(he:SE W k me e)(hy:y.length≤50)(q:ev X.lg me p.vars false (fun v h=>One2 v∧Q h) p.c.hm)(g:∀ (c:Cf W) x t,Later [] p.c c→Q c.hm→x.length≤100→P (.str x t) c.s) :
  wpAny W.M p.G.A (eval (.JoinedStr [.FormattedValue e (-1) none p1,.Constant (.str y) kk p2] p3) p.G.env) P noE p.c.s:=by
 refine JoinedStr_many (joinParts_cons (FormattedValue_plain (wout (he.v X p _ q) fun v u c r q l=>?_)))
 obtain ⟨i,hi,hd,hz,r⟩:∃ i:Int,(v = .int i)∧i.natAbs.log2<1920∧(Str.empty++(toString i:Str)).length=1∧c.V (.int i) u:=by
  rcases q.1 with _ | _
  ·exact ⟨1,rfl,by decide,by decide,r⟩
  ·exact ⟨2,rfl,by decide,by decide,r⟩
 refine IsInt.elim r fun t=>formatField_int_small hd ⟨by rw [hz]; decide,joinParts_cons (Calls.Constant_str ⟨?_,joinParts_nil ?_ ?_⟩)⟩
 ·rw [strLen_append,hz]; exact Nat.le_trans (Nat.add_le_add_left hy 1) (by decide)
 ·exact g (c.grow _ (.refl _)) _ _ (l.trans (later_grow _)) q.2 (by rw [strLen_append,hz]; exact Nat.le_trans (Nat.add_le_add_left hy 1) (by decide))
 ·rw [strLen_append,hz]; exact Nat.le_trans (Nat.add_le_add_left hy 1) (by decide)
theorem xe_raise {id y:Str}(he:SE W k me e)(hi:isGl k id=true)(hid:id=W.T.xname)(hy:y.length≤50):XE W k (.raise me) (.Raise (some (.Call (.Name id np) [.JoinedStr [.FormattedValue e (-1) none p1,.Constant (.str y) kk p2] p3] [] cp)) none pos):=fun X p Q T q=>by
 have K:=X.K
 subst hid
 rw [arm_exec_Raise]
 refine wpAny_bind (wpAny_standAt ?_)
 refine raise_ok (c₀:=p.c) K p.g.room.handled ?_
 refine wpAny_bind (nx ?_)
 rw [arm_eval_Call_Name']
 refine wpAny_bind (load_glob K p hi K.xGlob ?_)
 have z:backTo cp (starEach [.JoinedStr [.FormattedValue e (-1) none p1,.Constant (.str y) kk p2] p3] p.G.env)=[(false,eval (.JoinedStr [.FormattedValue e (-1) none p1,.Constant (.str y) kk p2] p3) p.G.env)]:=rfl
 rw [z]
 refine callWith_of (P:=W.K.In) (args:=[(false,eval (.JoinedStr [.FormattedValue e (-1) none p1,.Constant (.str y) kk p2] p3) p.G.env)]) rfl (keeps_K K.xKeep) (Calls.evalArgs_plain (Calls.spliced_cons ?_))
 refine fstr_ok he hy q fun c x t l q hx=>Calls.spliced_nil ?_
 refine ⟨c.X K,?_⟩
 have hd:=p.g.room.depth
 have hu:=p.g.room.units
 refine wmono (X.made p.G.A c x t p.g.room.handled (by lia) (by lia) hx) fun v s h=>?_
 induction h with
 | mk l2 hm x=>
 have L:=l.trans l2
 refine wpAny_bind (wpAny_standAt (wpAny_pure ?_))
 refine ⟨_,_,rfl,rfl,x.back l.alive,?_⟩
 exact .mk (by rw [hm]; exact q) (p.O.later L) L.up (x.back l.alive) nofun
end
end Mini
end
section
namespace Mini
open PySem PySem.W PyProof.Rows PySem.SeqAt
section
variable {W:Wd}{k:Ck}{pos np cp ap hp lp np' q' ap' apos:Pos}{kk:Nat}{e o:Expr}{mo:ME}{es:List Expr}{ms:MEs}
theorem matches_ok (K:WdOk W){A:Around}{c:Cf W}{e:Addr}{oe:Obj}{Q:Bool→Shared→Prop}{E:Value→Shared→Prop}(g:c.h.get? e=some oe)(cl:oe.cls = .ref W.LF)(h:Q true c.s):wpAny W.M A (excMatches (.ref e) (.ref W.LF)) Q E c.s:=by
 have X:=c.X K
 obtain ⟨oc,cd,gc,dc⟩:=cls_at (c:=c) K K.xCls
 unfold excMatches isInstance
 refine wpAny_bind (wpAny_bind ((looks_typeIn X K.xType).here ?_))
 rw [tc_notTuple]
 refine wpAny_pure ?_
 rw [if_neg Bool.false_ne_true]
 refine wpAny_bind (wpAny_pure (wpAny_bind ?_))
 rw [List.forIn_cons]
 unfold isExcClass
 refine wpAny_bind (wpAny_bind (wpAny_bind (ks_wpAny_isType_cls gc dc ?_)))
 rw [if_pos rfl]
 refine (looks_mroIn X K.xBase).here (wpAny_pure ?_)
 dsimp only
 rw [List.forIn_nil]
 refine wpAny_pure (wpAny_bind (wpAny_bind (wpAny_loadPart g (wpAny_pure ?_))))
 rw [cl,List.forIn_cons]
 refine wpAny_bind (wpAny_bind (wpAny_bind ((looks_mroIn X K.xSelf).here ?_)))
 exact wpAny_pure (wpAny_pure (wpAny_pure h))
theorem caught_ok {X:Lx W}{p:Pt W k X.d}{Q:KF}{x:Nat}{id lf:Str}{c:Cf W}{ev:Value}{s:Shared}(T:Top p.G)(hx:stores k id x=true)(hlf:isGl k lf=true)(hlx:lf=W.T.xname)(L:Later [] p.c c)(h:Flew c (fun h=>Q .next (Vars.set p.vars x .none) h) ev s){E:Value→Shared→Prop} :
  wpAny W.M p.G.A (noteFrame ev p.G.env) (fun uu s₂=>wpAny W.M p.G.A (setFlight ev none) (fun uu s₃=>wpAny W.M p.G.A (handleBy ev p.G.env [.ExceptHandler (some (.Name lf lp)) none [.Assign [.Name id np'] (.Constant .none kk q') ap'] hp]) (OutS p Q) E s₃) E s₂) E s:=by
 subst hlx
 induction h with
 | @mk c1 e l q x1=>
 induction T with
 | @mk outer LA ea ef=>
 have O0:=p.O.later L
 have O1:=O0.later l
 have L1:=L.trans l
 have x1:=x1.back L.alive
 refine note_ok O1.stk ea ef L1 x1 (fun v hv=>.inr (Option.some.inj hv).symm) fun s t=>?_
 induction t with
 | @mk c2 Y ab l2 hm2 x2=>
 have O2:=Fr.turned p.O O1 L1 l2 ab
 have L2:=L1.over l2 ab hm2
 refine flight_ok (f:=none) O2.stk L2 x2 fun s t=>?_
 induction t with
 | @mk c3 Y3 ab3 l3 hm3 x3=>
 have O3:=Fr.turned p.O O2 L2 l3 ab3
 have L3:=L2.over l3 ab3 hm3
 refine wpAny_handleBy_cons (codeAny_handlers_test (load_glob (p:=⟨p.G,p.vars,c3,p.g,O3⟩) X.K hlf X.K.xGlob ?_)) (by intro q; cases q)
 cases x3 with
 | «at» g cl d h1 off ne gT cT dT h3 offT=>
 refine matches_ok X.K g cl ?_
 refine codeAny_handlers_suite (nx (flight_ok (f:=none) (O3.stk.to rfl) L3 (.at g cl d h1 off ne gT cT dT h3 offT) fun s t=>?_))
 induction t with
 | @mk c4 Y4 ab4 l4 hm4 x4=>
 have O4:=Fr.turned p.O O3 L3 l4 ab4
 have L4:=L3.over l4 ab4 hm4
 refine wpAny_execs_cons (assign_arm _ _ _ _ (swaps_plain rfl _ _ _) _ _ _ _ _ (wpAny_bind (wpAny_pure (wpAny_bind (wpAny_pure ?_)))))
 show wpAny _ _ (assign (.Name id np') p.G.env .none>>=fun uu=>pure Flow.next) _ _ _
 refine wpAny_bind (wpAny_assign_Name (wpAny_mono (store_ok (p:=⟨p.G,p.vars,c4,p.g,O4⟩) (Q:=fun ρ h=>Q .next ρ h) (E:=noE) (stores_of hx).1 (stores_of hx).2 (v:=.none) rfl (by
  show Q .next _ c4.hm
  rw [hm4,hm3,hm2]; exact q)) (fun uu s h=>wpAny_pure (wpAny_execs_nil ?_)) fun uu uu e=>e.elim))
 induction h with
 | mk q O l5=>exact .mk .next q O (L4.up.trans l5)
theorem xe_tryM {n x:Nat}{nm id lf:Str}(ho:SE W k mo o)(hs:SLs W k ms es)(hb:notSuper o=true)(hn:isStrs W n nm)(hl:(apos.endLine==cp.line)=true)(hk:es.length<29)(hx:stores k id x=true)(hlf:isGl k lf=true)(hlx:lf=W.T.xname) :
  XE W k (.tryM x mo n ms) (.Try [.Assign [.Name id np] (.Call (.Attribute o nm apos) es [] cp) ap] [.ExceptHandler (some (.Name lf lp)) none [.Assign [.Name id np'] (.Constant .none kk q') ap'] hp] [] [] pos):=fun X p Q T q=>by
 have ht:AE W k (.var x) (.Name id np):=ae_var hx
 refine wpAny_Try_except (wpAny_execs_cons (assign_arm _ _ _ _ (swaps_plain rfl _ _ _) _ _ _ _ _ (wpAny_bind ?_)))
 rw [arm_eval_Call,notSuper_base hb]
 refine wpAny_bind (wout' (ho.v X p _ q) fun y v c' r q l=>wpAny_bind (wpAny_standAt ?_))
 rw [hs.N]
 induction q with
 | @mk kd e q=>
 refine method_call (pl_all ..) hk hl (fun R pl q=>nx (getM_ok X.K e hn r R pl q)) ?_
 have go:=fun {P:Args→Shared→Prop}{f:Value}(g:∀ xs vs c2,c2.Vs xs vs→doTry X.lg c2.hm y xs (fun r h=>Q .next (Vars.set p.vars x (r.getD .none)) h) kd→Later [] c' c2→P ⟨vs,[]⟩ c2.s)=>args_ok (f:=f) (hs.L X (p.to l) _ q) g
 rcases kd with _ | _ | f
 ·refine Calls.callWith_builtin (id:=lName n) (pl_any ..) (nx (go fun xs vs c2 r2 q l2=>q.elim))
 ·refine Calls.callWith_builtin (id:=dName n) (pl_any ..) (nx (go fun xs vs c2 r2 q l2=>q.elim))
 ·obtain ⟨_,_,_,hfn,_⟩:=X.K.meths n f nm (by cases e; assumption) hn
  obtain ⟨og,fd,hog,hfd⟩:=fnIn_of hfn
  refine Calls.callWith_function (o:=og) (fd:=fd) (nx (go fun xs vs c2 r2 q l2=>⟨⟨c2.sim.base _ _ (X.K.X _ _ hog),hfd⟩,wpAny_call (codeAny_mono (X.tok f p.G.A (y::xs) (v::vs) _ c2 room1.1 room1.2.1 room1.2.2 (p.O.stk.later (l.trans l2)) (.cons (r.later l2) r2) q) fun r s'' h=>?_)⟩))
  have L2:=l.trans l2
  rcases r with e | (_ | _ | _ | v)
  ·exact caught_ok T hx hlf hlx L2 h
  ·exact h.elim
  ·exact h.elim
  ·exact h.elim
  ·have h:Out c2 Cf.V _ v s'':=h
   induction h with
   | @mk m v c3 r q l3=>
   rw [ht.sw,ht.each]
   refine wpAny_bind (wpAny_pure ?_)
   show wpAny _ _ (assign (.Name id np) p.G.env v>>=fun uu=>pure Flow.next) _ _ _
   refine wpAny_bind (wpAny_mono (ht.v X (p.to (L2.trans l3)) m v (fun ρ h=>Q .next ρ h) r q) (fun uu s h=>wpAny_pure (wpAny_execs_nil (wpAny_execs_nil ?_))) fun uu uu e=>e.elim)
   have h:OutA (p.to (L2.trans l3)) _ s:=h
   induction h with | mk q O l4=>exact .mk .next q O ((L2.trans l3).up.trans l4)
end
end Mini
end
section
namespace Mini
open PySem PySem.W PyProof.Rows PySem.SeqAt
section
variable {W:Wd}{k:Ck}{st:Stmt}{ss:List Stmt}{m:MS}{ms:MSs}
theorem xs_nil:XEs W k .nil []:=fun X p Q T q=>wpAny_execs_nil (.mk .next q p.O .refl)
theorem xs_cons (h1:XE W k m st)(h2:XEs W k ms ss):XEs W k (.cons m ms) (st::ss):=fun X p Q T q=>by
 refine wpAny_execs_cons (wpAny_mono (h1 X p _ T q) (fun fl s h=>?_) fun e s h=>?_)
 ·induction h with
  | mk r q O l=>
  induction r with
  | next=>exact go_on O l (h2 X (p.go O) Q T q)
  | brk=>exact .mk .brk q O l
  | cont=>exact .mk .cont q O l
  | ret r=>exact .mk (.ret r) q O l
 ·induction h with | mk q O l x f=>exact .mk q O l x f
variable {P:Stmt→Prop}{s:Stmt}
noncomputable def sRet (f:∀ o pos,Dec (P (.Return o pos))):Dec (P s):=if h:s.ctorIdx=3 then Stmt.Return.elim (motive_2:=fun e=>Dec (P e)) s h f else .no
noncomputable def sAsg (f:∀ t v pos,Dec (P (.Assign t v pos))):Dec (P s):=if h:s.ctorIdx=5 then Stmt.Assign.elim (motive_2:=fun e=>Dec (P e)) s h f else .no
noncomputable def sFor (f:∀ t i b o pos,Dec (P (.For t i b o pos))):Dec (P s):=if h:s.ctorIdx=9 then Stmt.For.elim (motive_2:=fun e=>Dec (P e)) s h f else .no
noncomputable def sWhile (f:∀ t b o pos,Dec (P (.While t b o pos))):Dec (P s):=if h:s.ctorIdx=11 then Stmt.While.elim (motive_2:=fun e=>Dec (P e)) s h f else .no
noncomputable def sIf (f:∀ t b o pos,Dec (P (.If t b o pos))):Dec (P s):=if h:s.ctorIdx=12 then Stmt.If.elim (motive_2:=fun e=>Dec (P e)) s h f else .no
noncomputable def sExpr (f:∀ e pos,Dec (P (.Expr e pos))):Dec (P s):=if h:s.ctorIdx=24 then Stmt.Expr.elim (motive_2:=fun e=>Dec (P e)) s h f else .no
noncomputable def sRaise (f:∀ a b pos,Dec (P (.Raise a b pos))):Dec (P s):=if h:s.ctorIdx=16 then Stmt.Raise.elim (motive_2:=fun e=>Dec (P e)) s h f else .no
noncomputable def sTry (f:∀ b hs o fb pos,Dec (P (.Try b hs o fb pos))):Dec (P s):=if h:s.ctorIdx=17 then Stmt.Try.elim (motive_2:=fun e=>Dec (P e)) s h f else .no
noncomputable def sBrk (f:∀ pos,Dec (P (.Break pos))):Dec (P s):=if h:s.ctorIdx=26 then Stmt.Break.elim (motive_2:=fun e=>Dec (P e)) s h f else .no
noncomputable def sCont (f:∀ pos,Dec (P (.Continue pos))):Dec (P s):=if h:s.ctorIdx=27 then Stmt.Continue.elim (motive_2:=fun e=>Dec (P e)) s h f else .no
end
section
variable (W:Wd)
noncomputable def trTs (k:Ck):(ts:List MT)→(es:List Expr)→Dec (All2 (AE W k) ts es)
 | [],es=>dNil (.yes .nil)
 | t::ts,es=>dCons fun e r=>(trT W t k e).bind fun ht=>(trTs k ts r).bind fun hs=>.yes (.cons ht hs)
noncomputable def trA (t:MT)(me:ME)(k:Ck)(tg v:Expr)(pos:Pos)(ht:AE W k t tg):Dec (XE W k (.assign t me) (.Assign [tg] v pos)):=match me with
 | .comp elt x it cond=>dLC (P:=fun v=>XE W k _ (.Assign [tg] v pos)) fun e' gs sc cp=>dOne (L:=fun gs=>XE W k _ (.Assign [tg] (.ListComp e' gs sc cp) pos)) fun g=>Comprehension.casesOn (motive_3:=fun g=>Dec (XE W k _ (.Assign [tg] (.ListComp e' [g] sc cp) pos))) g fun t it' ifs a=>
   dNm (P:=fun t=>XE W k _ (.Assign [tg] (.ListComp e' [⟨t,it',ifs,a⟩] sc cp) pos)) fun y py=>deq a 0 fun ha=>need (compOk k sc y x) fun hc=>need (notSetE it') fun hs=>(trE W it k it').bind fun hi=>(trE W elt (k.inner sc y x) e').bind fun he=>(trL W cond (k.inner sc y x) ifs).bind fun hl=>.yes (ha▸xe_assignL ht (compOk_of hc) hi he hl hs)
 | .dcomp ke ve x it=>dDC (P:=fun v=>XE W k _ (.Assign [tg] v pos)) fun k' e' gs sc cp=>dOne (L:=fun gs=>XE W k _ (.Assign [tg] (.DictComp k' e' gs sc cp) pos)) fun g=>Comprehension.casesOn (motive_3:=fun g=>Dec (XE W k _ (.Assign [tg] (.DictComp k' e' [g] sc cp) pos))) g fun t it' ifs a=>
   dNm (P:=fun t=>XE W k _ (.Assign [tg] (.DictComp k' e' [⟨t,it',ifs,a⟩] sc cp) pos)) fun y py=>dNil (L:=fun ifs=>XE W k _ (.Assign [tg] (.DictComp k' e' [⟨.Name y py,it',ifs,a⟩] sc cp) pos)) (deq a 0 fun ha=>need (compOk k sc y x) fun hc=>need (notSetE it') fun hs=>
   (trE W it k it').bind fun hi=>(trE W ke (k.inner sc y x) k').bind fun hk=>(trE W ve (k.inner sc y x) e').bind fun he=>.yes (ha▸xe_assignD ht (compOk_of hc) hi hk he hs))
 | me=>need (notComp v) fun hn=>(trE W me k v).bind fun he=>.yes (xe_assign he ht hn)
mutual
noncomputable def trS:(m:MS)→(k:Ck)→(s:Stmt)→Dec (XE W k m s)
 | .assign t e,k,s=>sAsg fun tgs v pos=>dOne (L:=fun tgs=>XE W k _ (.Assign tgs v pos)) fun tg=>(trT W t k tg).bind fun ht=>trA W t e k tg v pos ht
 | .assigns ts ms,k,s=>sAsg fun tgs v pos=>dOne (L:=fun tgs=>XE W k _ (.Assign tgs v pos)) fun tg=>dTuple (P:=fun tg=>XE W k _ (.Assign [tg] v pos)) fun es kk tp=>(trTs W k ts es).bind fun hts=>dTuple (P:=fun v=>XE W k _ (.Assign [.Tuple es kk tp] v pos)) fun vs kk2 tp2=>need (swapOk (.Tuple vs kk2 tp2)) fun hw=>(trL W ms k vs).bind fun hs=>.yes (xe_assigns hs hts hw)
 | .expr e,k,s=>sExpr fun v pos=>need (notComp v) fun hn=>(trE W e k v).bind fun he=>.yes (xe_expr he hn)
 | .ite t a b,k,s=>sIf fun te body orelse pos=>(trE W t k te).bind fun ht=>(trSs a k body).bind fun ha=>(trSs b k orelse).bind fun hb=>.yes (xe_ite ht ha hb)
 | .while t b,k,s=>sWhile fun te body orelse pos=>dNil (L:=fun orelse=>XE W k _ (.While te body orelse pos)) ((trE W t k te).bind fun ht=>(trSs b k body).bind fun hb=>.yes (xe_while ht hb))
 | .for x it b,k,s=>sFor fun tg it' body orelse pos=>dNm (P:=fun tg=>XE W k _ (.For tg it' body orelse pos)) fun id np=>dNil (L:=fun orelse=>XE W k _ (.For (.Name id np) it' body orelse pos)) (need (stores k id x) fun h=>need (notSetE it') fun hs=>(trE W it k it').bind fun hi=>(trSs b k body).bind fun hb=>.yes (xe_for hi hb h hs))
 | .raise me,k,s=>sRaise fun o c pos=>dNo (O:=fun c=>XE W k _ (.Raise o c pos)) (dSome (O:=fun o=>XE W k _ (.Raise o none pos)) fun v=>dCall (P:=fun v=>XE W k _ (.Raise (some v) none pos)) fun g as ks cp=>dNm (P:=fun g=>XE W k _ (.Raise (some (.Call g as ks cp)) none pos)) fun id np=>
   dOne (L:=fun as=>XE W k _ (.Raise (some (.Call (.Name id np) as ks cp)) none pos)) fun a=>dNil (L:=fun ks=>XE W k _ (.Raise (some (.Call (.Name id np) [a] ks cp)) none pos)) (dJoin (P:=fun a=>XE W k _ (.Raise (some (.Call (.Name id np) [a] [] cp)) none pos)) fun vs p3=>
   dCons (L:=fun vs=>XE W k _ (.Raise (some (.Call (.Name id np) [.JoinedStr vs p3] [] cp)) none pos)) fun v1 vs=>dOne (L:=fun vs=>XE W k _ (.Raise (some (.Call (.Name id np) [.JoinedStr (v1::vs) p3] [] cp)) none pos)) fun v2=>
   dFmt (P:=fun v1=>XE W k _ (.Raise (some (.Call (.Name id np) [.JoinedStr [v1,v2] p3] [] cp)) none pos)) fun e n sp p1=>dConst (P:=fun v2=>XE W k _ (.Raise (some (.Call (.Name id np) [.JoinedStr [.FormattedValue e n sp p1,v2] p3] [] cp)) none pos)) fun co kk p2=>
   cStr (C:=fun co=>XE W k _ (.Raise (some (.Call (.Name id np) [.JoinedStr [.FormattedValue e n sp p1,.Constant co kk p2] p3] [] cp)) none pos)) fun y=>dNo (O:=fun sp=>XE W k _ (.Raise (some (.Call (.Name id np) [.JoinedStr [.FormattedValue e n sp p1,.Constant (.str y) kk p2] p3] [] cp)) none pos)) (
   deq n (-1) fun h1=>need (isGl k id) fun h2=>deq id W.T.xname fun h3=>need (decide (y.length≤50)) fun h4=>(trE W me k e).bind fun he=>.yes (h1▸xe_raise he h2 h3 (of_decide_eq_true h4)))))
 | .tryM x mo n ms,k,s=>sTry fun b hs o fb pos=>dNil (L:=fun fb=>XE W k _ (.Try b hs o fb pos)) (dNil (L:=fun o=>XE W k _ (.Try b hs o [] pos)) (dOne (L:=fun b=>XE W k _ (.Try b hs [] [] pos)) fun st=>sAsg (P:=fun st=>XE W k _ (.Try [st] hs [] [] pos)) fun tgs v ap=>
   dOne (L:=fun tgs=>XE W k _ (.Try [.Assign tgs v ap] hs [] [] pos)) fun tg=>dNm (P:=fun tg=>XE W k _ (.Try [.Assign [tg] v ap] hs [] [] pos)) fun id np=>dCall (P:=fun v=>XE W k _ (.Try [.Assign [.Name id np] v ap] hs [] [] pos)) fun g es ks cp=>
   dAttr (P:=fun g=>XE W k _ (.Try [.Assign [.Name id np] (.Call g es ks cp) ap] hs [] [] pos)) fun ob nm apos=>dNil (L:=fun ks=>XE W k _ (.Try [.Assign [.Name id np] (.Call (.Attribute ob nm apos) es ks cp) ap] hs [] [] pos)) (
   dOne (L:=fun hs=>XE W k _ (.Try [.Assign [.Name id np] (.Call (.Attribute ob nm apos) es [] cp) ap] hs [] [] pos)) fun hd=>ExceptHandler.casesOn (motive_4:=fun hd=>Dec (XE W k _ (.Try [.Assign [.Name id np] (.Call (.Attribute ob nm apos) es [] cp) ap] [hd] [] [] pos))) hd fun ty nmo hb hp=>
   dSome (O:=fun ty=>XE W k _ (.Try [.Assign [.Name id np] (.Call (.Attribute ob nm apos) es [] cp) ap] [.ExceptHandler ty nmo hb hp] [] [] pos)) fun ty=>dNm (P:=fun ty=>XE W k _ (.Try [.Assign [.Name id np] (.Call (.Attribute ob nm apos) es [] cp) ap] [.ExceptHandler (some ty) nmo hb hp] [] [] pos)) fun lf lp=>
   dNo (O:=fun nmo=>XE W k _ (.Try [.Assign [.Name id np] (.Call (.Attribute ob nm apos) es [] cp) ap] [.ExceptHandler (some (.Name lf lp)) nmo hb hp] [] [] pos)) (dOne (L:=fun hb=>XE W k _ (.Try [.Assign [.Name id np] (.Call (.Attribute ob nm apos) es [] cp) ap] [.ExceptHandler (some (.Name lf lp)) none hb hp] [] [] pos)) fun st=>
   sAsg (P:=fun st=>XE W k _ (.Try [.Assign [.Name id np] (.Call (.Attribute ob nm apos) es [] cp) ap] [.ExceptHandler (some (.Name lf lp)) none [st] hp] [] [] pos)) fun tgs v' ap'=>dOne (L:=fun tgs=>XE W k _ (.Try [.Assign [.Name id np] (.Call (.Attribute ob nm apos) es [] cp) ap] [.ExceptHandler (some (.Name lf lp)) none [.Assign tgs v' ap'] hp] [] [] pos)) fun tg=>
   dNm (P:=fun tg=>XE W k _ (.Try [.Assign [.Name id np] (.Call (.Attribute ob nm apos) es [] cp) ap] [.ExceptHandler (some (.Name lf lp)) none [.Assign [tg] v' ap'] hp] [] [] pos)) fun id' np'=>dConst (P:=fun v'=>XE W k _ (.Try [.Assign [.Name id np] (.Call (.Attribute ob nm apos) es [] cp) ap] [.ExceptHandler (some (.Name lf lp)) none [.Assign [.Name id' np'] v' ap'] hp] [] [] pos)) fun co kk q'=>
   cNone (C:=fun co=>XE W k _ (.Try [.Assign [.Name id np] (.Call (.Attribute ob nm apos) es [] cp) ap] [.ExceptHandler (some (.Name lf lp)) none [.Assign [.Name id' np'] (.Constant co kk q') ap'] hp] [] [] pos)) (
   deq id id' fun h0=>need (notSuper ob) fun h1=>deq W.T.strTab[n]? (some nm) fun h2=>need (apos.endLine==cp.line) fun h3=>need (decide (es.length<29)) fun h4=>need (stores k id x) fun h5=>need (isGl k lf) fun h6=>deq lf W.T.xname fun h7=>(trE W mo k ob).bind fun ho=>(trL W ms k es).bind fun hs=>.yes (h0▸xe_tryM ho hs h1 h2 h3 (of_decide_eq_true h4) h5 h6 h7))))))
 | .ret e,k,s=>sRet fun o pos=>dSome (O:=fun o=>XE W k _ (.Return o pos)) fun v=>(trE W e k v).bind fun he=>.yes (xe_ret he)
 | .retNone,k,s=>sRet fun o pos=>dNo (O:=fun o=>XE W k _ (.Return o pos)) (.yes xe_retNone)
 | .brk,k,s=>sBrk fun pos=>.yes xe_brk
 | .cont,k,s=>sCont fun pos=>.yes xe_cont
 | .bad,k,s=>.yes xe_bad
noncomputable def trSs:(ms:MSs)→(k:Ck)→(ss:List Stmt)→Dec (XEs W k ms ss)
 | .nil,k,ss=>dNil (.yes xs_nil)
 | .cons m ms,k,ss=>dCons fun s r=>(trS m k s).bind fun h=>(trSs ms k r).bind fun hs=>.yes (xs_cons h hs)
end
end
end Mini
end
section
set_option maxHeartbeats 1000000
namespace Mini
open PySem PySem.W PyProof.Rows PySem.SeqAt
theorem cellsFrom_some {x:Str}{names:List (Str×NameKind)}{n:Nat}{acc:List (Str×Addr)}(h:(acc.lookup x).isSome=true∨(x,NameKind.cell)∈names):((cellsFrom n names acc).lookup x).isSome=true:=by
 induction names generalizing n acc with
 | nil=>exact h.resolve_right List.not_mem_nil
 | cons p r ih=>
  obtain ⟨m,k⟩:=p
  unfold cellsFrom
  by_cases hk:(k==NameKind.cell)=true
  ·rw [if_pos hk]
   refine ih ?_
   rw [List.lookup_cons]
   by_cases q:(x==m)=true
   ·rw [q]; exact .inl rfl
   ·rw [Bool.eq_false_iff.mpr q]
    exact h.imp id fun h=>(List.mem_cons.mp h).resolve_left fun e=>q (by rw [(Prod.mk.inj e).1]; exact beq_self_eq_true m)
  ·rw [if_neg hk]
   exact ih (h.imp id fun h=>(List.mem_cons.mp h).resolve_left fun e=>hk (by rw [← (Prod.mk.inj e).2]; rfl))
section
variable {kindOf:Str→Option NameKind}{x:Str}{binds:List (Str×Value)}{m:Str→Option Value}{u:Value}
theorem bindL_keep (h:x∉binds.map (·.1)):bindL kindOf binds m x=m x:=by
 induction binds generalizing m with
 | nil=>rfl
 | cons p r ih=>
  rw [List.map_cons,List.mem_cons,not_or] at h
  unfold bindL
  rw [ih h.2]
  split
  ·exact if_neg h.1
  ·rfl
theorem bindC_keep (h:x∉binds.map (·.1)):bindC kindOf binds m x=m x:=by
 induction binds generalizing m with
 | nil=>rfl
 | cons p r ih=>
  rw [List.map_cons,List.mem_cons,not_or] at h
  unfold bindC
  rw [ih h.2]
  split
  ·rfl
  ·exact if_neg h.1
theorem bindL_get (hk:kindOf x=some .local)(hn:(binds.map (·.1)).Nodup)(h:(x,u)∈binds):bindL kindOf binds m x=some u:=by
 induction binds generalizing m with
 | nil=>exact absurd h List.not_mem_nil
 | cons p r ih=>
  rw [List.map_cons,List.nodup_cons] at hn
  unfold bindL
  rcases List.mem_cons.mp h with h | h
  ·subst h
   rw [bindL_keep hn.1,if_pos hk,if_pos rfl]
  ·exact ih hn.2 h
theorem bindC_get (hk:kindOf x=some .cell)(hn:(binds.map (·.1)).Nodup)(h:(x,u)∈binds):bindC kindOf binds m x=some u:=by
 induction binds generalizing m with
 | nil=>exact absurd h List.not_mem_nil
 | cons p r ih=>
  rw [List.map_cons,List.nodup_cons] at hn
  unfold bindC
  rcases List.mem_cons.mp h with h | h
  ·subst h
   rw [bindC_keep hn.1,if_neg (by rw [hk]; decide),if_pos rfl]
  ·exact ih hn.2 h
end
structure FnAt (W:Wd)(f:Nat)(npar:Nat)(o:Obj)(fd:FuncData)(body:List Stmt)(vs:List (Str×Nat))(ps:List Str):Prop where
 at_:W.K.lookup (W.faddr f)=some o
 data:o.data = .func fd
 bodyAt:fd.body = .stmts body
 code:codeIn W.K fd.code fd.qualname=true
 globals:fd.globals=mainGlobals
 builtins:fd.builtins=builtinsNs
 kind:fd.scope.kind = .function
 noCo:fd.scope.isCoroutine=false
 noGen:fd.scope.isGenerator=false
 npar:ps.length=npar
 pnodup:ps.Nodup
 bind:∀ vals:List Value,vals.length=ps.length→bindArgs fd ⟨vals,[]⟩=pure (ps.zip vals)
 pnum:∀ (i:Nat)(p:Str),ps[i]?=some p→vs.lookup p=some i
 pkind:∀ p∈ps,fd.scope.names.lookup p=some .local∨fd.scope.names.lookup p=some .cell
 inj:∀ x y i,vs.lookup x=some i→vs.lookup y=some i→x=y
 noFree:∀ x i,vs.lookup x=some i→fd.scope.names.lookup x≠some .free
section
variable {W:Wd}{d f n:Nat}{o:Obj}{fd:FuncData}{body:List Stmt}{vs:List (Str×Nat)}{ps:List Str}{A:Around}{c:Cf W}
theorem room_deep {env:Env}(h1:A.handled=none)(h2:A.depth + 4 * (d + 1) + 2≤900)(h3:A.units + 40 * (d + 1) + 20≤9000):Room (A.deeper env) (d + 1):=
 ⟨h1,by show A.depth + 1 + 4 * (d + 1)≤900; lia,by show A.units + 3 + 40 * (d + 1)≤9000; lia⟩
theorem var_at (X:FnAt W f n o fd body vs ps){xs:List MV}{vals:List Value}(hl:xs.length=ps.length)(hr:c.Vs xs vals){y:Str}{i:Nat}{v:MV}(h1:vs.lookup y=some i)(h2:xs[i]?=some v):∃ u,c.V v u∧y∈ps∧ps[i]?=some y∧vals[i]?=some u∧(y,u)∈ps.zip vals:=by
 obtain ⟨u,hu,hv⟩:=hr.get h2
 have hlt:i<ps.length:=by rw [← hl]; exact (List.getElem?_eq_some_iff.mp h2).1
 have hp:=List.getElem?_eq_getElem hlt
 have e:=X.inj y ps[i] i h1 (X.pnum i _ hp)
 rw [← e] at hp
 exact ⟨u,hv,e▸List.getElem_mem hlt,hp,hu,List.mem_of_getElem? (i:=i) (by rw [List.getElem?_zip_eq_some]; exact ⟨hp,hu⟩)⟩
theorem zip_names {vals:List Value}(h:vals.length=ps.length):(ps.zip vals).map (·.1)=ps:=List.map_fst_zip (Nat.le_of_eq h.symm)
noncomputable def Cf.enter (c:Cf W){h':Heap}(t:Nat)(k:Ext c.h h')(L:Addr)(e:∃ o,h'.get? L=some o):Cf W:=⟨c.ρ,c.hm,{ c.s with heap:=h',toks:=t },c.sim.grow k,L::c.F,fun a ha=>(List.mem_cons.mp ha).elim (fun q=>q▸e) (fr_alive c.fr k.alive a)⟩
noncomputable def Cf.low (c':Cf W){L:Addr}{F:List Addr}(e:c'.F=L::F):Cf W:=⟨c'.ρ,c'.hm,c'.s,c'.sim,F,fun a ha=>c'.fr a (e▸.tail _ ha)⟩
theorem later_call {M:List Addr}{c':Cf W}{h':Heap}{t:Nat}{k:Ext c.h h'}{L:Addr}{e:∃ o,h'.get? L=some o}(ab:∀ a∈M,Above c.h a)(hl:Above c.h L)(l:Later M (c.enter t k L e) c'):Later [] c (c'.low l.f) where
 at_:=l.at_
 fresh:=fun a ha=>(l.fresh a ha).imp id fun z=>z.back k.alive
 keep:=fun b o g hb uu hF=>l.keep b o (k b o g) hb (fun q=>(ab b q).no g) fun q=>(List.mem_cons.mp q).elim (fun q=>hl.no (q▸g)) hF
 slot:=fun b o g hb uu=>l.slot b o (k b o g) hb fun q=>(ab b q).no g
 froz:=fun b o g f=>l.froz b o (k b o g) f
 alive:=fun b o g=>l.alive b o (k b o g)
 rest:=l.rest
 f:=rfl
 tick:=l.tick
 own:=fun q b o hb g=>l.own q b o hb (k b o g)
noncomputable def retOf:Flow→Value
 | .ret v=>v
 | _=>.none
structure KOk (K:KF)(P:KV)(Pe:HP):Prop where
 ret:∀ m ρ h,K (.ret m) ρ h→P m h
 next:∀ ρ h,K .next ρ h→P .none h
 brk:∀ ρ h,¬ K .brk ρ h
 cont:∀ ρ h,¬ K .cont ρ h
 raise:∀ ρ h,K .raise ρ h→Pe h
theorem kok_ret (Q:KV):KOk (retQ Q) Q fun uu=>False:=⟨fun uu uu uu h=>h,fun uu uu h=>h,fun uu uu h=>h,fun uu uu h=>h,fun uu uu h=>h⟩
theorem kok_try (Q:Option MV→MHeap→Prop):KOk (tryQ Q) (fun m=>Q (some m)) (Q none):=⟨fun uu uu uu h=>h,fun uu uu h=>h,fun uu uu h=>h,fun uu uu h=>h,fun uu uu h=>h⟩
noncomputable def CallR (c:Cf W)(P:KV)(Pe:HP)(r:Result)(s':Shared):Prop:=match r with
 | .ok (.ret v)=>Out c Cf.V P v s'
 | .ok _=>False
 | .error e=>Flew c Pe e s'
theorem out_call {k:Ck}{p:Pt W k d}{K:KF}{P:KV}{Pe:HP}{fl:Flow}{s:Shared}{h':Heap}{t:Nat}{kp:Ext c.h h'}{L:Addr}{e:∃ o,h'.get? L=some o}(KK:KOk K P Pe)(ab:∀ a∈p.G.mine,Above c.h a)(hl:Above c.h L)(ep:p.c=c.enter t kp L e)(h:OutS p K fl s):Out c Cf.V P (retOf fl) s:=by
 induction h with
 | @mk mf fl vars c' r q O l=>
 rw [ep] at l
 have L:=later_call ab hl l
 induction r with
 | next=>exact .mk (c':=c'.low l.f) vnone (KK.next _ _ q) L
 | brk=>exact (KK.brk _ _ q).elim
 | cont=>exact (KK.cont _ _ q).elim
 | ret r=>exact .mk (c':=c'.low l.f) r (KK.ret _ _ _ q) L
theorem err_call {k:Ck}{p:Pt W k d}{K:KF}{P:KV}{Pe:HP}{ev:Value}{s:Shared}{h':Heap}{t:Nat}{kp:Ext c.h h'}{L:Addr}{e:∃ o,h'.get? L=some o}{E:Value→Shared→Prop}(T:Top p.G)(KK:KOk K P Pe)(ab:∀ a∈p.G.mine,Above c.h a)(hl:Above c.h L)(ep:p.c=c.enter t kp L e)(h:OutE p K ev s) :
  wpAny W.M p.G.A (leaving p.G.env ev) (fun uu s''=>Flew c Pe ev s'') E s:=by
 induction h with
 | @mk vars c1 e1 fl q O l x f=>
 induction T with
 | @mk outer LA ea ef=>
 unfold leaving
 refine wpAny_bind (note_ok O.stk ea ef l x (fun v hv=>.inl ?_) fun s t=>?_)
 ·obtain ⟨L',q1,q2⟩:=f v hv
  rw [ef] at q1; rw [q2,Option.some.inj q1]
 induction t with
 | @mk c2 Y ab2 l2 hm2 x2=>
 have O2:=Fr.turned p.O O l l2 ab2
 have L2:=l.over l2 ab2 hm2
 refine flight_ok (f:=none) O2.stk L2 x2 fun s t=>?_
 induction t with
 | @mk c3 Y3 ab3 l3 hm3 x3=>
 have L3:=L2.over l3 ab3 hm3
 have x3:=x3.back (c₀:=c) (by rw [ep]; exact kp.alive)
 rw [ep] at L3
 have LL:=later_call ab hl L3
 refine .mk (c:=c3.low L3.f) LL (KK.raise vars _ ?_) ?_
 ·show K .raise vars c3.hm
  rw [hm3,hm2]; exact q
 ·cases x3 with | «at» g cl d h1 off ne gT cT dT h3 offT=>exact .at g cl d h1 ⟨off.out,off.new⟩ ne gT cT dT h3 ⟨offT.out,offT.new⟩
theorem stk_enter {env:Env}{h':Heap}{t:Nat}{kp:Ext c.h h'}{L:Addr}{e:∃ o,h'.get? L=some o}{m:Str→Option Value}(S:Stk A c)(hk:env.scope.kind = .function)(hf:env.frame=some L)(hn:h'.Ns L m)(hl:Above c.h L):Stk (A.deeper env) (c.enter t kp L e):=by
 induction S with
 | @mk l e1 f u o=>
  refine .mk (Around.frames_deeper e1) ?_ (Heap.FunFrames.cons (by rw [hk]; decide) hf hn ?_ (ff_mono u fun a uu o g d=>⟨o,kp a o g,d⟩)) fun a ha=>?_
  ·show L::c.F=_
   rw [List.filterMap_cons,hf,f]
  ·cases z:W.B.get? L with
   | none=>rfl
   | some o=>exact (hl.no (c.sim.base _ _ z)).elim
  ·rcases List.mem_cons.mp ha with q | q
   ·rw [q]; exact ⟨not_own (c:=c) hl,hl.back c.sim.base.alive,ns_lives hn⟩
   ·exact ⟨(o a q).out,(o a q).new,by induction (o a q).live with | mk g f=>exact .mk (kp _ _ g) f⟩
theorem mine_above {G:Gx}(hl:Above c.h G.env.locals)(hc:∀ n a,G.env.kindOf n=some .cell→G.env.cells.lookup n=some a→Above c.h a):∀ a∈G.mine,Above c.h a:=fun a ha=>by
 rcases List.mem_cons.mp ha with e | e
 ·rw [e]; exact hl
 ·obtain ⟨p,hp,e⟩:=List.mem_filterMap.mp e
  by_cases q:(G.env.kindOf p.1==some .cell)=true
  ·rw [if_pos q] at e; exact hc p.1 a (eq_of_beq q) e
  ·rw [if_neg q] at e; exact ns e
theorem call_plain {X:Lx W}{xs:List MV}{vals:List Value}{K:KF}{P:KV}{Pe:HP}{mb:MSs}(KK:KOk K P Pe)(F:FnAt W f xs.length o fd body vs ps)(hcl:fd.closure=[])(ck:XEs W ⟨fd.scope,vs⟩ mb body)(h1:A.handled=none)(h2:A.depth + 4 * (X.d + 1) + 2≤900)(h3:A.units + 40 * (X.d + 1) + 20≤9000)(sk:Stk A c)(hr:c.Vs xs vals)
  (q:exs X.lg mb K (bindV xs) c.hm):codeAny W.M A (.call (.ref (W.faddr f)) ⟨vals,[]⟩) (CallR c P Pe) c.s:=by
 have XK:=c.X X.K
 have hvl:vals.length=ps.length:=hr.length.trans F.npar.symm
 refine codeAny_call_cells (o:=o) (fd:=fd) (body:=body) (binds:=ps.zip vals) (by simp [recursionLimit]; lia) (c.sim.base _ _ (X.K.X _ _ F.at_)) F.data (X.K.nolimit.keeps c.sim.base) (codeRec_of XK F.code) F.bodyAt (F.bind vals hvl) hcl (fun x hx=>?_) (fun s₁ x=>?_) F.noCo F.noGen F.kind
 ·rcases F.pkind x.1 (List.of_mem_zip hx).1 with e | e
  ·exact .inl e
  ·exact .inr ⟨e,cellsFrom_some (.inr (mem_of_look e))⟩
 ·obtain ⟨h',t,e,kp⟩:=x.done
  subst e
  have cab:∀ n a,(callEnvC fd c.h.objs.size (W.faddr f)).cells.lookup n=some a→c.h.objs.size<a:=fun n a e=>x.above n a (mem_of_look e)
  have hl:Above c.h c.h.objs.size:=above_size _ (Nat.le_refl _)
  have ab:∀ a∈Gx.mine ⟨callEnvC fd c.h.objs.size (W.faddr f),vs,A.deeper (callEnvC fd c.h.objs.size (W.faddr f))⟩,Above c.h a:=mine_above hl fun n a uu e=>above_size _ (Nat.le_of_lt (cab n a e))
  have g:GOk W ⟨fd.scope,vs⟩ X.d ⟨callEnvC fd c.h.objs.size (W.faddr f),vs,A.deeper (callEnvC fd c.h.objs.size (W.faddr f))⟩:=
   ⟨rfl,rfl,F.kind,F.globals,F.builtins,room_deep h1 h2 h3,fun n a e z=>Nat.lt_irrefl _ (z▸cab n a e),fun n n' a e e'=>name_of_addr x.apart (mem_of_look e) (mem_of_look e'),fun y i e e'=>e'.elim (fun e'=>cellsFrom_some (.inr (mem_of_look e'))) fun e'=>absurd e' (F.noFree y i e),F.inj,fun a ha=>(ab a ha).back c.sim.base.alive⟩
  have th:∃ o,h'.get? c.h.objs.size=some o:=(ns_data x.toInCall.ns).there
  have T:Top ⟨callEnvC fd c.h.objs.size (W.faddr f),vs,A.deeper (callEnvC fd c.h.objs.size (W.faddr f))⟩:=by
   induction sk with | mk e1 _ _ _=>exact .mk (Around.frames_deeper e1) rfl
  have nd:((ps.zip vals).map (·.1)).Nodup:=by rw [zip_names hvl]; exact F.pnodup
  have O:Fr ⟨callEnvC fd c.h.objs.size (W.faddr f),vs,A.deeper (callEnvC fd c.h.objs.size (W.faddr f))⟩ (bindV xs) (c.enter t kp c.h.objs.size th):=by
   refine ⟨.mk x.toInCall.ns x.cell fun y i v e1 e2=>?_,fun a ha q=>?_,stk_enter sk F.kind rfl x.toInCall.ns hl⟩
   ·obtain ⟨u,hu,hy,_,_,hm⟩:=var_at F F.npar.symm hr e1 e2
    refine .mk (hu.stay (Ext.stay kp)) ?_
    rcases F.pkind y hy with z | z
    ·exact .loc z (bindL_get z nd hm)
    ·obtain ⟨a,ha⟩:=Option.isSome_iff_exists.mp (cellsFrom_some (n:=c.h.objs.size + 1) (acc:=[]) (.inr (mem_of_look z)))
     exact .cell (.inl z) ha (bindC_get z nd hm)
   ·induction c.sim.live a q with
    | mk e _=>
     rcases List.mem_cons.mp ha with z | z
     ·exact hl.no (z▸e)
     ·obtain ⟨p,_,z⟩:=List.mem_filterMap.mp z
      exact Nat.lt_irrefl _ (Nat.lt_trans (Heap.lt_size e) (cab _ _ z))
  refine wpAny_mono (ck X ⟨_,bindV xs,c.enter t kp c.h.objs.size th,g,O⟩ K T q) (fun fl s' h=>?_) fun e s' h=>err_call (kp:=kp) (e:=th) T KK ab hl rfl h
  have z:=out_call (c:=c) (kp:=kp) (e:=th) KK ab hl rfl h
  cases fl <;> exact z
end
end Mini
end
section
set_option maxHeartbeats 1000000
namespace Mini
open PySem PySem.W PyProof.Rows PySem.SeqAt
structure FnSup (W:Wd)(fd:FuncData)(body:List Stmt)(ps:List Str)(g:Nat)(cc cda:Addr)(occ oc:Obj)(kvs:Array Value)(file:Str)(tf:Tok)(rest:List Stmt)(p0 p1 apos pos spos:Pos)(ar:Arg)(cd:ClassData):Prop where
 closure:fd.closure=[(("__class__":Str),cc)]
 ccAt:W.K.lookup cc=some occ
 ccIs:occ.data = .cell (some (.ref W.C))
 codeIs:fd.code = .ref cda
 cdAt:W.K.lookup cda=some oc
 cdIs:oc.data = .fields kvs
 file2:kvs[2]?=some (.str file tf)
 fileOk:((W.prog.main.file:Str)==file)=true
 noSuper:(W.prog.main.scope.names.lookup ("super":Str)).isSome=false
 bodyIs:body = .Expr (.Call (.Attribute (.Call (.Name "super" p0) [] [] p1) "__init__" apos) [] [] pos) spos::rest
 first:(fd.params.posonlyargs++fd.params.args).head?=some ar
 first0:ps[0]?=some ar.arg
 kSuper:fd.scope.names.lookup ("super":Str)=some .globalImplicit
 kClass:fd.scope.names.lookup ("__class__":Str)=some .free
 noCell:∀ x∈fd.scope.names,x.2≠.cell
 cls:clsIn W.K W.C=some cd
 sub:mroIn W.K W.C (.ref W.C)=some true
 up:alongIn W.K "__init__" ((cd.mro.dropWhile (· != .ref W.C)).drop 1)=some (some (.ref (W.faddr g)))
 line:(apos.endLine==pos.line)=true
 upIs:fnIn W.K (W.faddr g)=true
 upFn:typeIn W.K (.ref (W.faddr g))=some (.type "function")
 plainWorld:nsIn W.K cStatics "thirdparty.any"=some none
theorem boot_super:bootBuiltins "super"=some (.type "super"):=by decide +kernel
theorem look_rev {α:Type}{l:List (Str×α)}{x:Str}{v:α}(hn:(l.map (·.1)).Nodup)(hm:(x,v)∈l):l.lookup x=some v:=by
 induction l with
 | nil=>exact absurd hm List.not_mem_nil
 | cons p r ih=>
  obtain ⟨m,w⟩:=p
  rw [List.map_cons,List.nodup_cons] at hn
  rw [List.lookup_cons]
  rcases List.mem_cons.mp hm with e | e
  ·rw [(Prod.mk.inj e).1,beq_self_eq_true,(Prod.mk.inj e).2]
  ·have:(x==m)=false:=beq_eq_false_iff_ne.mpr fun q=>hn.1 (List.mem_map.mpr ⟨(x,v),e,q⟩)
   rw [this]; exact ih hn.2 e
section
variable {W:Wd}{f n:Nat}{o:Obj}{fd:FuncData}{body:List Stmt}{vs:List (Str×Nat)}{ps:List Str}{A:Around}{c:Cf W}
theorem one_cell {x y:Str}{a b:Addr}(e:[(x,a)].lookup y=some b):y=x∧b=a:=by
 rw [List.lookup_cons] at e
 by_cases q:(y==x)=true
 ·rw [q] at e; exact ⟨eq_of_beq q,(Option.some.inj e).symm⟩
 ·rw [Bool.eq_false_iff.mpr q] at e; exact ns e
theorem call_super {X:Lx W}{g:Nat}{cc cda:Addr}{occ oc:Obj}{kvs:Array Value}{file:Str}{tf:Tok}{rest:List Stmt}{p0 p1 apos pos spos:Pos}{ar:Arg}{cd:ClassData}{i:Nat}{as:List (Nat×MV)}{xs:List MV}{vals:List Value}{Q:KV}{mb:MSs}(F:FnAt W f (MV.ref i::xs).length o fd body vs ps)
  (Y:FnSup W fd body ps g cc cda occ oc kvs file tf rest p0 p1 apos pos spos ar cd)(ck:XEs W ⟨fd.scope,vs⟩ mb rest)(h1:A.handled=none)(h2:A.depth + 4 * (X.d + 1) + 2≤900)(h3:A.units + 40 * (X.d + 1) + 20≤9000)(sk:Stk A c)(hr:c.Vs (MV.ref i::xs) vals)(eo:c.hm.obj i=some (.inst as))
  (q:X.call g [.ref i] (fun uu h=>exs X.lg mb (retQ Q) (bindV (.ref i::xs)) h) c.hm):codeAny W.M A (.call (.ref (W.faddr f)) ⟨vals,[]⟩) (CallR c Q fun uu=>False) c.s:=by
 have K:=X.K
 have hvl:vals.length=ps.length:=hr.length.trans F.npar.symm
 have hb:BindsTo c.s fd ⟨vals,[]⟩ (ps.zip vals):=fun M A Q E h=>by rw [F.bind vals hvl]; exact wpAny_pure h
 have loc:∀ p∈ps,fd.scope.names.lookup p=some .local:=fun p hp=>(F.pkind p hp).resolve_right fun e=>Y.noCell _ (mem_of_look e) rfl
 refine ks_codeAny_call_defAt (o:=o) (fd:=fd) (body:=body) (binds:=ps.zip vals) (by simp [recursionLimit]; lia) (c.sim.base _ _ (K.X _ _ F.at_)) F.data (K.nolimit.keeps c.sim.base) (codeRec_of (c.X K) F.code) F.bodyAt hb Y.noCell (fun x hx=>loc x.1 (List.of_mem_zip hx).1) (fun h₁ hns kp=>?_) F.noCo F.noGen F.kind
 have kp:Ext c.h h₁:=kp
 have e5:(callEnv fd c.h.objs.size (W.faddr f)).cells=[(("__class__":Str),cc)]:=Y.closure
 have e7:(callEnv fd c.h.objs.size (W.faddr f)).code = .ref cda:=Y.codeIs
 have nd:(((ps.zip vals).reverse).map (·.1)).Nodup:=by
  rw [List.map_reverse]
  refine (List.reverse_perm _).nodup_iff.mpr ?_
  rw [zip_names hvl]; exact F.pnodup
 have hcc:W.B.get? cc=some occ:=K.X _ _ Y.ccAt
 have hccl:c.h.get? cc=some occ:=c.sim.base _ _ hcc
 have hl:Above c.h c.h.objs.size:=above_size _ (Nat.le_refl _)
 have ab:∀ a∈Gx.mine ⟨callEnv fd c.h.objs.size (W.faddr f),vs,A.deeper (callEnv fd c.h.objs.size (W.faddr f))⟩,Above c.h a:=mine_above hl fun n a k uu=>absurd rfl (Y.noCell _ (mem_of_look k))
 have gk:GOk W ⟨fd.scope,vs⟩ X.d ⟨callEnv fd c.h.objs.size (W.faddr f),vs,A.deeper (callEnv fd c.h.objs.size (W.faddr f))⟩:=
  ⟨rfl,rfl,F.kind,F.globals,F.builtins,room_deep h1 h2 h3,fun n a e z=>by
   have e:(callEnv fd c.h.objs.size (W.faddr f)).cells.lookup n=some a:=e
   rw [e5] at e
   rw [(one_cell e).2] at z
   have z:cc=c.h.objs.size:=z
   exact hl.no (z▸hccl),fun n n' a e e'=>by
   have e:(callEnv fd c.h.objs.size (W.faddr f)).cells.lookup n=some a:=e
   have e':(callEnv fd c.h.objs.size (W.faddr f)).cells.lookup n'=some a:=e'
   rw [e5] at e e'
   exact (one_cell e).1.trans (one_cell e').1.symm,fun y i e e'=>e'.elim (fun e'=>absurd rfl (Y.noCell _ (mem_of_look e'))) fun e'=>absurd e' (F.noFree y i e),F.inj,fun a ha=>(ab a ha).back c.sim.base.alive⟩
 generalize ht:c.s.toks + (ps.zip vals).length=t0 at *
 have th:∃ o,h₁.get? c.h.objs.size=some o:=(ns_data hns).there
 have T:Top ⟨callEnv fd c.h.objs.size (W.faddr f),vs,A.deeper (callEnv fd c.h.objs.size (W.faddr f))⟩:=by
  induction sk with | mk e1 _ _ _=>exact .mk (Around.frames_deeper e1) rfl
 have O:Fr ⟨callEnv fd c.h.objs.size (W.faddr f),vs,A.deeper (callEnv fd c.h.objs.size (W.faddr f))⟩ (bindV (.ref i::xs)) (c.enter t0 kp c.h.objs.size th):=by
  refine ⟨.mk (cm:=fun uu=>some (.ref W.C)) hns (fun n a e=>?_) fun y i v e1 e2=>?_,fun a ha q=>?_,stk_enter sk F.kind rfl hns hl⟩
  ·have e:(callEnv fd c.h.objs.size (W.faddr f)).cells.lookup n=some a:=e
   rw [e5] at e
   rw [(one_cell e).2]
   exact ⟨occ,kp _ _ hccl,Y.ccIs⟩
  ·obtain ⟨u,hu,hy,_,_,hm⟩:=var_at F F.npar.symm hr e1 e2
   exact .mk (hu.stay kp.stay) (.loc (loc y hy) (look_rev nd (List.mem_reverse.mpr hm)))
  ·rcases List.mem_cons.mp ha with z | z
   ·induction c.sim.live a q with | mk e _=>exact hl.no (z▸e)
   ·obtain ⟨p,_,z⟩:=List.mem_filterMap.mp z
    have z:(callEnv fd c.h.objs.size (W.faddr f)).cells.lookup p.1=some a:=z
    rw [e5] at z
    exact (c.sim.out a q).no (((one_cell z).2▸hcc:W.B.get? a=some occ))
 have X1:=(c.enter t0 kp c.h.objs.size th).X K
 have hbi:=Y.bodyIs
 subst hbi
 obtain ⟨oD,hD1,hD2⟩:∃ oD,h₁.get? W.C=some oD∧oD.data = .cls cd:=by
  have hD:=Y.cls
  unfold clsIn at hD
  split at hD
  ·rename_i ho
   exact ⟨_,X1 _ _ ho,congrArg Data.cls (Option.some.inj hD)⟩
  ·exact ns hD
 obtain ⟨v0,hve,hv0⟩:=hr.get (i:=0) rfl
 have self:(ps.zip vals).reverse.lookup ar.arg=some v0:=look_rev nd (List.mem_reverse.mpr (List.mem_of_getElem? (i:=0) (by rw [List.getElem?_zip_eq_some]; exact ⟨Y.first0,hve⟩)))
 have hv0:(c.enter t0 kp c.h.objs.size th).V (.ref i) v0:=VRel.stay kp.stay hv0
 refine Cf.instE (c:=c.grow t0 kp) (P:=fun v=>(ps.zip vals).reverse.lookup ar.arg=some v→_) hv0 eo (fun d ds n' hc0 uu I0 uu uu uu uu self=>?_) self
 have env6:(callEnv fd c.h.objs.size (W.faddr f)).func=some (W.faddr f):=rfl
 refine ks_wpAt_execs_cons (ks_wpAt_Expr_any ?_ (by unfold interactive; rw [show (callEnv fd c.h.objs.size (W.faddr f)).scope.kind = .function from F.kind]; rfl) rfl)
 rw [arm_eval_Call]
 refine _root_.PySem.wpAt_bind (ks_wpAt_super_base (f:=W.faddr f) (cc:=cda) Y.kSuper Y.kClass (by decide) env6 (X1 _ _ F.at_) F.data Y.first e7 (X1 _ _ Y.cdAt) Y.cdIs Y.file2 Y.fileOk Y.noSuper ?_)
 refine ks_loadName_global F.kind Y.kSuper (Calls.loadGlobal_builtin (mg:=W.mg) (mb:=W.mb) (by rw [show (callEnv fd c.h.objs.size (W.faddr f)).globals=mainGlobals from F.globals]; exact K.g.keeps (c.enter t0 kp c.h.objs.size th).sim.base) (mg_none_of K.X K.g (K.noBuiltin "super" (by simp))) (by rw [show (callEnv fd c.h.objs.size (W.faddr f)).builtins=builtinsNs from F.builtins]; exact K.b.keeps (c.enter t0 kp c.h.objs.size th).sim.base) ((K.boots "super" (by decide)).trans boot_super) ⟨rfl,?_⟩)
 refine wpAny_loadName_free F.kind Y.kClass (by rw [e5]; rfl) ⟨_,kp _ _ hccl,Y.ccIs⟩ ?_
 refine wpAny_loadName_local F.kind (loc _ (List.mem_of_getElem? Y.first0)) hns self ?_
 refine ks_wpAny_isType_cls hD1 hD2 ⟨rfl,?_⟩
 refine ks_wpAny_call_super hD1 hD2 I0.at_ I0.cls (fun c e=>?_) (looks_mroIn X1 Y.sub) (fun h2 g2 k2=>?_)
 ·have:=I0.no
  unfold notCls at this
  rw [e] at this
  exact Bool.noConfusion this
 have k2:Ext h₁ h2:=k2
 have X2:=((c.enter t0 kp c.h.objs.size th).grow t0 k2).X K
 refine _root_.PySem.wpAt_of_wpAny (wpAny_bind (wpAny_standAt ?_))
 obtain ⟨of,hof,hofc⟩:∃ of,h2.get? (W.faddr g)=some of∧of.cls = .type "function":=by
  have ht':(W.K.lookup (W.faddr g)).map (·.cls)=some (.type "function"):=Y.upFn
  cases z:W.K.lookup (W.faddr g) with
  | none=>rw [z] at ht'; exact ns ht'
  | some of=>rw [z] at ht'; exact ⟨of,X2 _ _ z,Option.some.inj ht'⟩
 have I2:InstAt h2 d.a (instObj W.C d.d) W.C (some (dictOf ds n')):=by
  obtain ⟨a1,a2,a3,a4⟩:=I0
  exact ⟨k2 _ _ a1,a2,a3,k2 _ _ a4⟩
 have g3:(h2.push (methodObj (.ref (W.faddr g)) (.ref d.a))).get? h2.objs.size=some (methodObj (.ref (W.faddr g)) (.ref d.a)):=Heap.get?_push_size _ rfl
 have k3:Ext h₁ (h2.push (methodObj (.ref (W.faddr g)) (.ref d.a))):=Ext.trans k2 (.push _ _)
 have L3:Later [] (c.enter t0 kp c.h.objs.size th) ((c.enter t0 kp c.h.objs.size th).grow (t0 + 1) k3):=later_grow k3
 refine method_call (s':=((c.enter t0 kp c.h.objs.size th).grow (t0 + 1) k3).s) (f:=.ref h2.objs.size) (first:=[]) rfl (by decide) Y.line
  (fun R pl q=>ks_wpAny_getMethod_super g2 (looks_opaque X2 Y.plainWorld) (l₀:=cd.mro) (fun A Q E s k q=>wpAny_bind ((looks_clsIn X2 Y.cls) A _ E s k (wpAny_pure q))) rfl X2 Y.up hof hofc (ks_ne X2 I2 Y.cls) (by decide) q) ?_
 have hv3:((c.enter t0 kp c.h.objs.size th).grow (t0 + 1) k3).Vs [.ref i] [.ref d.a]:=.one (IsRef.mk hc0)
 refine callWith_of (P:=MethP W.K h2.objs.size (W.faddr g) (.ref d.a)) rfl (keeps_M Y.upIs) (evalArgs_nil3 ⟨⟨g3,((c.enter t0 kp c.h.objs.size th).grow (t0 + 1) k3).X K⟩,wpAny_call (ks_codeAny_call_bound g3 ?_)⟩)
 refine codeAny_mono (X.ok g (A.deeper (callEnv fd c.h.objs.size (W.faddr f))) [.ref i] [.ref d.a] _ ((c.enter t0 kp c.h.objs.size th).grow (t0 + 1) k3) h1 (by show A.depth + 1 + 4 * X.d + 2≤900; lia) (by show A.units + 3 + 40 * X.d + 20≤9000; lia) (O.stk.later L3) hv3 q) fun r s' h=>?_
 rcases r with e | (_ | _ | _ | v) <;> first | exact h.elim | skip
 have h:Out ((c.enter t0 kp c.h.objs.size th).grow (t0 + 1) k3) Cf.V _ v s':=h
 induction h with
 | @mk m v c4 r q L4=>
 have LL:=L3.trans L4
 have O4:=O.later LL
 show PySem.wpAt _ _ _ (execs rest _) _ _ c4.s
 refine _root_.PySem.wpAt_of_wpAny (wpAny_mono (ck X ⟨_,bindV (.ref i::xs),c4,gk,O4⟩ (retQ Q) T q) (fun fl s'' h=>?_) fun e s'' h=>?_)
 ·have z:=out_call (c:=c) (p:=⟨_,bindV (.ref i::xs),c.enter t0 kp c.h.objs.size th,gk,O⟩) (kp:=kp) (e:=th) (kok_ret Q) ab hl rfl (OutS.trans (p:=⟨_,bindV (.ref i::xs),c.enter t0 kp c.h.objs.size th,gk,O⟩) (O:=O4) LL.up h)
  cases fl <;> exact z
 ·induction h with | mk q _ _ _ _=>exact q.elim
end
end Mini
end
section
namespace Mini
open PySem PySem.W PyProof.Rows PySem.SeqAt
inductive FnOk (W:Wd)(f:Nat)(fn:MFn):Prop
 | plain {o:Obj}{fd:FuncData}{body:List Stmt}{vs:List (Str×Nat)}{ps:List Str}(F:FnAt W f fn.npar o fd body vs ps)(cl:fd.closure=[])(ck:XEs W ⟨fd.scope,vs⟩ fn.body body)(s:fn.sup=none)
 | sup {o:Obj}{fd:FuncData}{body:List Stmt}{vs:List (Str×Nat)}{ps:List Str}{g:Nat}{cc cda:Addr}{occ oc:Obj}{kvs:Array Value}{file:Str}{tf:Tok}{rest:List Stmt}{p0 p1 apos pos spos:Pos}{ar:Arg}{cd:ClassData}(F:FnAt W f fn.npar o fd body vs ps)
   (Y:FnSup W fd body ps g cc cda occ oc kvs file tf rest p0 p1 apos pos spos ar cd)(ck:XEs W ⟨fd.scope,vs⟩ fn.body rest)(s:fn.sup=some g)
theorem callOk {W:Wd}(K:WdOk W)(mk:MakeOk W)(hf:∀ f fn,W.P.fns[f]?=some fn→FnOk W f fn)(d:Nat):CallOk W d (callD W.P W.script d)∧TryOk W d (tryD W.P W.script d):=by
 induction d with
 | zero=>exact ⟨fun f A xs vs Q c uu uu uu uu uu q=>q.elim,fun f A xs vs Q c uu uu uu uu uu q=>q.elim⟩
 | succ d hc=>
  constructor
  ·intro f A xs vs Q c h1 h2 h3 sk r q
   refine codeAny_mono (R:=CallR c Q fun uu=>False) ?_ fun r s' h=>?_
   ·induction q with
    | mk e q=>
    obtain ⟨hn,q⟩:=q
    induction hf f _ e with
    | plain F cl ck s=>
     rw [s] at q
     exact call_plain (X:=⟨d,_,_,K,hc.1,hc.2,mk⟩) (kok_ret Q) (hn▸F) cl ck h1 h2 h3 sk r q
    | sup F Y ck s=>
     rw [s] at q
     cases q with
     | mk p q=>exact call_super (X:=⟨d,_,_,K,hc.1,hc.2,mk⟩) (hn▸F) Y ck h1 h2 h3 sk r p q
   ·rcases r with e | (_ | _ | _ | v)
    ·have h:Flew c (fun uu=>False) e s':=h
     induction h with | mk _ q _=>exact q.elim
    ·exact h
    ·exact h
    ·exact h
    ·exact h
  ·intro f A xs vs Q c h1 h2 h3 sk r q
   refine codeAny_mono (R:=CallR c (fun m=>Q (some m)) (Q none)) ?_ fun r s' h=>?_
   ·obtain ⟨q,ns⟩:=q
    induction q with
    | mk e q=>
    obtain ⟨hn,q⟩:=q
    induction hf f _ e with
    | plain F cl ck s=>
     rw [s] at q
     exact call_plain (X:=⟨d,_,_,K,hc.1,hc.2,mk⟩) (kok_try Q) (hn▸F) cl ck h1 h2 h3 sk r q
    | sup F Y ck s=>exact absurd ((ns _ e).symm.trans s) nofun
   ·rcases r with e | (_ | _ | _ | v) <;> exact h
end Mini
end
section
namespace Mini
open PySem PySem.W PyProof.Rows PySem.SeqAt
section
variable {p:Prop}{α:Type}{P:α→Prop}
noncomputable def oSome (o:Option α)(f:∀ a,o=some a→Dec p):Dec p:=Option.rec (motive:=fun o'=>o=o'→Dec p) (fun uu=>.no) f o rfl
noncomputable def oNone (o:Option α)(f:o=none→Dec p):Dec p:=Option.rec (motive:=fun o'=>o=o'→Dec p) f (fun uu uu=>.no) o rfl
noncomputable def aFunc (d:Data)(f:∀ x,d = .func x→Dec p):Dec p:=if h:d.ctorIdx=7 then Data.func.elim (motive:=fun d'=>d=d'→Dec p) d h f rfl else .no
noncomputable def aCell (d:Data)(f:∀ x,d = .cell x→Dec p):Dec p:=if h:d.ctorIdx=6 then Data.cell.elim (motive:=fun d'=>d=d'→Dec p) d h f rfl else .no
noncomputable def aFields (d:Data)(f:∀ x,d = .fields x→Dec p):Dec p:=if h:d.ctorIdx=9 then Data.fields.elim (motive:=fun d'=>d=d'→Dec p) d h f rfl else .no
noncomputable def vInt (v:Value)(f:∀ x t,v = .int x t→Dec p):Dec p:=if h:v.ctorIdx=4 then Value.int.elim (motive:=fun d'=>v=d'→Dec p) v h f rfl else .no
noncomputable def aSeq (d:Data)(f:∀ x n,d = .seq x n→Dec p):Dec p:=if h:d.ctorIdx=2 then Data.seq.elim (motive:=fun d'=>d=d'→Dec p) d h f rfl else .no
noncomputable def aTup (o:Obj)(f:∀ its n,o={ cls:=.type "tuple",data:=.seq its n }→Dec p):Dec p:=Obj.rec (motive:=fun o'=>o=o'→Dec p) (fun c di d sl e=>deq c (.type "tuple") fun h1=>oNone di fun h2=>deq sl #[] fun h3=>aSeq d fun its n h4=>f its n (by subst h1 h2 h3 h4; exact e)) o rfl
noncomputable def intsD (is:List Int):(vs:List Value)→Dec (All2 IsInt is vs):=List.rec (motive:=fun is=>(vs:List Value)→Dec (All2 IsInt is vs)) (fun vs=>dNil (.yes .nil)) (fun i uu ih vs=>dCons fun v r=>vInt v fun x t e=>deq x i fun e'=>(ih r).bind fun h=>.yes (.cons (e'▸e▸IsInt.mk t) h)) is
noncomputable def vStr (v:Value)(f:∀ x t,v = .str x t→Dec p):Dec p:=if h:v.ctorIdx=6 then Value.str.elim (motive:=fun d'=>v=d'→Dec p) v h f rfl else .no
noncomputable def vRef (v:Value)(f:∀ x,v = .ref x→Dec p):Dec p:=if h:v.ctorIdx=10 then Value.ref.elim (motive:=fun d'=>v=d'→Dec p) v h f rfl else .no
noncomputable def oIs (o:Option Value)(u:Value)(f:o=some u→Dec p):Dec p:=oSome o fun v h=>deq v u fun e=>f (e▸h)
noncomputable def ooIs (o:Option (Option Value))(u:Value)(f:o=some (some u)→Dec p):Dec p:=oSome o fun v h=>oIs v u fun e=>f (e▸h)
noncomputable def ooNo (o:Option (Option Value))(f:o=some none→Dec p):Dec p:=oSome o fun v h=>oNone v fun e=>f (e▸h)
noncomputable def kIs (o:Option NameKind)(u:NameKind)(f:o=some u→Dec p):Dec p:=need (o==some u) fun h=>f (eq_of_beq h)
noncomputable def allD (l:List α)(d:∀ a,Dec (P a)):Dec (∀ a∈l,P a):=List.rec (motive:=fun l=>Dec (∀ a∈l,P a)) (.yes fun uu h=>absurd h List.not_mem_nil) (fun a uu ih=>(d a).bind fun h=>ih.bind fun h'=>.yes (List.forall_mem_cons.mpr ⟨h,h'⟩)) l
noncomputable def atD {o:Option α}(d:∀ a,Dec (P a)):Dec (∀ a,o=some a→P a):=Option.rec (motive:=fun o=>Dec (∀ a,o=some a→P a)) .no (fun a=>(d a).bind fun h=>.yes fun b e=>Option.some.inj e▸h) o
noncomputable def orD {a b:Prop}(x:Dec a)(y:Dec b):Dec (a∨b):=Dec.rec (motive:=fun uu=>Dec (a∨b)) (y.bind fun h=>.yes (.inr h)) (fun h=>.yes (.inl h)) x
end
noncomputable def fdOf (o:Obj):Option FuncData:=if h:o.data.ctorIdx=7 then some (Data.func.elim (motive:=fun uu=>FuncData) o.data h fun x=>x) else none
noncomputable def bindOf (K:Frag)(a:Addr)(vals:List Value):Sem (List (Str×Value)):=Option.elim ((K.lookup a).bind fdOf) (pure []) fun fd=>bindArgs fd ⟨vals,[]⟩
theorem bindOf_eq {K:Frag}{a:Addr}{vals:List Value}{o:Obj}{fd:FuncData}(h1:K.lookup a=some o)(h2:o.data = .func fd):bindOf K a vals=bindArgs fd ⟨vals,[]⟩:=by
 rcases o with ⟨c,d,x,s⟩
 subst h2
 unfold bindOf
 rw [h1]
 rfl
section
variable (W:Wd){p:Prop}(f:Nat)(fn:MFn)
noncomputable def fnAtD {o:Obj}{fd:FuncData}{body:List Stmt}(vs:List (Str×Nat))(ps:List Str)(hb:∀ vals,vals.length=ps.length→bindOf W.K (W.faddr f) vals=pure (ps.zip vals))(h1:W.K.lookup (W.faddr f)=some o)(h2:o.data = .func fd)(h3:fd.body = .stmts body):Dec (FnAt W f fn.npar o fd body vs ps):=
 need (codeIn W.K fd.code fd.qualname) fun c1=>deq fd.globals mainGlobals fun c2=>deq fd.builtins builtinsNs fun c3=>need (fd.scope.kind==.function) fun c4=>deq fd.scope.isCoroutine false fun c5=>deq fd.scope.isGenerator false fun c6=>
 deq ps.length fn.npar fun c7=>need (decide ps.Nodup) fun c8=>(allD (P:=fun q=>vs.lookup q.1=some q.2) ps.zipIdx fun q=>deq (vs.lookup q.1) (some q.2) .yes).bind fun c9=>
 (allD (P:=fun q=>fd.scope.names.lookup q=some .local∨fd.scope.names.lookup q=some .cell) ps fun q=>orD (kIs _ _ .yes) (kIs _ _ .yes)).bind fun c10=>
 (allD (P:=fun q=>∀ r∈vs,q.2=r.2→q.1=r.1) vs fun q=>allD vs fun r=>if h:q.2=r.2 then deq q.1 r.1 fun e=>.yes fun uu=>e else .yes fun e=>absurd e h).bind fun c11=>
 (allD (P:=fun q=>(fd.scope.names.lookup q.1 != some .free)=true) vs fun q=>need _ .yes).bind fun c12=>
 .yes ⟨h1,h2,h3,c1,c2,c3,eq_of_beq c4,c5,c6,c7,of_decide_eq_true c8,fun vals h=>(bindOf_eq h1 h2).symm.trans (hb vals h),fun i q h=>c9 (q,i) (List.mem_zipIdx_iff_getElem?.mpr h),c10,fun x y i a b=>c11 _ (mem_of_look a) _ (mem_of_look b) rfl,fun x i a=>bne_iff_ne.mp (c12 _ (mem_of_look a))⟩
noncomputable def supLine {G:Prop}(body:List Stmt)(d:∀ p0 p1 apos pos spos rest,(apos.endLine==pos.line)=true→Dec (body = .Expr (.Call (.Attribute (.Call (.Name "super" p0) [] [] p1) "__init__" apos) [] [] pos) spos::rest→G)):Dec G:=
 (dCons (L:=fun b=>body=b→G) (l:=body) fun st rest=>sExpr (P:=fun st=>body=st::rest→G) fun e spos=>dCall (P:=fun e=>body = .Expr e spos::rest→G) fun g' as ks pos=>dAttr (P:=fun g'=>body = .Expr (.Call g' as ks pos) spos::rest→G) fun b nm apos=>
   dCall (P:=fun b=>body = .Expr (.Call (.Attribute b nm apos) as ks pos) spos::rest→G) fun sn as' ks' p1=>dNm (P:=fun sn=>body = .Expr (.Call (.Attribute (.Call sn as' ks' p1) nm apos) as ks pos) spos::rest→G) fun id p0=>
   dNil (L:=fun as=>body = .Expr (.Call (.Attribute (.Call (.Name id p0) as' ks' p1) nm apos) as ks pos) spos::rest→G) <| dNil (L:=fun ks=>body = .Expr (.Call (.Attribute (.Call (.Name id p0) as' ks' p1) nm apos) [] ks pos) spos::rest→G) <|
   dNil (L:=fun as'=>body = .Expr (.Call (.Attribute (.Call (.Name id p0) as' ks' p1) nm apos) [] [] pos) spos::rest→G) <| dNil (L:=fun ks'=>body = .Expr (.Call (.Attribute (.Call (.Name id p0) [] ks' p1) nm apos) [] [] pos) spos::rest→G) <|
   deq id "super" fun k1=>deq nm "__init__" fun k2=>need (apos.endLine==pos.line) fun k3=>k1▸k2▸d p0 p1 apos pos spos rest k3).bind fun h=>.yes (h rfl)
noncomputable def supCk {o:Obj}{fd:FuncData}{body:List Stmt}{vs:List (Str×Nat)}{ps:List Str}{g:Nat}(F:FnAt W f fn.npar o fd body vs ps)(s:fn.sup=some g):Dec (FnOk W f fn):=
 (dOne (L:=fun c=>fd.closure=c→FnOk W f fn) (l:=fd.closure) fun q=>Prod.rec (motive:=fun q=>Dec (fd.closure=[q]→FnOk W f fn)) (fun n cc=>deq n "__class__" fun h1=>
  oSome (W.K.lookup cc) fun occ h2=>aCell occ.data fun cv h3=>oIs cv (.ref W.C) fun h3'=>vRef fd.code fun cda h4=>oSome (W.K.lookup cda) fun oc h5=>aFields oc.data fun kvs h6=>oSome kvs[2]? fun fv h7=>vStr fv fun file tf h8=>
  need ((W.prog.main.file:Str)==file) fun h9=>deq (W.prog.main.scope.names.lookup ("super":Str)).isSome false fun h10=>oSome (fd.params.posonlyargs++fd.params.args).head? fun ar h11=>deq ps[0]? (some ar.arg) fun h12=>
  kIs (fd.scope.names.lookup ("super":Str)) .globalImplicit fun h13=>kIs (fd.scope.names.lookup ("__class__":Str)) .free fun h14=>(allD (P:=fun x=>(x.2 != NameKind.cell)=true) fd.scope.names fun x=>need _ .yes).bind fun h15=>
  oSome (clsIn W.K W.C) fun cd h16=>deq (mroIn W.K W.C (.ref W.C)) (some true) fun h17=>ooIs (alongIn W.K "__init__" ((cd.mro.dropWhile (· != .ref W.C)).drop 1)) (.ref (W.faddr g)) fun h18=>
  need (fnIn W.K (W.faddr g)) fun h19=>oIs (typeIn W.K (.ref (W.faddr g))) (.type "function") fun h20=>ooNo (nsIn W.K cStatics "thirdparty.any") fun h21=>
  supLine body fun p0 p1 apos pos spos rest k3=>(trSs W fn.body ⟨fd.scope,vs⟩ rest).bind fun ck=>.yes fun hb hc=>.sup F ⟨h1▸hc,h2,h3.trans (congrArg Data.cell h3'),h4,h5,h6,h8▸h7,h9,h10,hb,h11,h12,h13,h14,fun x hx=>bne_iff_ne.mp (h15 x hx),h16,h17,h18,k3,h19,h20,h21⟩ ck s) q).bind fun h=>.yes (h rfl)
noncomputable def fnD (vs:List (Str×Nat))(ps:List Str)(hb:∀ vals,vals.length=ps.length→bindOf W.K (W.faddr f) vals=pure (ps.zip vals)):Dec (FnOk W f fn):=
 oSome (W.K.lookup (W.faddr f)) fun o h1=>aFunc o.data fun fd h2=>FuncBody.rec (motive:=fun b=>fd.body=b→Dec _) (fun body h3=>(fnAtD W f fn vs ps hb h1 h2 h3).bind fun F=>
  Option.rec (motive:=fun s=>fn.sup=s→Dec _) (fun s=>deq fd.closure.isEmpty true fun cl=>(trSs W fn.body ⟨fd.scope,vs⟩ body).bind fun ck=>.yes (.plain F (List.isEmpty_iff.mp cl) ck s))
   (fun g s=>supCk W f fn F s) fn.sup rfl) (fun uu uu=>.no) fd.body rfl
end
end Mini
end
section
namespace Mini
open PySem PySem.W PyProof.Rows PySem.SeqAt
section
variable (W:Wd)
noncomputable def wdD (X:W.K.In W.B)(g:W.B.Ns mainGlobals W.mg)(b:W.B.Ns builtinsNs W.mb)(nl:W.B.NoLimit)(bo:∀ x:Str,x≠"__name__"→W.mb x=bootBuiltins x)(sp:∃ vs,W.B.IsList W.scriptAt vs.toArray∧IntsAre vs W.script)(sl:W.script.length≤lenLine):Dec (WdOk W):=
 deq (W.T.strTab.take 6) (["append", "extend", "pop", "update", "get", "setdefault"]:List Str) fun c1=>
 (allD (P:=fun (q:Str×List Int)=>∃ a its n,nsIn W.K mainGlobals q.1=some (some (.ref a))∧W.K.lookup a=some { cls:=.type "tuple",data:=.seq its n }∧All2 IsInt q.2 its.toList∧q.2.length≤100) W.T.gtupTab fun q=>oSome (nsIn W.K mainGlobals q.1) fun v h=>oSome v fun v' h'=>vRef v' fun a e=>oSome (W.K.lookup a) fun o h2=>aTup o fun its n h3=>(intsD q.2 its.toList).bind fun h4=>need (decide (q.2.length≤100)) fun h5=>.yes ⟨a,its,n,e▸h'▸h,h3▸h2,h4,of_decide_eq_true h5⟩).bind fun c1b=>
 (allD (P:=fun (q:Str×Int)=>∃ t,nsIn W.K mainGlobals q.1=some (some (.int q.2 t))) W.T.globTab fun q=>oSome (nsIn W.K mainGlobals q.1) fun v h=>oSome v fun v' h'=>vInt v' fun i t e=>deq i q.2 fun e'=>.yes ⟨t,e'▸e▸h'▸h⟩).bind fun c2=>
 (allD (P:=fun f=>∀ x,W.T.fnTab[f]?=some x→nsIn W.K mainGlobals x=some (some (.ref (W.faddr f)))∧fnIn W.K (W.faddr f)=true) (List.range W.T.fnTab.length) fun f=>atD fun x=>ooIs (nsIn W.K mainGlobals x) (.ref (W.faddr f)) fun h=>need (fnIn W.K (W.faddr f)) fun h'=>.yes ⟨h,h'⟩).bind fun c3=>
 ooIs (nsIn W.K mainGlobals W.T.cname) (.ref W.C) fun c4=>ooIs (specialIn W.K (.ref W.C) "__call__") (.builtin "type.__call__") fun c5=>need (isClsIn W.K W.C) fun c6=>
 (allD (P:=fun x=>nsIn W.K mainGlobals x=some none) (["len", "abs", "list", "tuple", "sum", "isinstance", "sorted", "range", "super", "int", "bool"]:List Str) fun x=>ooNo _ .yes).bind fun c7=>
 (allD (P:=fun (p:Nat×Nat)=>∀ x,W.T.strTab[p.1]?=some x→findIn W.K (.ref W.C) x=some (some (.ref (W.faddr p.2)))∧typeIn W.K (.ref (W.faddr p.2))=some (.type "function")∧(∀ a∈W.T.attrTab,a≠p.1)∧fnIn W.K (W.faddr p.2)=true ∧
  specialIn W.K (.ref (W.faddr p.2)) "__get__"=some (some (.builtin "function.__get__"))∧takesIn W.K (.ref (W.faddr p.2))=some false∧copiedNames.contains x=false) W.P.meths fun p=>atD fun x=>
   ooIs (findIn W.K (.ref W.C) x) (.ref (W.faddr p.2)) fun h1=>oIs (typeIn W.K (.ref (W.faddr p.2))) (.type "function") fun h2=>(allD (P:=fun a=>a≠p.1) W.T.attrTab fun a=>need (a != p.1) fun h=>.yes (bne_iff_ne.mp h)).bind fun h3=>need (fnIn W.K (W.faddr p.2)) fun h4=>
   ooIs (specialIn W.K (.ref (W.faddr p.2)) "__get__") (.builtin "function.__get__") fun h5=>deq (takesIn W.K (.ref (W.faddr p.2))) (some false) fun h6=>deq (copiedNames.contains x) false fun h7=>.yes ⟨h1,h2,h3,h4,h5,h6,h7⟩).bind fun c8=>
 need (makesIn W.K W.C) fun c9=>need (keepIn W.K (.ref W.C)) fun c10=>ooIs (findIn W.K (.ref W.C) "__init__") (.ref (W.faddr W.P.init)) fun c11=>oIs (typeIn W.K (.ref (W.faddr W.P.init))) (.type "function") fun c12=>
 need (decide W.T.strTab.Nodup) fun c13=>ooIs (findIn W.K (.ref W.C) "__getattribute__") (.builtin "object.__getattribute__") fun c14=>ooNo (findIn W.K (.ref W.C) "__getattr__") fun c15=>ooIs (findIn W.K (.ref W.C) "__setattr__") (.builtin "object.__setattr__") fun c16=>
 need (plainOver W.K W.C) fun c17=>need (hasDictIn W.K W.C) fun c18=>(allD (P:=fun (a:Nat)=>∀ x,W.T.strTab[a]?=some x→findIn W.K (.ref W.C) x=some none) W.T.attrTab fun a=>atD fun x=>ooNo _ .yes).bind fun c19=>
 ooIs (nsIn W.K mainGlobals W.T.xname) (.ref W.LF) fun x1=>need (keepIn W.K (.ref W.LF)) fun x2=>need (isClsIn W.K W.LF) fun x3=>deq (mroIn W.K W.LF (.type "BaseException")) (some true) fun x4=>deq (mroIn W.K W.LF (.ref W.LF)) (some true) fun x5=>oIs (typeIn W.K (.ref W.LF)) (.type "type") fun x6=>
 .yes ⟨c1,fun x is h=>c1b _ (mem_of_look h),fun x i h=>c2 _ (mem_of_look h),fun f x h=>c3 f (List.mem_range.mpr (List.getElem?_eq_some_iff.mp h).1) x h,c4,c5,c6,c7,fun m f x h=>c8 (m,f) (mem_of_look h) x,c9,c10,c11,c12,x1,x2,x3,x4,x5,x6,X,g,b,nl,bo,sp,sl,of_decide_eq_true c13,c14,c15,c16,c17,c18,fun a x h=>c19 a h x⟩
structure FCk where
 fn:MFn
 vs:List (Str×Nat)
 ps:List Str
noncomputable def BindAll (K:Frag)(faddr:Nat→Addr)(f:Nat)(cs:List FCk):Prop:=List.rec (motive:=fun uu=>Nat→Prop) (fun uu=>True) (fun c uu ih f=>(∀ vals,vals.length=c.ps.length→bindOf K (faddr f) vals=pure (c.ps.zip vals))∧ih (f + 1)) cs f
noncomputable def bindRow (K:Frag)(faddr:Nat→Addr)(vals:List Value)(f:Nat)(cs:List FCk):List (Sem (List (Str×Value))):=List.rec (motive:=fun uu=>Nat→List (Sem (List (Str×Value)))) (fun uu=>[]) (fun c uu ih f=>bindOf K (faddr f) (vals.take c.ps.length)::ih (f + 1)) cs f
noncomputable def wantRow (vals:List Value)(cs:List FCk):List (Sem (List (Str×Value))):=cs.map fun c=>pure (c.ps.zip (vals.take c.ps.length))
theorem take5 {vals:List Value}(h:vals.length≤5):∃ a b c d e,vals=[a,b,c,d,e].take vals.length:=by
 rcases vals with _ | ⟨a,_ | ⟨b,_ | ⟨c,_ | ⟨d,_ | ⟨e,_ | ⟨g,r⟩⟩⟩⟩⟩⟩
 ·exact ⟨.none,.none,.none,.none,.none,rfl⟩
 ·exact ⟨a,.none,.none,.none,.none,rfl⟩
 ·exact ⟨a,b,.none,.none,.none,rfl⟩
 ·exact ⟨a,b,c,.none,.none,rfl⟩
 ·exact ⟨a,b,c,d,.none,rfl⟩
 ·exact ⟨a,b,c,d,e,rfl⟩
 ·exact absurd h (Nat.not_le.mpr (Nat.le_add_left 6 r.length))
theorem bindAll_of {K:Frag}{faddr:Nat→Addr}{cs:List FCk}(h3:cs.all (fun c=>Nat.ble c.ps.length 5)=true)(f:Nat)(h:∀ a b c d e,bindRow K faddr [a,b,c,d,e] f cs=wantRow [a,b,c,d,e] cs):BindAll K faddr f cs:=by
 induction cs generalizing f with
 | nil=>exact trivial
 | cons c cs ih=>
  refine ⟨fun vals e=>?_,ih (t2 h3).2 (f + 1) fun x y z t u=>(List.cons.inj (h x y z t u)).2⟩
  obtain ⟨x,y,z,t,u,q⟩:=take5 (vals:=vals) (e▸Nat.le_of_ble_eq_true (t2 h3).1)
  rw [q,e]
  exact (List.cons.inj (h x y z t u)).1
noncomputable def fnsD (cs:List FCk):(f:Nat)→BindAll W.K W.faddr f cs→Dec (∀ i c,cs[i]?=some c→FnOk W (f + i) c.fn):=
 List.rec (motive:=fun cs=>(f:Nat)→BindAll W.K W.faddr f cs→Dec (∀ i c,cs[i]?=some c→FnOk W (f + i) c.fn)) (fun uu uu=>.yes fun uu uu e=>ns e)
  (fun c uu ih f hb=>(fnD W f c.fn c.vs c.ps hb.1).bind fun h=>(ih (f + 1) hb.2).bind fun h'=>.yes fun i d e=>by
   rcases i with _ | i
   ·exact Option.some.inj e▸h
   ·rw [← Nat.add_assoc,Nat.add_right_comm]; exact h' i d e) cs
theorem fnOk_of {cs:List FCk}(hP:W.P.fns=cs.map FCk.fn)(h:∀ i c,cs[i]?=some c→FnOk W (0 + i) c.fn)(f:Nat)(fn:MFn)(e:W.P.fns[f]?=some fn):FnOk W f fn:=by
 rw [hP,List.getElem?_map] at e
 obtain ⟨c,e,r⟩:=Option.map_eq_some_iff.mp e
 exact r▸Nat.zero_add f▸h f c e
end
end Mini
end
section
set_option maxHeartbeats 1000000
namespace Mini
open PySem PySem.W PyProof.Rows PySem.SeqAt
noncomputable def makesXIn (K:Frag)(C:Addr):Bool:=match K.lookup C with
 | some ⟨_,_,.cls cd,sl⟩=>!cd.hasDel&&(sl.toList[4]?).join==some (.builtin "Exception.__new__")&&!cd.mro.isEmpty&&cd.mro.contains (.ref C)&&cd.mro.contains (.type "Exception")&&!cd.mro.contains (.type "AttributeError")&&!cd.mro.contains (.type "NameError") &&
   specialIn K (.ref C) "__call__"==some (some (.builtin "type.__call__"))&&instIn K (.ref C) (.type "type")==some true
 | _=>false
structure MakesX (M:Model)(h:Heap)(C:Addr):Prop where
 obj:∃ oc od cd sl,h.get? C=some ⟨oc,od,.cls cd,sl⟩∧cd.hasDel=false∧cd.mro.isEmpty=false
 made:Looks M h (Bind.madeBy (.ref C)) (some "Exception.__new__")
 base:Looks M h (Bind.staticBase (.ref C)) (.ref C)
 self:Looks M h (isSubtype (.ref C) (.ref C)) true
 exc:Looks M h (isSubtype (.ref C) (.type "Exception")) true
 noA:Looks M h (isSubtype (.ref C) (.type "AttributeError")) false
 noN:Looks M h (isSubtype (.ref C) (.type "NameError")) false
 call:Looks M h (specialOf (.ref C) "__call__") (some (.builtin "type.__call__"))
 typ:Looks M h (isInstance (.ref C) (.type "type")) true
theorem makesX_of {K:Frag}{M:Model}{h:Heap}(X:K.In h){C:Addr}(e:makesXIn K C=true):MakesX M h C:=by
 unfold makesXIn at e
 split at e
 ·rename_i oc od cd sl ho
  simp only [Bool.and_eq_true,Bool.not_eq_true',beq_iff_eq] at e
  obtain ⟨⟨⟨⟨⟨⟨⟨⟨e2,e3⟩,e4⟩,e5⟩,e6⟩,e6a⟩,e6n⟩,e7⟩,e8⟩:=e
  have hc:clsIn K C=some cd:=by unfold clsIn; rw [ho]
  have hm:Looks M h (mroOf (.ref C)) cd.mro:=(looks_clsIn X hc).andThen .now
  obtain ⟨c,l,hl⟩:=List.exists_cons_of_ne_nil (l:=cd.mro) fun q=>by rw [q] at e4; exact ff e4.symm
  have made:Looks M h (Bind.madeBy (.ref C)) (some "Exception.__new__"):=by
   intro A Q E s k q
   unfold Bind.madeBy
   refine wpAny_bind (hm A _ E s k ?_)
   rw [hl,List.forIn_cons]
   refine wpAny_bind (wpAny_bind (wpAny_bind (wpAny_bind (wpAny_loadPart (k _ _ (X _ _ ho)) (wpAny_pure ?_)))))
   dsimp only
   rw [← Array.getElem?_toList,e3]
   exact wpAny_pure (wpAny_pure (wpAny_pure q))
  have inM:∀ {v:Value}{b:Bool},cd.mro.contains v=b→Looks M h (isSubtype (.ref C) v) b:=fun {v b} q=>looks_mroIn X (by unfold mroIn; rw [hc,Option.bind_some,if_neg (by rw [e4]; decide),q])
  refine ⟨⟨oc,od,cd,sl,X _ _ ho,e2,e4⟩,made,?_,inM e5,inM e6,inM e6a,inM e6n,looks_specialIn X e7,looks_instIn X e8⟩
  intro A Q E s k q
  unfold Bind.staticBase
  refine wpAny_bind (hm A _ E s k ?_)
  rw [hl,List.forIn_cons]
  exact wpAny_bind (wpAny_bind (wpAny_bind (made A _ E s k (wpAny_pure (wpAny_pure (wpAny_pure q))))))
 ·exact ff e
noncomputable abbrev argsO (rest:List Value):Obj:={ cls:=.type "tuple",data:=.seq rest.toArray }
noncomputable abbrev excO (C a:Addr):Obj:={ cls:=.ref C,data:=.fields #[.ref a,.none,.none,.none,.bool false,.none] }
section
variable {prog:Program}{w:World}{A:Around}{C:Addr}{R:Result→Shared→Prop}{h:Heap}{g:Array GenState}{d:Drawn}{t:Nat}{os:OsState}
theorem newX_K {rest:List Value}(Y:MakesX (model prog w) h C)(hrest:rest.length≤sizeLine)(hq:R (.ok (.ret (.ref (h.objs.size + 1)))) ⟨(h.push (argsO rest)).push (excO C h.objs.size),g,d,t,os⟩) :
  codeAny (model prog w) A (.call (.builtin "Exception.__new__") ⟨.ref C::rest,[]⟩) R ⟨h,g,d,t,os⟩:=by
 obtain ⟨⟨oc,od,cd,sl,hC,e2,e4⟩,made,base,self,exc,noA,noN,call,typ⟩:=Y
 have F:=PySem.F.excBase_Exception
 have here:Looks (model prog w) h (Bind.madeHere "Exception.__new__" (.ref C)) ():=base.andThen (made.andThen (Looks.of_pure (by simp only [Option.map_some,bne_self_eq_false,Bool.false_eq_true,if_false])))
 have here2:Looks (model prog w) h (Bind.madeHere "BaseException.__new__" (.ref C)) ():=base.andThen (made.andThen (Looks.of_pure (by simp only [Option.map_some,F.canon,bne_self_eq_false,Bool.false_eq_true,if_false])))
 refine codeAny_call_builtin_code (Code.quiet_builtin _ F.quiet) ?_
 have hstar:=F.noStar
 simp only [checkBuiltinCall,F.newKind,F.newSplit,F.newRow]
 repeat (first | simp only [bne_self_eq_false,Bool.false_eq_true,if_false] | lk)
 have hends:=F.ends
 refine codeAny_builtinAt F.entry ?_
 unfold Builtin.«BaseException.__new__»
 refine _root_.PySem.wpAt_bind ?_
 show PySem.wpAt _ _ _ (stack>>=_) _ _ _
 refine _root_.PySem.wpAt_bind (_root_.PySem.wpAt_stack fun p below=>_root_.PySem.wpAt_of_wpAny ?_)
 wp_walk
 refine _root_.PySem.wpAt_of_wpAny ?_
 rw [F.owner]
 repeat lk
 rw [if_neg (by rw [List.size_toArray]; exact Nat.not_lt.mpr hrest)]
 unfold newObjAsIs
 repeat lk
 refine wpAny_load (Heap.get?_push_of_some _ (Heap.get?_push_of_some _ hC)) ?_
 refine wpAny_pure ?_
 rw [e2]
 refine wpAny_pure (wpAny_pure ?_)
 show R _ _
 rw [Heap.size_push]
 exact hq
theorem makeX_core {rest:List Value}{fI:Addr}(Y:MakesX (model prog w) h C)(hi:Looks (model prog w) h (typeLookup (.ref C) "__init__") (some (.ref fI)))
  (hb:∀ self,Looks (model prog w) h (bindSpecial (.ref fI) self) (.ref fI,[self]))(hrest:rest.length≤sizeLine)
  (hq:codeAny (model prog w) (A.under (.builtin "type.__call__" ⟨.ref C::rest,[]⟩)) (.call (.ref fI) ⟨.ref (h.objs.size + 1)::rest,[]⟩) (InitBack (h.objs.size + 1) R) ⟨(h.push (argsO rest)).push (excO C h.objs.size),g,d,t,os⟩) :
  codeAny (model prog w) A (.call (.ref C) ⟨rest,[]⟩) R ⟨h,g,d,t,os⟩:=by
 have Y':=Y
 obtain ⟨⟨oc,od,cd,sl,hC,e2,e4⟩,made,base,self,exc,noA,noN,call,typ⟩:=Y
 refine codeAny_of_tree ?_
 show wpAny _ _ (callAny (.ref C) _) _ _ _
 refine nd_load hC ?_
 show wpAny _ _ (callAny.viaDunder (.ref C) _) _ _ _
 unfold callAny.viaDunder
 refine wpAny_bind (call.at ?_)
 dsimp only
 rw [tc_bind]
 refine wpAny_bind (wpAny_pure (wpAny_bind (wpAny_pure ?_)))
 refine wpAny_pure (a:=PySem.Fin.again (.call (.builtin "type.__call__") ⟨.ref C::rest,[]⟩)) (And.intro rfl ?_)
 refine codeAny_call_builtin_at (Code.quiet_builtin _ (by decide +kernel)) entry_typeCall (check_slot tc_kind tc_split typ (tc_args _ _ _) ?_)
 unfold Builtin.«type.__call__»
 have hm:Looks (model prog w) h (mroOf (.ref C)) cd.mro:=((Looks.ld (part:=none) hC).andThen .now).andThen .now
 repeat (first | simp only [e4,Bool.false_eq_true,if_false] | with_reducible refine wpAny_call ?_ | lk)
 refine newX_K Y' hrest ?_
 have k:∀ b o,h.get? b=some o→((h.push (argsO rest)).push (excO C h.objs.size)).get? b=some o:=fun b o e=>Heap.get?_push_of_some _ (Heap.get?_push_of_some _ e)
 have hx:((h.push (argsO rest)).push (excO C h.objs.size)).get? (h.objs.size + 1)=some (excO C h.objs.size):=by heap_get
 have t1:Looks (model prog w) ((h.push (argsO rest)).push (excO C h.objs.size)) (typeOf (.ref (h.objs.size + 1))) (.ref C):=(Looks.ld hx).andThen .now
 have s1:=self.keeps k
 have i1:=hi.keeps k
 have b1:=(hb (.ref (h.objs.size + 1))).keeps k
 unfold isInstance callSpecial? specialOf
 repeat (first | with_reducible refine wpAny_call ?_ | lk)
 refine codeAny_mono hq fun r s' z=>?_
 rcases r with e | (v | _ | _ | _) <;> first | exact z | exact z.elim | skip
 obtain ⟨rfl,z⟩:=z
 exact wpAny_pure (wpAny_pure z)
end
end Mini
end
section
set_option maxHeartbeats 1000000
namespace Mini
open PySem PySem.W PyProof.Rows PySem.SeqAt
theorem wd_get:Slot "wrapper_descriptor" "__get__" "wrapper_descriptor.__get__":=.of (owner:="wrapper_descriptor") (n:="__get__") (by rw [typeLookup_type,builtinLookup_eq_fast]; kernel_rfl) (by decide +kernel) (by decide +kernel) (by decide +kernel)
 (by first | exact .inl (by decide +kernel) | exact .inr (by decide +kernel)) (by rw [isSubtype_type]; kernel_rfl)
theorem wd_entry:entryFor table "wrapper_descriptor.__get__"=some Builtin.«wrapper_descriptor.__get__»:=entryFor_of_tree (by kernel_rfl)
theorem wd_args (a b c:Value):argsOk "wrapper_descriptor.__get__" ⟨[a,b,c],[]⟩:=by unfold argsOk; kernel_rfl
theorem ei_type:typeOf (.builtin "Exception.__init__")=pure (.type "wrapper_descriptor"):=by kernel_rfl
theorem ei_owner : ".".intercalate ("Exception.__init__".cutAt '.').dropLast="Exception":=by decide +kernel
noncomputable abbrev superO (D x C:Addr):Obj:={ cls:=.type "super",dict:=none,data:=.fields #[.ref D,.ref x,.ref C],slots:=#[] }
noncomputable abbrev wrapO (x:Addr):Obj:={ cls:=.type "method-wrapper",data:=.fields #[.builtin "Exception.__init__",.ref x] }
section
variable {prog:Program}{w:World}{A:Around}{E:Value→Shared→Prop}{h:Heap}{g:Array GenState}{d:Drawn}{t:Nat}{os:OsState}
theorem super_ga {so D x C:Addr}{l₀ l:List Value}{K:Frag}{name:Str}{tk:Tok}{Q:PySem.Fin→Shared→Prop}
  (hso:h.get? so=some (superO D x C))(hno:Looks (model prog w) h (opaqueClassAbove (.ref C)) none)
  (hC:Looks (model prog w) h (mroOf (.ref C)) l₀)(hl:(l₀.dropWhile (· != .ref D)).drop 1=l)(X:K.In h)
  (hf:alongIn K name l=some (some (.builtin "Exception.__init__"))){ox:Obj}(hx:h.get? x=some ox)(hxc:ox.cls = .ref C)(hI:Looks (model prog w) h (isSubtype (.ref C) (.type "Exception")) true)(hxC:x≠C)(hn:(name==("__class__":Str))=false)
  (hq:Q (.done (.ret (.ref h.objs.size))) ⟨h.push (wrapO x),g,d,t,os⟩) :
  wpAny (model prog w) A (Builtin.«super.__getattribute__» ⟨[.ref so,.str name tk],[]⟩) Q E ⟨h,g,d,t,os⟩:=by
 have hlk:=wd_get.lookup
 have hty:=ei_type
 have hne:(Value.ref x==Value.ref C)=false:=by simp [hxC]
 have hTf:(⟨h,g,d,t,os⟩:Shared).TypeIs (.builtin "Exception.__init__") "wrapper_descriptor":=ei_type
 have hdt:(superO D x C).data = .fields #[.ref D,.ref x,.ref C]:=rfl
 have f0:(#[.ref D,.ref x,.ref C]:Array Value)[0]?=some (.ref D):=rfl
 have f1:(#[.ref D,.ref x,.ref C]:Array Value)[1]?=some (.ref x):=rfl
 have f2:(#[.ref D,.ref x,.ref C]:Array Value)[2]?=some (.ref C):=rfl
 unfold Builtin.«super.__getattribute__»
 repeat (first
  | (with_reducible refine wpAny_field hso hdt f0 ?_) | (with_reducible refine wpAny_field hso hdt f1 ?_) | (with_reducible refine wpAny_field hso hdt f2 ?_)
  | (with_reducible refine ks_wpAny_notOpaque hno ?_)
  | (with_reducible refine Looks.at hC ?_; rw [hl])
  | (refine ks_forIn_along X (fun uu uu=>rfl) rfl ?_ hf)
  | (with_reducible refine wpAny_of_eq hty ?_)
  | (with_reducible refine wpAny_call_entry wd_get hTf wd_entry ?_ (wd_args _ _ _))
  | (with_reducible refine ⟨_,rfl,?_⟩)
  | (simp only [hn,hne,Bool.or_false,Bool.false_eq_true,if_false])
  | wp_step
  | dsimp only)
 rw [hxc,ei_owner]
 refine Looks.at hI ?_
 repeat wp_step
 refine ⟨_,rfl,?_⟩
 repeat wp_step
 exact hq
theorem method_super {so D x C:Addr}{l₀ l:List Value}{K:Frag}{name:Str}{pl:Sem Bool}{Q:Value×List Value→Shared→Prop}
  (hso:h.get? so=some (superO D x C))(hno:Looks (model prog w) h (opaqueClassAbove (.ref C)) none)
  (hC:Looks (model prog w) h (mroOf (.ref C)) l₀)(hl:(l₀.dropWhile (· != .ref D)).drop 1=l)(X:K.In h)
  (hf:alongIn K name l=some (some (.builtin "Exception.__init__"))){ox:Obj}(hx:h.get? x=some ox)(hxc:ox.cls = .ref C)(hI:Looks (model prog w) h (isSubtype (.ref C) (.type "Exception")) true)(hxC:x≠C)(hn:(name==("__class__":Str))=false)
  (hq:Q (.ref h.objs.size,[]) ⟨h.push (wrapO x),g,d,t + 1,os⟩) :
  wpAny (model prog w) A (getMethod (.ref so) name pl) Q E ⟨h,g,d,t,os⟩:=by
 have hlk:=F.ks_slot_super_ga.lookup
 have hT:∀ t',(⟨h,g,d,t',os⟩:Shared).TypeIs (.ref so) "super":=fun uu=>⟨_,hso,rfl⟩
 unfold getMethod
 refine wpAny_bind (wpAny_specialOf (hT _) hlk ?_)
 show wpAny _ _ (if (Manifest.canonical "super.__getattribute__" != "object.__getattribute__")=true then _ else _) _ _ _
 rw [if_pos F.ks_canon_super_ga]
 unfold getAttr getAttrBy
 refine wpAny_bind (wpAny_bind (wpAny_mkText (wpAny_holding (wpAny_bind (wpAny_typeOf (hT _) (wpAny_bind (wpAny_of_eq hlk ?_)))))))
 show wpAny _ _ (getAttrByItsOwn (.ref so) (.str name t) (.type "super") (.builtin "super.__getattribute__") true false) _ _ _
 unfold getAttrByItsOwn hookBefore callGetattribute boundAndCalled
 refine wpAny_bind (wpAny_of_eq (show (if onTheHeap (.type "super") then typeLookup (.type "super") "__getattr__" else pure none)=pure none from rfl) ?_)
 refine wpAny_bind (wpAny_attempt (wpAny_holding ?_))
 show wpAny _ _ (bindSpecial (.builtin "super.__getattribute__") (.ref so)>>=_) _ _ _
 refine wpAny_bind (wpAny_of_eq (F.ks_slot_super_ga.bind _) ?_)
 refine wpAny_mono (Q:=fun v s'=>v = .ref h.objs.size∧s'=⟨h.push (wrapO x),g,d,t + 1,os⟩) (E:=fun uu uu=>False)
  (wpAny_call_entry F.ks_slot_super_ga (hT _) F.ks_entry_super_ga (super_ga hso hno hC hl X hf hx hxc hI hxC hn ⟨_,rfl,rfl,rfl⟩) (F.ks_gaArgs_super _ _)) (fun v s' hv=>?_) fun uu uu z=>z.elim
 obtain ⟨rfl,rfl⟩:=hv
 exact wpAny_pure (wpAny_pure hq)
end
end Mini
end
section
set_option maxHeartbeats 1000000
namespace Mini
open PySem PySem.W PyProof.Rows PySem.SeqAt
theorem ei_plain:plainId "Exception.__init__"=true:=by decide +kernel
section
variable {prog:Program}{w:World}{A:Around}{R:Result→Shared→Prop}{h:Heap}{g:Array GenState}{d:Drawn}{t:Nat}{os:OsState}
theorem wrap_call {mw e a:Addr}{oe:Obj}{vs:Array Value}{rest:List Value}(hmw:h.get? mw=some { cls:=.type "method-wrapper",dict:=none,data:=.fields #[.builtin "Exception.__init__",.ref e],slots:=#[] })(he:h.get? e=some oe){C:Addr}(hcl:oe.cls = .ref C){oc:Value}{od:Option Addr}{cd:ClassData}{sl:Array (Option Value)}(hC:h.get? C=some ⟨oc,od,.cls cd,sl⟩)(hd:oe.data = .fields vs)(h0:vs[0]?=some (.ref a))(hr:rest.length≤sizeLine)
  (hq:∀ h',h'.get? e=some { oe with data:=.fields (vs.setIfInBounds 0 (.ref h.objs.size)) }→(∀ y o,y≠e→h.get? y=some o→h'.get? y=some o)→R (.ok (.ret .none)) ⟨h',g,d,t,os⟩) :
  codeAny (model prog w) A (.call (.ref mw) ⟨rest,[]⟩) R ⟨h,g,d,t,os⟩:=by
 have F:=PySem.F.excBase_Exception
 obtain ⟨ecl,edi,eda,esl⟩:=oe
 dsimp only at hcl hd hq
 subst hcl hd
 refine codeAny_of_tree ?_
 show wpAny _ A.in1 (callAny (.ref mw) _) _ _ _
 unfold callAny
 refine wpAny_bind (wpAny_load hmw ?_)
 show wpAny _ _ (checkBoundCall "Exception.__init__" ⟨.ref e::rest,[]⟩>>=fun uu=>again (.builtin "Exception.__init__" ⟨.ref e::rest,[]⟩)) _ _ _
 refine wpAny_bind ?_
 have hshort:=F.noStar
 simp only [checkBoundCall,F.initRow,F.initKind]
 rw [if_pos (by decide)]
 unfold Bind.checkArgs
 repeat wp_step
 repeat wp_step
 refine wpAny_onRaise ?_
 rw [show ∀ (a b:String)(n:Nat),Bind.check ⟨.positional, "*", "Exception",.self,[⟨"args",.varPos,false⟩]⟩ a b n (List.map (fun x=>x.fst) ({ pos:=Value.ref e::rest }:Args).kw)=pure () from fun a b n=>check_star_args _ _ _ _ _ _]
 refine wpAny_pure (wpAny_pure ⟨plainId_quiet ei_plain _,codeAny_builtin F.initEntry ?_⟩)
 rw [Around.under_plainId ei_plain _]
 unfold Builtin.«BaseException.__init__» Builtin.BaseException.bexcPut
 have he1:(h.push (argsO rest)).get? e=some { cls:=.ref C,dict:=edi,data:=.fields vs,slots:=esl }:=Heap.get?_push_of_some _ he
 have hs:0<vs.size:=(Array.getElem?_eq_some_iff.mp h0).1
 repeat (first | (with_reducible refine wpAny_field he1 rfl h0 ?_) | (with_reducible refine wpAny_setField_rec he1 hs fun h2 e2 s2=>?_) | (with_reducible refine wpAny_letGo ?_) | wp_step)
 exact hq _ (Heap.get?_update_self _ he1 rfl) fun y o hy ey=>((Heap.SameBut.update ..).2 y hy).trans (Heap.get?_push_of_some _ ey)
end
end Mini
end
section
set_option maxHeartbeats 1000000
namespace Mini
open PySem PySem.W PyProof.Rows PySem.SeqAt Builtin.ObjectAttr
section
variable {prog:Program}{w:World}{A:Around}{E:Value→Shared→Prop}{K:Frag}{C e:Addr}{h:Heap}{g:Array GenState}{d:Drawn}{t:Nat}{os:OsState}
theorem set_exc {D:Addr}{cd:ClassData}{vs:Array Value}{name:Str}{v:Value}{Q:Unit→Shared→Prop}(X:K.In h)(he:h.get? e=some { cls:=.ref C,dict:=none,data:=.fields vs,slots:=#[] })(hc:clsIn K C=some cd)
  (hm:cd.mro=[.ref C,.ref D,.type "Exception",.type "BaseException",.type "object"])(hh:cd.hasDict=true)(hs:findIn K (.ref C) "__setattr__"=some (some (.builtin "object.__setattr__")))(ha:findIn K (.ref C) name=some none)
  (hq:∀ h' t' dx,h'.get? e=some { cls:=.ref C,dict:=some dx,data:=.fields vs,slots:=#[] }→(∀ b o,b≠e→h.get? b=some o→h'.get? b=some o)→Q () ⟨h',g,d,t',os⟩) :
  wpAny (model prog w) A (setAttr (.ref e) name v) Q E ⟨h,g,d,t,os⟩:=by
 have SF:=PySem.F.store_Exception
 have I:InstAt h e { cls:=.ref C,dict:=none,data:=.fields vs,slots:=#[] } C none:=⟨he,rfl,rfl,trivial⟩
 refine set_plain (s:=⟨h,g,d,t,os⟩) X I hs ?_
 have lm:Looks (model prog w) h (mroOf (.ref C)) cd.mro:=(looks_clsIn X hc).andThen .now
 have sub:Looks (model prog w) h (isInstance (.ref e) (.type "object")) true:=I.type.andThen (looks_mroIn X (by unfold mroIn; rw [hc,Option.bind_some,hm]; rfl))
 refine codeAny_call_builtin SF.slot.plain SF.entry (@check_slot (model prog w) _ _ _ "object.__setattr__" "object" "__setattr__" (.ref e) [.str name t,v] [] _ SF.kind SF.split sub (SF.args (.ref e) (.str name t) v) ?_)
 rw [osa_eq,refuse_eq]
 refine wpAny_bind (wpAny_bind (I.type.at (wpAny_bind (lm.at ?_))))
 rw [hm,refuseLoop_ref,refuseLoop_ref,SF.passes]
 refine wpAny_pure (wpAny_bind (I.type.at (wpAny_bind ((looks_findIn X ha).at (wpAny_bind (wpAny_pure ?_))))))
 show wpAny _ _ (storeInOwnDict (.ref e) (.ref C) (.str name t) name v false) _ _ _
 unfold storeInOwnDict
 refine wpAny_bind (wpAny_pure (wpAny_bind ?_))
 show wpAny _ _ (ownDictForStores (.ref e)) _ _ _
 unfold ownDictForStores instanceDict
 refine wpAny_bind (wpAny_loadPart_at he ?_)
 have hld:=looks_clsIn (M:=model prog w) X hc
 have ne:e≠h.objs.size:=Nat.ne_of_lt (Heap.lt_size he)
 have he1:(h.push emptyDict).get? e=some { cls:=.ref C,dict:=none,data:=.fields vs,slots:=#[] }:=Heap.get?_push_of_some _ he
 refine wpAny_bind (hld.at ?_)
 rw [hh]
 refine wpAny_bind (wpAny_alloc' ?_)
 refine wpAny_bind (wpAny_update' he1 ?_)
 refine wpAny_pure ?_
 have hgd:((h.push emptyDict).update e fun o=>{ cls:=o.cls,dict:=some h.objs.size,data:=o.data,slots:=o.slots }).get? h.objs.size=some emptyDict:=(Heap.get?_update_ne _ _ _ _ ne.symm).trans (Heap.get?_push_at rfl rfl)
 have hnd:((h.push emptyDict).update e fun o=>{ cls:=o.cls,dict:=some h.objs.size,data:=o.data,slots:=o.slots }).Ns h.objs.size (fun uu=>none):=⟨_,#[],_,hgd,rfl,fun e he=>absurd he (by simp),fun uu=>rfl⟩
 show wpAny _ _ (storeInDict h.objs.size (.str name t) name v) _ _ _
 unfold storeInDict newKeyGuard
 refine wpAny_bind (wpAny_pure (wpAny_bind (wpAny_nsSet1 (Heap.Ns1.of_empty hnd) fun h' hn' hs=>?_)))
 obtain ⟨oD,esD,epD,hoD,hdD,hcD⟩:=hn'.count (Within.cons name v Within.nil)
 refine wpAny_bind (wpAny_lookBehind hoD (by rw [hdD]; exact pastItsLine_dict (Nat.le_trans hcD (by rw [List.length_cons,List.length_nil,sizeLine_eq]; lia))) ?_)
 refine wpAny_pure ?_
 refine hq h' _ h.objs.size ((hs.2 e ne).trans (Heap.get?_update_self _ he1 rfl)) fun b ob hbx hb=>?_
 exact (hs.2 b (Nat.ne_of_lt (Heap.lt_size hb))).trans ((Heap.get?_update_ne _ _ _ _ hbx).trans (Heap.get?_push_of_some _ hb))
end
end Mini
end
section
set_option maxHeartbeats 2000000
namespace Mini
open PySem PySem.W PyProof.Rows PySem.SeqAt
structure MkI (W:Wd)(FI D cc cda:Addr)(o:Obj)(fd:FuncData)(occ oc:Obj)(kvs:Array Value)(file:Str)(tf:Tok)(p0 p1 apos pos spos pw ps pt pv pa:Pos)(ar:Arg)(cd cD:ClassData):Prop where
 at_:W.K.lookup FI=some o
 data:o.data = .func fd
 bodyAt:fd.body = .stmts [.Expr (.Call (.Attribute (.Call (.Name "super" p0) [] [] p1) "__init__" apos) [.Name "what" pw] [] pos) spos,.Assign [.Attribute (.Name "self" ps) "what" pt] (.Name "what" pv) pa]
 code:codeIn W.K fd.code fd.qualname=true
 globals:fd.globals=mainGlobals
 builtins:fd.builtins=builtinsNs
 kind:fd.scope.kind = .function
 noCo:fd.scope.isCoroutine=false
 noGen:fd.scope.isGenerator=false
 bind:∀ vals:List Value,vals.length=2→bindArgs fd ⟨vals,[]⟩=pure ((["self", "what"]:List Str).zip vals)
 closure:fd.closure=[(("__class__":Str),cc)]
 ccAt:W.K.lookup cc=some occ
 ccIs:occ.data = .cell (some (.ref D))
 codeIs:fd.code = .ref cda
 cdAt:W.K.lookup cda=some oc
 cdIs:oc.data = .fields kvs
 file2:kvs[2]?=some (.str file tf)
 fileOk:((W.prog.main.file:Str)==file)=true
 noSuper:(W.prog.main.scope.names.lookup ("super":Str)).isSome=false
 first:(fd.params.posonlyargs++fd.params.args).head?=some ar
 first0:ar.arg="self"
 kSelf:fd.scope.names.lookup ("self":Str)=some .local
 kWhat:fd.scope.names.lookup ("what":Str)=some .local
 kSuper:fd.scope.names.lookup ("super":Str)=some .globalImplicit
 kClass:fd.scope.names.lookup ("__class__":Str)=some .free
 noCell:∀ x∈fd.scope.names,x.2≠.cell
 line:(apos.endLine==pos.line)=true
 plainWorld:nsIn W.K cStatics "thirdparty.any"=some none
 cls:clsIn W.K W.LF=some cd
 mro:cd.mro=[.ref W.LF,.ref D,.type "Exception",.type "BaseException",.type "object"]
 neD:W.LF≠D
 has:cd.hasDict=true
 dcls:clsIn W.K D=some cD
 sub:mroIn W.K W.LF (.ref D)=some true
 exc:mroIn W.K W.LF (.type "Exception")=some true
 up:alongIn W.K "__init__" [.type "Exception",.type "BaseException",.type "object"]=some (some (.builtin "Exception.__init__"))
 sa:findIn W.K (.ref W.LF) "__setattr__"=some (some (.builtin "object.__setattr__"))
 ga:findIn W.K (.ref W.LF) "what"=some none
theorem clsAt {K:Frag}{h:Heap}{C:Addr}{cd:ClassData}(X:K.In h)(e:clsIn K C=some cd):∃ oc od sl,h.get? C=some ⟨oc,od,.cls cd,sl⟩:=by
 unfold clsIn at e
 split at e
 ·rename_i ho
  exact ⟨_,_,_,(X _ _ ho).trans (by rw [Option.some.inj e])⟩
 ·exact ns e
section
variable {W:Wd}{FI D cc cda:Addr}{o:Obj}{fd:FuncData}{occ oc:Obj}{kvs:Array Value}{file:Str}{tf:Tok}{p0 p1 apos pos spos pw ps pt pv pa:Pos}{ar:Arg}{cd cD:ClassData}{A:Around}{h:Heap}{g:Array GenState}{d:Drawn}{t:Nat}{os:OsState}{R:Result→Shared→Prop}
theorem look_name {env:Env}{x:Str}{q:Pos}{s:Shared}{m:Str→Option Value}{v:Value}{P:Value→Shared→Prop}{E:Value→Shared→Prop}(hk:env.scope.kind = .function)(hl:env.kindOf x=some .local)(hn:s.heap.Ns env.locals m)(hv:m x=some v)(q':P v s)(hd:(x==("__debug__":Str))=false):wpAny W.M A (eval (.Name x q) env) P E s:=
 wpAny_Name (wpAny_loadName_local hk hl hn hv q') hd
theorem drop_mro {a b:Addr}{r:List Value}(n:a≠b):((Value.ref a::Value.ref b::r).dropWhile (· != Value.ref b)).drop 1=r:=by
 rw [List.dropWhile_cons_of_pos (p:=fun x=>x != Value.ref b) (bne_iff_ne.mpr fun q=>n (Value.ref.inj q)),List.dropWhile_cons_of_neg (p:=fun x=>x != Value.ref b) (by simp)]
 rfl
theorem init_walk (K:WdOk W)(Y:MkI W FI D cc cda o fd occ oc kvs file tf p0 p1 apos pos spos pw ps pt pv pa ar cd cD){e a:Addr}{x:Str}{tk:Tok}{vs:Array Value}(kp:Ext W.B h)(hA:A.depth<recursionLimit)(he:h.get? e=some { cls:=.ref W.LF,dict:=none,data:=.fields vs,slots:=#[] })(hB:W.B.get? e=none)
  (h0:vs[0]?=some (.ref a))(hq:∀ h' t' dx b,h'.get? e=some { cls:=.ref W.LF,dict:=some dx,data:=.fields (vs.setIfInBounds 0 (.ref b)),slots:=#[] }→(∀ y o,y≠e→h.get? y=some o→h'.get? y=some o)→R (.ok (.ret .none)) ⟨h',g,d,t',os⟩) :
  codeAny W.M A (.call (.ref FI) ⟨[.ref e,.str x tk],[]⟩) R ⟨h,g,d,t,os⟩:=by
 have inK:∀ {h':Heap},Ext W.B h'→W.K.In h':=fun k a o e=>k _ _ (K.X a o e)
 have X0:=inK kp
 have hb:BindsTo ⟨h,g,d,t,os⟩ fd ⟨[.ref e,.str x tk],[]⟩ [("self",.ref e),("what",.str x tk)]:=fun M A Q E h=>by rw [Y.bind [.ref e,.str x tk] rfl]; exact wpAny_pure h
 refine ks_codeAny_call_defAt (o:=o) (fd:=fd) hA (X0 _ _ Y.at_) Y.data (K.nolimit.keeps kp) (codeRec_of X0 Y.code) Y.bodyAt hb Y.noCell (fun y hy=>?_) (fun h₁ hns kp1=>?_) Y.noCo Y.noGen Y.kind
 ·rcases List.mem_cons.mp hy with q | q
  ·rw [q]; exact Y.kSelf
  ·rw [List.mem_singleton.mp q]; exact Y.kWhat
 have kp1:Ext h h₁:=kp1
 have k1:Ext W.B h₁:=Ext.trans kp kp1
 have X1:=inK k1
 have e5:(callEnv fd h.objs.size FI).cells=[(("__class__":Str),cc)]:=Y.closure
 have e7:(callEnv fd h.objs.size FI).code = .ref cda:=Y.codeIs
 have env6:(callEnv fd h.objs.size FI).func=some FI:=rfl
 have kd:(callEnv fd h.objs.size FI).scope.kind = .function:=Y.kind
 obtain ⟨uc,ud,ul,hD1⟩:=clsAt X1 Y.dcls
 have he1:=kp1 _ _ he
 have ne:e≠W.LF:=fun q=>by
  obtain ⟨_,_,_,z⟩:=clsAt K.X Y.cls
  rw [q] at hB
  exact ns (hB.symm.trans z)
 refine ks_wpAt_execs_cons (ks_wpAt_Expr_any ?_ (by unfold interactive; rw [kd]; rfl) rfl)
 rw [arm_eval_Call]
 refine _root_.PySem.wpAt_bind (ks_wpAt_super_base (f:=FI) (cc:=cda) Y.kSuper Y.kClass (by decide) env6 (X1 _ _ Y.at_) Y.data Y.first e7 (X1 _ _ Y.cdAt) Y.cdIs Y.file2 Y.fileOk Y.noSuper ?_)
 refine ks_loadName_global kd Y.kSuper (Calls.loadGlobal_builtin (mg:=W.mg) (mb:=W.mb) (by rw [show (callEnv fd h.objs.size FI).globals=mainGlobals from Y.globals]; exact K.g.keeps k1) (mg_none_of K.X K.g (K.noBuiltin "super" (by simp))) (by rw [show (callEnv fd h.objs.size FI).builtins=builtinsNs from Y.builtins]; exact K.b.keeps k1) ((K.boots "super" (by decide)).trans boot_super) ⟨rfl,?_⟩)
 refine wpAny_loadName_free kd Y.kClass (by rw [e5]; rfl) ⟨_,X1 _ _ Y.ccAt,Y.ccIs⟩ ?_
 rw [Y.first0]
 refine wpAny_loadName_local kd Y.kSelf hns (v:=.ref e) rfl ?_
 refine ks_wpAny_isType_cls hD1 rfl ⟨rfl,?_⟩
 refine ks_wpAny_call_super hD1 rfl he1 rfl (fun c q=>by cases q) (looks_mroIn X1 Y.sub) (fun h2 g2 k2=>?_)
 have k2:Ext h₁ h2:=k2
 have X2:=inK (Ext.trans k1 k2)
 have he2:=k2 _ _ he1
 have lm:Looks W.M h2 (mroOf (.ref W.LF)) cd.mro:=(looks_clsIn X2 Y.cls).andThen .now
 refine _root_.PySem.wpAt_of_wpAny (wpAny_bind (wpAny_standAt ?_))
 have k3:Ext h₁ (h2.push (wrapO e)):=Ext.trans k2 (.push _ _)
 have X3:=inK (Ext.trans k1 k3)
 have he3:=k3 _ _ he1
 obtain ⟨vc,vd,vl,hC3⟩:=clsAt X3 Y.cls
 have neL:e≠h.objs.size:=Nat.ne_of_lt (Heap.lt_size he)
 have hmw:(h2.push (wrapO e)).get? h2.objs.size=some (wrapO e):=Heap.get?_push_size _ rfl
 refine method_call (s':=⟨h2.push (wrapO e),g,d,t + 2 + 1,os⟩) (f:=.ref h2.objs.size) (first:=[]) rfl (Nat.le_of_ble_eq_true rfl) Y.line
  (fun R' pl q=>method_super g2 (looks_opaque X2 Y.plainWorld) lm (l:=[.type "Exception",.type "BaseException",.type "object"]) (by rw [Y.mro,drop_mro Y.neD]) X2 Y.up he2 rfl (looks_mroIn X2 Y.exc) ne (by decide) q) ?_
 refine callWith_of (P:=fun hh=>hh.get? h2.objs.size=some (wrapO e)) rfl (fun hh Hp=>⟨.machine,.inr (.inl rfl),(Looks.ld (part:=none) Hp).andThen .now⟩)
  (Calls.evalArgs_plain (Calls.spliced_cons (look_name (v:=.str x tk) kd Y.kWhat (hns.keeps k3) rfl (Calls.spliced_nil ⟨hmw,wpAny_call (wrap_call hmw he3 rfl hC3 rfl h0 (Nat.le_of_ble_eq_true rfl) fun h4 he4 k4=>?_)⟩) (by decide))))
 have X4:W.K.In h4:=fun y ob ey=>k4 y ob (fun q=>by rw [q] at ey; exact ns (hB.symm.trans (K.X _ _ ey))) (X3 _ _ ey)
 have hns4:h4.Ns h.objs.size _:=ns_keep hns fun ob q=>⟨ob.slots,k4 _ _ neL.symm (k3 _ _ q)⟩
 refine ks_wpAt_execs_cons (ks_wpAt_Assign_Attr (_root_.PySem.wpAt_of_wpAny (look_name (v:=.str x tk) kd Y.kWhat hns4 rfl (look_name (v:=.ref e) kd Y.kSelf hns4 rfl (set_exc X4 he4 Y.cls Y.mro Y.has Y.sa Y.ga fun h5 t5 dx he5 k5=>?_) (by decide)) (by decide))) rfl)
 refine _root_.PySem.wpAt_of_wpAny (wpAny_pure ?_)
 refine hq h5 t5 dx _ he5 fun y ob hy ey=>k5 _ _ hy (k4 _ _ hy (k3 _ _ (kp1 _ _ ey)))
end
end Mini
end
section
set_option maxHeartbeats 2000000
namespace Mini
open PySem PySem.W PyProof.Rows PySem.SeqAt
inductive MkF (W:Wd):Prop
 | mk {FI D cc cda:Addr}{o:Obj}{fd:FuncData}{occ oc:Obj}{kvs:Array Value}{file:Str}{tf:Tok}{p0 p1 apos pos spos pw ps pt pv pa:Pos}{ar:Arg}{cd cD:ClassData}(mx:makesXIn W.K W.LF=true)(init:findIn W.K (.ref W.LF) "__init__"=some (some (.ref FI)))(fty:typeIn W.K (.ref FI)=some (.type "function"))
  (Y:MkI W FI D cc cda o fd occ oc kvs file tf p0 p1 apos pos spos pw ps pt pv pa ar cd cD):MkF W
theorem make_ok {W:Wd}(K:WdOk W)(F:MkF W):MakeOk W:=fun A c x tk h1 h2 h3 h4=>by
 induction F with
 | @mk FI D cc cda o fd occ oc kvs file tf p0 p1 apos pos spos pw ps pt pv pa ar cd cD mx init fty Y=>
 have X:=c.X K
 have ab:Above c.h (c.h.objs.size + 1):=above_size _ (Nat.le_succ _)
 have up:Ext c.h ((c.h.push (argsO [.str x tk])).push (excO W.LF c.h.objs.size)):=Ext.trans (.push _ _) (.push _ _)
 have he:((c.h.push (argsO [.str x tk])).push (excO W.LF c.h.objs.size)).get? (c.h.objs.size + 1)=some (excO W.LF c.h.objs.size):=by heap_get
 refine wpAny_call (makeX_core (makesX_of X mx) (looks_findIn X init) (fun self=>bind_fn X self fty) (Nat.le_of_ble_eq_true rfl) ?_)
 refine init_walk K Y (Ext.trans c.sim.base up) ?_ he ?_ rfl fun h' t' dx b he' k'=>?_
 ·show A.depth + 1<recursionLimit
  exact Nat.lt_of_le_of_lt (Nat.succ_le_succ h2) (by simp [recursionLimit])
 ·cases q:W.B.get? (c.h.objs.size + 1) with
  | none=>rfl
  | some z=>exact (ab.no (c.sim.base _ _ q)).elim
 ·have kp:Ext c.h h':=fun y ob ey=>k' y ob (fun q=>ab.no (q▸ey)) (up y ob ey)
  refine ⟨rfl,MadeX.mk (c':=c.grow t' kp) (later_grow kp) rfl (.raw he' rfl rfl rfl ⟨fun q=>?_,ab⟩)⟩
  induction c.sim.live _ q with
  | mk z _=>exact ab.no z
end Mini
end
section
namespace Mini
open PySem PySem.W PyProof.Rows PySem.SeqAt
noncomputable def iniLine {G:Prop}(body:List Stmt)(d:∀ p0 p1 apos pos spos pw ps pt pv pa,(apos.endLine==pos.line)=true→Dec (body=[.Expr (.Call (.Attribute (.Call (.Name "super" p0) [] [] p1) "__init__" apos) [.Name "what" pw] [] pos) spos,.Assign [.Attribute (.Name "self" ps) "what" pt] (.Name "what" pv) pa]→G)):Dec G:=
 (dCons (L:=fun b=>body=b→G) (l:=body) fun st rest=>sExpr (P:=fun st=>body=st::rest→G) fun e spos=>dCall (P:=fun e=>body = .Expr e spos::rest→G) fun g' as ks pos=>dAttr (P:=fun g'=>body = .Expr (.Call g' as ks pos) spos::rest→G) fun b nm apos=>
   dCall (P:=fun b=>body = .Expr (.Call (.Attribute b nm apos) as ks pos) spos::rest→G) fun sn as' ks' p1=>dNm (P:=fun sn=>body = .Expr (.Call (.Attribute (.Call sn as' ks' p1) nm apos) as ks pos) spos::rest→G) fun id p0=>
   dOne (L:=fun as=>body = .Expr (.Call (.Attribute (.Call (.Name id p0) as' ks' p1) nm apos) as ks pos) spos::rest→G) fun a1=>dNil (L:=fun ks=>body = .Expr (.Call (.Attribute (.Call (.Name id p0) as' ks' p1) nm apos) [a1] ks pos) spos::rest→G) <|
   dNil (L:=fun as'=>body = .Expr (.Call (.Attribute (.Call (.Name id p0) as' ks' p1) nm apos) [a1] [] pos) spos::rest→G) <| dNil (L:=fun ks'=>body = .Expr (.Call (.Attribute (.Call (.Name id p0) [] ks' p1) nm apos) [a1] [] pos) spos::rest→G) <|
   dNm (P:=fun a1=>body = .Expr (.Call (.Attribute (.Call (.Name id p0) [] [] p1) nm apos) [a1] [] pos) spos::rest→G) fun wid pw=>dOne (L:=fun rest=>body = .Expr (.Call (.Attribute (.Call (.Name id p0) [] [] p1) nm apos) [.Name wid pw] [] pos) spos::rest→G) fun s2=>
   sAsg (P:=fun s2=>body=[.Expr (.Call (.Attribute (.Call (.Name id p0) [] [] p1) nm apos) [.Name wid pw] [] pos) spos,s2]→G) fun ts v pa=>dOne (L:=fun ts=>body=[.Expr (.Call (.Attribute (.Call (.Name id p0) [] [] p1) nm apos) [.Name wid pw] [] pos) spos,.Assign ts v pa]→G) fun tg=>
   dAttr (P:=fun tg=>body=[.Expr (.Call (.Attribute (.Call (.Name id p0) [] [] p1) nm apos) [.Name wid pw] [] pos) spos,.Assign [tg] v pa]→G) fun b2 nm2 pt=>dNm (P:=fun b2=>body=[.Expr (.Call (.Attribute (.Call (.Name id p0) [] [] p1) nm apos) [.Name wid pw] [] pos) spos,.Assign [.Attribute b2 nm2 pt] v pa]→G) fun sid ps=>
   dNm (P:=fun v=>body=[.Expr (.Call (.Attribute (.Call (.Name id p0) [] [] p1) nm apos) [.Name wid pw] [] pos) spos,.Assign [.Attribute (.Name sid ps) nm2 pt] v pa]→G) fun vid pv=>
   deq id "super" fun k1=>deq nm "__init__" fun k2=>deq wid "what" fun k4=>deq nm2 "what" fun k5=>deq sid "self" fun k6=>deq vid "what" fun k7=>need (apos.endLine==pos.line) fun k3=>by subst k1 k2 k4 k5 k6 k7; exact d p0 p1 apos pos spos pw ps pt pv pa k3).bind fun h=>.yes (h rfl)
theorem bind2 {K:Frag}{a:Addr}{n m:Str}(h:∀ x y,bindOf K a [x,y]=pure [(n,x),(m,y)])(vals:List Value)(l:vals.length=2):bindOf K a vals=pure (([n,m]:List Str).zip vals):=by
 rcases vals with _ | ⟨x,_ | ⟨y,_ | ⟨z,r⟩⟩⟩
 ·exact absurd l (by decide)
 ·exact absurd l (by simp)
 ·exact h x y
 ·exact absurd l (by simp)
noncomputable def mkD (W:Wd)(FI:Addr)(hb:∀ vals:List Value,vals.length=2→bindOf W.K FI vals=pure ((["self", "what"]:List Str).zip vals)):Dec (MkF W):=
 need (makesXIn W.K W.LF) fun m1=>ooIs (findIn W.K (.ref W.LF) "__init__") (.ref FI) fun m2=>oIs (typeIn W.K (.ref FI)) (.type "function") fun m3=>
 oSome (W.K.lookup FI) fun o h1=>aFunc o.data fun fd h2=>FuncBody.rec (motive:=fun b=>fd.body=b→Dec _) (fun body h3=>
  need (codeIn W.K fd.code fd.qualname) fun c1=>deq fd.globals mainGlobals fun c2=>deq fd.builtins builtinsNs fun c3=>need (fd.scope.kind==.function) fun c4=>deq fd.scope.isCoroutine false fun c5=>deq fd.scope.isGenerator false fun c6=>
  (dOne (L:=fun c=>fd.closure=c→MkF W) (l:=fd.closure) fun q=>Prod.rec (motive:=fun q=>Dec (fd.closure=[q]→MkF W)) (fun n cc=>deq n "__class__" fun g1=>
  oSome (W.K.lookup cc) fun occ g2=>aCell occ.data fun cv g3=>oSome cv fun v g3a=>vRef v fun D g3b=>vRef fd.code fun cda g4=>oSome (W.K.lookup cda) fun oc g5=>aFields oc.data fun kvs g6=>oSome kvs[2]? fun fv g7=>vStr fv fun file tf g8=>
  need ((W.prog.main.file:Str)==file) fun g9=>deq (W.prog.main.scope.names.lookup ("super":Str)).isSome false fun g10=>oSome (fd.params.posonlyargs++fd.params.args).head? fun ar g11=>deq ar.arg "self" fun g12=>
  kIs (fd.scope.names.lookup ("self":Str)) .local fun g12a=>kIs (fd.scope.names.lookup ("what":Str)) .local fun g12b=>kIs (fd.scope.names.lookup ("super":Str)) .globalImplicit fun g13=>kIs (fd.scope.names.lookup ("__class__":Str)) .free fun g14=>
  (allD (P:=fun x=>(x.2 != NameKind.cell)=true) fd.scope.names fun x=>need _ .yes).bind fun g15=>ooNo (nsIn W.K cStatics "thirdparty.any") fun g21=>
  oSome (clsIn W.K W.LF) fun cd g16=>deq cd.mro [.ref W.LF,.ref D,.type "Exception",.type "BaseException",.type "object"] fun g17=>need (W.LF != D) fun g17a=>deq cd.hasDict true fun g18=>oSome (clsIn W.K D) fun cD g19=>deq (mroIn W.K W.LF (.ref D)) (some true) fun g20=>deq (mroIn W.K W.LF (.type "Exception")) (some true) fun g20a=>
  ooIs (alongIn W.K "__init__" [.type "Exception",.type "BaseException",.type "object"]) (.builtin "Exception.__init__") fun g22=>ooIs (findIn W.K (.ref W.LF) "__setattr__") (.builtin "object.__setattr__") fun g23=>ooNo (findIn W.K (.ref W.LF) "what") fun g24=>
  iniLine body fun p0 p1 apos pos spos pw ps pt pv pa k3=>.yes fun hbd hc=>.mk m1 m2 m3 ⟨h1,h2,h3.trans (congrArg FuncBody.stmts hbd),c1,c2,c3,eq_of_beq c4,c5,c6,fun vals h=>(bindOf_eq h1 h2).symm.trans (hb vals h),g1▸hc,g2,g3.trans (congrArg Data.cell (g3a.trans (congrArg some g3b))),g4,g5,g6,g8▸g7,g9,g10,g11,g12,g12a,g12b,g13,g14,fun x hx=>bne_iff_ne.mp (g15 x hx),k3,g21,g16,g17,bne_iff_ne.mp g17a,g18,g19,g20,g20a,g22,g23,g24⟩) q).bind fun h=>.yes (h rfl)) (fun uu uu=>.no) fd.body rfl
end Mini
end
section
namespace Mini.C
open PySem Mini
noncomputable def f_ordered:MFn:=⟨1,none,
  (.cons (.assign (.var 1) .dict0)
  (.cons (.for 2 (.var 0) (.cons (.ite (.cmp .isin (.neg (.var 2)) (.var 1)) (.cons (.ret .none)
  .nil) .nil)
  (.cons (.assign (.sub (.var 1) (.var 2)) (.bool true))
  .nil)))
  (.cons (.ret (.callB .tuple (.cons (.sortAbs (.var 1)) .nil)))
  .nil)))⟩
noncomputable def v_ordered:List (Str×Nat):=[(Str.ofString "literals",0),(Str.ofString "found",1),(Str.ofString "one",2)]
noncomputable def f_Values___init__:MFn:=⟨1,none,
  (.cons (.assign (.attr (.var 0) 18) .dict0)
  (.cons (.assign (.attr (.var 0) 9) .dict0)
  (.cons (.assign (.attr (.var 0) 19) .dict0)
  (.cons (.assign (.attr (.var 0) 8) (.list .nil))
  (.cons (.assign (.attr (.var 0) 7) (.list .nil))
  (.cons (.assign (.attr (.var 0) 20) (.int 0))
  (.cons (.assign (.attr (.var 0) 21) .dict0)
  .nil)))))))⟩
noncomputable def v_Values___init__:List (Str×Nat):=[(Str.ofString "self",0)]
noncomputable def f_Values_says:MFn:=⟨2,none,
  (.cons (.assign (.var 2) (.callM (.attr (.var 0) 18) 4 (.cons (.callB .abs (.cons (.var 1) .nil)) .nil)))
  (.cons (.ret (.ite (.cmp .is (.var 2) .none) .none (.cmp .eq (.var 2) (.cmp .gt (.var 1) (.int 0)))))
  .nil))⟩
noncomputable def v_Values_says:List (Str×Nat):=[(Str.ofString "self",0),(Str.ofString "literal",1),(Str.ofString "truth",2)]
noncomputable def f_Values_let:MFn:=⟨3,none,
  (.cons (.assign (.var 3) (.callB .abs (.cons (.var 1) .nil)))
  (.cons (.assign (.sub (.attr (.var 0) 18) (.var 3)) (.cmp .gt (.var 1) (.int 0)))
  (.cons (.assign (.sub (.attr (.var 0) 9) (.var 3)) (.callB .len (.cons (.attr (.var 0) 7) .nil)))
  (.cons (.assign (.sub (.attr (.var 0) 19) (.var 3)) (.var 2))
  (.cons (.expr (.callM (.attr (.var 0) 8) 0 (.cons (.var 1) .nil)))
  .nil)))))⟩
noncomputable def v_Values_let:List (Str×Nat):=[(Str.ofString "self",0),(Str.ofString "literal",1),(Str.ofString "cause",2),(Str.ofString "v",3)]
noncomputable def f_Values_back_to:MFn:=⟨2,none,
  (.cons (.ite (.cmp .lt (.var 1) (.callB .len (.cons (.attr (.var 0) 7) .nil))) (.cons (.while (.cmp .gt (.callB .len (.cons (.attr (.var 0) 8) .nil)) (.sub (.attr (.var 0) 7) (.var 1))) (.cons (.assign (.var 2) (.callB .abs (.cons (.callM (.attr (.var 0) 8) 2 .nil) .nil)))
  (.cons (.assign (.sub (.attr (.var 0) 21) (.var 2)) (.callM (.attr (.var 0) 18) 2 (.cons (.var 2) .nil)))
  .nil)))
  (.cons (.assign (.attr (.var 0) 7) (.sliceTo (.attr (.var 0) 7) (.var 1)))
  (.cons (.assign (.attr (.var 0) 20) (.callB .len (.cons (.attr (.var 0) 8) .nil)))
  .nil))) .nil)
  .nil)⟩
noncomputable def v_Values_back_to:List (Str×Nat):=[(Str.ofString "self",0),(Str.ofString "height",1),(Str.ofString "v",2)]
noncomputable def f_Search___init__:MFn:=⟨3,none,
  (.cons (.assign (.attr (.var 0) 22) (.list .nil))
  (.cons (.assign (.attr (.var 0) 23) .dict0)
  (.cons (.assign (.attr (.var 0) 24) (.dcomp (.var 4) (.int 0) 4 (.callB .range2 (.cons (.int 1) (.cons (.bin .add (.var 2) (.int 1)) .nil)))))
  (.cons (.assign (.attr (.var 0) 25) (.int 1))
  (.cons (.assign (.attr (.var 0) 11) (.list .nil))
  (.cons (.assign (.attr (.var 0) 13) (.bool false))
  (.cons (.assign (.attr (.var 0) 26) (.tup .nil))
  (.cons (.assign (.attr (.var 0) 10) (.int 0))
  (.cons (.assign (.attr (.var 0) 27) (.int 0))
  (.cons (.for 3 (.var 1) (.cons (.expr (.callM (.var 0) 28 (.cons (.var 3) .nil)))
  .nil))
  .nil))))))))))⟩
noncomputable def v_Search___init__:List (Str×Nat):=[(Str.ofString "self",0),(Str.ofString "clauses",1),(Str.ofString "many",2),(Str.ofString "clause",3)]
noncomputable def f_Search_add_clause:MFn:=⟨2,none,
  (.cons (.expr (.callM (.var 0) 29 (.cons (.int 0) .nil)))
  (.cons (.assign (.var 2) (.callF 0 (.cons (.var 1) .nil)))
  (.cons (.for 3 (.var 1) (.cons (.expr (.callM (.attr (.var 0) 24) 5 (.cons (.callB .abs (.cons (.var 3) .nil)) (.cons (.int 0) .nil))))
  .nil))
  (.cons (.ite (.or (.cons (.cmp .is (.var 2) .none) (.cons (.attr (.var 0) 13) (.cons (.cmp .isin (.bool true) (.comp (.callM (.var 0) 15 (.cons (.var 5) .nil)) 5 (.var 2) .nil)) .nil)))) (.cons (.ret (.not (.attr (.var 0) 13)))
  .nil) .nil)
  (.cons (.assign (.var 4) (.comp (.var 6) 6 (.var 2) (.cons (.cmp .is (.callM (.var 0) 15 (.cons (.var 6) .nil)) .none) .nil)))
  (.cons (.ite (.cmp .eq (.callB .len (.cons (.var 4) .nil)) (.int 0)) (.cons (.expr (.callM (.var 0) 30 .nil))
  .nil) (.cons (.ite (.cmp .eq (.callB .len (.cons (.var 4) .nil)) (.int 1)) (.cons (.expr (.callM (.var 0) 17 (.cons (.sub (.var 4) (.int 0)) (.cons .none .nil))))
  .nil) (.cons (.expr (.callM (.var 0) 31 (.cons (.var 4) .nil)))
  .nil))
  .nil))
  (.cons (.ret (.not (.attr (.var 0) 13)))
  .nil)))))))⟩
noncomputable def v_Search_add_clause:List (Str×Nat):=[(Str.ofString "self",0),(Str.ofString "literals",1),(Str.ofString "clause",2),(Str.ofString "one",3),(Str.ofString "left",4)]
noncomputable def f_Search_refute:MFn:=⟨1,none,
  (.cons (.assign (.attr (.var 0) 13) (.bool true))
  (.cons (.expr (.callM (.attr (.var 0) 11) 0 (.cons (.tup .nil) .nil)))
  .nil))⟩
noncomputable def v_Search_refute:List (Str×Nat):=[(Str.ofString "self",0)]
noncomputable def f_Search_keep:MFn:=⟨2,none,
  (.cons (.expr (.callM (.attr (.var 0) 22) 0 (.cons (.callB .list (.cons (.var 1) .nil)) .nil)))
  (.cons (.for 2 (.sliceTo (.var 1) (.int 2)) (.cons (.expr (.callM (.callM (.attr (.var 0) 23) 5 (.cons (.var 2) (.cons (.list .nil) .nil))) 0 (.cons (.bin .sub (.callB .len (.cons (.attr (.var 0) 22) .nil)) (.int 1)) .nil)))
  .nil))
  (.cons (.ret (.bin .sub (.callB .len (.cons (.attr (.var 0) 22) .nil)) (.int 1)))
  .nil)))⟩
noncomputable def v_Search_keep:List (Str×Nat):=[(Str.ofString "self",0),(Str.ofString "literals",1),(Str.ofString "one",2)]
noncomputable def f_Search_spread:MFn:=⟨1,none,
  (.cons (.while (.cmp .lt (.attr (.var 0) 20) (.callB .len (.cons (.attr (.var 0) 8) .nil))) (.cons (.assign (.var 1) (.neg (.sub (.attr (.var 0) 8) (.attr (.var 0) 20))))
  (.cons (.assign (.attr (.var 0) 20) (.bin .add (.attr (.var 0) 20) (.int 1)))
  (.cons (.assigns [(.var 2),(.var 3)] (.cons (.callM (.attr (.var 0) 23) 2 (.cons (.var 1) (.cons (.list .nil) .nil))) (.cons (.list .nil) .nil)))
  (.cons (.assign (.sub (.attr (.var 0) 23) (.var 1)) (.var 3))
  (.cons (.for 4 (.callB .range1 (.cons (.callB .len (.cons (.var 2) .nil)) .nil)) (.cons (.ite (.not (.callM (.var 0) 32 (.cons (.sub (.var 2) (.var 4)) (.cons (.var 1) .nil)))) (.cons (.expr (.callM (.var 3) 0 (.cons (.sub (.var 2) (.var 4)) .nil)))
  (.cons (.assign (.var 5) (.sub (.sub (.attr (.var 0) 22) (.sub (.var 2) (.var 4))) (.int 0)))
  (.cons (.ite (.cmp .eq (.callM (.var 0) 15 (.cons (.var 5) .nil)) (.bool false)) (.cons (.expr (.callM (.var 3) 1 (.cons (.sliceFrom (.var 2) (.bin .add (.var 4) (.int 1))) .nil)))
  (.cons (.ret (.sub (.var 2) (.var 4)))
  .nil)) .nil)
  (.cons (.ite (.cmp .is (.callM (.var 0) 15 (.cons (.var 5) .nil)) .none) (.cons (.expr (.callM (.var 0) 17 (.cons (.var 5) (.cons (.sub (.var 2) (.var 4)) .nil))))
  .nil) .nil)
  .nil)))) .nil)
  .nil))
  .nil))))))
  (.cons (.ret (.neg (.int 1)))
  .nil))⟩
noncomputable def v_Search_spread:List (Str×Nat):=[(Str.ofString "self",0),(Str.ofString "lost",1),(Str.ofString "numbers",2),(Str.ofString "stay",3),(Str.ofString "k",4),(Str.ofString "first",5)]
noncomputable def f_Search_has_moved:MFn:=⟨3,none,
  (.cons (.assign (.var 3) (.sub (.attr (.var 0) 22) (.var 1)))
  (.cons (.ite (.cmp .eq (.sub (.var 3) (.int 0)) (.var 2)) (.cons (.assigns [(.sub (.var 3) (.int 0)),(.sub (.var 3) (.int 1))] (.cons (.sub (.var 3) (.int 1)) (.cons (.var 2) .nil)))
  .nil) .nil)
  (.cons (.ite (.cmp .eq (.callM (.var 0) 15 (.cons (.sub (.var 3) (.int 0)) .nil)) (.bool true)) (.cons (.ret (.bool false))
  .nil) .nil)
  (.cons (.for 4 (.callB .range2 (.cons (.int 2) (.cons (.callB .len (.cons (.var 3) .nil)) .nil))) (.cons (.ite (.cmp .ne (.callM (.var 0) 15 (.cons (.sub (.var 3) (.var 4)) .nil)) (.bool false)) (.cons (.assigns [(.sub (.var 3) (.int 1)),(.sub (.var 3) (.var 4))] (.cons (.sub (.var 3) (.var 4)) (.cons (.var 2) .nil)))
  (.cons (.expr (.callM (.callM (.attr (.var 0) 23) 5 (.cons (.sub (.var 3) (.int 1)) (.cons (.list .nil) .nil))) 0 (.cons (.var 1) .nil)))
  (.cons (.ret (.bool true))
  .nil))) .nil)
  .nil))
  (.cons (.ret (.bool false))
  .nil)))))⟩
noncomputable def v_Search_has_moved:List (Str×Nat):=[(Str.ofString "self",0),(Str.ofString "number",1),(Str.ofString "lost",2),(Str.ofString "some",3),(Str.ofString "k",4)]
noncomputable def f_Search_warm:MFn:=⟨2,none,
  (.cons (.assign (.sub (.attr (.var 0) 24) (.var 1)) (.bin .add (.sub (.attr (.var 0) 24) (.var 1)) (.attr (.var 0) 25)))
  (.cons (.ite (.cmp .gt (.sub (.attr (.var 0) 24) (.var 1)) (.glob 1000000000)) (.cons (.assign (.attr (.var 0) 24) (.dcomp (.var 2) (.bin .fdiv (.sub (.attr (.var 0) 24) (.var 2)) (.glob 1000000000)) 2 (.keys (.attr (.var 0) 24))))
  (.cons (.assign (.attr (.var 0) 25) (.int 1))
  .nil)) .nil)
  .nil))⟩
noncomputable def v_Search_warm:List (Str×Nat):=[(Str.ofString "self",0),(Str.ofString "v",1)]
noncomputable def f_Search_lesson:MFn:=⟨2,none,
  (.cons (.assigns [(.var 2),(.var 3),(.var 4),(.var 5),(.var 6)] (.cons .dict0 (.cons (.list .nil) (.cons (.int 0) (.cons (.callB .len (.cons (.attr (.var 0) 8) .nil)) (.cons (.int 0) .nil))))))
  (.cons (.while (.bool true) (.cons (.for 7 (.sub (.attr (.var 0) 22) (.var 1)) (.cons (.assign (.var 8) (.callB .abs (.cons (.var 7) .nil)))
  (.cons (.ite (.and (.cons (.cmp .ne (.var 7) (.var 6)) (.cons (.cmp .notin (.var 8) (.var 2)) (.cons (.cmp .gt (.sub (.attr (.var 0) 9) (.var 8)) (.int 0)) .nil)))) (.cons (.assign (.sub (.var 2) (.var 8)) (.bool true))
  (.cons (.expr (.callM (.var 0) 33 (.cons (.var 8) .nil)))
  (.cons (.ite (.cmp .eq (.sub (.attr (.var 0) 9) (.var 8)) (.callB .len (.cons (.attr (.var 0) 7) .nil))) (.cons (.assign (.var 4) (.bin .add (.var 4) (.int 1)))
  .nil) (.cons (.expr (.callM (.var 3) 0 (.cons (.var 7) .nil)))
  .nil))
  .nil))) .nil)
  .nil)))
  (.cons (.assign (.var 5) (.bin .sub (.var 5) (.int 1)))
  (.cons (.while (.cmp .notin (.callB .abs (.cons (.sub (.attr (.var 0) 8) (.var 5)) .nil)) (.var 2)) (.cons (.assign (.var 5) (.bin .sub (.var 5) (.int 1)))
  .nil))
  (.cons (.assigns [(.var 6),(.var 4)] (.cons (.sub (.attr (.var 0) 8) (.var 5)) (.cons (.bin .sub (.var 4) (.int 1)) .nil)))
  (.cons (.ite (.cmp .eq (.var 4) (.int 0)) (.cons (.ret (.bin .cat (.list (.cons (.neg (.var 6)) .nil)) (.var 3)))
  .nil) .nil)
  (.cons (.assign (.var 1) (.sub (.attr (.var 0) 19) (.callB .abs (.cons (.var 6) .nil))))
  .nil)))))))
  .nil))⟩
noncomputable def v_Search_lesson:List (Str×Nat):=[(Str.ofString "self",0),(Str.ofString "number",1),(Str.ofString "marked",2),(Str.ofString "behind",3),(Str.ofString "open_ones",4),(Str.ofString "spot",5),(Str.ofString "pivot",6),(Str.ofString "one",7),(Str.ofString "v",8)]
noncomputable def f_Search_height_of:MFn:=⟨2,none,
  (.cons (.ret (.sub (.attr (.var 0) 9) (.callB .abs (.cons (.var 1) .nil))))
  .nil)⟩
noncomputable def v_Search_height_of:List (Str×Nat):=[(Str.ofString "self",0),(Str.ofString "literal",1)]
noncomputable def f_Search_learn:MFn:=⟨2,none,
  (.cons (.assign (.attr (.var 0) 10) (.bin .add (.attr (.var 0) 10) (.int 1)))
  (.cons (.ite (.cmp .eq (.callB .len (.cons (.attr (.var 0) 7) .nil)) (.int 0)) (.cons (.expr (.callM (.var 0) 30 .nil))
  (.cons .retNone
  .nil)) .nil)
  (.cons (.assign (.var 2) (.callM (.var 0) 34 (.cons (.var 1) .nil)))
  (.cons (.expr (.callM (.attr (.var 0) 11) 0 (.cons (.callF 0 (.cons (.var 2) .nil)) .nil)))
  (.cons (.assign (.var 2) (.bin .cat (.sliceTo (.var 2) (.int 1)) (.sortKeyRev (.sliceFrom (.var 2) (.int 1)) (.var 0) 14)))
  (.cons (.expr (.callM (.var 0) 29 (.cons (.ite (.cmp .gt (.callB .len (.cons (.var 2) .nil)) (.int 1)) (.callM (.var 0) 14 (.cons (.sub (.var 2) (.int 1)) .nil)) (.int 0)) .nil)))
  (.cons (.expr (.callM (.var 0) 17 (.cons (.sub (.var 2) (.int 0)) (.cons (.ite (.cmp .gt (.callB .len (.cons (.var 2) .nil)) (.int 1)) (.callM (.var 0) 31 (.cons (.var 2) .nil)) .none) .nil))))
  (.cons (.assign (.attr (.var 0) 25) (.bin .add (.bin .add (.attr (.var 0) 25) (.bin .fdiv (.attr (.var 0) 25) (.int 8))) (.int 1)))
  .nil))))))))⟩
noncomputable def v_Search_learn:List (Str×Nat):=[(Str.ofString "self",0),(Str.ofString "number",1),(Str.ofString "taught",2)]
noncomputable def f_Search_blame:MFn:=⟨2,none,
  (.cons (.assigns [(.var 2),(.var 3)] (.cons (.list (.cons (.var 1) .nil)) (.cons (.dict1 (.callB .abs (.cons (.var 1) .nil)) (.bool true)) .nil)))
  (.cons (.for 4 (.rev (.attr (.var 0) 8)) (.cons (.assign (.var 5) (.callB .abs (.cons (.var 4) .nil)))
  (.cons (.ite (.and (.cons (.cmp .isin (.var 5) (.var 3)) (.cons (.cmp .gt (.sub (.attr (.var 0) 9) (.var 5)) (.int 0)) .nil))) (.cons (.ite (.cmp .is (.sub (.attr (.var 0) 19) (.var 5)) .none) (.cons (.expr (.callM (.var 2) 0 (.cons (.var 4) .nil)))
  .nil) (.cons (.expr (.callM (.var 3) 3 (.cons (.dcomp (.callB .abs (.cons (.var 7) .nil)) (.bool true) 7 (.sub (.attr (.var 0) 22) (.sub (.attr (.var 0) 19) (.var 5)))) .nil)))
  .nil))
  .nil) .nil)
  .nil)))
  (.cons (.assign (.attr (.var 0) 26) (.callB .tuple (.cons (.var 2) .nil)))
  (.cons (.assign (.var 6) (.callF 0 (.cons (.comp (.neg (.var 8)) 8 (.var 2) .nil) .nil)))
  (.cons (.ite (.cmp .isnot (.var 6) .none) (.cons (.expr (.callM (.attr (.var 0) 11) 0 (.cons (.var 6) .nil)))
  .nil) .nil)
  .nil)))))⟩
noncomputable def v_Search_blame:List (Str×Nat):=[(Str.ofString "self",0),(Str.ofString "literal",1),(Str.ofString "found",2),(Str.ofString "marked",3),(Str.ofString "one",4),(Str.ofString "v",5),(Str.ofString "clause",6)]
noncomputable def f_Search_hottest:MFn:=⟨1,none,
  (.cons (.assign (.var 1) (.int 0))
  (.cons (.for 2 (.keys (.attr (.var 0) 24)) (.cons (.ite (.cmp .notin (.var 2) (.attr (.var 0) 18)) (.cons (.ite (.or (.cons (.cmp .eq (.var 1) (.int 0)) (.cons (.cmp .gt (.tup (.cons (.sub (.attr (.var 0) 24) (.var 2)) (.cons (.neg (.var 2)) .nil))) (.tup (.cons (.sub (.attr (.var 0) 24) (.var 1)) (.cons (.neg (.var 1)) .nil)))) .nil))) (.cons (.assign (.var 1) (.var 2))
  .nil) .nil)
  .nil) .nil)
  .nil))
  (.cons (.ret (.var 1))
  .nil)))⟩
noncomputable def v_Search_hottest:List (Str×Nat):=[(Str.ofString "self",0),(Str.ofString "best",1),(Str.ofString "v",2)]
noncomputable def f_Search_decide:MFn:=⟨2,none,
  (.cons (.ite (.cmp .lt (.callB .len (.cons (.attr (.var 0) 7) .nil)) (.callB .len (.cons (.var 1) .nil))) (.cons (.assign (.var 2) (.sub (.var 1) (.callB .len (.cons (.attr (.var 0) 7) .nil))))
  (.cons (.ite (.cmp .eq (.callM (.var 0) 15 (.cons (.var 2) .nil)) (.bool false)) (.cons (.expr (.callM (.var 0) 39 (.cons (.var 2) .nil)))
  (.cons (.ret (.bool false))
  .nil)) .nil)
  .nil)) (.cons (.assign (.var 3) (.callM (.var 0) 40 .nil))
  (.cons (.ite (.cmp .eq (.var 3) (.int 0)) (.cons (.ret (.bool true))
  .nil) .nil)
  (.cons (.assign (.var 2) (.ite (.callM (.attr (.var 0) 21) 4 (.cons (.var 3) (.cons (.bool false) .nil))) (.var 3) (.neg (.var 3))))
  .nil))))
  (.cons (.expr (.callM (.attr (.var 0) 7) 0 (.cons (.callB .len (.cons (.attr (.var 0) 8) .nil)) .nil)))
  (.cons (.ite (.cmp .is (.callM (.var 0) 15 (.cons (.var 2) .nil)) .none) (.cons (.expr (.callM (.var 0) 17 (.cons (.var 2) (.cons .none .nil))))
  .nil) .nil)
  (.cons (.ret .none)
  .nil))))⟩
noncomputable def v_Search_decide:List (Str×Nat):=[(Str.ofString "self",0),(Str.ofString "assumptions",1),(Str.ofString "literal",2),(Str.ofString "v",3)]
noncomputable def f_Search_solve:MFn:=⟨2,none,
  (.cons (.expr (.callM (.var 0) 29 (.cons (.int 0) .nil)))
  (.cons (.assign (.attr (.var 0) 26) (.tup .nil))
  (.cons (.for 2 (.var 1) (.cons (.expr (.callM (.attr (.var 0) 24) 5 (.cons (.callB .abs (.cons (.var 2) .nil)) (.cons (.int 0) .nil))))
  .nil))
  (.cons (.assigns [(.var 3),(.var 4),(.var 5),(.var 6)] (.cons (.attr (.var 0) 10) (.cons (.attr (.var 0) 10) (.cons (.glob 16) (.cons .none .nil)))))
  (.cons (.while (.and (.cons (.cmp .is (.var 6) .none) (.cons (.not (.attr (.var 0) 13)) .nil))) (.cons (.assign (.var 7) (.callM (.var 0) 16 .nil))
  (.cons (.ite (.cmp .ge (.var 7) (.int 0)) (.cons (.expr (.callM (.var 0) 12 (.cons (.var 7) .nil)))
  .nil) (.cons (.ite (.chain .lt .le (.int 0) (.attr (.var 0) 27) (.bin .sub (.attr (.var 0) 10) (.var 3))) (.cons (.raise (.attr (.var 0) 27))
  .nil) (.cons (.ite (.cmp .ge (.bin .sub (.attr (.var 0) 10) (.var 4)) (.var 5)) (.cons (.assigns [(.var 4),(.var 5)] (.cons (.attr (.var 0) 10) (.cons (.bin .add (.var 5) (.bin .fdiv (.var 5) (.int 2))) .nil)))
  (.cons (.expr (.callM (.var 0) 29 (.cons (.int 0) .nil)))
  .nil)) (.cons (.assign (.var 6) (.callM (.var 0) 41 (.cons (.var 1) .nil)))
  .nil))
  .nil))
  .nil))
  .nil)))
  (.cons (.ret (.cmp .eq (.var 6) (.bool true)))
  .nil))))))⟩
noncomputable def v_Search_solve:List (Str×Nat):=[(Str.ofString "self",0),(Str.ofString "assumptions",1),(Str.ofString "one",2),(Str.ofString "begun",3),(Str.ofString "rested",4),(Str.ofString "span",5),(Str.ofString "told",6),(Str.ofString "number",7)]
noncomputable def f_Search_value:MFn:=⟨2,none,
  (.cons (.ret (.callM (.attr (.var 0) 18) 4 (.cons (.var 1) (.cons (.bool false) .nil))))
  .nil)⟩
noncomputable def v_Search_value:List (Str×Nat):=[(Str.ofString "self",0),(Str.ofString "v",1)]
noncomputable def f_Search_failed:MFn:=⟨1,none,
  (.cons (.ret (.attr (.var 0) 26))
  .nil)⟩
noncomputable def v_Search_failed:List (Str×Nat):=[(Str.ofString "self",0)]
end Mini.C
end
section
namespace Mini
noncomputable def Ev (L:Lg)(ρ:Vars)(h:MHeap)(e:ME)(v:MV):Prop:=∀ (t:Bool)(Q:KV),fin t Q v h→ev L e ρ t Q h
noncomputable def EvL (L:Lg)(ρ:Vars)(h:MHeap)(e:MEs)(v:List MV):Prop:=∀ Q:List MV→MHeap→Prop,Q v h→evL L e ρ Q h
noncomputable def seq (L:Lg)(r:MSs)(Q:KF):KF:=fun f ρ h=>match f with
 | .next=>exs L r Q ρ h
 | f=>Q f ρ h
noncomputable def turn (Q:KF)(K:Vars→HP):KF:=fun f ρ h=>match f with
 | .next=>K ρ h
 | .cont=>K ρ h
 | .brk=>Q .next ρ h
 | .ret w=>Q (.ret w) ρ h
 | .raise=>Q .raise ρ h
noncomputable def forB (L:Lg)(x:Nat)(b:MSs):MV→PS:=fun v Q ρ h=>exs L b Q (Vars.set ρ x v) h
section
variable {L:Lg}{ρ:Vars}{h h':MHeap}{e o l r i k a b:ME}{es:MEs}{u v w:MV}{t:Bool}{n m:Nat}{Q:KV}
theorem fin_bool {b:Bool}(H:fin t Q (.bool b) h):Q (.bool b) h:=by
 rcases t with _ | _
 ·exact H
 ·generalize hv:MV.bool b=v at H
  have H:Yields (Tru v) fun b=>Q (.bool b) h:=H
  induction H with
  | mk r q=>subst hv; cases r; exact q
theorem bool_fin {b:Bool}(H:Q (.bool b) h):fin t Q (.bool b) h:=by
 rcases t with _ | _
 ·exact H
 ·exact .mk (.bool b) H
theorem Ev.go (E:Ev L ρ h e v)(H:Q v h):ev L e ρ false Q h:=E false Q H
theorem Ev.tru {b:Bool}(E:Ev L ρ h e v)(T:Tru v b)(H:Q (.bool b) h):ev L e ρ true Q h:=E true Q (.mk T H)
theorem e_none:Ev L ρ h .none .none:=fun uu uu H=>H
theorem e_bool {b:Bool}:Ev L ρ h (.bool b) (.bool b):=fun uu uu H=>H
theorem e_int {i:Int}:Ev L ρ h (.int i) (.int i):=fun uu uu H=>H
theorem e_str {s:Nat}:Ev L ρ h (.str s) (.str s):=fun uu uu H=>H
theorem e_glob {i:Int}:Ev L ρ h (.glob i) (.int i):=fun uu uu H=>H
theorem e_var (q:ρ n=some v):Ev L ρ h (.var n) v:=fun uu uu H=>.mk q H
theorem e_attr (E:Ev L ρ h e u)(q:GetA h u n w):Ev L ρ h (.attr e n) w:=fun uu uu H=>E.go (.mk q H)
theorem e_ari {op:MOp}{x y z:Int}(E:Ev L ρ h l (.int x))(E':Ev L ρ h r (.int y))(q:Ari op x y z):Ev L ρ h (.bin op l r) (.int z):=fun uu uu H=>E.go (E'.go (.mk (.ari q) H))
theorem e_neg {x:Int}(E:Ev L ρ h e (.int x)):Ev L ρ h (.neg e) (.int (-x)):=fun uu uu H=>E.go (.mk (.mk x) H)
theorem e_not {b:Bool}(E:Ev L ρ h e v)(q:Tru v b):Ev L ρ h (.not e) (.bool !b):=fun t Q H=>E t _ (by
 rcases t with _ | _
 ·exact .mk q H
 ·exact .mk q (.mk (.bool b) (fin_bool H)))
theorem e_cmp {op:MCmp}{b:Bool}(E:Ev L ρ h l v)(E':Ev L ρ h r w)(q:Cmp h op v w b):Ev L ρ h (.cmp op l r) (.bool b):=fun uu uu H=>E.go (E'.go (.mk q (fin_bool H)))
theorem e_iteT (E:Ev L ρ h e v)(q:Tru v true)(E':Ev L ρ h a w):Ev L ρ h (.ite e a b) w:=fun t Q H=>E.tru q (.yes rfl (E' t Q H))
theorem e_iteF (E:Ev L ρ h e v)(q:Tru v false)(E':Ev L ρ h b w):Ev L ρ h (.ite e a b) w:=fun t Q H=>E.tru q (.no rfl (E' t Q H))
theorem e_sub (E:Ev L ρ h e v)(E':Ev L ρ h i w)(q:GetI h v w u):Ev L ρ h (.sub e i) u:=fun uu uu H=>E.go (E'.go (.mk q H))
theorem e_nil:EvL L ρ h .nil []:=fun uu H=>H
theorem e_cons {vs:List MV}(E:Ev L ρ h e v)(E':EvL L ρ h es vs):EvL L ρ h (.cons e es) (v::vs):=fun uu H=>E.go (E' _ H)
theorem e_one (E:Ev L ρ h e v):EvL L ρ h (.cons e .nil) [v]:=e_cons E e_nil
theorem e_tup {vs:List MV}(E:EvL L ρ h es vs)(l:vs.length≤100)(f:vs.all MV.flat=true):Ev L ρ h (.tup es) (.tup vs):=fun uu uu H=>E _ ⟨l,f,H⟩
theorem e_bui {b:MB}{vs:List MV}(E:EvL L ρ h es vs)(q:Bui h b vs u h):Ev L ρ h (.callB b es) u:=fun uu uu H=>E _ (.mk q H)
theorem e_len {xs:List MV}(E:Ev L ρ h e (.ref n))(p:h.obj n=some (.list xs)):Ev L ρ h (.callB .len (.cons e .nil)) (.int xs.length):=e_bui (e_one E) (.lenL p)
theorem e_abs {x:Int}(E:Ev L ρ h e (.int x)):Ev L ρ h (.callB .abs (.cons e .nil)) (.int x.natAbs):=e_bui (e_one E) (.abs x)
theorem e_get {x:Int}{ds:List (Int×MV)}(E:Ev L ρ h o (.ref n))(p:h.obj n=some (.idict ds))(E':Ev L ρ h k (.int x)):Ev L ρ h (.callM o 4 (.cons k .nil)) ((kget ds x).getD .none):=fun uu uu H=>E.go (.mk (.dict p (.inr (.inr (.inl rfl)))) (e_one E' _ (.mk (.get x p) H)))
theorem e_keys (E:Ev L ρ h e (.ref n)):Ev L ρ h (.keys e) (.keys n h.tick):=fun uu uu H=>E.go (.mk (.mk n) H)
theorem e_meth {as:List (Nat×MV)}{f:Nat}{vs:List MV}(E:Ev L ρ h o (.ref n))(p:h.obj n=some (.inst as))(e:L.P.meths.lookup m=some f)(E':EvL L ρ h es vs)(q:∀ Q:KV,Q w h→L.call f (.ref n::vs) Q h):Ev L ρ h (.callM o m es) w:=
 fun uu uu H=>E.go (.mk (.inst p e) (E' _ (q _ H)))
theorem e_andF (E:Ev L ρ h e (.bool false)):Ev L ρ h (.and (.cons e (.cons i es))) (.bool false):=fun t Q H=>E t _ (bool_fin (.no rfl (fin_bool H)))
theorem e_andT (E:Ev L ρ h e (.bool true))(E':Ev L ρ h (.and (.cons i es)) w):Ev L ρ h (.and (.cons e (.cons i es))) w:=fun t Q H=>E t _ (bool_fin (.yes rfl (E' t Q H)))
theorem e_and1 (E:Ev L ρ h e w):Ev L ρ h (.and (.cons e .nil)) w:=E
theorem e_orT (E:Ev L ρ h e (.bool true)):Ev L ρ h (.or (.cons e (.cons i es))) (.bool true):=fun t Q H=>E t _ (bool_fin (.yes rfl (fin_bool H)))
theorem e_orF (E:Ev L ρ h e (.bool false))(E':Ev L ρ h (.or (.cons i es)) w):Ev L ρ h (.or (.cons e (.cons i es))) w:=fun t Q H=>E t _ (bool_fin (.no rfl (E' t Q H)))
theorem e_or1 (E:Ev L ρ h e w):Ev L ρ h (.or (.cons e .nil)) w:=E
theorem e_isbool {x:Bool}(E:Ev L ρ h e v)(q:IsB v x):Ev L ρ h (.isbool e) (.bool x):=fun uu uu H=>E.go (.mk q H)
theorem e_gtup {is:List Int}:Ev L ρ h (.gtup is) (.tup (is.map .int)):=fun uu uu H=>H
theorem e_chain {p q:MCmp}{x y:Bool}(A:Ev L ρ h a u)(B:Ev L ρ h b v)(p1:Cmp h p u v x)(C:Ev L ρ h k w)(p2:x=true→Cmp h q v w y):Ev L ρ h (.chain p q a b k) (.bool (x&&y)):=fun uu uu H=>A.go (B.go (.mk p1 (by
 rcases x with _ | _
 ·exact .no rfl (fin_bool H)
 ·exact .yes rfl (C.go (.mk (p2 rfl) (fin_bool H))))))
theorem e_get2 {x:Int}{ds:List (Int×MV)}(E:Ev L ρ h o (.ref n))(p:h.obj n=some (.idict ds))(E':Ev L ρ h k (.int x))(W:Ev L ρ h a w):Ev L ρ h (.callM o 4 (.cons k (.cons a .nil))) ((kget ds x).getD w):=fun uu uu H=>E.go (.mk (.dict p (.inr (.inr (.inl rfl)))) (e_cons E' (e_one W) _ (.mk (.get2 x w p) H)))
theorem c_nil {K:Bool→HP}(H:K true h):evC L .nil ρ K h:=H
theorem c_cons {x:Bool}{K:Bool→HP}(E:Ev L ρ h e (.bool x))(T:x=true→evC L es ρ K h)(F:x=false→K false h):evC L (.cons e es) ρ K h:=E true _ (bool_fin (by
 rcases x with _ | _
 ·exact .no rfl (F rfl)
 ·exact .yes rfl (T rfl)))
theorem c_one {x:Bool}{K:Bool→HP}(E:Ev L ρ h e (.bool x))(H:K x h):evC L (.cons e .nil) ρ K h:=c_cons E (fun q=>c_nil (q▸H)) fun q=>q▸H
end
section
variable {L:Lg}{ρ:Vars}{h h':MHeap}{e o l i k:ME}{es:MEs}{u v w:MV}{t:Bool}{n m x:Nat}{R:KF}{r a b:MSs}{s:MS}{ts:List MT}
theorem x_var (H:ev L e ρ false (fun v h=>exs L r R (ρ.set x v) h) h):exs L (.cons (.assign (.var x) e) r) R ρ h:=H
theorem x_let (E:Ev L ρ h e v)(H:exs L r R (ρ.set x v) h):exs L (.cons (.assign (.var x) e) r) R ρ h:=x_var (E.go H)
theorem x_setA (E:Ev L ρ h e v)(O:Ev L ρ h o u)(q:SetA h n v u h')(H:exs L r R ρ h'):exs L (.cons (.assign (.attr o n) e) r) R ρ h:=E.go (O.go (.mk q H))
theorem x_setI (E:Ev L ρ h e v)(O:Ev L ρ h o u)(I:Ev L ρ h i w)(q:SetI h v u w h')(H:exs L r R ρ h'):exs L (.cons (.assign (.sub o i) e) r) R ρ h:=E.go (O.go (I.go (.mk q H)))
theorem x_asgs {vs:List MV}(E:EvL L ρ h es vs)(b:vs.length≤100)(l:vs.length=ts.length)(H:asgL L ts vs (fun ρ h=>exs L r R ρ h) ρ h):exs L (.cons (.assigns ts es) r) R ρ h:=E _ ⟨b,l,H⟩
theorem x_asgs' (H:evL L es ρ (fun vs h=>vs.length≤100∧vs.length=ts.length∧asgL L ts vs (fun ρ h=>exs L r R ρ h) ρ h) h):exs L (.cons (.assigns ts es) r) R ρ h:=H
theorem a_nil {K:Vars→HP}(H:K ρ h):asgL L [] [] K ρ h:=H
theorem a_var {vs:List MV}{K:Vars→HP}(H:asgL L ts vs K (ρ.set x v) h):asgL L (.var x::ts) (v::vs) K ρ h:=H
theorem a_sub {vs:List MV}{K:Vars→HP}(O:Ev L ρ h o u)(I:Ev L ρ h i w)(q:SetI h v u w h')(H:asgL L ts vs K ρ h'):asgL L (.sub o i::ts) (v::vs) K ρ h:=O.go (I.go (.mk q H))
theorem x_sub (H:ev L e ρ false (fun v h=>asg L (.sub o i) v (fun ρ h=>exs L r R ρ h) ρ h) h):exs L (.cons (.assign (.sub o i) e) r) R ρ h:=H
theorem x_atr (H:ev L e ρ false (fun v h=>asg L (.attr o n) v (fun ρ h=>exs L r R ρ h) ρ h) h):exs L (.cons (.assign (.attr o n) e) r) R ρ h:=H
theorem a_setI {K:Vars→HP}(O:Ev L ρ h o u)(I:Ev L ρ h i w)(q:SetI h v u w h')(H:K ρ h'):asg L (.sub o i) v K ρ h:=O.go (I.go (.mk q H))
theorem a_setA {K:Vars→HP}(O:Ev L ρ h o u)(q:SetA h n v u h')(H:K ρ h'):asg L (.attr o n) v K ρ h:=O.go (.mk q H)
theorem x_expr (H:ev L e ρ false (fun uu h=>exs L r R ρ h) h):exs L (.cons (.expr e) r) R ρ h:=H
theorem x_ite {c:Bool}(E:Ev L ρ h e v)(q:Tru v c)(T:c=true→exs L a (seq L r R) ρ h)(F:c=false→exs L b (seq L r R) ρ h):exs L (.cons (.ite e a b) r) R ρ h:=E.tru q (by
 rcases c with _ | _
 ·exact .no rfl (F rfl)
 ·exact .yes rfl (T rfl))
theorem x_ite' (H:ev L e ρ true (fun v h=>If v (exs L a (seq L r R) ρ h) (exs L b (seq L r R) ρ h)) h):exs L (.cons (.ite e a b) r) R ρ h:=H
theorem x_iteT (E:Ev L ρ h e (.bool true))(T:exs L a (seq L r R) ρ h):exs L (.cons (.ite e a b) r) R ρ h:=E.tru (.bool true) (.yes rfl T)
theorem x_iteF (E:Ev L ρ h e (.bool false))(F:exs L b (seq L r R) ρ h):exs L (.cons (.ite e a b) r) R ρ h:=E.tru (.bool false) (.no rfl F)
theorem x_if {c:Bool}(E:Ev L ρ h e (.bool c))(T:c=true→exs L a (seq L r R) ρ h)(F:c=false→exs L r R ρ h):exs L (.cons (.ite e a .nil) r) R ρ h:=x_ite E (.bool c) T F
theorem x_raise (E:Ev L ρ h e v)(o:One2 v)(H:R .raise ρ h):exs L (.cons (.raise e) r) R ρ h:=E.go ⟨o,H⟩
theorem x_ret (E:Ev L ρ h e v)(H:R (.ret v) ρ h):exs L (.cons (.ret e) r) R ρ h:=E.go H
theorem x_retE (H:ev L e ρ false (fun v h=>R (.ret v) ρ h) h):exs L (.cons (.ret e) r) R ρ h:=H
theorem x_for {xs:List MV}(E:Ev L ρ h e v)(q:Items h v xs)(H:forL (fun h=>Items h v xs) (forB L x b) xs (seq L r R) ρ h):exs L (.cons (.for x e b) r) R ρ h:=E.go (.mk q H)
theorem x_for' (H:ev L e ρ false (fun s h=>Yields (Items h s) fun xs=>forL (fun h=>Items h s xs) (forB L x b) xs (seq L r R) ρ h) h):exs L (.cons (.for x e b) r) R ρ h:=H
theorem x_while (H:∃ n,whileN (fun ρ=>ev L e ρ true) (exs L b) n (seq L r R) ρ h):exs L (.cons (.while e b) r) R ρ h:=H
theorem If.of {c:Bool}{P Q:Prop}(T:c=true→P)(F:c=false→Q):If (.bool c) P Q:=by
 rcases c with _ | _
 ·exact .no rfl (F rfl)
 ·exact .yes rfl (T rfl)
section
variable {Q:KV}{K:List MV→HP}
theorem m_list {vs:List MV}(E:EvL L ρ h es vs)(l:vs.length≤100)(H:fin t Q (.ref h.next) (h.new (.list vs))):ev L (.list es) ρ t Q h:=E _ ⟨l,H⟩
theorem m_bui {b:MB}{vs:List MV}(E:EvL L ρ h es vs)(q:Bui h b vs u h')(H:fin t Q u h'):ev L (.callB b es) ρ t Q h:=E _ (.mk q H)
theorem m_to (O:Ev L ρ h o u)(I:Ev L ρ h i w)(q:SlTo L.sc h u w v h')(H:fin t Q v h'):ev L (.sliceTo o i) ρ t Q h:=O.go (I.go (.mk q H))
theorem m_from (O:Ev L ρ h o u)(I:Ev L ρ h i w)(q:SlFrom h u w v h')(H:fin t Q v h'):ev L (.sliceFrom o i) ρ t Q h:=O.go (I.go (.mk q H))
theorem m_sortAbs {ds:List (Int×MV)}(O:Ev L ρ h o (.ref n))(p:h.obj n=some (.idict ds))(l:ds.length<64)(H:∀ ys:List Int,ys.Perm (ds.map (·.1))→ys.Pairwise (fun a b=>a.natAbs≤b.natAbs)→fin t Q (.ref h.next) (h.new (.list (ys.map .int)))):ev L (.sortAbs o) ρ t Q h:=O.go (.mk p l H)
theorem m_orF (E:Ev L ρ h e (.bool false))(H:ev L (.or (.cons i es)) ρ t Q h):ev L (.or (.cons e (.cons i es))) ρ t Q h:=E t _ (bool_fin (.no rfl H))
theorem m_or1 (H:ev L e ρ t Q h):ev L (.or (.cons e .nil)) ρ t Q h:=H
theorem m_cmp {op:MCmp}(E:Ev L ρ h o u)(H:ev L i ρ false (fun w h=>Yields (Cmp h op u w) fun b=>Q (.bool b) h) h):ev L (.cmp op o i) ρ t Q h:=E.go H
theorem m_not (H:ev L e ρ t (fun v h=>Yields (Tru v) fun b=>Q (.bool (!b)) h) h):ev L (.not e) ρ t Q h:=H
theorem m_bui1 {b:MB}(H:ev L e ρ false (fun v h=>Via (Bui h b [v]) (fin t Q)) h):ev L (.callB b (.cons e .nil)) ρ t Q h:=H
theorem m_call (H:ev L o ρ false (fun v h=>Yields (Kind L.P h m v) fun k=>evL L es ρ (fun vs h=>doM L h v m vs (fin t Q) k) h) h):ev L (.callM o m es) ρ t Q h:=H
theorem l_one (H:ev L e ρ false (fun v h=>K [v] h) h):evL L (.cons e .nil) ρ K h:=H
theorem m_listM {xs vs:List MV}(O:Ev L ρ h o (.ref n))(p:h.obj n=some (.list xs))(E:EvL L ρ h es vs)(l:m<3)(q:Meth h .list m (.ref n) vs u h')(H:fin t Q u h'):ev L (.callM o m es) ρ t Q h:=O.go (.mk (.list p l) (E _ (.mk q H)))
theorem m_dictM {ds:List (Int×MV)}{vs:List MV}(O:Ev L ρ h o (.ref n))(p:h.obj n=some (.idict ds))(E:EvL L ρ h es vs)(l:m=2∨m=3∨m=4∨m=5)(q:Meth h .dict m (.ref n) vs u h')(H:fin t Q u h'):ev L (.callM o m es) ρ t Q h:=O.go (.mk (.dict p l) (E _ (.mk q H)))
theorem m_meth {as:List (Nat×MV)}{f:Nat}{vs:List MV}(O:Ev L ρ h o (.ref n))(p:h.obj n=some (.inst as))(e:L.P.meths.lookup m=some f)(E:EvL L ρ h es vs)(H:L.call f (.ref n::vs) (fin t Q) h):ev L (.callM o m es) ρ t Q h:=O.go (.mk (.inst p e) (E _ H))
theorem m_fn {f:Nat}{vs:List MV}(E:EvL L ρ h es vs)(H:L.call f vs (fin t Q) h):ev L (.callF f es) ρ t Q h:=E _ H
theorem m_rev {xs:List MV}(O:Ev L ρ h o (.ref n))(p:h.obj n=some (.list xs))(H:fin t Q (.ref h.next) (h.new (.list xs.reverse))):ev L (.rev o) ρ t Q h:=O.go (.mk (.list p) H)
theorem m_dict1 {x:Int}(K:Ev L ρ h k (.int x))(E:Ev L ρ h e w)(H:fin t Q (.ref h.next) (h.new (.idict [(x,w)]))):ev L (.dict1 k e) ρ t Q h:=K.go (E.go (.mk rfl H))
theorem m_append {xs:List MV}(O:Ev L ρ h o (.ref n))(p:h.obj n=some (.list xs))(E:Ev L ρ h e w)(l:xs.length<lenLine)(H:fin t Q .none (h.set n (.list (xs++[w])))):ev L (.callM o 0 (.cons e .nil)) ρ t Q h:=m_listM O p (e_one E) (by decide) (.append p l) H
end
theorem while_rule (I:Nat→Vars→MHeap→Prop)
  (step:∀ k ρ h (K:Vars→HP),I k ρ h→(∀ k',k'<k→∀ ρ' h',I k' ρ' h'→K ρ' h')→ev L e ρ true (fun v h'=>If v (exs L b (turn R K) ρ h') (R .next ρ h')) h){k:Nat}{ρ:Vars}{h:MHeap}(h0:I k ρ h) :
  ∃ n,whileN (fun ρ=>ev L e ρ true) (exs L b) n R ρ h:=by
 refine ⟨k + 1,?_⟩
 have key:∀ n k ρ h,k<n→I k ρ h→whileN (fun ρ=>ev L e ρ true) (exs L b) n R ρ h:=by
  intro n
  induction n with
  | zero=>exact fun k ρ h hk=>absurd hk (Nat.not_lt_zero _)
  | succ n ih=>exact fun k ρ h hk hi=>step k ρ h _ hi fun k' hk' ρ' h' hi'=>ih k' ρ' h' (Nat.lt_of_lt_of_le hk' (Nat.le_of_lt_succ hk)) hi'
 exact key _ _ _ _ (Nat.lt_succ_self _) h0
theorem for_rule {chk:HP}{body:MV→PS}(I:List MV→Vars→MHeap→Prop)(hc:∀ r ρ h,I r ρ h→chk h)
  (step:∀ v r ρ h (K:Vars→HP),I (v::r) ρ h→(∀ ρ' h',I r ρ' h'→K ρ' h')→body v (turn R K) ρ h)
  (fi:∀ ρ h,I [] ρ h→R .next ρ h){xs:List MV}{ρ:Vars}{h:MHeap}(hi:I xs ρ h):forL chk body xs R ρ h:=by
 induction xs generalizing ρ h with
 | nil=>exact ⟨hc _ _ _ hi,fi _ _ hi⟩
 | cons v r ih=>exact ⟨hc _ _ _ hi,step v r ρ h _ hi fun ρ' h'=>ih⟩
section
variable {Q:KV}{α:Type}{emb:α→MV}{f:α→Bool}{g:α→MV}{as:List α}{cond:MEs}{it s:ME}
theorem comp_pure {chk:HP}{Q:List MV→HP}{acc:List MV}(ch:chk h)(C:∀ a∈as,∀ K:Bool→HP,K (f a) h→evC L cond (ρ.set x (emb a)) K h)(G:∀ a∈as,f a=true→Ev L (ρ.set x (emb a)) h e (g a))(l:acc.length + as.length≤lenLine)
  (H:Q (acc++(as.filter f).map g) h):compL chk (fun v=>evC L cond (Vars.set ρ x v)) (fun v=>ev L e (Vars.set ρ x v) false) (as.map emb) acc Q h:=by
 induction as generalizing acc with
 | nil=>exact ⟨ch,by rw [List.filter_nil,List.map_nil,List.append_nil] at H; exact H⟩
 | cons a r ih=>
  have C':=fun b hb=>C b (List.mem_cons_of_mem _ hb)
  have G':=fun b hb=>G b (List.mem_cons_of_mem _ hb)
  rw [List.length_cons,← Nat.add_assoc,Nat.add_right_comm] at l
  refine ⟨ch,C a List.mem_cons_self _ ?_⟩
  by_cases q:f a=true
  ·rw [List.filter_cons_of_pos q,List.map_cons] at H
   rw [q]
   exact (G a List.mem_cons_self q).go ⟨Nat.lt_of_lt_of_le (Nat.lt_succ_self _) (Nat.le_trans (Nat.le_add_right _ _) l),ih C' G' (by rw [List.length_append]; exact l) (by rw [List.append_assoc]; exact H)⟩
  ·rw [List.filter_cons_of_neg q] at H
   rw [Bool.eq_false_iff.mpr q]
   exact ih C' G' (Nat.le_trans (Nat.add_le_add_right (Nat.le_succ _) _) l) H
theorem m_comp (E:Ev L ρ h i v)(q:Items h v (as.map emb))(C:∀ a∈as,∀ K:Bool→HP,K (f a) h→evC L cond (ρ.set x (emb a)) K h)(G:∀ a∈as,f a=true→Ev L (ρ.set x (emb a)) h e (g a))(l:as.length≤lenLine)
  (H:fin t Q (.ref h.next) (h.new (.list ((as.filter f).map g)))):ev L (.comp e x i cond) ρ t Q h:=E.go (.mk q (comp_pure q C G (by rw [List.length_nil,Nat.zero_add]; exact l) H))
theorem m_dcomp {c:α→Int}(E:Ev L ρ h i v)(q:Items h v (as.map emb))(C:∀ a∈as,Ev L (ρ.set x (emb a)) h k (.int (c a)))(G:∀ a∈as,Ev L (ρ.set x (emb a)) h e (g a))(l:as.length≤lenLine)
  (H:fin t Q (.ref h.next) (h.new (.idict (as.foldl (fun es a=>kset es (c a) (g a)) [])))):ev L (.dcomp k e x i) ρ t Q h:=by
 refine E.go (.mk q ?_)
 have go:∀ (bs:List α)(acc:List (Int×MV)),(∀ b∈bs,b∈as)→acc.length + bs.length≤lenLine→fin t Q (.ref h.next) (h.new (.idict (bs.foldl (fun es a=>kset es (c a) (g a)) acc))) →
   dcompL (fun h=>Items h v (as.map emb)) (fun v=>ev L k (Vars.set ρ x v) false) (fun v=>ev L e (Vars.set ρ x v) false) (bs.map emb) acc (fun es h=>fin t Q (.ref h.next) (h.new (.idict es))) h:=by
  intro bs
  induction bs with
  | nil=>exact fun acc uu uu H=>⟨q,H⟩
  | cons b r ih=>
   intro acc hb l H
   rw [List.length_cons,← Nat.add_assoc,Nat.add_right_comm] at l
   exact ⟨q,(C b (hb b List.mem_cons_self)).go ((G b (hb b List.mem_cons_self)).go (.mk (Nat.lt_of_lt_of_le (Nat.lt_succ_self _) (Nat.le_trans (Nat.le_add_right _ _) l)) (ih _ (fun a ha=>hb a (List.mem_cons_of_mem _ ha)) (Nat.le_trans (Nat.add_le_add_right (kset_len _ _ _) _) l) H)))⟩
 exact go as [] (fun uu h=>h) (by rw [List.length_nil,Nat.zero_add]; exact l) H
theorem keys_pure {call:Nat→List MV→PT MV}{n:Nat}{o:MV}{c:α→Int}{K:List Int→HP}(C:∀ a∈as,∀ Q:KV,Q (.int (c a)) h→call n [o,emb a] Q h)(H:K (as.map c) h):keysL call n o (as.map emb) K h:=by
 induction as generalizing K with
 | nil=>exact H
 | cons a r ih=>exact C a List.mem_cons_self _ (.mk rfl (ih (fun b hb=>C b (List.mem_cons_of_mem _ hb)) H))
end
end
end Mini
end
section
namespace Mini.C
open Mini
noncomputable def tget {α:Type}:List (Int×α)→Int→Option α
 | [],_=>none
 | p::r,k=>if p.1=k then some p.2 else tget r k
noncomputable def tset {α:Type}:List (Int×α)→Int→α→List (Int×α)
 | [],k,v=>[(k,v)]
 | p::r,k,v=>if p.1=k then (p.1,v)::r else p::tset r k v
noncomputable def tdel {α:Type}:List (Int×α)→Int→List (Int×α)
 | [],_=>[]
 | p::r,k=>if p.1=k then r else p::tdel r k
noncomputable def mvs {α:Type}(f:α→MV)(es:List (Int×α)):List (Int×MV):=es.map fun p=>(p.1,f p.2)
section
variable {α:Type}{f:α→MV}{p:Int×α}{es r:List (Int×α)}{k k':Int}{v:α}
theorem tget_cons:tget (p::r) k=if p.1=k then some p.2 else tget r k:=rfl
theorem tset_cons:tset (p::r) k v=if p.1=k then (p.1,v)::r else p::tset r k v:=rfl
theorem tdel_cons:tdel (p::r) k=if p.1=k then r else p::tdel r k:=rfl
theorem mvs_cons:mvs f (p::r)=(p.1,f p.2)::mvs f r:=rfl
theorem kget_mvs:kget (mvs f es) k=(tget es k).map f:=by
 induction es with
 | nil=>rfl
 | cons p r ih=>
  rw [mvs_cons,kget_cons,tget_cons,ih]
  by_cases c:p.1=k
  ·rw [if_pos c,if_pos c]; rfl
  ·rw [if_neg c,if_neg c]
theorem kset_mvs:kset (mvs f es) k (f v)=mvs f (tset es k v):=by
 induction es with
 | nil=>rfl
 | cons p r ih=>
  rw [mvs_cons,kset_cons,tset_cons,ih]
  by_cases c:p.1=k
  ·rw [if_pos c,if_pos c]; rfl
  ·rw [if_neg c,if_neg c]; rfl
theorem kdel_mvs:kdel (mvs f es) k=mvs f (tdel es k):=by
 induction es with
 | nil=>rfl
 | cons p r ih=>
  rw [mvs_cons,kdel_cons,tdel_cons,ih]
  by_cases c:p.1=k
  ·rw [if_pos c,if_pos c]
  ·rw [if_neg c,if_neg c]; rfl
theorem mvs_length:(mvs f es).length=es.length:=List.length_map _
theorem mvs_keys:(mvs f es).map (·.1)=es.map (·.1):=List.map_map
theorem mvs_any:((mvs f es).any fun e=>e.1==k)=(tget es k).isSome:=by
 induction es with
 | nil=>rfl
 | cons p r ih=>
  rw [mvs_cons,List.any_cons,tget_cons,ih]
  by_cases c:p.1=k
  ·rw [if_pos c,beq_iff_eq.mpr c]; rfl
  ·rw [if_neg c,beq_eq_false_iff_ne.mpr c]; rfl
theorem tset_new (h:tget es k=none):tset es k v=es++[(k,v)]:=by
 induction es with
 | nil=>rfl
 | cons p r ih=>
  rw [tget_cons] at h
  by_cases c:p.1=k
  ·rw [if_pos c] at h; exact ns h.symm
  ·rw [if_neg c] at h; rw [tset_cons,if_neg c,ih h]; rfl
theorem tset_app {w:α}(e:tget es k=none):tset (es++[(k,v)]) k w=es++[(k,w)]:=by
 induction es with
 | nil=>exact if_pos rfl
 | cons p r ih=>
  rw [tget_cons] at e
  by_cases c:p.1=k
  ·rw [if_pos c] at e; exact ns e.symm
  ·rw [if_neg c] at e; rw [List.cons_append,tset_cons,if_neg c,ih e]; rfl
theorem tget_tset:tget (tset es k v) k'=if k=k' then some v else tget es k':=by
 induction es with
 | nil=>rfl
 | cons p r ih=>
  rw [tset_cons]
  by_cases c:p.1=k
  ·rw [if_pos c,tget_cons,tget_cons,c]
   by_cases d:k=k'
   ·rw [if_pos d,if_pos d]
   ·rw [if_neg d,if_neg d,if_neg d]
  ·rw [if_neg c,tget_cons,tget_cons,ih]
   by_cases d:p.1=k'
   ·rw [if_pos d,if_neg fun q=>c (d.trans q.symm),if_pos d]
   ·rw [if_neg d,if_neg d]
theorem tget_isSome:(tget es k).isSome=true↔k∈es.map (·.1):=by
 induction es with
 | nil=>exact ⟨fun h=>ff h,fun h=>absurd h List.not_mem_nil⟩
 | cons p r ih=>
  rw [tget_cons,List.map_cons,List.mem_cons,← ih]
  by_cases c:p.1=k
  ·rw [if_pos c]; exact ⟨fun uu=>.inl c.symm,fun uu=>rfl⟩
  ·rw [if_neg c]; exact ⟨.inr,fun h=>h.resolve_left fun q=>c q.symm⟩
theorem tget_none:tget es k=none↔k∉es.map (·.1):=by rw [← tget_isSome,Option.not_isSome_iff_eq_none]
theorem keys_tset:(tset es k v).map (·.1)=if (tget es k).isSome then es.map (·.1) else es.map (·.1)++[k]:=by
 induction es with
 | nil=>rfl
 | cons p r ih=>
  rw [tset_cons,tget_cons]
  by_cases c:p.1=k
  ·rw [if_pos c,if_pos c]; rfl
  ·rw [if_neg c,if_neg c,List.map_cons,ih,List.map_cons]
   by_cases d:(tget r k).isSome=true
   ·rw [if_pos d,if_pos d]
   ·rw [if_neg d,if_neg d]; rfl
theorem tset_len:(tset es k v).length≤es.length + 1:=by
 have e:=congrArg List.length (keys_tset (es:=es) (k:=k) (v:=v))
 rw [List.length_map] at e
 rw [e]
 by_cases d:(tget es k).isSome=true
 ·rw [if_pos d,List.length_map]; exact Nat.le_succ _
 ·rw [if_neg d,List.length_append,List.length_map]; exact Nat.le_refl _
theorem tset_mem {q:Int×α}(h:q∈tset es k v):q∈es∨q=(k,v):=by
 induction es with
 | nil=>exact .inr (List.mem_singleton.mp h)
 | cons p r ih=>
  rw [tset_cons] at h
  by_cases c:p.1=k
  ·rw [if_pos c,c] at h
   exact (List.mem_cons.mp h).elim .inr fun h=>.inl (List.mem_cons_of_mem _ h)
  ·rw [if_neg c] at h
   exact (List.mem_cons.mp h).elim (fun h=>.inl (h▸List.mem_cons_self)) fun h=>(ih h).imp (List.mem_cons_of_mem _) id
theorem tget_mem (h:tget es k=some v):(k,v)∈es:=by
 induction es with
 | nil=>exact ns h
 | cons p r ih=>
  rw [tget_cons] at h
  by_cases c:p.1=k
  ·rw [if_pos c] at h; rw [← c,← Option.some.inj h]; exact List.mem_cons_self
  ·rw [if_neg c] at h; exact List.mem_cons_of_mem _ (ih h)
theorem keys_tdel:(tdel es k).map (·.1)=(es.map (·.1)).erase k:=by
 induction es with
 | nil=>rfl
 | cons p r ih=>
  rw [tdel_cons,List.map_cons]
  by_cases c:p.1=k
  ·rw [if_pos c,c,List.erase_cons_head]
  ·rw [if_neg c,List.erase_cons_tail (by rw [beq_eq_false_iff_ne.mpr c]; exact Bool.false_ne_true),List.map_cons,ih]
theorem tget_tdel (hn:(es.map (·.1)).Nodup):tget (tdel es k) k'=if k=k' then none else tget es k':=by
 induction es with
 | nil=>exact (ite_self none).symm
 | cons p r ih=>
  rw [List.map_cons,List.nodup_cons] at hn
  rw [tdel_cons,tget_cons]
  by_cases c:p.1=k
  ·rw [if_pos c,c]
   by_cases d:k=k'
   ·rw [if_pos d]; exact tget_none.mpr fun q=>hn.1 (c▸d▸q)
   ·rw [if_neg d,if_neg d]
  ·rw [if_neg c,tget_cons,ih hn.2]
   by_cases d:p.1=k'
   ·rw [if_pos d,if_neg fun q=>c (d.trans q.symm),if_pos d]
   ·rw [if_neg d,if_neg d]
theorem tget_append:tget (es++[(k,v)]) k'=match tget es k' with | some w=>some w | none=>if k=k' then some v else none:=by
 induction es with
 | nil=>rfl
 | cons p r ih=>
  rw [List.cons_append,tget_cons,tget_cons]
  by_cases c:p.1=k'
  ·rw [if_pos c,if_pos c]
  ·rw [if_neg c,if_neg c,ih]
end
end Mini.C
end
section
namespace Mini.C
open Mini
structure St where
 kn:List (Int×Bool)
 hh:List (Int×Nat)
 ca:List (Int×Option Nat)
 li:List (Int×Bool)
 ht:List (Int×Int)
 row:List Int
 be:List Nat
 seen:Nat
 rows:List (List Int)
 wd:List (Int×List Nat)
 gain:Int
 lg:List (List Int)
 ref:Bool
 bl:List Int
 cl:Int
 lim:Int
set_option genInjectivity true in
set_option genCtorIdx true in
inductive Tag where
 | s | kn | hh | ca | li | ht | ro | be | R | w | lg
 | row (i:Nat)
 | wat (l:Int)
 deriving DecidableEq
section
variable (σ:St)
noncomputable def St.sKn (x:List (Int×Bool)):St:={ σ with kn:=x }
noncomputable def St.sHh (x:List (Int×Nat)):St:={ σ with hh:=x }
noncomputable def St.sCa (x:List (Int×Option Nat)):St:={ σ with ca:=x }
noncomputable def St.sLi (x:List (Int×Bool)):St:={ σ with li:=x }
noncomputable def St.sHt (x:List (Int×Int)):St:={ σ with ht:=x }
noncomputable def St.sRow (x:List Int):St:={ σ with row:=x }
noncomputable def St.sBe (x:List Nat):St:={ σ with be:=x }
noncomputable def St.sSeen (x:Nat):St:={ σ with seen:=x }
noncomputable def St.sRows (x:List (List Int)):St:={ σ with rows:=x }
noncomputable def St.sWd (x:List (Int×List Nat)):St:={ σ with wd:=x }
noncomputable def St.sGain (x:Int):St:={ σ with gain:=x }
noncomputable def St.sLg (x:List (List Int)):St:={ σ with lg:=x }
noncomputable def St.sRef (x:Bool):St:={ σ with ref:=x }
noncomputable def St.sBl (x:List Int):St:={ σ with bl:=x }
noncomputable def St.sCl (x:Int):St:={ σ with cl:=x }
noncomputable def St.sLim (x:Int):St:={ σ with lim:=x }
end
noncomputable abbrev iN (n:Nat):MV:=.int (n:Int)
noncomputable def iL (xs:List Int):List MV:=xs.map .int
noncomputable def nL (xs:List Nat):List MV:=xs.map iN
noncomputable def tL (xs:List (List Int)):List MV:=xs.map fun c=>.tup (iL c)
noncomputable def rL (adr:Nat→Nat)(n:Nat):List MV:=(List.range n).map fun i=>.ref (adr i)
noncomputable def wL (adr:Int→Nat)(wd:List (Int×List Nat)):List (Int×MV):=wd.map fun p=>(p.1,.ref (adr p.1))
section
variable {xs ys:List Int}{ns ms:List Nat}{ts us:List (List Int)}{i n:Nat}{x:Int}{adr:Nat→Nat}
theorem iL_length:(iL xs).length=xs.length:=List.length_map _
theorem iL_get:(iL xs)[i]?=xs[i]?.map .int:=List.getElem?_map
theorem iL_append:iL xs++iL ys=iL (xs++ys):=List.map_append.symm
theorem iL_push:iL xs++[.int x]=iL (xs++[x]):=iL_append (ys:=[x])
theorem iL_take:(iL xs).take n=iL (xs.take n):=List.map_take.symm
theorem iL_drop:(iL xs).drop n=iL (xs.drop n):=List.map_drop.symm
theorem iL_set:(iL xs).set i (.int x)=iL (xs.set i x):=List.map_set.symm
theorem iL_at (h:xs[i]?=some x):(iL xs)[i]?=some (.int x):=by rw [iL_get,h]; rfl
theorem nL_length:(nL ns).length=ns.length:=List.length_map _
theorem nL_get:(nL ns)[i]?=ns[i]?.map iN:=List.getElem?_map
theorem nL_at (h:ns[i]?=some n):(nL ns)[i]?=some (iN n):=by rw [nL_get,h]; rfl
theorem nL_append:nL ns++nL ms=nL (ns++ms):=List.map_append.symm
theorem nL_push:nL ns++[.int (n:Int)]=nL (ns++[n]):=nL_append (ms:=[n])
theorem nL_take:(nL ns).take n=nL (ns.take n):=List.map_take.symm
theorem nL_drop:(nL ns).drop n=nL (ns.drop n):=List.map_drop.symm
theorem tL_length:(tL ts).length=ts.length:=List.length_map _
theorem tL_append:tL ts++tL us=tL (ts++us):=List.map_append.symm
theorem tL_push:tL ts++[.tup (iL xs)]=tL (ts++[xs]):=tL_append (us:=[xs])
theorem rL_length:(rL adr n).length=n:=by unfold rL; rw [List.length_map,List.length_range]
theorem rL_at (h:i<n):(rL adr n)[i]?=some (.ref (adr i)):=by unfold rL; rw [List.getElem?_map,List.getElem?_range h]; rfl
theorem wL_length {adr:Int→Nat}{wd:List (Int×List Nat)}:(wL adr wd).length=wd.length:=List.length_map _
theorem wL_get {adr:Int→Nat}{wd:List (Int×List Nat)}{l:Int}:kget (wL adr wd) l=(tget wd l).map fun uu=>.ref (adr l):=by
 induction wd with
 | nil=>rfl
 | cons p r ih=>
  show kget ((p.1,MV.ref (adr p.1))::wL adr r) l=_
  rw [kget_cons,tget_cons,ih]
  by_cases c:p.1=l
  ·rw [if_pos c,if_pos c,← c]; rfl
  ·rw [if_neg c,if_neg c]
theorem clamp_nat {n i:Nat}:clamp n (i:Int)=min i n:=if_pos (Int.natCast_nonneg i)
end
noncomputable def oN:Option Nat→MV
 | none=>.none
 | some n=>.int (n:Int)
noncomputable def oB:Option Bool→MV
 | none=>.none
 | some b=>.bool b
noncomputable def attrs (σ:St)(adr:Tag→Nat):List (Nat×MV):=
 [(18,.ref (adr .kn)),(9,.ref (adr .hh)),(19,.ref (adr .ca)),(8,.ref (adr .ro)),(7,.ref (adr .be)),(20,.int σ.seen),(21,.ref (adr .li)),(22,.ref (adr .R)),(23,.ref (adr .w)),(24,.ref (adr .ht)),
  (25,.int σ.gain),(11,.ref (adr .lg)),(13,.bool σ.ref),(26,.tup (iL σ.bl)),(10,.int σ.cl),(27,.int σ.lim)]
noncomputable def want (σ:St)(adr:Tag→Nat):Tag→MObj
 | .s=>.inst (attrs σ adr)
 | .kn=>.idict (mvs .bool σ.kn)
 | .hh=>.idict (mvs iN σ.hh)
 | .ca=>.idict (mvs oN σ.ca)
 | .li=>.idict (mvs .bool σ.li)
 | .ht=>.idict (mvs .int σ.ht)
 | .ro=>.list (iL σ.row)
 | .be=>.list (nL σ.be)
 | .R=>.list (rL (fun i=>adr (.row i)) σ.rows.length)
 | .w=>.idict (wL (fun l=>adr (.wat l)) σ.wd)
 | .lg=>.list (tL σ.lg)
 | .row i=>.list (iL (σ.rows.getD i []))
 | .wat l=>.list (nL ((tget σ.wd l).getD []))
noncomputable def live (σ:St):Tag→Prop
 | .row i=>i<σ.rows.length
 | .wat l=>(tget σ.wd l).isSome=true
 | _=>True
noncomputable abbrev XH:=Nat→Option MObj
noncomputable def XH.put (X:XH)(a:Nat)(o:MObj):XH:=fun b=>if b=a then some o else X b
noncomputable def XH.cut (X:XH)(a:Nat):XH:=fun b=>if b=a then none else X b
structure Apart (adr:Tag→Nat)(h:MHeap)(σ:St)(a:Nat)(o:MObj):Prop where
 obj:h.obj a=some o
 lt:a<h.next
 ne:∀ t,live σ t→adr t≠a
structure Sim (adr:Tag→Nat)(h:MHeap)(σ:St)(X:XH):Prop where
 obj:∀ t,live σ t→h.obj (adr t)=some (want σ adr t)
 lt:∀ t,live σ t→adr t<h.next
 inj:∀ t t',live σ t→live σ t'→adr t=adr t'→t=t'
 out:∀ a o,X a=some o→Apart adr h σ a o
section
variable {adr:Tag→Nat}{h:MHeap}{σ:St}{X:XH}
theorem set_same {a:Nat}{o:MObj}:(h.set a o).obj a=some o:=if_pos rfl
theorem set_ne {a b:Nat}{o:MObj}(q:b≠a):(h.set a o).obj b=h.obj b:=if_neg q
theorem new_same {o:MObj}:(h.new o).obj h.next=some o:=if_pos rfl
theorem new_ne {b:Nat}{o:MObj}(q:b<h.next):(h.new o).obj b=h.obj b:=if_neg (Nat.ne_of_lt q)
theorem put_same {a:Nat}{o:MObj}:(X.put a o) a=some o:=if_pos rfl
theorem put_ne {a b:Nat}{o:MObj}(q:b≠a):(X.put a o) b=X b:=if_neg q
theorem Sim.upd (S:Sim adr h σ X){σ':St}(t:Tag)(ht:live σ t)(hl:∀ t',live σ' t'↔live σ t')(hw:∀ t',t'≠t→want σ' adr t'=want σ adr t'):Sim adr (h.set (adr t) (want σ' adr t)) σ' X where
 obj t' l:=by
  have l:=(hl t').mp l
  by_cases e:t'=t
  ·rw [e]; exact set_same
  ·rw [set_ne fun q=>e (S.inj _ _ l ht q),S.obj t' l,hw t' e]
 lt t' l:=S.lt t' ((hl t').mp l)
 inj t t' l l' e:=S.inj _ _ ((hl _).mp l) ((hl _).mp l') e
 out a o e:=⟨(set_ne fun q=>(S.out a o e).ne t ht q.symm).trans (S.out a o e).obj,(S.out a o e).lt,fun t' l=>(S.out a o e).ne t' ((hl _).mp l)⟩
theorem Sim.none_at (S:Sim adr h σ X){a:Nat}(ha:h.next≤a):X a=none:=by
 by_cases e:X a=none
 ·exact e
 ·obtain ⟨o,e⟩:=Option.ne_none_iff_exists'.mp e
  exact absurd (S.out a o e).lt (Nat.not_lt.mpr ha)
theorem Sim.push (S:Sim adr h σ X)(o:MObj):Sim adr (h.new o) σ (X.put h.next o) where
 obj t l:=(new_ne (S.lt t l)).trans (S.obj t l)
 lt t l:=Nat.lt_succ_of_lt (S.lt t l)
 inj:=S.inj
 out a o' e:=by
  by_cases c:a=h.next
  ·rw [c,put_same] at e
   rw [c,← Option.some.inj e]
   exact ⟨new_same,Nat.lt_succ_self _,fun t l=>Nat.ne_of_lt (S.lt t l)⟩
  ·rw [put_ne c] at e
   exact ⟨(new_ne (S.out a o' e).lt).trans (S.out a o' e).obj,Nat.lt_succ_of_lt (S.out a o' e).lt,(S.out a o' e).ne⟩
theorem Sim.poke (S:Sim adr h σ X){a:Nat}{o:MObj}(e:X a=some o)(o':MObj):Sim adr (h.set a o') σ (X.put a o') where
 obj t l:=(set_ne ((S.out a o e).ne t l)).trans (S.obj t l)
 lt:=S.lt
 inj:=S.inj
 out b p q:=by
  by_cases c:b=a
  ·rw [c,put_same] at q
   rw [c,← Option.some.inj q]
   exact ⟨set_same,(S.out a o e).lt,(S.out a o e).ne⟩
  ·rw [put_ne c] at q
   exact ⟨(set_ne c).trans (S.out b p q).obj,(S.out b p q).lt,(S.out b p q).ne⟩
theorem Sim.less (S:Sim adr h σ X){X':XH}(hx:∀ a o,X' a=some o→X a=some o):Sim adr h σ X':=⟨S.obj,S.lt,S.inj,fun a o e=>S.out a o (hx a o e)⟩
noncomputable def mv (adr:Tag→Nat)(t:Tag)(n:Nat):Tag→Nat:=fun t'=>if t'=t then n else adr t'
theorem mv_same {t:Tag}{n:Nat}:mv adr t n t=n:=if_pos rfl
theorem mv_ne {t t':Tag}{n:Nat}(h:t'≠t):mv adr t n t'=adr t':=if_neg h
theorem Sim.adopt (S:Sim adr h σ X){σ':St}(t0 t1:Tag){n:Nat}(hX:X n=some (want σ' (mv adr t1 n) t1))(h0:live σ t0)
  (hl:∀ t,t≠t1→live σ' t→live σ t)(hw:∀ t,t≠t0→t≠t1→live σ' t→want σ' (mv adr t1 n) t=want σ adr t) :
  Sim (mv adr t1 n) (h.set (adr t0) (want σ' (mv adr t1 n) t0)) σ' (X.cut n) where
 obj t l:=by
  by_cases c:t=t1
  ·rw [c,mv_same,set_ne fun q=>(S.out _ _ hX).ne t0 h0 q.symm,(S.out _ _ hX).obj]
  ·rw [mv_ne c]
   by_cases e:t=t0
   ·rw [e]; exact set_same
   ·rw [set_ne fun q=>e (S.inj _ _ (hl t c l) h0 q),S.obj t (hl t c l),hw t e c l]
 lt t l:=by
  by_cases c:t=t1
  ·rw [c,mv_same]; exact (S.out _ _ hX).lt
  ·rw [mv_ne c]; exact S.lt t (hl t c l)
 inj t t' l l' e:=by
  by_cases c:t=t1
  ·by_cases c':t'=t1
   ·rw [c,c']
   ·rw [c,mv_same,mv_ne c'] at e
    exact absurd e.symm ((S.out _ _ hX).ne t' (hl _ c' l'))
  ·by_cases c':t'=t1
   ·rw [c',mv_same,mv_ne c] at e
    exact absurd e ((S.out _ _ hX).ne t (hl _ c l))
   ·rw [mv_ne c,mv_ne c'] at e
    exact S.inj _ _ (hl _ c l) (hl _ c' l') e
 out a o e:=by
  by_cases c:a=n
  ·rw [c] at e; exact ns ((if_pos rfl).symm.trans e)
  ·have e:X a=some o:=(if_neg c).symm.trans e
   refine ⟨(set_ne fun q=>(S.out a o e).ne t0 h0 q.symm).trans (S.out a o e).obj,(S.out a o e).lt,fun t l=>?_⟩
   by_cases c':t=t1
   ·rw [c',mv_same]; exact fun q=>c q.symm
   ·rw [mv_ne c']; exact (S.out a o e).ne t (hl t c' l)
theorem Sim.free (S:Sim adr h σ X){σ':St}(t0 t1:Tag)(hne:t0≠t1)(h0:live σ t0)(h1:live σ t1)(hl:∀ t,live σ' t→live σ t)(hd:¬ live σ' t1)(hw:∀ t,t≠t0→live σ' t→want σ' adr t=want σ adr t) :
  Sim adr (h.set (adr t0) (want σ' adr t0)) σ' (X.put (adr t1) (want σ adr t1)) where
 obj t l:=by
  by_cases e:t=t0
  ·rw [e]; exact set_same
  ·rw [set_ne fun q=>e (S.inj _ _ (hl t l) h0 q),S.obj t (hl t l),hw t e l]
 lt t l:=S.lt t (hl t l)
 inj t t' l l' e:=S.inj _ _ (hl _ l) (hl _ l') e
 out a o e:=by
  by_cases c:a=adr t1
  ·rw [c,put_same] at e
   rw [c,← Option.some.inj e]
   exact ⟨(set_ne fun q=>hne (S.inj _ _ h1 h0 q).symm).trans (S.obj t1 h1),S.lt _ h1,fun t l q=>hd (S.inj _ _ (hl t l) h1 q▸l)⟩
  ·rw [put_ne c] at e
   exact ⟨(set_ne fun q=>(S.out a o e).ne t0 h0 q.symm).trans (S.out a o e).obj,(S.out a o e).lt,fun t l=>(S.out a o e).ne t (hl t l)⟩
end
end Mini.C
end
section
namespace Mini.C
open Mini
structure Lib (P:MProg) where
 fSays:Nat
 fLet:Nat
 fBack:Nat
 fAdd:Nat
 fRefute:Nat
 fKeep:Nat
 fSpread:Nat
 fMoved:Nat
 fInit0:Nat
 mSays:P.meths.lookup 15=some fSays
 mLet:P.meths.lookup 17=some fLet
 mBack:P.meths.lookup 29=some fBack
 mAdd:P.meths.lookup 28=some fAdd
 mRefute:P.meths.lookup 30=some fRefute
 mKeep:P.meths.lookup 31=some fKeep
 mSpread:P.meths.lookup 16=some fSpread
 mMoved:P.meths.lookup 32=some fMoved
 bOrdered:P.fns[0]?=some f_ordered
 bSays:P.fns[fSays]?=some f_Values_says
 bLet:P.fns[fLet]?=some f_Values_let
 bBack:P.fns[fBack]?=some f_Values_back_to
 bAdd:P.fns[fAdd]?=some f_Search_add_clause
 bRefute:P.fns[fRefute]?=some f_Search_refute
 bKeep:P.fns[fKeep]?=some f_Search_keep
 bSpread:P.fns[fSpread]?=some f_Search_spread
 bMoved:P.fns[fMoved]?=some f_Search_has_moved
 bInit:P.fns[P.init]?=some { f_Search___init__ with sup:=some fInit0 }
 bInit0:P.fns[fInit0]?=some f_Values___init__
section
variable {P:MProg}{sc:List Int}{d:Nat}{adr:Tag→Nat}{h:MHeap}{σ:St}{X:XH}{Q:KV}
theorem enter {f:Nat}{fn:MFn}{args:List MV}(hb:P.fns[f]?=some fn)(hn:fn.npar=args.length)(hs:fn.sup=none)(q:exs (lg P sc d) fn.body (retQ Q) (bindV args) h):callD P sc (d + 1) f args Q h:=.mk hb ⟨hn,by rw [hs]; exact q⟩
noncomputable def St.says (σ:St)(l:Int):Option Bool:=(tget σ.kn l.natAbs).map (·==decide (0<l))
theorem Sim.s (S:Sim adr h σ X):h.obj (adr .s)=some (.inst (attrs σ adr)):=S.obj .s trivial
theorem Sim.kn (S:Sim adr h σ X):h.obj (adr .kn)=some (.idict (mvs .bool σ.kn)):=S.obj .kn trivial
theorem Sim.hh (S:Sim adr h σ X):h.obj (adr .hh)=some (.idict (mvs iN σ.hh)):=S.obj .hh trivial
theorem Sim.ca (S:Sim adr h σ X):h.obj (adr .ca)=some (.idict (mvs oN σ.ca)):=S.obj .ca trivial
theorem Sim.li (S:Sim adr h σ X):h.obj (adr .li)=some (.idict (mvs .bool σ.li)):=S.obj .li trivial
theorem Sim.ht (S:Sim adr h σ X):h.obj (adr .ht)=some (.idict (mvs .int σ.ht)):=S.obj .ht trivial
theorem Sim.ro (S:Sim adr h σ X):h.obj (adr .ro)=some (.list (iL σ.row)):=S.obj .ro trivial
theorem Sim.be (S:Sim adr h σ X):h.obj (adr .be)=some (.list (nL σ.be)):=S.obj .be trivial
theorem Sim.R (S:Sim adr h σ X):h.obj (adr .R)=some (.list (rL (fun i=>adr (.row i)) σ.rows.length)):=S.obj .R trivial
theorem Sim.w (S:Sim adr h σ X):h.obj (adr .w)=some (.idict (wL (fun l=>adr (.wat l)) σ.wd)):=S.obj .w trivial
theorem Sim.lg (S:Sim adr h σ X):h.obj (adr .lg)=some (.list (tL σ.lg)):=S.obj .lg trivial
theorem Sim.set_kn (S:Sim adr h σ X)(x:List (Int×Bool)):Sim adr (h.set (adr .kn) (.idict (mvs .bool x))) (σ.sKn x) X:=S.upd (σ':=σ.sKn x) .kn trivial (fun uu=>Iff.rfl) fun t n=>by cases t <;> first | rfl | exact absurd rfl n
theorem Sim.set_hh (S:Sim adr h σ X)(x:List (Int×Nat)):Sim adr (h.set (adr .hh) (.idict (mvs iN x))) (σ.sHh x) X:=S.upd (σ':=σ.sHh x) .hh trivial (fun uu=>Iff.rfl) fun t n=>by cases t <;> first | rfl | exact absurd rfl n
theorem Sim.set_ca (S:Sim adr h σ X)(x:List (Int×Option Nat)):Sim adr (h.set (adr .ca) (.idict (mvs oN x))) (σ.sCa x) X:=S.upd (σ':=σ.sCa x) .ca trivial (fun uu=>Iff.rfl) fun t n=>by cases t <;> first | rfl | exact absurd rfl n
theorem Sim.set_li (S:Sim adr h σ X)(x:List (Int×Bool)):Sim adr (h.set (adr .li) (.idict (mvs .bool x))) (σ.sLi x) X:=S.upd (σ':=σ.sLi x) .li trivial (fun uu=>Iff.rfl) fun t n=>by cases t <;> first | rfl | exact absurd rfl n
theorem Sim.set_ht (S:Sim adr h σ X)(x:List (Int×Int)):Sim adr (h.set (adr .ht) (.idict (mvs .int x))) (σ.sHt x) X:=S.upd (σ':=σ.sHt x) .ht trivial (fun uu=>Iff.rfl) fun t n=>by cases t <;> first | rfl | exact absurd rfl n
theorem Sim.set_row (S:Sim adr h σ X)(x:List Int):Sim adr (h.set (adr .ro) (.list (iL x))) (σ.sRow x) X:=S.upd (σ':=σ.sRow x) .ro trivial (fun uu=>Iff.rfl) fun t n=>by cases t <;> first | rfl | exact absurd rfl n
theorem Sim.set_be (S:Sim adr h σ X)(x:List Nat):Sim adr (h.set (adr .be) (.list (nL x))) (σ.sBe x) X:=S.upd (σ':=σ.sBe x) .be trivial (fun uu=>Iff.rfl) fun t n=>by cases t <;> first | rfl | exact absurd rfl n
theorem Sim.set_lg (S:Sim adr h σ X)(x:List (List Int)):Sim adr (h.set (adr .lg) (.list (tL x))) (σ.sLg x) X:=S.upd (σ':=σ.sLg x) .lg trivial (fun uu=>Iff.rfl) fun t n=>by cases t <;> first | rfl | exact absurd rfl n
theorem Sim.set_at (S:Sim adr h σ X){σ':St}{n:Nat}{w:MV}(e:attrs σ' adr=kset (attrs σ adr) n w)(hl:∀ t,live σ' t↔live σ t)(hw:∀ t,t≠.s→want σ' adr t=want σ adr t):Sim adr (h.set (adr .s) (.inst (kset (attrs σ adr) n w))) σ' X:=
 e▸S.upd (σ':=σ') .s trivial hl hw
theorem Sim.set_seen (S:Sim adr h σ X)(n:Nat):Sim adr (h.set (adr .s) (.inst (kset (attrs σ adr) 20 (.int n)))) (σ.sSeen n) X:=S.set_at rfl (fun uu=>Iff.rfl) fun t n=>by cases t <;> first | rfl | exact absurd rfl n
theorem Sim.set_gain (S:Sim adr h σ X)(i:Int):Sim adr (h.set (adr .s) (.inst (kset (attrs σ adr) 25 (.int i)))) (σ.sGain i) X:=S.set_at rfl (fun uu=>Iff.rfl) fun t n=>by cases t <;> first | rfl | exact absurd rfl n
theorem Sim.set_ref (S:Sim adr h σ X)(b:Bool):Sim adr (h.set (adr .s) (.inst (kset (attrs σ adr) 13 (.bool b)))) (σ.sRef b) X:=S.set_at rfl (fun uu=>Iff.rfl) fun t n=>by cases t <;> first | rfl | exact absurd rfl n
theorem Sim.set_cl (S:Sim adr h σ X)(i:Int):Sim adr (h.set (adr .s) (.inst (kset (attrs σ adr) 10 (.int i)))) (σ.sCl i) X:=S.set_at rfl (fun uu=>Iff.rfl) fun t n=>by cases t <;> first | rfl | exact absurd rfl n
end
end Mini.C
end
section
namespace Mini.C
open Mini
noncomputable abbrev fitN:Nat:=500000
noncomputable def fit (σ:St):Bool:=decide (σ.kn.length<fitN∧σ.hh.length<fitN∧σ.ca.length<fitN∧σ.li.length<fitN∧σ.ht.length<fitN∧σ.row.length<fitN∧σ.be.length<fitN∧σ.rows.length<fitN∧σ.wd.length<fitN∧σ.lg.length<fitN∧(σ.wd.map (·.1)).Nodup∧∀ p∈σ.wd,p.2.length<fitN)
noncomputable def St.let' (σ:St)(l:Int)(c:Option Nat):St:=
 { σ with kn:=tset σ.kn l.natAbs (decide (0<l)),hh:=tset σ.hh l.natAbs σ.be.length,ca:=tset σ.ca l.natAbs c,row:=σ.row++[l] }
section
variable {P:MProg}{sc:List Int}{d:Nat}{adr:Tag→Nat}{h:MHeap}{σ:St}{X:XH}{Q:KV}
theorem fit_kn (hf:fit σ=true):σ.kn.length<fitN:=(of_decide_eq_true hf).1
theorem fit_hh (hf:fit σ=true):σ.hh.length<fitN:=(of_decide_eq_true hf).2.1
theorem fit_ca (hf:fit σ=true):σ.ca.length<fitN:=(of_decide_eq_true hf).2.2.1
theorem fit_li (hf:fit σ=true):σ.li.length<fitN:=(of_decide_eq_true hf).2.2.2.1
theorem fit_ht (hf:fit σ=true):σ.ht.length<fitN:=(of_decide_eq_true hf).2.2.2.2.1
theorem fit_row (hf:fit σ=true):σ.row.length<fitN:=(of_decide_eq_true hf).2.2.2.2.2.1
theorem fit_be (hf:fit σ=true):σ.be.length<fitN:=(of_decide_eq_true hf).2.2.2.2.2.2.1
theorem fit_rows (hf:fit σ=true):σ.rows.length<fitN:=(of_decide_eq_true hf).2.2.2.2.2.2.2.1
theorem fit_wd (hf:fit σ=true):σ.wd.length<fitN:=(of_decide_eq_true hf).2.2.2.2.2.2.2.2.1
theorem fit_lg (hf:fit σ=true):σ.lg.length<fitN:=(of_decide_eq_true hf).2.2.2.2.2.2.2.2.2.1
theorem fit_nd (hf:fit σ=true):(σ.wd.map (·.1)).Nodup:=(of_decide_eq_true hf).2.2.2.2.2.2.2.2.2.2.1
theorem fit_wat (hf:fit σ=true):∀ p∈σ.wd,p.2.length<fitN:=(of_decide_eq_true hf).2.2.2.2.2.2.2.2.2.2.2
theorem eq_lt {a b c:Nat}(e:a=b)(h:b<c):a<c:=e▸h
theorem fit_line {n:Nat}(h:n<fitN):n<lenLine:=Nat.lt_of_lt_of_le h (Nat.le_of_ble_eq_true rfl)
theorem mvs_line {α:Type}{f:α→MV}{es:List (Int×α)}(h:es.length<fitN):(mvs f es).length<lenLine:=eq_lt mvs_length (fit_line h)
section
variable {L:Lg}{ρ:Vars}{x n:Nat}{w:MV}{e i:ME}{r:MSs}{R:KF}{k:Int}{t:Bool}
theorem Sim.at (S:Sim adr h σ X)(q:ρ x=some (.ref (adr .s)))(k:kget (attrs σ adr) n=some w):Ev L ρ h (.attr (.var x) n) w:=e_attr (e_var q) (.mk S.s k)
theorem Sim.len_be (S:Sim adr h σ X)(q:ρ x=some (.ref (adr .s))):Ev L ρ h (.callB .len (.cons (.attr (.var x) 7) .nil)) (iN σ.be.length):=nL_length (ns:=σ.be)▸e_len (S.at q rfl) S.be
theorem Sim.len_row (S:Sim adr h σ X)(q:ρ x=some (.ref (adr .s))):Ev L ρ h (.callB .len (.cons (.attr (.var x) 8) .nil)) (iN σ.row.length):=iL_length (xs:=σ.row)▸e_len (S.at q rfl) S.ro
theorem Sim.len_rows (S:Sim adr h σ X)(q:ρ x=some (.ref (adr .s))):Ev L ρ h (.callB .len (.cons (.attr (.var x) 22) .nil)) (iN σ.rows.length):=rL_length (n:=σ.rows.length)▸e_len (S.at q rfl) S.R
theorem Sim.row_at (S:Sim adr h σ X)(q:ρ x=some (.ref (adr .s))){j:Nat}{l:Int}(E:Ev L ρ h i (iN j))(e:σ.row[j]?=some l):Ev L ρ h (.sub (.attr (.var x) 8) i) (.int l):=
 e_sub (S.at q rfl) E (.list S.ro (.pos (iL_length.symm▸(List.getElem?_eq_some_iff.mp e).1)) (iL_at e))
theorem Sim.be_at (S:Sim adr h σ X)(q:ρ x=some (.ref (adr .s))){j m:Nat}(E:Ev L ρ h i (iN j))(e:σ.be[j]?=some m):Ev L ρ h (.sub (.attr (.var x) 7) i) (iN m):=
 e_sub (S.at q rfl) E (.list S.be (.pos (nL_length.symm▸(List.getElem?_eq_some_iff.mp e).1)) (nL_at e))
theorem kget_at {α:Type}{f:α→MV}{es:List (Int×α)}{a:α}(e:tget es k=some a):kget (mvs f es) k=some (f a):=by rw [kget_mvs,e]; rfl
theorem x_kn (S:Sim adr h σ X)(q:ρ x=some (.ref (adr .s))){b:Bool}(E:Ev L ρ h e (.bool b))(I:Ev L ρ h i (.int k))(l:σ.kn.length<fitN)(H:∀ h',Sim adr h' (σ.sKn (tset σ.kn k b)) X→exs L r R ρ h'):exs L (.cons (.assign (.sub (.attr (.var x) 18) i) e) r) R ρ h:=
 x_setI E (S.at q rfl) I (.idict S.kn (mvs_line l)) (H _ (kset_mvs (f:=.bool)▸S.set_kn _))
theorem x_hh (S:Sim adr h σ X)(q:ρ x=some (.ref (adr .s))){b:Nat}(E:Ev L ρ h e (iN b))(I:Ev L ρ h i (.int k))(l:σ.hh.length<fitN)(H:∀ h',Sim adr h' (σ.sHh (tset σ.hh k b)) X→exs L r R ρ h'):exs L (.cons (.assign (.sub (.attr (.var x) 9) i) e) r) R ρ h:=
 x_setI E (S.at q rfl) I (.idict S.hh (mvs_line l)) (H _ (kset_mvs (f:=iN)▸S.set_hh _))
theorem x_ca (S:Sim adr h σ X)(q:ρ x=some (.ref (adr .s))){b:Option Nat}(E:Ev L ρ h e (oN b))(I:Ev L ρ h i (.int k))(l:σ.ca.length<fitN)(H:∀ h',Sim adr h' (σ.sCa (tset σ.ca k b)) X→exs L r R ρ h'):exs L (.cons (.assign (.sub (.attr (.var x) 19) i) e) r) R ρ h:=
 x_setI E (S.at q rfl) I (.idict S.ca (mvs_line l)) (H _ (kset_mvs (f:=oN)▸S.set_ca _))
theorem x_ht (S:Sim adr h σ X)(q:ρ x=some (.ref (adr .s))){b:Int}(E:Ev L ρ h e (.int b))(I:Ev L ρ h i (.int k))(l:σ.ht.length<fitN)(H:∀ h',Sim adr h' (σ.sHt (tset σ.ht k b)) X→exs L r R ρ h'):exs L (.cons (.assign (.sub (.attr (.var x) 24) i) e) r) R ρ h:=
 x_setI E (S.at q rfl) I (.idict S.ht (mvs_line l)) (H _ (kset_mvs (f:=.int)▸S.set_ht _))
theorem x_row (S:Sim adr h σ X)(q:ρ x=some (.ref (adr .s))){b:Int}(E:Ev L ρ h e (.int b))(l:σ.row.length<fitN)(H:∀ h',Sim adr h' (σ.sRow (σ.row++[b])) X→exs L r R ρ h'):exs L (.cons (.expr (.callM (.attr (.var x) 8) 0 (.cons e .nil))) r) R ρ h:=
 m_append (S.at q rfl) S.ro E (eq_lt iL_length (fit_line l)) (H _ (iL_push▸S.set_row _))
theorem x_lg (S:Sim adr h σ X)(q:ρ x=some (.ref (adr .s))){c:List Int}(E:Ev L ρ h e (.tup (iL c)))(l:σ.lg.length<fitN)(H:∀ h',Sim adr h' (σ.sLg (σ.lg++[c])) X→exs L r R ρ h'):exs L (.cons (.expr (.callM (.attr (.var x) 11) 0 (.cons e .nil))) r) R ρ h:=
 m_append (S.at q rfl) S.lg E (eq_lt tL_length (fit_line l)) (H _ (tL_push▸S.set_lg _))
theorem x_at (S:Sim adr h σ X)(q:ρ x=some (.ref (adr .s)))(E:Ev L ρ h e w){σ':St}(S':Sim adr (h.set (adr .s) (.inst (kset (attrs σ adr) n w))) σ' X)(H:∀ h',Sim adr h' σ' X→exs L r R ρ h'):exs L (.cons (.assign (.attr (.var x) n) e) r) R ρ h:=
 x_setA E (e_var q) (.mk S.s (Nat.le_of_ble_eq_true rfl)) (H _ S')
end
theorem says_spec (L:Lib P)(S:Sim adr h σ X)(l:Int)(q:Q (oB (σ.says l)) h):callD P sc (d + 1) L.fSays [.ref (adr .s),.int l] Q h:=by
 refine enter L.bSays rfl rfl (x_let (e_get (S.at rfl rfl) S.kn (e_abs (e_var rfl))) ?_)
 rw [kget_mvs]
 revert q
 unfold St.says
 rcases tget σ.kn l.natAbs with _ | b <;> intro q
 ·exact x_ret (e_iteT (e_cmp (e_var rfl) e_none (.is .nn)) (.bool _) e_none) q
 ·exact x_ret (e_iteF (e_cmp (e_var rfl) e_none (.is (.bn b))) (.bool _) (e_cmp (e_var rfl) (e_cmp (e_var rfl) e_int (.gt _ _)) (.eq (.flat (.at (.bb _ _)))))) q
theorem let_spec (L:Lib P)(S:Sim adr h σ X)(hf:fit σ=true)(l:Int)(c:Option Nat)(q:∀ h',Sim adr h' (σ.let' l c) X→Q .none h'):callD P sc (d + 1) L.fLet [.ref (adr .s),.int l,oN c] Q h:=
 enter L.bLet rfl rfl <| x_let (e_abs (e_var rfl)) <|
 x_kn S rfl (e_cmp (e_var rfl) e_int (.gt _ _)) (e_var rfl) (fit_kn hf) fun uu S=>
 x_hh S rfl (S.len_be rfl) (e_var rfl) (fit_hh (σ:=σ) hf) fun uu S=>
 x_ca S rfl (e_var rfl) (e_var rfl) (fit_ca (σ:=σ) hf) fun uu S=>
 x_row S rfl (e_var rfl) (fit_row (σ:=σ) hf) fun uu S=>q _ S
noncomputable def St.refute (σ:St):St:={ σ with ref:=true,lg:=σ.lg++[[]] }
theorem refute_spec (L:Lib P)(S:Sim adr h σ X)(hf:fit σ=true)(q:∀ h',Sim adr h' σ.refute X→Q .none h'):callD P sc (d + 1) L.fRefute [.ref (adr .s)] Q h:=
 enter L.bRefute rfl rfl <| x_at S rfl e_bool (S.set_ref true) fun uu S=>
 x_lg (c:=[]) S rfl (e_tup e_nil (Nat.zero_le _) rfl) (fit_lg (σ:=σ) hf) fun uu S=>q _ S
end
end Mini.C
end
section
namespace Mini.C
open Mini
section
variable {P:MProg}{sc:List Int}{d:Nat}{adr:Tag→Nat}{h:MHeap}{σ:St}{X:XH}{Q:KV}
noncomputable def St.pop (σ:St)(l:Int)(b:Bool):St:={ σ with row:=σ.row.dropLast,kn:=tdel σ.kn l.natAbs,li:=tset σ.li l.natAbs b }
noncomputable def popTo (n:Nat):Nat→St→Option St
 | 0,σ=>if σ.row.length≤n then some σ else none
 | k + 1,σ=>if σ.row.length≤n then some σ else
  match σ.row.getLast? with
  | none=>none
  | some l=>match tget σ.kn l.natAbs with
   | none=>none
   | some b=>if fit σ then popTo n k (σ.pop l b) else none
noncomputable def St.back (σ:St)(H:Nat):Option St:=
 match σ.be[H]? with
 | none=>some σ
 | some n=>(popTo n σ.row.length σ).map fun σ'=>{ σ' with be:=σ.be.take H,seen:=σ'.row.length }
inductive PopStep (n k:Nat)(σ σ1:St):Prop
 | mk (k':Nat)(l:Int)(b:Bool)(ek:k=k' + 1)(el:σ.row.getLast?=some l)(ev:tget σ.kn l.natAbs=some b)(hf:fit σ=true)(ep:popTo n k' (σ.pop l b)=some σ1)
theorem popTo_step {n k:Nat}{σ σ1:St}(hr:n<σ.row.length)(ep:popTo n k σ=some σ1):PopStep n k σ σ1:=by
 rcases k with _ | k
 ·exact ns ((if_neg (Nat.not_le.mpr hr)).symm.trans ep)
 ·have ep:=(if_neg (Nat.not_le.mpr hr)).symm.trans ep
  revert ep
  generalize el:σ.row.getLast?=ol
  rcases ol with _ | l
  ·exact fun ep=>ns ep
  ·dsimp only
   generalize ek:tget σ.kn l.natAbs=ob
   rcases ob with _ | b
   ·exact fun ep=>ns ep
   ·intro ep
    by_cases hf:fit σ=true
    ·exact ⟨k,l,b,rfl,el,ek,hf,(if_pos hf).symm.trans ep⟩
    ·exact ns ((if_neg hf).symm.trans ep)
theorem popTo_end {n k:Nat}{σ σ1:St}(hr:σ.row.length≤n)(ep:popTo n k σ=some σ1):σ=σ1:=by
 rcases k with _ | k <;> exact Option.some.inj ((if_pos hr).symm.trans ep)
theorem last_eq {α:Type}{xs:List α}{l:α}(e:xs.getLast?=some l):xs=xs.dropLast++[l]:=by
 obtain ⟨ys,rfl⟩:=List.getLast?_eq_some_iff.mp e
 rw [List.dropLast_concat]
theorem Sim.put_less (S:Sim adr h σ X){o:MObj}{adr':Tag→Nat}{h':MHeap}{σ':St}(S':Sim adr' h' σ' (X.put h.next o)):Sim adr' h' σ' X:=
 S'.less fun a o' e=>(put_ne fun q=>by rw [q,S.none_at (Nat.le_refl _)] at e; exact ns e).trans e
theorem Sim.cut_less (S:Sim adr h σ X){o:MObj}{adr':Tag→Nat}{h':MHeap}{σ':St}(S':Sim adr' h' σ' ((X.put h.next o).cut h.next)):Sim adr' h' σ' X:=
 S'.less fun a o' e=>by
  have n:a≠h.next:=fun q=>by rw [q,S.none_at (Nat.le_refl _)] at e; exact ns e
  exact (if_neg n).trans ((put_ne n).trans e)
theorem Sim.fresh (S:Sim adr h σ X){σ':St}{t:Tag}(ht:t≠.s){n:Nat}{o:MObj}(ho:want σ' (mv adr t h.next) t=o)(e:attrs σ' (mv adr t h.next)=kset (attrs σ adr) n (.ref h.next))
  (hl:∀ t,live σ' t→live σ t)(hw:∀ u,u≠.s→u≠t→want σ' (mv adr t h.next) u=want σ adr u):Sim (mv adr t h.next) ((h.new o).set (adr .s) (.inst (kset (attrs σ adr) n (.ref h.next)))) σ' X:=
 S.cut_less (o:=o) (e▸(S.push o).adopt (σ':=σ') .s t (put_same.trans (congrArg some ho.symm)) trivial (fun u uu l=>hl u l) fun u a b uu=>hw u a b)
theorem Sim.new_be (S:Sim adr h σ X)(xs:List Nat):Sim (mv adr .be h.next) ((h.new (.list (nL xs))).set (adr .s) (.inst (kset (attrs σ adr) 7 (.ref h.next)))) (σ.sBe xs) X:=
 S.fresh (t:=.be) Tag.noConfusion rfl rfl (fun uu l=>l) fun t n m=>by cases t <;> first | rfl | exact absurd rfl n | exact absurd rfl m
theorem Sim.new_ht (S:Sim adr h σ X)(es:List (Int×Int)):Sim (mv adr .ht h.next) ((h.new (.idict (mvs .int es))).set (adr .s) (.inst (kset (attrs σ adr) 24 (.ref h.next)))) (σ.sHt es) X:=
 S.fresh (t:=.ht) Tag.noConfusion rfl rfl (fun uu l=>l) fun t n m=>by cases t <;> first | rfl | exact absurd rfl n | exact absurd rfl m
theorem take_min {α:Type}{xs:List α}{n:Nat}:xs.take (min n xs.length)=xs.take n:=by
 rcases Nat.le_total n xs.length with q | q
 ·rw [Nat.min_eq_left q]
 ·rw [Nat.min_eq_right q,List.take_of_length_le q,List.take_of_length_le (Nat.le_refl _)]
theorem x_be {L:Lg}{ρ:Vars}{x H:Nat}{i:ME}{r:MSs}{R:KF}(S:Sim adr h σ X)(q:ρ x=some (.ref (adr .s)))(E:Ev L ρ h i (iN H))(K:∀ h',Sim (mv adr .be h.next) h' (σ.sBe (σ.be.take H)) X→exs L r R ρ h'):exs L (.cons (.assign (.attr (.var x) 7) (.sliceTo (.attr (.var x) 7) i)) r) R ρ h:=by
 refine x_atr (m_to (S.at q rfl) E (.list _ S.be) ?_)
 rw [clamp_nat,nL_take,nL_length,take_min]
 exact a_setA (e_var q) (.mk (S.push _).s (Nat.le_of_ble_eq_true rfl)) (K _ (S.new_be _))
inductive BackI (adr:Tag→Nat)(X:XH)(H n:Nat)(be:List Nat)(σ1:St)(k:Nat)(ρ:Vars)(h:MHeap):Prop
 | mk {σ2:St}(r0:ρ 0=some (.ref (adr .s)))(r1:ρ 1=some (iN H))(S:Sim adr h σ2 X)(b:σ2.be=be)(e:popTo n k σ2=some σ1):BackI adr X H n be σ1 k ρ h
theorem dec_lt {n m:Nat}(k:decide ((n:Int)<(m:Int))=true):n<m:=Int.ofNat_lt.mp (of_decide_eq_true k)
theorem dec_nlt {n m:Nat}(k:decide ((n:Int)<(m:Int))=false):m≤n:=Nat.not_lt.mp fun q=>of_decide_eq_false k (Int.ofNat_lt.mpr q)
theorem back_spec (L:Lib P)(S:Sim adr h σ X)(H:Nat){σ':St}(e:σ.back H=some σ')(q:∀ h' adr',adr' .s=adr .s→Sim adr' h' σ' X→Q .none h'):callD P sc (d + 1) L.fBack [.ref (adr .s),.int (H:Int)] Q h:=by
 refine enter L.bBack rfl rfl (x_if (e_cmp (e_var rfl) (S.len_be rfl) (.lt _ _)) (fun k=>?_) fun k=>?_)
 ·have hH:=dec_lt k
  have eb:=List.getElem?_eq_getElem hH
  unfold St.back at e
  rw [eb] at e
  obtain ⟨σ1,e1,rfl⟩:=Option.map_eq_some_iff.mp e
  refine x_while (while_rule (BackI adr X H _ σ.be σ1) (fun k ρ h K I hK=>?_) (.mk rfl rfl S rfl e1))
  induction I with
  | @mk σ2 r0 r1 S b e=>
  refine (e_cmp (S.len_row r0) (S.be_at r0 (e_var r1) ((congrArg (·[H]?) b).trans eb)) (.gt _ _)) true _ (bool_fin (If.of (fun k=>?_) fun k=>?_))
  ·obtain ⟨k',l,b',rfl,el,ek,hf,ep⟩:=popTo_step (dec_lt k) e
   have R:h.obj (adr .ro)=some (.list (iL σ2.row.dropLast++[.int l])):=by rw [iL_push,← last_eq el]; exact S.ro
   refine x_var (m_bui1 (m_listM (S.at r0 rfl) R e_nil (Nat.le_of_ble_eq_true rfl) (.popL R) (.mk (.abs l) ?_)))
   have S:=S.set_row σ2.row.dropLast
   refine x_sub (m_dictM (S.at r0 rfl) S.kn (e_one (e_var rfl)) (.inl rfl) (.popD (r:=[]) S.kn (kget_at ek) (Nat.zero_le _)) ?_)
   rw [kdel_mvs]
   have S:=S.set_kn (tdel σ2.kn l.natAbs)
   exact a_setI (S.at r0 rfl) (e_var rfl) (.idict S.li (mvs_line (fit_li (σ:=σ2) hf))) (hK k' (Nat.lt_succ_self _) _ _ (.mk (σ2:=σ2.pop l b') r0 r1 (kset_mvs (f:=.bool)▸S.set_li (tset σ2.li l.natAbs b')) b ep))
  ·have e:=popTo_end (dec_nlt k) e
   subst e
   exact x_be S r0 (e_var r1) fun uu S=>x_at S r0 (S.len_row r0) (S.set_seen _) fun uu S=>q _ (mv adr .be h.next) rfl (by rw [b] at S; exact S)
 ·unfold St.back at e
  rw [List.getElem?_eq_none (dec_nlt k)] at e
  exact q _ _ rfl (Option.some.inj e▸S)
end
end Mini.C
end
section
namespace Mini.C
open Mini
section
variable {P:MProg}{sc:List Int}{d:Nat}{adr:Tag→Nat}{h:MHeap}{σ:St}{X:XH}{Q:KV}
inductive Seq (X:XH)(xs:List Int):MV→Prop
 | tup:Seq X xs (.tup (iL xs))
 | list {a:Nat}(e:X a=some (.list (iL xs))):Seq X xs (.ref a)
theorem Sim.o (S:Sim adr h σ X){a:Nat}{o:MObj}(e:X a=some o):h.obj a=some o:=(S.out a o e).obj
theorem Seq.items {v:MV}{xs:List Int}(q:Seq X xs v)(S:Sim adr h σ X):Items h v (iL xs):=by
 induction q with
 | tup=>exact .tup _
 | list e=>exact .list (S.o e)
theorem Seq.mono {v:MV}{xs:List Int}{X':XH}(q:Seq X xs v)(hx:∀ a o,X a=some o→X' a=some o):Seq X' xs v:=by
 induction q with
 | tup=>exact .tup
 | list e=>exact .list (hx _ _ e)
theorem put_put {a:Nat}{o o':MObj}:(X.put a o).put a o'=X.put a o':=by
 funext b
 by_cases c:b=a
 ·rw [c,put_same,put_same]
 ·rw [put_ne c,put_ne c,put_ne c]
theorem Sim.sub_put (S:Sim adr h σ X){o:MObj}:∀ a o',X a=some o'→(X.put h.next o) a=some o':=fun a o' e=>(put_ne fun q=>by rw [q,S.none_at (Nat.le_refl _)] at e; exact ns e).trans e
structure OrdOf (xs ys:List Int):Prop where
 sorted:ys.Pairwise (fun a b=>a.natAbs≤b.natAbs)
 nodup:ys.Nodup
 mem:∀ l,l∈ys↔l∈xs
noncomputable def Contra (xs:List Int):Prop:=∃ l∈xs,-l∈xs
inductive OrdI (adr:Tag→Nat)(σ:St)(X:XH)(n:Nat)(xs:List Int)(r:List MV)(ρ:Vars)(h:MHeap):Prop
 | mk {done rest:List Int}{es:List (Int×Bool)}(r1:ρ 1=some (.ref n))(e1:xs=done++rest)(e2:r=iL rest)(S:Sim adr h σ (X.put n (.idict (mvs .bool es))))(n1:(es.map (·.1)).Nodup)(n2:∀ l,l∈es.map (·.1)↔l∈done)(n3:es.length≤done.length)(n4:∀ l∈done,-l∉done):OrdI adr σ X n xs r ρ h
theorem mem_push {α:Type}{xs:List α}{x y:α}:y∈xs++[x]↔y∈xs∨y=x:=by rw [List.mem_append,List.mem_singleton]
theorem nodup_push {α:Type}{xs:List α}{x:α}(h:xs.Nodup)(n:x∉xs):(xs++[x]).Nodup:=by
 rw [List.nodup_append]
 exact ⟨h,List.nodup_cons.mpr ⟨List.not_mem_nil,List.nodup_nil⟩,fun a ha b hb q=>n (List.mem_singleton.mp hb▸q▸ha)⟩
theorem keys_mem {es:List (Int×Bool)}{x l:Int}{b:Bool}:l∈(tset es x b).map (·.1)↔l∈es.map (·.1)∨l=x:=by
 rw [keys_tset]
 by_cases c:(tget es x).isSome=true
 ·rw [if_pos c]; exact ⟨.inl,fun q=>q.elim id fun q=>q▸tget_isSome.mp c⟩
 ·rw [if_neg c,mem_push]
theorem keys_nodup {α:Type}{es:List (Int×α)}{x:Int}{b:α}(h:(es.map (·.1)).Nodup):((tset es x b).map (·.1)).Nodup:=by
 rw [keys_tset]
 by_cases c:(tget es x).isSome=true
 ·rw [if_pos c]; exact h
 ·rw [if_neg c]; exact nodup_push h fun q=>c (tget_isSome.mpr q)
theorem len_left {α:Type}{xs a b:List α}(e:xs=a++b):a.length≤xs.length:=by rw [e,List.length_append]; exact Nat.le_add_right _ _
theorem neg_self {x:Int}(h:-x=x):x=0:=by lia
theorem iL_nil_eq {rest:List Int}(e:[]=iL rest):rest=[]:=by
 rcases rest with _ | ⟨a,r⟩
 ·rfl
 ·exact absurd e.symm (List.cons_ne_nil _ _)
theorem iL_cons_eq {w:MV}{r:List MV}{rest:List Int}(e:w::r=iL rest):∃ x s,rest=x::s∧w = .int x∧r=iL s:=by
 rcases rest with _ | ⟨x,s⟩
 ·exact absurd e (List.cons_ne_nil _ _)
 ·exact ⟨x,s,rfl,(List.cons.inj e).1,(List.cons.inj e).2⟩
theorem iL_flat {xs:List Int}:(iL xs).all MV.flat=true:=List.all_eq_true.mpr fun v hv=>by
 obtain ⟨i,_,rfl⟩:=List.mem_map.mp hv
 rfl
theorem ordered_spec (L:Lib P)(S:Sim adr h σ X){v:MV}{xs:List Int}(hv:Seq X xs v)(h0:(0:Int)∉xs)(hl:xs.length<64)
  (q1:Contra xs→∀ h',Sim adr h' σ X→Q .none h')(q2:¬ Contra xs→∀ ys,OrdOf xs ys→∀ h',Sim adr h' σ X→Q (.tup (iL ys)) h'):callD P sc (d + 1) 0 [v] Q h:=by
 have S1:Sim adr (h.new (.idict [])) σ (X.put h.next (.idict (mvs MV.bool []))):=S.push (.idict (mvs MV.bool []))
 have hX:=fun a o e o'=>S.sub_put (o:=o') a o e
 refine enter L.bOrdered rfl rfl (x_var (x_for (xs:=iL xs) (e_var rfl) ((hv.mono fun a o e=>hX a o e _).items S1) (for_rule (OrdI adr σ X h.next xs) (fun r ρ h I=>?_) (fun w r ρ h' K I hK=>?_) (fun ρ h' I=>?_) (.mk (done:=[]) (es:=[]) rfl rfl rfl S1 List.nodup_nil (fun uu=>Iff.rfl) (Nat.le_refl _) fun uu q=>absurd q List.not_mem_nil))))
 ·induction I with
  | mk _ _ _ S=>exact (hv.mono fun a o e=>hX a o e _).items S
 ·induction I with
  | @mk done rest es r1 e1 e2 S2 n1 n2 n3 n4=>
  obtain ⟨x,rest,rfl,rfl,rfl⟩:=iL_cons_eq e2
  have on:=S2.o put_same
  have xin:x∈xs:=e1▸List.mem_append_right _ List.mem_cons_self
  have done_in:∀ y∈done,y∈xs:=fun y hy=>e1▸List.mem_append_left _ hy
  refine x_if (e_cmp (e_neg (e_var rfl)) (e_var r1) (.isin (.dict on))) (fun k=>?_) fun k=>?_
  ·rw [mvs_any] at k
   exact x_ret e_none (q1 ⟨x,xin,done_in _ ((n2 _).mp (tget_isSome.mp k))⟩ _ (S2.less fun a o e=>hX a o e _))
  ·rw [mvs_any] at k
   have k:-x∉done:=fun q=>Bool.false_ne_true (k.symm.trans (tget_isSome.mpr ((n2 _).mpr q)))
   have l1:es.length<lenLine:=Nat.lt_of_le_of_lt (Nat.le_trans n3 (len_left e1)) (Nat.lt_trans hl (Nat.le_of_ble_eq_true rfl))
   refine x_setI e_bool (e_var r1) (e_var rfl) (.idict on (eq_lt mvs_length l1)) (hK _ _ (.mk (done:=done++[x]) (es:=tset es x true) r1 (by rw [e1,List.append_assoc]; rfl) rfl (kset_mvs (f:=.bool)▸put_put (X:=X)▸S2.poke put_same _) (keys_nodup n1) (fun l=>by rw [keys_mem,n2,mem_push]) ?_ fun l q=>?_))
   ·rw [List.length_append]; exact Nat.le_trans tset_len (Nat.succ_le_succ n3)
   ·rw [mem_push] at q ⊢
    rintro (c | c) <;> rcases q with q | q
    ·exact n4 l q c
    ·exact k (q▸c)
    ·exact k ((Int.neg_eq_comm.mp c)▸q)
    ·exact h0 (neg_self (q▸c)▸xin)
 ·induction I with
  | @mk done rest es r1 e1 e2 S2 n1 n2 n3 n4=>
  have:=iL_nil_eq e2
  subst this
  rw [List.append_nil] at e1
  subst e1
  refine x_retE (m_bui1 (m_sortAbs (e_var r1) (S2.o put_same) (eq_lt mvs_length (Nat.lt_of_le_of_lt n3 hl)) fun ys hp hs=>?_))
  rw [mvs_keys] at hp
  have S3:=S2.push (.list (iL ys))
  exact .mk (.tupL (S3.o put_same) iL_flat) (q2 (fun ⟨l,a,b⟩=>n4 l a b) ys ⟨hs,hp.nodup_iff.mpr n1,fun l=>hp.mem_iff.trans (n2 l)⟩ _ ((S2.put_less S3).less fun a o e=>hX a o e _))
end
end Mini.C
end
section
namespace Mini.C
open Mini
section
variable {P:MProg}{sc:List Int}{d:Nat}{adr:Tag→Nat}{h:MHeap}{σ:St}{X:XH}{Q:KV}
theorem getD_at {rs:List (List Int)}{c:List Int}{i:Nat}(e:rs[i]?=some c):rs.getD i []=c:=by unfold List.getD; rw [e]; rfl
theorem rL_succ {f:Nat→Nat}{n:Nat}:rL f (n + 1)=rL f n++[.ref (f n)]:=by unfold rL; rw [List.range_succ,List.map_append]; rfl
theorem rL_congr {f g:Nat→Nat}{n:Nat}(e:∀ i,i<n→f i=g i):rL f n=rL g n:=List.map_congr_left fun i hi=>by rw [e i (List.mem_range.mp hi)]
theorem wL_tset {f g:Int→Nat}{wd:List (Int×List Nat)}{l:Int}(n:tget wd l=none)(e:∀ k,k≠l→f k=g k):wL g (tset wd l [])=kset (wL f wd) l (.ref (g l)):=by
 induction wd with
 | nil=>rfl
 | cons p r ih=>
  rw [tget_cons] at n
  by_cases c:p.1=l
  ·rw [if_pos c] at n; exact ns n.symm
  ·rw [if_neg c] at n
   rw [tset_cons,if_neg c]
   show (p.1,MV.ref (g p.1))::wL g (tset r l [])=kset ((p.1,MV.ref (f p.1))::wL f r) l _
   rw [ih n,kset_cons,if_neg c,e _ c]
theorem wL_keys {f:Int→Nat}{wd wd':List (Int×List Nat)}(e:wd.map (·.1)=wd'.map (·.1)):wL f wd=wL f wd':=by
 have k:∀ wd:List (Int×List Nat),wL f wd=(wd.map (·.1)).map fun i=>(i,MV.ref (f i)):=fun wd=>by unfold wL; rw [List.map_map]; rfl
 rw [k,k,e]
theorem row_ne {i j:Nat}(h:i<j):Tag.row i≠Tag.row j:=fun q=>Nat.ne_of_lt h (Tag.row.inj q)
theorem Sim.add_row (S:Sim adr h σ X)(c:List Int):Sim (mv adr (.row σ.rows.length) h.next) ((h.new (.list (iL c))).set (adr .R) (.list (rL (fun i=>adr (.row i)) σ.rows.length++[.ref h.next]))) (σ.sRows (σ.rows++[c])) X:=by
 have l:(σ.rows++[c]).length=σ.rows.length + 1:=List.length_append
 have e:want (σ.sRows (σ.rows++[c])) (mv adr (.row σ.rows.length) h.next) .R = .list (rL (fun i=>adr (.row i)) σ.rows.length++[.ref h.next]):=by
  show MObj.list (rL _ (σ.rows++[c]).length)=_
  rw [l,rL_succ,mv_same,rL_congr fun i hi=>mv_ne (row_ne hi)]
 refine e▸S.cut_less ((S.push (.list (iL c))).adopt (σ':=σ.sRows (σ.rows++[c])) .R (.row σ.rows.length) (put_same.trans ?_) trivial (fun t n k=>?_) (fun t n m k=>?_))
 ·exact congrArg (fun c=>some (MObj.list (iL c))) (getD_at List.getElem?_concat_length).symm
 ·cases t <;> try exact trivial
  ·have k:_<(σ.rows++[c]).length:=k
   rw [l] at k
   exact Nat.lt_of_le_of_ne (Nat.le_of_lt_succ k) fun q=>n (congrArg Tag.row q)
  ·exact k
 ·cases t <;> first | rfl | exact absurd rfl n | skip
  rename_i i
  have k:i<(σ.rows++[c]).length:=k
  rw [l] at k
  exact congrArg (fun o:Option (List Int)=>MObj.list (iL (o.getD []))) (List.getElem?_append_left (Nat.lt_of_le_of_ne (Nat.le_of_lt_succ k) fun q=>m (congrArg Tag.row q)))
theorem Sim.adopt_wat (S:Sim adr h σ X)(l:Int)(hl:tget σ.wd l=none){n:Nat}(hX:X n=some (.list (nL []))) :
  Sim (mv adr (.wat l) n) (h.set (adr .w) (.idict (kset (wL (fun l=>adr (.wat l)) σ.wd) l (.ref n)))) (σ.sWd (tset σ.wd l [])) (X.cut n):=by
 have e:want (σ.sWd (tset σ.wd l [])) (mv adr (.wat l) n) .w = .idict (kset (wL (fun l=>adr (.wat l)) σ.wd) l (.ref n)):=
  congrArg MObj.idict ((wL_tset hl fun k q=>(mv_ne fun z=>q (Tag.wat.inj z)).symm).trans (congrArg (fun a=>kset _ l (.ref a)) mv_same))
 refine e▸S.adopt (σ':=σ.sWd (tset σ.wd l [])) .w (.wat l) (hX.trans ?_) trivial (fun t n k=>?_) (fun t n m k=>?_)
 ·exact congrArg (fun c:Option (List Nat)=>some (MObj.list (nL (c.getD [])))) ((tget_tset (es:=σ.wd) (k:=l) (k':=l) (v:=[])).trans (if_pos rfl)).symm
 ·cases t <;> try exact trivial
  ·exact k
  ·rename_i i
   have k:(tget (tset σ.wd l []) i).isSome=true:=k
   rw [tget_tset,if_neg fun q=>n (congrArg Tag.wat q.symm)] at k
   exact k
 ·cases t <;> first | rfl | exact absurd rfl n | skip
  rename_i i
  exact congrArg (fun c:Option (List Nat)=>MObj.list (nL (c.getD []))) (tget_tset.trans (if_neg fun q=>m (congrArg Tag.wat q.symm)))
theorem Sim.add_wat (S:Sim adr h σ X)(l:Int)(hl:tget σ.wd l=none):Sim (mv adr (.wat l) h.next) ((h.new (.list [])).set (adr .w) (.idict (kset (wL (fun l=>adr (.wat l)) σ.wd) l (.ref h.next)))) (σ.sWd (tset σ.wd l [])) X:=
 S.cut_less (o:=.list []) ((S.push (.list [])).adopt_wat l hl put_same)
theorem Sim.set_wat (S:Sim adr h σ X)(l:Int)(xs:List Nat)(hl:(tget σ.wd l).isSome=true):Sim adr (h.set (adr (.wat l)) (.list (nL xs))) (σ.sWd (tset σ.wd l xs)) X:=by
 have hk:(tset σ.wd l xs).map (·.1)=σ.wd.map (·.1):=by rw [keys_tset,if_pos hl]
 have e:want (σ.sWd (tset σ.wd l xs)) adr (.wat l) = .list (nL xs):=congrArg (fun c:Option (List Nat)=>MObj.list (nL (c.getD []))) (tget_tset.trans (if_pos rfl))
 refine e▸S.upd (σ':=σ.sWd (tset σ.wd l xs)) (.wat l) hl (fun t=>?_) (fun t n=>?_)
 ·cases t <;> try exact Iff.rfl
  exact (tget_isSome.trans (hk▸Iff.rfl)).trans tget_isSome.symm
 ·cases t <;> try rfl
  ·exact congrArg MObj.idict (wL_keys hk)
  ·exact congrArg (fun c:Option (List Nat)=>MObj.list (nL (c.getD []))) (tget_tset.trans (if_neg fun q=>n (congrArg Tag.wat q.symm)))
end
end Mini.C
end
section
namespace Mini.C
open Mini
noncomputable def addW (wd:List (Int×List Nat))(l:Int)(k:Nat):List (Int×List Nat):=tset wd l ((tget wd l).getD []++[k])
noncomputable def St.keep (σ:St)(c:List Int):St:={ σ with rows:=σ.rows++[c],wd:=(c.take 2).foldl (fun wd l=>addW wd l σ.rows.length) σ.wd }
section
variable {P:MProg}{sc:List Int}{d:Nat}{adr:Tag→Nat}{h:MHeap}{σ:St}{X:XH}{Q:KV}{L:Lg}{ρ:Vars}
theorem addW_length {wd:List (Int×List Nat)}{l:Int}{k:Nat}:(addW wd l k).length≤wd.length + 1:=tset_len
theorem addW_lists {wd:List (Int×List Nat)}{l:Int}{k n:Nat}(h:∀ p∈wd,p.2.length<n)(hn:0<n):∀ p∈addW wd l k,p.2.length<n + 1:=fun p hp=>
 (tset_mem hp).elim (fun q=>Nat.lt_succ_of_lt (h p q)) fun q=>by
  rw [q]
  show (_++[k]).length<_
  rw [List.length_append]
  refine Nat.succ_lt_succ ?_
  generalize e:tget wd l=o
  rcases o with _ | xs
  ·exact hn
  ·exact h _ (tget_mem e)
theorem k_append {a k:Nat}{xs:List Nat}{e:ME}{t:Bool}(o:h.obj a=some (.list (nL xs)))(E:Ev L ρ h e (iN k))(l:xs.length<lenLine)(H:fin t Q .none (h.set a (.list (nL (xs++[k]))))) :
  Yields (Kind L.P h 0 (.ref a)) fun kd=>evL L (.cons e .nil) ρ (fun vs h=>doM L h (.ref a) 0 vs (fin t Q) kd) h:=
 .mk (.list o (Nat.le_of_ble_eq_true rfl)) (l_one (E.go (.mk (.append o (eq_lt nL_length l)) (nL_push▸H))))
theorem m_watch {x:Nat}{e1 e2:ME}{l:Int}{k:Nat}(S:Sim adr h σ X)(q:ρ x=some (.ref (adr .s)))(lw:σ.wd.length<lenLine)(ll:∀ p∈σ.wd,p.2.length<lenLine)(E1:Ev L ρ h e1 (.int l))
  (E2:∀ adr' h' wd',adr' .s=adr .s→Sim adr' h' (σ.sWd wd') X→Ev L ρ h' e2 (iN k))(H:∀ adr' h',(∀ t,live σ t→adr' t=adr t)→Sim adr' h' (σ.sWd (addW σ.wd l k)) X→Q .none h') :
  ev L (.callM (.callM (.attr (.var x) 23) 5 (.cons e1 (.cons (.list .nil) .nil))) 0 (.cons e2 .nil)) ρ false Q h:=by
 have Sp:=S.push (.list [])
 refine m_call (m_call ((S.at q rfl).go (.mk (.dict S.w (.inr (.inr (.inr rfl)))) (E1.go (l_one (m_list e_nil (Nat.zero_le _) ?_))))))
 by_cases e:(tget σ.wd l).isSome=true
 ·obtain ⟨xs,e'⟩:=Option.isSome_iff_exists.mp e
  have S1:=S.put_less Sp
  refine .mk (.defS Sp.w ((wL_get).trans (congrArg (Option.map _) e'))) (k_append (xs:=xs) ((S1.obj (.wat l) e).trans (congrArg (fun c:Option (List Nat)=>some (MObj.list (nL (c.getD [])))) e')) (E2 adr _ σ.wd rfl S1) (ll _ (tget_mem e')) (H adr _ (fun uu uu=>rfl) ?_))
  unfold addW
  rw [e']
  exact S1.set_wat l (xs++[k]) e
 ·have e:=Option.not_isSome_iff_eq_none.mp e
  have S1:=S.add_wat l e
  have live1:live (σ.sWd (tset σ.wd l [])) (.wat l):=congrArg Option.isSome (tget_tset.trans (if_pos rfl))
  have o1:((h.new (.list [])).set (adr .w) (.idict (kset (wL (fun l=>adr (.wat l)) σ.wd) l (.ref h.next)))).obj h.next=some (.list (nL [])):=by
   have o:=S1.obj _ live1
   rw [mv_same] at o
   exact o.trans (congrArg (fun c:Option (List Nat)=>some (MObj.list (nL (c.getD [])))) (tget_tset.trans (if_pos rfl)))
  refine .mk (.defN Sp.w (wL_get.trans (congrArg (Option.map _) e)) (eq_lt wL_length lw)) (k_append (xs:=[]) o1 (E2 (mv adr (.wat l) h.next) _ _ rfl S1) (Nat.le_of_ble_eq_true rfl) (H (mv adr (.wat l) h.next) _ (fun t ht=>mv_ne fun c=>?_) ?_))
  ·rw [c] at ht
   exact ff ((congrArg Option.isSome e).symm.trans ht)
  ·have S2:=S1.set_wat l [k] live1
   rw [mv_same] at S2
   have a:tset (tset σ.wd l []) l [k]=addW σ.wd l k:=by unfold addW; rw [e,tset_new e,tset_new e]; exact tset_app e
   exact a▸S2
theorem x_rows {x a:Nat}{c:List Int}{e:ME}{r:MSs}{R:KF}(S:Sim adr h σ X)(q:ρ x=some (.ref (adr .s)))(E:Ev L ρ h e (.ref a))(p:X a=some (.list (iL c)))(l:σ.rows.length<fitN)
  (H:∀ h',Sim (mv adr (.row σ.rows.length) h.next) h' (σ.sRows (σ.rows++[c])) X→exs L r R ρ h'):exs L (.cons (.expr (.callM (.attr (.var x) 22) 0 (.cons (.callB .list (.cons e .nil)) .nil))) r) R ρ h:=by
 refine x_expr (m_call ((S.at q rfl).go (.mk (.list S.R (Nat.le_of_ble_eq_true rfl)) (l_one (m_bui (e_one E) (.listL (S.o p)) (.mk (.append (S.push (.list (iL c))).R (eq_lt rL_length (fit_line l))) (H _ (S.add_row c))))))))
inductive KeepI (adr:Tag→Nat)(σ:St)(X:XH)(b:Nat)(c:List Int)(r:List MV)(ρ:Vars)(h:MHeap):Prop
 | mk {done rest:List Int}{adr':Tag→Nat}(r0:ρ 0=some (.ref (adr .s)))(e1:c.take 2=done++rest)(e2:r=iL rest)(s:adr' .s=adr .s)(S:Sim adr' h ((σ.sRows (σ.rows++[c])).sWd (done.foldl (fun wd l=>addW wd l σ.rows.length) σ.wd)) (X.put b (.list (iL (c.take 2)))))
  (l1:(done.foldl (fun wd l=>addW wd l σ.rows.length) σ.wd).length<fitN + done.length)(l2:∀ p∈done.foldl (fun wd l=>addW wd l σ.rows.length) σ.wd,p.2.length<fitN + done.length):KeepI adr σ X b c r ρ h
theorem e_last {x:Nat}{c:List Int}{rs:List (List Int)}(S:Sim adr h σ X)(q:ρ x=some (.ref (adr .s)))(e:σ.rows=rs++[c]):Ev L ρ h (.bin .sub (.callB .len (.cons (.attr (.var x) 22) .nil)) (.int 1)) (iN rs.length):=by
 have k:(σ.rows.length:Int) - 1=rs.length:=by rw [e,List.length_append]; exact Int.add_sub_cancel (rs.length:Int) 1
 have E:=e_ari (S.len_rows (L:=L) q) e_int (.sub _ 1)
 rw [k] at E
 exact E
theorem keep_spec (L:Lib P)(S:Sim adr h σ X)(hf:fit σ=true){a:Nat}{c:List Int}(ha:X a=some (.list (iL c)))(q:∀ h' adr',adr' .s=adr .s→Sim adr' h' (σ.keep c) X→Q (.int (σ.rows.length:Int)) h'):callD P sc (d + 1) L.fKeep [.ref (adr .s),.ref a] Q h:=by
 refine enter L.bKeep rfl rfl (x_rows S rfl (e_var rfl) ha (fit_rows hf) fun h1 S1=>x_for' (m_to (e_var rfl) e_int (.list 2 (S1.o ha)) ?_))
 rw [iL_length,iL_take,show clamp c.length 2=min 2 c.length from rfl,take_min]
 have S2:=S1.push (.list (iL (c.take 2)))
 have hX:=S1.sub_put (o:=.list (iL (c.take 2)))
 refine .mk (.list (S2.o put_same)) (for_rule (KeepI adr σ X h1.next c) (fun r ρ h I=>?_) (fun w r ρ h K I hK=>?_) (fun ρ h I=>?_) (.mk (done:=[]) (adr':=mv adr (.row σ.rows.length) h.next) rfl rfl rfl rfl S2 (fit_wd hf) (fit_wat hf)))
 ·induction I with
  | mk _ _ _ _ S _ _=>exact .list (S.o put_same)
 ·induction I with
  | @mk done rest adr' r0 e1 e2 s S l1 l2=>
  obtain ⟨x,rest,rfl,rfl,rfl⟩:=iL_cons_eq e2
  have r1:ρ 0=some (.ref (adr' .s)):=s▸r0
  have hd:done.length≤2:=Nat.le_trans (len_left e1) (List.length_take_le 2 c)
  have ln:fitN + done.length≤lenLine:=Nat.le_trans (Nat.add_le_add_left hd _) (Nat.le_of_ble_eq_true rfl)
  refine x_expr (m_watch (l:=x) (k:=σ.rows.length) S r1 (Nat.lt_of_lt_of_le l1 ln) (fun p hp=>Nat.lt_of_lt_of_le (l2 p hp) ln) (e_var rfl) (fun a2 h2 w2 s2 S2=>e_last S2 (s2▸r1) rfl) fun a2 h2 k2 S2=>hK _ _ (.mk (done:=done++[x]) (adr':=a2) r0 (by rw [e1,List.append_assoc]; rfl) rfl ((k2 .s trivial).trans s) ?_ ?_ ?_))
  ·rw [List.foldl_append]; exact S2
  ·rw [List.foldl_append,List.length_append]; exact Nat.lt_of_le_of_lt addW_length (Nat.succ_lt_succ l1)
  ·rw [List.foldl_append,List.length_append]; exact addW_lists l2 (Nat.lt_of_lt_of_le (Nat.le_of_ble_eq_true rfl:0<fitN) (Nat.le_add_right _ _))
 ·induction I with
  | @mk done rest adr' r0 e1 e2 s S l1 l2=>
  have:=iL_nil_eq e2
  subst this
  rw [List.append_nil] at e1
  refine x_ret (e_last S (s▸r0) rfl) (q _ adr' s ?_)
  rw [← e1] at S
  exact S.less hX
end
end Mini.C
end
section
namespace Mini.C
open Mini
noncomputable def defHeats (ht:List (Int×Int))(xs:List Int):List (Int×Int):=xs.foldl (fun ht (l:Int)=>if (tget ht (l.natAbs:Int)).isSome then ht else ht++[((l.natAbs:Int),0)]) ht
noncomputable def St.addTo (σ:St)(ys:List Int):St:=
 if σ.ref=true∨some true∈ys.map σ.says then σ
 else match ys.filter (fun l=>σ.says l==none) with
  | []=>σ.refute
  | [l]=>σ.let' l none
  | left=>σ.keep left
section
variable {P:MProg}{sc:List Int}{d:Nat}{adr:Tag→Nat}{h:MHeap}{σ:St}{X:XH}{Q:KV}{ρ:Vars}
theorem is_oB {o:Option Bool}:IsV (oB o) .none (o==none):=by
 rcases o with _ | b
 ·exact .nn
 ·exact .bn b
theorem aeq_oB {o:Option Bool}{b:Bool}:AEq (oB o) (.bool b) (o==some b):=by
 rcases o with _ | c
 ·exact .nb b
 ·exact .bb c b
theorem inL_oB {f:Int→Option Bool}{ys:List Int}:InL (.bool true) (ys.map fun y=>oB (f y)) (ys.any fun y=>f y==some true):=by
 induction ys with
 | nil=>exact .nil
 | cons y r ih=>exact .cons aeq_oB ih
theorem any_says {f:Int→Option Bool}{ys:List Int}:(ys.any fun y=>f y==some true)=true↔some true∈ys.map f:=by
 rw [List.any_eq_true,List.mem_map]
 exact ⟨fun ⟨y,h,e⟩=>⟨y,h,eq_of_beq e⟩,fun ⟨y,h,e⟩=>⟨y,h,beq_iff_eq.mpr e⟩⟩
theorem Sim.says_ev (L:Lib P){x:Nat}{e:ME}{l:Int}(S:Sim adr h σ X)(q:ρ x=some (.ref (adr .s)))(E:Ev (Mini.lg P sc (d + 1)) ρ h e (.int l)):Ev (Mini.lg P sc (d + 1)) ρ h (.callM (.var x) 15 (.cons e .nil)) (oB (σ.says l)):=
 e_meth (e_var q) S.s L.mSays (e_one E) fun Q H=>says_spec L S l H
theorem defHeats_push {ht:List (Int×Int)}{xs:List Int}{x:Int}:defHeats ht (xs++[x])=if (tget (defHeats ht xs) (x.natAbs:Int)).isSome then defHeats ht xs else defHeats ht xs++[((x.natAbs:Int),0)]:=by
 unfold defHeats
 rw [List.foldl_append]
 rfl
theorem defHeats_len {xs:List Int}{ht:List (Int×Int)}:(defHeats ht xs).length≤ht.length + xs.length:=by
 induction xs generalizing ht with
 | nil=>exact Nat.le_refl _
 | cons x r ih=>
  refine Nat.le_trans ih ?_
  rw [List.length_cons,← Nat.add_assoc,Nat.add_right_comm]
  refine Nat.add_le_add_right ?_ _
  dsimp only
  by_cases c:(tget ht (x.natAbs:Int)).isSome=true
  ·rw [if_pos c]; exact Nat.le_succ _
  ·rw [if_neg c,List.length_append]; exact Nat.le_refl _
theorem nodup_le {xs ys:List Int}(hn:ys.Nodup)(h:∀ l∈ys,l∈xs):ys.length≤xs.length:=by
 induction xs generalizing ys with
 | nil=>
  rcases ys with _ | ⟨y,r⟩
  ·exact Nat.le_refl _
  ·exact absurd (h y List.mem_cons_self) List.not_mem_nil
 | cons x xs ih=>
  have h1:=ih (hn.erase x) fun l hl=>(List.mem_cons.mp (h l (List.mem_of_mem_erase hl))).resolve_left fun q=>(hn.mem_erase_iff.mp hl).1 q
  rw [List.length_erase] at h1
  by_cases c:x∈ys
  ·rw [if_pos c] at h1; exact Nat.le_succ_of_pred_le h1
  ·rw [if_neg c] at h1; exact Nat.le_succ_of_le h1
inductive AddI (adr:Tag→Nat)(σ:St)(X:XH)(xs:List Int)(v w:MV)(r:List MV)(ρ:Vars)(h:MHeap):Prop
 | mk {done rest:List Int}(r0:ρ 0=some (.ref (adr .s)))(r1:ρ 1=some v)(r2:ρ 2=some w)(e1:xs=done++rest)(e2:r=iL rest)(S:Sim adr h (σ.sHt (defHeats σ.ht done)) X):AddI adr σ X xs v w r ρ h
theorem add_loop {L:Lg}{R:KF}{r:MSs}{v w:MV}{xs:List Int}(S:Sim adr h σ X)(hv:Seq X xs v)(hl:xs.length<64)(hh:σ.ht.length<fitN)(r0:ρ 0=some (.ref (adr .s)))(r1:ρ 1=some v)(r2:ρ 2=some w)
  (H:∀ ρ h,ρ 0=some (.ref (adr .s))→ρ 2=some w→Sim adr h (σ.sHt (defHeats σ.ht xs)) X→exs L r R ρ h) :
  exs L (.cons (.for 3 (.var 1) (.cons (.expr (.callM (.attr (.var 0) 24) 5 (.cons (.callB .abs (.cons (.var 3) .nil)) (.cons (.int 0) .nil)))) .nil)) r) R ρ h:=by
 refine x_for (e_var r1) (hv.items S) (for_rule (AddI adr σ X xs v w) (fun r ρ h I=>?_) (fun u r ρ h K I hK=>?_) (fun ρ h I=>?_) (.mk (done:=[]) r0 r1 r2 rfl rfl S))
 ·induction I with
  | mk _ _ _ _ _ S=>exact hv.items S
 ·induction I with
  | @mk done rest r0 r1 r2 e1 e2 S=>
  obtain ⟨x,rest,rfl,rfl,rfl⟩:=iL_cons_eq e2
  have go:=fun h S=>hK (Vars.set ρ 3 (.int x)) h (.mk (done:=done++[x]) r0 r1 r2 (by rw [e1,List.append_assoc]; rfl) rfl S)
  rw [defHeats_push] at go
  by_cases c:(tget (defHeats σ.ht done) (x.natAbs:Int)).isSome=true
  ·rw [if_pos c] at go
   obtain ⟨y,c⟩:=Option.isSome_iff_exists.mp c
   exact x_expr (m_dictM (S.at r0 rfl) S.ht (e_cons (e_abs (e_var rfl)) (e_one e_int)) (.inr (.inr (.inr rfl))) (.defS S.ht (kget_at c)) (go _ S))
  ·rw [if_neg c] at go
   have c:=Option.not_isSome_iff_eq_none.mp c
   have bl:(defHeats σ.ht done).length<lenLine:=Nat.lt_of_le_of_lt defHeats_len (Nat.lt_of_lt_of_le (Nat.add_lt_add hh (Nat.lt_of_le_of_lt (len_left e1) hl)) (Nat.le_of_ble_eq_true rfl))
   refine x_expr (m_dictM (S.at r0 rfl) S.ht (e_cons (e_abs (e_var rfl)) (e_one e_int)) (.inr (.inr (.inr rfl))) (.defN S.ht (kget_mvs.trans (congrArg (Option.map _) c)) (eq_lt mvs_length bl)) (go _ ?_))
   have S:=S.set_ht (tset (defHeats σ.ht done) x.natAbs 0)
   rw [← kset_mvs,tset_new c] at S
   exact S
 ·induction I with
  | @mk done rest r0 r1 r2 e1 e2 S=>
  have:=iL_nil_eq e2
  subst this
  rw [List.append_nil] at e1
  exact H _ _ r0 r2 (e1▸S)
end
end Mini.C
end
section
namespace Mini.C
open Mini
noncomputable def MSs.tl:MSs→MSs
 | .cons _ r=>r
 | .nil=>.nil
section
variable {P:MProg}{sc:List Int}{d:Nat}{adr:Tag→Nat}{h:MHeap}{σ:St}{X:XH}{Q:KV}{ρ:Vars}
theorem add_rest (L:Lib P){R:KF}{ys:List Int}(S:Sim adr h σ X)(r0:ρ 0=some (.ref (adr .s)))(r2:ρ 2=some (.tup (iL ys)))(yl:ys.length≤lenLine)(hf:fit σ=true)
  (H:∀ ρ h' adr',adr' .s=adr .s→Sim adr' h' (σ.addTo ys) X→R (.ret (.bool (!(σ.addTo ys).ref))) ρ h'):exs (lg P sc (d + 1)) (MSs.tl (MSs.tl (MSs.tl f_Search_add_clause.body))) R ρ h:=by
 have E1:Ev (lg P sc (d + 1)) ρ h (.cmp .is (.var 2) .none) (.bool false):=e_cmp (e_var r2) e_none (.is (.tn _))
 by_cases hr:σ.ref=true
 ·have ea:σ.addTo ys=σ:=if_pos (.inl hr)
  rw [ea] at H
  exact x_iteT (e_orF E1 (e_orT (hr▸S.at r0 rfl))) (x_ret (e_not (S.at r0 rfl) (.bool _)) (H _ _ _ rfl S))
 ·refine x_ite' (m_orF E1 (m_orF (Bool.eq_false_iff.mpr hr▸S.at r0 rfl) (m_or1 (m_cmp e_bool (m_comp (f:=fun uu=>true) (e_var r2) (.tup _) (fun a uu K H=>H) (fun a ha uu=>S.says_ev L r0 (e_var rfl)) yl ?_)))))
  rw [List.filter_eq_self.mpr fun uu uu=>rfl]
  have Sp:=S.push (.list (ys.map fun a=>oB (σ.says a)))
  refine .mk (.isin (.list (Sp.o put_same) inL_oB)) (If.of (fun k=>?_) fun k=>?_)
  ·have ea:σ.addTo ys=σ:=if_pos (.inr (any_says.mp k))
   rw [ea] at H
   have S:=S.put_less Sp
   exact x_ret (e_not (S.at r0 rfl) (.bool _)) (H _ _ _ rfl S)
  ·have ea:σ.addTo ys=_:=if_neg fun q=>q.elim hr fun q=>Bool.false_ne_true (k.symm.trans (any_says.mpr q))
   rw [ea] at H
   clear ea k
   have S:=S.put_less Sp
   refine x_var (m_comp (f:=fun l=>σ.says l==none) (g:=.int) (e_var r2) (.tup _) (fun a uu K H=>c_one (e_cmp (S.says_ev L r0 (e_var rfl)) e_none (.is is_oB)) H) (fun a ha uu=>e_var rfl) yl ?_)
   revert H
   generalize ys.filter (fun l=>σ.says l==none)=left
   intro H
   have S8:=S.push (.list (iL left))
   have o8:=S8.o put_same
   have hX:=S.sub_put (o:=.list (iL left))
   have last:=fun (adr':Tag→Nat)(h':MHeap)(σ':St)(ρ:Vars)(s:adr' .s=adr .s)(S':Sim adr' h' σ' X)(r0:ρ 0=some (.ref (adr .s)))(q:R (.ret (.bool (!σ'.ref))) ρ h')=>x_ret (r:=.nil) (R:=R) (L:=lg P sc (d + 1)) (e_not (S'.at (n:=13) (s▸r0) rfl) (.bool _)) q
   rcases left with _ | ⟨l,_ | ⟨l',rest⟩⟩
   ·exact x_iteT (e_cmp (e_len (e_var rfl) o8) e_int (.eq (.flat (.at (.ii _ _))))) (x_expr (m_meth (e_var r0) S8.s L.mRefute e_nil (refute_spec L S8 hf fun h9 S9=>last _ _ _ _ rfl (S9.less hX) r0 (H _ _ _ rfl (S9.less hX)))))
   ·refine x_iteF (e_cmp (e_len (e_var rfl) o8) e_int (.eq (.flat (.at (.ii _ _))))) (x_iteT (e_cmp (e_len (e_var rfl) o8) e_int (.eq (.flat (.at (.ii _ _))))) (x_expr (m_meth (e_var r0) S8.s L.mLet (e_cons (e_sub (e_var rfl) e_int (.list o8 (.pos (j:=0) (Nat.zero_lt_one)) rfl)) (e_one e_none)) (let_spec L S8 hf l none fun h9 S9=>last _ _ _ _ rfl (S9.less hX) r0 (H _ _ _ rfl (S9.less hX))))))
   ·refine x_iteF (e_cmp (e_len (e_var rfl) o8) e_int (.eq (.flat (.at (.ii _ _))))) (x_iteF (e_cmp (e_len (e_var rfl) o8) e_int (.eq (.flat (.at (.ii _ _))))) (x_expr (m_meth (e_var r0) S8.s L.mKeep (e_one (e_var rfl)) (keep_spec L S8 hf put_same fun h9 a9 s9 S9=>last _ _ _ _ s9 (S9.less hX) r0 (H _ _ _ s9 (S9.less hX))))))
theorem add_spec (L:Lib P)(S:Sim adr h σ X){v:MV}{xs:List Int}(hv:Seq X xs v)(h0:(0:Int)∉xs)(hl:xs.length<64){σ1:St}(e:σ.back 0=some σ1){σ2:St}(e2:{ σ1 with ht:=defHeats σ1.ht xs }=σ2)(hh:σ1.ht.length<fitN)(hf:fit σ2=true)
  (q1:Contra xs→∀ h' adr',adr' .s=adr .s→Sim adr' h' σ2 X→Q (.bool (!σ2.ref)) h')
  (q2:¬ Contra xs→∀ ys,OrdOf xs ys→∀ h' adr',adr' .s=adr .s→Sim adr' h' (σ2.addTo ys) X→Q (.bool (!(σ2.addTo ys).ref)) h') :
  callD P sc (d + 2) L.fAdd [.ref (adr .s),v] Q h:=
 enter L.bAdd rfl rfl <| x_expr <| m_meth (e_var rfl) S.s L.mBack (e_one e_int) <| back_spec L S 0 e fun h1 a1 s1 S1=>x_var <| m_fn (e_one (e_var rfl)) <| ordered_spec L S1 hv h0 hl
  (fun hc h2 S2=>add_loop S2 hv hl hh (s1▸rfl) rfl rfl fun ρ h r0 r2 S3=>x_iteT (e_orT (e_cmp (e_var r2) e_none (.is .nn))) (x_ret (e_not ((e2▸S3:Sim a1 h σ2 X).at r0 rfl) (.bool _)) (q1 hc _ _ s1 (e2▸S3))))
  (fun hc ys ho h2 S2=>add_loop S2 hv hl hh (s1▸rfl) rfl rfl fun ρ h r0 r2 S3=>add_rest L (e2▸S3:Sim a1 h σ2 X) r0 r2 (Nat.le_trans (nodup_le ho.nodup fun l hl=>(ho.mem l).mp hl) (Nat.le_trans (Nat.le_of_lt hl) (Nat.le_of_ble_eq_true rfl))) hf fun ρ h' a' s' S'=>q2 hc ys ho h' a' (s'.trans s1) S')
end
end Mini.C
end
section
namespace Mini.C
open Mini
noncomputable def nth (c:List Int)(i:Nat):Int:=c.getD i 0
noncomputable def St.setW (σ:St)(wd:List (Int×List Nat)):St:={ σ with wd:=wd }
noncomputable def St.setR (σ:St)(n:Nat)(c:List Int):St:={ σ with rows:=σ.rows.set n c }
noncomputable def swap0 (c:List Int)(lost:Int):List Int:=if nth c 0=lost then (c.set 0 (nth c 1)).set 1 lost else c
noncomputable def notF (σ:St)(c:List Int)(k:Nat):Bool:=σ.says (nth c k)!=some false
noncomputable def St.moved (σ:St)(n:Nat)(lost:Int):Option (Bool×St):=
 match σ.rows[n]? with
 | none=>none
 | some c=>if c.length<2∨fitN<c.length then none else
  let c1:=swap0 c lost
  let σ1:=σ.setR n c1
  if σ.says (nth c1 0)=some true then some (false,σ1)
  else match (List.range' 2 (c.length - 2)).find? (notF σ c1) with
   | none=>some (false,σ1)
   | some k=>if fit σ then some (true,(σ.setR n ((c1.set 1 (nth c1 k)).set k lost)).setW (addW σ.wd (nth c1 k) n)) else none
section
variable {P:MProg}{sc:List Int}{d:Nat}{adr:Tag→Nat}{h:MHeap}{σ:St}{X:XH}{Q:KV}{ρ:Vars}
theorem rngL_nat {a b:Nat}(h:a≤b):rngL a b=nL (List.range' a (b - a)):=by
 unfold rngL nL
 rw [List.range'_eq_map_range,List.map_map,← Int.ofNat_sub h,Int.toNat_natCast]
 rfl
theorem getD_get {c:List Int}{i:Nat}(h:i<c.length):c[i]?=some (nth c i):=by unfold nth List.getD; rw [List.getElem?_eq_getElem h]; rfl
theorem nL_cons {n:Nat}{ns:List Nat}:nL (n::ns) = .int (n:Int)::nL ns:=rfl
theorem nL_nil_eq {rest:List Nat}(e:[]=nL rest):rest=[]:=by
 rcases rest with _ | ⟨a,r⟩
 ·rfl
 ·exact absurd e.symm (List.cons_ne_nil _ _)
theorem nL_cons_eq {w:MV}{r:List MV}{rest:List Nat}(e:w::r=nL rest):∃ x s,rest=x::s∧w=iN x∧r=nL s:=by
 rcases rest with _ | ⟨x,s⟩
 ·exact absurd e (List.cons_ne_nil _ _)
 ·exact ⟨x,s,rfl,(List.cons.inj e).1,(List.cons.inj e).2⟩
theorem setR_self {n:Nat}{c:List Int}(e:σ.rows[n]?=some c):σ.setR n c=σ:=by
 obtain ⟨hn,e⟩:=List.getElem?_eq_some_iff.mp e
 exact congrArg σ.sRows (e▸List.set_getElem_self hn)
theorem setR_setR {n:Nat}{c c':List Int}:(σ.setR n c).setR n c'=σ.setR n c':=congrArg σ.sRows (List.set_set c)
theorem swap0_length {c:List Int}{lost:Int}:(swap0 c lost).length=c.length:=by
 unfold swap0
 by_cases q:nth c 0=lost
 ·rw [if_pos q,List.length_set,List.length_set]
 ·rw [if_neg q]
theorem Sim.set_rw (S:Sim adr h σ X)(i:Nat)(c:List Int)(hi:i<σ.rows.length):Sim adr (h.set (adr (.row i)) (.list (iL c))) (σ.setR i c) X:=by
 have l:(σ.rows.set i c).length=σ.rows.length:=List.length_set
 have e:want (σ.setR i c) adr (.row i) = .list (iL c):=congrArg (fun c=>MObj.list (iL c)) (getD_at (List.getElem?_set_self hi))
 refine e▸S.upd (σ':=σ.setR i c) (.row i) hi (fun t=>?_) (fun t n=>?_)
 ·cases t <;> try exact Iff.rfl
  show _<(σ.rows.set i c).length↔_
  rw [l]
  exact Iff.rfl
 ·cases t <;> try rfl
  ·exact congrArg (fun n=>MObj.list (rL _ n)) l
  ·exact congrArg (fun o:Option (List Int)=>MObj.list (iL (o.getD []))) (List.getElem?_set_ne fun q=>n (congrArg Tag.row q.symm))
theorem Sim.row_obj {n:Nat}{c:List Int}(S:Sim adr h (σ.setR n c) X)(hn:n<σ.rows.length):h.obj (adr (.row n))=some (.list (iL c)):=
 (S.obj (.row n) ((List.length_set (as:=σ.rows) (i:=n) (a:=c)).symm▸hn:n<(σ.rows.set n c).length)).trans (congrArg (fun c=>some (MObj.list (iL c))) (getD_at (List.getElem?_set_self hn)))
section
variable {L:Lg}{i i1 i2:ME}{j j1 j2 n x:Nat}{c:List Int}{lost:Int}{r:MSs}{R:KF}
theorem e_row {a:Nat}(q:ρ x=some (.ref a))(o:h.obj a=some (.list (iL c)))(I:Ev L ρ h i (iN j))(hj:j<c.length):Ev L ρ h (.sub (.var x) i) (.int (nth c j)):=
 e_sub (e_var q) I (.list o (.pos (iL_length.symm▸hj)) (iL_at (getD_get hj)))
theorem x_swap (S:Sim adr h (σ.setR n c) X)(hn:n<σ.rows.length)(r3:ρ 3=some (.ref (adr (.row n))))(r2:ρ 2=some (.int lost))(h1:j1<c.length)(h2:j2<c.length)(I1:∀ h,Ev L ρ h i1 (iN j1))(I2:∀ h,Ev L ρ h i2 (iN j2))
  (H:∀ h',Sim adr h' (σ.setR n ((c.set j1 (nth c j2)).set j2 lost)) X→exs L r R ρ h'):exs L (.cons (.assigns [.sub (.var 3) i1,.sub (.var 3) i2] (.cons (.sub (.var 3) i2) (.cons (.var 2) .nil))) r) R ρ h:=by
 have hn':n<(σ.setR n c).rows.length:=(List.length_set (as:=σ.rows) (i:=n) (a:=c)).symm▸hn
 have o:=S.row_obj hn
 have S1:Sim adr _ (σ.setR n (c.set j1 (nth c j2))) X:=setR_setR (σ:=σ)▸S.set_rw n (c.set j1 (nth c j2)) hn'
 rw [← iL_set] at S1
 have S2:Sim adr _ (σ.setR n ((c.set j1 (nth c j2)).set j2 lost)) X:=setR_setR (σ:=σ)▸S1.set_rw n ((c.set j1 (nth c j2)).set j2 lost) ((List.length_set (as:=σ.rows) (i:=n) (a:=c.set j1 (nth c j2))).symm▸hn)
 rw [← iL_set] at S2
 exact x_asgs (e_cons (e_row r3 o (I2 _) h2) (e_one (e_var r2))) (Nat.le_of_ble_eq_true rfl) rfl (a_sub (e_var r3) (I1 _) (.list o (iL_length.symm▸h1)) (a_sub (e_var r3) (I2 _) (.list (S1.row_obj hn) (by rw [iL_length,List.length_set]; exact h2)) (a_nil (H _ S2))))
end
end
end Mini.C
end
section
namespace Mini.C
open Mini
section
variable {P:MProg}{sc:List Int}{d:Nat}{adr:Tag→Nat}{h:MHeap}{σ:St}{X:XH}{Q:KV}{ρ:Vars}
theorem small_nat {n:Nat}(h:n≤lenLine):small n:=⟨Int.lt_of_lt_of_le (by decide) (Int.natCast_nonneg n),Int.lt_of_le_of_lt (Int.ofNat_le.mpr h) (by decide)⟩
theorem live_setR {n:Nat}{c:List Int}{t:Tag}(l:live σ t):live (σ.setR n c) t:=by
 cases t <;> first | exact l | skip
 show _<(σ.rows.set n c).length
 rw [List.length_set]
 exact l
theorem nth_swap {c:List Int}{k:Nat}{a b:Int}(h1:1<c.length)(h2:2≤k):nth ((c.set 1 a).set k b) 1=a:=by
 unfold nth List.getD
 rw [List.getElem?_set_ne (Nat.ne_of_gt h2),List.getElem?_set_self h1]
 rfl
inductive MovI (adr:Tag→Nat)(σ:St)(X:XH)(n:Nat)(c:List Int)(lost:Int)(r:List MV)(ρ:Vars)(h:MHeap):Prop
 | mk {rest:List Nat}(r0:ρ 0=some (.ref (adr .s)))(r1:ρ 1=some (iN n))(r2:ρ 2=some (.int lost))(r3:ρ 3=some (.ref (adr (.row n))))(S:Sim adr h (σ.setR n c) X)(er:r=nL rest)(hb:∀ k∈rest,2≤k∧k<c.length)
  (hf:(List.range' 2 (c.length - 2)).find? (notF σ c)=rest.find? (notF σ c)):MovI adr σ X n c lost r ρ h
theorem moved_loop (L:Lib P){R:KF}{n:Nat}{c:List Int}{lost:Int}{b:Bool}{σ':St}(S:Sim adr h (σ.setR n c) X)(hn:n<σ.rows.length)(r0:ρ 0=some (.ref (adr .s)))(r1:ρ 1=some (iN n))(r2:ρ 2=some (.int lost))(r3:ρ 3=some (.ref (adr (.row n))))(h2:2≤c.length)(h3:c.length≤fitN)
  (e:(match (List.range' 2 (c.length - 2)).find? (notF σ c) with | none=>some (false,σ.setR n c) | some k=>if fit σ then some (true,(σ.setR n ((c.set 1 (nth c k)).set k lost)).setW (addW σ.wd (nth c k) n)) else none)=some (b,σ'))
  (H:∀ ρ h' adr',(∀ t,live σ t→adr' t=adr t)→Sim adr' h' σ' X→R (.ret (.bool b)) ρ h'):exs (lg P sc (d + 1)) (MSs.tl (MSs.tl (MSs.tl f_Search_has_moved.body))) R ρ h:=by
 have lc:c.length≤lenLine:=Nat.le_trans h3 (Nat.le_of_ble_eq_true rfl)
 have it:∀ h,Items h (.rng 2 (iL c).length) (nL (List.range' 2 (c.length - 2))):=fun h=>by
  have:=Items.rng (h:=h) ((2:Nat):Int) (c.length:Int)
  rw [rngL_nat h2,← iL_length] at this
  rw [← iL_length]
  exact this
 refine x_for (e_bui (e_cons e_int (e_one (e_len (e_var r3) (S.row_obj hn)))) (.range2 (small_nat (n:=2) (Nat.le_of_ble_eq_true rfl)) (small_nat (iL_length▸lc)))) (it h) (for_rule (MovI adr σ X n c lost) (fun uu uu h uu=>it h) (fun w r ρ h K I hK=>?_) (fun ρ h I=>?_) (.mk r0 r1 r2 r3 S rfl (fun k hk=>?_) rfl))
 ·induction I with
  | @mk rest r0 r1 r2 r3 S er hb hf=>
  obtain ⟨k,rest,rfl,rfl,rfl⟩:=nL_cons_eq er
  obtain ⟨k2,kl⟩:=hb k List.mem_cons_self
  refine x_if (e_cmp (S.says_ev L r0 (e_row r3 (S.row_obj hn) (e_var rfl) kl)) e_bool (.ne (.flat (.at aeq_oB)))) (fun q=>?_) fun q=>?_
  ·have q:notF σ c k=true:=q
   rw [hf,List.find?_cons_of_pos q] at e
   by_cases hfit:fit σ=true
   ·obtain ⟨rfl,rfl⟩:=Prod.mk.inj (Option.some.inj ((if_pos hfit).symm.trans e))
    exact x_swap S hn r3 r2 h2 kl (fun uu=>e_int) (fun uu=>e_var rfl) fun h S=>x_expr (m_watch (l:=nth c k) (k:=n) S r0 (fit_line (fit_wd (σ:=σ) hfit)) (fun p hp=>fit_line (fit_wat (σ:=σ) hfit p hp)) (nth_swap (c:=c) (k:=k) (a:=nth c k) (b:=lost) h2 k2▸e_row (j:=1) r3 (S.row_obj hn) e_int (by rw [List.length_set,List.length_set]; exact h2)) (fun uu uu uu uu uu=>e_var r1) fun a2 h2 k2 S=>x_ret e_bool (H _ _ a2 (fun t l=>k2 t (live_setR l)) S))
   ·exact ns ((if_neg hfit).symm.trans e)
  ·have q:notF σ c k=false:=q
   rw [List.find?_cons_of_neg (Bool.eq_false_iff.mp q)] at hf
   exact hK _ _ (.mk r0 r1 r2 r3 S rfl (fun k hk=>hb k (List.mem_cons_of_mem _ hk)) hf)
 ·induction I with
  | @mk rest r0 r1 r2 r3 S er hb hf=>
  have:=nL_nil_eq er
  subst this
  rw [hf] at e
  obtain ⟨rfl,rfl⟩:=Prod.mk.inj (Option.some.inj e)
  exact x_ret e_bool (H _ _ adr (fun uu uu=>rfl) S)
 ·obtain ⟨a,b⟩:=List.mem_range'_1.mp hk
  exact ⟨a,Nat.add_sub_cancel' h2▸b⟩
theorem moved_mid (L:Lib P){R:KF}{n:Nat}{c:List Int}{lost:Int}{b:Bool}{σ':St}(S:Sim adr h (σ.setR n c) X)(hn:n<σ.rows.length)(r0:ρ 0=some (.ref (adr .s)))(r1:ρ 1=some (iN n))(r2:ρ 2=some (.int lost))(r3:ρ 3=some (.ref (adr (.row n))))(h2:2≤c.length)(h3:c.length≤fitN)
  (e:(if σ.says (nth c 0)=some true then some (false,σ.setR n c) else match (List.range' 2 (c.length - 2)).find? (notF σ c) with | none=>some (false,σ.setR n c) | some k=>if fit σ then some (true,(σ.setR n ((c.set 1 (nth c k)).set k lost)).setW (addW σ.wd (nth c k) n)) else none)=some (b,σ'))
  (H:∀ ρ h' adr',(∀ t,live σ t→adr' t=adr t)→Sim adr' h' σ' X→R (.ret (.bool b)) ρ h'):exs (lg P sc (d + 1)) (MSs.tl (MSs.tl f_Search_has_moved.body)) R ρ h:=by
 refine x_if (e_cmp (S.says_ev L r0 (e_row (j:=0) r3 (S.row_obj hn) e_int (Nat.lt_of_lt_of_le Nat.zero_lt_two h2))) e_bool (.eq (.flat (.at aeq_oB)))) (fun k=>?_) fun k=>?_
 ·obtain ⟨rfl,rfl⟩:=Prod.mk.inj (Option.some.inj ((if_pos (eq_of_beq k)).symm.trans e))
  exact x_ret e_bool (H _ _ adr (fun uu uu=>rfl) S)
 ·exact moved_loop L S hn r0 r1 r2 r3 h2 h3 ((if_neg (ne_of_beq_false k)).symm.trans e) H
theorem moved_spec (L:Lib P)(S:Sim adr h σ X){n:Nat}{lost:Int}{b:Bool}{σ':St}(e:σ.moved n lost=some (b,σ'))(q:∀ h' adr',(∀ t,live σ t→adr' t=adr t)→Sim adr' h' σ' X→Q (.bool b) h') :
  callD P sc (d + 2) L.fMoved [.ref (adr .s),.int (n:Int),.int lost] Q h:=by
 unfold St.moved at e
 revert e
 generalize ec:σ.rows[n]?=oc
 rcases oc with _ | c
 ·exact fun e=>ns e
 intro e
 by_cases hc:c.length<2∨fitN<c.length
 ·exact ns ((if_pos hc).symm.trans e)
 have e:=(if_neg hc).symm.trans e
 have h2:2≤c.length:=Nat.not_lt.mp fun q=>hc (.inl q)
 have h3:c.length≤fitN:=Nat.not_lt.mp fun q=>hc (.inr q)
 have hn:=(List.getElem?_eq_some_iff.mp ec).1
 rw [← swap0_length (c:=c) (lost:=lost)] at e h2 h3
 have o:h.obj (adr (.row n))=some (.list (iL c)):=by rw [← setR_self ec] at S; exact S.row_obj hn
 refine enter L.bMoved rfl rfl (x_let (e_sub (S.at rfl rfl) (e_var rfl) (.list S.R (.pos (rL_length.symm▸hn)) (rL_at hn))) ?_)
 have l0:2≤c.length:=swap0_length (c:=c)▸h2
 have mid:=fun h S=>moved_mid (R:=retQ Q) (ρ:=Vars.set (bindV [.ref (adr .s),iN n,.int lost]) 3 (.ref (adr (.row n)))) (h:=h) (sc:=sc) (d:=d) L (c:=swap0 c lost) S hn rfl rfl rfl rfl h2 h3 e fun ρ h' a' k S=>q h' a' k S
 refine x_if (e_cmp (e_row (j:=0) rfl o e_int (Nat.lt_of_lt_of_le Nat.zero_lt_two l0)) (e_var rfl) (.eq (.flat (.at (.ii _ _))))) (fun k=>?_) fun k=>?_
 ·have z:swap0 c lost=_:=if_pos (eq_of_beq k)
  rw [z] at mid
  exact x_swap (c:=c) ((setR_self ec).symm▸S) hn rfl rfl (Nat.lt_of_lt_of_le Nat.zero_lt_two l0) l0 (fun uu=>e_int) (fun uu=>e_int) mid
 ·have z:swap0 c lost=_:=if_neg (ne_of_beq_false k)
  rw [z,setR_self ec] at mid
  exact mid _ S
end
end Mini.C
end
section
namespace Mini.C
open Mini
noncomputable def St.stay (σ:St)(lost:Int)(xs:List Nat):St:=σ.setW (tset σ.wd lost ((tget σ.wd lost).getD []++xs))
noncomputable def spreadIn (lost:Int):List Nat→St→Option (Option Nat×St)
 | [],σ=>some (none,σ)
 | n::r,σ=>match σ.moved n lost with
  | none=>none
  | some (true,σ1)=>spreadIn lost r σ1
  | some (false,σ1)=>if fit σ1=false then none else
   match σ1.rows[n]? with
   | none=>none
   | some c=>if c.length=0 then none else
    match σ1.says (nth c 0) with
    | some false=>some (some n,(σ1.stay lost [n]).stay lost r)
    | some true=>spreadIn lost r (σ1.stay lost [n])
    | none=>if fit (σ1.stay lost [n]) then spreadIn lost r ((σ1.stay lost [n]).let' (nth c 0) (some n)) else none
noncomputable def St.round (σ:St)(lost:Int):St:={ σ with seen:=σ.seen + 1,wd:=tdel σ.wd lost++[(lost,[])] }
noncomputable def spreadF:Nat→St→Option (Int×St)
 | 0,σ=>if σ.row.length≤σ.seen then some (-1,σ) else none
 | f + 1,σ=>if σ.row.length≤σ.seen then some (-1,σ) else
  if fit σ=false then none else
  match spreadIn (-(nth σ.row σ.seen)) ((tget σ.wd (-(nth σ.row σ.seen))).getD []) (σ.round (-(nth σ.row σ.seen))) with
  | none=>none
  | some (some n,σ')=>some ((n:Int),σ')
  | some (none,σ')=>spreadF f σ'
section
variable {P:MProg}{sc:List Int}{d:Nat}{adr:Tag→Nat}{h:MHeap}{σ:St}{X:XH}{Q:KV}{ρ:Vars}
theorem tdel_none {α:Type}{es:List (Int×α)}{l:Int}(e:tget es l=none):tdel es l=es:=by
 induction es with
 | nil=>rfl
 | cons p r ih=>
  rw [tget_cons] at e
  by_cases c:p.1=l
  ·rw [if_pos c] at e; exact ns e.symm
  ·rw [if_neg c] at e; rw [tdel_cons,if_neg c,ih e]
theorem wL_del {adr:Int→Nat}{wd:List (Int×List Nat)}{l:Int}:kdel (wL adr wd) l=wL adr (tdel wd l):=by
 induction wd with
 | nil=>rfl
 | cons p r ih=>
  show kdel ((p.1,MV.ref (adr p.1))::wL adr r) l=_
  rw [kdel_cons,tdel_cons,ih]
  by_cases c:p.1=l
  ·rw [if_pos c,if_pos c]
  ·rw [if_neg c,if_neg c]; rfl
theorem live_tset {l:Int}{xs:List Nat}{t:Tag}(k:live σ t):live (σ.setW (tset σ.wd l xs)) t:=by
 cases t <;> first | exact k | skip
 rename_i i
 show (tget (tset σ.wd l xs) i).isSome=true
 rw [tget_tset]
 by_cases q:l=i
 ·rw [if_pos q]; rfl
 ·rw [if_neg q]; exact k
theorem stay_live {lost:Int}{xs:List Nat}(t:Tag)(k:live σ t):live (σ.stay lost xs) t:=live_tset k
theorem moved_live {n:Nat}{lost:Int}{b:Bool}{σ':St}(e:σ.moved n lost=some (b,σ'))(t:Tag)(k:live σ t):live σ' t:=by
 unfold St.moved at e
 revert e
 generalize σ.rows[n]?=oc
 rcases oc with _ | c
 ·exact fun e=>ns e
 intro e
 by_cases hc:c.length<2∨fitN<c.length
 ·exact ns ((if_pos hc).symm.trans e)
 have e:=(if_neg hc).symm.trans e
 by_cases ht:σ.says (nth (swap0 c lost) 0)=some true
 ·obtain ⟨_,rfl⟩:=Prod.mk.inj (Option.some.inj ((if_pos ht).symm.trans e))
  exact live_setR k
 have e:=(if_neg ht).symm.trans e
 revert e
 generalize (List.range' 2 (c.length - 2)).find? (notF σ (swap0 c lost))=o
 rcases o with _ | j
 ·intro e
  obtain ⟨_,rfl⟩:=Prod.mk.inj (Option.some.inj e)
  exact live_setR k
 ·intro e
  by_cases hf:fit σ=true
  ·obtain ⟨_,rfl⟩:=Prod.mk.inj (Option.some.inj ((if_pos hf).symm.trans e))
   exact live_tset (σ:=σ.setR n _) (live_setR k)
  ·exact ns ((if_neg hf).symm.trans e)
end
end Mini.C
end
section
namespace Mini.C
open Mini
inductive SpStep (lost:Int)(n:Nat)(r:List Nat)(σ:St)(res:Option Nat×St):Prop
 | moved {σ1:St}(em:σ.moved n lost=some (true,σ1))(e:spreadIn lost r σ1=some res)
 | clash {σ1:St}{c:List Int}(em:σ.moved n lost=some (false,σ1))(hf:fit σ1=true)(ec:σ1.rows[n]?=some c)(hc:0<c.length)(hs:σ1.says (nth c 0)=some false)(e:res=(some n,(σ1.stay lost [n]).stay lost r))
 | yes {σ1:St}{c:List Int}(em:σ.moved n lost=some (false,σ1))(hf:fit σ1=true)(ec:σ1.rows[n]?=some c)(hc:0<c.length)(hs:σ1.says (nth c 0)=some true)(e:spreadIn lost r (σ1.stay lost [n])=some res)
 | unit {σ1:St}{c:List Int}(em:σ.moved n lost=some (false,σ1))(hf:fit σ1=true)(ec:σ1.rows[n]?=some c)(hc:0<c.length)(hs:σ1.says (nth c 0)=none)(hf2:fit (σ1.stay lost [n])=true)(e:spreadIn lost r ((σ1.stay lost [n]).let' (nth c 0) (some n))=some res)
theorem spreadIn_step {lost:Int}{n:Nat}{r:List Nat}{σ:St}{res:Option Nat×St}(e:spreadIn lost (n::r) σ=some res):SpStep lost n r σ res:=by
 rw [spreadIn] at e
 revert e
 generalize em:σ.moved n lost=om
 rcases om with _ | ⟨b,σ1⟩
 ·exact fun e=>ns e
 rcases b with _ | _
 ·intro e
  by_cases hf:fit σ1=true
  ·have e:=(if_neg fun q=>Bool.false_ne_true (q.symm.trans hf)).symm.trans e
   revert e
   generalize ec:σ1.rows[n]?=oc
   rcases oc with _ | c
   ·exact fun e=>ns e
   intro e
   by_cases hc:c.length=0
   ·exact ns ((if_pos hc).symm.trans e)
   have e:=(if_neg hc).symm.trans e
   have hc:=Nat.pos_of_ne_zero hc
   revert e
   generalize hs:σ1.says (nth c 0)=os
   rcases os with _ | b
   ·intro e
    by_cases hf2:fit (σ1.stay lost [n])=true
    ·exact .unit em hf ec hc hs hf2 ((if_pos hf2).symm.trans e)
    ·exact ns ((if_neg hf2).symm.trans e)
   ·rcases b with _ | _ <;> intro e
    ·exact .clash em hf ec hc hs (Option.some.inj e).symm
    ·exact .yes em hf ec hc hs e
  ·exact ns ((if_pos (Bool.eq_false_iff.mpr hf)).symm.trans e)
 ·exact fun e=>.moved em e
section
variable {P:MProg}{sc:List Int}{d:Nat}{adr:Tag→Nat}{h:MHeap}{σ:St}{X:XH}{Q:KV}{ρ:Vars}
inductive SpI (s:Nat)(X:XH)(lost:Int)(nb st:Nat)(ns:List Nat)(res:Option Nat×St)(r:List MV)(ρ:Vars)(h:MHeap):Prop
 | mk {adr:Tag→Nat}{σ:St}{j m:Nat}(r0:ρ 0=some (.ref s))(r1:ρ 1=some (.int lost))(r2:ρ 2=some (.ref nb))(r3:ρ 3=some (.ref st))(a0:adr .s=s)(a1:adr (.wat lost)=st)(S:Sim adr h σ X)(hl:(tget σ.wd lost).isSome=true)
  (hm:ns.length=j + m)(er:r=nL (List.range' j m))(e:spreadIn lost (ns.drop j) σ=some res):SpI s X lost nb st ns res r ρ h
theorem e_nat {L:Lg}{i:ME}{x a j n:Nat}{ns:List Nat}(q:ρ x=some (.ref a))(o:h.obj a=some (.list (nL ns)))(I:Ev L ρ h i (iN j))(e:ns[j]?=some n):Ev L ρ h (.sub (.var x) i) (iN n):=
 e_sub (e_var q) I (.list o (.pos (nL_length.symm▸(List.getElem?_eq_some_iff.mp e).1)) (nL_at e))
theorem Sim.wat_obj {l:Int}{xs:List Nat}(S:Sim adr h σ X)(e:tget σ.wd l=some xs):h.obj (adr (.wat l))=some (.list (nL xs)):=
 (S.obj (.wat l) (congrArg Option.isSome e)).trans (congrArg (fun c:Option (List Nat)=>some (MObj.list (nL (c.getD [])))) e)
theorem Sim.row_obj' {n:Nat}{c:List Int}(S:Sim adr h σ X)(e:σ.rows[n]?=some c):h.obj (adr (.row n))=some (.list (iL c)):=
 (S.obj (.row n) (List.getElem?_eq_some_iff.mp e).1).trans (congrArg (fun c=>some (MObj.list (iL c))) (getD_at e))
theorem Sim.stay_wat {l:Int}{xs ys:List Nat}(S:Sim adr h σ X)(e:tget σ.wd l=some xs):Sim adr (h.set (adr (.wat l)) (.list (nL xs++nL ys))) (σ.stay l ys) X:=by
 have z:=S.set_wat l (xs++ys) (congrArg Option.isSome e)
 unfold St.stay
 rw [e,nL_append]
 exact z
end
end Mini.C
end
section
namespace Mini.C
open Mini
noncomputable def MSs.hd:MSs→MS
 | .cons s _=>s
 | .nil=>.bad
noncomputable def MS.bd:MS→MSs
 | .ite _ a _=>a
 | .while _ b=>b
 | .for _ _ b=>b
 | _=>.nil
noncomputable def spBody:MSs:=MS.bd (MSs.hd (MSs.tl (MSs.tl (MSs.tl (MSs.tl (MS.bd (MSs.hd f_Search_spread.body)))))))
section
variable {P:MProg}{sc:List Int}{d:Nat}{adr:Tag→Nat}{h:MHeap}{σ:St}{X:XH}{Q:KV}{ρ:Vars}
theorem sp_append {L:Lg}{R:KF}{r:MSs}{lost:Int}{nb st n j:Nat}{ns xs:List Nat}{c:List Int}(S:Sim adr h σ X)(r0:ρ 0=some (.ref (adr .s)))(r2:ρ 2=some (.ref nb))(r3:ρ 3=some (.ref st))(r4:ρ 4=some (iN j))(a1:adr (.wat lost)=st)
  (gx:tget σ.wd lost=some xs)(lx:xs.length<fitN)(hX:X nb=some (.list (nL ns)))(en:ns[j]?=some n)(ec:σ.rows[n]?=some c)(hc:0<c.length)(H:∀ h',Sim adr h' (σ.stay lost [n]) X→exs L r R (ρ.set 5 (.int (nth c 0))) h') :
  exs L (.cons (.expr (.callM (.var 3) 0 (.cons (.sub (.var 2) (.var 4)) .nil))) (.cons (.assign (.var 5) (.sub (.sub (.attr (.var 0) 22) (.sub (.var 2) (.var 4))) (.int 0))) r)) R ρ h:=by
 have S2:=S.stay_wat (ys:=[n]) gx
 subst a1
 have hn:=(List.getElem?_eq_some_iff.mp ec).1
 exact x_expr (m_append (e_var r3) (S.wat_obj gx) (e_nat r2 (S.o hX) (e_var r4) en) (eq_lt nL_length (fit_line lx)) (x_let (e_sub (e_sub (S2.at r0 rfl) (e_nat r2 (S2.o hX) (e_var r4) en) (.list S2.R (.pos (rL_length.symm▸hn)) (rL_at hn))) e_int (.list (S2.row_obj' (σ:=σ.stay lost [n]) ec) (.pos (j:=0) (iL_length.symm▸hc)) (iL_at (getD_get hc)))) (H _ S2)))
theorem m_callL {L:Lg}{o:ME}{n m:Nat}{es:MEs}{t:Bool}{xs:List MV}(O:Ev L ρ h o (.ref n))(p:h.obj n=some (.list xs))(l:m<3)(H:evL L es ρ (fun vs h=>doM L h (.ref n) m vs (fin t Q) .list) h):ev L (.callM o m es) ρ t Q h:=O.go (.mk (.list p l) H)
theorem stay_get {l:Int}{xs ys:List Nat}(e:tget σ.wd l=some xs):tget (σ.stay l ys).wd l=some (xs++ys):=by
 show tget (tset σ.wd l _) l=_
 rw [tget_tset,if_pos rfl,e]
 rfl
theorem drop_min {α:Type}{xs:List α}{n:Nat}:xs.drop (min n xs.length)=xs.drop n:=by
 rcases Nat.le_total n xs.length with q | q
 ·rw [Nat.min_eq_left q]
 ·rw [Nat.min_eq_right q,List.drop_of_length_le q,List.drop_of_length_le (Nat.le_refl _)]
theorem spreadIn_spec (L:Lib P){R:KF}{lost:Int}{ns:List Nat}{nb st s:Nat}(hX:X nb=some (.list (nL ns)))(hns:ns.length<fitN){res:Option Nat×St}
  (hq1:∀ n σ',res=(some n,σ')→∀ ρ h' adr',adr' .s=s→Sim adr' h' σ' X→R (.ret (iN n)) ρ h')
  (hq2:∀ σ',res=(none,σ')→∀ ρ h' adr',ρ 0=some (.ref s)→adr' .s=s→Sim adr' h' σ' X→R .next ρ h')
  {chk:HP}(hchk:∀ h,chk h)(I:SpI s X lost nb st ns res (nL (List.range' 0 ns.length)) ρ h):forL chk (forB (lg P sc (d + 2)) 4 spBody) (nL (List.range' 0 ns.length)) R ρ h:=by
 refine for_rule (SpI s X lost nb st ns res) (fun uu uu h uu=>hchk h) (fun w r ρ h K I hK=>?_) (fun ρ h I=>?_) I
 ·induction I with
  | @mk adr σ j m r0 r1 r2 r3 a0 a1 S hl hm er e=>
  rcases m with _ | m
  ·exact absurd er (List.cons_ne_nil _ _)
  rw [List.range'_succ,nL_cons] at er
  obtain ⟨rfl,rfl⟩:=List.cons.inj er
  have hj:j<ns.length:=hm▸Nat.lt_add_of_pos_right (Nat.succ_pos m)
  have hm':ns.length=j + 1 + m:=hm.trans (by rw [Nat.add_assoc,Nat.add_comm 1 m])
  have en:=List.getElem?_eq_getElem hj
  rw [List.drop_eq_getElem_cons hj] at e
  subst a0
  have go:=fun {b:Bool}{σ1:St}(em:σ.moved ns[j] lost=some (b,σ1))(H:∀ h1 adr1,adr1 .s=adr .s→adr1 (.wat lost)=st→Sim adr1 h1 σ1 X→(tget σ1.wd lost).isSome=true→If (.bool (!b)) (exs (lg P sc (d + 2)) (MS.bd (MSs.hd spBody)) (seq (lg P sc (d + 2)) .nil (turn R K)) (ρ.set 4 (iN j)) h1) (K (ρ.set 4 (iN j)) h1))=>
   (x_ite' (m_not (m_meth (e_var r0) S.s L.mMoved (e_cons (e_nat r2 (S.o hX) (e_var rfl) en) (e_one (e_var r1))) (moved_spec L S em fun h1 a1' k1 S1=>bool_fin (.mk (.bool _) (H h1 a1' (k1 .s trivial) ((k1 (.wat lost) hl).trans a1) S1 (moved_live em (.wat lost) hl)))))):exs (lg P sc (d + 2)) spBody (turn R K) (ρ.set 4 (iN j)) h)
  induction spreadIn_step e with
  | moved em e=>exact go em fun h1 adr1 s1 w1 S1 hl1=>.no rfl (hK _ _ (.mk (j:=j + 1) r0 r1 r2 r3 s1 w1 S1 hl1 hm' rfl e))
  | @clash σ1 c em hf ec hc hs e=>
   refine go em fun h1 adr1 s1 w1 S1 hl1=>.yes rfl ?_
   obtain ⟨xs,gx⟩:=Option.isSome_iff_exists.mp hl1
   refine sp_append S1 (s1.symm▸r0) r2 r3 rfl w1 gx (fit_wat hf _ (tget_mem gx)) hX en ec hc fun h2 S2=>?_
   have E:Ev (lg P sc (d + 2)) ((ρ.set 4 (iN j)).set 5 (.int (nth c 0))) h2 (.callM (.var 0) 15 (.cons (.var 5) .nil)) (oB (σ1.says (nth c 0))):=S2.says_ev (x:=0) (d:=d + 1) (sc:=sc) L (s1.symm▸r0) (e_var rfl)
   rw [hs] at E
   refine x_iteT (e_cmp E e_bool (.eq (.flat (.at (.bb _ _))))) (x_expr (m_callL (e_var r3) (w1▸S2.wat_obj (stay_get gx)) (Nat.le_of_ble_eq_true rfl) (l_one (m_from (e_var r2) (e_ari (e_var rfl) e_int (.add _ 1)) (.list _ (S2.o hX)) ?_))))
   rw [show clamp (nL ns).length ((j:Int) + 1)=min (j + 1) (nL ns).length from clamp_nat (i:=j + 1),nL_length,nL_drop,drop_min]
   have S3:=S2.push (.list (nL (ns.drop (j + 1))))
   have S4:=(S2.put_less S3).stay_wat (ys:=ns.drop (j + 1)) (stay_get gx)
   have o4:=S3.wat_obj (stay_get gx)
   rw [w1] at S4 o4
   exact .mk (.extend o4 (S3.o put_same) (by rw [nL_length,nL_length,List.length_append]; exact Nat.le_trans (Nat.add_le_add (fit_wat hf _ (tget_mem gx)) (Nat.le_of_lt (Nat.lt_of_le_of_lt (by rw [List.length_drop]; exact Nat.sub_le _ _) hns))) (Nat.le_of_ble_eq_true rfl))) (x_ret (e_nat r2 (S4.o hX) (e_var rfl) en) (hq1 _ _ e _ _ adr1 s1 S4))
  | @yes σ1 c em hf ec hc hs e=>
   refine go em fun h1 adr1 s1 w1 S1 hl1=>.yes rfl ?_
   obtain ⟨xs,gx⟩:=Option.isSome_iff_exists.mp hl1
   refine sp_append S1 (s1.symm▸r0) r2 r3 rfl w1 gx (fit_wat hf _ (tget_mem gx)) hX en ec hc fun h2 S2=>?_
   have E:Ev (lg P sc (d + 2)) ((ρ.set 4 (iN j)).set 5 (.int (nth c 0))) h2 (.callM (.var 0) 15 (.cons (.var 5) .nil)) (oB (σ1.says (nth c 0))):=S2.says_ev (x:=0) (d:=d + 1) (sc:=sc) L (s1.symm▸r0) (e_var rfl)
   rw [hs] at E
   exact x_iteF (e_cmp E e_bool (.eq (.flat (.at (.bb _ _))))) (x_iteF (e_cmp E e_none (.is (.bn _))) (hK _ _ (.mk (j:=j + 1) r0 r1 r2 r3 s1 w1 S2 (stay_live (.wat lost) hl1) hm' rfl e)))
  | @unit σ1 c em hf ec hc hs hf2 e=>
   refine go em fun h1 adr1 s1 w1 S1 hl1=>.yes rfl ?_
   obtain ⟨xs,gx⟩:=Option.isSome_iff_exists.mp hl1
   refine sp_append S1 (s1.symm▸r0) r2 r3 rfl w1 gx (fit_wat hf _ (tget_mem gx)) hX en ec hc fun h2 S2=>?_
   have E:Ev (lg P sc (d + 2)) ((ρ.set 4 (iN j)).set 5 (.int (nth c 0))) h2 (.callM (.var 0) 15 (.cons (.var 5) .nil)) (oB (σ1.says (nth c 0))):=S2.says_ev (x:=0) (d:=d + 1) (sc:=sc) L (s1.symm▸r0) (e_var rfl)
   rw [hs] at E
   exact x_iteF (e_cmp E e_bool (.eq (.flat (.at (.nb _))))) (x_iteT (e_cmp E e_none (.is .nn)) (x_expr (m_meth (e_var (s1.symm▸r0)) S2.s L.mLet (e_cons (e_var rfl) (e_one (e_nat r2 (S2.o hX) (e_var rfl) en))) (let_spec L S2 hf2 (nth c 0) (some _) fun h3 S3=>hK _ _ (.mk (j:=j + 1) r0 r1 r2 r3 s1 w1 S3 (stay_live (.wat lost) hl1) hm' rfl e)))))
 ·induction I with
  | @mk adr σ j m r0 r1 r2 r3 a0 a1 S hl hm er e=>
  rcases m with _ | m
  ·have hm:ns.length=j:=hm
   rw [List.drop_of_length_le (Nat.le_of_eq hm)] at e
   exact hq2 σ (Option.some.inj e).symm _ _ adr r0 a0 S
  ·exact absurd er.symm (List.cons_ne_nil _ _)
end
end Mini.C
end
section
namespace Mini.C
open Mini
section
variable {P:MProg}{sc:List Int}{d:Nat}{adr:Tag→Nat}{h:MHeap}{σ:St}{X:XH}{Q:KV}{ρ:Vars}
theorem Sim.pop_wat (S:Sim adr h σ X)(l:Int){xs:List Nat}(hl:tget σ.wd l=some xs)(hn:(σ.wd.map (·.1)).Nodup) :
  Sim adr (h.set (adr .w) (.idict (kdel (wL (fun l=>adr (.wat l)) σ.wd) l))) (σ.sWd (tdel σ.wd l)) (X.put (adr (.wat l)) (.list (nL xs))):=by
 have e:want (σ.sWd (tdel σ.wd l)) adr .w = .idict (kdel (wL (fun l=>adr (.wat l)) σ.wd) l):=congrArg MObj.idict wL_del.symm
 have e2:want σ adr (.wat l) = .list (nL xs):=congrArg (fun c:Option (List Nat)=>MObj.list (nL (c.getD []))) hl
 have ne:∀ i,(tget (tdel σ.wd l) i).isSome=true→l≠i:=fun i k q=>by rw [tget_tdel hn,if_pos q] at k; exact ff k
 refine e▸e2▸S.free (σ':=σ.sWd (tdel σ.wd l)) .w (.wat l) Tag.noConfusion trivial (congrArg Option.isSome hl) (fun t k=>?_) (fun k=>ne l k rfl) (fun t n k=>?_)
 ·cases t <;> first | exact k | skip
  rename_i i
  have q:=ne i k
  have k:(tget (tdel σ.wd l) i).isSome=true:=k
  rw [tget_tdel hn,if_neg q] at k
  exact k
 ·cases t <;> first | rfl | exact absurd rfl n | skip
  rename_i i
  exact congrArg (fun c:Option (List Nat)=>MObj.list (nL (c.getD []))) ((tget_tdel hn).trans (if_neg (ne i k)))
inductive SpRound (k:Nat)(σ:St)(lost:Int)(r:Int)(σ':St):Prop
 | clash {n:Nat}(hf:fit σ=true)(er:spreadIn lost ((tget σ.wd lost).getD []) (σ.round lost)=some (some n,σ'))(e:r=n):SpRound k σ lost r σ'
 | go {k':Nat}{σ1:St}(ek:k=k' + 1)(hf:fit σ=true)(er:spreadIn lost ((tget σ.wd lost).getD []) (σ.round lost)=some (none,σ1))(e:spreadF k' σ1=some (r,σ')):SpRound k σ lost r σ'
theorem spreadF_step {k:Nat}{r:Int}{σ':St}(hs:σ.seen<σ.row.length)(e:spreadF k σ=some (r,σ')):SpRound k σ (-(nth σ.row σ.seen)) r σ':=by
 rcases k with _ | k
 ·exact ns ((if_neg (Nat.not_le.mpr hs)).symm.trans e)
 have e:=(if_neg (Nat.not_le.mpr hs)).symm.trans e
 by_cases hf:fit σ=true
 ·have e:=(if_neg fun q=>Bool.false_ne_true (q.symm.trans hf)).symm.trans e
  revert e
  generalize er:spreadIn (-(nth σ.row σ.seen)) ((tget σ.wd (-(nth σ.row σ.seen))).getD []) (σ.round (-(nth σ.row σ.seen)))=o
  rcases o with _ | ⟨_ | n,σ1⟩
  ·exact fun e=>ns e
  ·exact fun e=>.go rfl hf er e
  ·intro e
   obtain ⟨rfl,rfl⟩:=Prod.mk.inj (Option.some.inj e)
   exact .clash hf er rfl
 ·exact ns ((if_pos (Bool.eq_false_iff.mpr hf)).symm.trans e)
theorem spreadF_end {k:Nat}{r:Int}{σ':St}(hs:σ.row.length≤σ.seen)(e:spreadF k σ=some (r,σ')):r = -1∧σ'=σ:=by
 rcases k with _ | k <;> exact Prod.mk.inj (Option.some.inj ((if_pos hs).symm.trans e)).symm |>.imp Eq.symm Eq.symm |>.imp Eq.symm Eq.symm
end
end Mini.C
end
section
namespace Mini.C
open Mini
section
variable {P:MProg}{sc:List Int}{d:Nat}{adr:Tag→Nat}{h:MHeap}{σ:St}{X:XH}{Q:KV}{ρ:Vars}
theorem m_tup {L:Lg}{es:MEs}{t:Bool}(H:evL L es ρ (fun vs h=>vs.length≤100∧vs.all MV.flat=true∧fin t Q (.tup vs) h) h):ev L (.tup es) ρ t Q h:=H
theorem m_callD {L:Lg}{o:ME}{n m:Nat}{es:MEs}{t:Bool}{ds:List (Int×MV)}(O:Ev L ρ h o (.ref n))(p:h.obj n=some (.idict ds))(l:m=2∨m=3∨m=4∨m=5)(H:evL L es ρ (fun vs h=>doM L h (.ref n) m vs (fin t Q) .dict) h):ev L (.callM o m es) ρ t Q h:=O.go (.mk (.dict p l) H)
theorem l_cons {L:Lg}{e:ME}{es:MEs}{K:List MV→HP}(H:ev L e ρ false (fun v h=>evL L es ρ (fun vs h=>K (v::vs) h) h) h):evL L (.cons e es) ρ K h:=H
theorem round_walk (L:Lib P){R:KF}{lost:Int}{nb st s:Nat}{ns:List Nat}{res:Option Nat×St}(a0:adr .s=s)(r0:ρ 0=some (.ref s))(r1:ρ 1=some (.int lost))(r2:ρ 2=some (.ref nb))(r3:ρ 3=some (.ref st))(hX:X nb=some (.list (nL ns)))(hst:X st=none)(hns:ns.length<fitN)(lw:σ.wd.length<fitN)
  (hn:tget σ.wd lost=none)(S:Sim adr h σ (X.put st (.list (nL []))))(e:spreadIn lost ns (σ.sWd (tset σ.wd lost []))=some res)
  (hq1:∀ n σ',res=(some n,σ')→∀ ρ h' adr',adr' .s=s→Sim adr' h' σ' X→R (.ret (iN n)) ρ h')
  (hq2:∀ σ',res=(none,σ')→∀ ρ h' adr',ρ 0=some (.ref s)→adr' .s=s→Sim adr' h' σ' X→R .next ρ h') :
  exs (lg P sc (d + 2)) (MSs.tl (MSs.tl (MSs.tl (MS.bd (MSs.hd f_Search_spread.body))))) R ρ h:=by
 subst a0
 have S6:=(S.adopt_wat lost hn put_same).less (X':=X) fun a o e=>by
  have n:a≠st:=fun q=>by rw [q,hst] at e; exact Mini.ns e
  exact (if_neg n).trans ((put_ne n).trans e)
 have hl:(tget (tset σ.wd lost []) lost).isSome=true:=congrArg Option.isSome (tget_tset.trans (if_pos rfl))
 refine x_setI (e_var r3) (S.at r0 rfl) (e_var r1) (.idict S.w (eq_lt wL_length (fit_line lw))) ?_
 have it:∀ h,Items h (.rng 0 ((nL ns).length:Nat)) (nL (List.range' 0 ns.length)):=fun h=>by
  rw [nL_length]
  exact (rngL_nat (a:=0) (Nat.zero_le ns.length))▸Items.rng (h:=h) ((0:Nat):Int) (ns.length:Int)
 exact x_for (e_bui (e_one (e_len (e_var r2) (S6.o hX))) (.range1 (small_nat (by rw [nL_length]; exact Nat.le_of_lt (fit_line hns))))) (it _) (spreadIn_spec (sc:=sc) (d:=d) (R:=seq (lg P sc (d + 2)) .nil R) L (st:=st) (s:=adr .s) (res:=res) hX hns hq1 hq2 it (.mk (adr:=mv adr (.wat lost) st) (j:=0) r0 r1 r2 r3 rfl mv_same S6 hl (Nat.zero_add _).symm rfl e))
inductive SprI (s:Nat)(X:XH)(r:Int)(σ':St)(k:Nat)(ρ:Vars)(h:MHeap):Prop
 | mk {adr:Tag→Nat}{σ:St}(r0:ρ 0=some (.ref s))(a:adr .s=s)(S:Sim adr h σ X)(e:spreadF k σ=some (r,σ')):SprI s X r σ' k ρ h
theorem f_in {v:MV}(H:Q v h):fin false Q v h:=H
theorem tdel_len {α:Type}{es:List (Int×α)}{l:Int}:(tdel es l).length≤es.length:=by
 induction es with
 | nil=>exact Nat.le_refl _
 | cons p r ih=>
  rw [tdel_cons]
  by_cases c:p.1=l
  ·rw [if_pos c]; exact Nat.le_succ _
  ·rw [if_neg c]; exact Nat.succ_le_succ ih
theorem round_eq {lost:Int}(hn:tget (tdel σ.wd lost) lost=none):St.sWd { σ with seen:=σ.seen + 1,wd:=tdel σ.wd lost } (tset (tdel σ.wd lost) lost [])=σ.round lost:=congrArg (fun w=>{ σ with seen:=σ.seen + 1,wd:=w }) (tset_new hn)
theorem spread_round (L:Lib P){R:KF}{lost r:Int}{nb k:Nat}{ns:List Nat}{X':XH}{σ':St}(hX:X' nb=some (.list (nL ns)))(hXX:∀ a o,X a=some o→X' a=some o)(ens:(tget σ.wd lost).getD []=ns)(hns:ns.length<fitN)
  (S:Sim adr h { σ with seen:=σ.seen + 1,wd:=tdel σ.wd lost } X')(step:SpRound k σ lost r σ')(r0:ρ 0=some (.ref (adr .s)))(r1:ρ 1=some (.int lost))(r2:ρ 2=some (.ref nb))(r3:ρ 3=some (.ref h.next))
  (hQ:∀ ρ h' adr',adr' .s=adr .s→Sim adr' h' σ' X→R (.ret (.int r)) ρ h')(hK:∀ k',k'<k→∀ ρ h,SprI (adr .s) X r σ' k' ρ h→R .next ρ h) :
  exs (lg P sc (d + 2)) (MSs.tl (MSs.tl (MSs.tl (MS.bd (MSs.hd f_Search_spread.body))))) R ρ (h.new (.list [])):=by
 have hf:fit σ=true:=by induction step <;> assumption
 have hn:tget (tdel σ.wd lost) lost=none:=(tget_tdel (fit_nd hf)).trans (if_pos rfl)
 have go:=fun {res:Option Nat×St}(e:spreadIn lost ((tget σ.wd lost).getD []) (σ.round lost)=some res)=>round_walk (sc:=sc) (d:=d) (R:=R) (res:=res) L rfl r0 r1 r2 r3 hX (S.none_at (Nat.le_refl _)) hns (Nat.lt_of_le_of_lt tdel_len (fit_wd hf)) hn (S.push (.list (nL []))) (by rw [← ens,round_eq hn]; exact e)
 induction step with
 | clash hf er e=>
  subst e
  exact go er (fun n σ' e ρ h' a2 s2 S2=>by obtain ⟨e1,rfl⟩:=Prod.mk.inj e; rw [← Option.some.inj e1]; exact hQ _ _ _ s2 (S2.less hXX)) fun σ' e=>Mini.ns (Prod.mk.inj e).1.symm
 | go ek hf er e=>
  exact go er (fun n σ' e=>Mini.ns (Prod.mk.inj e).1) fun σ' q ρ h' a2 r0 s2 S2=>hK _ (ek▸Nat.lt_succ_self _) _ _ (.mk r0 s2 (S2.less hXX) ((Prod.mk.inj q).2▸e))
theorem spread_spec (L:Lib P){f:Nat}{r:Int}{σ':St}(S:Sim adr h σ X)(e:spreadF f σ=some (r,σ'))(q:∀ h' adr',adr' .s=adr .s→Sim adr' h' σ' X→Q (.int r) h'):callD P sc (d + 3) L.fSpread [.ref (adr .s)] Q h:=by
 refine enter L.bSpread rfl rfl (x_while (while_rule (SprI (adr .s) X r σ') (fun k ρ h K I hK=>?_) (.mk rfl rfl S e)))
 induction I with
 | @mk a2 σ r0 a S e=>
 have r0':ρ 0=some (.ref (a2 .s)):=a.symm▸r0
 refine (e_cmp (S.at r0' rfl) (S.len_row r0') (.lt _ _)) true _ (bool_fin (If.of (fun k=>?_) fun k=>?_))
 ·have hs:=dec_lt k
  refine x_let (e_neg (S.row_at r0' (S.at r0' rfl) (getD_get hs))) (x_at S r0' (e_ari (S.at r0' rfl) e_int (.add _ 1)) (S.set_seen (σ.seen + 1)) fun h3 S3=>x_asgs' (l_cons (m_callD (S3.at r0' rfl) S3.w (.inl rfl) (l_cons ((e_var rfl).go (l_one (m_list e_nil (Nat.zero_le _) ?_)))))))
  have Sp:=S3.push (.list [])
  generalize hl:-(nth σ.row σ.seen)=lost
  have step:=hl▸spreadF_step hs e
  have hf:fit σ=true:=by induction step <;> assumption
  by_cases eg:(tget σ.wd lost).isSome=true
  ·obtain ⟨xs,eg⟩:=Option.isSome_iff_exists.mp eg
   have S4:=(S3.put_less Sp).pop_wat lost eg (fit_nd hf)
   refine .mk (.popD (r:=[_]) Sp.w (wL_get.trans (congrArg (Option.map _) eg)) (Nat.le_refl _)) ?_
   refine f_in (l_one (m_list e_nil (Nat.zero_le _) (f_in ?_)))
   exact ⟨Nat.le_of_ble_eq_true rfl,rfl,(a_var (a_var (a_nil (spread_round L (σ:=σ) put_same (fun b o e=>(put_ne fun q=>(S3.out _ _ e).ne (.wat lost) (congrArg Option.isSome eg) q.symm).trans e) (congrArg (·.getD []) eg) (fit_wat hf _ (tget_mem eg)) S4 step r0' rfl rfl rfl (fun uu h' a' s' S'=>q h' a' (s'.trans a) S') fun k' l ρ h I=>hK k' l ρ h (a▸I)))))⟩
  ·have eg:=Option.not_isSome_iff_eq_none.mp eg
   refine .mk (.popN Sp.w (wL_get.trans (congrArg (Option.map _) eg))) ?_
   refine f_in (l_one (m_list e_nil (Nat.zero_le _) (f_in ?_)))
   exact ⟨Nat.le_of_ble_eq_true rfl,rfl,(a_var (a_var (a_nil (spread_round L (σ:=σ) put_same S3.sub_put (congrArg (·.getD []) eg) (Nat.le_of_ble_eq_true rfl) ((congrArg (fun w=>{ σ with seen:=σ.seen + 1,wd:=w }) (tdel_none eg)).symm▸Sp) step r0' rfl rfl rfl (fun uu h' a' s' S'=>q h' a' (s'.trans a) S') fun k' l ρ h I=>hK k' l ρ h (a▸I)))))⟩
 ·obtain ⟨rfl,rfl⟩:=spreadF_end (dec_nlt k) e
  exact x_ret (e_neg e_int) (q _ a2 a S)
end
end Mini.C
end
section
namespace Mini.C
open Mini
inductive SeqL (X:XH):List (List Int)→List MV→Prop
 | nil:SeqL X [] []
 | cons {c:List Int}{v:MV}{cs:List (List Int)}{vs:List MV}(s:Seq X c v)(r:SeqL X cs vs):SeqL X (c::cs) (v::vs)
inductive Rows (X:XH)(a:Nat)(cls:List (List Int)):Prop
 | mk {cv:List MV}(e:X a=some (.list cv))(s:SeqL X cls cv):Rows X a cls
structure There (h:MHeap)(a:Nat)(o:MObj):Prop where
 obj:h.obj a=some o
 lt:a<h.next
noncomputable def Out0 (h:MHeap)(X:XH):Prop:=∀ a o,X a=some o→There h a o
structure Lay (h0 h:MHeap)(os:List MObj):Prop where
 next:h.next=h0.next + os.length
 obj:∀ i o,os[i]?=some o→h.obj (h0.next + i)=some o
 old:∀ b,b<h0.next→h.obj b=h0.obj b
noncomputable def heats0 (many:Nat):List (Int×Int):=(List.range' 1 many).foldl (fun es (k:Nat)=>tset es (k:Int) 0) []
noncomputable def St.zero (many:Nat):St:={ kn:=[],hh:=[],ca:=[],li:=[],ht:=heats0 many,row:=[],be:=[],seen:=0,rows:=[],wd:=[],gain:=1,lg:=[],ref:=false,bl:=[],cl:=0,lim:=0 }
noncomputable def Tag.code:Tag→Nat
 | .s=>0 | .kn=>1 | .hh=>2 | .ca=>3 | .ro=>4 | .be=>5 | .li=>6 | .R=>7 | .w=>8 | .ht=>9 | .lg=>10
 | .row _=>0 | .wat _=>0
noncomputable def Tag.decode (n:Nat):Tag:=[Tag.s,.kn,.hh,.ca,.ro,.be,.li,.R,.w,.ht,.lg].getD n .s
inductive AddTo (J:St→Prop)(σ:St)(xs:List Int):Prop
 | mk {σ1 σ2:St}(e:σ.back 0=some σ1)(e2:{ σ1 with ht:=defHeats σ1.ht xs }=σ2)(hh:σ1.ht.length<fitN)(hf:fit σ2=true)(h0:(0:Int)∉xs)(hl:xs.length<64)(q1:Contra xs→J σ2)(q2:¬ Contra xs→∀ ys,OrdOf xs ys→J (σ2.addTo ys)):AddTo J σ xs
inductive SeqUn (X:XH)(w:MV)(r:List MV)(cs:List (List Int)):Prop
 | mk {c:List Int}{cs':List (List Int)}(e:cs=c::cs')(s:Seq X c w)(t:SeqL X cs' r):SeqUn X w r cs
theorem SeqL.uncons {X:XH}{cs:List (List Int)}{w:MV}{r:List MV}(h:SeqL X cs (w::r)):SeqUn X w r cs:=by
 cases h with
 | cons s t=>exact .mk rfl s t
theorem SeqL.unnil {X:XH}{cs:List (List Int)}(h:SeqL X cs []):cs=[]:=by
 cases h
 rfl
section
variable {P:MProg}{sc:List Int}{d:Nat}{adr:Tag→Nat}{h h0:MHeap}{σ:St}{X:XH}{Q:KV}{ρ:Vars}{os:List MObj}
theorem Lay.new (y:Lay h0 h os)(o:MObj):Lay h0 (h.new o) (os++[o]) where
 next:=(congrArg Nat.succ y.next).trans (by rw [List.length_append]; rfl)
 obj i o' e:=by
  by_cases c:i<os.length
  ·rw [List.getElem?_append_left c] at e
   exact (new_ne (y.next▸Nat.add_lt_add_left c _)).trans (y.obj i o' e)
  ·have c:=Nat.not_lt.mp c
   rw [List.getElem?_append_right c] at e
   have k:=(List.getElem?_eq_some_iff.mp e).1
   have k:i=os.length:=Nat.le_antisymm (Nat.le_of_sub_eq_zero (Nat.lt_one_iff.mp k)) c
   rw [k,Nat.sub_self] at e
   rw [k,← y.next,← Option.some.inj e]
   exact new_same
 old b l:=(new_ne (y.next▸Nat.lt_of_lt_of_le l (Nat.le_add_right _ _))).trans (y.old b l)
theorem Lay.set {o1:MObj}(y:Lay h0 h (o1::os))(o:MObj):Lay h0 (h.set h0.next o) (o::os) where
 next:=y.next
 obj i o' e:=by
  rcases i with _ | i
  ·rw [← Option.some.inj e]; exact set_same
  ·exact (set_ne (Nat.ne_of_gt (Nat.lt_add_of_pos_right (Nat.succ_pos i)))).trans (y.obj (i + 1) o' e)
 old b l:=(set_ne (Nat.ne_of_lt l)).trans (y.old b l)
section
variable {L:Lg}{r:MSs}{R:KF}{a:Nat}{e:ME}{o:MObj}{v:MV}{as as':List (Nat×MV)}
theorem lay_new (y:Lay h0 h (.inst as::os))(r0:ρ 0=some (.ref h0.next))(E:∀ Q:KV,Q (.ref h.next) (h.new o)→ev L e ρ false Q h)(l:as.length<100)(k:kset as a (.ref (h0.next + (os.length + 1)))=as')(H:∀ h',Lay h0 h' (.inst as'::(os++[o]))→exs L r R ρ h'):exs L (.cons (.assign (.attr (.var 0) a) e) r) R ρ h:=by
 have n:h.next=h0.next + (os.length + 1):=y.next
 subst k
 rw [← n] at H
 exact x_atr (E _ (a_setA (e_var r0) (.mk ((y.new o).obj 0 _ rfl) l) (H _ ((y.new o).set _))))
theorem lay_val (y:Lay h0 h (.inst as::os))(r0:ρ 0=some (.ref h0.next))(E:Ev L ρ h e v)(l:as.length<100)(k:kset as a v=as')(H:∀ h',Lay h0 h' (.inst as'::os)→exs L r R ρ h'):exs L (.cons (.assign (.attr (.var 0) a) e) r) R ρ h:=by
 subst k
 exact x_setA E (e_var r0) (.mk (y.obj 0 _ rfl) l) (H _ (y.set _))
end
noncomputable abbrev at0 (n:Nat):List (Nat×MV):=[(18,.ref (n + 1)),(9,.ref (n + 2)),(19,.ref (n + 3)),(8,.ref (n + 4)),(7,.ref (n + 5)),(20,.int 0),(21,.ref (n + 6))]
theorem init0_spec (L:Lib P)(y:Lay h0 h [.inst []])(q:∀ h',Lay h0 h' [.inst (at0 h0.next),.idict [],.idict [],.idict [],.list [],.list [],.idict []]→Q .none h'):callD P sc (d + 1) L.fInit0 [.ref h0.next] Q h:=
 enter L.bInit0 rfl rfl <|
 lay_new y rfl (fun uu H=>H) (Nat.le_of_ble_eq_true rfl) rfl fun uu y=>lay_new y rfl (fun uu H=>H) (Nat.le_of_ble_eq_true rfl) rfl fun uu y=>lay_new y rfl (fun uu H=>H) (Nat.le_of_ble_eq_true rfl) rfl fun uu y=>
 lay_new y rfl (fun uu H=>m_list e_nil (Nat.zero_le _) H) (Nat.le_of_ble_eq_true rfl) rfl fun uu y=>lay_new y rfl (fun uu H=>m_list e_nil (Nat.zero_le _) H) (Nat.le_of_ble_eq_true rfl) rfl fun uu y=>
 lay_val y rfl e_int (Nat.le_of_ble_eq_true rfl) rfl fun uu y=>lay_new y rfl (fun uu H=>H) (Nat.le_of_ble_eq_true rfl) rfl fun uu y=>q _ y
theorem foldl_kset {ks:List Nat}{acc:List (Int×Int)}:ks.foldl (fun es (k:Nat)=>kset es (k:Int) (.int 0)) (mvs .int acc)=mvs .int (ks.foldl (fun es (k:Nat)=>tset es (k:Int) 0) acc):=by
 induction ks generalizing acc with
 | nil=>rfl
 | cons k r ih=>exact (congrArg (fun z=>r.foldl (fun es (k:Nat)=>kset es (k:Int) (.int 0)) z) kset_mvs).trans ih
theorem dict_heats {L:Lg}{many:Nat}{t:Bool}(r2:ρ 2=some (.int (many:Int)))(hb:many<1000)(q:fin t Q (.ref h.next) (h.new (.idict (mvs .int (heats0 many))))) :
  ev L (.dcomp (.var 4) (.int 0) 4 (.callB .range2 (.cons (.int 1) (.cons (.bin .add (.var 2) (.int 1)) .nil)))) ρ t Q h:=by
 have hb:many + 1≤lenLine:=Nat.le_trans hb (Nat.le_of_ble_eq_true rfl)
 refine m_dcomp (emb:=iN) (c:=fun k:Nat=>(k:Int)) (g:=fun uu=>.int 0) (as:=List.range' 1 many) (e_bui (e_cons e_int (e_one (e_ari (e_var r2) e_int (.add _ 1)))) (.range2 (small_nat (n:=1) (Nat.le_of_ble_eq_true rfl)) (small_nat (n:=many + 1) hb))) ?_ (fun a uu=>e_var rfl) (fun a uu=>e_int) (by rw [List.length_range']; exact Nat.le_of_lt hb) ?_
 ·have z:=Items.rng (h:=h) ((1:Nat):Int) ((many + 1:Nat):Int)
  rw [rngL_nat (Nat.succ_le_succ (Nat.zero_le many))] at z
  exact z
 ·rw [show (List.range' 1 many).foldl (fun es (k:Nat)=>kset es (k:Int) (.int 0)) []=mvs .int (heats0 many) from foldl_kset (acc:=[])]
  exact q
theorem live_code {many:Nat}{t:Tag}(l:live (St.zero many) t):Tag.decode t.code=t:=by
 cases t <;> first | rfl | exact absurd l (Nat.not_lt_zero _) | exact ff l
noncomputable abbrev at1 (n:Nat):List (Nat×MV):=[(18,.ref (n + 1)),(9,.ref (n + 2)),(19,.ref (n + 3)),(8,.ref (n + 4)),(7,.ref (n + 5)),(20,.int 0),(21,.ref (n + 6)),(22,.ref (n + 7)),(23,.ref (n + 8)),(24,.ref (n + 9)),(25,.int 1),(11,.ref (n + 10)),(13,.bool false),(26,.tup []),(10,.int 0),(27,.int 0)]
theorem sim_zero {many:Nat}(O:Out0 h0 X)(y:Lay h0 h [.inst (at1 h0.next),.idict [],.idict [],.idict [],.list [],.list [],.idict [],.list [],.idict [],.idict (mvs .int (heats0 many)),.list []]):Sim (fun t=>h0.next + t.code) h (St.zero many) X where
 obj t l:=by cases t <;> first | exact y.obj 0 _ rfl | exact y.obj 1 _ rfl | exact y.obj 2 _ rfl | exact y.obj 3 _ rfl | exact y.obj 4 _ rfl | exact y.obj 5 _ rfl | exact y.obj 6 _ rfl | exact y.obj 7 _ rfl | exact y.obj 8 _ rfl | exact y.obj 9 _ rfl | exact y.obj 10 _ rfl | exact absurd l (Nat.not_lt_zero _) | exact ff l
 lt t l:=y.next▸Nat.add_lt_add_left (by cases t <;> exact Nat.le_of_ble_eq_true rfl) _
 inj t t' l l' e:=(live_code l).symm.trans ((congrArg Tag.decode (Nat.add_left_cancel e)).trans (live_code l'))
 out a o e:=⟨(y.old a (O a o e).lt).trans (O a o e).obj,y.next▸Nat.lt_of_lt_of_le (O a o e).lt (Nat.le_add_right _ _),fun t uu q=>Nat.lt_irrefl a (Nat.lt_of_lt_of_le (O a o e).lt (q▸Nat.le_add_right _ _))⟩
inductive InI (s:Nat)(X:XH)(cls:List (List Int))(J:List (List Int)→St→Prop)(r:List MV)(ρ:Vars)(h:MHeap):Prop
 | mk {done rest:List (List Int)}{σ:St}{adr:Tag→Nat}(r0:ρ 0=some (.ref s))(e:cls=done++rest)(sl:SeqL X rest r)(a:adr .s=s)(j:J done σ)(S:Sim adr h σ X):InI s X cls J r ρ h
theorem init_spec (L:Lib P){many:Nat}(O:Out0 h0 X)(hb:many<1000){a:Nat}{cls:List (List Int)}(hr:Rows X a cls)(J:List (List Int)→St→Prop)(j0:J [] (St.zero many))
  (step:∀ done xs rest σ,cls=done++xs::rest→J done σ→AddTo (J (done++[xs])) σ xs)
  (q:∀ h' adr σ,adr .s=h0.next→J cls σ→Sim adr h' σ X→Q .none h'):callD P sc (d + 3) P.init [.ref h0.next,.ref a,.int (many:Int)] Q (h0.new (.inst [])):=by
 induction hr with
 | @mk cv ha sl=>
 have y:Lay h0 (h0.new (.inst [])) [.inst []]:=⟨rfl,fun i o e=>by
  rcases i with _ | i
  ·exact new_same.trans e
  ·exact ns e,fun b l=>new_ne l⟩
 refine .mk L.bInit ⟨rfl,.mk (y.obj 0 _ rfl) (init0_spec L y fun h1 y=>?_)⟩
 refine lay_new y rfl (fun uu H=>m_list e_nil (Nat.zero_le _) H) (Nat.le_of_ble_eq_true rfl) rfl fun uu y=>lay_new y rfl (fun uu H=>H) (Nat.le_of_ble_eq_true rfl) rfl fun uu y=>
  lay_new y rfl (fun uu H=>dict_heats rfl hb H) (Nat.le_of_ble_eq_true rfl) rfl fun uu y=>lay_val y rfl e_int (Nat.le_of_ble_eq_true rfl) rfl fun uu y=>
  lay_new y rfl (fun uu H=>m_list e_nil (Nat.zero_le _) H) (Nat.le_of_ble_eq_true rfl) rfl fun uu y=>lay_val y rfl e_bool (Nat.le_of_ble_eq_true rfl) rfl fun uu y=>
  lay_val y rfl (e_tup e_nil (Nat.zero_le _) rfl) (Nat.le_of_ble_eq_true rfl) rfl fun uu y=>lay_val y rfl e_int (Nat.le_of_ble_eq_true rfl) rfl fun uu y=>lay_val y rfl e_int (Nat.le_of_ble_eq_true rfl) rfl fun h2 y=>?_
 have S:Sim (fun t=>h0.next + t.code) h2 (St.zero many) X:=sim_zero O y
 refine x_for (e_var rfl) (.list (S.o ha)) (for_rule (InI h0.next X cls J) (fun r ρ h I=>?_) (fun w r ρ h K I hK=>?_) (fun ρ h I=>?_) (.mk (done:=[]) rfl rfl sl rfl j0 S))
 ·induction I with
  | mk _ _ _ _ _ S=>exact .list (S.o ha)
 ·induction I with
  | @mk done rest σ adr r0 e sl a j S=>
  induction sl.uncons with
  | @mk xs rest' e2 s1 sl'=>
  subst e2
  have r0':ρ 0=some (.ref (adr .s)):=a.symm▸r0
  induction step _ _ _ _ e j with
  | mk b1 b2 b3 b4 h0 hl q1 q2=>
  have go:=fun (h':MHeap)(adr':Tag→Nat)(σ':St)(s:adr' .s=adr .s)(j:J (done++[xs]) σ')(S:Sim adr' h' σ' X)=>hK (Vars.set ρ 3 w) h' (.mk (done:=done++[xs]) r0 (e.trans (by rw [List.append_assoc]; rfl)) sl' (s.trans a) j S)
  exact x_expr (m_meth (e_var (n:=0) r0') S.s L.mAdd (e_one (e_var rfl)) (add_spec L S s1 h0 hl b1 b2 b3 b4 (fun c h' a' s S=>go _ _ _ s (q1 c) S) fun c ys ho h' a' s S=>go _ _ _ s (q2 c ys ho) S))
 ·induction I with
  | @mk done rest σ adr r0 e sl a j S=>
  have e2:=sl.unnil
  subst e2
  rw [List.append_nil] at e
  exact q _ adr σ a (e▸j) S
end
end Mini.C
end
section
namespace Mini.C
open Mini
structure LibL (P:MProg) extends Lib P where
 fWarm:Nat
 fLesson:Nat
 fHeight:Nat
 fLearn:Nat
 mWarm:P.meths.lookup 33=some fWarm
 mLesson:P.meths.lookup 34=some fLesson
 mHeight:P.meths.lookup 14=some fHeight
 mLearn:P.meths.lookup 12=some fLearn
 bWarm:P.fns[fWarm]?=some f_Search_warm
 bLesson:P.fns[fLesson]?=some f_Search_lesson
 bHeight:P.fns[fHeight]?=some f_Search_height_of
 bLearn:P.fns[fLearn]?=some f_Search_learn
noncomputable def cool (es:List (Int×Int)):List (Int×Int):=es.map fun p=>(p.1,p.2.fdiv 1000000000)
noncomputable def St.warm (σ:St)(v:Int):Option St:=
 match tget σ.ht v with
 | none=>none
 | some x=>if fit σ=true∧(σ.ht.map (·.1)).Nodup then some (if x + σ.gain≤1000000000 then σ.sHt (tset σ.ht v (x + σ.gain)) else (σ.sHt (cool (tset σ.ht v (x + σ.gain)))).sGain 1) else none
section
variable {P:MProg}{sc:List Int}{d:Nat}{adr:Tag→Nat}{h:MHeap}{σ:St}{X:XH}{Q:KV}{ρ:Vars}
theorem Sim.hh_at {L:Lg}{x:Nat}{i:ME}{k:Int}{n:Nat}(S:Sim adr h σ X)(q:ρ x=some (.ref (adr .s)))(E:Ev L ρ h i (.int k))(e:tget σ.hh k=some n):Ev L ρ h (.sub (.attr (.var x) 9) i) (iN n):=e_sub (S.at q rfl) E (.idict S.hh (kget_at e))
theorem Sim.ht_at {L:Lg}{x:Nat}{i:ME}{k n:Int}(S:Sim adr h σ X)(q:ρ x=some (.ref (adr .s)))(E:Ev L ρ h i (.int k))(e:tget σ.ht k=some n):Ev L ρ h (.sub (.attr (.var x) 24) i) (.int n):=e_sub (S.at q rfl) E (.idict S.ht (kget_at e))
theorem Sim.ca_at {L:Lg}{x:Nat}{i:ME}{k:Int}{n:Option Nat}(S:Sim adr h σ X)(q:ρ x=some (.ref (adr .s)))(E:Ev L ρ h i (.int k))(e:tget σ.ca k=some n):Ev L ρ h (.sub (.attr (.var x) 19) i) (oN n):=e_sub (S.at q rfl) E (.idict S.ca (kget_at e))
theorem height_spec (L:LibL P)(S:Sim adr h σ X){l:Int}{n:Nat}(e:tget σ.hh l.natAbs=some n)(q:Q (.int (n:Int)) h):callD P sc (d + 1) L.fHeight [.ref (adr .s),.int l] Q h:=
 enter L.bHeight rfl rfl (x_ret (S.hh_at rfl (e_abs (e_var rfl)) e) q)
inductive Warmed (σ:St)(v:Int)(σ':St):Prop
 | low {x:Int}(e:tget σ.ht v=some x)(f:fit σ=true)(l:x + σ.gain≤1000000000)(e':σ'=σ.sHt (tset σ.ht v (x + σ.gain))):Warmed σ v σ'
 | high {x:Int}(e:tget σ.ht v=some x)(f:fit σ=true)(n:(σ.ht.map (·.1)).Nodup)(l:1000000000<x + σ.gain)(e':σ'=(σ.sHt (cool (tset σ.ht v (x + σ.gain)))).sGain 1):Warmed σ v σ'
theorem warm_step {v:Int}{σ':St}(e:σ.warm v=some σ'):Warmed σ v σ':=by
 unfold St.warm at e
 revert e
 generalize eg:tget σ.ht v=o
 rcases o with _ | x
 ·exact fun e=>ns e
 ·intro e
  by_cases c:fit σ=true∧(σ.ht.map (·.1)).Nodup
  ·have e:=(Option.some.inj ((if_pos c).symm.trans e)).symm
   by_cases l:x + σ.gain≤1000000000
   ·exact .low eg c.1 l (e.trans (if_pos l))
   ·exact .high eg c.1 c.2 (Int.not_le.mp l) (e.trans (if_neg l))
  ·exact ns ((if_neg c).symm.trans e)
theorem tget_nodup {α:Type}{es:List (Int×α)}(n:(es.map (·.1)).Nodup){p:Int×α}(hp:p∈es):tget es p.1=some p.2:=by
 induction es with
 | nil=>exact absurd hp List.not_mem_nil
 | cons q r ih=>
  rw [List.map_cons,List.nodup_cons] at n
  rw [tget_cons]
  rcases List.mem_cons.mp hp with rfl | m
  ·exact if_pos rfl
  ·rw [if_neg fun z:q.1=p.1=>n.1 (z▸List.mem_map.mpr ⟨p,m,rfl⟩)]; exact ih n.2 m
theorem cool_fold {es acc:List (Int×Int)}(n:((acc++es).map (·.1)).Nodup):es.foldl (fun a (p:Int×Int)=>kset a p.1 (.int (p.2.fdiv 1000000000))) (mvs .int acc)=mvs .int (acc++cool es):=by
 induction es generalizing acc with
 | nil=>rw [show cool []=[] from rfl,List.append_nil]; rfl
 | cons p r ih=>
  have k:tget acc p.1=none:=tget_none.mpr fun m=>by
   rw [List.map_append,List.nodup_append] at n
   exact n.2.2 _ m _ (List.mem_map.mpr ⟨p,List.mem_cons_self,rfl⟩) rfl
  rw [List.foldl_cons,kset_mvs,tset_new k,ih,List.append_assoc]
  ·rfl
  ·have e:((acc++[(p.1,p.2.fdiv 1000000000)]++r).map (·.1))=(acc++p::r).map (·.1):=by rw [List.append_assoc,List.map_append,List.map_append,List.map_append]; rfl
   exact e▸n
theorem le_of_isSome {es:List (Int×Int)}{k x y:Int}(e:tget es k=some x):(tset es k y).length≤es.length:=by
 have z:=congrArg List.length (keys_tset (es:=es) (k:=k) (v:=y))
 rw [e,List.length_map] at z
 exact Nat.le_of_eq (z.trans (List.length_map _))
theorem x_cool {L:Lg}{r:MSs}{R:KF}(S:Sim adr h σ X)(q:ρ 0=some (.ref (adr .s)))(n:(σ.ht.map (·.1)).Nodup)(l:σ.ht.length<fitN)(H:∀ h',Sim (mv adr .ht h.next) h' (σ.sHt (cool σ.ht)) X→exs L r R ρ h') :
  exs L (.cons (.assign (.attr (.var 0) 24) (.dcomp (.var 2) (.bin .fdiv (.sub (.attr (.var 0) 24) (.var 2)) (.glob 1000000000)) 2 (.keys (.attr (.var 0) 24)))) r) R ρ h:=by
 have it:Items h (.keys (adr .ht) h.tick) (σ.ht.map fun p=>.int p.1):=by
  have z:=Items.keys S.ht
  rw [show (mvs MV.int σ.ht).map (fun e=>MV.int e.1)=σ.ht.map fun p=>.int p.1 from List.map_map] at z
  exact z
 refine x_atr (m_dcomp (as:=σ.ht) (c:=fun p=>p.1) (g:=fun p=>.int (p.2.fdiv 1000000000)) (e_keys (S.at q rfl)) it (fun uu uu=>e_var rfl) (fun p hp=>e_ari (e_sub (S.at q rfl) (e_var rfl) (.idict S.ht (kget_at (tget_nodup n hp)))) e_glob (.fdiv (by decide) (by decide))) (Nat.le_of_lt (fit_line l)) ?_)
 rw [show σ.ht.foldl (fun es (a:Int×Int)=>kset es a.1 (MV.int (a.2.fdiv 1000000000))) []=mvs .int (cool σ.ht) from cool_fold (acc:=[]) n]
 exact a_setA (e_var q) (.mk (S.push _).s (Nat.le_of_ble_eq_true rfl)) (H _ (S.new_ht _))
noncomputable def Off (a a':Tag→Nat):Prop:=∀ t,t≠.ht→a' t=a t
theorem Off.refl {a:Tag→Nat}:Off a a:=fun uu uu=>rfl
theorem Off.trans {a b c:Tag→Nat}(x:Off a b)(y:Off b c):Off a c:=fun t n=>(y t n).trans (x t n)
theorem Off.mv {a:Tag→Nat}{n:Nat}:Off a (mv a .ht n):=fun uu n=>mv_ne n
theorem Off.s {a a':Tag→Nat}(x:Off a a'):a' .s=a .s:=x .s Tag.noConfusion
theorem warm_spec (L:LibL P)(S:Sim adr h σ X){v:Int}{σ':St}(e:σ.warm v=some σ')(q:∀ h' adr',Off adr adr'→Sim adr' h' σ' X→Q .none h'):callD P sc (d + 1) L.fWarm [.ref (adr .s),.int v] Q h:=by
 have cond:∀ {h':MHeap}{y:Int},Sim adr h' (σ.sHt (tset σ.ht v y)) X→Ev (Mini.lg P sc d) (bindV [.ref (adr .s),.int v]) h' (.cmp .gt (.sub (.attr (.var 0) 24) (.var 1)) (.glob 1000000000)) (.bool (decide (1000000000<y))):=fun S'=>e_cmp (e_sub (S'.at rfl rfl) (e_var rfl) (.idict S'.ht (kget_at (tget_tset.trans (if_pos rfl))))) e_glob (.gt _ _)
 induction warm_step e with
 | @low x ex f l e'=>
  subst e'
  exact enter L.bWarm rfl rfl <| x_ht S rfl (e_ari (S.ht_at rfl (e_var rfl) ex) (S.at rfl rfl) (.add _ _)) (e_var rfl) (fit_ht f) fun uu S=>
   x_if (cond S) (fun q=>absurd (of_decide_eq_true q) (Int.not_lt.mpr l)) fun uu=>q _ _ .refl S
 | @high x ex f n l e'=>
  subst e'
  exact enter L.bWarm rfl rfl <| x_ht S rfl (e_ari (S.ht_at rfl (e_var rfl) ex) (S.at rfl rfl) (.add _ _)) (e_var rfl) (fit_ht f) fun uu S=>
   x_if (cond S) (fun uu=>x_cool S rfl (keys_nodup n) (Nat.lt_of_le_of_lt (le_of_isSome ex) (fit_ht f)) fun uu S=>x_at S rfl e_int (S.set_gain 1) fun uu S=>q _ _ .mv S) fun q=>absurd l (of_decide_eq_false q)
noncomputable def mkL (mk:List Int):List (Int×MV):=mk.map fun k=>(k,.bool true)
theorem mkL_any {mk:List Int}{k:Int}:((mkL mk).any fun e=>e.1==k)=decide (k∈mk):=by
 have e:((mkL mk).any fun e=>e.1==k)=mk.any fun e=>e==k:=List.any_map (l:=mk)
 rw [e]
 by_cases c:k∈mk
 ·rw [decide_eq_true c]; exact List.any_eq_true.mpr ⟨k,c,beq_iff_eq.mpr rfl⟩
 ·rw [decide_eq_false c]
  exact Bool.eq_false_iff.mpr fun q=>by obtain ⟨x,hx,e⟩:=List.any_eq_true.mp q; exact c (eq_of_beq e▸hx)
theorem mkL_set {mk:List Int}{k:Int}(h:k∉mk):kset (mkL mk) k (.bool true)=mkL (mk++[k]):=by
 induction mk with
 | nil=>rfl
 | cons a r ih=>
  show kset ((a,MV.bool true)::mkL r) k _=(a,MV.bool true)::mkL (r++[k])
  rw [kset_cons,if_neg fun q:a=k=>h (q▸List.mem_cons_self),ih fun q=>h (List.mem_cons_of_mem _ q)]
theorem mkL_length {mk:List Int}:(mkL mk).length=mk.length:=List.length_map _
structure Scan where
 mm:List Int
 bh:List Int
 op:Int
 st:St
noncomputable def scan (pivot:Int):List Int→Scan→Option Scan
 | [],s=>some s
 | one::r,s=>
  if one=pivot∨(one.natAbs:Int)∈s.mm then scan pivot r s else
  match tget s.st.hh one.natAbs with
  | none=>none
  | some ht=>if ht=0 then scan pivot r s else
   match s.st.warm one.natAbs with
   | none=>none
   | some σ1=>if 1000<s.mm.length∨1000<s.bh.length then none else
    if ht=σ1.be.length then scan pivot r ⟨s.mm++[(one.natAbs:Int)],s.bh,s.op + 1,σ1⟩
    else scan pivot r ⟨s.mm++[(one.natAbs:Int)],s.bh++[one],s.op,σ1⟩
inductive ScanStep (pivot one:Int)(r:List Int)(s s':Scan):Prop
 | same (e:one=pivot)(k:scan pivot r s=some s'):ScanStep pivot one r s s'
 | old (n:one≠pivot)(e:(one.natAbs:Int)∈s.mm)(k:scan pivot r s=some s'):ScanStep pivot one r s s'
 | low (n:one≠pivot)(n':(one.natAbs:Int)∉s.mm)(e:tget s.st.hh one.natAbs=some 0)(k:scan pivot r s=some s'):ScanStep pivot one r s s'
 | top {σ1:St}(n:one≠pivot)(n':(one.natAbs:Int)∉s.mm)(e:tget s.st.hh one.natAbs=some σ1.be.length)(e0:σ1.be.length≠0)(w:s.st.warm one.natAbs=some σ1)(lm:s.mm.length≤1000)(lb:s.bh.length≤1000)(k:scan pivot r ⟨s.mm++[(one.natAbs:Int)],s.bh,s.op + 1,σ1⟩=some s'):ScanStep pivot one r s s'
 | less {ht:Nat}{σ1:St}(n:one≠pivot)(n':(one.natAbs:Int)∉s.mm)(e:tget s.st.hh one.natAbs=some ht)(e0:ht≠0)(e1:ht≠σ1.be.length)(w:s.st.warm one.natAbs=some σ1)(lm:s.mm.length≤1000)(lb:s.bh.length≤1000)(k:scan pivot r ⟨s.mm++[(one.natAbs:Int)],s.bh++[one],s.op,σ1⟩=some s'):ScanStep pivot one r s s'
theorem scan_step {pivot one:Int}{r:List Int}{s s':Scan}(e:scan pivot (one::r) s=some s'):ScanStep pivot one r s s':=by
 rw [scan] at e
 by_cases c1:one=pivot
 ·exact .same c1 ((if_pos (.inl c1)).symm.trans e)
 by_cases c2:(one.natAbs:Int)∈s.mm
 ·exact .old c1 c2 ((if_pos (.inr c2)).symm.trans e)
 have e:=(if_neg fun q=>q.elim c1 c2).symm.trans e
 revert e
 generalize eh:tget s.st.hh one.natAbs=oh
 rcases oh with _ | ht
 ·exact fun e=>ns e
 intro e
 by_cases c3:ht=0
 ·exact .low c1 c2 (c3▸eh) ((if_pos c3).symm.trans e)
 have e:=(if_neg c3).symm.trans e
 revert e
 generalize ew:s.st.warm one.natAbs=ow
 rcases ow with _ | σ1
 ·exact fun e=>ns e
 intro e
 by_cases c4:1000<s.mm.length∨1000<s.bh.length
 ·exact ns ((if_pos c4).symm.trans e)
 have e:=(if_neg c4).symm.trans e
 have lm:=Nat.not_lt.mp fun q=>c4 (.inl q)
 have lb:=Nat.not_lt.mp fun q=>c4 (.inr q)
 by_cases c5:ht=σ1.be.length
 ·exact .top c1 c2 (c5▸eh) (c5▸c3) ew lm lb ((if_pos c5).symm.trans e)
 ·exact .less c1 c2 eh c3 c5 ew lm lb ((if_neg c5).symm.trans e)
structure ScanAt (adr:Tag→Nat)(X:XH)(m b:Nat)(s:Scan)(ρ:Vars)(h:MHeap):Prop where
 r0:ρ 0=some (.ref (adr .s))
 r2:ρ 2=some (.ref m)
 r3:ρ 3=some (.ref b)
 r4:ρ 4=some (.int s.op)
 sim:Sim adr h s.st ((X.put m (.idict (mkL s.mm))).put b (.list (iL s.bh)))
variable {m b:Nat}{s:Scan}
theorem put_comm {m b:Nat}(h:m≠b){A B A':MObj}:(((X.put m A).put b B).put m A')=(X.put m A').put b B:=by
 funext c
 by_cases c1:c=m
 ·rw [c1,put_same,put_ne h,put_same]
 ·rw [put_ne c1]
  by_cases c2:c=b
  ·rw [c2,put_same,put_same]
  ·rw [put_ne c2,put_ne c1,put_ne c2,put_ne c1]
theorem ScanAt.om (h0:m≠b)(A:ScanAt adr X m b s ρ h):h.obj m=some (.idict (mkL s.mm)):=A.sim.o ((put_ne h0).trans put_same)
theorem warm_same {σ':St}{v:Int}(e:σ.warm v=some σ'):σ'.rows=σ.rows∧σ'.hh=σ.hh∧σ'.be=σ.be∧σ'.row=σ.row∧σ'.ca=σ.ca:=by
 induction warm_step e with
 | low _ _ _ e=>subst e; exact ⟨rfl,rfl,rfl,rfl,rfl⟩
 | high _ _ _ _ e=>subst e; exact ⟨rfl,rfl,rfl,rfl,rfl⟩
end
end Mini.C
end
section
namespace Mini.C
open Mini
noncomputable def lsBody:MSs:=MS.bd (MSs.hd (MSs.tl f_Search_lesson.body))
noncomputable def scBody:MSs:=MS.bd (MSs.hd lsBody)
section
variable {P:MProg}{sc:List Int}{d:Nat}{adr:Tag→Nat}{h:MHeap}{σ:St}{X:XH}{Q:KV}{ρ:Vars}{m b:Nat}{s:Scan}
section
variable {L:Lg}{l r:ME}{x y:Int}
theorem e_as {e:ME}{c c':Bool}(E:Ev L ρ h e (.bool c))(q:c=c'):Ev L ρ h e (.bool c'):=q▸E
theorem not_t {c:Bool}(q:c=true):(!c)=false:=q▸rfl
theorem not_f {c:Bool}(q:c=false):(!c)=true:=q▸rfl
theorem e_eqT (E:Ev L ρ h l (.int x))(E':Ev L ρ h r (.int y))(e:x=y):Ev L ρ h (.cmp .eq l r) (.bool true):=e_as (e_cmp E E' (.eq (.flat (.at (.ii _ _))))) (beq_iff_eq.mpr e)
theorem e_eqF (E:Ev L ρ h l (.int x))(E':Ev L ρ h r (.int y))(e:x≠y):Ev L ρ h (.cmp .eq l r) (.bool false):=e_as (e_cmp E E' (.eq (.flat (.at (.ii _ _))))) (beq_eq_false_iff_ne.mpr e)
theorem e_neF (E:Ev L ρ h l (.int x))(E':Ev L ρ h r (.int y))(e:x=y):Ev L ρ h (.cmp .ne l r) (.bool false):=e_as (e_cmp E E' (.ne (.flat (.at (.ii _ _))))) (not_t (beq_iff_eq.mpr e))
theorem e_neT (E:Ev L ρ h l (.int x))(E':Ev L ρ h r (.int y))(e:x≠y):Ev L ρ h (.cmp .ne l r) (.bool true):=e_as (e_cmp E E' (.ne (.flat (.at (.ii _ _))))) (not_f (beq_eq_false_iff_ne.mpr e))
theorem e_gtT (E:Ev L ρ h l (.int x))(E':Ev L ρ h r (.int y))(e:y<x):Ev L ρ h (.cmp .gt l r) (.bool true):=e_as (e_cmp E E' (.gt _ _)) (decide_eq_true e)
theorem e_gtF (E:Ev L ρ h l (.int x))(E':Ev L ρ h r (.int y))(e:x≤y):Ev L ρ h (.cmp .gt l r) (.bool false):=e_as (e_cmp E E' (.gt _ _)) (decide_eq_false (Int.not_lt.mpr e))
theorem e_mkF {n:Nat}{mk:List Int}(E:Ev L ρ h l (.int x))(E':Ev L ρ h r (.ref n))(o:h.obj n=some (.idict (mkL mk)))(e:x∈mk):Ev L ρ h (.cmp .notin l r) (.bool false):=e_as (e_cmp E E' (.notin (.dict o))) (not_t (mkL_any.trans (decide_eq_true e)))
theorem e_mkT {n:Nat}{mk:List Int}(E:Ev L ρ h l (.int x))(E':Ev L ρ h r (.ref n))(o:h.obj n=some (.idict (mkL mk)))(e:x∉mk):Ev L ρ h (.cmp .notin l r) (.bool true):=e_as (e_cmp E E' (.notin (.dict o))) (not_f (mkL_any.trans (decide_eq_false e)))
end
inductive ScI (a0:Tag→Nat)(X:XH)(m b:Nat)(pivot:Int)(rows0:List (List Int))(v5:MV)(s':Scan)(r:List MV)(ρ:Vars)(h:MHeap):Prop
 | mk {adr:Tag→Nat}{rest:List Int}{s:Scan}(ea:Off a0 adr)(er:r=iL rest)(e:scan pivot rest s=some s')(A:ScanAt adr X m b s ρ h)(hr:s.st.rows=rows0)(r5:ρ 5=some v5)(r6:ρ 6=some (.int pivot)):ScI a0 X m b pivot rows0 v5 s' r ρ h
theorem sc_mark (L:LibL P){R:KF}{r:MSs}(hmb:m≠b){v:Int}{σ1:St}(A:ScanAt adr X m b s ρ h)(r8:ρ 8=some (.int v))(n:v∉s.mm)(w:s.st.warm v=some σ1)(lm:s.mm.length≤1000)
  (H:∀ h' adr',Off adr adr'→Sim adr' h' σ1 ((X.put m (.idict (mkL (s.mm++[v])))).put b (.list (iL s.bh)))→exs (lg P sc (d + 1)) r R ρ h') :
  exs (lg P sc (d + 1)) (.cons (.assign (.sub (.var 2) (.var 8)) (.bool true)) (.cons (.expr (.callM (.var 0) 33 (.cons (.var 8) .nil))) r)) R ρ h:=by
 have S1:=A.sim.poke ((put_ne hmb).trans put_same) (.idict (mkL (s.mm++[v])))
 rw [put_comm hmb,← mkL_set n] at S1
 exact x_setI e_bool (e_var A.r2) (e_var r8) (.idict (A.om hmb) (eq_lt mkL_length (Nat.lt_of_le_of_lt lm (Nat.le_of_ble_eq_true rfl)))) (x_expr (m_meth (e_var A.r0) S1.s L.mWarm (e_one (e_var r8)) (warm_spec L S1 w fun h' adr' ea S=>H h' adr' ea (mkL_set n▸S))))
theorem scan_spec (L:LibL P){R:KF}(hmb:m≠b){pivot:Int}{rows0:List (List Int)}{v5:MV}{chk:HP}(hchk:∀ h σ' X' adr',Off adr adr'→Sim adr' h σ' X'→σ'.rows=rows0→chk h){c:List Int}{s':Scan}(e:scan pivot c s=some s')(A:ScanAt adr X m b s ρ h)(hr:s.st.rows=rows0)
  (r5:ρ 5=some v5)(r6:ρ 6=some (.int pivot))(q:∀ ρ' h' adr',Off adr adr'→ScanAt adr' X m b s' ρ' h'→ρ' 5=some v5→R .next ρ' h'):forL chk (forB (lg P sc (d + 1)) 7 scBody) (iL c) R ρ h:=by
 refine for_rule (ScI adr X m b pivot rows0 v5 s') (fun r ρ h I=>?_) (fun w r ρ h K I hK=>?_) (fun ρ h I=>?_) (.mk .refl rfl e A hr r5 r6)
 ·induction I with
  | mk ea _ _ A hr _ _=>exact hchk _ _ _ _ ea A.sim hr
 ·induction I with
  | @mk adr' rest s ea er e A hr r5 r6=>
  obtain ⟨one,rest,rfl,rfl,rfl⟩:=iL_cons_eq er
  have skip:=fun k=>hK ((ρ.set 7 (.int one)).set 8 (.int one.natAbs)) h (.mk (s:=s) ea rfl k ⟨A.r0,A.r2,A.r3,A.r4,A.sim⟩ hr r5 r6)
  refine x_let (e_abs (e_var rfl)) ?_
  induction scan_step e with
  | same e k=>exact x_iteF (e_andF (e_neF (e_var rfl) (e_var r6) e)) (skip k)
  | old n e k=>exact x_iteF (e_andT (e_neT (e_var rfl) (e_var r6) n) (e_andF (e_mkF (e_var rfl) (e_var A.r2) (A.om hmb) e))) (skip k)
  | low n n' e k=>exact x_iteF (e_andT (e_neT (e_var rfl) (e_var r6) n) (e_andT (e_mkT (e_var rfl) (e_var A.r2) (A.om hmb) n') (e_and1 (e_gtF (A.sim.hh_at A.r0 (e_var rfl) e) e_int (Int.le_refl _))))) (skip k)
  | @top σ1 n n' e e0 w lm lb k=>
   have A':ScanAt adr' X m b s ((ρ.set 7 (.int one)).set 8 (.int one.natAbs)) h:=⟨A.r0,A.r2,A.r3,A.r4,A.sim⟩
   have ws:=warm_same w
   refine x_iteT (e_andT (e_neT (e_var rfl) (e_var r6) n) (e_andT (e_mkT (e_var rfl) (e_var A.r2) (A.om hmb) n') (e_and1 (e_gtT (A.sim.hh_at A.r0 (e_var rfl) e) e_int (Int.natCast_pos.mpr (Nat.pos_of_ne_zero e0)))))) (sc_mark L hmb A' rfl n' w lm fun h1 a1 o1 S1=>?_)
   exact x_iteT (e_eqT (S1.hh_at (o1.s▸A.r0) (e_var rfl) (ws.2.1▸e)) (S1.len_be (o1.s▸A.r0)) rfl) (x_let (e_ari (e_var A.r4) e_int (.add _ 1)) (hK _ _ (.mk (ea.trans o1) rfl k ⟨o1.s▸A.r0,A.r2,A.r3,rfl,S1⟩ (ws.1.trans hr) r5 r6)))
  | @less ht σ1 n n' e e0 e1 w lm lb k=>
   have A':ScanAt adr' X m b s ((ρ.set 7 (.int one)).set 8 (.int one.natAbs)) h:=⟨A.r0,A.r2,A.r3,A.r4,A.sim⟩
   have ws:=warm_same w
   refine x_iteT (e_andT (e_neT (e_var rfl) (e_var r6) n) (e_andT (e_mkT (e_var rfl) (e_var A.r2) (A.om hmb) n') (e_and1 (e_gtT (A.sim.hh_at A.r0 (e_var rfl) e) e_int (Int.natCast_pos.mpr (Nat.pos_of_ne_zero e0)))))) (sc_mark L hmb A' rfl n' w lm fun h1 a1 o1 S1=>?_)
   exact x_iteF (e_eqF (S1.hh_at (o1.s▸A.r0) (e_var rfl) (ws.2.1▸e)) (S1.len_be (o1.s▸A.r0)) fun q=>e1 (Int.ofNat_inj.mp q)) (x_expr (m_append (e_var A.r3) (S1.o put_same) (e_var rfl) (eq_lt iL_length (Nat.lt_of_le_of_lt lb (Nat.le_of_ble_eq_true rfl))) (hK _ _ (.mk (ea.trans o1) rfl k ⟨o1.s▸A.r0,A.r2,A.r3,A.r4,iL_push▸put_put (X:=X.put m _)▸S1.poke put_same _⟩ (ws.1.trans hr) r5 r6))))
 ·induction I with
  | @mk adr' rest s ea er e A hr r5 r6=>
  have:=iL_nil_eq er
  subst this
  exact q _ _ _ ea (Option.some.inj e▸A) r5
end
end Mini.C
end
section
namespace Mini.C
open Mini
noncomputable def seek (row mk:List Int):Nat→Option Nat
 | 0=>if ((nth row 0).natAbs:Int)∈mk then some 0 else none
 | s + 1=>if ((nth row (s + 1)).natAbs:Int)∈mk then some (s + 1) else seek row mk s
noncomputable def lessonF:Nat→Nat→Scan→Nat→Int→Option (List Int×St)
 | 0,_,_,_,_=>none
 | f + 1,number,s,spot,pivot=>
  match s.st.rows[number]? with
  | none=>none
  | some c=>match scan pivot c s with
   | none=>none
   | some s'=>if spot=0∨s'.st.row.length<spot∨2000<s'.bh.length then none else
    match seek s'.st.row s'.mm (spot - 1) with
    | none=>none
    | some p=>if s'.op - 1=0 then some (-(nth s'.st.row p)::s'.bh,s'.st) else
     match tget s'.st.ca (nth s'.st.row p).natAbs with
     | some (some k)=>lessonF f k ⟨s'.mm,s'.bh,s'.op - 1,s'.st⟩ p (nth s'.st.row p)
     | _=>none
inductive LsEnd (k':Nat)(s':Scan)(p:Nat)(t:List Int)(σ':St):Prop
 | last (e0:s'.op - 1=0)(et:t = -(nth s'.st.row p)::s'.bh)(es:σ'=s'.st):LsEnd k' s' p t σ'
 | more {k2:Nat}(e0:s'.op - 1≠0)(ec:tget s'.st.ca (nth s'.st.row p).natAbs=some (some k2))(e:lessonF k' k2 ⟨s'.mm,s'.bh,s'.op - 1,s'.st⟩ p (nth s'.st.row p)=some (t,σ')):LsEnd k' s' p t σ'
inductive LsStep (k number:Nat)(s:Scan)(spot:Nat)(pivot:Int)(t:List Int)(σ':St):Prop
 | mk {k' j:Nat}{c:List Int}{s':Scan}{p:Nat}(ek:k=k' + 1)(ec:s.st.rows[number]?=some c)(es:scan pivot c s=some s')(ej:spot=j + 1)(hj:j<s'.st.row.length)(hb:s'.bh.length≤2000)(ep:seek s'.st.row s'.mm j=some p)(e:LsEnd k' s' p t σ'):LsStep k number s spot pivot t σ'
theorem lesson_step {k number:Nat}{s:Scan}{spot:Nat}{pivot:Int}{t:List Int}{σ':St}(e:lessonF k number s spot pivot=some (t,σ')):LsStep k number s spot pivot t σ':=by
 rcases k with _ | k
 ·exact ns e
 rw [lessonF] at e
 revert e
 generalize ec:s.st.rows[number]?=oc
 rcases oc with _ | c
 ·exact fun e=>ns e
 dsimp only
 generalize es:scan pivot c s=os
 rcases os with _ | s'
 ·exact fun e=>ns e
 intro e
 by_cases c1:spot=0∨s'.st.row.length<spot∨2000<s'.bh.length
 ·exact ns ((if_pos c1).symm.trans e)
 have e:=(if_neg c1).symm.trans e
 rcases spot with _ | j
 ·exact absurd (.inl rfl) c1
 revert e
 rw [Nat.add_sub_cancel]
 generalize ep:seek s'.st.row s'.mm j=op
 rcases op with _ | p
 ·exact fun e=>ns e
 intro e
 refine .mk rfl ec es rfl (Nat.not_lt.mp fun q=>c1 (.inr (.inl q))) (Nat.not_lt.mp fun q=>c1 (.inr (.inr q))) ep ?_
 by_cases c2:s'.op - 1=0
 ·obtain ⟨rfl,rfl⟩:=Prod.mk.inj (Option.some.inj ((if_pos c2).symm.trans e))
  exact .last c2 rfl rfl
 have e:=(if_neg c2).symm.trans e
 revert e
 generalize eo:tget s'.st.ca (nth s'.st.row p).natAbs=oo
 rcases oo with _ | _ | k2
 ·exact fun e=>ns e
 ·exact fun e=>ns e
 ·exact fun e=>.more c2 eo e
section
variable {P:MProg}{sc:List Int}{d:Nat}{adr:Tag→Nat}{h:MHeap}{σ:St}{X:XH}{Q:KV}{ρ:Vars}{m b:Nat}{s:Scan}
theorem seek_at {row mk:List Int}{j p:Nat}(e:seek row mk j=some p)(c:((nth row j).natAbs:Int)∈mk):p=j:=by
 rcases j with _ | j <;> exact (Option.some.inj ((if_pos c).symm.trans e)).symm
inductive SeekDown (row mk:List Int)(j p:Nat):Prop
 | mk {i:Nat}(e:j=i + 1)(q:seek row mk i=some p):SeekDown row mk j p
theorem seek_down {row mk:List Int}{j p:Nat}(e:seek row mk j=some p)(c:((nth row j).natAbs:Int)∉mk):SeekDown row mk j p:=by
 rcases j with _ | j
 ·exact ns ((if_neg c).symm.trans e)
 ·exact .mk rfl ((if_neg c).symm.trans e)
theorem e_pred {L:Lg}{e:ME}{j:Nat}(E:Ev L ρ h e (iN (j + 1))):Ev L ρ h (.bin .sub e (.int 1)) (iN j):=by
 have E:=e_ari E e_int (.sub _ 1)
 rw [show ((j + 1:Nat):Int) - 1=j from Int.add_sub_cancel (j:Int) 1] at E
 exact E
end
end Mini.C
end
section
namespace Mini.C
open Mini
section
variable {P:MProg}{sc:List Int}{d:Nat}{adr:Tag→Nat}{h:MHeap}{σ:St}{X:XH}{Q:KV}{ρ:Vars}{m b:Nat}{s:Scan}
inductive LsI (a0:Tag→Nat)(X:XH)(m b:Nat)(t:List Int)(σ':St)(k:Nat)(ρ:Vars)(h:MHeap):Prop
 | mk {adr:Tag→Nat}{number spot:Nat}{s:Scan}{pivot:Int}(ea:Off a0 adr)(A:ScanAt adr X m b s ρ h)(r1:ρ 1=some (iN number))(r5:ρ 5=some (iN spot))(r6:ρ 6=some (.int pivot))(e:lessonF k number s spot pivot=some (t,σ')):LsI a0 X m b t σ' k ρ h
inductive SkI (adr:Tag→Nat)(X:XH)(m b:Nat)(s:Scan)(p k:Nat)(ρ:Vars)(h:MHeap):Prop
 | mk (A:ScanAt adr X m b s ρ h)(r5:ρ 5=some (iN k))(hk:k<s.st.row.length)(e:seek s.st.row s.mm k=some p):SkI adr X m b s p k ρ h
theorem m_dict0 {L:Lg}{t:Bool}(H:fin t Q (.ref h.next) (h.new (.idict []))):ev L .dict0 ρ t Q h:=H
theorem m_cat {L:Lg}{l r:ME}{t:Bool}(H:ev L l ρ false (fun v h=>ev L r ρ false (fun w h=>Via (Bin h .cat v w) (fin t Q)) h) h):ev L (.bin .cat l r) ρ t Q h:=H
theorem ls_end {L:Lg}{R:KF}{k' p:Nat}{t:List Int}{σ':St}{a0:Tag→Nat}(ea:Off a0 adr)(A:ScanAt adr X m b s ρ h)(r5:ρ 5=some (iN p))(hp:p<s.st.row.length)(lb:s.bh.length≤2000)(hm:X m=none)(hb:X b=none)(e:LsEnd k' s p t σ')
  (q:∀ ρ h' X' a,(∀ b o,X b=some o→X' b=some o)→X' a=some (.list (iL t))→Sim adr h' σ' X'→R (.ret (.ref a)) ρ h')(hK:∀ ρ,LsI a0 X m b t σ' k' ρ h→R .next ρ h) :
  exs L (MSs.tl (MSs.tl (MSs.tl lsBody))) R ρ h:=by
 have E:=A.sim.row_at (L:=L) A.r0 (e_var r5) (getD_get hp)
 refine x_asgs (e_cons E (e_one (e_ari (e_var A.r4) e_int (.sub _ 1)))) (Nat.le_of_ble_eq_true rfl) rfl (a_var (a_var (a_nil ?_)))
 induction e with
 | last e0 et es=>
  subst et es
  have S3:=A.sim.push (.list [.int (-(nth s.st.row p))])
  have S4:=S3.push (.list (iL (-(nth s.st.row p)::s.bh)))
  have hz:∀ b' o,X b'=some o→((X.put m (.idict (mkL s.mm))).put b (.list (iL s.bh))) b'=some o:=fun b' o e=>(put_ne fun q=>by rw [q,hb] at e; exact ns e).trans ((put_ne fun q=>by rw [q,hm] at e; exact ns e).trans e)
  exact x_iteT (e_eqT (e_var rfl) e_int e0) (x_retE (m_cat (m_list (e_one (e_neg (e_var rfl))) (Nat.le_of_ble_eq_true rfl) (f_in ((e_var (L:=L) A.r3).go (.mk (.cat (S3.o put_same) (S3.o (A.sim.sub_put _ _ put_same)) (by rw [iL_length]; exact Nat.le_trans (Nat.add_le_add_left lb 1) (Nat.le_of_ble_eq_true rfl))) (f_in (q _ _ _ _ (fun b' o e=>S3.sub_put _ _ (A.sim.sub_put _ _ (hz b' o e))) put_same S4))))))))
 | @more k2 e0 ec e=>
  exact x_iteF (e_eqF (e_var rfl) e_int e0) (x_let (A.sim.ca_at A.r0 (e_abs (e_var rfl)) ec) (hK _ (.mk (s:=⟨s.mm,s.bh,s.op - 1,s.st⟩) ea ⟨A.r0,A.r2,A.r3,rfl,A.sim⟩ rfl r5 rfl e)))
theorem lesson_spec (L:LibL P)(S:Sim adr h σ X){F number:Nat}{t:List Int}{σ':St}(e:lessonF F number ⟨[],[],0,σ⟩ σ.row.length 0=some (t,σ'))
  (q:∀ h' X' a adr',Off adr adr'→(∀ b o,X b=some o→X' b=some o)→X' a=some (.list (iL t))→Sim adr' h' σ' X'→Q (.ref a) h'):callD P sc (d + 2) L.fLesson [.ref (adr .s),.int (number:Int)] Q h:=by
 have S1:=S.push (.idict [])
 have S2:=S1.push (.list [])
 have hmb:h.next≠h.next + 1:=Nat.ne_of_lt (Nat.lt_succ_self _)
 refine enter L.bLesson rfl rfl (x_asgs' (l_cons (m_dict0 (f_in (l_cons (m_list e_nil (Nat.zero_le _) (f_in ?_)))))))
 refine e_cons e_int (e_cons (S2.len_row rfl) (e_one e_int)) _ ⟨Nat.le_of_ble_eq_true rfl,rfl,a_var (a_var (a_var (a_var (a_var (a_nil ?_)))))⟩
 refine x_while (while_rule (LsI adr X h.next (h.next + 1) t σ') (fun k ρ h2 K I hK=>?_) (.mk (number:=number) (s:=⟨[],[],0,σ⟩) .refl ⟨rfl,rfl,rfl,rfl,S2⟩ rfl rfl rfl e))
 induction I with
 | @mk adr1 number spot s pivot ea A r1 r5 r6 e=>
 refine e_bool true _ (bool_fin (.yes rfl ?_))
 induction lesson_step e with
 | @mk k' j c s' p ek ec es ej hj hb ep e2=>
 subst ej
 have hn:=(List.getElem?_eq_some_iff.mp ec).1
 refine x_for (e_sub (A.sim.at A.r0 rfl) (e_var r1) (.list A.sim.R (.pos (rL_length.symm▸hn)) (rL_at hn))) (.list (A.sim.row_obj' ec)) (scan_spec L hmb (fun h σ2 X2 a2 o2 S2 q2=>.list (o2 (.row number) Tag.noConfusion▸S2.row_obj' (q2▸ec))) es A rfl r5 r6 fun ρ2 h2 a2 o2 A2 a5=>?_)
 refine x_let (e_pred (e_var a5)) (x_while (while_rule (SkI a2 X h.next (h.next + 1) s' p) (fun i ρ3 h3 K3 I3 hK3=>?_) (.mk ⟨A2.r0,A2.r2,A2.r3,A2.r4,A2.sim⟩ rfl hj ep)))
 induction I3 with
 | mk A3 r5 hi ei=>
 have E:=e_abs (A3.sim.row_at (L:=Mini.lg P sc (d + 1)) A3.r0 (e_var r5) (getD_get hi))
 by_cases cj:((nth s'.st.row i).natAbs:Int)∈s'.mm
 ·have:=seek_at ei cj
  subst this
  exact e_mkF E (e_var A3.r2) (A3.om hmb) cj true _ (bool_fin (.no rfl (ls_end (ea.trans o2) A3 r5 hi hb (S.none_at (Nat.le_refl _)) (S.none_at (Nat.le_succ _)) e2 (fun uu h' X' a hx ha S=>q h' X' a _ (ea.trans o2) hx ha S) fun ρ I=>hK k' (ek▸Nat.lt_succ_self k') _ _ I)))
 ·induction seek_down ei cj with
  | mk ei2 ei3=>
  subst ei2
  exact e_mkT E (e_var A3.r2) (A3.om hmb) cj true _ (bool_fin (.yes rfl (x_let (e_pred (e_var r5)) (hK3 _ (Nat.lt_succ_self _) _ _ (.mk ⟨A3.r0,A3.r2,A3.r3,A3.r4,A3.sim⟩ rfl (Nat.lt_of_succ_lt hi) ei3)))))
end
end Mini.C
end
section
namespace Mini.C
open Mini
noncomputable def St.hgt (σ:St)(l:Int):Nat:=(tget σ.hh l.natAbs).getD 0
noncomputable def St.heat (σ:St):St:={ σ with gain:=σ.gain + σ.gain.fdiv 8 + 1 }
noncomputable def St.click (σ:St):St:={ σ with cl:=σ.cl + 1 }
noncomputable def St.note (σ:St)(ys:List Int):St:={ σ with lg:=σ.lg++[ys] }
noncomputable def St.topH (σ:St):List Int→Nat
 | []=>0
 | x::_=>σ.hgt x
noncomputable def St.learnt (σ:St)(p:Int)(r ys:List Int):Option St:=
 match (σ.note ys).back (σ.topH r) with
 | none=>none
 | some σ3=>if fit σ3=false then none else
  match r with
  | []=>some (σ3.let' p none).heat
  | _::_=>if fit (σ3.keep (p::r))=false then none else some ((σ3.keep (p::r)).let' p (some σ3.rows.length)).heat
inductive LearntTo (σ:St)(p:Int)(ys:List Int)(σ5:St):List Int→Prop
 | one {σ3:St}(eb:(σ.note ys).back 0=some σ3)(hf:fit σ3=true)(e:σ5=(σ3.let' p none).heat):LearntTo σ p ys σ5 []
 | more {x:Int}{r:List Int}{σ3:St}(eb:(σ.note ys).back (σ.hgt x)=some σ3)(hf:fit σ3=true)(hf4:fit (σ3.keep (p::x::r))=true)(e:σ5=((σ3.keep (p::x::r)).let' p (some σ3.rows.length)).heat):LearntTo σ p ys σ5 (x::r)
theorem learnt_to {σ:St}{p:Int}{r ys:List Int}{σ5:St}(e:σ.learnt p r ys=some σ5):LearntTo σ p ys σ5 r:=by
 unfold St.learnt at e
 revert e
 generalize eb:(σ.note ys).back (σ.topH r)=ob
 rcases ob with _ | σ3
 ·exact fun e=>ns e
 intro e
 by_cases hf:fit σ3=true
 ·have e:=(if_neg fun q=>Bool.false_ne_true (q.symm.trans hf)).symm.trans e
  rcases r with _ | ⟨x,r⟩
  ·exact .one eb hf (Option.some.inj e).symm
  ·by_cases hf4:fit (σ3.keep (p::x::r))=true
   ·exact .more eb hf hf4 (Option.some.inj ((if_neg fun q=>Bool.false_ne_true (q.symm.trans hf4)).symm.trans e)).symm
   ·exact ns ((if_pos (Bool.eq_false_iff.mpr hf4)).symm.trans e)
 ·exact ns ((if_pos (Bool.eq_false_iff.mpr hf)).symm.trans e)
noncomputable def asI:MV→Int
 | .int i=>i
 | _=>0
inductive SortedAs (c:Int→Int)(r:List Int)(ps:List (Int×MV)):Prop
 | mk {r':List Int}(e:ps.map (·.2)=iL r')(p:r'.Perm r)(s:r'.Pairwise fun a b=>c b≤c a):SortedAs c r ps
theorem perm_keys {c:Int→Int}{r:List Int}{ps:List (Int×MV)}(hp:ps.Perm ((r.map c).zip (r.map .int)))(hs:ps.Pairwise fun a b=>b.1≤a.1):SortedAs c r ps:=by
 rw [List.zip_map'] at hp
 have h2:(ps.map fun p=>asI p.2).map (fun a=>(c a,MV.int a))=ps:=by
  rw [List.map_map]
  refine (List.map_congr_left fun p hp'=>?_).trans (List.map_id ps)
  obtain ⟨x,_,rfl⟩:=List.mem_map.mp (hp.mem_iff.mp hp')
  rfl
 have h3:=hp.map fun p=>asI p.2
 rw [List.map_map,show (fun p:Int×MV=>asI p.2)∘(fun a=>(c a,MV.int a))=id from rfl,List.map_id] at h3
 rw [← h2,List.pairwise_map] at hs
 exact .mk ((congrArg (List.map (·.2)) h2).symm.trans List.map_map) h3 hs
inductive Taught (σ:St)(number:Nat)(R:St→Prop):Prop
 | mk {F:Nat}{p:Int}{r:List Int}{σ1:St}(el:lessonF F number ⟨[],[],0,σ.click⟩ σ.row.length 0=some (p::r,σ1))(hz:(0:Int)∉p::r)(hc:¬ Contra (p::r))(hl:(p::r).length<64)(hlg:σ1.lg.length<fitN)
   (hh:∀ l∈r,tget σ1.hh l.natAbs=some (σ1.hgt l))(H:∀ ys r',OrdOf (p::r) ys→r'.Perm r→r'.Pairwise (fun a b=>σ1.hgt b≤σ1.hgt a)→Yields (fun σ5=>σ1.learnt p r' ys=some σ5) R):Taught σ number R
section
variable {P:MProg}{sc:List Int}{d:Nat}{adr:Tag→Nat}{h:MHeap}{σ:St}{X:XH}{Q:KV}{ρ:Vars}
section
variable {L:Lg}{e o i a b:ME}{m n f:Nat}{es:MEs}{t:Bool}{xs:List MV}{p:Int}{r:List Int}
theorem m_callI {as:List (Nat×MV)}(O:Ev L ρ h o (.ref n))(p:h.obj n=some (.inst as))(e:L.P.meths.lookup m=some f)(H:evL L es ρ (fun vs h=>L.call f (.ref n::vs) (fin t Q) h) h):ev L (.callM o m es) ρ t Q h:=O.go (.mk (.inst p e) H)
theorem m_iteT {v:MV}(E:Ev L ρ h e v)(q:Tru v true)(H:ev L a ρ t Q h):ev L (.ite e a b) ρ t Q h:=E.tru q (.yes rfl H)
theorem m_iteF {v:MV}(E:Ev L ρ h e v)(q:Tru v false)(H:ev L b ρ t Q h):ev L (.ite e a b) ρ t Q h:=E.tru q (.no rfl H)
theorem m_sortk (H:ev L e ρ false (fun v h=>ev L o ρ false (fun u h=>SortK L.P L.call h m (fin t Q) v u) h) h):ev L (.sortKeyRev e o m) ρ t Q h:=H
theorem clamp_one:clamp (n + 1) 1=1:=(clamp_nat (n:=n + 1) (i:=1)).trans (Nat.min_eq_left (Nat.succ_le_succ (Nat.zero_le n)))
theorem to_one {sc:List Int}(o:h.obj n=some (.list (iL (p::r)))):SlTo sc h (.ref n) (.int 1) (.ref h.next) (h.new (.list (iL [p]))):=by
 have z:=SlTo.list (sc:=sc) 1 o
 rw [iL_length,List.length_cons,clamp_one,iL_take] at z
 exact z
theorem from_one (o:h.obj n=some (.list (iL (p::r)))):SlFrom h (.ref n) (.int 1) (.ref h.next) (h.new (.list (iL r))):=by
 have z:=SlFrom.list 1 o
 rw [iL_length,List.length_cons,clamp_one,iL_drop] at z
 exact z
end
theorem Sim.height_ev (L:LibL P){x:Nat}{e:ME}{l:Int}(S:Sim adr h σ X)(q:ρ x=some (.ref (adr .s)))(E:Ev (Mini.lg P sc (d + 1)) ρ h e (.int l))(g:tget σ.hh l.natAbs=some (σ.hgt l)):Ev (Mini.lg P sc (d + 1)) ρ h (.callM (.var x) 14 (.cons e .nil)) (iN (σ.hgt l)):=
 e_meth (e_var q) S.s L.mHeight (e_one E) fun Q H=>height_spec L S g H
theorem learn_spec (L:LibL P)(S:Sim adr h σ X)(hf:fit σ=true){number:Nat}(q1:σ.be=[]→∀ h',Sim adr h' σ.click.refute X→Q .none h')
  (q2:σ.be≠[]→Taught σ number fun σ5=>∀ h' adr',adr' .s=adr .s→Sim adr' h' σ5 X→Q .none h'):callD P sc (d + 3) L.fLearn [.ref (adr .s),.int (number:Int)] Q h:=by
 refine enter L.bLearn rfl rfl (x_at S rfl (e_ari (S.at rfl rfl) e_int (.add _ _)) (S.set_cl (σ.cl + 1)) fun h1 S1=>?_)
 have S1:Sim adr h1 σ.click X:=S1
 by_cases hb:σ.be=[]
 ·exact x_iteT (e_eqT (S1.len_be rfl) e_int (by show (σ.be.length:Int)=0; rw [hb]; rfl)) (x_expr (m_meth (e_var rfl) S1.s L.mRefute e_nil (refute_spec L.toLib S1 hf fun h2 S2=>q1 hb _ S2)))
 refine x_iteF (e_eqF (S1.len_be rfl) e_int fun q=>hb (List.eq_nil_of_length_eq_zero (Int.ofNat_inj.mp q))) ?_
 induction q2 hb with
 | @mk F p r σ1 el hz hc hl hlg hh H=>
 refine x_var (m_meth (e_var rfl) S1.s L.mLesson (e_one (e_var rfl)) (lesson_spec L S1 el fun h2 X2 a a2 o2 hX ha S2=>f_in ?_))
 rw [← o2.s]
 refine x_expr (m_callL (S2.at rfl rfl) S2.lg (Nat.le_of_ble_eq_true rfl) (l_one (m_fn (e_one (e_var rfl)) (ordered_spec L.toLib S2 (.list ha) hz hl (fun c=>absurd c hc) fun uu ys ho h3 S3=>.mk (.append S3.lg (eq_lt tL_length (fit_line hlg))) ?_))))
 have S4:Sim a2 _ (σ1.note ys) X2:=tL_push▸S3.set_lg (σ1.lg++[ys])
 have SA:=S4.push (.list (iL [p]))
 have SB:=SA.push (.list (iL r))
 have lr:r.length<63:=Nat.lt_of_succ_lt_succ hl
 refine x_var (m_cat (m_to (e_var rfl) e_int (to_one (S4.o ha)) (f_in (m_sortk (m_from (e_var rfl) e_int (from_one (SA.o (S4.sub_put _ _ ha))) (f_in ((e_var rfl).go (.mk (SB.o put_same) (.inst SB.s L.mHeight) (eq_lt iL_length (Nat.lt_succ_of_lt lr)) (keys_pure (c:=fun x=>(σ1.hgt x:Int)) (fun x hx Q q=>height_spec L (σ:=σ1.note ys) SB (hh x hx) q) fun ps hp hs=>?_)))))))))
 induction perm_keys hp hs with
 | @mk r' er pr sr=>
 rw [er]
 have SC:=SB.push (.list (iL r'))
 refine .mk (.cat (SC.o (SB.sub_put _ _ (SA.sub_put _ _ put_same))) (SC.o put_same) (by rw [iL_length,iL_length,pr.length_eq]; exact Nat.le_trans (Nat.add_le_add_left (Nat.le_of_lt lr) _) (Nat.le_of_ble_eq_true rfl))) ?_
 have S5:=S4.put_less (SA.put_less (SB.put_less SC))
 have S6:=S5.push (.list (iL (p::r')))
 have hX6:=fun b o e=>S5.sub_put (o:=.list (iL (p::r'))) b o (hX b o e)
 induction H ys r' ho pr (sr.imp fun h=>Int.ofNat_le.mp h) with
 | @mk σ5 e5 hq=>
 have last:=fun (ρ:Vars)(adr':Tag→Nat)(h':MHeap)(σ4:St)(r0:ρ 0=some (.ref (a2 .s)))(s:adr' .s=a2 .s)(S':Sim adr' h' σ4 _)(e:σ5=σ4.heat)=>
  x_at (L:=Mini.lg P sc (d + 2)) (r:=.nil) (R:=retQ Q) (x:=0) S' (s.symm▸r0) (e_ari (e_ari (S'.at (n:=25) (s.symm▸r0) rfl) (e_ari (S'.at (n:=25) (s.symm▸r0) rfl) e_int (.fdiv (b:=8) (by decide) (by decide))) (.add _ _)) e_int (.add _ _)) (S'.set_gain (σ4.gain + σ4.gain.fdiv 8 + 1)) fun h9 S9=>hq _ _ (s.trans o2.s) (e▸S9.less hX6)
 refine f_in ?_
 induction learnt_to e5 with
 | @one σ3 eb hf3 e=>
  have cond:=fun (n:Nat)(adr':Tag→Nat)(h':MHeap)(σ':St)(ρ:Vars)(S':Sim adr' h' σ' (X2.put n (.list (iL [p]))))(q:ρ 2=some (.ref n))=>e_gtF (L:=Mini.lg P sc (d + 2)) (e_len (e_var q) (S'.o put_same)) (e_int (i:=1)) (Int.le_refl 1)
  refine x_expr (m_meth (e_var rfl) S6.s L.mBack (e_one (e_iteF (cond _ _ _ _ _ S6 rfl) (.bool _) e_int)) (back_spec L.toLib S6 0 eb fun h7 a7 s7 S7=>?_))
  exact x_expr (m_meth (e_var (s7▸rfl)) S7.s L.mLet (e_cons (e_row (j:=0) rfl (S7.o put_same) e_int Nat.one_pos) (e_one (e_iteF (cond _ _ _ _ _ S7 rfl) (.bool _) e_none))) (let_spec L.toLib S7 hf3 p none fun h8 S8=>last _ _ _ _ rfl s7 S8 e))
 | @more x r'' σ3 eb hf3 hf4 e=>
  have cond:=fun (n:Nat)(adr':Tag→Nat)(h':MHeap)(σ':St)(ρ:Vars)(S':Sim adr' h' σ' (X2.put n (.list (iL (p::x::r'')))))(q:ρ 2=some (.ref n))=>e_gtT (L:=Mini.lg P sc (d + 2)) (e_len (e_var q) (S'.o put_same)) (e_int (i:=1)) (Int.ofNat_lt.mpr (by rw [iL_length]; exact Nat.succ_lt_succ (Nat.succ_pos _)))
  refine x_expr (m_meth (e_var rfl) S6.s L.mBack (e_one (e_iteT (cond _ _ _ _ _ S6 rfl) (.bool _) (S6.height_ev (σ:=σ1.note ys) L rfl (e_row (j:=1) rfl (S6.o put_same) e_int (Nat.succ_lt_succ (Nat.succ_pos _))) (hh x (pr.mem_iff.mp List.mem_cons_self))))) (back_spec L.toLib S6 _ eb fun h7 a7 s7 S7=>?_))
  refine x_expr (m_callI (e_var (s7▸rfl)) S7.s L.mLet (l_cons ((e_row (j:=0) rfl (S7.o put_same) e_int (Nat.succ_pos _)).go (l_one (m_iteT (cond _ _ _ _ _ S7 rfl) (.bool _) (m_meth (e_var (s7▸rfl)) S7.s L.mKeep (e_one (e_var rfl)) (keep_spec L.toLib S7 hf3 put_same fun h8 a8 s8 S8=>f_in ?_)))))))
  rw [← s8]
  exact let_spec L.toLib S8 hf4 p (some σ3.rows.length) fun h9 S9=>last _ _ _ _ rfl (s8.trans s7) S9 e
end
end Mini.C
end
section
namespace Mini.C
open Mini
structure LibS (P:MProg) extends LibL P where
 fBlame:Nat
 fHot:Nat
 fDecide:Nat
 fSolve:Nat
 fValue:Nat
 fFailed:Nat
 mBlame:P.meths.lookup 39=some fBlame
 mHot:P.meths.lookup 40=some fHot
 mDecide:P.meths.lookup 41=some fDecide
 mSolve:P.meths.lookup 38=some fSolve
 mValue:P.meths.lookup 36=some fValue
 mFailed:P.meths.lookup 37=some fFailed
 bBlame:P.fns[fBlame]?=some f_Search_blame
 bHot:P.fns[fHot]?=some f_Search_hottest
 bDecide:P.fns[fDecide]?=some f_Search_decide
 bSolve:P.fns[fSolve]?=some f_Search_solve
 bValue:P.fns[fValue]?=some f_Search_value
 bFailed:P.fns[fFailed]?=some f_Search_failed
section
variable {P:MProg}{sc:List Int}{d:Nat}{adr:Tag→Nat}{h:MHeap}{σ:St}{X:XH}{Q:KV}{ρ:Vars}
theorem value_spec (L:LibS P)(S:Sim adr h σ X){v:Int}(q:Q (.bool ((tget σ.kn v).getD false)) h):callD P sc (d + 1) L.fValue [.ref (adr .s),.int v] Q h:=by
 refine enter L.bValue rfl rfl (x_ret (e_get2 (S.at rfl rfl) S.kn (e_var rfl) e_bool) ?_)
 rw [kget_mvs]
 revert q
 rcases tget σ.kn v with _ | b <;> exact id
theorem failed_spec (L:LibS P)(S:Sim adr h σ X)(q:Q (.tup (iL σ.bl)) h):callD P sc (d + 1) L.fFailed [.ref (adr .s)] Q h:=
 enter L.bFailed rfl rfl (x_ret (S.at rfl rfl) q)
inductive Blame (σ:St)(out:List Int):List Int→List Int→List Int→Prop
 | nil {mk:List Int}:Blame σ out [] out mk
 | off {one:Int}{r found mk:List Int}(n:(one.natAbs:Int)∉mk)(k:Blame σ out r found mk):Blame σ out (one::r) found mk
 | low {one:Int}{r found mk:List Int}(m:(one.natAbs:Int)∈mk)(e:tget σ.hh one.natAbs=some 0)(k:Blame σ out r found mk):Blame σ out (one::r) found mk
 | dec {one:Int}{r found mk:List Int}{n:Nat}(m:(one.natAbs:Int)∈mk)(e:tget σ.hh one.natAbs=some n)(e0:n≠0)(c:tget σ.ca one.natAbs=some none)(l:found.length≤1000)(k:Blame σ out r (found++[one]) mk):Blame σ out (one::r) found mk
 | why {one:Int}{r found mk:List Int}{n j:Nat}{cl:List Int}(m:(one.natAbs:Int)∈mk)(e:tget σ.hh one.natAbs=some n)(e0:n≠0)(c:tget σ.ca one.natAbs=some (some j))(er:σ.rows[j]?=some cl)(l:mk.length + cl.length≤2000)(k:Blame σ out r found (mk++cl.map fun x=>(x.natAbs:Int))):Blame σ out (one::r) found mk
inductive MkTo (ms fs:List Int)(es:List (Int×MV)):Prop
 | mk {ms':List Int}(e:es=mkL ms')(m:∀ v,v∈ms'↔v∈ms∨v∈fs)(l:ms'.length≤ms.length + fs.length):MkTo ms fs es
theorem mkL_old {ms:List Int}{k:Int}(h:k∈ms):kset (mkL ms) k (.bool true)=mkL ms:=by
 induction ms with
 | nil=>exact absurd h List.not_mem_nil
 | cons a r ih=>
  show kset ((a,MV.bool true)::mkL r) k _=(a,MV.bool true)::mkL r
  rw [kset_cons]
  by_cases c:a=k
  ·exact if_pos c
  ·rw [if_neg c,ih ((List.mem_cons.mp h).resolve_left fun q=>c q.symm)]
theorem mk_fold {fs ms:List Int}:MkTo ms fs (fs.foldl (fun a (k:Int)=>kset a k (.bool true)) (mkL ms)):=by
 induction fs generalizing ms with
 | nil=>exact .mk rfl (fun v=>⟨.inl,fun q=>q.elim id fun q=>absurd q List.not_mem_nil⟩) (Nat.le_refl _)
 | cons k r ih=>
  rw [List.foldl_cons]
  by_cases c:k∈ms
  ·rw [mkL_old c]
   induction ih (ms:=ms) with
   | mk e m l=>exact .mk e (fun v=>by rw [m,List.mem_cons]; exact ⟨fun q=>q.imp id .inr,fun q=>q.elim .inl fun q=>q.elim (fun q=>.inl (q▸c)) .inr⟩) (Nat.le_trans l (Nat.le_succ _))
  ·rw [mkL_set c]
   induction ih (ms:=ms++[k]) with
   | mk e m l=>exact .mk e (fun v=>by rw [m,mem_push,List.mem_cons,or_assoc]) (by rw [List.length_append] at l; rw [List.length_cons,← Nat.add_assoc,Nat.add_right_comm]; exact l)
inductive BlAt (adr:Tag→Nat)(σ:St)(X:XH)(a b c:Nat)(all found mk:List Int)(ρ:Vars)(h:MHeap):Prop
 | mk {Y:XH}{ms:List Int}(S:Sim adr h σ Y)(sub:∀ x o,X x=some o→Y x=some o)(ya:Y a=some (.list (iL found)))(yb:Y b=some (.idict (mkL ms)))(yc:Y c=some (.list (iL all)))
  (r0:ρ 0=some (.ref (adr .s)))(r2:ρ 2=some (.ref a))(r3:ρ 3=some (.ref b))(hm:∀ v,v∈ms↔v∈mk)(ln:ms.length≤mk.length):BlAt adr σ X a b c all found mk ρ h
theorem sub_put {X Y:XH}{n:Nat}{o':MObj}(sub:∀ x o,X x=some o→Y x=some o)(n0:X n=none):∀ x o,X x=some o→(Y.put n o') x=some o:=fun x o e=>(put_ne fun q=>by rw [q,n0] at e; exact ns e).trans (sub x o e)
noncomputable def blBody:MSs:=MS.bd (MSs.hd (MSs.tl f_Search_blame.body))
theorem e_inT {L:Lg}{l r:ME}{x:Int}{n:Nat}{mk:List Int}(E:Ev L ρ h l (.int x))(E':Ev L ρ h r (.ref n))(o:h.obj n=some (.idict (mkL mk))):Ev L ρ h (.cmp .isin l r) (.bool (decide (x∈mk))):=e_as (e_cmp E E' (.isin (.dict o))) mkL_any
theorem fold_abs {cl:List Int}:cl.foldl (fun a (x:Int)=>kset a (x.natAbs:Int) (.bool true)) (mkL [])=(cl.map fun x=>(x.natAbs:Int)).foldl (fun a (k:Int)=>kset a k (.bool true)) (mkL []):=(List.foldl_map (f:=fun x:Int=>(x.natAbs:Int)) (g:=fun a (k:Int)=>kset a k (.bool true))).symm
theorem fold_mkL {fs ms:List Int}:(mkL fs).foldl (fun a e=>kset a e.1 e.2) (mkL ms)=fs.foldl (fun a (k:Int)=>kset a k (.bool true)) (mkL ms):=List.foldl_map
theorem blame_loop (L:LibS P){R:KF}{a b c:Nat}{all out:List Int}(ab:a≠b)(ac:a≠c)(bc:b≠c)(xa:X a=none)(xb:X b=none)(xc:X c=none){rest found mk:List Int}(B:Blame σ out rest found mk)
  (q:∀ ρ h mk,BlAt adr σ X a b c all out mk ρ h→R .next ρ h):∀ ρ h,BlAt adr σ X a b c all found mk ρ h→forL (fun h=>Items h (.ref c) (iL all)) (forB (lg P sc d) 4 blBody) (iL rest) R ρ h:=by
 have chk:∀ {found mk ρ h},BlAt adr σ X a b c all found mk ρ h→Items h (.ref c) (iL all):=fun A=>by
  induction A with
  | mk S _ _ _ yc=>exact .list (S.o yc)
 induction B with
 | nil=>exact fun ρ h A=>⟨chk A,q ρ h _ A⟩
 | @off one r found mk n k ih=>
  intro ρ h A
  refine ⟨chk A,?_⟩
  induction A with
  | mk S sub ya yb yc r0 r2 r3 hm ln=>
  refine x_let (e_abs (e_var rfl)) (x_iteF (e_andF (e_as (e_inT (e_var rfl) (e_var r3) (S.o yb)) (decide_eq_false fun q=>n ((hm _).mp q)))) (ih _ _ (.mk S sub ya yb yc r0 r2 r3 hm ln)))
 | @low one r found mk m e k ih=>
  intro ρ h A
  refine ⟨chk A,?_⟩
  induction A with
  | mk S sub ya yb yc r0 r2 r3 hm ln=>
  refine x_let (e_abs (e_var rfl)) (x_iteF (e_andT (e_as (e_inT (e_var rfl) (e_var r3) (S.o yb)) (decide_eq_true ((hm _).mpr m))) (e_and1 (e_gtF (S.hh_at r0 (e_var rfl) e) e_int (Int.le_refl _)))) (ih _ _ (.mk S sub ya yb yc r0 r2 r3 hm ln)))
 | @dec one r found mk n m e e0 ec l k ih=>
  intro ρ h A
  refine ⟨chk A,?_⟩
  induction A with
  | mk S sub ya yb yc r0 r2 r3 hm ln=>
  refine x_let (e_abs (e_var rfl)) (x_iteT (e_andT (e_as (e_inT (e_var rfl) (e_var r3) (S.o yb)) (decide_eq_true ((hm _).mpr m))) (e_and1 (e_gtT (S.hh_at r0 (e_var rfl) e) e_int (Int.natCast_pos.mpr (Nat.pos_of_ne_zero e0))))) ?_)
  refine x_iteT (e_cmp (S.ca_at r0 (e_var rfl) ec) e_none (.is .nn)) (x_expr (m_append (e_var r2) (S.o ya) (e_var rfl) (eq_lt iL_length (Nat.lt_of_le_of_lt l (Nat.le_of_ble_eq_true rfl))) ?_))
  rw [iL_push]
  exact ih _ _ (.mk (S.poke ya _) (sub_put sub xa) put_same ((put_ne ab.symm).trans yb) ((put_ne ac.symm).trans yc) r0 r2 r3 hm ln)
 | @why one r found mk n j cl m e e0 ec er l k ih=>
  intro ρ h A
  refine ⟨chk A,?_⟩
  induction A with
  | @mk Y ms S sub ya yb yc r0 r2 r3 hm ln=>
  refine x_let (e_abs (e_var rfl)) (x_iteT (e_andT (e_as (e_inT (e_var rfl) (e_var r3) (S.o yb)) (decide_eq_true ((hm _).mpr m))) (e_and1 (e_gtT (S.hh_at r0 (e_var rfl) e) e_int (Int.natCast_pos.mpr (Nat.pos_of_ne_zero e0))))) ?_)
  have hj:=(List.getElem?_eq_some_iff.mp er).1
  have E:=S.ca_at (L:=lg P sc d) (ρ:=(Vars.set ρ 4 (.int one)).set 5 (iN one.natAbs)) (x:=0) r0 (e_var (n:=5) rfl) ec
  have lc:cl.length≤2000:=Nat.le_trans (Nat.le_add_left _ _) l
  refine x_iteF (e_cmp E e_none (.is (.int _))) (x_expr (m_callD (e_var r3) (S.o yb) (.inr (.inl rfl)) (l_one (m_dcomp (as:=cl) (c:=fun x=>(x.natAbs:Int)) (g:=fun uu=>.bool true) (e_sub (S.at r0 rfl) E (.list S.R (.pos (rL_length.symm▸hj)) (rL_at hj))) (.list (S.row_obj' er)) (fun uu uu=>e_abs (e_var rfl)) (fun uu uu=>e_bool) (Nat.le_trans lc (Nat.le_of_ble_eq_true rfl)) ?_))))
  rw [show cl.foldl (fun a (x:Int)=>kset a (x.natAbs:Int) (.bool true)) []=_ from fold_abs]
  induction mk_fold (fs:=cl.map fun x=>(x.natAbs:Int)) (ms:=[]) with
  | @mk fs e1 m1 l1=>
  rw [e1]
  have S2:=S.push (.idict (mkL fs))
  have lf:fs.length≤cl.length:=by rw [List.length_map,List.length_nil,Nat.zero_add] at l1; exact l1
  have nb:b≠h.next:=fun q=>Nat.lt_irrefl _ (q▸(S.out b _ yb).lt)
  refine .mk (.update (S2.o (S.sub_put _ _ yb)) (S2.o put_same) nb (by show (mkL ms).length + (mkL fs).length≤_; rw [mkL_length,mkL_length]; exact Nat.le_trans (Nat.le_trans (Nat.add_le_add ln lf) l) (Nat.le_of_ble_eq_true rfl))) ?_
  rw [fold_mkL]
  induction mk_fold (fs:=fs) (ms:=ms) with
  | @mk ms2 e2 m2 l2=>
  rw [e2]
  have xn:X h.next=none:=by
   by_cases q:X h.next=none
   ·exact q
   ·obtain ⟨o,q⟩:=Option.ne_none_iff_exists'.mp q
    exact ns ((S.none_at (Nat.le_refl _)).symm.trans (sub _ _ q))
  refine ih _ _ (.mk (S2.poke (S.sub_put _ _ yb) _) (sub_put (sub_put sub xn) xb) ((put_ne ab).trans (S.sub_put _ _ ya)) put_same ((put_ne bc.symm).trans (S.sub_put _ _ yc)) r0 r2 r3 (fun v=>?_) ?_)
  ·rw [m2,m1,hm,List.mem_append]
   exact ⟨fun q=>q.imp id fun q=>q.elim (fun q=>absurd q List.not_mem_nil) id,fun q=>q.imp id .inr⟩
  ·rw [List.length_append,List.length_map]
   exact Nat.le_trans l2 (Nat.add_le_add ln lf)
end
end Mini.C
end
section
namespace Mini.C
open Mini
noncomputable def negs (xs:List Int):List Int:=xs.map fun x=>-x
section
variable {P:MProg}{sc:List Int}{d:Nat}{adr:Tag→Nat}{h:MHeap}{σ:St}{X:XH}{Q:KV}{ρ:Vars}
theorem Sim.set_bl (S:Sim adr h σ X)(xs:List Int):Sim adr (h.set (adr .s) (.inst (kset (attrs σ adr) 26 (.tup (iL xs))))) (σ.sBl xs) X:=S.set_at rfl (fun uu=>Iff.rfl) fun t n=>by cases t <;> first | rfl | exact absurd rfl n
theorem filter_all {α:Type}{xs:List α}:xs.filter (fun uu=>true)=xs:=List.filter_eq_self.mpr fun uu uu=>rfl
theorem m_fnL {L:Lg}{f:Nat}{es:MEs}{t:Bool}(H:evL L es ρ (fun vs h=>L.call f vs (fin t Q) h) h):ev L (.callF f es) ρ t Q h:=H
theorem negs_mem {xs:List Int}{l:Int}:l∈negs xs↔-l∈xs:=by
 unfold negs
 rw [List.mem_map]
 exact ⟨fun ⟨x,m,e⟩=>e▸(Int.neg_neg x).symm▸m,fun m=>⟨-l,m,Int.neg_neg l⟩⟩
theorem blame_spec (L:LibS P)(S:Sim adr h σ X){l:Int}{out:List Int}(B:Blame σ out σ.row.reverse [l] [(l.natAbs:Int)])(hz:(0:Int)∉out)(ho:out.length<64)(hlg:σ.lg.length<fitN)
  (q1:Contra (negs out)→∀ h',Sim adr h' (σ.sBl out) X→Q .none h')(q2:¬ Contra (negs out)→∀ ys,OrdOf (negs out) ys→∀ h',Sim adr h' ((σ.sBl out).note ys) X→Q .none h'):callD P sc (d + 2) L.fBlame [.ref (adr .s),.int l] Q h:=by
 have S1:=S.push (.list (iL [l]))
 have S2:=S1.push (.idict (mkL [(l.natAbs:Int)]))
 have S3:=S2.push (.list (iL σ.row.reverse))
 have ab:h.next≠h.next + 1:=Nat.ne_of_lt (Nat.lt_succ_self _)
 have bc:h.next + 1≠h.next + 2:=Nat.ne_of_lt (Nat.lt_succ_self _)
 have ac:h.next≠h.next + 2:=Nat.ne_of_lt (Nat.lt_succ_of_lt (Nat.lt_succ_self _))
 have xs:∀ {i},h.next≤i→X i=none:=fun q=>S.none_at q
 refine enter L.bBlame rfl rfl (x_asgs' (l_cons (m_list (e_one (e_var rfl)) (Nat.le_of_ble_eq_true rfl) (f_in (l_one (m_dict1 (e_abs (e_var rfl)) e_bool (f_in ⟨Nat.le_of_ble_eq_true rfl,rfl,a_var (a_var (a_nil ?_))⟩)))))))
 refine x_for' (m_rev (S2.at rfl rfl) S2.ro (f_in (.mk (.list (by rw [show iL σ.row=σ.row.map .int from rfl,← List.map_reverse]; exact S3.o put_same)) ?_)))
 rw [show (iL σ.row).reverse=iL σ.row.reverse from List.map_reverse.symm] at *
 refine blame_loop L ab ac bc (xs (Nat.le_refl _)) (xs (Nat.le_succ _)) (xs (Nat.le_add_right _ 2)) B (fun ρ h2 mk A=>?_) _ _ (.mk S3 (fun x o e=>S2.sub_put _ _ (S1.sub_put _ _ (S.sub_put _ _ e))) ((put_ne ac).trans ((put_ne ab).trans put_same)) ((put_ne bc).trans put_same) put_same rfl rfl rfl (fun uu=>Iff.rfl) (Nat.le_refl _))
 induction A with
 | mk S sub ya yb yc r0 r2 r3 hm ln=>
 refine x_at S r0 (e_bui (e_one (e_var r2)) (.tupL (S.o ya) iL_flat)) (S.set_bl out) fun h3 S=>?_
 refine x_var (m_fnL (l_one (m_comp (L:=lg P sc (d + 1)) (x:=8) (f:=fun uu=>true) (emb:=.int) (g:=fun x=>.int (-x)) (e_var r2) (.list (S.o ya)) (fun a uu K H=>H) (fun a ha uu=>e_neg (e_var rfl)) (Nat.le_trans (Nat.le_of_lt ho) (Nat.le_of_ble_eq_true rfl)) (f_in ?_))))
 rw [filter_all,show out.map (fun x=>MV.int (-x))=iL (negs out) from List.map_map.symm]
 have S4:=S.push (.list (iL (negs out)))
 have nl:(negs out).length=out.length:=List.length_map _
 refine ordered_spec L.toLib S4 (.list put_same) (fun q=>hz (negs_mem.mp q)) (nl▸ho) (fun c h5 S5=>f_in ?_) fun c ys hy h5 S5=>f_in ?_
 ·exact x_iteF (e_cmp (e_var rfl) e_none (.isnot .nn)) (q1 c _ ((S.put_less S5).less sub))
 ·exact x_iteT (e_cmp (e_var rfl) e_none (.isnot (.tn _))) (x_lg (S.put_less S5) r0 (e_var rfl) hlg fun uu S=>q2 c ys hy _ (S.less sub))
end
end Mini.C
end
section
namespace Mini.C
open Mini
inductive Hot (σ:St)(done:List (Int×Int))(v:Int):Prop
 | none (e:v=0)(k:∀ p∈done,(tget σ.kn p.1).isSome=true):Hot σ done v
 | some (n:v≠0)(m:v∈σ.ht.map (·.1))(u:tget σ.kn v=none):Hot σ done v
section
variable {P:MProg}{sc:List Int}{d:Nat}{adr:Tag→Nat}{h:MHeap}{σ:St}{X:XH}{Q:KV}{ρ:Vars}
noncomputable def htBody:MSs:=MS.bd (MSs.hd (MSs.tl f_Search_hottest.body))
theorem hot_loop {R:KF}{L:Lg}(S:Sim adr h σ X)(nz:(0:Int)∉σ.ht.map (·.1)){chk:HP}(hc:chk h){rest:List (Int×Int)}:∀ {done:List (Int×Int)}{ρ:Vars}{v:Int},σ.ht=done++rest→Hot σ done v→ρ 0=some (.ref (adr .s))→ρ 1=some (.int v) →
  (∀ ρ v,Hot σ σ.ht v→ρ 1=some (.int v)→R .next ρ h)→forL chk (forB L 2 htBody) (rest.map fun p=>.int p.1) R ρ h:=by
 induction rest with
 | nil=>exact fun e H r0 r1 q=>⟨hc,q _ _ (by rw [List.append_nil] at e; exact e▸H) r1⟩
 | cons p rest ih=>
  intro done ρ v e H r0 r1 q
  have e':σ.ht=(done++[p])++rest:=by rw [e,List.append_assoc]; rfl
  have pin:p.1∈σ.ht.map (·.1):=List.mem_map.mpr ⟨p,e▸List.mem_append_right _ List.mem_cons_self,rfl⟩
  have go:=fun (ρ:Vars)(w:Int)(H:Hot σ (done++[p]) w)=>ih (ρ:=ρ) (v:=w) e' H
  have E:=e_cmp (L:=L) (ρ:=Vars.set ρ 2 (.int p.1)) (e_var (n:=2) rfl) (S.at (x:=0) r0 (n:=18) rfl) (.notin (.dict S.kn))
  rw [mvs_any] at E
  refine ⟨hc,?_⟩
  by_cases k:(tget σ.kn p.1).isSome=true
  ·rw [k] at E
   refine x_iteF E (go _ v ?_ r0 r1 q)
   induction H with
   | none e0 kn=>exact .none e0 fun x hx=>(mem_push.mp hx).elim (kn x) fun q=>q▸k
   | some n m u=>exact .some n m u
  ·have kn:=Option.not_isSome_iff_eq_none.mp k
   rw [kn] at E
   have new:=go ((Vars.set ρ 2 (.int p.1)).set 1 (.int p.1)) p.1 (.some (fun q=>nz (q▸pin)) pin kn) r0 rfl q
   refine x_iteT E ?_
   induction H with
   | none e0 _=>exact x_iteT (e_orT (e_eqT (e_var r1) e_int e0)) (x_let (e_var rfl) new)
   | some n m u=>
    obtain ⟨x,hx⟩:=Option.isSome_iff_exists.mp (tget_isSome.mpr pin)
    obtain ⟨y,hy⟩:=Option.isSome_iff_exists.mp (tget_isSome.mpr m)
    refine x_if (e_orF (e_eqF (e_var r1) e_int n) (e_or1 (e_cmp (e_tup (e_cons (S.ht_at r0 (e_var rfl) hx) (e_one (e_neg (e_var rfl)))) (Nat.le_of_ble_eq_true rfl) rfl) (e_tup (e_cons (S.ht_at r0 (e_var r1) hy) (e_one (e_neg (e_var r1)))) (Nat.le_of_ble_eq_true rfl) rfl) (.gt2 _ _ _ _)))) (fun uu=>x_let (e_var rfl) new) fun uu=>go _ v (.some n m u) r0 r1 q
theorem hot_spec (L:LibS P)(S:Sim adr h σ X)(nz:(0:Int)∉σ.ht.map (·.1))(q:∀ v,Hot σ σ.ht v→Q (.int v) h):callD P sc (d + 1) L.fHot [.ref (adr .s)] Q h:=by
 have it:Items h (.keys (adr .ht) h.tick) (σ.ht.map fun p=>.int p.1):=by
  have z:=Items.keys S.ht
  rw [show (mvs MV.int σ.ht).map (fun e=>MV.int e.1)=σ.ht.map fun p=>.int p.1 from List.map_map] at z
  exact z
 exact enter L.bHot rfl rfl (x_let e_int (x_for (e_keys (S.at rfl rfl)) it (hot_loop S nz it (done:=[]) rfl (.none rfl fun p hp=>absurd hp List.not_mem_nil) rfl rfl fun ρ v H r1=>x_ret (e_var r1) (q v H))))
noncomputable def St.level (σ:St):St:={ σ with be:=σ.be++[σ.row.length] }
noncomputable def St.begin (σ:St)(l:Int):St:=if σ.says l=none then σ.level.let' l none else σ.level
inductive Blamed (σ:St)(l:Int)(R:St→Prop):Prop
 | mk {out:List Int}(b:Blame σ out σ.row.reverse [l] [(l.natAbs:Int)])(hz:(0:Int)∉out)(ho:out.length<64)(hlg:σ.lg.length<fitN)(q1:Contra (negs out)→R (σ.sBl out))(q2:¬ Contra (negs out)→∀ ys,OrdOf (negs out) ys→R ((σ.sBl out).note ys)):Blamed σ l R
inductive Decides (σ:St)(A:List Int)(R:Option Bool→St→Prop):Prop
 | blame {l:Int}(hl:A[σ.be.length]?=some l)(s:σ.says l=some false)(B:Blamed σ l (R (some false))):Decides σ A R
 | assume {l:Int}(hl:A[σ.be.length]?=some l)(s:σ.says l≠some false)(hf:fit σ=true)(hf2:fit σ.level=true)(q:R none (σ.begin l)):Decides σ A R
 | free (n:A.length≤σ.be.length)(nz:(0:Int)∉σ.ht.map (·.1))(hf:fit σ=true)(hf2:fit σ.level=true)(q1:Hot σ σ.ht 0→R (some true) σ)(q2:∀ v l:Int,v≠0→v∈σ.ht.map (·.1)→tget σ.kn v=none→l=v∨l = -v→R none (σ.begin l)):Decides σ A R
theorem dec_tail (L:LibS P){R:KF}{x:Int}(S:Sim adr h σ X)(hf:fit σ=true)(hf2:fit σ.level=true){l:Int}(r0:ρ 0=some (.ref (adr .s)))(r2:ρ 2=some (.int l))(q:∀ ρ h',Sim adr h' (σ.begin l) X→R (.ret .none) ρ h') :
  exs (lg P sc (d + 1)) (MSs.tl f_Search_decide.body) R ρ h:=by
 have S2:=S.set_be (σ.be++[σ.row.length])
 refine x_expr (m_append (S.at r0 rfl) S.be (S.len_row r0) (eq_lt nL_length (fit_line (fit_be hf))) ?_)
 rw [nL_push]
 have S2:Sim adr _ σ.level X:=S2
 have es:σ.level.says l=σ.says l:=rfl
 refine x_if (e_cmp (S2.says_ev L.toLib r0 (e_var r2)) e_none (.is is_oB)) (fun k=>?_) fun k=>?_
 ·have e:σ.says l=none:=es▸eq_of_beq k
  refine x_expr (m_meth (e_var r0) S2.s L.mLet (e_cons (e_var r2) (e_one e_none)) (let_spec L.toLib S2 hf2 l none fun h3 S3=>x_ret (r:=.nil) e_none (q _ _ ?_)))
  unfold St.begin
  rw [if_pos e]
  exact S3
 ·refine x_ret (r:=.nil) e_none (q _ _ ?_)
  unfold St.begin
  rw [if_neg fun e:σ.says l=none=>Bool.false_ne_true (k.symm.trans (beq_iff_eq.mpr (es.trans e)))]
  exact S2
theorem decide_spec (L:LibS P)(S:Sim adr h σ X){A:List Int}{a:Nat}(ha:X a=some (.list (iL A))){R:Option Bool→St→Prop}(D:Decides σ A R)(q:∀ o σ' h',R o σ'→Sim adr h' σ' X→Q (oB o) h'):callD P sc (d + 3) L.fDecide [.ref (adr .s),.ref a] Q h:=by
 have E:=e_cmp (L:=lg P sc (d + 2)) (ρ:=bindV [.ref (adr .s),.ref a]) (S.len_be (x:=0) rfl) (e_len (e_var (n:=1) rfl) (S.o ha)) (.lt _ _)
 rw [iL_length] at E
 induction D with
 | @blame l hl s B=>
  have hj:=(List.getElem?_eq_some_iff.mp hl).1
  rw [decide_eq_true (Int.ofNat_lt.mpr hj)] at E
  refine enter L.bDecide rfl rfl (x_iteT E (x_let (e_sub (e_var rfl) (S.len_be rfl) (.list (S.o ha) (.pos (iL_length.symm▸hj)) (iL_at hl))) (x_iteT (e_as (e_cmp (S.says_ev L.toLib rfl (e_var rfl)) e_bool (.eq (.flat (.at aeq_oB)))) (beq_iff_eq.mpr s)) ?_)))
  induction B with
  | mk b hz ho hlg q1 q2=>
  exact x_expr (m_meth (e_var rfl) S.s L.mBlame (e_one (e_var rfl)) (blame_spec L S b hz ho hlg (fun c h' S'=>x_ret e_bool (q (some false) _ _ (q1 c) S')) fun c ys hy h' S'=>x_ret e_bool (q (some false) _ _ (q2 c ys hy) S')))
 | @assume l hl s hf hf2 hq=>
  have hj:=(List.getElem?_eq_some_iff.mp hl).1
  rw [decide_eq_true (Int.ofNat_lt.mpr hj)] at E
  exact enter L.bDecide rfl rfl (x_iteT E (x_let (e_sub (e_var rfl) (S.len_be rfl) (.list (S.o ha) (.pos (iL_length.symm▸hj)) (iL_at hl))) (x_iteF (e_as (e_cmp (S.says_ev L.toLib rfl (e_var rfl)) e_bool (.eq (.flat (.at aeq_oB)))) (beq_eq_false_iff_ne.mpr s)) (dec_tail (x:=0) L S hf hf2 rfl rfl fun uu uu S'=>q none _ _ hq S'))))
 | free n nz hf hf2 q1 q2=>
  rw [decide_eq_false fun q=>absurd (Int.ofNat_lt.mp q) (Nat.not_lt.mpr n)] at E
  refine enter L.bDecide rfl rfl (x_iteF E (x_var (m_meth (e_var rfl) S.s L.mHot e_nil (hot_spec L S nz fun v H=>?_))))
  by_cases v0:v=0
  ·subst v0
   exact x_iteT (e_eqT (e_var rfl) e_int rfl) (x_ret e_bool (q (some true) _ _ (q1 H) S))
  ·induction H with
   | none e _=>exact absurd e v0
   | some _ m u=>
   have E2:=e_get2 (L:=lg P sc (d + 2)) (ρ:=(bindV [.ref (adr .s),.ref a]).set 3 (.int v)) (S.at (x:=0) (n:=21) rfl rfl) S.li (e_var (n:=3) rfl) (e_bool (b:=false))
   rw [kget_mvs] at E2
   refine x_iteF (e_eqF (e_var rfl) e_int v0) ?_
   revert E2
   rcases tget σ.li v with _ | b
   ·exact fun E2=>x_let (e_iteF E2 (.bool _) (e_neg (e_var rfl))) (dec_tail (x:=0) L S hf hf2 rfl rfl fun uu uu S'=>q none _ _ (q2 v _ v0 m u (.inr rfl)) S')
   ·rcases b with _ | _
    ·exact fun E2=>x_let (e_iteF E2 (.bool _) (e_neg (e_var rfl))) (dec_tail (x:=0) L S hf hf2 rfl rfl fun uu uu S'=>q none _ _ (q2 v _ v0 m u (.inr rfl)) S')
    ·exact fun E2=>x_let (e_iteT E2 (.bool _) (e_var rfl)) (dec_tail (x:=0) L S hf hf2 rfl rfl fun uu uu S'=>q none _ _ (q2 v _ v0 m u (.inl rfl)) S')
end
end Mini.C
end
section
namespace Mini.C
open Mini
noncomputable def told (J:St→Prop)(R:Option Bool→St→Prop):Option Bool→St→Prop
 | none,σ=>J σ
 | some b,σ=>R (some b) σ
inductive Calm (begun:Int)(A:List Int)(σ:St)(r s:Int)(J:St→Int→Int→Prop)(R:Option Bool→St→Prop):Prop
 | spent (l:0<σ.lim)(l2:σ.lim≤σ.cl - begun)(o:σ.lim=1∨σ.lim=2)(q:R none σ):Calm begun A σ r s J R
 | again {σ2:St}(n:¬ (0<σ.lim∧σ.lim≤σ.cl - begun))(l:s≤σ.cl - r)(e:σ.back 0=some σ2)(q:J σ2 σ.cl (s + s.fdiv 2)):Calm begun A σ r s J R
 | decide (n:¬ (0<σ.lim∧σ.lim≤σ.cl - begun))(l:σ.cl - r<s)(D:Decides σ A (told (fun σ'=>J σ' r s) R)):Calm begun A σ r s J R
inductive Turn (begun:Int)(A:List Int)(σ:St)(r s:Int)(J:St→Int→Int→Prop)(R:Option Bool→St→Prop):Prop
 | clash {k n:Nat}{σ1:St}(e:spreadF k σ=some ((n:Int),σ1))(hf:fit σ1=true)(q1:σ1.be=[]→J σ1.click.refute r s)(q2:σ1.be≠[]→Taught σ1 n fun σ5=>J σ5 r s):Turn begun A σ r s J R
 | calm {k:Nat}{σ1:St}(e:spreadF k σ=some (-1,σ1))(C:Calm begun A σ1 r s J R):Turn begun A σ r s J R
inductive Step (begun:Int)(A:List Int)(J:Nat→St→Int→Int→Prop)(R:Option Bool→St→Prop)(j:Nat)(σ:St)(r s:Int):Prop
 | end (e:σ.ref=true)(q:R (some false) σ):Step begun A J R j σ r s
 | go (e:σ.ref=false)(T:Turn begun A σ r s (fun σ' r' s'=>Yields (fun i=>i<j) fun i=>J i σ' r' s') R):Step begun A J R j σ r s
theorem Taught.mono {σ:St}{n:Nat}{R R':St→Prop}(T:Taught σ n R)(h:∀ σ',R σ'→R' σ'):Taught σ n R':=by
 induction T with
 | mk el hz hc hl hlg hh H=>
  refine .mk el hz hc hl hlg hh fun ys r' a b c=>?_
  induction H ys r' a b c with
  | mk r q=>exact .mk r (h _ q)
section
variable {P:MProg}{sc:List Int}{d:Nat}{adr:Tag→Nat}{h:MHeap}{σ:St}{X:XH}{ρ:Vars}
theorem enterT {f:Nat}{fn:MFn}{args:List MV}{Q:Option MV→MHeap→Prop}(hb:P.fns[f]?=some fn)(hn:fn.npar=args.length)(hs:fn.sup=none)(q:exs (lg P sc d) fn.body (tryQ Q) (bindV args) h):tryD P sc (d + 1) f args Q h:=
 ⟨.mk hb ⟨hn,by rw [hs]; exact q⟩,fun fn' e=>Option.some.inj (hb.symm.trans e)▸hs⟩
noncomputable def sB1:MSs:=MS.bd (MSs.hd (MSs.tl (MSs.tl f_Search_solve.body)))
noncomputable def sB2:MSs:=MS.bd (MSs.hd (MSs.tl (MSs.tl (MSs.tl (MSs.tl f_Search_solve.body)))))
theorem sol_heats {L:Lg}{R:KF}{v:MV}{chk:HP}(S:Sim adr h σ X)(hc:chk h){rest:List Int}(hk:∀ l∈rest,(tget σ.ht (l.natAbs:Int)).isSome=true)(q:∀ ρ,ρ 0=some (.ref (adr .s))→ρ 1=some v→R .next ρ h) :
  ∀ {ρ:Vars},ρ 0=some (.ref (adr .s))→ρ 1=some v→forL chk (forB L 2 sB1) (iL rest) R ρ h:=by
 induction rest with
 | nil=>exact fun r0 r1=>⟨hc,q _ r0 r1⟩
 | cons x rest ih=>
  intro ρ r0 r1
  obtain ⟨y,c⟩:=Option.isSome_iff_exists.mp (hk x List.mem_cons_self)
  exact ⟨hc,x_expr (m_dictM (S.at (x:=0) r0 rfl) S.ht (e_cons (e_abs (e_var rfl)) (e_one e_int)) (.inr (.inr (.inr rfl))) (.defS S.ht (kget_at c)) (ih (fun l m=>hk l (List.mem_cons_of_mem _ m)) r0 r1))⟩
inductive SolI (a0 a:Nat)(begun:Int)(X:XH)(J:Nat→St→Int→Int→Prop)(R:Option Bool→St→Prop)(k:Nat)(ρ:Vars)(h:MHeap):Prop
 | run {adr:Tag→Nat}{σ:St}{j:Nat}{r s:Int}(e:k=j + 1)(ea:adr .s=a0)(S:Sim adr h σ X)(r0:ρ 0=some (.ref a0))(r1:ρ 1=some (.ref a))(r3:ρ 3=some (.int begun))(r4:ρ 4=some (.int r))(r5:ρ 5=some (.int s))(r6:ρ 6=some .none)(q:J j σ r s):SolI a0 a begun X J R k ρ h
 | done {adr:Tag→Nat}{σ:St}{b:Bool}(ea:adr .s=a0)(S:Sim adr h σ X)(r6:ρ 6=some (.bool b))(q:R (some b) σ):SolI a0 a begun X J R k ρ h
theorem cl_ev {L:Lg}{x y:Nat}{b:Int}(S:Sim adr h σ X)(r0:ρ x=some (.ref (adr .s)))(r3:ρ y=some (.int b)):Ev L ρ h (.bin .sub (.attr (.var x) 10) (.var y)) (.int (σ.cl - b)):=e_ari (S.at r0 rfl) (e_var r3) (.sub _ _)
theorem sol_turn (L:LibS P){Q:KF}{a:Nat}{A:List Int}{begun r s:Int}{j:Nat}{J:Nat→St→Int→Int→Prop}{R:Option Bool→St→Prop}(ha:X a=some (.list (iL A)))(S:Sim adr h σ X)
  (r0:ρ 0=some (.ref (adr .s)))(r1:ρ 1=some (.ref a))(r3:ρ 3=some (.int begun))(r4:ρ 4=some (.int r))(r5:ρ 5=some (.int s))(r6:ρ 6=some .none)
  (T:Turn begun A σ r s (fun σ' r' s'=>Yields (fun i=>i<j) fun i=>J i σ' r' s') R)(K:∀ ρ h k,k<j + 1→SolI (adr .s) a begun X J R k ρ h→Q .next ρ h)(F:∀ ρ h σ' adr',adr' .s=adr .s→R none σ'→Sim adr' h σ' X→Q .raise ρ h):exs (lg P sc (d + 3)) sB2 Q ρ h:=by
 have more:∀ {σ':St}{adr':Tag→Nat}{h':MHeap}{ρ':Vars}{r s:Int},(Yields (fun i=>i<j) fun i=>J i σ' r s)→adr' .s=adr .s→Sim adr' h' σ' X→ρ' 0=some (.ref (adr .s))→ρ' 1=some (.ref a)→ρ' 3=some (.int begun)→ρ' 4=some (.int r)→ρ' 5=some (.int s)→ρ' 6=some .none→Q .next ρ' h':=fun y ea S a0 a1 a3 a4 a5 a6=>by
  induction y with
  | mk l q=>exact K _ _ _ (Nat.succ_lt_succ l) (.run rfl ea S a0 a1 a3 a4 a5 a6 q)
 induction T with
 | @clash k n σ1 e hf q1 q2=>
  refine x_var (m_meth (e_var r0) S.s L.mSpread e_nil (spread_spec L.toLib S e fun h1 a1 s1 S1=>x_iteT (e_as (e_cmp (e_var rfl) e_int (.ge _ _)) (decide_eq_true (Int.natCast_nonneg n))) ?_))
  rw [← s1] at r0 more
  exact x_expr (m_meth (e_var r0) S1.s L.mLearn (e_one (e_var rfl)) (learn_spec L.toLibL S1 hf (fun hb h2 S2=>more (q1 hb) rfl S2 r0 r1 r3 r4 r5 r6) fun hb=>(q2 hb).mono fun σ5 y h2 a2 s2 S2=>more y s2 S2 r0 r1 r3 r4 r5 r6))
 | @calm k σ1 e C=>
  refine x_var (m_meth (e_var r0) S.s L.mSpread e_nil (spread_spec L.toLib S e fun h1 a1 s1 S1=>x_iteF (e_as (e_cmp (e_var rfl) e_int (.ge _ _)) rfl) ?_))
  rw [← s1] at r0 more K F
  have E1:∀ {c:Bool},(decide (0<σ1.lim)&&decide (σ1.lim≤σ1.cl - begun))=c→Ev (lg P sc (d + 3)) (Vars.set ρ 7 (.int (-1))) h1 (.chain .lt .le (.int 0) (.attr (.var 0) 27) (.bin .sub (.attr (.var 0) 10) (.var 3))) (.bool c):=fun q=>e_as (e_chain e_int (S1.at (n:=27) r0 rfl) (.lt _ _) (cl_ev S1 r0 r3) fun uu=>.le _ _) q
  have no:¬ (0<σ1.lim∧σ1.lim≤σ1.cl - begun)→(decide (0<σ1.lim)&&decide (σ1.lim≤σ1.cl - begun))=false:=fun n=>by
   rw [← Bool.decide_and]; exact decide_eq_false n
  have E2:=e_cmp (cl_ev (L:=lg P sc (d + 3)) (ρ:=Vars.set ρ 7 (.int (-1))) (x:=0) (y:=4) S1 r0 r4) (e_var (n:=5) r5) (.ge _ _)
  induction C with
  | spent l l2 o q=>
   refine x_iteT (E1 (by rw [decide_eq_true l,decide_eq_true l2]; rfl)) (x_raise (S1.at (n:=27) r0 rfl) ?_ (F _ _ _ _ rfl q S1))
   rcases o with o | o <;> rw [o]
   ·exact .one
   ·exact .two
  | @again σ2 n l e q=>
   rw [decide_eq_true l] at E2
   refine x_iteF (E1 (no n)) (x_iteT E2 (x_asgs (e_cons (S1.at (n:=10) r0 rfl) (e_one (e_ari (e_var r5) (e_ari (e_var r5) e_int (.fdiv (b:=2) (by decide) (by decide))) (.add _ _)))) (Nat.le_of_ble_eq_true rfl) rfl (a_var (a_var (a_nil ?_)))))
   exact x_expr (m_meth (e_var r0) S1.s L.mBack (e_one e_int) (back_spec L.toLib S1 0 e fun h2 a2 s2 S2=>more q s2 S2 r0 r1 r3 rfl rfl r6))
  | decide n l D=>
   rw [decide_eq_false fun q=>absurd l (Int.not_lt.mpr q)] at E2
   refine x_iteF (E1 (no n)) (x_iteF E2 (x_var (m_meth (e_var r0) S1.s L.mDecide (e_one (e_var r1)) (decide_spec L S1 ha D fun o σ' h2 q S2=>?_))))
   rcases o with _ | b
   ·exact more q rfl S2 r0 r1 r3 r4 r5 rfl
   ·exact K _ _ 0 (Nat.succ_pos _) (.done rfl S2 rfl q)
theorem solve_spec (L:LibS P){Q:Option MV→MHeap→Prop}{a:Nat}{A:List Int}{j:Nat}{J:Nat→St→Int→Int→Prop}{R:Option Bool→St→Prop}(ha:X a=some (.list (iL A)))(S:Sim adr h σ X){σ1:St}(e:σ.back 0=some σ1)(hk:∀ l∈A,(tget σ1.ht (l.natAbs:Int)).isSome=true)
  (j0:J j (σ1.sBl []) σ1.cl 16)(step:∀ j σ r s,J j σ r s→Step σ1.cl A J R j σ r s)(q:∀ o σ' h' adr',adr' .s=adr .s→R o σ'→Sim adr' h' σ' X→Q (o.map .bool) h'):tryD P sc (d + 4) L.fSolve [.ref (adr .s),.ref a] Q h:=by
 refine enterT L.bSolve rfl rfl (x_expr (m_meth (e_var rfl) S.s L.mBack (e_one e_int) (back_spec L.toLib S 0 e fun h1 a1 s1 S1=>?_)))
 rw [← s1] at q ⊢
 refine x_at S1 (x:=0) rfl (e_tup e_nil (Nat.zero_le _) rfl) (S1.set_bl []) fun h2 S2=>x_for (e_var (n:=1) rfl) (.list (S2.o ha)) (sol_heats S2 (.list (S2.o ha)) hk (fun ρ r0 r1=>?_) rfl rfl)
 refine x_asgs (e_cons (S2.at (n:=10) r0 rfl) (e_cons (S2.at (n:=10) r0 rfl) (e_cons e_glob (e_one e_none)))) (Nat.le_of_ble_eq_true rfl) rfl (a_var (a_var (a_var (a_var (a_nil ?_)))))
 refine x_while (while_rule (SolI (a1 .s) a σ1.cl X J R) (fun k ρ h K I hK=>?_) (.run rfl rfl S2 r0 r1 rfl rfl rfl rfl j0))
 induction I with
 | @done adr σ' b ea S r6 hq=>
  refine e_andF (e_cmp (e_var r6) e_none (.is (.bn b))) true _ (bool_fin (.no rfl (x_ret (e_cmp (e_var r6) e_bool (.eq (.flat (.at (.bb _ _))))) ?_)))
  rw [beq_true]
  exact q (some b) _ _ _ (ea.trans rfl) hq S
 | @run adr σ' j r s e ea S r0 r1 r3 r4 r5 r6 hj=>
  have E:=e_cmp (L:=lg P sc (d + 3)) (h:=h) (e_var r6) e_none (.is .nn)
  rw [← ea] at r0
  induction step _ _ _ _ hj with
  | «end» er hq=>
   have E2:=e_not (S.at (L:=lg P sc (d + 3)) (n:=13) r0 rfl) (.bool _)
   rw [er] at E2
   exact e_andT E (e_and1 E2) true _ (bool_fin (.no rfl (x_ret (e_cmp (e_var r6) e_bool (.eq (.flat (.at (.nb _))))) (q (some false) _ _ _ ea hq S))))
  | go er T=>
   have E2:=e_not (S.at (L:=lg P sc (d + 3)) (n:=13) r0 rfl) (.bool _)
   rw [er] at E2
   refine e_andT E (e_and1 E2) true _ (bool_fin (.yes rfl (sol_turn L ha S r0 r1 r3 r4 r5 r6 T (fun ρ h k' l I=>hK k' (e▸l) ρ h (ea▸I)) fun ρ h σ' a' s' hq S'=>q none _ _ _ (s'.trans ea) hq S')))
end
end Mini.C
end
section
namespace Mini.C
open Mini
noncomputable def Shut (U:Int→Prop)(C:List Int):Prop:=(∃ l∈C,¬ U (-l))∧∀ p∈C,(∀ l∈C,l≠p→U (-l))→U p
noncomputable def Shuts (U:Int→Prop)(B:List (List Int)):Prop:=∀ C∈B,Shut U C
noncomputable def Forced (B:List (List Int))(l:Int):Prop:=∀ U:Int→Prop,Shuts U B→U l
noncomputable def Dead (B:List (List Int)):Prop:=∀ U:Int→Prop,¬ Shuts U B
theorem Forced.more {B B':List (List Int)}{l:Int}(h:Forced B l)(hb:∀ C∈B,C∈B'):Forced B' l:=fun U s=>h U fun C hC=>s C (hb C hC)
structure Keyed {α:Type}(N:Nat)(es:List (Int×α)):Prop where
 nodup:(es.map (·.1)).Nodup
 rng:∀ k∈es.map (·.1),k.natAbs≤N
theorem Keyed.nil {α:Type}{N:Nat}:Keyed N ([]:List (Int×α)):=⟨by simp,by simp⟩
theorem Keyed.set {α:Type}{N:Nat}{es:List (Int×α)}(h:Keyed N es){k:Int}(v:α)(hk:k.natAbs≤N):Keyed N (tset es k v):=by
 have e:=keys_tset (es:=es) (k:=k) (v:=v)
 by_cases c:(tget es k).isSome=true
 ·rw [if_pos c] at e
  exact ⟨by rw [e]; exact h.nodup,by rw [e]; exact h.rng⟩
 ·rw [if_neg c] at e
  have c':=mt tget_isSome.mpr c
  refine ⟨by rw [e,List.nodup_append]; exact ⟨h.nodup,by simp,fun a ha b hb=>by rw [List.mem_singleton.mp hb]; exact fun q=>c' (q▸ha)⟩,by rw [e]; intro j hj; rcases List.mem_append.mp hj with q | q; exact h.rng j q; rw [List.mem_singleton.mp q]; exact hk⟩
theorem Keyed.del {α:Type}{N:Nat}{es:List (Int×α)}(h:Keyed N es){k:Int}:Keyed N (tdel es k):=
 ⟨by rw [keys_tdel]; exact h.nodup.erase _,by rw [keys_tdel]; exact fun j hj=>h.rng j (List.mem_of_mem_erase hj)⟩
theorem Keyed.push {α:Type}{N:Nat}{es:List (Int×α)}(h:Keyed N es){k:Int}{v:α}(hk:k.natAbs≤N)(e:tget es k=none):Keyed N (es++[(k,v)]):=by
 rw [← tset_new e]; exact h.set v hk
noncomputable def keyRange (N:Nat):List Int:=(List.range (2 * N + 1)).map fun i:Nat=>(i:Int) - N
theorem Keyed.len {α:Type}{N:Nat}{es:List (Int×α)}(h:Keyed N es):es.length≤2 * N + 1:=by
 have:(es.map (·.1)).length≤(keyRange N).length:=nodup_le h.nodup fun k hk=>by
  have:=h.rng k hk
  simp only [keyRange,List.mem_map,List.mem_range]
  exact ⟨(k + N).toNat,by lia,by lia⟩
 simpa [keyRange] using this
structure Room' (N B:Nat)(σ:St):Prop where
 kn:Keyed N σ.kn
 hh:Keyed N σ.hh
 ca:Keyed N σ.ca
 li:Keyed N σ.li
 ht:Keyed N σ.ht
 wd:Keyed N σ.wd
 row:σ.row.length≤N
 be:σ.be.length≤B
 rows:σ.rows.length≤B
 lg:σ.lg.length≤B
 wl:∀ p∈σ.wd,p.2.length≤B + 1
theorem Room'.fit {N B:Nat}{σ:St}(h:Room' N B σ)(hN:N≤100)(hB:B≤100000):fit σ=true:=by
 unfold Mini.C.fit fitN
 have:=h.kn.len; have:=h.hh.len; have:=h.ca.len; have:=h.li.len; have:=h.ht.len; have:=h.wd.len
 have:=h.row; have:=h.be; have:=h.rows; have:=h.lg
 exact decide_eq_true ⟨by lia,by lia,by lia,by lia,by lia,by lia,by lia,by lia,by lia,by lia,h.wd.nodup,fun p hp=>by have:=h.wl p hp; lia⟩
theorem nodup_nat {N:Nat}{xs:List Int}(h:(xs.map Int.natAbs).Nodup)(hr:∀ l∈xs,1≤l.natAbs∧l.natAbs≤N):xs.length≤N:=by
 have key:∀ {as bs:List Nat},as.Nodup→(∀ l∈as,l∈bs)→as.length≤bs.length:=by
  intro as bs ha hs
  have h1:(as.map fun n:Nat=>(n:Int)).Nodup:=by
   refine List.Pairwise.map _ (fun a b hab=>?_) ha
   lia
  have:=nodup_le (xs:=bs.map fun n:Nat=>(n:Int)) h1 (fun l hl=>by
   obtain ⟨n,hn,rfl⟩:=List.mem_map.mp hl
   exact List.mem_map.mpr ⟨n,hs n hn,rfl⟩)
  simpa using this
 have:=key (bs:=(List.range N).map (· + 1)) h (fun l hl=>by
  obtain ⟨x,hx,rfl⟩:=List.mem_map.mp hl
  have:=hr x hx
  simp only [List.mem_map,List.mem_range]
  exact ⟨x.natAbs - 1,by lia,by lia⟩)
 simpa using this
structure Known (N:Nat)(row:List Int)(kn:List (Int×Bool)):Prop where
 vars:(row.map Int.natAbs).Nodup
 rng:∀ l∈row,1≤l.natAbs∧l.natAbs≤N
 kn:∀ l:Int,l≠0→(l∈row↔tget kn l.natAbs=some (decide (0<l)))
theorem Known.says {N:Nat}{σ:St}(h:Known N σ.row σ.kn){l:Int}(hl:l≠0):(σ.says l=some true↔l∈σ.row)∧(σ.says l=some false↔-l∈σ.row):=by
 have h1:=h.kn l hl
 have h2:=h.kn (-l) (by lia)
 rw [Int.natAbs_neg] at h2
 unfold St.says
 rw [h1,h2]
 cases tget σ.kn l.natAbs with
 | none=>simp
 | some b=>
  have:decide (0 < -l)=!decide (0<l):=by
   by_cases c:0<l
   ·simp [c]; lia
   ·simp [c]; lia
  rw [this]
  cases b <;> cases decide (0<l) <;> simp
theorem Known.says_none {N:Nat}{σ:St}(h:Known N σ.row σ.kn){l:Int}(hl:l≠0):σ.says l=none↔l∉σ.row∧-l∉σ.row:=by
 obtain ⟨h1,h2⟩:=h.says hl
 rw [← h1,← h2]
 cases σ.says l with
 | none=>simp
 | some b=>cases b <;> simp
theorem Known.not_both {N:Nat}{row:List Int}{kn:List (Int×Bool)}(h:Known N row kn){l:Int}(h1:l∈row)(h2:-l∈row):False:=by
 have l0:l≠0:=by have:=h.rng l h1; lia
 have a:=(h.kn l l0).mp h1
 have b:=(h.kn (-l) (by lia)).mp h2
 rw [Int.natAbs_neg,a] at b
 simp at b
 lia
theorem Known.push {N:Nat}{row:List Int}{kn:List (Int×Bool)}(h:Known N row kn){l:Int}(hl:1≤l.natAbs∧l.natAbs≤N)(h1:l∉row)(h2:-l∉row):Known N (row++[l]) (tset kn l.natAbs (decide (0<l))) where
 vars:=by
  rw [List.map_append,List.nodup_append]
  refine ⟨h.vars,by simp,fun a ha b hb=>?_⟩
  simp at hb
  obtain ⟨x,hx,rfl⟩:=List.mem_map.mp ha
  subst hb
  intro q
  have:x=l∨x = -l:=by lia
  rcases this with rfl | rfl
  ·exact h1 hx
  ·exact h2 hx
 rng:=fun x hx=>by
  rcases List.mem_append.mp hx with q | q
  ·exact h.rng x q
  ·rw [List.mem_singleton.mp q]; exact hl
 kn:=fun x hx=>by
  rw [tget_tset,List.mem_append,List.mem_singleton,h.kn x hx]
  by_cases c:(l.natAbs:Int)=x.natAbs
  ·rw [if_pos c]
   have hx':x=l∨x = -l:=by lia
   rcases hx' with rfl | rfl
   ·simp
   ·have:¬ tget kn ((-l).natAbs:Int)=some (decide (0 < -l)):=fun q=>h2 ((h.kn (-l) hx).mpr q)
    constructor
    ·rintro (q | q)
     ·exact absurd q this
     ·lia
    ·intro q
     simp at q
     lia
  ·rw [if_neg c]
   constructor
   ·rintro (q | q)
    ·exact q
    ·subst q; exact absurd rfl c
   ·exact .inl
theorem Known.pop {N:Nat}{row:List Int}{kn:List (Int×Bool)}{l:Int}(h:Known N (row++[l]) kn)(hn:(kn.map (·.1)).Nodup):Known N row (tdel kn l.natAbs) where
 vars:=by
  have:=h.vars
  rw [List.map_append,List.nodup_append] at this
  exact this.1
 rng:=fun x hx=>h.rng x (List.mem_append.mpr (.inl hx))
 kn:=fun x hx=>by
  rw [tget_tdel hn]
  have hk:=h.kn x hx
  rw [List.mem_append,List.mem_singleton] at hk
  have hv:=h.vars
  rw [List.map_append,List.nodup_append] at hv
  by_cases c:(l.natAbs:Int)=x.natAbs
  ·rw [if_pos c]
   constructor
   ·intro q
    have:=hv.2.2 x.natAbs (List.mem_map.mpr ⟨x,q,rfl⟩) l.natAbs (by simp)
    lia
   ·intro q; cases q
  ·rw [if_neg c]
   rw [← hk]
   constructor
   ·exact .inl
   ·rintro (q | q)
    ·exact q
    ·subst q; exact absurd rfl c
theorem popTo_ok {N B n:Nat}(hN:N≤100)(hB:B≤100000):∀ {k:Nat}{σ:St},σ.row.length≤n + k→n≤σ.row.length→Known N σ.row σ.kn→Room' N B σ→∃ kn li,popTo n k σ=some { σ with row:=σ.row.take n,kn:=kn,li:=li }∧Known N (σ.row.take n) kn∧Keyed N kn∧Keyed N li ∧
  (∀ v:Int,tget li v=if ∃ l∈σ.row.drop n,(l.natAbs:Int)=v then tget σ.kn v else tget σ.li v)
 | 0,σ,h1,h2,hk,hr=>by
  have e:σ.row.length=n:=by lia
  refine ⟨σ.kn,σ.li,?_,?_,hr.kn,hr.li,fun v=>?_⟩
  ·unfold popTo
   rw [if_pos (by lia),List.take_of_length_le (by lia)]
  ·rw [List.take_of_length_le (by lia)]; exact hk
  ·rw [List.drop_of_length_le (by lia)]; simp
 | k + 1,σ,h1,h2,hk,hr=>by
  by_cases hc:σ.row.length≤n
  ·refine ⟨σ.kn,σ.li,?_,?_,hr.kn,hr.li,fun v=>?_⟩
   ·unfold popTo
    rw [if_pos hc,List.take_of_length_le hc]
   ·rw [List.take_of_length_le hc]; exact hk
   ·rw [List.drop_of_length_le hc]; simp
  ·have hne:σ.row≠[]:=fun q=>by rw [q] at hc; simp at hc
   obtain ⟨row,l,e⟩:∃ row l,σ.row=row++[l]:=⟨_,_,(List.dropLast_concat_getLast hne).symm⟩
   have el:σ.row.getLast?=some l:=by rw [e]; simp
   have l0:l≠0:=by have:=hk.rng l (by rw [e]; simp); lia
   have ek:=(hk.kn l l0).mp (by rw [e]; simp)
   have hf:=hr.fit hN hB
   have hl:l.natAbs≤N:=(hk.rng l (by rw [e]; simp)).2
   have ed:σ.row.dropLast=row:=by rw [e]; simp
   have hlen:σ.row.length=row.length + 1:=by rw [e]; simp
   have hk':Known N (σ.pop l (decide (0<l))).row (σ.pop l (decide (0<l))).kn:=by
    show Known N σ.row.dropLast (tdel σ.kn l.natAbs)
    rw [ed]
    rw [e] at hk
    exact hk.pop hr.kn.nodup
   have hr':Room' N B (σ.pop l (decide (0<l))):={ hr with
    kn:=hr.kn.del
    li:=hr.li.set _ (by simpa using hl)
    row:=by show σ.row.dropLast.length≤N; rw [ed]; have:=hr.row; lia }
   obtain ⟨kn,li,e1,e2,e3,e4,e5⟩:=popTo_ok (n:=n) (k:=k) (σ:=σ.pop l (decide (0<l))) hN hB (by show σ.row.dropLast.length≤_; rw [ed]; lia) (by show n≤σ.row.dropLast.length; rw [ed]; lia) hk' hr'
   have et:(σ.pop l (decide (0<l))).row.take n=σ.row.take n:=by
    show σ.row.dropLast.take n=_
    rw [ed,e,List.take_append_of_le_length (by lia)]
   refine ⟨kn,li,?_,by rw [← et]; exact e2,e3,e4,fun v=>?_⟩
   ·unfold popTo
    rw [if_neg hc,el]
    simp only [ek,hf,if_true]
    rw [e1,et]
    rfl
   ·rw [e5 v]
    have ed2:(σ.pop l (decide (0<l))).row.drop n=row.drop n:=by show σ.row.dropLast.drop n=_; rw [ed]
    have ed3:σ.row.drop n=row.drop n++[l]:=by rw [e,List.drop_append_of_le_length (by lia)]
    rw [ed2,ed3]
    have hv:=hk.vars
    rw [e,List.map_append,List.nodup_append] at hv
    show (if ∃ m∈row.drop n,(m.natAbs:Int)=v then tget (tdel σ.kn l.natAbs) v else tget (tset σ.li l.natAbs (decide (0<l))) v)=_
    rw [tget_tdel hr.kn.nodup,tget_tset]
    by_cases c:(l.natAbs:Int)=v
    ·have no:¬ ∃ m∈row.drop n,(m.natAbs:Int)=v:=by
      rintro ⟨m,hm,q⟩
      have:=hv.2.2 m.natAbs (List.mem_map.mpr ⟨m,List.mem_of_mem_drop hm,rfl⟩) l.natAbs (by simp)
      lia
     rw [if_neg no,if_pos c,if_pos ⟨l,by simp,c⟩,← c,ek]
    ·rw [if_neg c,if_neg c]
     have:(∃ m∈row.drop n++[l],(m.natAbs:Int)=v)↔∃ m∈row.drop n,(m.natAbs:Int)=v:=by
      constructor
      ·rintro ⟨m,hm,q⟩
       rcases List.mem_append.mp hm with hm | hm
       ·exact ⟨m,hm,q⟩
       ·rw [List.mem_singleton.mp hm] at q; exact absurd q c
      ·rintro ⟨m,hm,q⟩; exact ⟨m,List.mem_append.mpr (.inl hm),q⟩
     by_cases c2:∃ m∈row.drop n,(m.natAbs:Int)=v
     ·rw [if_pos c2,if_pos (this.mpr c2)]
     ·rw [if_neg c2,if_neg (mt this.mp c2)]
end Mini.C
end
section
namespace Mini.C
open Mini
structure GoodC (N:Nat)(c:List Int):Prop where
 two:2≤c.length
 nodup:c.Nodup
 rng:∀ l∈c,1≤l.natAbs∧l.natAbs≤N
 nocon:∀ l∈c,-l∉c
theorem GoodC.perm {N:Nat}{c c':List Int}(h:GoodC N c)(p:c'.Perm c):GoodC N c':=
 ⟨by rw [p.length_eq]; exact h.two,p.nodup_iff.mpr h.nodup,fun l hl=>h.rng l (p.mem_iff.mp hl),fun l hl q=>h.nocon l (p.mem_iff.mp hl) (p.mem_iff.mp q)⟩
theorem GoodC.len {N:Nat}{c:List Int}(h:GoodC N c):c.length≤2 * N + 1:=by
 have:c.length≤(keyRange N).length:=nodup_le h.nodup fun k hk=>by
  have:=h.rng k hk
  simp only [keyRange,List.mem_map,List.mem_range]
  exact ⟨(k + N).toNat,by lia,by lia⟩
 simpa [keyRange] using this
theorem nth_eq {c:List Int}{i:Nat}(h:i<c.length):nth c i=c[i]:=by simp [nth,List.getD,h]
theorem nth_mem {c:List Int}{i:Nat}(h:i<c.length):nth c i∈c:=by rw [nth_eq h]; exact List.getElem_mem h
theorem mem_nth {c:List Int}{m:Int}(h:m∈c):∃ i,i<c.length∧nth c i=m:=by
 obtain ⟨i,hi,e⟩:=List.mem_iff_getElem.mp h
 exact ⟨i,hi,by rw [nth_eq hi,e]⟩
theorem nth_inj {c:List Int}(hn:c.Nodup){i j:Nat}(hi:i<c.length)(hj:j<c.length)(e:nth c i=nth c j):i=j:=by
 rw [nth_eq hi,nth_eq hj] at e
 exact (List.getElem_inj hn).mp e
theorem moved_ok {σ:St}{n:Nat}{lost:Int}{c:List Int}(hr:σ.rows[n]?=some c)(h2:2≤c.length)(hl:c.length≤fitN)(nd:c.Nodup)(hw:nth c 0=lost∨nth c 1=lost)(hfit:fit σ=true) :
  ∃ c':List Int,c'.Perm c∧(nth c' 0=nth c 0∨nth c' 0=nth c 1)∧nth c' 0≠lost ∧
   ((σ.moved n lost=some (false,σ.setR n c')∧nth c' 1=lost∧(σ.says (nth c' 0)=some true∨∀ m∈c',m≠nth c' 0→m≠lost→σ.says m=some false)) ∨
    (σ.moved n lost=some (true,(σ.setR n c').setW (addW σ.wd (nth c' 1) n))∧nth c' 1≠lost∧nth c' 1≠nth c' 0∧σ.says (nth c' 0)≠some true∧σ.says (nth c' 1)≠some false)):=by
 have n01:nth c 0≠nth c 1:=fun q=>by have:=nth_inj nd (by lia) (by lia) q; lia
 have hs:(swap0 c lost).Perm c∧(nth (swap0 c lost) 0=nth c 0∨nth (swap0 c lost) 0=nth c 1)∧nth (swap0 c lost) 0≠lost∧nth (swap0 c lost) 1=lost:=by
  unfold swap0
  by_cases c0:nth c 0=lost
  ·rw [if_pos c0]
   have p:=List.set_set_perm (as:=c) (i:=0) (j:=1) (by lia) (by lia)
   rw [← nth_eq (by lia),← nth_eq (by lia),c0] at p
   refine ⟨p,?_,?_,?_⟩
   ·right
    simp [nth,List.getD,show 0<c.length by lia,List.getElem?_set]
   ·have:nth ((c.set 0 (nth c 1)).set 1 lost) 0=nth c 1:=by simp [nth,List.getD,show 0<c.length by lia,List.getElem?_set]
    rw [this,← c0]; exact Ne.symm n01
   ·simp [nth,List.getD,show 1<c.length by lia,List.getElem?_set]
  ·rw [if_neg c0]
   exact ⟨.refl _,.inl rfl,c0,hw.resolve_left c0⟩
 obtain ⟨p1,f1,f2,f3⟩:=hs
 have hlen:(swap0 c lost).length=c.length:=swap0_length
 have nd1:=p1.nodup_iff.mpr nd
 unfold St.moved
 rw [hr]
 simp only
 rw [if_neg (by lia)]
 generalize swap0 c lost=c1 at *
 by_cases ht:σ.says (nth c1 0)=some true
 ·refine ⟨c1,p1,f1,f2,.inl ⟨?_,f3,.inl ht⟩⟩
  rw [if_pos ht]
 ·rw [if_neg ht]
  cases ef:(List.range' 2 (c.length - 2)).find? (notF σ c1) with
  | none=>
   refine ⟨c1,p1,f1,f2,.inl ⟨rfl,f3,.inr fun m hm m0 ml=>?_⟩⟩
   obtain ⟨i,hi,e⟩:=mem_nth hm
   have i2:2≤i:=by
    rcases i with _ | _ | i
    ·exact absurd e.symm m0
    ·rw [f3] at e; exact absurd e.symm ml
    ·lia
   have:=List.find?_eq_none.mp ef i (by simp; lia)
   rw [← e]
   simpa [notF] using this
  | some k=>
   have hk:=List.mem_of_find?_eq_some ef
   have hp:=List.find?_some ef
   simp at hk
   have hk1:k<c1.length:=by lia
   have p:=List.set_set_perm (as:=c1) (i:=1) (j:=k) (by lia) hk1
   rw [← nth_eq (show 1<c1.length by lia),← nth_eq hk1,f3] at p
   have e0:nth ((c1.set 1 (nth c1 k)).set k lost) 0=nth c1 0:=by
    simp only [nth,List.getD]
    rw [List.getElem?_set_ne (by lia),List.getElem?_set_ne (by lia)]
   have e1:nth ((c1.set 1 (nth c1 k)).set k lost) 1=nth c1 k:=by
    have:((c1.set 1 (nth c1 k)).set k lost)[1]?=some (nth c1 k):=by
     rw [List.getElem?_set_ne (by lia),List.getElem?_set_self (by lia)]
    show ((c1.set 1 (nth c1 k)).set k lost).getD 1 0=nth c1 k
    rw [List.getD_eq_getElem?_getD,this]
    rfl
   refine ⟨_,p.trans p1,by rw [e0]; exact f1,by rw [e0]; exact f2,.inr ⟨?_,?_,?_,by rw [e0]; exact ht,?_⟩⟩
   ·simp only [hfit,if_true,e1]
   ·rw [e1,← f3]
    exact fun q=>by have:=nth_inj nd1 hk1 (by lia) q; lia
   ·rw [e1,e0]
    exact fun q=>by have:=nth_inj nd1 hk1 (by lia) q; lia
   ·rw [e1]
    simpa [notF] using hp
noncomputable def lvl (be:List Nat)(i:Nat):Nat:=be.countP (fun b=>decide (b≤i))
theorem lvl_all {be:List Nat}{i:Nat}(h:∀ b∈be,b≤i):lvl be i=be.length:=by
 unfold lvl; rw [List.countP_eq_length]; exact fun b hb=>decide_eq_true (h b hb)
theorem lvl_le {be:List Nat}{i:Nat}:lvl be i≤be.length:=List.countP_le_length
noncomputable def Wat (rows:List (List Int))(n:Nat)(l:Int):Prop:=∃ c,rows[n]?=some c∧(nth c 0=l∨nth c 1=l)
noncomputable def WatOk (rows:List (List Int))(wd:List (Int×List Nat)):Prop:=∀ l ns,tget wd l=some ns→ns.Nodup∧∀ n∈ns,Wat rows n l
structure Inv (N B:Nat)(cls:List (List Int))(σ:St):Prop where
 room:Room' N B σ
 known:Known N σ.row σ.kn
 bes:σ.be.Pairwise (·≤·)
 ber:∀ b∈σ.be,b≤σ.row.length
 bse:∀ b∈σ.be,b≤σ.seen
 seen:σ.seen≤σ.row.length
 hh:∀ i l,σ.row[i]?=some l→tget σ.hh l.natAbs=some (lvl σ.be i)
 rows:∀ c∈σ.rows,GoodC N c
 wat:WatOk σ.rows σ.wd
 org:∀ c∈σ.rows,∃ C∈cls++σ.lg,(∀ l∈c,l∈C)∧∀ l∈C,l∈c∨Forced (cls++σ.lg) (-l)
 low:∀ i l,σ.row[i]?=some l→lvl σ.be i=0→Forced (cls++σ.lg) l
 cause:∀ i l,σ.row[i]?=some l→0<lvl σ.be i→i∉σ.be→∃ k c,tget σ.ca l.natAbs=some (some k)∧σ.rows[k]?=some c∧l∈c∧∀ m∈c,m≠l→-m∈σ.row.take i
 why:∀ i l,σ.row[i]?=some l→tget σ.ca l.natAbs=some none∨∃ k c,tget σ.ca l.natAbs=some (some k)∧σ.rows[k]?=some c∧l∈c∧∀ m∈c,m≠l→-m∈σ.row.take i
theorem wl_of {rows:List (List Int)}{wd:List (Int×List Nat)}{B:Nat}(h:WatOk rows wd)(hb:rows.length≤B)(hn:(wd.map (·.1)).Nodup):∀ p∈wd,p.2.length≤B + 1:=by
 intro p hp
 have e:tget wd p.1=some p.2:=by
  clear h hb
  induction wd with
  | nil=>cases hp
  | cons q r ih=>
   obtain ⟨a,w⟩:=q
   simp only [List.map_cons,List.nodup_cons] at hn
   simp only [tget]
   rcases List.mem_cons.mp hp with c | c
   ·rw [c]; simp
   ·rw [if_neg (fun q=>hn.1 (List.mem_map.mpr ⟨p,c,q.symm⟩)),ih hn.2 c]
 obtain ⟨h1,h2⟩:=h _ _ e
 have h3:∀ n∈p.2,n<rows.length:=fun n hn=>by
  obtain ⟨c,hc,_⟩:=h2 n hn
  exact (List.getElem?_eq_some_iff.mp hc).1
 have h4:(p.2.map fun n:Nat=>(n:Int)).Nodup:=by
  refine List.Pairwise.map _ (fun a b hab=>?_) h1
  lia
 have:=nodup_le (xs:=(List.range rows.length).map fun n:Nat=>(n:Int)) h4 (fun l hl=>by
  obtain ⟨n,hn,rfl⟩:=List.mem_map.mp hl
  exact List.mem_map.mpr ⟨n,List.mem_range.mpr (h3 n hn),rfl⟩)
 simp at this
 lia
section
variable {N B:Nat}{cls:List (List Int)}{σ:St}
theorem Inv.fit (h:Inv N B cls σ)(hN:N≤100)(hB:B≤100000):Mini.C.fit σ=true:=h.room.fit hN hB
theorem let_ok (h:Inv N B cls σ){l:Int}{o:Option Nat}(hl:1≤l.natAbs∧l.natAbs≤N)(h1:l∉σ.row)(h2:-l∉σ.row)(hlow:σ.be=[]→Forced (cls++σ.lg) l)
  (hc:σ.be≠[]→σ.row.length∉σ.be→∃ k c,o=some k∧σ.rows[k]?=some c∧l∈c∧∀ m∈c,m≠l→-m∈σ.row)
  (hw:o=none∨∃ k c,o=some k∧σ.rows[k]?=some c∧l∈c∧∀ m∈c,m≠l→-m∈σ.row):Inv N B cls (σ.let' l o):=by
 have hk:=h.known.push hl h1 h2
 have old:∀ i x,(σ.row++[l])[i]?=some x→(i<σ.row.length∧σ.row[i]?=some x∧(l.natAbs:Int)≠x.natAbs)∨(i=σ.row.length∧x=l):=by
  intro i x e
  by_cases c:i<σ.row.length
  ·rw [List.getElem?_append_left c] at e
   refine .inl ⟨c,e,fun q=>?_⟩
   have hx:=List.mem_of_getElem? e
   have:x=l∨x = -l:=by lia
   rcases this with rfl | rfl
   ·exact h1 hx
   ·exact h2 hx
  ·have:i<(σ.row++[l]).length:=(List.getElem?_eq_some_iff.mp e).1
   have:i=σ.row.length:=by simp at this; lia
   subst this
   simp at e
   exact .inr ⟨rfl,e.symm⟩
 exact {
  room:={ h.room with
   kn:=h.room.kn.set _ (by simpa using hl.2)
   hh:=h.room.hh.set _ (by simpa using hl.2)
   ca:=h.room.ca.set _ (by simpa using hl.2)
   row:=nodup_nat hk.vars hk.rng }
  known:=hk
  bes:=h.bes
  ber:=fun b hb=>by show b≤(σ.row++[l]).length; have:=h.ber b hb; simp; lia
  bse:=h.bse
  seen:=by show σ.seen≤(σ.row++[l]).length; have:=h.seen; simp; lia
  hh:=fun i x e=>by
   show tget (tset σ.hh l.natAbs σ.be.length) x.natAbs=some (lvl σ.be i)
   rw [tget_tset]
   rcases old i x e with ⟨c,e',ne⟩ | ⟨rfl,rfl⟩
   ·rw [if_neg ne]; exact h.hh i x e'
   ·rw [if_pos rfl,lvl_all h.ber]
  rows:=h.rows
  wat:=h.wat
  org:=h.org
  low:=fun i x e h0=>by
   rcases old i x e with ⟨c,e',ne⟩ | ⟨rfl,rfl⟩
   ·exact h.low i x e' h0
   ·have h0:lvl σ.be σ.row.length=0:=h0
    rw [lvl_all h.ber] at h0
    exact hlow (List.eq_nil_of_length_eq_zero h0)
  cause:=fun i x e h0 hb=>by
   show ∃ k c,tget (tset σ.ca l.natAbs o) x.natAbs=some (some k)∧σ.rows[k]?=some c∧x∈c∧∀ m∈c,m≠x→-m∈(σ.row++[l]).take i
   rw [tget_tset]
   rcases old i x e with ⟨c,e',ne⟩ | ⟨rfl,rfl⟩
   ·rw [if_neg ne,List.take_append_of_le_length (Nat.le_of_lt c)]; exact h.cause i x e' h0 hb
   ·rw [if_pos rfl]
    have hb0:σ.be≠[]:=fun q=>by rw [show (σ.let' x o).be=σ.be from rfl,q] at h0; simp [lvl] at h0
    obtain ⟨k,c,rfl,k1,k2,k3⟩:=hc hb0 hb
    refine ⟨k,c,rfl,k1,k2,fun m hm ne=>?_⟩
    rw [List.take_left]
    exact k3 m hm ne
  why:=fun i x e=>by
   show tget (tset σ.ca l.natAbs o) x.natAbs=some none∨∃ k c,tget (tset σ.ca l.natAbs o) x.natAbs=some (some k)∧σ.rows[k]?=some c∧x∈c∧∀ m∈c,m≠x→-m∈(σ.row++[l]).take i
   rw [tget_tset]
   rcases old i x e with ⟨c,e',ne⟩ | ⟨rfl,rfl⟩
   ·rw [if_neg ne,List.take_append_of_le_length (Nat.le_of_lt c)]; exact h.why i x e'
   ·rw [if_pos rfl]
    rcases hw with rfl | ⟨k,c,rfl,k1,k2,k3⟩
    ·exact .inl rfl
    ·exact .inr ⟨k,c,rfl,k1,k2,fun m hm ne=>by rw [List.take_left]; exact k3 m hm ne⟩ }
end
end Mini.C
end
section
namespace Mini.C
open Mini
inductive Pair (c:List Int):Int→Int→Prop
 | one:Pair c (nth c 0) (nth c 1)
 | two:Pair c (nth c 1) (nth c 0)
noncomputable def Att (rows:List (List Int))(wd:List (Int×List Nat))(lost:Int)(r:List Nat):Prop:=∀ (n:Nat)(c:List Int)(w w':Int),rows[n]?=some c→Pair c w w'→n∈(tget wd w).getD []∨(w=lost∧n∈r)
noncomputable def Wch (rows:List (List Int))(be:List Nat)(row:List Int)(s:Nat):Prop:=∀ (n:Nat)(c:List Int)(w w':Int),rows[n]?=some c→Pair c w w'→∀ i:Nat,i<s→row[i]?=some (-w)→∃ j:Nat,row[j]?=some w'∧lvl be j≤lvl be i
structure Wt (σ:St)(lost:Int)(r q:List Nat)(s:Nat):Prop where
 att:Att σ.rows σ.wd lost r
 wch:Wch σ.rows σ.be σ.row s
 done:∀ (n:Nat)(c:List Int)(w':Int),σ.rows[n]?=some c→Pair c lost w'→n∈q∨w'∈σ.row
section
variable {σ:St}{lost:Int}{r q:List Nat}{s n:Nat}{c c':List Int}
theorem set_pair {rows:List (List Int)}{n':Nat}{d:List Int}{w w':Int}(hr:rows[n]?=some c)(hp:∀ w w',Pair c' w w'→Pair c w w')(e:(rows.set n c')[n']?=some d)(p:Pair d w w'):∃ d0,rows[n']?=some d0∧Pair d0 w w':=by
 by_cases z:n=n'
 ·subst z
  rw [List.getElem?_set_self (List.getElem?_eq_some_iff.mp hr).1] at e
  cases e
  exact ⟨c,hr,hp _ _ p⟩
 ·rw [List.getElem?_set_ne z] at e
  exact ⟨d,e,p⟩
theorem Wt.stay {xs:List Nat}(h:Wt σ lost (n::r) q s)(hr:σ.rows[n]?=some c)(hp:∀ w w',Pair c' w w'→Pair c w w')(hx:tget σ.wd lost=some xs):Wt ((σ.setR n c').setW (tset σ.wd lost (xs++[n]))) lost r q s where
 att:=fun n' d w w' e p=>by
  obtain ⟨d0,e0,p0⟩:=set_pair hr hp e p
  show n'∈(tget (tset σ.wd lost (xs++[n])) w).getD []∨_
  rw [tget_tset]
  by_cases z:lost=w
  ·subst z
   rw [if_pos rfl]
   rcases h.att _ _ _ _ e0 p0 with m | ⟨_,m⟩
   ·rw [hx] at m; exact .inl (List.mem_append.mpr (.inl m))
   ·rcases List.mem_cons.mp m with rfl | m
    ·exact .inl (List.mem_append.mpr (.inr (List.mem_singleton_self _)))
    ·exact .inr ⟨rfl,m⟩
  ·rw [if_neg z]
   exact .inl ((h.att _ _ _ _ e0 p0).resolve_right fun k=>z k.1.symm)
 wch:=fun n' d w w' e p=>by
  obtain ⟨d0,e0,p0⟩:=set_pair hr hp e p
  exact h.wch _ _ _ _ e0 p0
 done:=fun n' d w' e p=>by
  obtain ⟨d0,e0,p0⟩:=set_pair hr hp e p
  exact h.done _ _ _ e0 p0
theorem Wt.drop (h:Wt σ lost r (n::q) s)(hr:σ.rows[n]?=some c)(hd:∀ w',Pair c lost w'→w'∈σ.row):Wt σ lost r q s:=
 ⟨h.att,h.wch,fun n' d w' e p=>by
   rcases h.done _ _ _ e p with m | m
   ·rcases List.mem_cons.mp m with rfl | m
    ·rw [hr] at e; cases e; exact .inr (hd _ p)
    ·exact .inl m
   ·exact .inr m⟩
theorem Wt.let' {l:Int}{o:Option Nat}(h:Wt σ lost r q s)(hs:s≤σ.row.length):Wt (σ.let' l o) lost r q s where
 att:=h.att
 wch:=fun n' d w w' e p i hi ei=>by
  have ei:(σ.row++[l])[i]?=some (-w):=ei
  rw [List.getElem?_append_left (Nat.lt_of_lt_of_le hi hs)] at ei
  obtain ⟨j,ej,l⟩:=h.wch _ _ _ _ e p i hi ei
  exact ⟨j,by show (σ.row++_)[j]?=_; rw [List.getElem?_append_left (List.getElem?_eq_some_iff.mp ej).1]; exact ej,l⟩
 done:=fun n' d w' e p=>(h.done _ _ _ e p).imp id fun m=>List.mem_append.mpr (.inl m)
theorem Wt.move (h:Wt σ lost (n::r) (n::r) s)(hr:σ.rows[n]?=some c)(p0:Pair c (nth c' 0) lost)(n0:nth c' 0≠lost)(n1:nth c' 1≠lost)(n01:nth c' 1≠nth c' 0)(hl:lost∉σ.row)(h1:-(nth c' 1)∉σ.row) :
  Wt ((σ.setR n c').setW (addW σ.wd (nth c' 1) n)) lost r r s where
 att:=fun n' d w w' e p=>by
  have e:(σ.rows.set n c')[n']?=some d:=e
  show n'∈(tget (tset σ.wd (nth c' 1) ((tget σ.wd (nth c' 1)).getD []++[n])) w).getD []∨_
  rw [tget_tset]
  by_cases z:n=n'
  ·subst z
   rw [List.getElem?_set_self (List.getElem?_eq_some_iff.mp hr).1] at e
   cases e
   cases p with
   | one=>
    rw [if_neg n01]
    exact .inl ((h.att _ _ _ _ hr p0).resolve_right fun k=>n0 k.1)
   | two=>rw [if_pos rfl]; exact .inl (List.mem_append.mpr (.inr (List.mem_singleton_self _)))
  ·rw [List.getElem?_set_ne z] at e
   rcases h.att _ _ _ _ e p with m | ⟨k,m⟩
   ·by_cases y:nth c' 1=w
    ·subst y; rw [if_pos rfl]; exact .inl (List.mem_append.mpr (.inl m))
    ·rw [if_neg y]; exact .inl m
   ·exact .inr ⟨k,(List.mem_cons.mp m).resolve_left fun q=>z q.symm⟩
 wch:=fun n' d w w' e p i hi ei=>by
  have e:(σ.rows.set n c')[n']?=some d:=e
  by_cases z:n=n'
  ·subst z
   rw [List.getElem?_set_self (List.getElem?_eq_some_iff.mp hr).1] at e
   cases e
   cases p with
   | one=>
    obtain ⟨j,ej,_⟩:=h.wch _ _ _ _ hr p0 i hi ei
    exact absurd (List.mem_of_getElem? ej) hl
   | two=>exact absurd (List.mem_of_getElem? ei) h1
  ·rw [List.getElem?_set_ne z] at e
   exact h.wch _ _ _ _ e p i hi ei
 done:=fun n' d w' e p=>by
  have e:(σ.rows.set n c')[n']?=some d:=e
  by_cases z:n=n'
  ·subst z
   rw [List.getElem?_set_self (List.getElem?_eq_some_iff.mp hr).1] at e
   cases e
   generalize hlo:lost=lo at p
   cases p with
   | one=>exact absurd hlo.symm n0
   | two=>exact absurd hlo.symm n1
  ·rw [List.getElem?_set_ne z] at e
   exact (h.done _ _ _ e p).imp (fun m=>(List.mem_cons.mp m).resolve_left fun q=>z q.symm) id
theorem Wt.back {q':List Nat}{xs:List Nat}(h:Wt σ lost r q s)(hx:tget σ.wd lost=some xs)(ha:q'=xs++r):Wt (σ.setW (tset σ.wd lost q')) lost [] q s:=
 ⟨fun n' d w w' e p=>by
   show n'∈(tget (tset σ.wd lost q') w).getD []∨_
   rw [tget_tset,ha]
   rcases h.att _ _ _ _ e p with m | ⟨k,m⟩
   ·by_cases y:lost=w
    ·subst y; rw [hx] at m; rw [if_pos rfl]; exact .inl (List.mem_append.mpr (.inl m))
    ·rw [if_neg y]; exact .inl m
   ·subst k; rw [if_pos rfl]; exact .inl (List.mem_append.mpr (.inr m)),h.wch,h.done⟩
structure Full (σ:St)(s:Nat):Prop where
 att:∀ lost,Att σ.rows σ.wd lost []
 wch:Wch σ.rows σ.be σ.row s
theorem Wt.full {σ:St}(h:Wt σ lost [] q s):Full σ s:=⟨fun l n c w w' e p=>.inl ((h.att n c w w' e p).resolve_right fun k=>absurd k.2 List.not_mem_nil),h.wch⟩
theorem Wt.more {σ:St}(h:Wt σ lost [] [] s)(hl:σ.row[s]?=some (-lost))(hb:∀ b∈σ.be,b≤s):Full σ (s + 1):=by
 refine ⟨h.full.att,fun n c w w' e p i hi ei=>?_⟩
 rcases Nat.lt_or_ge i s with z | z
 ·exact h.wch n c w w' e p i z ei
 ·obtain rfl:i=s:=Nat.le_antisymm (Nat.le_of_lt_succ hi) z
  have ew:w=lost:=Int.neg_inj.mp (Option.some.inj (ei.symm.trans hl))
  subst ew
  obtain ⟨j,ej⟩:=List.mem_iff_getElem?.mp ((h.done n c w' e p).resolve_left List.not_mem_nil)
  exact ⟨j,ej,by rw [lvl_all hb]; exact lvl_le⟩
end
end Mini.C
end
section
namespace Mini.C
open Mini
section
variable {N B:Nat}{cls:List (List Int)}{σ:St}
theorem Wat.set {rows:List (List Int)}{n n':Nat}{c':List Int}{l:Int}(h:Wat rows n' l)(hne:n'≠n):Wat (rows.set n c') n' l:=by
 obtain ⟨c,e,q⟩:=h
 exact ⟨c,by rw [List.getElem?_set_ne (Ne.symm hne)]; exact e,q⟩
theorem Wat.here {rows:List (List Int)}{n:Nat}{c c':List Int}{l:Int}(e:rows[n]?=some c)(q:nth c' 0=l∨nth c' 1=l):Wat (rows.set n c') n l:=
 ⟨c',List.getElem?_set_self (List.getElem?_eq_some_iff.mp e).1,q⟩
theorem rows_ok (h:Inv N B cls σ){n:Nat}{c c':List Int}(hr:σ.rows[n]?=some c)(p:c'.Perm c){wd:List (Int×List Nat)}(hw:WatOk (σ.rows.set n c') wd)(hk:Keyed N wd):Inv N B cls ((σ.setR n c').setW wd):=by
 have hn:=(List.getElem?_eq_some_iff.mp hr).1
 have hmem:c∈σ.rows:=List.mem_of_getElem? hr
 have hlen:(σ.rows.set n c').length≤B:=by rw [List.length_set]; exact h.room.rows
 have hset:∀ x∈σ.rows.set n c',x=c'∨x∈σ.rows:=fun x hx=>(List.mem_or_eq_of_mem_set hx).symm
 exact {
  room:={ h.room with
   wd:=hk
   rows:=hlen
   wl:=wl_of hw hlen hk.nodup }
  known:=h.known
  bes:=h.bes
  ber:=h.ber
  bse:=h.bse
  seen:=h.seen
  hh:=h.hh
  rows:=fun x hx=>by
   rcases hset x hx with rfl | q
   ·exact (h.rows c hmem).perm p
   ·exact h.rows x q
  wat:=hw
  org:=fun x hx=>by
   rcases hset x hx with rfl | q
   ·obtain ⟨C,hC,a,b⟩:=h.org c hmem
    exact ⟨C,hC,fun l hl=>a l (p.mem_iff.mp hl),fun l hl=>(b l hl).imp (fun q=>p.mem_iff.mpr q) id⟩
   ·exact h.org x q
  low:=h.low
  cause:=fun i l e h0 hb=>by
   obtain ⟨k,d,k1,k2,k3,k4⟩:=h.cause i l e h0 hb
   show ∃ k c,tget σ.ca l.natAbs=some (some k)∧(σ.rows.set n c')[k]?=some c∧l∈c∧∀ m∈c,m≠l→-m∈σ.row.take i
   by_cases q:n=k
   ·subst q
    rw [hr] at k2
    cases k2
    exact ⟨n,c',k1,List.getElem?_set_self hn,p.mem_iff.mpr k3,fun m hm=>k4 m (p.mem_iff.mp hm)⟩
   ·exact ⟨k,d,k1,by rw [List.getElem?_set_ne q]; exact k2,k3,k4⟩
  why:=fun i l e=>by
   refine (h.why i l e).imp id fun ⟨k,d,k1,k2,k3,k4⟩=>?_
   show ∃ k c,tget σ.ca l.natAbs=some (some k)∧(σ.rows.set n c')[k]?=some c∧l∈c∧∀ m∈c,m≠l→-m∈σ.row.take i
   by_cases q:n=k
   ·subst q
    rw [hr] at k2
    cases k2
    exact ⟨n,c',k1,List.getElem?_set_self hn,p.mem_iff.mpr k3,fun m hm=>k4 m (p.mem_iff.mp hm)⟩
   ·exact ⟨k,d,k1,by rw [List.getElem?_set_ne q]; exact k2,k3,k4⟩ }
theorem wd_ok (h:Inv N B cls σ){wd:List (Int×List Nat)}(hw:WatOk σ.rows wd)(hk:Keyed N wd):Inv N B cls (σ.setW wd):=
 { h with
  room:={ h.room with
   wd:=hk
   wl:=wl_of hw h.room.rows hk.nodup }
  wat:=hw }
structure Kin (σ σ':St):Prop where
 be:σ'.be=σ.be
 lg:σ'.lg=σ.lg
 ht:σ'.ht=σ.ht
 gain:σ'.gain=σ.gain
 ref:σ'.ref=σ.ref
 bl:σ'.bl=σ.bl
 cl:σ'.cl=σ.cl
 lim:σ'.lim=σ.lim
 li:σ'.li=σ.li
 row:∃ ext,σ'.row=σ.row++ext
 rows:σ'.rows.length=σ.rows.length
 prm:∀ (n:Nat)(c:List Int),σ.rows[n]?=some c→∃ c',σ'.rows[n]?=some c'∧c'.Perm c
 cas:∀ l∈σ.row,tget σ'.ca l.natAbs=tget σ.ca l.natAbs
 new:∀ l∈σ'.row,l∈σ.row∨∃ k,tget σ'.ca l.natAbs=some (some k)
theorem Kin.refl:Kin σ σ:=⟨rfl,rfl,rfl,rfl,rfl,rfl,rfl,rfl,rfl,⟨[],by simp⟩,rfl,fun n c e=>⟨c,e,.refl _⟩,fun uu uu=>rfl,fun uu m=>.inl m⟩
theorem set_prm {rows:List (List Int)}{n:Nat}{c c':List Int}(hc:rows[n]?=some c)(p:c'.Perm c)(m:Nat)(d:List Int)(e:rows[m]?=some d):∃ d',(rows.set n c')[m]?=some d'∧d'.Perm d:=by
 by_cases q:n=m
 ·subst q
  rw [hc] at e
  cases e
  exact ⟨c',List.getElem?_set_self (List.getElem?_eq_some_iff.mp hc).1,p⟩
 ·exact ⟨d,by rw [List.getElem?_set_ne q]; exact e,.refl _⟩
theorem Kin.trans {σ σ' σ'':St}(a:Kin σ σ')(b:Kin σ' σ''):Kin σ σ'':=by
 obtain ⟨x,hx⟩:=a.row
 obtain ⟨y,hy⟩:=b.row
 exact ⟨b.be.trans a.be,b.lg.trans a.lg,b.ht.trans a.ht,b.gain.trans a.gain,b.ref.trans a.ref,b.bl.trans a.bl,b.cl.trans a.cl,b.lim.trans a.lim,b.li.trans a.li,⟨x++y,by rw [hy,hx,List.append_assoc]⟩,b.rows.trans a.rows,fun n c e=>by
  obtain ⟨c1,e1,p1⟩:=a.prm n c e
  obtain ⟨c2,e2,p2⟩:=b.prm n c1 e1
  exact ⟨c2,e2,p2.trans p1⟩,fun l m=>(b.cas l (hx▸List.mem_append.mpr (.inl m))).trans (a.cas l m),fun l m=>(b.new l m).elim (fun m=>(a.new l m).imp id fun ⟨k,e⟩=>⟨k,(b.cas l m).trans e⟩) .inr⟩
structure Mid (N B:Nat)(cls:List (List Int))(σ:St)(lost:Int)(r:List Nat)(s:Nat):Prop where
 inv:Inv N B cls σ
 neg:-lost∈σ.row
 held:∃ xs,tget σ.wd lost=some xs∧∀ n∈r,n∉xs
 nd:r.Nodup
 wat:∀ n∈r,Wat σ.rows n lost
 wt:Wt σ lost r r s
 sle:s≤σ.row.length
theorem other {lost:Int}{c' row:List Int}(f1:nth c' 0≠lost)(m:nth c' 0∈row)(w':Int)(p:Pair c' lost w'):w'∈row:=by
 generalize hlo:lost=lo at p
 cases p with
 | one=>exact absurd hlo.symm f1
 | two=>exact m
theorem abs_two {a b:Int}(h:(a.natAbs:Int)=b.natAbs):b=a∨b = -a:=Int.natAbs_eq_natAbs_iff.mp (Int.ofNat.inj h).symm
structure Swp (c c':List Int)(lost:Int):Prop where
 hw:nth c 0=lost∨nth c 1=lost
 f0:nth c' 0=nth c 0∨nth c' 0=nth c 1
 f1:nth c' 0≠lost
section
variable {c c':List Int}{lost:Int}{n s:Nat}{xs r:List Nat}{rows:List (List Int)}{wd:List (Int×List Nat)}
theorem Swp.two (S:Swp c c' lost):(nth c 0=lost∧nth c' 0=nth c 1)∨(nth c 1=lost∧nth c' 0=nth c 0):=by
 rcases S.hw with a | a
 ·exact .inl ⟨a,S.f0.resolve_left fun b=>S.f1 (b.trans a)⟩
 ·exact .inr ⟨a,S.f0.resolve_right fun b=>S.f1 (b.trans a)⟩
theorem Swp.pair (S:Swp c c' lost):Pair c (nth c' 0) lost:=by
 rcases S.two with ⟨a,b⟩ | ⟨a,b⟩
 ·rw [b,← a]; exact .two
 ·rw [b,← a]; exact .one
theorem Swp.pairs (S:Swp c c' lost)(f3:nth c' 1=lost)(w w':Int)(p:Pair c' w w'):Pair c w w':=by
 cases p with
 | one=>rw [f3]; exact S.pair
 | two=>
  rw [f3]
  rcases S.two with ⟨a,b⟩ | ⟨a,b⟩
  ·rw [b,← a]; exact .one
  ·rw [b,← a]; exact .two
theorem Swp.stays (S:Swp c c' lost){l:Int}(ne:l≠lost)(d:nth c 0=l∨nth c 1=l):nth c' 0=l:=by
 rcases S.two with ⟨a,b⟩ | ⟨a,b⟩
 ·exact b.trans (d.resolve_left fun q=>ne (q.symm.trans a))
 ·exact b.trans (d.resolve_right fun q=>ne (q.symm.trans a))
theorem Swp.first (S:Swp c c' lost)(W:WatOk rows wd)(hc:rows[n]?=some c){l:Int}{ns:List Nat}(e:tget wd l=some ns)(ne:l≠lost)(m:n∈ns):nth c' 0=l:=by
 obtain ⟨c2,e2,q⟩:=(W l ns e).2 n m
 rw [hc] at e2
 exact S.stays ne (Option.some.inj e2▸q)
theorem Swp.old (S:Swp c c' lost)(W:WatOk rows wd)(hc:rows[n]?=some c){l:Int}{ns:List Nat}(e:tget wd l=some ns)(ne:l≠lost)(n':Nat)(m:n'∈ns):Wat (rows.set n c') n' l:=by
 by_cases q:n'=n
 ·subst q; exact .here hc (.inl (S.first W hc e ne m))
 ·exact ((W l ns e).2 n' m).set q
theorem Swp.wat (S:Swp c c' lost)(W:WatOk rows wd)(hc:rows[n]?=some c)(hxs:tget wd lost=some xs)(hnx:n∉xs):WatOk (rows.set n c') wd:=fun l ns e=>by
 refine ⟨(W l ns e).1,fun n' m=>?_⟩
 by_cases q:l=lost
 ·subst q
  rw [hxs] at e
  cases e
  exact ((W l xs hxs).2 n' m).set fun q=>hnx (q▸m)
 ·exact S.old W hc e q n' m
theorem wat_more {l0:Int}{ys:List Nat}(W:WatOk rows wd)(e0:(tget wd l0).getD []=ys)(nd:r.Nodup)(dis:∀ n∈r,n∉ys)(rest:∀ n∈r,Wat rows n l0):WatOk rows (tset wd l0 (ys++r)):=fun l ns e=>by
 rw [tget_tset] at e
 split at e
 ·rename_i q
  subst q
  cases e
  have old:ys.Nodup∧∀ n∈ys,Wat rows n l0:=by
   cases eg:tget wd l0 with
   | none=>rw [eg] at e0; subst e0; exact ⟨List.nodup_nil,fun uu h=>absurd h List.not_mem_nil⟩
   | some zs=>rw [eg] at e0; subst e0; exact W _ _ eg
  exact ⟨List.nodup_append.mpr ⟨old.1,nd,fun a ha b hb q=>dis b hb (q▸ha)⟩,fun n m=>(List.mem_append.mp m).elim (old.2 n) (rest n)⟩
 ·exact W l ns e
noncomputable def Done (N B:Nat)(cls:List (List Int))(lost:Int)(s:Nat)(σ:St)(o:Option (Option Nat×St)):Prop:=∃ res σ',o=some (res,σ')∧Inv N B cls σ'∧Kin σ σ'∧σ'.seen=σ.seen ∧
  (∀ n,res=some n→∃ c,σ'.rows[n]?=some c∧lost∈c∧∀ m∈c,-m∈σ'.row)∧∃ q,Wt σ' lost [] q s∧(res=none→q=[])
theorem Done.from {σ1:St}{o:Option (Option Nat×St)}(k:Kin σ σ1)(e:σ1.seen=σ.seen)(D:Done N B cls lost s σ1 o):Done N B cls lost s σ o:=by
 obtain ⟨res,σ',e1,e2,e3,e4,e5⟩:=D
 exact ⟨res,σ',e1,e2,k.trans e3,e4.trans e,e5⟩
theorem Kin.watch (hc:σ.rows[n]?=some c)(p:c'.Perm c):Kin σ ((σ.setR n c').setW wd):=⟨rfl,rfl,rfl,rfl,rfl,rfl,rfl,rfl,rfl,⟨[],(List.append_nil _).symm⟩,List.length_set,set_prm hc p,fun uu uu=>rfl,fun uu m=>.inl m⟩
theorem Kin.wds:Kin σ (σ.setW wd):=⟨rfl,rfl,rfl,rfl,rfl,rfl,rfl,rfl,rfl,⟨[],(List.append_nil _).symm⟩,rfl,fun n c e=>⟨c,e,.refl _⟩,fun uu uu=>rfl,fun uu m=>.inl m⟩
theorem Kin.lets {l:Int}(u1:l∉σ.row)(u2:-l∉σ.row):Kin σ (σ.let' l (some n)):=⟨rfl,rfl,rfl,rfl,rfl,rfl,rfl,rfl,rfl,⟨[l],rfl⟩,rfl,fun n c e=>⟨c,e,.refl _⟩,fun x m=>tget_tset.trans (if_neg fun q=>by
  rcases abs_two q with q | q
  ·exact u1 (q▸m)
  ·exact u2 (q▸m)),fun x m=>(List.mem_append.mp m).imp id fun m=>⟨n,by rw [List.mem_singleton.mp m]; exact tget_tset.trans (if_pos rfl)⟩⟩
end
theorem lit_nz {m:Int}{k:Nat}(h:1≤m.natAbs∧m.natAbs≤k):m≠0:=fun q=>by subst q; exact absurd h.1 (by decide)
noncomputable abbrev stS (σ:St)(n:Nat)(c':List Int)(lost:Int)(xs:List Nat):St:=(σ.setR n c').setW (tset σ.wd lost (xs++[n]))
section
variable {c c':List Int}{lost:Int}{n s:Nat}{xs r:List Nat}
structure Stayed (N B:Nat)(cls:List (List Int))(σ:St)(lost:Int)(n:Nat)(r:List Nat)(s:Nat)(c':List Int)(xs:List Nat):Prop where
 inv:Inv N B cls (stS σ n c' lost xs)
 kin:Kin σ (stS σ n c' lost xs)
 neg:-lost∈σ.row
 sle:s≤σ.row.length
 row:(stS σ n c' lost xs).rows[n]?=some c'
 get:tget (stS σ n c' lost xs).wd lost=some (xs++[n])
 nd:r.Nodup
 dis:∀ m∈r,m∉xs++[n]
 rest:∀ m∈r,Wat (stS σ n c' lost xs).rows m lost
 wt:Wt (stS σ n c' lost xs) lost r (n::r) s
 f1:nth c' 0≠lost
 f3:nth c' 1=lost
theorem stayed (M:Mid N B cls σ lost (n::r) s)(S:Swp c c' lost)(hc:σ.rows[n]?=some c)(p:c'.Perm c)(f3:nth c' 1=lost)(hxs:tget σ.wd lost=some xs)(hdis:∀ m∈n::r,m∉xs):Stayed N B cls σ lost n r s c' xs:=by
 have I:=M.inv
 obtain ⟨nd1,nd2⟩:=List.nodup_cons.mp M.nd
 have hnx:=hdis n (.head _)
 have hl:lost.natAbs≤N:=Int.natAbs_neg lost▸(I.known.rng _ M.neg).2
 exact {
  inv:=rows_ok I hc p (wat_more (S.wat I.wat hc hxs hnx) (by rw [hxs]; rfl) (List.nodup_cons.mpr ⟨List.not_mem_nil,List.nodup_nil⟩) (fun m hm=>List.mem_singleton.mp hm▸hnx) (fun m hm=>by rw [List.mem_singleton.mp hm]; exact .here hc (.inr f3))) (I.room.wd.set _ hl)
  kin:=.watch hc p
  neg:=M.neg
  sle:=M.sle
  row:=List.getElem?_set_self (List.getElem?_eq_some_iff.mp hc).1
  get:=tget_tset.trans (if_pos rfl)
  nd:=nd2
  dis:=fun m hm q=>(List.mem_append.mp q).elim (hdis m (.tail _ hm)) fun q=>nd1 (List.mem_singleton.mp q▸hm)
  rest:=fun m hm=>(M.wat m (.tail _ hm)).set fun q=>nd1 (q▸hm)
  wt:=M.wt.stay hc (S.pairs f3) hxs
  f1:=S.f1
  f3:=f3 }
theorem Stayed.mid (T:Stayed N B cls σ lost n r s c' xs)(m:nth c' 0∈σ.row):Mid N B cls (stS σ n c' lost xs) lost r s:=
 ⟨T.inv,T.neg,⟨_,T.get,T.dis⟩,T.nd,T.rest,T.wt.drop (c:=c') T.row (other T.f1 m),T.sle⟩
theorem others (K:Known N σ.row σ.kn)(neg:-lost∈σ.row)(rng:∀ m∈c',1≤m.natAbs∧m.natAbs≤N)(q:∀ m∈c',m≠nth c' 0→m≠lost→σ.says m=some false)(m:Int)(hm:m∈c')(q0:m≠nth c' 0):-m∈σ.row:=by
 by_cases q1:m=lost
 ·rw [q1]; exact neg
 ·exact (K.says (lit_nz (rng m hm))).2.mp (q m hm q0 q1)
theorem Stayed.clash (T:Stayed N B cls σ lost n r s c' xs)(hm:lost∈c')(all:∀ m∈c',-m∈σ.row):Done N B cls lost s σ (some (some n,(stS σ n c' lost xs).stay lost r)):=by
 have g:(tget (stS σ n c' lost xs).wd lost).getD []=xs++[n]:=by rw [T.get]; rfl
 have hl:lost.natAbs≤N:=Int.natAbs_neg lost▸(T.inv.known.rng _ T.neg).2
 unfold St.stay
 rw [g]
 refine ⟨_,_,rfl,wd_ok T.inv (wat_more T.inv.wat g T.nd T.dis T.rest) (T.inv.room.wd.set _ hl),T.kin.trans .wds,rfl,fun n' e=>?_,n::r,T.wt.back T.get rfl,nofun⟩
 cases e
 exact ⟨c',T.row,hm,all⟩
theorem Stayed.lets (T:Stayed N B cls σ lost n r s c' xs)(rng:∀ m∈c',1≤m.natAbs∧m.natAbs≤N)(g0:nth c' 0∈c')(u1:nth c' 0∉σ.row)(u2:-(nth c' 0)∉σ.row)(oth:∀ m∈c',m≠nth c' 0→-m∈σ.row) :
  Mid N B cls ((stS σ n c' lost xs).let' (nth c' 0) (some n)) lost r s:=by
 have I:=T.inv
 refine ⟨let_ok I (rng _ g0) u1 u2 (fun hb U su=>?_) (fun uu uu=>⟨n,c',rfl,T.row,g0,oth⟩) (.inr ⟨n,c',rfl,T.row,g0,oth⟩),List.mem_append.mpr (.inl T.neg),⟨_,T.get,T.dis⟩,T.nd,T.rest,
  (T.wt.let' T.sle).drop (c:=c') T.row (other T.f1 (List.mem_append.mpr (.inr (List.mem_singleton_self _)))),by show s≤(σ.row++_).length; rw [List.length_append]; exact Nat.le_trans T.sle (Nat.le_add_right ..)⟩
 obtain ⟨C,hC,a,b⟩:=I.org c' (List.mem_of_getElem? T.row)
 refine (su C hC).2 _ (a _ g0) fun l hl ne=>?_
 rcases b l hl with q | q
 ·obtain ⟨i,hi⟩:=List.mem_iff_getElem?.mp (oth l q ne)
  exact I.low i _ hi (by rw [hb]; rfl) U su
 ·exact q U su
theorem gone (M:Mid N B cls σ lost (n::r) s)(S:Swp c c' lost)(hc:σ.rows[n]?=some c)(p:c'.Perm c)(f3:nth c' 1≠lost)(f4:nth c' 1≠nth c' 0)(rng:∀ m∈c',1≤m.natAbs∧m.natAbs≤N)(g1:nth c' 1∈c')(f6:σ.says (nth c' 1)≠some false) :
  Mid N B cls ((σ.setR n c').setW (addW σ.wd (nth c' 1) n)) lost r s:=by
 have I:=M.inv
 obtain ⟨nd1,nd2⟩:=List.nodup_cons.mp M.nd
 obtain ⟨xs,hxs,hdis⟩:=M.held
 have W:=S.wat I.wat hc hxs (hdis n (.head _))
 have no:n∉(tget σ.wd (nth c' 1)).getD []:=fun q=>by
  cases e:tget σ.wd (nth c' 1) with
  | none=>rw [e] at q; exact absurd q List.not_mem_nil
  | some ns=>rw [e] at q; exact f4 (S.first I.wat hc e f3 q).symm
 exact {
  inv:=rows_ok I hc p (wat_more W rfl (List.nodup_cons.mpr ⟨List.not_mem_nil,List.nodup_nil⟩) (fun m hm=>List.mem_singleton.mp hm▸no) (fun m hm=>by rw [List.mem_singleton.mp hm]; exact .here hc (.inr rfl))) (I.room.wd.set _ (rng _ g1).2)
  neg:=M.neg
  held:=⟨xs,tget_tset.trans ((if_neg f3).trans hxs),fun m hm=>hdis m (.tail _ hm)⟩
  nd:=nd2
  wat:=fun m hm=>(M.wat m (.tail _ hm)).set fun q=>nd1 (q▸hm)
  wt:=M.wt.move hc S.pair S.f1 f3 f4 (fun m=>I.known.not_both m M.neg) fun m=>f6 ((I.known.says (lit_nz (rng _ g1))).2.mpr m)
  sle:=M.sle }
theorem spreadIn_ok (hN:N≤100)(hB:B≤100000){lost:Int}{s:Nat}{r:List Nat}:∀ {σ:St},Mid N B cls σ lost r s→Done N B cls lost s σ (spreadIn lost r σ):=by
 induction r with
 | nil=>exact fun M=>⟨none,_,rfl,M.inv,.refl,rfl,nofun,[],M.wt,fun uu=>rfl⟩
 | cons n r ih=>
  intro σ M
  have I:=M.inv
  obtain ⟨c,hc,hw⟩:=M.wat n (.head _)
  have G:=I.rows c (List.mem_of_getElem? hc)
  obtain ⟨c',p,f0,f1,f2⟩:=moved_ok (σ:=σ) hc G.two (by have:=G.len; unfold fitN; lia) G.nodup hw (I.fit hN hB)
  have G':=G.perm p
  have S:Swp c c' lost:=⟨hw,f0,f1⟩
  have g0:=nth_mem (c:=c') (i:=0) (Nat.lt_of_lt_of_le (by decide) G'.two)
  have g1:=nth_mem (c:=c') (i:=1) G'.two
  rcases f2 with ⟨em,f3,f4⟩ | ⟨em,f3,f4,f5,f6⟩
  ·obtain ⟨xs,hxs,hdis⟩:=M.held
   have T:=stayed M S hc p f3 hxs hdis
   have es:(σ.setR n c').stay lost [n]=stS σ n c' lost xs:=by
    unfold St.stay
    show (σ.setR n c').setW (tset σ.wd lost ((tget σ.wd lost).getD []++[n]))=_
    rw [hxs]; rfl
   have ef:Mini.C.fit (σ.setR n c')=true:=(rows_ok I hc p (S.wat I.wat hc hxs (hdis n (.head _))) I.room.wd).fit hN hB
   have go:spreadIn lost (n::r) σ=match σ.says (nth c' 0) with
     | some false=>some (some n,(stS σ n c' lost xs).stay lost r)
     | some true=>spreadIn lost r (stS σ n c' lost xs)
     | none=>if fit (stS σ n c' lost xs) then spreadIn lost r ((stS σ n c' lost xs).let' (nth c' 0) (some n)) else none:=by
    show (match σ.moved n lost with | none=>none | some (true,σ1)=>spreadIn lost r σ1 | some (false,σ1)=>_)=_
    rw [em]
    show (if fit (σ.setR n c')=false then none else _)=_
    rw [if_neg (by rw [ef]; decide)]
    show (match (σ.rows.set n c')[n]? with | none=>none | some c=>_)=_
    rw [show (σ.rows.set n c')[n]?=some c' from T.row]
    show (if c'.length=0 then none else _)=_
    rw [if_neg (Nat.ne_of_gt (Nat.lt_of_lt_of_le (by decide) G'.two)),es]
    rfl
   rw [go]
   cases eo:σ.says (nth c' 0) with
   | some b=>
    cases b with
    | true=>exact .from T.kin rfl (ih (T.mid ((I.known.says (lit_nz (G'.rng _ g0))).1.mp eo)))
    | false=>
     refine T.clash (f3▸g1) fun m hm=>?_
     by_cases q0:m=nth c' 0
     ·rw [q0]; exact (I.known.says (lit_nz (G'.rng _ g0))).2.mp eo
     ·exact others I.known M.neg G'.rng (f4.resolve_left (by rw [eo]; nofun)) m hm q0
   | none=>
    obtain ⟨u1,u2⟩:=(I.known.says_none (lit_nz (G'.rng _ g0))).mp eo
    show Done _ _ _ _ _ _ (if fit (stS σ n c' lost xs) then _ else none)
    rw [if_pos (T.inv.fit hN hB)]
    exact .from (T.kin.trans (.lets u1 u2)) rfl (ih (T.lets G'.rng g0 u1 u2 (others I.known M.neg G'.rng (f4.resolve_left (by rw [eo]; nofun)))))
  ·have go:spreadIn lost (n::r) σ=spreadIn lost r ((σ.setR n c').setW (addW σ.wd (nth c' 1) n)):=by
    show (match σ.moved n lost with | none=>none | some (true,σ1)=>spreadIn lost r σ1 | some (false,σ1)=>_)=_
    rw [em]
   rw [go]
   exact .from (.watch hc p) rfl (ih (gone M S hc p f3 f4 G'.rng g1 f6))
end
theorem round_ok (h:Inv N B cls σ)(F:Full σ σ.seen)(hs:σ.seen<σ.row.length):Mid N B cls (σ.round (-(nth σ.row σ.seen))) (-(nth σ.row σ.seen)) ((tget σ.wd (-(nth σ.row σ.seen))).getD []) σ.seen:=by
 have hmem:=nth_mem hs
 generalize hl:-(nth σ.row σ.seen)=lost
 have hm:-lost∈σ.row:=by rw [← hl]; simpa using hmem
 have hlost:lost.natAbs≤N:=by have:=(h.known.rng _ hm).2; simpa using this
 have hnone:tget (tdel σ.wd lost) lost=none:=by rw [tget_tdel h.room.wd.nodup,if_pos rfl]
 have hK:Keyed N (tdel σ.wd lost++[(lost,([]:List Nat))]):=h.room.wd.del.push hlost hnone
 have hget:∀ l,tget (tdel σ.wd lost++[(lost,([]:List Nat))]) l=if lost=l then some [] else tget σ.wd l:=by
  intro l
  rw [tget_append,tget_tdel h.room.wd.nodup]
  by_cases c:lost=l
  ·simp [c]
  ·simp only [if_neg c]
   cases tget σ.wd l <;> rfl
 have hW:WatOk σ.rows (tdel σ.wd lost++[(lost,([]:List Nat))]):=by
  intro l ns e
  rw [hget] at e
  split at e
  ·cases e; exact ⟨by simp,by simp⟩
  ·exact h.wat l ns e
 have I2:=wd_ok h hW hK
 have I3:Inv N B cls (σ.round lost):={ I2 with
  room:=⟨I2.room.kn,I2.room.hh,I2.room.ca,I2.room.li,I2.room.ht,I2.room.wd,I2.room.row,I2.room.be,I2.room.rows,I2.room.lg,I2.room.wl⟩
  bse:=fun b hb=>Nat.le_succ_of_le (h.bse b hb)
  seen:=hs }
 refine ⟨I3,hm,⟨[],by show tget (tdel σ.wd lost++[(lost,[])]) lost=_; rw [hget,if_pos rfl],by simp⟩,?_,?_,⟨fun n c w w' e p=>?_,F.wch,fun n c w' e p=>.inl ((F.att lost n c _ _ e p).resolve_right fun k=>absurd k.2 List.not_mem_nil)⟩,h.seen⟩
 ·cases e:tget σ.wd lost with
  | none=>simp
  | some ns=>exact (h.wat _ _ e).1
 ·cases e:tget σ.wd lost with
  | none=>simp
  | some ns=>exact (h.wat _ _ e).2
 ·have m:=(F.att lost n c w w' e p).resolve_right fun k=>absurd k.2 List.not_mem_nil
  show n∈(tget (tdel σ.wd lost++[(lost,([]:List Nat))]) w).getD []∨_
  rw [hget]
  by_cases z:lost=w
  ·subst z; exact .inr ⟨rfl,m⟩
  ·rw [if_neg z]; exact .inl m
theorem spreadF_ok (hN:N≤100)(hB:B≤100000):∀ {k:Nat}{σ:St},Inv N B cls σ→Full σ σ.seen→N≤k + σ.seen→∃ r σ',spreadF k σ=some (r,σ')∧Inv N B cls σ'∧Kin σ σ'∧(∃ s,Full σ' s∧(∀ b∈σ'.be,b≤s)∧(r = -1→s=σ'.seen)) ∧
  ((r = -1∧σ'.seen=σ'.row.length)∨∃ n:Nat,r=n∧∃ c,σ'.rows[n]?=some c∧(∀ m∈c,-m∈σ'.row)∧∃ m∈c,∃ i,σ'.row[i]?=some (-m)∧∀ b∈σ'.be,b≤i)
 | 0,σ,I,F,hk=>by
  have:=I.room.row
  have:=I.seen
  exact ⟨-1,σ,by unfold spreadF; rw [if_pos (by lia)],I,.refl,⟨_,F,I.bse,fun uu=>rfl⟩,.inl ⟨rfl,by lia⟩⟩
 | k + 1,σ,I,F,hk=>by
  by_cases hs:σ.row.length≤σ.seen
  ·have:=I.seen
   exact ⟨-1,σ,by unfold spreadF; rw [if_pos hs],I,.refl,⟨_,F,I.bse,fun uu=>rfl⟩,.inl ⟨rfl,by lia⟩⟩
  ·have hs':σ.seen<σ.row.length:=by lia
   have M:=round_ok I F hs'
   obtain ⟨res,σ1,e1,e2,e3,e4,e5,q,W,eq⟩:=spreadIn_ok hN hB M
   have kin1:Kin σ σ1:=Kin.trans (σ':=σ.round (-(nth σ.row σ.seen))) ⟨rfl,rfl,rfl,rfl,rfl,rfl,rfl,rfl,rfl,⟨[],by simp [St.round]⟩,rfl,fun n c e=>⟨c,e,.refl _⟩,fun uu uu=>rfl,fun uu m=>.inl m⟩ e3
   unfold spreadF
   rw [if_neg hs,if_neg (by rw [I.fit hN hB]; simp),e1]
   cases res with
   | some n=>
    refine ⟨n,σ1,rfl,e2,kin1,⟨σ.seen,W.full,fun b hb=>by rw [kin1.be] at hb; exact I.bse b hb,fun q=>by lia⟩,.inr ⟨n,rfl,?_⟩⟩
    obtain ⟨c,c1,c2,c3⟩:=e5 n rfl
    refine ⟨c,c1,c3,_,c2,σ.seen,?_,fun b hb=>?_⟩
    ·obtain ⟨ext,hx⟩:=kin1.row
     rw [hx,List.getElem?_append_left hs',getD_get hs']
     simp
    ·rw [kin1.be] at hb
     exact I.bse b hb
   | none=>
    have F1:Full σ1 (σ.seen + 1):=by
     rw [eq rfl] at W
     refine W.more ?_ fun b hb=>by rw [kin1.be] at hb; exact I.bse b hb
     obtain ⟨ext,hx⟩:=kin1.row
     rw [hx,List.getElem?_append_left hs',getD_get hs']
     simp
    obtain ⟨r,σ',g1,g2,g3,g4⟩:=spreadF_ok hN hB (k:=k) (σ:=σ1) e2 (by rw [e4]; exact F1) (by rw [e4]; show N≤k + (σ.seen + 1); lia)
    exact ⟨r,σ',g1,g2,kin1.trans g3,g4⟩
end
end Mini.C
end
section
namespace Mini.C
open Mini
section
variable {N B:Nat}{cls:List (List Int)}{σ:St}{H:Int}
theorem Inv.more (h:Inv N B cls σ){cls':List (List Int)}(hc:∀ C∈cls,C∈cls'):Inv N B cls' σ:=by
 have hb:∀ C∈cls++σ.lg,C∈cls'++σ.lg:=fun C hC=>by
  rcases List.mem_append.mp hC with q | q
  ·exact List.mem_append.mpr (.inl (hc C q))
  ·exact List.mem_append.mpr (.inr q)
 exact { h with
  org:=fun c hm=>by
   obtain ⟨C,hC,a,b⟩:=h.org c hm
   exact ⟨C,hb C hC,a,fun l hl=>(b l hl).imp id fun q=>q.more hb⟩
  low:=fun i l e h0=>(h.low i l e h0).more hb }
theorem lvl_cut {be:List Nat}{H n i:Nat}(hs:be.Pairwise (·≤·))(hH:be[H]?=some n)(hi:i<n):lvl (be.take H) i=lvl be i:=by
 have e:be=be.take H++be.drop H:=(List.take_append_drop H be).symm
 have hl:=(List.getElem?_eq_some_iff.mp hH).1
 have hd:be.drop H=n::be.drop (H + 1):=by
  rw [List.drop_eq_getElem_cons hl]
  have:=(List.getElem?_eq_some_iff.mp hH).2
  rw [this]
 have hz:(be.drop H).countP (fun b=>decide (b≤i))=0:=by
  rw [List.countP_eq_zero]
  intro b hb
  rw [e,List.pairwise_append] at hs
  rw [hd] at hb
  have h2:=hs.2.1
  rw [hd] at h2
  rcases List.mem_cons.mp hb with q | q
  ·simp; lia
  ·have:=(List.pairwise_cons.mp h2).1 b q
   simp; lia
 unfold lvl
 conv=>rhs; rw [e,List.countP_append,hz]
 lia
theorem lvl_ge {be:List Nat}{H n i:Nat}(hs:be.Pairwise (·≤·))(hH:be[H]?=some n)(hi:n≤i):H<lvl be i:=by
 have hl:=(List.getElem?_eq_some_iff.mp hH).1
 have e:be=be.take (H + 1)++be.drop (H + 1):=(List.take_append_drop (H + 1) be).symm
 have h1:lvl (be.take (H + 1)) i=H + 1:=by
  rw [lvl_all,List.length_take]
  ·lia
  ·intro b hb
   obtain ⟨j,hj,ej⟩:=List.mem_iff_getElem.mp hb
   rw [List.length_take] at hj
   rw [List.getElem_take] at ej
   have en:=(List.getElem?_eq_some_iff.mp hH).2
   rcases Nat.lt_or_ge j H with q | q
   ·have:=List.pairwise_iff_getElem.mp hs j H (by lia) hl q
    lia
   ·have:j=H:=by lia
    subst this
    lia
 have:lvl be i=lvl (be.take (H + 1)) i + lvl (be.drop (H + 1)) i:=by
  unfold lvl
  rw [← List.countP_append,← e]
 lia
theorem back_ok (hN:N≤100)(hB:B≤100000)(h:Inv N B cls σ){H n:Nat}(hH:σ.be[H]?=some n):∃ kn li,σ.back H=some { σ with row:=σ.row.take n,kn:=kn,li:=li,be:=σ.be.take H,seen:=n } ∧
  Inv N B cls { σ with row:=σ.row.take n,kn:=kn,li:=li,be:=σ.be.take H,seen:=n }∧n≤σ.row.length ∧
  (∀ v:Int,tget li v=if ∃ l∈σ.row.drop n,(l.natAbs:Int)=v then tget σ.kn v else tget σ.li v):=by
 have hn:n≤σ.row.length:=h.ber n (List.mem_of_getElem? hH)
 obtain ⟨kn,li,e1,e2,e3,e4,e5⟩:=popTo_ok (n:=n) (k:=σ.row.length) hN hB (by lia) hn h.known h.room
 have ln:(σ.row.take n).length=n:=by rw [List.length_take]; lia
 have sub:∀ b∈σ.be.take H,b∈σ.be:=fun b hb=>List.mem_of_mem_take hb
 have hl:=(List.getElem?_eq_some_iff.mp hH).1
 have low:∀ b∈σ.be.take H,b≤n:=fun b hb=>by
  obtain ⟨j,hj,ej⟩:=List.mem_iff_getElem.mp hb
  rw [List.length_take] at hj
  rw [List.getElem_take] at ej
  have en:=(List.getElem?_eq_some_iff.mp hH).2
  have:=List.pairwise_iff_getElem.mp h.bes j H (by lia) hl (by lia)
  lia
 have old:∀ i l,(σ.row.take n)[i]?=some l→i<n∧σ.row[i]?=some l:=fun i l e=>by
  rw [List.getElem?_take] at e
  split at e
  ·rename_i q; exact ⟨q,e⟩
  ·cases e
 refine ⟨kn,li,?_,?_,hn,e5⟩
 ·unfold St.back
  rw [hH]
  simp only
  rw [e1]
  simp only [Option.map_some,ln]
 ·exact {
   room:={ h.room with
    kn:=e3
    li:=e4
    row:=by show (σ.row.take n).length≤N; rw [ln]; have:=h.room.row; lia
    be:=by show (σ.be.take H).length≤B; rw [List.length_take]; have:=h.room.be; lia }
   known:=e2
   bes:=h.bes.sublist (List.take_sublist _ _)
   ber:=fun b hb=>by show b≤(σ.row.take n).length; rw [ln]; exact low b hb
   bse:=low
   seen:=by show n≤(σ.row.take n).length; lia
   hh:=fun i l e=>by
    obtain ⟨q,e⟩:=old i l e
    show tget σ.hh l.natAbs=some (lvl (σ.be.take H) i)
    rw [lvl_cut h.bes hH q]; exact h.hh i l e
   rows:=h.rows
   wat:=h.wat
   org:=h.org
   low:=fun i l e h0=>by
    obtain ⟨q,e⟩:=old i l e
    have h0:lvl (σ.be.take H) i=0:=h0
    rw [lvl_cut h.bes hH q] at h0
    exact h.low i l e h0
   cause:=fun i l e h0 hb=>by
    obtain ⟨q,e⟩:=old i l e
    have h0:0<lvl (σ.be.take H) i:=h0
    rw [lvl_cut h.bes hH q] at h0
    have hb:i∉σ.be.take H:=hb
    have nb:i∉σ.be:=fun z=>by
     rw [← List.take_append_drop H σ.be] at z
     rcases List.mem_append.mp z with z | z
     ·exact hb z
     ·have hs:=h.bes
      rw [← List.take_append_drop H σ.be,List.pairwise_append] at hs
      have hd:σ.be.drop H=n::σ.be.drop (H + 1):=by
       rw [List.drop_eq_getElem_cons hl]
       rw [(List.getElem?_eq_some_iff.mp hH).2]
      have h2:=hs.2.1
      rw [hd] at z h2
      rcases List.mem_cons.mp z with w | w
      ·lia
      ·have:=(List.pairwise_cons.mp h2).1 i w
       lia
    obtain ⟨k,c,k1,k2,k3,k4⟩:=h.cause i l e h0 nb
    refine ⟨k,c,k1,k2,k3,fun m hm ne=>?_⟩
    show -m∈(σ.row.take n).take i
    rw [List.take_take,Nat.min_eq_left (Nat.le_of_lt q)]
    exact k4 m hm ne
   why:=fun i l e=>by
    obtain ⟨q,e⟩:=old i l e
    refine (h.why i l e).imp id fun ⟨k,c,k1,k2,k3,k4⟩=>⟨k,c,k1,k2,k3,fun m hm ne=>?_⟩
    show -m∈(σ.row.take n).take i
    rw [List.take_take,Nat.min_eq_left (Nat.le_of_lt q)]
    exact k4 m hm ne }
theorem back_none {H:Nat}(hH:σ.be.length≤H):σ.back H=some σ:=by
 unfold St.back
 rw [List.getElem?_eq_none hH]
theorem keep_ok (h:Inv N B cls σ){c:List Int}(G:GoodC N c)(hr:σ.rows.length<B)(ho:∃ C∈cls++σ.lg,(∀ l∈c,l∈C)∧∀ l∈C,l∈c∨Forced (cls++σ.lg) (-l)):Inv N B cls (σ.keep c):=by
 obtain ⟨a,b,r,rfl⟩:∃ a b r,c=a::b::r:=by
  match c,G.two with
  | a::b::r,_=>exact ⟨a,b,r,rfl⟩
 have hab:a≠b:=by have:=G.nodup; simp at this; exact this.1.1
 have hwd:(σ.keep (a::b::r)).wd=addW (addW σ.wd a σ.rows.length) b σ.rows.length:=rfl
 have hold:∀ l ns,tget σ.wd l=some ns→∀ n∈ns,n<σ.rows.length:=fun l ns e n hn=>by
  obtain ⟨c,hc,_⟩:=(h.wat l ns e).2 n hn
  exact (List.getElem?_eq_some_iff.mp hc).1
 have hrow:∀ n l,Wat σ.rows n l→Wat (σ.rows++[a::b::r]) n l:=fun n l ⟨c,e,q⟩=>
  ⟨c,by rw [List.getElem?_append_left (List.getElem?_eq_some_iff.mp e).1]; exact e,q⟩
 have hnew:(σ.rows++[a::b::r])[σ.rows.length]?=some (a::b::r):=by simp
 have hW:WatOk (σ.rows++[a::b::r]) (addW (addW σ.wd a σ.rows.length) b σ.rows.length):=by
  have h1:∀ l ns,tget (addW σ.wd a σ.rows.length) l=some ns→ns.Nodup∧(∀ n∈ns,Wat (σ.rows++[a::b::r]) n l)∧(l≠a→∀ n∈ns,n<σ.rows.length):=by
   intro l ns e
   unfold addW at e
   rw [tget_tset] at e
   split at e
   ·rename_i q
    subst q
    cases e
    cases eg:tget σ.wd a with
    | none=>simp only [Option.getD_none,List.nil_append]; exact ⟨by simp,fun n hn=>by rw [List.mem_singleton.mp hn]; exact ⟨_,hnew,.inl rfl⟩,fun q=>absurd rfl q⟩
    | some ys=>
     simp only [Option.getD_some]
     refine ⟨?_,fun n hn=>?_,fun q=>absurd rfl q⟩
     ·rw [List.nodup_append]
      exact ⟨(h.wat _ _ eg).1,by simp,fun x hx y hy=>by rw [List.mem_singleton.mp hy]; have:=hold _ _ eg x hx; lia⟩
     ·rcases List.mem_append.mp hn with q | q
      ·exact hrow _ _ ((h.wat _ _ eg).2 n q)
      ·rw [List.mem_singleton.mp q]; exact ⟨_,hnew,.inl rfl⟩
   ·exact ⟨(h.wat _ _ e).1,fun n hn=>hrow _ _ ((h.wat _ _ e).2 n hn),fun uu=>hold _ _ e⟩
  intro l ns e
  unfold addW at e
  rw [tget_tset] at e
  split at e
  ·rename_i q
   subst q
   cases e
   have e2:tget (tset σ.wd a ((tget σ.wd a).getD []++[σ.rows.length])) b=tget σ.wd b:=by rw [tget_tset,if_neg hab]
   rw [e2]
   cases eg:tget σ.wd b with
   | none=>simp only [Option.getD_none,List.nil_append]; exact ⟨by simp,fun n hn=>by rw [List.mem_singleton.mp hn]; exact ⟨_,hnew,.inr rfl⟩⟩
   | some ys=>
    simp only [Option.getD_some]
    refine ⟨?_,fun n hn=>?_⟩
    ·rw [List.nodup_append]
     exact ⟨(h.wat _ _ eg).1,by simp,fun x hx y hy=>by rw [List.mem_singleton.mp hy]; have:=hold _ _ eg x hx; lia⟩
    ·rcases List.mem_append.mp hn with q | q
     ·exact hrow _ _ ((h.wat _ _ eg).2 n q)
     ·rw [List.mem_singleton.mp q]; exact ⟨_,hnew,.inr rfl⟩
  ·obtain ⟨x,y,_⟩:=h1 l ns e
   exact ⟨x,y⟩
 have ra:=(G.rng a (by simp)).2
 have rb:=(G.rng b (by simp)).2
 have hK:Keyed N (addW (addW σ.wd a σ.rows.length) b σ.rows.length):=(h.room.wd.set _ ra).set _ rb
 have hlen:(σ.rows++[a::b::r]).length≤B:=by simp; lia
 exact { h with
  room:={ h.room with
   wd:=hK
   rows:=hlen
   wl:=wl_of hW hlen hK.nodup }
  rows:=fun x hx=>by
   rcases List.mem_append.mp hx with q | q
   ·exact h.rows x q
   ·rw [List.mem_singleton.mp q]; exact G
  wat:=hW
  org:=fun x hx=>by
   rcases List.mem_append.mp hx with q | q
   ·exact h.org x q
   ·rw [List.mem_singleton.mp q]; exact ho
  cause:=fun i l e h0 hb=>by
   obtain ⟨k,c,k1,k2,k3,k4⟩:=h.cause i l e h0 hb
   exact ⟨k,c,k1,by show (σ.rows++_)[k]?=_; rw [List.getElem?_append_left (List.getElem?_eq_some_iff.mp k2).1]; exact k2,k3,k4⟩
  why:=fun i l e=>(h.why i l e).imp id fun ⟨k,c,k1,k2,k3,k4⟩=>⟨k,c,k1,by show (σ.rows++_)[k]?=_; rw [List.getElem?_append_left (List.getElem?_eq_some_iff.mp k2).1]; exact k2,k3,k4⟩ }
theorem level_ok (h:Inv N B cls σ)(hs:σ.seen=σ.row.length)(hb:σ.be.length<B):Inv N B cls σ.level:=by
 have hl:∀ i,i<σ.row.length→lvl (σ.be++[σ.row.length]) i=lvl σ.be i:=fun i hi=>by
  unfold lvl
  rw [List.countP_append]
  simp
  lia
 have lt:∀ i l,σ.row[i]?=some l→i<σ.row.length:=fun i l e=>(List.getElem?_eq_some_iff.mp e).1
 exact { h with
  room:={ h.room with be:=by show (σ.be++[_]).length≤B; simp; lia }
  bes:=by
   show (σ.be++[σ.row.length]).Pairwise (·≤·)
   rw [List.pairwise_append]
   exact ⟨h.bes,by simp,fun a ha b hb=>by rw [List.mem_singleton.mp hb]; exact h.ber a ha⟩
  ber:=fun b hb=>by
   rcases List.mem_append.mp hb with q | q
   ·exact h.ber b q
   ·rw [List.mem_singleton.mp q]; exact Nat.le_refl _
  bse:=fun b hb=>by
   rcases List.mem_append.mp hb with q | q
   ·exact h.bse b q
   ·rw [List.mem_singleton.mp q,← hs]; exact Nat.le_refl _
  hh:=fun i l e=>by
   show tget σ.hh l.natAbs=some (lvl (σ.be++[σ.row.length]) i)
   rw [hl i (lt i l e)]; exact h.hh i l e
  low:=fun i l e h0=>by
   have h0:lvl (σ.be++[σ.row.length]) i=0:=h0
   rw [hl i (lt i l e)] at h0
   exact h.low i l e h0
  cause:=fun i l e h0 hb=>by
   have h0:0<lvl (σ.be++[σ.row.length]) i:=h0
   rw [hl i (lt i l e)] at h0
   exact h.cause i l e h0 fun q=>hb (List.mem_append.mpr (.inl q)) }
end
end Mini.C
end
section
namespace Mini.C
open Mini
section
variable {N B:Nat}{cls:List (List Int)}{σ:St}{H:Int}
theorem defHeats_same {ht:List (Int×Int)}:∀ {xs:List Int},(∀ l∈xs,(tget ht l.natAbs).isSome=true)→defHeats ht xs=ht
 | [],_=>rfl
 | x::xs,h=>by
  have:defHeats ht (x::xs)=defHeats ht xs:=by
   unfold defHeats
   rw [List.foldl_cons,if_pos (h x (.head _))]
  rw [this]
  exact defHeats_same fun l hl=>h l (.tail _ hl)
noncomputable def Low (σ:St)(l:Int):Prop:=∃ i,σ.row[i]?=some l∧lvl σ.be i=0
inductive Cov (σ:St)(C:List Int):Prop
 | con (c:Contra C)
 | low {l:Int}(m:l∈C)(h:Low σ l)
 | row {n:Nat}{c:List Int}(e:σ.rows[n]?=some c)(s:∀ l∈c,l∈C)(r:∀ l∈C,l∈c∨Low σ (-l))
noncomputable def Cover (cls:List (List Int))(σ:St):Prop:=∀ C∈cls,Cov σ C
theorem Cov.to {σ':St}{C:List Int}(h:Cov σ C)(hl:∀ l,Low σ l→Low σ' l)(hr:∀ (n:Nat)(c:List Int),σ.rows[n]?=some c→∃ c',σ'.rows[n]?=some c'∧c'.Perm c):Cov σ' C:=by
 induction h with
 | con c=>exact .con c
 | low m h=>exact .low m (hl _ h)
 | row e s r=>
  obtain ⟨c',e',p⟩:=hr _ _ e
  exact .row e' (fun l hl=>s l (p.mem_iff.mp hl)) fun l m=>(r l m).imp (fun q=>p.mem_iff.mpr q) (hl _)
theorem keep_full2 {s:Nat}(h:Full σ s){c:List Int}(h2:2≤c.length)(n0:∀ w w',Pair c w w'→∀ i:Nat,i<s→σ.row[i]?=some (-w)→∃ j:Nat,σ.row[j]?=some w'∧lvl σ.be j≤lvl σ.be i):Full (σ.keep c) s:=by
 obtain ⟨a,b,r,rfl⟩:∃ a b r,c=a::b::r:=by
  match c,h2 with
  | a::b::r,_=>exact ⟨a,b,r,rfl⟩
 have grow:∀ {wd:List (Int×List Nat)}{x w:Int}{k n:Nat},n∈(tget wd w).getD []→n∈(tget (addW wd x k) w).getD []:=fun {wd x w k n} m=>by
  unfold addW
  rw [tget_tset]
  by_cases z:x=w
  ·subst z; rw [if_pos rfl]; exact List.mem_append.mpr (.inl m)
  ·rw [if_neg z]; exact m
 have here:∀ {wd:List (Int×List Nat)}{x:Int}{k:Nat},k∈(tget (addW wd x k) x).getD []:=fun {wd x k}=>by
  unfold addW
  rw [tget_tset,if_pos rfl]
  exact List.mem_append.mpr (.inr (List.mem_singleton_self _))
 have cases2:∀ {n:Nat}{d:List Int},(σ.rows++[a::b::r])[n]?=some d→σ.rows[n]?=some d∨(n=σ.rows.length∧d=a::b::r):=fun {n d} e=>by
  rcases Nat.lt_or_ge n σ.rows.length with z | z
  ·rw [List.getElem?_append_left z] at e; exact .inl e
  ·have l:=(List.getElem?_eq_some_iff.mp e).1
   rw [List.length_append] at l
   have z:n=σ.rows.length:=Nat.le_antisymm (Nat.le_of_lt_succ l) z
   subst z
   rw [List.getElem?_append_right (Nat.le_refl _),Nat.sub_self] at e
   exact .inr ⟨rfl,(Option.some.inj e).symm⟩
 refine ⟨fun lost n d w w' e p=>.inl ?_,fun n d w w' e p i hi ei=>?_⟩
 ·show n∈(tget (addW (addW σ.wd a σ.rows.length) b σ.rows.length) w).getD []
  rcases cases2 e with e | ⟨rfl,rfl⟩
  ·exact grow (grow ((h.att lost n d w w' e p).resolve_right fun k=>absurd k.2 List.not_mem_nil))
  ·cases p with
   | one=>exact grow here
   | two=>exact here
 ·rcases cases2 e with e | ⟨rfl,rfl⟩
  ·exact h.wch n d w w' e p i hi ei
  ·exact n0 w w' p i hi ei
theorem keep_full {s:Nat}(h:Full σ s){c:List Int}(h2:2≤c.length)(n0:∀ l∈c,-l∉σ.row):Full (σ.keep c) s:=keep_full2 h h2 fun w w' p i hi ei=>by
 have m:w∈c:=by
  cases p with
  | one=>exact nth_mem (by lia)
  | two=>exact nth_mem (by lia)
 exact absurd (List.mem_of_getElem? ei) (n0 w m)
end
end Mini.C
end
section
namespace Mini.C
open Mini
noncomputable def posOf:List Int→Int→Nat
 | [],_=>0
 | l::r,v=>if (l.natAbs:Int)=v then 0 else posOf r v + 1
theorem pos_at:∀ {R:List Int}{i:Nat}{l:Int},(R.map Int.natAbs).Nodup→R[i]?=some l→posOf R l.natAbs=i
 | [],i,l,_,e=>by simp at e
 | x::r,0,l,_,e=>by simp at e; subst e; simp [posOf]
 | x::r,i + 1,l,hn,e=>by
  simp only [List.map_cons,List.nodup_cons] at hn
  simp at e
  have:¬ (x.natAbs:Int)=l.natAbs:=fun q=>hn.1 (List.mem_map.mpr ⟨l,List.mem_of_getElem? e,by lia⟩)
  simp only [posOf,if_neg this,pos_at hn.2 e]
theorem count_one {mm:List Int}{A B:Int→Bool}{v0:Int}:mm.Nodup→v0∈mm→(∀ v∈mm,v≠v0→A v=B v)→A v0=true→B v0=false→mm.countP A=mm.countP B + 1:=by
 induction mm with
 | nil=>intro _ h; cases h
 | cons x r ih=>
  intro hn hm hab ha hb
  simp only [List.nodup_cons] at hn
  rw [List.countP_cons,List.countP_cons]
  rcases List.mem_cons.mp hm with q | q
  ·subst q
   have:r.countP A=r.countP B:=List.countP_congr fun v hv=>by
    rw [hab v (.tail _ hv) (fun q=>hn.1 (q▸hv))]
   rw [this,ha,hb]; simp
  ·have:=ih hn.2 q (fun v hv=>hab v (.tail _ hv)) ha hb
   rw [this,hab x (.head _) (fun z=>hn.1 (z▸q))]
   lia
theorem lvl_mono {be:List Nat}{i j:Nat}(h:i≤j):lvl be i≤lvl be j:=by
 unfold lvl
 refine List.countP_mono_left fun b uu hb=>?_
 have:=of_decide_eq_true hb
 exact decide_eq_true (by lia)
theorem seek_ok {row mm:List Int}:∀ {s:Nat},(∃ i,i≤s∧((nth row i).natAbs:Int)∈mm)→∃ p,seek row mm s=some p∧p≤s∧((nth row p).natAbs:Int)∈mm∧∀ j,p<j→j≤s→((nth row j).natAbs:Int)∉mm
 | 0,⟨i,hi,hm⟩=>by
  have:i=0:=by lia
  subst this
  exact ⟨0,by unfold seek; rw [if_pos hm],Nat.le_refl _,hm,fun j a b=>by lia⟩
 | s + 1,⟨i,hi,hm⟩=>by
  by_cases c:((nth row (s + 1)).natAbs:Int)∈mm
  ·exact ⟨s + 1,by unfold seek; rw [if_pos c],Nat.le_refl _,c,fun j a b=>by lia⟩
  ·have:i≤s:=by
    rcases Nat.lt_or_ge s i with q | q
    ·have:i=s + 1:=by lia
     rw [this] at hm; exact absurd hm c
    ·exact q
   obtain ⟨p,e,h1,h2,h3⟩:=seek_ok (row:=row) (mm:=mm) (s:=s) ⟨i,this,hm⟩
   refine ⟨p,by unfold seek; rw [if_neg c,e],by lia,h2,fun j a b=>?_⟩
   rcases Nat.lt_or_ge s j with q | q
   ·have:j=s + 1:=by lia
    rw [this]; exact c
   ·exact h3 j a q
section
variable {N B:Nat}{cls:List (List Int)}{σ:St}
noncomputable def Warm (N:Nat)(ht:List (Int×Int)):Prop:=∀ v:Int,(tget ht v).isSome=true↔1≤v∧v≤N
theorem cool_keys {es:List (Int×Int)}:(cool es).map (·.1)=es.map (·.1):=List.map_map
theorem warm_ok {σ:St}(hf:Mini.C.fit σ=true)(hk:Keyed N σ.ht)(hw:Warm N σ.ht){v:Int}(h1:1≤v)(h2:v≤N):∃ ht g,σ.warm v=some { σ with ht:=ht,gain:=g }∧Keyed N ht∧Warm N ht:=by
 obtain ⟨x,hx⟩:=Option.isSome_iff_exists.mp ((hw v).mpr ⟨h1,h2⟩)
 have k1:Keyed N (tset σ.ht v (x + σ.gain)):=hk.set _ (by lia)
 have w1:Warm N (tset σ.ht v (x + σ.gain)):=fun u=>by
  rw [tget_tset]
  by_cases q:v=u
  ·rw [if_pos q,← q]; exact ⟨fun uu=>⟨h1,h2⟩,fun uu=>rfl⟩
  ·rw [if_neg q]; exact hw u
 unfold St.warm
 rw [hx]
 simp only
 rw [if_pos ⟨hf,hk.nodup⟩]
 by_cases c:x + σ.gain≤1000000000
 ·rw [if_pos c]; exact ⟨_,_,rfl,k1,w1⟩
 ·rw [if_neg c]
  have k2:Keyed N (cool (tset σ.ht v (x + σ.gain))):=⟨by rw [cool_keys]; exact k1.nodup,by rw [cool_keys]; exact k1.rng⟩
  have w2:Warm N (cool (tset σ.ht v (x + σ.gain))):=fun u=>by rw [tget_isSome,cool_keys,← tget_isSome]; exact w1 u
  exact ⟨_,_,rfl,k2,w2⟩
noncomputable def hgtv (σ:St)(v:Int):Nat:=(tget σ.hh v).getD 0
structure ScanOk (N B:Nat)(cls:List (List Int))(σ:St)(spot:Nat)(s:Scan):Prop where
 inv:Inv N B cls σ
 st:s.st={ σ with ht:=s.st.ht,gain:=s.st.gain }
 ht:Keyed N s.st.ht
 warm:Warm N s.st.ht
 nd:s.mm.Nodup
 pos:∀ v∈s.mm,0<hgtv σ v∧∃ l∈σ.row,(l.natAbs:Int)=v
 bh1:∀ l∈s.bh,(l.natAbs:Int)∈s.mm∧hgtv σ l.natAbs≠σ.be.length∧-l∈σ.row
 bh2:∀ v∈s.mm,hgtv σ v≠σ.be.length→∃ l∈s.bh,(l.natAbs:Int)=v
 bh3:(s.bh.map Int.natAbs).Nodup
 op:s.op=(s.mm.countP (fun v=>decide (hgtv σ v=σ.be.length∧posOf σ.row v<spot)):Nat)
theorem Inv.hv (h:Inv N B cls σ){i:Nat}{l:Int}(e:σ.row[i]?=some l):tget σ.hh l.natAbs=some (hgtv σ l.natAbs)∧hgtv σ l.natAbs=lvl σ.be i∧posOf σ.row l.natAbs=i:=by
 have:=h.hh i l e
 have h2:hgtv σ l.natAbs=lvl σ.be i:=by unfold hgtv; rw [this]; rfl
 exact ⟨by rw [this,h2],h2,pos_at h.known.vars e⟩
theorem mm_len {mm:List Int}(h:Inv N B cls σ)(nd:mm.Nodup)(hp:∀ v∈mm,∃ l∈σ.row,(l.natAbs:Int)=v):mm.length≤N:=by
 have h1:(mm.map Int.natAbs).Nodup:=by
  have:∀ v∈mm,((v.natAbs:Nat):Int)=v:=fun v hv=>by obtain ⟨l,_,q⟩:=hp v hv; lia
  clear hp
  induction mm with
  | nil=>simp
  | cons x r ih=>
   simp only [List.nodup_cons,List.map_cons] at nd ⊢
   refine ⟨fun q=>?_,ih nd.2 fun v hv=>this v (.tail _ hv)⟩
   obtain ⟨y,hy,e⟩:=List.mem_map.mp q
   have a:=this x (.head _)
   have b:=this y (.tail _ hy)
   have:x=y:=by lia
   exact nd.1 (this▸hy)
 exact nodup_nat h1 fun l hl=>by
  obtain ⟨x,hx,e⟩:=hp l hl
  have:=h.known.rng x hx
  lia
theorem scan_ok (hN:N≤100)(hB:B≤100000){spot:Nat}{pivot:Int}:∀ {c:List Int}{s:Scan},ScanOk N B cls σ spot s→(∀ m∈c,m=pivot∨-m∈σ.row.take spot) →
  ∃ s',scan pivot c s=some s'∧ScanOk N B cls σ spot s'∧(∀ v∈s.mm,v∈s'.mm)∧(∀ m∈c,m≠pivot→(m.natAbs:Int)∈s'.mm∨hgtv σ m.natAbs=0)
 | [],s,O,_=>⟨s,rfl,O,fun v h=>h,fun m h=>by cases h⟩
 | m::c,s,O,hc=>by
  have hc':=fun x hx=>hc x (.tail _ hx)
  have I:=O.inv
  simp only [scan]
  by_cases c1:m=pivot
  ·rw [if_pos (.inl c1)]
   obtain ⟨s',e,O',h1,h2⟩:=scan_ok hN hB O hc'
   exact ⟨s',e,O',h1,fun x hx ne=>by
    rcases List.mem_cons.mp hx with q | q
    ·exact absurd (q.trans c1) ne
    ·exact h2 x q ne⟩
  by_cases c2:(m.natAbs:Int)∈s.mm
  ·rw [if_pos (.inr c2)]
   obtain ⟨s',e,O',h1,h2⟩:=scan_ok hN hB O hc'
   exact ⟨s',e,O',h1,fun x hx ne=>by
    rcases List.mem_cons.mp hx with q | q
    ·subst q; exact .inl (h1 _ c2)
    ·exact h2 x q ne⟩
  rw [if_neg (by simp [c1,c2])]
  obtain hm:=(hc m (.head _)).resolve_left c1
  obtain ⟨i,hi⟩:=List.mem_iff_getElem?.mp hm
  rw [List.getElem?_take] at hi
  have hsp:i<spot:=by
   by_cases q:i<spot
   ·exact q
   ·rw [if_neg q] at hi; cases hi
  rw [if_pos hsp] at hi
  obtain ⟨v1,v2,v3⟩:=I.hv hi
  rw [Int.natAbs_neg] at v1 v2 v3
  have e1:tget s.st.hh m.natAbs=some (hgtv σ m.natAbs):=by rw [O.st]; exact v1
  rw [e1]
  simp only
  by_cases c3:hgtv σ m.natAbs=0
  ·rw [if_pos c3]
   obtain ⟨s',e,O',h1,h2⟩:=scan_ok hN hB O hc'
   exact ⟨s',e,O',h1,fun x hx ne=>by
    rcases List.mem_cons.mp hx with q | q
    ·subst q; exact .inr c3
    ·exact h2 x q ne⟩
  rw [if_neg c3]
  have hmr:-m∈σ.row:=List.mem_of_getElem? hi
  have hrng:=I.known.rng _ hmr
  rw [Int.natAbs_neg] at hrng
  have hroom:Room' N B s.st:=by rw [O.st]; exact { I.room with ht:=O.ht }
  have hfit:=hroom.fit hN hB
  have hbe:s.st.be=σ.be:=by rw [O.st]
  obtain ⟨ht,g,ew,ht',warm'⟩:=warm_ok hfit O.ht O.warm (v:=m.natAbs) (by lia) (by lia)
  rw [ew]
  simp only
  have lm:=mm_len I O.nd fun v hv=>(O.pos v hv).2
  have lb:s.bh.length≤N:=nodup_nat O.bh3 fun l hl=>by
   have:=I.known.rng _ (O.bh1 l hl).2.2
   rw [Int.natAbs_neg] at this; exact this
  rw [if_neg (by lia)]
  have nd':(s.mm++[(m.natAbs:Int)]).Nodup:=by
   rw [List.nodup_append]
   exact ⟨O.nd,by simp,fun a ha b hb=>by rw [List.mem_singleton.mp hb]; exact fun q=>c2 (q▸ha)⟩
  have pos':∀ v∈s.mm++[(m.natAbs:Int)],0<hgtv σ v∧∃ l∈σ.row,(l.natAbs:Int)=v:=fun v hv=>by
   rcases List.mem_append.mp hv with q | q
   ·exact O.pos v q
   ·rw [List.mem_singleton.mp q]; exact ⟨by lia,-m,hmr,by rw [Int.natAbs_neg]⟩
  have st':({ s.st with ht:=ht,gain:=g }:St)={ σ with ht:=ht,gain:=g }:=by rw [O.st]
  have fin:∀ s2:Scan,s2.mm=s.mm++[(m.natAbs:Int)]→ScanOk N B cls σ spot s2→∃ s',scan pivot c s2=some s'∧ScanOk N B cls σ spot s'∧(∀ v∈s.mm,v∈s'.mm)∧(∀ x∈m::c,x≠pivot→(x.natAbs:Int)∈s'.mm∨hgtv σ x.natAbs=0):=by
   intro s2 e2 O2
   obtain ⟨s',e,O',h1,h2⟩:=scan_ok hN hB O2 hc'
   refine ⟨s',e,O',fun v hv=>h1 v (by rw [e2]; simp [hv]),fun x hx ne=>?_⟩
   rcases List.mem_cons.mp hx with q | q
   ·subst q; exact .inl (h1 _ (by rw [e2]; simp))
   ·exact h2 x q ne
  by_cases c4:hgtv σ m.natAbs=σ.be.length
  ·rw [if_pos (by rw [hbe]; exact c4)]
   refine fin _ rfl ⟨I,by rw [st'],ht',warm',nd',pos',?_,?_,O.bh3,?_⟩
   ·intro l hl
    obtain ⟨a,b,d⟩:=O.bh1 l hl
    exact ⟨by simp [a],b,d⟩
   ·intro v hv ne
    rcases List.mem_append.mp hv with q | q
    ·exact O.bh2 v q ne
    ·rw [List.mem_singleton.mp q] at ne; exact absurd c4 ne
   ·show s.op + 1=_
    rw [List.countP_append,O.op]
    simp [c4,v3,hsp]
  ·rw [if_neg (by rw [hbe]; exact c4)]
   refine fin _ rfl ⟨I,by rw [st'],ht',warm',nd',pos',?_,?_,?_,?_⟩
   ·intro l hl
    rcases List.mem_append.mp hl with q | q
    ·obtain ⟨a,b,d⟩:=O.bh1 l q
     exact ⟨by simp [a],b,d⟩
    ·rw [List.mem_singleton.mp q]; exact ⟨by simp,c4,hmr⟩
   ·intro v hv ne
    rcases List.mem_append.mp hv with q | q
    ·obtain ⟨l,hl,e⟩:=O.bh2 v q ne
     exact ⟨l,by simp [hl],e⟩
    ·exact ⟨m,by simp,(List.mem_singleton.mp q).symm⟩
   ·rw [List.map_append,List.nodup_append]
    refine ⟨O.bh3,by simp,fun a ha b hb q=>?_⟩
    simp at hb
    obtain ⟨l,hl,rfl⟩:=List.mem_map.mp ha
    have:=(O.bh1 l hl).1
    rw [q,hb] at this
    exact c2 this
   ·show s.op=_
    rw [List.countP_append,O.op]
    simp [c4]
end
end Mini.C
end
section
namespace Mini.C
open Mini
section
variable {N B:Nat}{cls:List (List Int)}{σ:St}
theorem lvl_lt {i p:Nat}(hip:i<p):∀ {be:List Nat},p∈be→lvl be i<lvl be p:=by
 unfold lvl
 have gen:∀ be:List Nat,be.countP (fun b=>decide (b≤i))≤be.countP (fun b=>decide (b≤p)):=fun be=>List.countP_mono_left fun b uu hb=>decide_eq_true (by have:=of_decide_eq_true hb; lia)
 intro be
 induction be with
 | nil=>intro q; cases q
 | cons b r ih=>
  intro q
  rw [List.countP_cons,List.countP_cons]
  rcases List.mem_cons.mp q with z | z
  ·have:=gen r
   rw [← z]
   simp only [decide_eq_true_eq]
   rw [if_neg (by lia),if_pos (Nat.le_refl _)]
   lia
  ·have:=ih z
   simp only [decide_eq_true_eq]
   split <;> split <;> lia
structure Lesson (N B:Nat)(cls:List (List Int))(σ:St)(p:Nat)(bh:List Int)(ht:List (Int×Int)):Prop where
 pl:p<σ.row.length
 top:hgtv σ (nth σ.row p).natAbs=σ.be.length
 low:∀ l∈bh,0<hgtv σ l.natAbs∧hgtv σ l.natAbs≠σ.be.length∧-l∈σ.row
 nd:(bh.map Int.natAbs).Nodup
 rup:∀ U:Int→Prop,Shuts U (cls++σ.lg)→U (nth σ.row p)→(∀ l∈bh,U (-l))→False
 keyed:Keyed N ht
 warm:Warm N ht
theorem take_at {row:List Int}{s:Nat}{x:Int}(h:x∈row.take s):∃ i,i<s∧row[i]?=some x:=by
 obtain ⟨i,hi⟩:=List.mem_iff_getElem?.mp h
 rw [List.getElem?_take] at hi
 split at hi
 ·exact ⟨i,‹_›,hi⟩
 ·cases hi
theorem abs_or {l x:Int}(h:(x.natAbs:Int)=l.natAbs):l=x∨l = -x:=by lia
theorem last_marked {row mm:List Int}{p spot i:Nat}{l:Int}(hpn:∀ j,p<j→j≤spot - 1→((nth row j).natAbs:Int)∉mm)(hi:row[i]?=some l)(hlt:i<spot)(hm:(l.natAbs:Int)∈mm):i≤p:=by
 rcases Nat.lt_or_ge p i with q | q
 ·have:=hpn i q (Nat.le_sub_one_of_lt hlt)
  rw [getD_get (List.getElem?_eq_some_iff.mp hi).1] at hi
  rw [Option.some.inj hi] at this
  exact absurd hm this
 ·exact q
noncomputable abbrev mrk (σ:St)(p:Nat)(v:Int):Bool:=decide (hgtv σ v=σ.be.length∧posOf σ.row v<p)
theorem ScanOk.place {spot:Nat}{s:Scan}(O:ScanOk N B cls σ spot s){v:Int}(hv:v∈s.mm):∃ i l,σ.row[i]?=some l∧(l.natAbs:Int)=v∧posOf σ.row v=i∧hgtv σ v=lvl σ.be i:=by
 obtain ⟨_,l,hl,e⟩:=O.pos v hv
 obtain ⟨i,hi⟩:=List.mem_iff_getElem?.mp hl
 obtain ⟨_,a2,a3⟩:=O.inv.hv hi
 exact ⟨i,l,hi,e,e▸a3,e▸a2⟩
theorem lesson_one {spot:Nat}{pivot:Int}{c:List Int}{s s':Scan}(I:Inv N B cls σ)(op:s.op=(s.mm.countP (mrk σ spot):Nat))(hc:∀ m∈c,m=pivot∨-m∈σ.row.take spot)
  (E:1≤s.op∨∃ m∈c,m≠pivot∧hgtv σ m.natAbs=σ.be.length)(hL:0<σ.be.length)(keepm:∀ v∈s.mm,v∈s'.mm)(marked:∀ m∈c,m≠pivot→(m.natAbs:Int)∈s'.mm∨hgtv σ m.natAbs=0) :
  ∃ v∈s'.mm,hgtv σ v=σ.be.length∧posOf σ.row v<spot:=by
 rcases E with q | ⟨m,hm,ne,q⟩
 ·have h1:0<s.mm.countP (mrk σ spot):=by lia
  obtain ⟨v,hv,hp⟩:=List.countP_pos_iff.mp h1
  exact ⟨v,keepm v hv,of_decide_eq_true hp⟩
 ·refine ⟨(m.natAbs:Int),(marked m hm ne).resolve_right (by lia),q,?_⟩
  obtain ⟨i,hsp,hi⟩:=take_at ((hc m hm).resolve_left ne)
  obtain ⟨_,_,v3⟩:=I.hv hi
  rw [Int.natAbs_neg] at v3
  lia
theorem lesson_cnt {spot p:Nat}{s:Scan}(O:ScanOk N B cls σ spot s)(hps:p<spot)(hpl:p<σ.row.length)(hpm:((nth σ.row p).natAbs:Int)∈s.mm)(hpn:∀ j,p<j→j≤spot - 1→((nth σ.row j).natAbs:Int)∉s.mm)(htop:hgtv σ (nth σ.row p).natAbs=σ.be.length) :
  s.mm.countP (mrk σ spot)=s.mm.countP (mrk σ p) + 1:=by
 have rp:=getD_get (c:=σ.row) hpl
 obtain ⟨_,_,pc⟩:=O.inv.hv rp
 refine count_one (v0:=((nth σ.row p).natAbs:Int)) O.nd hpm (fun v hv ne=>?_) (decide_eq_true ⟨htop,by rw [pc]; lia⟩) (decide_eq_false (by rw [pc]; lia))
 obtain ⟨i,l,hi,e,b3,_⟩:=O.place hv
 have:posOf σ.row v<spot↔posOf σ.row v<p:=by
  rw [b3]
  constructor
  ·intro q
   have w:=last_marked hpn hi (by lia) (by rw [e]; exact hv)
   have:i≠p:=fun z=>ne (by rw [← e]; subst z; rw [rp] at hi; rw [Option.some.inj hi])
   lia
  ·intro q; lia
 unfold mrk
 simp only [this]
theorem lesson_D {spot:Nat}{pivot:Int}{c:List Int}{mm mm':List Int}(I:Inv N B cls σ)(hc:∀ m∈c,m=pivot∨-m∈σ.row.take spot)
  (keepm:∀ v∈mm,v∈mm')(marked:∀ m∈c,m≠pivot→(m.natAbs:Int)∈mm'∨hgtv σ m.natAbs=0)
  (D:∀ U:Int→Prop,Shuts U (cls++σ.lg)→(∀ i l,σ.row[i]?=some l→i<spot→(l.natAbs:Int)∈mm→U l)→(∀ m∈c,m≠pivot→U (-m))→False)
  (U:Int→Prop)(sU:Shuts U (cls++σ.lg))(hU:∀ i l,σ.row[i]?=some l→i<spot→(l.natAbs:Int)∈mm'→U l):False:=by
 refine D U sU (fun i l hi hlt hm=>hU i l hi hlt (keepm _ hm)) fun m hm ne=>?_
 obtain ⟨i,hsp,hi⟩:=take_at ((hc m hm).resolve_left ne)
 rcases marked m hm ne with q | q
 ·exact hU i _ hi hsp (by rw [Int.natAbs_neg]; exact q)
 ·obtain ⟨_,a2,_⟩:=I.hv hi
  rw [Int.natAbs_neg] at a2
  exact I.low i _ hi (a2▸q) U sU
theorem lesson_end {spot p:Nat}{s:Scan}(O:ScanOk N B cls σ spot s)(rp:σ.row[p]?=some (nth σ.row p))(hz:s.mm.countP (mrk σ p)=0)(hpn:∀ j,p<j→j≤spot - 1→((nth σ.row j).natAbs:Int)∉s.mm)
  {U:Int→Prop}(up:U (nth σ.row p))(ub:∀ l∈s.bh,U (-l)){i:Nat}{l:Int}(hi:σ.row[i]?=some l)(hlt:i<spot)(hm:(l.natAbs:Int)∈s.mm):U l:=by
 obtain ⟨_,a2,a3⟩:=O.inv.hv hi
 by_cases q:hgtv σ l.natAbs=σ.be.length
 ·have h1:¬ posOf σ.row l.natAbs<p:=fun z=>List.countP_eq_zero.mp hz _ hm (decide_eq_true ⟨q,z⟩)
  have:i=p:=by have:=last_marked hpn hi hlt hm; lia
  subst this
  exact Option.some.inj (rp.symm.trans hi)▸up
 ·obtain ⟨x,hx,ex⟩:=O.bh2 _ hm q
  have h3:=(O.bh1 x hx).2.2
  rcases abs_or ex with w | w
  ·subst w; exact absurd (O.inv.known.not_both (List.mem_of_getElem? hi) h3) id
  ·rw [w]; exact ub x hx
theorem lesson_cause {spot p:Nat}{s:Scan}(O:ScanOk N B cls σ spot s)(rp:σ.row[p]?=some (nth σ.row p))(two:0<s.mm.countP (mrk σ p))(hL:0<σ.be.length) :
  ∃ k c,tget σ.ca (nth σ.row p).natAbs=some (some k)∧σ.rows[k]?=some c∧nth σ.row p∈c∧∀ m∈c,m≠nth σ.row p→-m∈σ.row.take p:=by
 obtain ⟨v2,hv2,hp2⟩:=List.countP_pos_iff.mp two
 obtain ⟨hh2,hp2⟩:=of_decide_eq_true hp2
 obtain ⟨i2,_,_,_,p2,h2⟩:=O.place hv2
 have hi:i2<p:=by lia
 have low:=lvl_mono (be:=σ.be) (Nat.le_of_lt hi)
 refine O.inv.cause p _ rp (by lia) fun q=>?_
 have hlt:=lvl_lt hi q
 have:=lvl_le (be:=σ.be) (i:=p)
 lia
theorem org_up (I:Inv N B cls σ){U:Int→Prop}(sU:Shuts U (cls++σ.lg)){k:Nat}{c:List Int}(kr:σ.rows[k]?=some c){x:Int}(kc:x∈c)(hcU:∀ m∈c,m≠x→U (-m)):U x:=by
 obtain ⟨C,hC,a,b⟩:=I.org c (List.mem_of_getElem? kr)
 refine (sU C hC).2 _ (a _ kc) fun l hl ne=>?_
 rcases b l hl with z | z
 ·exact hcU l z ne
 ·exact z U sU
theorem lesson_loop (hN:N≤100)(hB:B≤100000):∀ {k number:Nat}{s:Scan}{spot:Nat}{pivot:Int}{c:List Int},ScanOk N B cls σ spot s→σ.rows[number]?=some c→(∀ m∈c,m=pivot∨-m∈σ.row.take spot) →
  spot≤k→spot≤σ.row.length→(1≤s.op∨∃ m∈c,m≠pivot∧hgtv σ m.natAbs=σ.be.length)→0<σ.be.length →
  (∀ U:Int→Prop,Shuts U (cls++σ.lg)→(∀ i l,σ.row[i]?=some l→i<spot→(l.natAbs:Int)∈s.mm→U l)→(∀ m∈c,m≠pivot→U (-m))→False) →
  ∃ p bh ht g,lessonF k number s spot pivot=some (-(nth σ.row p)::bh,{ σ with ht:=ht,gain:=g })∧Lesson N B cls σ p bh ht:=by
 intro k
 induction k with
 | zero=>
  intro number s spot pivot c O hr hc hk hs E hL D
  exfalso
  have h0:spot=0:=Nat.le_zero.mp hk
  subst h0
  rcases E with q | ⟨m,hm,ne,q⟩
  ·have h0:s.mm.countP (mrk σ 0)=0:=by
    rw [List.countP_eq_zero]; intro v _; simp
   rw [O.op,h0] at q
   exact absurd q (by decide)
  ·rcases hc m hm with z | z
   ·exact ne z
   ·cases z
 | succ k ih=>
  intro number s spot pivot c O hr hc hk hs E hL D
  obtain ⟨s',es,O',keepm,marked⟩:=scan_ok hN hB O hc
  obtain ⟨v1,hv1,hh1,hp1⟩:=lesson_one O.inv O.op hc E hL keepm marked
  obtain ⟨i1,l1,r1,e1,p1,h1⟩:=O'.place hv1
  have hi1:i1<spot:=by lia
  obtain ⟨p,ep,hp2,hpm,hpn⟩:=seek_ok (row:=σ.row) (mm:=s'.mm) (s:=spot - 1) ⟨i1,Nat.le_sub_one_of_lt hi1,by have:=getD_get (List.getElem?_eq_some_iff.mp r1).1; rw [r1] at this; rw [← Option.some.inj this,e1]; exact hv1⟩
  have hps:p<spot:=by lia
  have hpl:p<σ.row.length:=Nat.lt_of_lt_of_le hps hs
  have rp:=getD_get (c:=σ.row) hpl
  have htop:hgtv σ (nth σ.row p).natAbs=σ.be.length:=by
   have a:=lvl_mono (be:=σ.be) (last_marked hpn r1 hi1 (by rw [e1]; exact hv1))
   have b:=lvl_le (be:=σ.be) (i:=p)
   rw [(O.inv.hv rp).2.1]
   lia
  have D':=lesson_D O.inv hc keepm marked D
  have hop':=O'.op
  rw [lesson_cnt O' hps hpl hpm hpn htop] at hop'
  unfold lessonF
  rw [show s.st.rows[number]?=some c by rw [O.st]; exact hr]
  simp only [es]
  have erow:s'.st.row=σ.row:=by rw [O'.st]
  rw [if_neg (by
   have:=nodup_nat O'.bh3 fun l hl=>by
    have:=O.inv.known.rng _ (O'.bh1 l hl).2.2
    rw [Int.natAbs_neg] at this; exact this
   rw [erow]; lia),erow,ep]
  simp only
  by_cases c0:s'.op - 1=0
  ·rw [if_pos c0]
   refine ⟨p,s'.bh,s'.st.ht,s'.st.gain,by rw [← O'.st],⟨hpl,htop,fun l hl=>?_,O'.bh3,fun U sU up ub=>?_,O'.ht,O'.warm⟩⟩
   ·obtain ⟨a,b,d⟩:=O'.bh1 l hl
    exact ⟨(O'.pos _ a).1,b,d⟩
   ·exact D' U sU fun i l hi hlt hm=>lesson_end O' rp (by lia) hpn up ub hi hlt hm
  ·rw [if_neg c0]
   obtain ⟨k2,c2,k1,kr,kc,ko⟩:=lesson_cause O' rp (by lia) hL
   rw [show s'.st.ca=σ.ca by rw [O'.st],k1]
   simp only
   have O2:ScanOk N B cls σ p { s' with op:=s'.op - 1 }:=⟨O'.inv,O'.st,O'.ht,O'.warm,O'.nd,O'.pos,O'.bh1,O'.bh2,O'.bh3,by show s'.op - 1=((s'.mm.countP (mrk σ p):Nat):Int); rw [hop']; lia⟩
   refine ih O2 kr (fun m hm=>?_) (by lia) (Nat.le_of_lt hpl) (.inl (by show 1≤s'.op - 1; lia)) hL (fun U sU hU hcU=>?_)
   ·by_cases q:m=nth σ.row p
    ·exact .inl q
    ·exact .inr (ko m hm q)
   ·refine D' U sU fun i l hi hlt hm=>?_
    rcases Nat.lt_or_eq_of_le (last_marked hpn hi hlt hm) with z | z
    ·exact hU i l hi z hm
    ·subst z
     exact Option.some.inj (rp.symm.trans hi)▸org_up O.inv sU kr kc hcU
theorem lesson_ok (hN:N≤100)(hB:B≤100000)(h:Inv N B cls σ)(hw:Warm N σ.ht)(hL:σ.be≠[]){number:Nat}{c:List Int}(hr:σ.rows[number]?=some c)(hc:∀ m∈c,-m∈σ.row)(ht:∃ m∈c,∃ i,σ.row[i]?=some (-m)∧∀ b∈σ.be,b≤i) :
  ∃ p bh ht g,lessonF σ.row.length number ⟨[],[],0,σ⟩ σ.row.length 0=some (-(nth σ.row p)::bh,{ σ with ht:=ht,gain:=g })∧Lesson N B cls σ p bh ht:=by
 obtain ⟨m0,hm0,i0,hi0,hb0⟩:=ht
 have nz:∀ m∈c,m≠0:=fun m hm=>by have:=h.known.rng _ (hc m hm); rw [Int.natAbs_neg] at this; lia
 have hL':0<σ.be.length:=List.length_pos_iff.mpr hL
 have O:ScanOk N B cls σ σ.row.length ⟨[],[],0,σ⟩:=⟨h,rfl,h.room.ht,hw,by simp,by simp,by simp,by simp,by simp,by simp⟩
 refine lesson_loop hN hB O hr (fun m hm=>.inr ?_) (Nat.le_refl _) (Nat.le_refl _) (.inr ⟨m0,hm0,nz m0 hm0,?_⟩) hL' (fun U sU uu hU=>?_)
 ·rw [List.take_of_length_le (Nat.le_refl _)]; exact hc m hm
 ·obtain ⟨_,a2,_⟩:=h.hv hi0
  rw [Int.natAbs_neg] at a2
  rw [a2,lvl_all hb0]
 ·obtain ⟨C,hC,a,b⟩:=h.org c (List.mem_of_getElem? hr)
  obtain ⟨l,hl,nl⟩:=(sU C hC).1
  rcases b l hl with q | q
  ·exact nl (hU l q (nz l q))
  ·exact nl (q U sU)
end
end Mini.C
end
section
namespace Mini.C
open Mini
section
variable {N B:Nat}{cls:List (List Int)}{σ:St}
theorem heat_ok (h:Inv N B cls σ){ht:List (Int×Int)}(hk:Keyed N ht)(g:Int):Inv N B cls { σ with ht:=ht,gain:=g }:=
 { h with room:={ h.room with ht:=hk } }
theorem note_ok {N B:Nat}{cls:List (List Int)}{σ:St}(h:Inv N B cls σ){ys:List Int}(hl:σ.lg.length<B):Inv N B cls (σ.note ys):=by
 have hb:∀ C∈cls++σ.lg,C∈cls++(σ.lg++[ys]):=fun C hC=>by
  rcases List.mem_append.mp hC with q | q
  ·exact List.mem_append.mpr (.inl q)
  ·exact List.mem_append.mpr (.inr (List.mem_append.mpr (.inl q)))
 exact { h with
  room:={ h.room with lg:=by show (σ.lg++[ys]).length≤B; simp; lia }
  org:=fun c hm=>by
   obtain ⟨C,hC,a,b⟩:=h.org c hm
   exact ⟨C,hb C hC,a,fun l hl=>(b l hl).imp id fun q=>q.more hb⟩
  low:=fun i l e h0=>(h.low i l e h0).more hb }
theorem nodup_of_abs:∀ {c:List Int},(c.map Int.natAbs).Nodup→c.Nodup
 | [],_=>by simp
 | a::c,nd=>by
  simp only [List.map_cons,List.nodup_cons] at nd ⊢
  exact ⟨fun q=>nd.1 (List.mem_map.mpr ⟨a,q,rfl⟩),nodup_of_abs nd.2⟩
structure Learnt (N B:Nat)(cls:List (List Int))(σ:St)(p:Nat)(bh ys:List Int)(ht:List (Int×Int))(g:Int)(σ5:St):Prop where
 inv:Inv N B cls σ5
 lg:σ5.lg=σ.lg++[ys]
 cl:σ5.cl=σ.cl
 ref:σ5.ref=σ.ref
 lim:σ5.lim=σ.lim
 bl:σ5.bl=σ.bl
 gain:σ5.gain=g + g.fdiv 8 + 1
 ht:σ5.ht=ht
 rows:σ5.rows.length≤σ.rows.length + 1
 back:∃ Hb n,Hb<σ.be.length∧(∀ l∈bh,hgtv σ l.natAbs≤Hb)∧(Hb=0∧bh=[]∨∃ x∈bh,hgtv σ x.natAbs=Hb)∧σ.be[Hb]?=some n∧n≤σ.row.length∧σ5.be=σ.be.take Hb∧σ5.row=σ.row.take n++[-(nth σ.row p)] ∧
  tget σ5.hh (nth σ.row p).natAbs=some Hb∧σ5.seen=n
 ca:∃ o,σ5.ca=tset σ.ca (nth σ.row p).natAbs o∧(bh=[]∨o≠none)
 way:bh=[]∧σ5.rows=σ.rows∨∃ r,σ5.rows=σ.rows++[-(nth σ.row p)::r]∧r.Perm bh
 full:∀ s,Full σ s→(∀ b∈σ.be,b≤s)→Full σ5 σ5.seen
theorem cut_full {s:Nat}(I:Inv N B cls σ){H n:Nat}(hH:σ.be[H]?=some n)(F:Full σ s)(top:∀ b∈σ.be,b≤s){σ':St}(hr:σ'.rows=σ.rows)(hw:σ'.wd=σ.wd)(hb:σ'.be=σ.be.take H){ext:List Int}(hrow:σ'.row=σ.row.take n++ext):Full σ' n:=by
 have hn:=I.ber n (List.mem_of_getElem? hH)
 have ln:(σ.row.take n).length=n:=by rw [List.length_take]; exact Nat.min_eq_left hn
 have ns':n≤s:=top n (List.mem_of_getElem? hH)
 have cut:∀ {i},i<n→lvl (σ.be.take H) i=lvl σ.be i:=fun h=>lvl_cut I.bes hH h
 have at_:∀ {i:Nat},i<n→σ'.row[i]?=σ.row[i]?:=fun h=>by rw [hrow,List.getElem?_append_left (by rw [ln]; exact h),List.getElem?_take,if_pos h]
 refine ⟨fun lost=>by rw [hr,hw]; exact F.att lost,fun m c w w' e p i hi ei=>?_⟩
 rw [hr] at e
 rw [at_ hi] at ei
 obtain ⟨j,ej,lj⟩:=F.wch m c w w' e p i (Nat.lt_of_lt_of_le hi ns') ei
 have li:lvl σ.be i≤H:=by
  rw [← cut hi]
  exact Nat.le_trans lvl_le (by rw [List.length_take]; exact Nat.min_le_left ..)
 have hj:j<n:=Nat.not_le.mp fun q=>absurd (lvl_ge I.bes hH q) (Nat.not_lt.mpr (Nat.le_trans lj li))
 exact ⟨j,(at_ hj).trans ej,by rw [hb,cut hj,cut hi]; exact lj⟩
structure Bk (N B:Nat)(cls:List (List Int))(σ:St)(P:Int)(bh ys:List Int)(ht:List (Int×Int))(g:Int)(H n:Nat)(σ3:St):Prop where
 inv:Inv N B cls σ3
 row:σ3.row=σ.row.take n
 be:σ3.be=σ.be.take H
 rows:σ3.rows=σ.rows
 lg:σ3.lg=σ.lg++[ys]
 gain:σ3.gain=g
 ht:σ3.ht=ht
 cl:σ3.cl=σ.cl
 ref:σ3.ref=σ.ref
 seen:σ3.seen=n
 lim:σ3.lim=σ.lim
 bl:σ3.bl=σ.bl
 ca:σ3.ca=σ.ca
 wd:σ3.wd=σ.wd
 hn:σ.be[H]?=some n
 hnl:n≤σ.row.length
 max:∀ l∈bh,hgtv σ l.natAbs≤H
 ex:H=0∧bh=[]∨∃ x∈bh,hgtv σ x.natAbs=H
 mem:P∈σ.row
 nP:P∉σ.row.take n
section
variable {P:Int}{bh ys r:List Int}{ht:List (Int×Int)}{g:Int}{H n:Nat}{σ3:St}
theorem top_of (hp:r.Perm bh)(hsrt:r.Pairwise fun a b=>hgtv σ b.natAbs≤hgtv σ a.natAbs):(∀ l∈bh,hgtv σ l.natAbs≤σ.topH r)∧(σ.topH r=0∧bh=[]∨∃ x∈bh,hgtv σ x.natAbs=σ.topH r):=by
 cases r with
 | nil=>
  have e:=List.Perm.nil_eq hp
  exact ⟨fun l hl=>absurd (e▸hl) List.not_mem_nil,.inl ⟨rfl,e.symm⟩⟩
 | cons x r=>
  refine ⟨fun l hl=>?_,.inr ⟨x,hp.mem_iff.mp (.head _),rfl⟩⟩
  rcases List.mem_cons.mp (hp.mem_iff.mpr hl) with q | q
  ·rw [q]; exact Nat.le_refl _
  ·exact (List.pairwise_cons.mp hsrt).1 l q
theorem hv_neg (h:Inv N B cls σ){l:Int}{i:Nat}(hi:σ.row[i]?=some (-l)):hgtv σ l.natAbs=lvl σ.be i:=by
 have a:=(h.hv hi).2.1
 rw [Int.natAbs_neg] at a
 exact a
theorem bk_lt (h:Inv N B cls σ)(hs:σ.be≠[])(low:∀ l∈bh,0<hgtv σ l.natAbs∧hgtv σ l.natAbs≠σ.be.length∧-l∈σ.row)(ex:H=0∧bh=[]∨∃ x∈bh,hgtv σ x.natAbs=H):H<σ.be.length:=by
 rcases ex with ⟨q,_⟩ | ⟨x,hx,q⟩
 ·rw [q]; exact List.length_pos_iff.mpr hs
 ·obtain ⟨_,ne,m⟩:=low x hx
  obtain ⟨i,hi⟩:=List.mem_iff_getElem?.mp m
  rw [← q]
  exact Nat.lt_of_le_of_ne (by rw [hv_neg h hi]; exact lvl_le) ne
theorem cut_mem (h:Inv N B cls σ)(hn:σ.be[H]?=some n){l:Int}(m:-l∈σ.row)(hl:hgtv σ l.natAbs≤H):-l∈σ.row.take n:=by
 obtain ⟨i,hi⟩:=List.mem_iff_getElem?.mp m
 rw [hv_neg h hi] at hl
 have hin:i<n:=Nat.not_le.mp fun q=>absurd (lvl_ge h.bes hn q) (Nat.not_lt.mpr hl)
 exact List.mem_iff_getElem?.mpr ⟨i,by rw [List.getElem?_take,if_pos hin]; exact hi⟩
theorem cut_not (h:Inv N B cls σ)(hn:σ.be[H]?=some n){p:Nat}(rp:σ.row[p]?=some P)(lp:lvl σ.be p=σ.be.length)(hH:H<σ.be.length):P∉σ.row.take n:=fun q=>by
 obtain ⟨i,hi⟩:=List.mem_iff_getElem?.mp q
 have hin:i<n:=Nat.lt_of_lt_of_le (List.getElem?_eq_some_iff.mp hi).1 (by rw [List.length_take]; exact Nat.min_le_left ..)
 rw [List.getElem?_take,if_pos hin] at hi
 have e:i=p:=(h.hv hi).2.2.symm.trans (h.hv rp).2.2
 subst e
 have a:=lvl_cut h.bes hn hin
 have b:=lvl_le (be:=σ.be.take H) (i:=i)
 rw [a,lp,List.length_take] at b
 exact absurd (Nat.le_trans b (Nat.min_le_left ..)) (Nat.not_le.mpr hH)
theorem bk_ok (hN:N≤100)(hB:B≤100000)(h:Inv N B cls σ)(hs:σ.be≠[]){p:Nat}(Le:Lesson N B cls σ p bh ht)(hlg:σ.lg.length<B)(hp:r.Perm bh)(hsrt:r.Pairwise fun a b=>hgtv σ b.natAbs≤hgtv σ a.natAbs) :
  ∃ n σ3,(({ σ with ht:=ht,gain:=g }:St).note ys).back (σ.topH r)=some σ3∧Bk N B cls σ (nth σ.row p) bh ys ht g (σ.topH r) n σ3:=by
 have rp:=getD_get (c:=σ.row) Le.pl
 obtain ⟨max,ex⟩:=top_of (bh:=bh) hp hsrt
 have lt:=bk_lt h hs Le.low ex
 generalize σ.topH r=H at *
 have hn:σ.be[H]?=some σ.be[H]:=List.getElem?_eq_getElem lt
 obtain ⟨kn,li,e3,I3,hnl,_⟩:=back_ok (σ:=({ σ with ht:=ht,gain:=g }:St).note ys) hN hB (note_ok (heat_ok h Le.keyed g) hlg) hn
 exact ⟨_,_,e3,I3,rfl,rfl,rfl,rfl,rfl,rfl,rfl,rfl,rfl,rfl,rfl,rfl,rfl,hn,hnl,max,ex,List.mem_of_getElem? rp,cut_not h hn rp ((h.hv rp).2.1.symm.trans Le.top) lt⟩
theorem Bk.len (K:Bk N B cls σ P bh ys ht g H n σ3):σ3.be.length=H:=by
 rw [K.be,List.length_take]
 exact Nat.min_eq_left (Nat.le_of_lt (List.getElem?_eq_some_iff.mp K.hn).1)
theorem heated {σ4:St}(h4:Inv N B cls σ4):Inv N B cls σ4.heat:={ h4 with room:=⟨h4.room.kn,h4.room.hh,h4.room.ca,h4.room.li,h4.room.ht,h4.room.wd,h4.room.row,h4.room.be,h4.room.rows,h4.room.lg,h4.room.wl⟩ }
theorem Bk.lets (K:Bk N B cls σ P bh ys ht g H n σ3)(h:Inv N B cls σ){σx:St}(I:Inv N B cls σx)(er:σx.row=σ3.row)(eb:σx.be=σ3.be){o:Option Nat}(h0:σx.be=[]→Forced (cls++σx.lg) (-P))(h1:σx.be≠[]→∃ k c,o=some k∧σx.rows[k]?=some c∧-P∈c∧∀ m∈c,m≠-P→-m∈σx.row)(h2:o=none∨∃ k c,o=some k∧σx.rows[k]?=some c∧-P∈c∧∀ m∈c,m≠-P→-m∈σx.row):Inv N B cls (σx.let' (-P) o):=by
 refine let_ok I (by rw [Int.natAbs_neg]; exact h.known.rng _ K.mem) ?_ ?_ h0 (fun a uu=>h1 a) h2
 ·rw [er,K.row]
  exact fun q=>h.known.not_both K.mem (List.mem_of_mem_take q)
 ·rw [er,K.row,Int.neg_neg]
  exact K.nP
theorem Bk.done (K:Bk N B cls σ P bh ys ht g H n σ3){p:Nat}(hP:nth σ.row p=P){rs:List (List Int)}{w:List (Int×List Nat)}{o:Option Nat}(I:Inv N B cls (({ σ3 with rows:=rs,wd:=w }:St).let' (-P) o))(hrs:rs.length≤σ.rows.length + 1)(ho:bh=[]∨o≠none)
  (way:bh=[]∧rs=σ.rows∨∃ r,rs=σ.rows++[-P::r]∧r.Perm bh)(full:∀ s,Full σ s→(∀ b∈σ.be,b≤s)→Full (({ σ3 with rows:=rs,wd:=w }:St).let' (-P) o) n):Learnt N B cls σ p bh ys ht g (({ σ3 with rows:=rs,wd:=w }:St).let' (-P) o).heat:=by
 have hlt:=(List.getElem?_eq_some_iff.mp K.hn).1
 have ab:tget (tset σ3.hh (-P).natAbs σ3.be.length) (nth σ.row p).natAbs=some H:=by rw [hP,Int.natAbs_neg,tget_tset,if_pos rfl,K.len]
 have ac:tset σ3.ca (-P).natAbs o=tset σ.ca (nth σ.row p).natAbs o:=by rw [hP,K.ca,Int.natAbs_neg]
 have ag:σ3.gain + σ3.gain.fdiv 8 + 1=g + g.fdiv 8 + 1:=by rw [K.gain]
 have aw:σ3.row++[-P]=σ.row.take n++[-(nth σ.row p)]:=by rw [K.row,hP]
 rw [← hP] at way
 exact ⟨heated I,K.lg,K.cl,K.ref,K.lim,K.bl,ag,K.ht,hrs,⟨H,n,hlt,K.max,K.ex,K.hn,K.hnl,K.be,aw,ab,K.seen⟩,⟨o,ac,ho⟩,way,fun s F top=>by
  show Full _ σ3.seen
  rw [K.seen]
  exact ⟨(full s F top).att,(full s F top).wch⟩⟩
theorem neg_ne {z:Int}(h1:z = -z)(h2:1≤z.natAbs):False:=by lia
theorem lesson_good (h:Inv N B cls σ){x:Int}(low:∀ l∈bh,0<hgtv σ l.natAbs∧hgtv σ l.natAbs≠σ.be.length∧-l∈σ.row)(top:hgtv σ P.natAbs=σ.be.length)(nd:(bh.map Int.natAbs).Nodup)(hp:(x::r).Perm bh)(mem:P∈σ.row):GoodC N (-P::x::r):=by
 have pm:∀ l,l∈x::r↔l∈bh:=fun l=>hp.mem_iff
 have rngP:=h.known.rng _ mem
 have nPbh:∀ l∈x::r,l.natAbs≠P.natAbs:=fun l hl q=>by
  have:=(low l ((pm l).mp hl)).2.1
  rw [q] at this
  exact this top
 refine ⟨Nat.le_add_left ..,List.nodup_cons.mpr ⟨fun q=>nPbh _ q (Int.natAbs_neg P),nodup_of_abs ((hp.map Int.natAbs).nodup_iff.mpr nd)⟩,fun l hl=>?_,fun l hl q=>?_⟩
 ·rcases List.mem_cons.mp hl with q | q
  ·rw [q,Int.natAbs_neg]; exact rngP
  ·have:=h.known.rng _ (low l ((pm l).mp q)).2.2
   rw [Int.natAbs_neg] at this; exact this
 ·rcases List.mem_cons.mp hl with a | a <;> rcases List.mem_cons.mp q with b | b
  ·rw [a,Int.neg_neg] at b
   exact neg_ne b rngP.1
  ·exact nPbh _ b (by rw [a,Int.natAbs_neg,Int.natAbs_neg])
  ·exact nPbh _ a (by rw [Int.neg_inj.mp b])
  ·have h2:=(low (-l) ((pm _).mp b)).2.2
   rw [Int.neg_neg] at h2
   exact h.known.not_both h2 (low l ((pm l).mp a)).2.2
theorem Bk.cut (K:Bk N B cls σ P bh ys ht g H n σ3)(h:Inv N B cls σ){o:Option Nat}{s:Nat}(F:Full σ s)(top:∀ b∈σ.be,b≤s):Full (σ3.let' (-P) o) n:=
 cut_full (σ':=σ3.let' (-P) o) (ext:=[-P]) h K.hn F top K.rows K.wd K.be (by show σ3.row++[-P]=_; rw [K.row])
theorem Bk.full (K:Bk N B cls σ P bh ys ht g H n σ3)(h:Inv N B cls σ){x:Int}(hx:hgtv σ x.natAbs=H){o:Option Nat}{s:Nat}(F:Full σ s)(top:∀ b∈σ.be,b≤s):Full ((σ3.let' (-P) o).keep (-P::x::r)) n:=by
 have ln:(σ.row.take n).length=n:=by rw [List.length_take]; exact Nat.min_eq_left K.hnl
 refine keep_full2 (K.cut h F top) (Nat.le_add_left ..) fun w w' p' i hi ei=>?_
 have ei:(σ3.row++[-P])[i]?=some (-w):=ei
 rw [K.row,List.getElem?_append_left (by rw [ln]; exact hi)] at ei
 cases p' with
 | one=>
  have ei:(σ.row.take n)[i]?=some (- -P):=ei
  rw [Int.neg_neg] at ei
  exact absurd (List.mem_of_getElem? ei) K.nP
 | two=>
  have ei:(σ.row.take n)[i]?=some (-x):=ei
  refine ⟨n,?_,?_⟩
  ·show (σ3.row++[-P])[n]?=some (-P)
   rw [K.row,List.getElem?_append_right (Nat.le_of_eq ln),ln,Nat.sub_self]
   rfl
  ·show lvl σ3.be n≤lvl σ3.be i
   rw [List.getElem?_take,if_pos hi] at ei
   rw [K.be,lvl_cut h.bes K.hn hi,← hv_neg h ei,hx,← K.be]
   exact Nat.le_trans lvl_le (Nat.le_of_eq K.len)
end
theorem learnt_ok (hN:N≤100)(hB:B≤100000)(h:Inv N B cls σ)(hs:σ.be≠[]){p:Nat}{bh ys r:List Int}{ht:List (Int×Int)}{g:Int}(Le:Lesson N B cls σ p bh ht)(hr:σ.rows.length<B)(hlg:σ.lg.length<B)
  (ho:OrdOf (-(nth σ.row p)::bh) ys)(hp:r.Perm bh)(hsrt:r.Pairwise fun a b=>hgtv σ b.natAbs≤hgtv σ a.natAbs) :
  ∃ σ5,({ σ with ht:=ht,gain:=g }:St).learnt (-(nth σ.row p)) r ys=some σ5∧Learnt N B cls σ p bh ys ht g σ5:=by
 obtain ⟨n,σ3,e3,K⟩:=bk_ok (ys:=ys) (g:=g) hN hB h hs Le hlg hp hsrt
 obtain ⟨_,top,low,nd,_,_,_⟩:=Le
 generalize hP:nth σ.row p=P at *
 have ysB:ys∈cls++σ3.lg:=by rw [K.lg]; exact List.mem_append.mpr (.inr (List.mem_append.mpr (.inr (List.mem_singleton_self _))))
 unfold St.learnt
 rw [show ({ σ with ht:=ht,gain:=g }:St).topH r=σ.topH r by cases r <;> rfl,e3]
 show ∃ σ5,(if fit σ3=false then none else _)=some σ5∧_
 rw [if_neg (by rw [K.inv.fit hN hB]; decide)]
 cases r with
 | nil=>
  have hbh:bh=[]:=(List.Perm.nil_eq hp).symm
  have I4:=K.lets h K.inv rfl rfl (o:=none) (fun uu U s=>(s ys ysB).2 _ ((ho.mem _).mpr (.head _)) fun l hl ne=>by
   rcases List.mem_cons.mp ((ho.mem l).mp hl) with q | q
   ·exact absurd q ne
   ·rw [hbh] at q; cases q) (fun hb=>absurd (List.eq_nil_of_length_eq_zero K.len) hb) (.inl rfl)
  exact ⟨_,rfl,K.done hP I4 (by rw [K.rows]; exact Nat.le_succ _) (.inl hbh) (.inl ⟨hbh,K.rows⟩) fun s F top=>K.cut h F top⟩
 | cons x r=>
  have hx:x∈bh:=hp.mem_iff.mp (.head _)
  have pm:∀ l,l∈x::r↔l∈bh:=fun l=>hp.mem_iff
  have G:=lesson_good h low top nd hp K.mem
  have yl:∀ l,l∈ys↔l∈-P::x::r:=fun l=>(ho.mem l).trans (by rw [List.mem_cons,List.mem_cons,pm])
  have I4:=keep_ok K.inv G (by rw [K.rows]; exact hr) ⟨ys,ysB,fun l hl=>(yl l).mpr hl,fun l hl=>.inl ((yl l).mp hl)⟩
  show ∃ σ5,(if fit (σ3.keep (-P::x::r))=false then none else _)=some σ5∧_
  rw [if_neg (by rw [I4.fit hN hB]; decide)]
  have why5:∃ k c,some σ3.rows.length=some k∧(σ3.keep (-P::x::r)).rows[k]?=some c∧-P∈c∧∀ m∈c,m≠-P→-m∈(σ3.keep (-P::x::r)).row:=⟨_,_,rfl,List.getElem?_concat_length ..,.head _,fun m hm ne=>by
   have q:=(pm m).mp ((List.mem_cons.mp hm).resolve_left ne)
   show -m∈σ3.row
   rw [K.row]
   exact cut_mem h K.hn (low m q).2.2 (K.max m q)⟩
  have I5:=K.lets h I4 rfl rfl (fun hb=>by
   have q:([]:List Nat).length=hgtv σ x.natAbs:=hb▸K.len
   exact absurd q (Nat.ne_of_lt (low x hx).1)) (fun uu=>why5) (.inr why5)
  refine ⟨_,rfl,K.done hP I5 ?_ (.inr fun z=>ns z.symm) (.inr ⟨x::r,?_,hp⟩) fun s F top=>?_⟩
  ·rw [List.length_append,K.rows]; exact Nat.le_refl _
  ·rw [K.rows]
  ·exact ⟨(K.full h rfl F top (o:=some σ3.rows.length)).att,(K.full h rfl F top (o:=some σ3.rows.length)).wch⟩
end
end Mini.C
end
section
namespace Mini.C
open Mini
section
variable {N B:Nat}{cls:List (List Int)}{σ:St}
noncomputable def Sat (A:Int→Prop)(C:List Int):Prop:=∃ l∈C,A l
structure Assign (N:Nat)(A:Int→Prop):Prop where
 one:∀ l,A l→¬ A (-l)
 all:∀ l:Int,1≤l.natAbs→l.natAbs≤N→A l∨A (-l)
theorem Assign.shut {A:Int→Prop}(h:Assign N A){C:List Int}(s:Sat A C):Shut A C:=by
 obtain ⟨l,hl,al⟩:=s
 refine ⟨⟨l,hl,h.one l al⟩,fun p hp hq=>?_⟩
 by_cases e:l=p
 ·exact e▸al
 ·exact absurd (hq l hl e) (h.one l al)
noncomputable def LogOk (N:Nat)(cls lg:List (List Int)):Prop:=∀ A,Assign N A→(∀ C∈cls,Sat A C)→∀ C∈lg,Sat A C
theorem LogOk.nil:LogOk N cls []:=fun A uu uu C h=>by cases h
theorem LogOk.step {lg:List (List Int)}{T T':List Int}(h:LogOk N cls lg)(ht:∀ l∈T,1≤l.natAbs∧l.natAbs≤N)(hm:∀ l,l∈T'↔l∈T)(hr:∀ U:Int→Prop,Shuts U (cls++lg)→(∀ l∈T,U (-l))→False):LogOk N cls (lg++[T']):=by
 intro A hA hs C hC
 rcases List.mem_append.mp hC with q | q
 ·exact h A hA hs C q
 ·rw [List.mem_singleton.mp q]
  apply Classical.byContradiction
  intro no
  refine hr A (fun D hD=>?_) fun l hl=>?_
  ·rcases List.mem_append.mp hD with z | z
   ·exact hA.shut (hs D z)
   ·exact hA.shut (h A hA hs D z)
  ·rcases hA.all l (ht l hl).1 (ht l hl).2 with z | z
   ·exact absurd ⟨l,(hm l).mpr hl,z⟩ no
   ·exact z
theorem LogOk.dead {lg:List (List Int)}{T:List Int}(h:LogOk N cls lg)(hd:Dead (cls++lg)):LogOk N cls (lg++[T]):=
 fun A hA hs C hC=>absurd (fun D hD=>by
  rcases List.mem_append.mp hD with z | z
  ·exact hA.shut (hs D z)
  ·exact hA.shut (h A hA hs D z)) (hd A)
end
end Mini.C
end
section
namespace Mini.C
open Mini
noncomputable def AtMost (σ:St)(k:Nat)(l:Int):Prop:=∃ i,σ.row[i]?=some l∧lvl σ.be i≤k
section
variable {B:Nat}{cls:List (List Int)}{σ:St}{s:Nat}{N:Nat}
theorem row_shut (I:Inv N B cls σ)(F:Full σ σ.row.length){n:Nat}{c:List Int}(e:σ.rows[n]?=some c):Shut (fun l=>l∈σ.row) c:=by
 have G:=I.rows c (List.mem_of_getElem? e)
 have h2:=G.two
 have m0:nth c 0∈c:=nth_mem (by lia)
 have m1:nth c 1∈c:=nth_mem (by lia)
 have n01:nth c 0≠nth c 1:=fun q=>by have:=nth_inj G.nodup (by lia) (by lia) q; lia
 have look:∀ {w w'},Pair c w w'→-w∈σ.row→w'∈σ.row:=fun {w w'} p m=>by
  obtain ⟨i,hi⟩:=List.mem_iff_getElem?.mp m
  obtain ⟨j,ej,_⟩:=F.wch n c w w' e p i (List.getElem?_eq_some_iff.mp hi).1 hi
  exact List.mem_of_getElem? ej
 refine ⟨?_,fun p hp ha=>?_⟩
 ·by_cases q:-(nth c 0)∈σ.row
  ·exact ⟨_,m1,fun m=>I.known.not_both (look .one q) m⟩
  ·exact ⟨_,m0,q⟩
 ·by_cases q:nth c 0=p
  ·have z:=look .two (ha _ m1 (q▸Ne.symm n01))
   exact q▸z
  ·have z:=look .one (ha _ m0 q)
   by_cases q1:nth c 1=p
   ·exact q1▸z
   ·exact absurd (ha _ m1 q1) fun m=>I.known.not_both z m
theorem closed (hz:∀ C∈cls,∀ l∈C,l≠0)(I:Inv N B cls σ)(cv:Cover cls σ)(F:Full σ σ.row.length):Shuts (fun l=>l∈σ.row) cls:=fun C hC=>by
 have K:=I.known
 have low:∀ {l},Low σ l→l∈σ.row:=fun ⟨i,e,_⟩=>List.mem_of_getElem? e
 induction cv C hC with
 | con q=>
  obtain ⟨l,m,m'⟩:=q
  refine ⟨?_,fun p hp ha=>?_⟩
  ·by_cases q:-l∈σ.row
   ·exact ⟨_,m',fun z=>by rw [Int.neg_neg] at z; exact K.not_both z q⟩
   ·exact ⟨_,m,q⟩
  ·by_cases q:l=p
   ·subst q
    have z:=ha _ m' fun q'=>hz C hC l m (by lia)
    rw [Int.neg_neg] at z
    exact z
   ·have z:=ha l m q
    by_cases q':-l=p
    ·exact q'▸z
    ·have z':=ha _ m' q'
     rw [Int.neg_neg] at z'
     exact absurd z fun z=>K.not_both z' z
 | @low l m h=>
  have h:=low h
  refine ⟨⟨_,m,fun z=>K.not_both h z⟩,fun p hp ha=>?_⟩
  by_cases q:l=p
  ·exact q▸h
  ·exact absurd (ha l m q) fun z=>K.not_both h z
 | @row n c e a r=>
  have S:=row_shut I F e
  refine ⟨let ⟨l,m,n⟩:=S.1; ⟨l,a l m,n⟩,fun p hp ha=>?_⟩
  by_cases q:p∈c
  ·exact S.2 p q fun l m ne=>ha l (a l m) ne
  ·obtain ⟨l,m,nl⟩:=S.1
   exact absurd (ha l (a l m) fun z=>q (z▸m)) nl
theorem lvl_push {be:List Nat}{n i:Nat}(h:i<n):lvl (be++[n]) i=lvl be i:=by
 unfold lvl
 rw [List.countP_append,List.countP_singleton,if_neg (by rw [decide_eq_true_iff]; exact Nat.not_le.mpr h),Nat.add_zero]
theorem full_to {σ':St}(h:Full σ s)(hr:σ'.rows=σ.rows)(hw:σ'.wd=σ.wd)(hl:∀ (i:Nat),i<s→∀ j l,σ.row[j]?=some l→lvl σ.be j≤lvl σ.be i→σ'.row[j]?=some l∧lvl σ'.be j≤lvl σ'.be i)(he:∀ (i:Nat) l,i<s→σ'.row[i]?=some l→σ.row[i]?=some l):Full σ' s:=
 ⟨fun lost=>by rw [hr,hw]; exact h.att lost,fun n c w w' e p i hi ei=>by
  rw [hr] at e
  obtain ⟨j,ej,lj⟩:=h.wch n c w w' e p i hi (he i _ hi ei)
  exact ⟨j,hl i hi j _ ej lj⟩⟩
theorem low_kin {σ':St}(k:Kin σ σ')(l:Int)(h:Low σ l):Low σ' l:=by
 obtain ⟨i,e,z⟩:=h
 obtain ⟨ext,hx⟩:=k.row
 exact ⟨i,by rw [hx,List.getElem?_append_left (List.getElem?_eq_some_iff.mp e).1]; exact e,by rw [k.be]; exact z⟩
end
end Mini.C
end
section
namespace Mini.C
open Mini
section
variable {N B s:Nat}{cls:List (List Int)}{σ:St}
theorem level_prop (I:Inv N B cls σ)(F:Full σ s){n:Nat}{c:List Int}(e:σ.rows[n]?=some c){p:Int}{k:Nat}(h:∀ l∈c,l≠p→∃ i:Nat,i<s∧σ.row[i]?=some (-l)∧lvl σ.be i≤k):∃ j:Nat,σ.row[j]?=some p∧lvl σ.be j≤k:=by
 have G:=I.rows c (List.mem_of_getElem? e)
 have h2:=G.two
 have m0:nth c 0∈c:=nth_mem (by lia)
 have m1:nth c 1∈c:=nth_mem (by lia)
 have n01:nth c 0≠nth c 1:=fun q=>by have:=nth_inj G.nodup (by lia) (by lia) q; lia
 have look:∀ {w w'},Pair c w w'→w∈c→w≠p→∃ j:Nat,σ.row[j]?=some w'∧lvl σ.be j≤k:=fun {w w'} pr m ne=>by
  obtain ⟨i,hi,ei,li⟩:=h w m ne
  obtain ⟨j,ej,lj⟩:=F.wch n c w w' e pr i hi ei
  exact ⟨j,ej,Nat.le_trans lj li⟩
 by_cases q:nth c 0=p
 ·have z:=look .two m1 (q▸Ne.symm n01)
  exact q▸z
 ·obtain ⟨j,ej,lj⟩:=look .one m0 q
  by_cases q1:nth c 1=p
  ·exact ⟨j,q1▸ej,lj⟩
  ·obtain ⟨i,_,ei,_⟩:=h _ m1 q1
   exact (I.known.not_both (List.mem_of_getElem? ej) (List.mem_of_getElem? ei)).elim
theorem learnt_new (I:Inv N B cls σ)(F:Full σ s)(top:∀ b∈σ.be,b≤s){H n:Nat}(hH:σ.be[H]?=some n){P:Int}{r:List Int}(hP:P∈σ.row)(hr:∀ l∈r,-l∈σ.row.take n){c:List Int}(hc:c∈σ.rows)(hs:∀ l,l∈c↔l∈-P::r):False:=by
 obtain ⟨m,e⟩:=List.mem_iff_getElem?.mp hc
 obtain ⟨j,ej,_⟩:=level_prop I F e (p:=-P) (k:=σ.be.length) fun l hl ne=>by
  have hl:=(List.mem_cons.mp ((hs l).mp hl)).resolve_left ne
  obtain ⟨i,ei⟩:=List.mem_iff_getElem?.mp (hr l hl)
  rw [List.getElem?_take] at ei
  by_cases q:i<n
  ·rw [if_pos q] at ei
   exact ⟨i,Nat.lt_of_lt_of_le q (top n (List.mem_of_getElem? hH)),ei,lvl_le⟩
  ·rw [if_neg q] at ei; exact ns ei
 exact I.known.not_both hP (List.mem_of_getElem? ej)
noncomputable def sgn (c:List Int)(v:Int):Nat:=if v∈c then 1 else if -v∈c then 2 else 0
noncomputable def code (c:List Int):Nat:=sgn c 1 + 3 * (sgn c 2 + 3 * (sgn c 3 + 3 * (sgn c 4 + 3 * sgn c 5)))
theorem sgn_lt (c:List Int)(v:Int):sgn c v<3:=by
 unfold sgn
 by_cases h:v∈c
 ·rw [if_pos h]; decide
 ·rw [if_neg h]
  by_cases h':-v∈c
  ·rw [if_pos h']; decide
  ·rw [if_neg h']; decide
theorem code_lt (c:List Int):code c<243:=by
 have h1:=sgn_lt c 1
 have h2:=sgn_lt c 2
 have h3:=sgn_lt c 3
 have h4:=sgn_lt c 4
 have h5:=sgn_lt c 5
 unfold code
 lia
theorem sgn_mem {c:List Int}(hc:∀ l∈c,-l∉c){v:Int}:(sgn c v=1↔v∈c)∧(sgn c v=2↔-v∈c):=by
 unfold sgn
 by_cases h:v∈c
 ·rw [if_pos h]
  exact ⟨⟨fun uu=>h,fun uu=>rfl⟩,⟨fun z=>absurd z (by decide),fun z=>absurd z (hc v h)⟩⟩
 ·rw [if_neg h]
  by_cases h':-v∈c
  ·rw [if_pos h']; exact ⟨⟨fun z=>absurd z (by decide),fun z=>absurd z h⟩,⟨fun uu=>h',fun uu=>rfl⟩⟩
  ·rw [if_neg h']; exact ⟨⟨fun z=>absurd z (by decide),fun z=>absurd z h⟩,⟨fun z=>absurd z (by decide),fun z=>absurd z h'⟩⟩
theorem code_inj {c d:List Int}(Gc:GoodC 5 c)(Gd:GoodC 5 d)(e:code c=code d):∀ l,l∈c↔l∈d:=by
 have hv:∀ v:Int,v=1∨v=2∨v=3∨v=4∨v=5→sgn c v=sgn d v:=by
  have a1:=sgn_lt c 1
  have a2:=sgn_lt c 2
  have a3:=sgn_lt c 3
  have a4:=sgn_lt c 4
  have b1:=sgn_lt d 1
  have b2:=sgn_lt d 2
  have b3:=sgn_lt d 3
  have b4:=sgn_lt d 4
  unfold code at e
  rintro v (rfl | rfl | rfl | rfl | rfl) <;> lia
 have half:∀ {c d:List Int},GoodC 5 c→GoodC 5 d→(∀ v:Int,v=1∨v=2∨v=3∨v=4∨v=5→sgn c v=sgn d v)→∀ l,l∈c→l∈d:=fun {c d} Gc Gd hv l hl=>by
  have r:=Gc.rng l hl
  have sc:=sgn_mem Gc.nocon (v:=(l.natAbs:Int))
  have sd:=sgn_mem Gd.nocon (v:=(l.natAbs:Int))
  have z:=hv (l.natAbs:Int) (by lia)
  rcases Int.natAbs_eq l with q | q
  ·have m:=sc.1.mpr (q▸hl)
   rw [z] at m
   exact q▸sd.1.mp m
  ·have q':-(l.natAbs:Int)=l:=q.symm
   have m:=sc.2.mpr (by rw [q']; exact hl)
   rw [z] at m
   have:=sd.2.mp m
   rwa [q'] at this
 exact fun l=>⟨half Gc Gd hv l,half Gd Gc (fun v h=>(hv v h).symm) l⟩
noncomputable def absent (rows:List (List Int)):Nat:=(List.range 243).countP fun k=>!(rows.map code).contains k
theorem absent_le {rows rows':List (List Int)}(h:∀ c∈rows,∃ c'∈rows',code c'=code c):absent rows'≤absent rows:=by
 refine List.countP_mono_left fun k uu hk=>?_
 rw [Bool.not_eq_true',← Bool.not_eq_true,List.contains_iff_mem] at hk ⊢
 refine fun m=>hk ?_
 obtain ⟨c,hc,rfl⟩:=List.mem_map.mp m
 obtain ⟨c',hc',e⟩:=h c hc
 exact e▸List.mem_map.mpr ⟨c',hc',rfl⟩
theorem count_lt {p q:Nat→Bool}{L:List Nat}(h:∀ k∈L,q k=true→p k=true){a:Nat}(ha:a∈L)(pa:p a=true)(qa:q a=false):L.countP q + 1≤L.countP p:=by
 induction L with
 | nil=>exact absurd ha List.not_mem_nil
 | cons x r ih=>
  rw [List.countP_cons,List.countP_cons]
  have mono:r.countP q≤r.countP p:=List.countP_mono_left fun k hk=>h k (List.mem_cons_of_mem _ hk)
  rcases List.mem_cons.mp ha with rfl | m
  ·rw [pa,qa,if_pos rfl,if_neg (by decide)]
   exact Nat.succ_le_succ mono
  ·have z:=ih (fun k hk=>h k (List.mem_cons_of_mem _ hk)) m
   by_cases c:q x=true
   ·rw [if_pos c,if_pos (h x List.mem_cons_self c)]; lia
   ·rw [if_neg c]
    by_cases c':p x=true
    ·rw [if_pos c']; lia
    ·rw [if_neg c']; lia
theorem absent_lt {rows:List (List Int)}{c:List Int}(hn:∀ d∈rows,code d≠code c):absent (rows++[c]) + 1≤absent rows:=by
 refine count_lt (a:=code c) (fun k uu hk=>?_) (List.mem_range.mpr (code_lt c)) ?_ ?_
 ·rw [Bool.not_eq_true',← Bool.not_eq_true,List.contains_iff_mem] at hk ⊢
  exact fun m=>hk (by rw [List.map_append]; exact List.mem_append.mpr (.inl m))
 ·rw [Bool.not_eq_true',← Bool.not_eq_true,List.contains_iff_mem]
  exact fun m=>by
   obtain ⟨d,hd,e⟩:=List.mem_map.mp m
   exact hn d hd e
 ·rw [Bool.not_eq_false',List.contains_iff_mem,List.map_append]
  exact List.mem_append.mpr (.inr (List.mem_singleton.mpr rfl))
end
end Mini.C
end
section
namespace Mini.C
open Mini
section
variable {N B s:Nat}{cls:List (List Int)}{σ:St}
inductive Dec (σ:St)(x:Int):Prop
 | mk {j:Nat}(e:σ.row[j]?=some x)(l:0<lvl σ.be j)(c:tget σ.ca x.natAbs=some none):Dec σ x
inductive Found (σ:St)(rest found mk:List Int):Prop
 | mk {ext:List Int}(b:Blame σ (found++ext) rest found mk)(s:ext.Sublist rest)(d:∀ x∈ext,Dec σ x):Found σ rest found mk
theorem blame_ex (I:Inv 5 B cls σ){i:Nat}:∀ {found mk:List Int},i≤σ.row.length→found.length + i≤1000→mk.length + 11 * i≤2000→Found σ (σ.row.take i).reverse found mk:=by
 induction i with
 | zero=>exact fun {found mk} _ _ _=>.mk (ext:=[]) (by rw [List.append_nil]; exact .nil) (List.nil_sublist _) fun x h=>absurd h List.not_mem_nil
 | succ i ih=>
  intro found mk hi hf hm
  have hr:σ.row[i]?=some σ.row[i]:=List.getElem?_eq_getElem hi
  have er:(σ.row.take (i + 1)).reverse=σ.row[i]::(σ.row.take i).reverse:=by rw [List.take_add_one,hr,Option.toList,List.reverse_append]; rfl
  have eh:=I.hh i _ hr
  have hw:=I.why i _ hr
  generalize σ.row[i]=one at er hr eh hw
  rw [er]
  have same:Found σ (σ.row.take i).reverse found mk:=ih (Nat.le_of_lt hi) (by lia) (by lia)
  by_cases m:(one.natAbs:Int)∈mk
  ·by_cases l0:lvl σ.be i=0
   ·rw [l0] at eh
    induction same with
    | mk b s d=>exact .mk (.low m eh b) (s.cons _) d
   ·rcases hw with c | ⟨k,cl,c,ec,_⟩
    ·induction ih (found:=found++[one]) (mk:=mk) (Nat.le_of_lt hi) (by rw [List.length_append,List.length_singleton]; lia) (by lia) with
     | @mk ext b s d=>
      rw [List.append_assoc] at b
      exact .mk (ext:=one::ext) (.dec m eh l0 c (by lia) b) (s.cons_cons _) fun x hx=>(List.mem_cons.mp hx).elim (fun q=>q▸⟨hr,Nat.pos_of_ne_zero l0,c⟩) (d x)
    ·have lc:=(I.rows cl (List.mem_of_getElem? ec)).len
     induction ih (found:=found) (mk:=mk++cl.map fun x=>(x.natAbs:Int)) (Nat.le_of_lt hi) (by lia) (by rw [List.length_append,List.length_map]; lia) with
     | mk b s d=>exact .mk (.why m eh l0 c ec (by lia) b) (s.cons _) d
  ·induction same with
   | mk b s d=>exact .mk (.off m b) (s.cons _) d
theorem Blame.sub {out rest found mk:List Int}(b:Blame σ out rest found mk):∀ x∈found,x∈out:=by
 induction b with
 | nil=>exact fun x h=>h
 | off _ _ ih=>exact ih
 | low _ _ _ ih=>exact ih
 | dec _ _ _ _ _ _ ih=>exact fun x h=>ih x (List.mem_append.mpr (.inl h))
 | why _ _ _ _ _ _ _ ih=>exact ih
inductive Behind (row:List Int)(i:Nat)(one:Int)(r:List Int):Prop
 | mk {j:Nat}(e:r=(row.take j).reverse)(h:row[j]?=some one)(m:∀ l∈row.take i,l=one∨l∈row.take j):Behind row i one r
theorem behind {row:List Int}{i:Nat}{one:Int}{r:List Int}(e:one::r=(row.take i).reverse):Behind row i one r:=by
 have e2:row.take i=r.reverse++[one]:=by rw [← List.reverse_reverse (row.take i),← e,List.reverse_cons]
 have l2:=congrArg List.length e2
 rw [List.length_take,List.length_append,List.length_reverse,List.length_singleton] at l2
 have hi:r.length + 1≤i:=l2▸Nat.min_le_left ..
 have e3:row.take r.length=r.reverse:=by
  have z:=congrArg (List.take r.length) e2
  rw [List.take_take,Nat.min_eq_left (Nat.le_of_succ_le hi),List.take_append_of_le_length (by rw [List.length_reverse]; exact Nat.le_refl _)] at z
  rw [List.take_of_length_le (l:=r.reverse) (by rw [List.length_reverse]; exact Nat.le_refl _)] at z
  exact z
 refine .mk (j:=r.length) (by rw [e3,List.reverse_reverse]) ?_ fun l hl=>?_
 ·have z:(row.take i)[r.length]?=(r.reverse++[one])[r.length]?:=by rw [e2]
  rw [List.getElem?_take,if_pos (Nat.lt_of_succ_le hi),List.getElem?_append_right (by rw [List.length_reverse]; exact Nat.le_refl _),List.length_reverse,Nat.sub_self] at z
  exact z
 ·rw [e2] at hl
  rw [e3]
  exact (List.mem_append.mp hl).elim .inr fun q=>.inl (List.mem_singleton.mp q)
theorem blame_sem (I:Inv N B cls σ){U:Int→Prop}(hU:Assign N U)(hs:∀ C∈cls++σ.lg,Sat U C){out rest found mk:List Int}(b:Blame σ out rest found mk)(ho:∀ x∈out,U x):∀ i,rest=(σ.row.take i).reverse→∀ l∈σ.row.take i,(l.natAbs:Int)∈mk→U l:=by
 have sh:Shuts U (cls++σ.lg):=fun C hC=>hU.shut (hs C hC)
 induction b with
 | nil=>
  intro i e l hl
  have z:σ.row.take i=[]:=List.reverse_eq_nil_iff.mp e.symm
  rw [z] at hl
  exact absurd hl List.not_mem_nil
 | off n k ih=>
  intro i e l hl m
  obtain ⟨er,_,mm⟩:=behind e
  exact (mm l hl).elim (fun q=>absurd (q▸m) n) fun q=>ih _ er l q m
 | low m e0 k ih=>
  intro i e l hl m
  obtain ⟨er,eh,mm⟩:=behind e
  refine (mm l hl).elim (fun q=>?_) fun q=>ih _ er l q m
  rw [q]
  exact I.low _ _ eh (Option.some.inj ((I.hh _ _ eh).symm.trans e0)) U sh
 | dec m e0 n0 c0 l0 k ih=>
  intro i e l hl m
  obtain ⟨er,eh,mm⟩:=behind e
  refine (mm l hl).elim (fun q=>?_) fun q=>ih _ er l q m
  rw [q]
  exact ho _ (k.sub _ (List.mem_append.mpr (.inr (List.mem_singleton_self _))))
 | @why one r found mk n k cl m0 e0 n0 c0 ec l0 b ih=>
  intro i e l hl m
  obtain ⟨er,eh,mm⟩:=behind e
  have low:=fun x q m=>ih _ er x q (List.mem_append.mpr m)
  refine (mm l hl).elim (fun q=>?_) fun q=>low l q (.inl m)
  rw [q]
  rcases I.why _ _ eh with z | ⟨k',c',z,ec',kc,ko⟩
  ·exact ns (Option.some.inj (c0.symm.trans z)).symm
  ·have:=Option.some.inj (Option.some.inj (c0.symm.trans z))
   subst this
   obtain rfl:=Option.some.inj (ec.symm.trans ec')
   obtain ⟨C,hC,a,b⟩:=I.org cl (List.mem_of_getElem? ec)
   obtain ⟨x,hx,ux⟩:=hs C hC
   have no:∀ {x:Int},U x→U (-x)→False:=fun {x} u v=>hU.one x u v
   rcases b x hx with w | w
   ·by_cases q1:x=one
    ·exact q1▸ux
    ·exact (no ux (low _ (ko x w q1) (.inr (List.mem_map.mpr ⟨x,w,by rw [Int.natAbs_neg]⟩)))).elim
   ·exact (no ux (w U sh)).elim
theorem blame_ok (I:Inv 5 B cls σ){l:Int}(hl:-l∈σ.row):∃ ext,Blame σ (l::ext) σ.row.reverse [l] [(l.natAbs:Int)]∧ext.Sublist σ.row.reverse∧(∀ x∈ext,Dec σ x) ∧
  ∀ U,Assign 5 U→(∀ C∈cls++σ.lg,Sat U C)→(∀ x∈l::ext,U x)→False:=by
 have hr:=I.room.row
 have z:=blame_ex I (i:=σ.row.length) (found:=[l]) (mk:=[(l.natAbs:Int)]) (Nat.le_refl _) (by rw [List.length_singleton]; lia) (by rw [List.length_singleton]; lia)
 rw [List.take_of_length_le (Nat.le_refl _)] at z
 induction z with
 | @mk ext b s d=>
 refine ⟨ext,b,s,d,fun U hU hs ho=>?_⟩
 have z:=blame_sem I hU hs b ho σ.row.length (by rw [List.take_of_length_le (Nat.le_refl _)]) (-l) (by rw [List.take_of_length_le (Nat.le_refl _)]; exact hl) (by rw [Int.natAbs_neg]; exact List.mem_singleton_self _)
 exact hU.one l (ho l List.mem_cons_self) z
end
end Mini.C
end
section
namespace Mini.C
open Mini
noncomputable abbrev BB:Nat:=100000
noncomputable def base (σ:St):Nat:=match σ.be with
 | []=>σ.row.length
 | n::_=>n
noncomputable def pot (σ:St):Nat:=absent σ.rows + (5 - base σ)
noncomputable def due (σ:St)(r s:Int):Nat:=if s≤σ.cl - r then 1 else 0
noncomputable def fuel (A:List Int)(σ:St)(r s:Int):Nat:=pot σ * 20 + due σ r s * 10 + ((A.length - σ.be.length) + (5 - σ.row.length)) + 20
structure Asm (A:List Int)(σ:St):Prop where
 a:∀ k x,k<σ.be.length→A[k]?=some x→AtMost σ (k + 1) x
 b:∀ i x,σ.row[i]?=some x→0<lvl σ.be i→tget σ.ca x.natAbs=some none→x∈A∨A.length<lvl σ.be i
noncomputable def Unsat (cls:List (List Int)):Prop:=∀ U,Assign 5 U→¬ ∀ C∈cls,Sat U C
inductive Way (cls:List (List Int))(σ:St):Prop
 | dead (e:σ.ref=true)(b:σ.be=[])(room:Room' 5 BB σ)(u:Unsat cls)
 | live {s:Nat}(e:σ.ref=false)(I:Inv 5 BB cls σ)(C:Cover cls σ)(F:Full σ s)(top:∀ b∈σ.be,b≤s)(bot:σ.be=[]→s=σ.seen)
structure Rest (cls:List (List Int))(w:Nat)(σ:St):Prop where
 ht:Warm 5 σ.ht
 log:LogOk 5 cls σ.lg
 rows:σ.rows.length≤w
 lg:σ.lg.length≤w
 way:Way cls σ
inductive Fresh (lg0:List (List Int))(begun:Int)(σ:St):Prop
 | mk {f:List (List Int)}(e:σ.lg=lg0++f)(l:(f.length:Int)=σ.cl - begun)(g:∀ C∈f,∀ x∈C,1≤x.natAbs∧x.natAbs≤5)
section
variable {N B s w j:Nat}{cls lg0:List (List Int)}{σ:St}{A:List Int}{r sp begun lim:Int}
theorem click_ok (h:Inv N B cls σ):Inv N B cls σ.click:={ h with room:=⟨h.room.kn,h.room.hh,h.room.ca,h.room.li,h.room.ht,h.room.wd,h.room.row,h.room.be,h.room.rows,h.room.lg,h.room.wl⟩ }
theorem dead_of (I:Inv N B cls σ)(hb:σ.be=[]){c:List Int}(hr:c∈σ.rows)(hc:∀ m∈c,-m∈σ.row):Dead (cls++σ.lg):=fun U sU=>by
 obtain ⟨C,hC,b1,b2⟩:=I.org c hr
 obtain ⟨l,hl,nl⟩:=(sU C hC).1
 rcases b2 l hl with w | w
 ·obtain ⟨i,hi⟩:=List.mem_iff_getElem?.mp (hc l w)
  exact nl (I.low i _ hi (by rw [hb]; rfl) U sU)
 ·exact nl (w U sU)
theorem unsat_of (log:LogOk 5 cls σ.lg)(d:Dead (cls++σ.lg)):Unsat cls:=fun U hU h=>d U fun C hC=>hU.shut ((List.mem_append.mp hC).elim (h C) (log U hU h C))
structure Good (N:Nat)(p:Int)(bh:List Int):Prop where
 rng:∀ l∈-p::bh,1≤l.natAbs∧l.natAbs≤N
 nocon:¬ Contra (-p::bh)
 len:bh.length≤N
theorem good_of (I:Inv N B cls σ){p:Nat}{bh:List Int}{ht:List (Int×Int)}(L:Lesson N B cls σ p bh ht):Good N (nth σ.row p) bh:=by
 have bhr:∀ l∈bh,1≤l.natAbs∧l.natAbs≤N:=fun l hl=>by
  have:=I.known.rng _ (L.low l hl).2.2
  rwa [Int.natAbs_neg] at this
 have rP:=I.known.rng _ (nth_mem L.pl)
 have top:=L.top
 have low:=L.low
 have nd:=L.nd
 generalize nth σ.row p=P at *
 have nP:∀ l∈bh,l.natAbs≠P.natAbs:=fun l hl w=>(low l hl).2.1 (by rw [w]; exact top)
 have rng:∀ l∈-P::bh,1≤l.natAbs∧l.natAbs≤N:=fun l hl=>(List.mem_cons.mp hl).elim (fun w=>by rw [w,Int.natAbs_neg]; exact rP) (bhr l)
 refine ⟨rng,?_,nodup_nat nd bhr⟩
 rintro ⟨l,a1,a2⟩
 rcases List.mem_cons.mp a1 with w | w <;> rcases List.mem_cons.mp a2 with v | v
 ·have z:=(rng l a1).1
  rw [← v] at w
  rw [neg_self w.symm] at z
  exact absurd z (by decide)
 ·refine nP _ v ?_
  rw [Int.natAbs_neg,w,Int.natAbs_neg]
 ·refine nP _ w ?_
  rw [← Int.natAbs_neg,v,Int.natAbs_neg]
 ·have z:=(low _ v).2.2
  rw [Int.neg_neg] at z
  exact I.known.not_both (l:=l) z (low _ w).2.2
theorem code_perm {c d:List Int}(h:∀ l,l∈c↔l∈d):code c=code d:=by
 have e:∀ v,sgn c v=sgn d v:=fun v=>by unfold sgn; simp only [h]
 unfold code
 rw [e,e,e,e,e]
theorem learn_ok (I:Inv 5 BB cls σ)(C:Cover cls σ)(F:Full σ s)(top:∀ b∈σ.be,b≤s)(W:Warm 5 σ.ht)(log:LogOk 5 cls σ.lg)(hA:Asm A σ)(hb:σ.be≠[])(hrows:σ.rows.length<BB)(hlg:σ.lg.length<BB)
  {n:Nat}{c:List Int}(hr:σ.rows[n]?=some c)(hc:∀ m∈c,-m∈σ.row)(ht:∃ m∈c,∃ i,σ.row[i]?=some (-m)∧∀ b∈σ.be,b≤i){R:St→Prop}
  (q:∀ σ5,Inv 5 BB cls σ5→Cover cls σ5→Full σ5 σ5.seen→Warm 5 σ5.ht→LogOk 5 cls σ5.lg→Asm A σ5→pot σ5 + 1≤pot σ→σ5.cl=σ.cl + 1→σ5.ref=σ.ref→(∃ ys,σ5.lg=σ.lg++[ys]∧∀ x∈ys,1≤x.natAbs∧x.natAbs≤5)→σ5.rows.length≤σ.rows.length + 1→σ5.be.length≤σ.be.length→σ5.lim=σ.lim→σ5.bl=σ.bl→R σ5):Taught σ n R:=by
 have h5:5≤100:=by decide
 have hB:BB≤100000:=Nat.le_refl _
 obtain ⟨p,bh,ht',g,el,L⟩:=lesson_ok (σ:=σ.click) h5 hB (click_ok I) W hb hr hc ht
 have G:=good_of (σ:=σ.click) (click_ok I) L
 refine .mk el (fun w=>absurd (G.rng 0 w).1 (by decide)) G.nocon (Nat.lt_of_le_of_lt (Nat.succ_le_succ G.len) (by decide)) (Nat.lt_trans hlg (by decide)) (fun l hl=>?_) fun ys r' ho hp hs=>?_
 ·obtain ⟨i,hi⟩:=List.mem_iff_getElem?.mp (L.low l hl).2.2
  have z:=(I.hv hi).1
  rw [Int.natAbs_neg] at z
  exact z
 obtain ⟨σ5,e5,LL⟩:=learnt_ok (σ:=σ.click) h5 hB (click_ok I) hb L hrows hlg ho hp hs
 refine .mk e5 ?_
 obtain ⟨Hb,n,b1,b2,b3,b4,b5,b6,b7,b8,b9⟩:=LL.back
 have I5:=LL.inv
 have nz:=I5.room.row
 have b1:Hb<σ.be.length:=b1
 have b4:σ.be[Hb]?=some n:=b4
 have b5:n≤σ.row.length:=b5
 have b6:σ5.be=σ.be.take Hb:=b6
 have b7:σ5.row=σ.row.take n++[-(nth σ.row p)]:=b7
 have ln:(σ.row.take n).length=n:=by rw [List.length_take]; exact Nat.min_eq_left b5
 have low:∀ l∈bh,0<hgtv σ l.natAbs∧hgtv σ l.natAbs≠σ.be.length∧-l∈σ.row:=L.low
 have b2:∀ l∈bh,hgtv σ l.natAbs≤Hb:=b2
 have cut:∀ {i},i<n→lvl σ5.be i=lvl σ.be i:=fun h=>by rw [b6]; exact lvl_cut I.bes b4 h
 have under:∀ {i},lvl σ.be i≤Hb→i<n:=fun {i} h=>Nat.not_le.mp fun q=>absurd (lvl_ge I.bes b4 q) (Nat.not_lt.mpr h)
 have at5:∀ {i},i<n→σ5.row[i]?=σ.row[i]?:=fun h=>by rw [b7,List.getElem?_append_left (by rw [ln]; exact h),List.getElem?_take,if_pos h]
 have lowT:∀ l,Low σ l→Low σ5 l:=fun l ⟨i,ei,li⟩=>by
  have hi:=under (i:=i) (by rw [li]; exact Nat.zero_le _)
  exact ⟨i,(at5 hi).trans ei,(cut hi).trans li⟩
 have inlow:∀ l∈bh,-l∈σ.row.take n:=fun l hl=>by
  obtain ⟨i,hi⟩:=List.mem_iff_getElem?.mp (low l hl).2.2
  have a2:=(I.hv hi).2.1
  rw [Int.natAbs_neg] at a2
  have hin:=under (i:=i) (a2▸b2 l hl)
  exact List.mem_iff_getElem?.mpr ⟨i,by rw [List.getElem?_take,if_pos hin]; exact hi⟩
 have heads:0<Hb→base σ5=base σ:=fun h0=>by
  unfold base
  rw [b6]
  revert b1
  rcases σ.be with _ | ⟨m,ms⟩
  ·exact fun q=>absurd q (Nat.not_lt_zero _)
  ·rcases Hb with _ | Hb
   ·exact absurd h0 (Nat.lt_irrefl _)
   ·exact fun uu=>rfl
 have rl5:σ5.row.length=n + 1:=by rw [b7,List.length_append,ln]; rfl
 have pots:pot σ5 + 1≤pot σ:=by
  unfold pot
  rcases LL.way with ⟨w1,w2⟩ | ⟨r2,w1,w2⟩
  ·have h0:Hb=0:=by
    rcases b3 with z | ⟨x,hx,_⟩
    ·exact z.1
    ·rw [w1] at hx; exact absurd hx List.not_mem_nil
   subst h0
   have e1:base σ5=n + 1:=by unfold base; rw [b6,List.take_zero]; exact rl5
   have e2:base σ=n:=by
    unfold base
    revert b4
    rcases σ.be with _ | ⟨m,ms⟩
    ·exact fun q=>ns q
    ·exact fun q=>Option.some.inj q
   have w2:σ5.rows=σ.rows:=w2
   rw [w2,e1,e2]
   rw [rl5] at nz
   lia
  ·have w1:σ5.rows=σ.rows++[-(nth σ.row p)::r2]:=w1
   have Gc:=I5.rows (-(nth σ.row p)::r2) (by rw [w1]; exact List.mem_append.mpr (.inr (List.mem_singleton_self _)))
   have ne:∀ d∈σ.rows,code d≠code (-(nth σ.row p)::r2):=fun d hd e=>
    learnt_new I F top b4 (P:=nth σ.row p) (r:=r2) (nth_mem L.pl) (fun l hl=>inlow l (w2.mem_iff.mp hl)) hd (code_inj (I.rows d hd) Gc e)
   have z:=absent_lt ne
   have h0:0<Hb:=by
    rcases b3 with z | ⟨x,hx,ex⟩
    ·have l2:=Gc.two
     rw [z.2] at w2
     rw [w2.eq_nil] at l2
     exact absurd l2 (Nat.not_succ_le_self 1)
    ·exact ex▸(low x hx).1
   rw [w1,heads h0]
   lia
 refine q σ5 I5 (fun D hD=>(C D hD).to lowT fun m d e=>?_) (LL.full s ⟨F.att,F.wch⟩ top) (LL.ht▸L.warm) ?_ ⟨fun k x hk e=>?_,fun i x e h0 h1=>?_⟩ pots LL.cl LL.ref ⟨ys,LL.lg,fun x hx=>G.rng x ((ho.mem x).mp hx)⟩ LL.rows ?_ LL.lim LL.bl
 ·rcases LL.way with ⟨_,w2⟩ | ⟨r2,w1,_⟩
  ·exact ⟨d,by rw [w2]; exact e,.refl _⟩
  ·exact ⟨d,by rw [w1]; show (σ.rows++_)[m]?=_; rw [List.getElem?_append_left (List.getElem?_eq_some_iff.mp e).1]; exact e,.refl _⟩
 ·rw [LL.lg]
  exact log.step G.rng ho.mem fun U sU hU=>L.rup U sU (by
   have z:=hU (-(nth σ.row p)) List.mem_cons_self
   rw [Int.neg_neg] at z
   exact z) fun l hl=>hU l (List.mem_cons_of_mem _ hl)
 ·rw [b6,List.length_take] at hk
  have hk1:k<Hb:=Nat.lt_of_lt_of_le hk (Nat.min_le_left ..)
  obtain ⟨i,ei,li⟩:=hA.a k x (Nat.lt_of_lt_of_le hk (Nat.min_le_right ..)) e
  have hi:=under (Nat.le_trans li hk1)
  exact ⟨i,(at5 hi).trans ei,by rw [cut hi]; exact li⟩
 ·rcases Nat.lt_or_ge i n with hi | hi
  ·rw [at5 hi] at e
   rw [cut hi] at h0 ⊢
   obtain ⟨o,eo,_⟩:=LL.ca
   have eo:σ5.ca=tset σ.ca (nth σ.row p).natAbs o:=eo
   rw [eo,tget_tset] at h1
   by_cases c:((nth σ.row p).natAbs:Int)=x.natAbs
   ·have xm:x∈σ5.row:=List.mem_of_getElem? ((at5 hi).trans e)
    have e1:=(I5.hv ((at5 hi).trans e)).2.2
    have e2:σ5.row[n]?=some (-(nth σ.row p)):=by rw [b7,List.getElem?_append_right (Nat.le_of_eq ln),ln,Nat.sub_self]; rfl
    have e3:=(I5.hv e2).2.2
    rw [Int.natAbs_neg,c,e1] at e3
    exact absurd e3 (Nat.ne_of_lt hi)
   ·rw [if_neg c] at h1
    exact hA.b i x e h0 h1
  ·have hl:=(List.getElem?_eq_some_iff.mp e).1
   rw [rl5] at hl
   obtain rfl:=Nat.le_antisymm (Nat.le_of_lt_succ hl) hi
   rw [b7,List.getElem?_append_right (Nat.le_of_eq ln),ln,Nat.sub_self] at e
   obtain rfl:=Option.some.inj e
   obtain ⟨o,eo,alt⟩:=LL.ca
   have eo:σ5.ca=tset σ.ca (nth σ.row p).natAbs o:=eo
   rw [eo,tget_tset,Int.natAbs_neg,if_pos rfl] at h1
   rcases alt with z | z
   ·have h00:Hb=0:=by
     rcases b3 with y | ⟨y,hy,_⟩
     ·exact y.1
     ·rw [z] at hy; exact absurd hy List.not_mem_nil
    rw [b6,h00,List.take_zero] at h0
    exact absurd h0 (Nat.lt_irrefl _)
   ·exact absurd (Option.some.inj h1) z
 ·rw [b6]; exact List.length_take_le' _ _
end
end Mini.C
end
section
namespace Mini.C
open Mini
inductive Going (cls:List (List Int))(A:List Int)(lg0:List (List Int))(begun lim:Int)(w j:Nat)(σ:St)(r sp:Int):Prop
 | dead (e:σ.ref=true)(b:σ.be=[])(room:Room' 5 BB σ)(u:Unsat cls)(ht:Warm 5 σ.ht)(log:LogOk 5 cls σ.lg)(fr:Fresh lg0 begun σ)(lm:σ.lim=lim)(bl:σ.bl=[])(l1:σ.rows.length≤w)(l2:σ.lg.length≤w)
 | live (e:σ.ref=false)(I:Inv 5 BB cls σ)(C:Cover cls σ)(F:Full σ σ.seen)(as:Asm A σ)(ht:Warm 5 σ.ht)(log:LogOk 5 cls σ.lg)(fr:Fresh lg0 begun σ)(lm:σ.lim=lim)(bl:σ.bl=[])(sp0:0<sp)(fu:fuel A σ r sp≤j)
  (l1:σ.rows.length + j≤w)(l2:σ.lg.length + j≤w)(l3:σ.be.length + j≤w)
noncomputable def Spent (begun:Int)(σ:St):Prop:=0<σ.lim∧σ.lim≤σ.cl - begun
inductive Post (cls:List (List Int))(A:List Int)(lg0:List (List Int))(begun lim:Int)(w:Nat):Option Bool→St→Prop
 | yes {σ:St}(R:Rest cls w σ)(lm:σ.lim=lim)(bl:σ.bl=[])(fr:Fresh lg0 begun σ)(n:¬ Spent begun σ)(tot:∀ v:Int,1≤v→v≤5→v∈σ.row∨-v∈σ.row)(kn:Known 5 σ.row σ.kn)(sh:Shuts (fun l=>l∈σ.row) cls)(as:∀ x∈A,x∈σ.row):Post cls A lg0 begun lim w (some true) σ
 | dead {σ:St}(R:Rest cls w σ)(lm:σ.lim=lim)(fr:Fresh lg0 begun σ)(u:Unsat cls)(bl:σ.bl=[]):Post cls A lg0 begun lim w (some false) σ
 | lostC {σ:St}{out:List Int}(R:Rest cls w σ)(lm:σ.lim=lim)(fr:Fresh lg0 begun σ)(n:¬ Spent begun σ)(bl:σ.bl=out)(o0:out≠[])(sub:∀ x∈out,x∈A)(no:∀ U,Assign 5 U→(∀ C∈cls,Sat U C)→(∀ x∈out,U x)→False)(nd:out.Nodup)(c:Contra out):Post cls A lg0 begun lim w (some false) σ
 | lost {σ:St}{out ys:List Int}{f:List (List Int)}(R:Rest cls w σ)(lm:σ.lim=lim)(e:σ.lg=lg0++f++[ys])(l:(f.length:Int)=σ.cl - begun)(g:∀ C∈f,∀ x∈C,1≤x.natAbs∧x.natAbs≤5)(n:¬ Spent begun σ)(bl:σ.bl=out)(o0:out≠[])(sub:∀ x∈out,x∈A)(no:∀ U,Assign 5 U→(∀ C∈cls,Sat U C)→(∀ x∈out,U x)→False)(nd:out.Nodup)(c:¬ Contra out)(o:OrdOf (negs out) ys):Post cls A lg0 begun lim w (some false) σ
 | spent {σ:St}(R:Rest cls w σ)(lm:σ.lim=lim)(fr:Fresh lg0 begun σ)(n:Spent begun σ):Post cls A lg0 begun lim w none σ
section
variable {N B s w j:Nat}{cls lg0:List (List Int)}{σ σ':St}{A:List Int}{r sp begun lim:Int}
theorem base_app {n:Nat}{ext:List Int}(hb:σ'.be=σ.be)(hr:σ'.row=σ.row++ext):base σ≤base σ':=by
 unfold base
 rw [hb,hr]
 rcases σ.be with _ | ⟨n,r⟩
 ·exact len_left rfl
 ·exact Nat.le_refl _
theorem kin_fuel (K:Kin σ σ'):fuel A σ' r sp≤fuel A σ r sp:=by
 obtain ⟨ext,hx⟩:=K.row
 have p:pot σ'≤pot σ:=by
  unfold pot
  refine Nat.add_le_add (absent_le fun c hc=>?_) (Nat.sub_le_sub_left (base_app (n:=0) K.be hx) _)
  obtain ⟨n,e⟩:=List.mem_iff_getElem?.mp hc
  obtain ⟨c',e',p⟩:=K.prm n c e
  exact ⟨c',List.mem_of_getElem? e',code_perm fun l=>p.mem_iff⟩
 have l:=congrArg List.length hx
 rw [List.length_append] at l
 unfold fuel due
 rw [K.cl,K.be]
 lia
theorem kin_asm (I':Inv N B cls σ')(K:Kin σ σ')(h:Asm A σ):Asm A σ':=by
 obtain ⟨ext,hx⟩:=K.row
 refine ⟨fun k x hk e=>?_,fun i x e h0 h1=>?_⟩
 ·obtain ⟨i,ei,li⟩:=h.a k x (K.be▸hk) e
  exact ⟨i,by rw [hx,List.getElem?_append_left (List.getElem?_eq_some_iff.mp ei).1]; exact ei,by rw [K.be]; exact li⟩
 ·rw [K.be] at h0 ⊢
  by_cases hi:i<σ.row.length
  ·rw [hx,List.getElem?_append_left hi] at e
   exact h.b i x e h0 ((K.cas x (List.mem_of_getElem? e)).symm.trans h1)
  ·rcases K.new x (List.mem_of_getElem? e) with m | ⟨k,q⟩
   ·obtain ⟨i',e'⟩:=List.mem_iff_getElem?.mp m
    have hi':=(List.getElem?_eq_some_iff.mp e').1
    have l1:σ'.row[i']?=some x:=by rw [hx,List.getElem?_append_left hi']; exact e'
    exact absurd ((I'.hv e).2.2.symm.trans (I'.hv l1).2.2) fun q=>hi (q▸hi')
   ·exact ns (Option.some.inj (h1.symm.trans q))
theorem bottom_ok (I:Inv 5 BB cls σ)(C:Cover cls σ)(F:Full σ s)(top:∀ b∈σ.be,b≤s)(bot:σ.be=[]→s=σ.seen){R:St→Prop}
  (q:∀ σ2,σ.back 0=some σ2→Inv 5 BB cls σ2→Cover cls σ2→Full σ2 σ2.seen→σ2.be=[]→σ2.row.length=base σ→σ2.rows=σ.rows→σ2.ht=σ.ht→σ2.lg=σ.lg→σ2.cl=σ.cl→σ2.ref=σ.ref→σ2.lim=σ.lim→σ2.bl=σ.bl→R σ2):∃ σ2,σ.back 0=some σ2∧R σ2:=by
 by_cases hb:σ.be=[]
 ·exact ⟨σ,back_none (by rw [hb]; exact Nat.le_refl _),q σ (back_none (by rw [hb]; exact Nat.le_refl _)) I C (bot hb▸F) hb (by unfold base; rw [hb]) rfl rfl rfl rfl rfl rfl rfl⟩
 ·obtain ⟨n,ms,eb⟩:=List.exists_cons_of_ne_nil hb
  have hn:σ.be[0]?=some n:=by rw [eb]; rfl
  obtain ⟨kn,li,e1,I2,ln,_⟩:=back_ok (by decide) (Nat.le_refl _) I hn
  have low:∀ l,Low σ l→Low { σ with row:=σ.row.take n,kn:=kn,li:=li,be:=σ.be.take 0,seen:=n } l:=fun l ⟨i,ei,li⟩=>by
   have hi:i<n:=Nat.not_le.mp fun q=>absurd (lvl_ge I.bes hn q) (by rw [li]; exact Nat.lt_irrefl _)
   exact ⟨i,by show (σ.row.take n)[i]?=_; rw [List.getElem?_take,if_pos hi]; exact ei,rfl⟩
  exact ⟨_,e1,q _ e1 I2 (fun D hD=>(C D hD).to low fun m c e=>⟨c,e,.refl _⟩) (cut_full I hn F top rfl rfl rfl (ext:=[]) (List.append_nil _).symm) rfl (by show (σ.row.take n).length=_; rw [List.length_take,Nat.min_eq_left ln]; unfold base; rw [eb]) rfl rfl rfl rfl rfl rfl rfl⟩
theorem begin_ok (I:Inv 5 BB cls σ)(C:Cover cls σ)(F:Full σ σ.seen)(hs:σ.seen=σ.row.length)(hb:σ.be.length<BB)(as:Asm A σ){l:Int}(hl:1≤l.natAbs∧l.natAbs≤5)
  (alt:A[σ.be.length]?=some l∧σ.says l≠some false∨A.length≤σ.be.length∧l∉σ.row∧-l∉σ.row) :
  fit σ.level=true∧Inv 5 BB cls (σ.begin l)∧Cover cls (σ.begin l)∧Full (σ.begin l) (σ.begin l).seen∧Asm A (σ.begin l)∧fuel A (σ.begin l) r sp + 1≤fuel A σ r sp∧(σ.begin l).be.length=σ.be.length + 1:=by
 have I1:=level_ok I hs hb
 have lvp:∀ {i},i<σ.row.length→lvl (σ.be++[σ.row.length]) i=lvl σ.be i:=fun h=>lvl_push h
 have lt:∀ {i l},σ.row[i]?=some l→i<σ.row.length:=fun e=>(List.getElem?_eq_some_iff.mp e).1
 have top:∀ {i},σ.row.length≤i→lvl (σ.be++[σ.row.length]) i=σ.be.length + 1:=fun {i} h=>by
  rw [lvl_all fun b hb=>(List.mem_append.mp hb).elim (fun m=>Nat.le_trans (I.ber b m) h) fun m=>by rw [List.mem_singleton.mp m]; exact h,List.length_append]; rfl
 have bl:(σ.be++[σ.row.length]).length=σ.be.length + 1:=by rw [List.length_append]; rfl
 have bs:∀ {row:List Int}{σ':St},σ'.be=σ.be++[σ.row.length]→base σ'=base σ:=fun {row σ'} e=>by
  unfold base
  rw [e]
  rcases σ.be with _ | ⟨m,ms⟩ <;> rfl
 have a0:∀ {σ':St}{ext:List Int},σ'.be=σ.be++[σ.row.length]→σ'.row=σ.row++ext→(∀ x,A[σ.be.length]?=some x→x∈σ'.row)→∀ k x,k<σ'.be.length→A[k]?=some x→AtMost σ' (k + 1) x:=fun {σ' ext} e1 e2 new k x hk e=>by
  rw [e1,bl] at hk
  rcases Nat.lt_or_ge k σ.be.length with z | z
  ·obtain ⟨i,ei,li⟩:=as.a k x z e
   exact ⟨i,by rw [e2,List.getElem?_append_left (lt ei)]; exact ei,by rw [e1,lvp (lt ei)]; exact li⟩
  ·obtain rfl:=Nat.le_antisymm (Nat.le_of_lt_succ hk) z
   obtain ⟨i,ei⟩:=List.mem_iff_getElem?.mp (new x e)
   exact ⟨i,ei,by rw [e1]; exact Nat.le_trans lvl_le (Nat.le_of_eq bl)⟩
 have f0:∀ {σ':St}{ext:List Int},σ'.rows=σ.rows→σ'.wd=σ.wd→σ'.be=σ.be++[σ.row.length]→σ'.row=σ.row++ext→Full σ' σ.seen:=fun {σ' ext} e3 e4 e1 e2=>by
  rw [hs] at F ⊢
  refine full_to F e3 e4 (fun i hi j x ej lj=>?_) fun i x hi e=>?_
  ·have hj:=(List.getElem?_eq_some_iff.mp ej).1
   exact ⟨by rw [e2,List.getElem?_append_left hj]; exact ej,by rw [e1,lvp hj,lvp hi]; exact lj⟩
  ·rw [e2,List.getElem?_append_left hi] at e; exact e
 have c0:∀ {σ':St}{ext:List Int},σ'.rows=σ.rows→σ'.be=σ.be++[σ.row.length]→σ'.row=σ.row++ext→Cover cls σ':=fun {σ' ext} e3 e1 e2 D hD=>(C D hD).to (fun x ⟨i,ei,li⟩=>⟨i,by rw [e2,List.getElem?_append_left (lt ei)]; exact ei,by rw [e1,lvp (lt ei)]; exact li⟩) fun n c e=>⟨c,by rw [e3]; exact e,.refl _⟩
 refine ⟨I1.fit (by decide) (Nat.le_refl _),?_⟩
 unfold St.begin
 by_cases hn:σ.says l=none
 ·rw [if_pos hn]
  have l0:l≠0:=fun q=>by rw [q] at hl; exact absurd hl.1 (by decide)
  obtain ⟨u1,u2⟩:=(I.known.says_none l0).mp hn
  have I2:=let_ok I1 (l:=l) (o:=none) hl u1 u2 (fun z=>absurd z (List.append_ne_nil_of_right_ne_nil _ (List.cons_ne_nil _ _))) (fun uu z=>absurd (List.mem_append.mpr (.inr (List.mem_singleton_self _))) z) (.inl rfl)
  have rl:=nodup_nat I2.known.vars I2.known.rng
  have rl:σ.row.length + 1≤5:=by rw [show (σ.level.let' l none).row=σ.row++[l] from rfl,List.length_append] at rl; exact rl
  refine ⟨I2,c0 (ext:=[l]) rfl rfl rfl,f0 (ext:=[l]) rfl rfl rfl rfl,⟨a0 (ext:=[l]) rfl rfl fun x e=>?_,fun i x e h0 h1=>?_⟩,?_,bl⟩
  ·rcases alt with ⟨q,_⟩ | ⟨q,_⟩
   ·obtain rfl:=Option.some.inj (q.symm.trans e); exact List.mem_append.mpr (.inr (List.mem_singleton_self _))
   ·rw [List.getElem?_eq_none q] at e; exact ns e
  ·have e:(σ.row++[l])[i]?=some x:=e
   show x∈A∨A.length<lvl (σ.be++[σ.row.length]) i
   have h0:0<lvl (σ.be++[σ.row.length]) i:=h0
   rcases Nat.lt_or_ge i σ.row.length with z | z
   ·rw [List.getElem?_append_left z] at e
    rw [lvp z] at h0 ⊢
    have h1:tget (tset σ.ca l.natAbs none) x.natAbs=some none:=h1
    rw [tget_tset,if_neg fun q=>by
     have q:x=l∨x = -l:=by lia
     exact q.elim (fun q=>u1 (q▸List.mem_of_getElem? e)) fun q=>u2 (q▸List.mem_of_getElem? e)] at h1
    exact as.b i x e h0 h1
   ·rw [top z]
    rcases alt with ⟨q,_⟩ | ⟨q,_⟩
    ·rw [List.getElem?_append_right z] at e
     have:i - σ.row.length=0:=Nat.lt_one_iff.mp (List.getElem?_eq_some_iff.mp e).1
     rw [this] at e
     exact .inl (Option.some.inj e▸List.mem_of_getElem? q)
    ·exact .inr (Nat.lt_succ_of_le q)
  ·have e1:=bs (row:=[]) (σ':=σ.level.let' l none) rfl
   unfold fuel pot due
   rw [e1,show (σ.level.let' l none).row.length=σ.row.length + 1 from List.length_append,show (σ.level.let' l none).be.length=σ.be.length + 1 from bl]
   show (absent σ.rows + _) * 20 + (if sp≤σ.cl - r then 1 else 0) * 10 + _ + 20 + 1≤_
   lia
 ·rw [if_neg hn]
  have q:=alt.resolve_right fun z=>hn (by
   have l0:l≠0:=fun q=>by rw [q] at hl; exact absurd hl.1 (by decide)
   exact (I.known.says_none l0).mpr z.2)
  have lr:l∈σ.row:=by
   have l0:l≠0:=fun q=>by rw [q] at hl; exact absurd hl.1 (by decide)
   refine (I.known.says l0).1.mp ?_
   have q:=q.2
   revert hn q
   rcases σ.says l with _ | b
   ·exact fun n uu=>absurd rfl n
   ·rcases b with _ | _
    ·exact fun uu n=>absurd rfl n
    ·exact fun uu uu=>rfl
  have lA:=(List.getElem?_eq_some_iff.mp q.1).1
  refine ⟨I1,c0 (ext:=[]) rfl rfl (List.append_nil _).symm,f0 (ext:=[]) rfl rfl rfl (List.append_nil _).symm,⟨a0 (ext:=[]) rfl (List.append_nil _).symm fun x e=>?_,fun i x e h0 h1=>?_⟩,?_,bl⟩
  ·obtain rfl:=Option.some.inj (q.1.symm.trans e); exact lr
  ·show x∈A∨A.length<lvl (σ.be++[σ.row.length]) i
   have h0:0<lvl (σ.be++[σ.row.length]) i:=h0
   have e:σ.row[i]?=some x:=e
   rw [lvp (lt e)] at h0 ⊢
   exact as.b i x e h0 h1
  ·have e1:=bs (row:=[]) (σ':=σ.level) rfl
   unfold fuel pot due
   rw [e1,show σ.level.be.length=σ.be.length + 1 from bl]
   show (absent σ.rows + _) * 20 + (if sp≤σ.cl - r then 1 else 0) * 10 + _ + 20 + 1≤_
   show _ + ((A.length - (σ.be.length + 1)) + (5 - σ.row.length)) + 20 + 1≤_
   lia
end
end Mini.C
end
section
namespace Mini.C
open Mini
section
variable {N B s w j:Nat}{cls lg0:List (List Int)}{σ σ':St}{A:List Int}{r sp begun lim:Int}
theorem fuel_le (hA:A.length≤3):fuel A σ r sp≤pot σ * 20 + due σ r sp * 10 + 28:=by
 unfold fuel
 exact Nat.add_le_add_right (Nat.add_le_add_left (Nat.add_le_add (Nat.le_trans (Nat.sub_le _ _) hA) (Nat.sub_le _ _)) (pot σ * 20 + due σ r sp * 10)) 20
theorem due_le:due σ r sp≤1:=by
 unfold due
 by_cases c:sp≤σ.cl - r
 ·rw [if_pos c]; exact Nat.le_refl _
 ·rw [if_neg c]; exact Nat.zero_le _
theorem contra_neg {xs:List Int}:Contra (negs xs)↔Contra xs:=by
 constructor
 ·rintro ⟨l,a,b⟩
  have b:=negs_mem.mp b
  rw [Int.neg_neg] at b
  exact ⟨l,b,negs_mem.mp a⟩
 ·rintro ⟨l,a,b⟩
  exact ⟨l,negs_mem.mpr b,negs_mem.mpr (by rw [Int.neg_neg]; exact a)⟩
theorem Fresh.same (f:Fresh lg0 begun σ)(e1:σ'.lg=σ.lg)(e2:σ'.cl=σ.cl):Fresh lg0 begun σ':=by
 induction f with
 | mk e l g=>exact .mk (e1.trans e) (l.trans (by rw [e2])) g
theorem Fresh.push (f:Fresh lg0 begun σ){ys:List Int}(hy:∀ x∈ys,1≤x.natAbs∧x.natAbs≤5)(e1:σ'.lg=σ.lg++[ys])(e2:σ'.cl=σ.cl + 1):Fresh lg0 begun σ':=by
 induction f with
 | @mk f e l g=>exact .mk (f:=f++[ys]) (by rw [e1,e,List.append_assoc]) (by rw [List.length_append,e2]; show ((f.length + 1:Nat):Int)=_; lia) fun C hC=>(mem_push.mp hC).elim (g C) fun q=>q▸hy
noncomputable abbrev Toward (cls:List (List Int))(A:List Int)(lg0:List (List Int))(begun lim:Int)(w j:Nat)(r sp:Int)(σ:St):Prop:=Yields (fun i=>i<j) fun i=>Going cls A lg0 begun lim w i σ r sp
theorem begin_same {l:Int}:(σ.begin l).ref=σ.ref∧(σ.begin l).ht=σ.ht∧(σ.begin l).lg=σ.lg∧(σ.begin l).cl=σ.cl∧(σ.begin l).lim=σ.lim∧(σ.begin l).bl=σ.bl∧(σ.begin l).rows=σ.rows:=by
 unfold St.begin
 by_cases q:σ.says l=none
 ·rw [if_pos q]; exact ⟨rfl,rfl,rfl,rfl,rfl,rfl,rfl⟩
 ·rw [if_neg q]; exact ⟨rfl,rfl,rfl,rfl,rfl,rfl,rfl⟩
theorem fuel_next (hA:A.length≤3)(h:pot σ' + 1≤pot σ):fuel A σ' r sp + 1≤fuel A σ r sp:=by
 have f5:=fuel_le (σ:=σ') (r:=r) (sp:=sp) hA
 have d5:=due_le (σ:=σ') (r:=r) (sp:=sp)
 have f1:pot σ * 20 + 20≤fuel A σ r sp:=by unfold fuel; lia
 lia
theorem lt_sum {a b k j w:Nat}(h:a≤b + 1)(l:k + 1≤j)(q:b + j≤w):a + k≤w:=by lia
structure Calmed (cls:List (List Int))(A:List Int)(lg0:List (List Int))(begun lim:Int)(w j:Nat)(r sp:Int)(σ:St):Prop where
 e:σ.ref=false
 I:Inv 5 BB cls σ
 C:Cover cls σ
 F:Full σ σ.seen
 es:σ.seen=σ.row.length
 top:∀ b∈σ.be,b≤σ.seen
 as:Asm A σ
 ht:Warm 5 σ.ht
 log:LogOk 5 cls σ.lg
 fr:Fresh lg0 begun σ
 lm:σ.lim=lim
 bl:σ.bl=[]
 sp0:0<sp
 fu:fuel A σ r sp≤j
 l1:σ.rows.length + j≤w
 l2:σ.lg.length + j≤w
 l3:σ.be.length + j≤w
 hw:w<BB
section
variable (K:Calmed cls A lg0 begun lim w j r sp σ)
include K
theorem Calmed.rest {w':Nat}(q:w≤w'):Rest cls w' σ:=
 ⟨K.ht,K.log,Nat.le_trans (Nat.le_trans (Nat.le_add_right _ _) K.l1) q,Nat.le_trans (Nat.le_trans (Nat.le_add_right _ _) K.l2) q,.live K.e K.I K.C K.F K.top fun uu=>rfl⟩
theorem Calmed.restart (hA:A.length≤3)(dq:sp≤σ.cl - r){σ2:St}(I2:Inv 5 BB cls σ2)(C2:Cover cls σ2)(F2:Full σ2 σ2.seen)(be2:σ2.be=[])(row2:σ2.row.length=base σ)(rows2:σ2.rows=σ.rows)(ht2:σ2.ht=σ.ht)(lg2:σ2.lg=σ.lg)(cl2:σ2.cl=σ.cl)(ref2:σ2.ref=σ.ref)(lim2:σ2.lim=σ.lim)(bl2:σ2.bl=σ.bl) :
  Toward cls A lg0 begun lim w j σ.cl (sp + sp.fdiv 2) σ2:=by
 have sp0:=K.sp0
 have sp1:0≤sp.fdiv 2:=Int.fdiv_nonneg (Int.le_of_lt sp0) (by decide)
 have sp2:0<sp + sp.fdiv 2:=Int.add_pos_of_pos_of_nonneg sp0 sp1
 have due2:due σ2 σ.cl (sp + sp.fdiv 2)=0:=if_neg (by rw [cl2,Int.sub_self]; exact Int.not_le.mpr sp2)
 have due1:due σ r sp=1:=if_pos dq
 have pot2:pot σ2=pot σ:=by unfold pot; rw [rows2,show base σ2=base σ from (by unfold base; rw [be2]; exact row2)]
 have f2:=fuel_le (σ:=σ2) (r:=σ.cl) (sp:=sp + sp.fdiv 2) hA
 rw [due2,pot2] at f2
 have f1:pot σ * 20 + 1 * 10 + 20≤fuel A σ r sp:=by unfold fuel; rw [due1]; lia
 have fu:=K.fu
 have lt:fuel A σ2 σ.cl (sp + sp.fdiv 2)<j:=by clear K; lia
 have le:=Nat.le_of_lt lt
 exact .mk lt (.live (ref2.trans K.e) I2 C2 F2 ⟨fun k x hk=>absurd hk (by rw [be2]; exact Nat.not_lt_zero _),fun i x uu h0=>absurd h0 (by rw [be2]; exact Nat.lt_irrefl _)⟩ (ht2▸K.ht) (lg2▸K.log) (K.fr.same lg2 cl2) (lim2.trans K.lm) (bl2.trans K.bl) sp2 (Nat.le_refl _)
  (by rw [rows2]; exact Nat.le_trans (Nat.add_le_add_left le _) K.l1) (by rw [lg2]; exact Nat.le_trans (Nat.add_le_add_left le _) K.l2) (by rw [be2]; exact Nat.le_trans (Nat.add_le_add (Nat.zero_le _) le) K.l3))
theorem Calmed.next {l:Int}(hl:1≤l.natAbs∧l.natAbs≤5)(al:A[σ.be.length]?=some l∧σ.says l≠some false∨A.length≤σ.be.length∧l∉σ.row∧-l∉σ.row):fit σ.level=true∧Toward cls A lg0 begun lim w j r sp (σ.begin l):=by
 obtain ⟨g1,g2,g3,g4,g5,g6,g7⟩:=begin_ok (r:=r) (sp:=sp) K.I K.C K.F K.es (Nat.lt_of_le_of_lt (Nat.le_trans (Nat.le_add_right _ _) K.l3) K.hw) K.as hl al
 obtain ⟨s1,s2,s3,s4,s5,s6,s7⟩:=begin_same (σ:=σ) (l:=l)
 have lt:=Nat.lt_of_lt_of_le g6 K.fu
 have le:=Nat.le_of_lt lt
 exact ⟨g1,.mk lt (.live (s1.trans K.e) g2 g3 g4 g5 (s2▸K.ht) (s3▸K.log) (K.fr.same s3 s4) (s5.trans K.lm) (s6.trans K.bl) K.sp0 (Nat.le_refl _)
  (by rw [s7]; exact Nat.le_trans (Nat.add_le_add_left le _) K.l1) (by rw [s3]; exact Nat.le_trans (Nat.add_le_add_left le _) K.l2) (by rw [g7,Nat.add_assoc,Nat.add_comm 1]; exact Nat.le_trans (Nat.add_le_add_left lt _) K.l3))⟩
end
structure Guilty (cls:List (List Int))(A:List Int)(σ:St)(out:List Int):Prop where
 o0:out≠[]
 inA:∀ x∈out,x∈A
 no:∀ U,Assign 5 U→(∀ D∈cls,Sat U D)→(∀ x∈out,U x)→False
 nd:out.Nodup
 len:out.length≤6
section
variable (K:Calmed cls A lg0 begun lim w j r sp σ){out:List Int}
include K
theorem Calmed.blamed {l:Int}(hA2:σ.be.length<A.length)(lA:l∈A)(nr:-l∈σ.row):∃ ext,Blame σ (l::ext) σ.row.reverse [l] [(l.natAbs:Int)]∧Guilty cls A σ (l::ext):=by
 obtain ⟨ext,B1,sub,dec,sem⟩:=blame_ok K.I nr
 have inr:∀ x∈ext,x∈σ.row:=fun x hx=>List.mem_reverse.mp (sub.subset hx)
 have nde:ext.Nodup:=((List.reverse_perm _).nodup_iff.mpr (nodup_of_abs K.I.known.vars)).sublist sub
 refine ⟨ext,B1,List.cons_ne_nil _ _,fun x hx=>(List.mem_cons.mp hx).elim (fun q=>q▸lA) fun q=>?_,fun U hU h=>sem U hU fun D hD=>(List.mem_append.mp hD).elim (h D) (K.log U hU h D),List.nodup_cons.mpr ⟨fun q=>K.I.known.not_both (inr l q) nr,nde⟩,?_⟩
 ·induction dec x q with
  | @mk i ei li ci=>exact (K.as.b i x ei li ci).resolve_right fun z=>absurd (Nat.lt_of_lt_of_le z lvl_le) (Nat.lt_asymm hA2)
 ·have z:=sub.length_le
  rw [List.length_reverse] at z
  exact Nat.succ_le_succ (Nat.le_trans z K.I.room.row)
theorem Calmed.deniedC (D:Guilty cls A σ out)(sq:¬ Spent begun σ)(c:Contra out):Post cls A lg0 begun lim (w + 1) (some false) (σ.sBl out):=by
 have R:=K.rest (Nat.le_succ w)
 have I1:=K.I
 refine Post.lostC ⟨R.ht,R.log,R.rows,R.lg,?_⟩ K.lm (K.fr.same rfl rfl) sq rfl D.o0 D.inA D.no D.nd c
 exact .live K.e { I1 with room:=⟨I1.room.kn,I1.room.hh,I1.room.ca,I1.room.li,I1.room.ht,I1.room.wd,I1.room.row,I1.room.be,I1.room.rows,I1.room.lg,I1.room.wl⟩ } (fun D hD=>(K.C D hD).to (fun uu h=>h) fun m c e=>⟨c,e,.refl _⟩) ⟨K.F.att,K.F.wch⟩ K.top fun uu=>rfl
theorem Calmed.denied {ys:List Int}(D:Guilty cls A σ out)(rA:∀ x∈A,1≤x.natAbs∧x.natAbs≤5)(hj:0<j)(sq:¬ Spent begun σ)(c:¬ Contra out)(ho:OrdOf (negs out) ys):Post cls A lg0 begun lim (w + 1) (some false) ((σ.sBl out).note ys):=by
 have I1:=K.I
 have R:=K.rest (Nat.le_succ w)
 have le:σ.lg.length + 1≤w:=Nat.le_trans (Nat.add_le_add_left hj _) K.l2
 have Ib:Inv 5 BB cls (σ.sBl out):={ I1 with room:=⟨I1.room.kn,I1.room.hh,I1.room.ca,I1.room.li,I1.room.ht,I1.room.wd,I1.room.row,I1.room.be,I1.room.rows,I1.room.lg,I1.room.wl⟩ }
 have In:=note_ok (ys:=ys) Ib (Nat.lt_trans le K.hw)
 induction K.fr with
 | @mk f fe fl fg=>
 refine Post.lost (f:=f) (ys:=ys) ⟨R.ht,fun U hU h D' hD=>?_,R.rows,?_,.live K.e In (fun D hD=>(K.C D hD).to (fun uu h=>h) fun m c e=>⟨c,e,.refl _⟩) ⟨K.F.att,K.F.wch⟩ K.top fun uu=>rfl⟩ K.lm (by show σ.lg++[ys]=_; rw [fe]) fl fg sq rfl D.o0 D.inA D.no D.nd c ho
 ·refine (List.mem_append.mp hD).elim (K.log U hU h D') fun q=>?_
  rw [List.mem_singleton.mp q]
  apply Classical.byContradiction
  intro nn
  refine D.no U hU h fun x hx=>?_
  have rx:=rA x (D.inA x hx)
  exact (hU.all x rx.1 rx.2).resolve_right fun z=>nn ⟨-x,(ho.mem _).mpr (negs_mem.mpr (by rw [Int.neg_neg]; exact hx)),z⟩
 ·show (σ.lg++[ys]).length≤_
  rw [List.length_append]
  exact Nat.le_succ_of_le le
theorem Calmed.won (hz:∀ C∈cls,∀ l∈C,l≠0)(hA2:A.length≤σ.be.length)(sq:¬ Spent begun σ)(known:∀ v:Int,1≤v→v≤5→(tget σ.kn v).isSome=true):Post cls A lg0 begun lim (w + 1) (some true) σ:=by
 refine .yes (K.rest (Nat.le_succ w)) K.lm K.bl K.fr sq (fun v a b=>?_) K.I.known (closed hz K.I K.C (by rw [← K.es]; exact K.F)) fun x hx=>?_
 ·have v0:v≠0:=Ne.symm (Int.ne_of_lt a)
  apply Classical.byContradiction
  intro nn
  have z:=(K.I.known.says_none v0).mpr ⟨fun q=>nn (.inl q),fun q=>nn (.inr q)⟩
  unfold St.says at z
  rw [Int.natAbs_of_nonneg (Int.le_of_lt a)] at z
  have y:=known v a b
  rw [Option.map_eq_none_iff.mp z] at y
  exact ff y
 ·obtain ⟨k,ek⟩:=List.mem_iff_getElem?.mp hx
  obtain ⟨i,ei,_⟩:=K.as.a k x (Nat.lt_of_lt_of_le (List.getElem?_eq_some_iff.mp ek).1 hA2) ek
  exact List.mem_of_getElem? ei
theorem Calmed.decides (rA:∀ x∈A,1≤x.natAbs∧x.natAbs≤5)(hz:∀ C∈cls,∀ l∈C,l≠0)(sq:¬ Spent begun σ)(hj:0<j):Decides σ A (told (Toward cls A lg0 begun lim w j r sp) (Post cls A lg0 begun lim (w + 1))):=by
 have h5:5≤100:=by decide
 have hfit:=K.I.fit h5 (Nat.le_refl _)
 by_cases hA2:σ.be.length<A.length
 ·have hl:A[σ.be.length]?=some A[σ.be.length]:=List.getElem?_eq_getElem hA2
  generalize A[σ.be.length]=l at hl
  have lA:l∈A:=List.mem_of_getElem? hl
  have rl:=rA l lA
  by_cases sy:σ.says l=some false
  ·obtain ⟨ext,B1,D⟩:=K.blamed hA2 lA ((K.I.known.says (lit_nz rl)).2.mp sy)
   exact .blame hl sy (.mk B1 (fun q=>absurd (rA 0 (D.inA 0 q)).1 (by decide)) (Nat.lt_of_le_of_lt D.len (by decide)) (Nat.lt_of_le_of_lt (Nat.le_of_lt (Nat.lt_of_le_of_lt (Nat.le_trans (Nat.le_add_right _ _) K.l2) K.hw)) (by decide)) (fun c=>K.deniedC D sq (contra_neg.mp c)) fun c ys ho=>K.denied D rA hj sq (fun z=>c (contra_neg.mpr z)) ho)
  ·obtain ⟨g1,g2⟩:=K.next rl (.inl ⟨hl,sy⟩)
   exact .assume hl sy hfit g1 g2
 ·have hA2:=Nat.not_lt.mp hA2
  have kt:∀ v:Int,v∈σ.ht.map (·.1)↔1≤v∧v≤5:=fun v=>by rw [← tget_isSome]; exact K.ht v
  have lf:fit σ.level=true:=(level_ok K.I K.es (Nat.lt_of_le_of_lt (Nat.le_trans (Nat.le_add_right _ _) K.l3) K.hw)).fit h5 (Nat.le_refl _)
  refine .free hA2 (fun q=>absurd ((kt 0).mp q).1 (by decide)) hfit lf (fun H=>K.won hz hA2 sq fun v a b=>?_) fun v l v0 vm vu vl=>?_
  ·induction H with
   | none _ k=>
    obtain ⟨p,hp,q⟩:=List.mem_map.mp ((kt v).mpr ⟨a,b⟩)
    exact q▸k p hp
   | some n _ _=>exact absurd rfl n
  ·have rv:=(kt v).mp vm
   have vn:((l.natAbs:Nat):Int)=v:=by
    have p:=Int.natAbs_of_nonneg (Int.le_of_lt rv.1)
    rcases vl with q | q
    ·rw [q]; exact p
    ·rw [q,Int.natAbs_neg]; exact p
   have rl:1≤l.natAbs∧l.natAbs≤5:=⟨Int.ofNat_le.mp (by rw [vn]; exact rv.1),Int.ofNat_le.mp (by rw [vn]; exact rv.2)⟩
   have sl:σ.says l=none:=by
    unfold St.says
    rw [vn,vu]
    rfl
   obtain ⟨u1,u2⟩:=(K.I.known.says_none (lit_nz rl)).mp sl
   exact (K.next rl (.inr ⟨hA2,u1,u2⟩)).2
end
theorem going_step (hw:w<BB)(hA:A.length≤3)(rA:∀ x∈A,1≤x.natAbs∧x.natAbs≤5)(hz:∀ C∈cls,∀ l∈C,l≠0)(hlim:lim=0∨lim=1∨lim=2)(G:Going cls A lg0 begun lim w j σ r sp) :
  Step begun A (Going cls A lg0 begun lim w) (Post cls A lg0 begun lim (w + 1)) j σ r sp:=by
 have h5:5≤100:=by decide
 have hB:BB≤100000:=Nat.le_refl _
 induction G with
 | dead e b room u ht log fr lm bl l1 l2=>exact .end e (.dead ⟨ht,log,Nat.le_succ_of_le l1,Nat.le_succ_of_le l2,.dead e b room u⟩ lm fr u bl)
 | live e I C F as ht log fr lm bl sp0 fu l1 l2 l3=>
 refine .go e ?_
 obtain ⟨res,σ1,e1,I1,kin,⟨s,F1,top,hs⟩,alt⟩:=spreadF_ok h5 hB (k:=5) I F (Nat.le_add_right _ _)
 have fu:=Nat.le_trans (kin_fuel (A:=A) (r:=r) (sp:=sp) kin) fu
 have C:Cover cls σ1:=fun D hD=>(C D hD).to (low_kin kin) kin.prm
 have as:=kin_asm I1 kin as
 have fr:=fr.same kin.lg kin.cl
 rw [← kin.ht] at ht
 rw [← kin.lg] at log l2
 rw [← kin.lim] at lm
 rw [← kin.bl] at bl
 rw [← kin.rows] at l1
 rw [← kin.be] at l3
 rw [← kin.ref] at e
 clear F I kin
 have jp:20≤j:=Nat.le_trans (Nat.le_add_left 20 _) fu
 have hj:0<j:=Nat.lt_of_lt_of_le (by decide) jp
 rcases alt with ⟨er,es⟩ | ⟨n,er,c,hr,hf,ht2⟩
 ·subst er
  have hs:=hs rfl
  subst hs
  have K:Calmed cls A lg0 begun lim w j r sp σ1:=⟨e,I1,C,F1,es,top,as,ht,log,fr,lm,bl,sp0,fu,l1,l2,l3,hw⟩
  refine .calm e1 ?_
  by_cases sq:Spent begun σ1
  ·exact .spent sq.1 sq.2 (lm▸hlim.resolve_left fun q=>absurd sq.1 (by rw [lm,q]; exact Int.lt_irrefl 0)) (.spent (K.rest (Nat.le_succ w)) lm fr sq)
  by_cases dq:sp≤σ1.cl - r
  ·obtain ⟨σ2,b1,q⟩:=bottom_ok (R:=Toward cls A lg0 begun lim w j σ1.cl (sp + sp.fdiv 2)) I1 C F1 top (fun uu=>rfl) fun σ2 uu=>K.restart hA dq
   exact .again sq dq b1 q
  exact .decide sq (Int.not_le.mp dq) (K.decides rA hz sq hj)
 ·subst er
  have jw:∀ {x},x + j≤w→x + 1≤w:=fun h=>Nat.le_trans (Nat.add_le_add_left hj _) h
  have bb:∀ {x},x + j≤w→x<BB:=fun h=>Nat.lt_of_le_of_lt (Nat.le_trans (Nat.le_add_right _ _) h) hw
  refine .clash e1 (I1.fit h5 hB) (fun hb=>?_) fun hb=>?_
  ·have d:=dead_of I1 hb (List.mem_of_getElem? hr) hf
   have R:=I1.room
   have ll:(σ1.lg++[[]]).length≤w:=by rw [List.length_append]; exact jw l2
   exact .mk (a:=0) hj (.dead rfl hb ⟨R.kn,R.hh,R.ca,R.li,R.ht,R.wd,R.row,R.be,R.rows,Nat.le_trans ll (Nat.le_of_lt hw),R.wl⟩ (unsat_of log d) ht (log.dead d) (fr.push (ys:=[]) (fun x hx=>absurd hx List.not_mem_nil) rfl rfl) lm bl (Nat.le_trans (Nat.le_add_right _ _) l1) ll)
  ·refine learn_ok I1 C F1 top ht log as hb (bb l1) (bb l2) hr hf ht2 fun σ5 I5 C5 F5 ht5 log5 as5 pot5 cl5 ref5 lg5 rows5 be5 lim5 bl5=>?_
   obtain ⟨ys,lg5,gy⟩:=lg5
   have lt:fuel A σ5 r sp + 1≤j:=Nat.le_trans (fuel_next hA pot5) fu
   exact .mk (a:=fuel A σ5 r sp) lt (.live (ref5.trans e) I5 C5 F5 as5 ht5 log5 (fr.push gy lg5 cl5) (lim5.trans lm) (bl5.trans bl) sp0 (Nat.le_refl _) (lt_sum rows5 lt l1) (lt_sum (by rw [lg5,List.length_append]; exact Nat.le_refl _) lt l2) (lt_sum (Nat.le_succ_of_le be5) lt l3))
end
end Mini.C
end
section
namespace Mini.C
open Mini
theorem forced_all {cls lg:List (List Int)}(log:LogOk 5 cls lg){U:Int→Prop}(hU:Assign 5 U)(h:∀ C∈cls,Sat U C):Shuts U (cls++lg):=fun C hC=>hU.shut ((List.mem_append.mp hC).elim (h C) (log U hU h C))
section
variable {w:Nat}{cls:List (List Int)}{σ σ':St}{A xs ys:List Int}
theorem LogOk.more {lg:List (List Int)}{cls':List (List Int)}(h:LogOk 5 cls lg)(hc:∀ C∈cls,C∈cls'):LogOk 5 cls' lg:=fun U hU hs C hC=>h U hU (fun D hD=>hs D (hc D hD)) C hC
theorem warm0:Warm 5 (heats0 5):=fun v=>by
 rw [tget_isSome,show (heats0 5).map (·.1)=[1,2,3,4,5] from rfl]
 simp only [List.mem_cons,List.not_mem_nil,or_false]
 lia
theorem rest0:Rest [] 0 (St.zero 5):=by
 have hk:Keyed 5 (heats0 5):=⟨by rw [show (heats0 5).map (·.1)=[1,2,3,4,5] from rfl]; decide,by rw [show (heats0 5).map (·.1)=[1,2,3,4,5] from rfl]; decide⟩
 have hr:Room' 5 BB (St.zero 5):=⟨.nil,.nil,.nil,.nil,hk,.nil,Nat.zero_le _,Nat.zero_le _,Nat.zero_le _,Nat.zero_le _,by simp [St.zero]⟩
 refine ⟨warm0,.nil,Nat.le_refl _,Nat.le_refl _,.live (s:=0) rfl ?_ (fun C h=>absurd h List.not_mem_nil) ⟨fun lost n c w w' e=>ns (List.getElem?_nil.symm.trans e),fun n c w w' e=>ns (List.getElem?_nil.symm.trans e)⟩ (fun b h=>absurd h List.not_mem_nil) fun uu=>rfl⟩
 exact {
  room:=hr
  known:=⟨by simp [St.zero],by simp [St.zero],by simp [St.zero,tget]⟩
  bes:=by simp [St.zero]
  ber:=by simp [St.zero]
  bse:=by simp [St.zero]
  seen:=Nat.le_refl _
  hh:=by simp [St.zero]
  rows:=by simp [St.zero]
  wat:=fun l ns e=>by simp [St.zero,tget] at e
  org:=by simp [St.zero]
  low:=by simp [St.zero]
  cause:=by simp [St.zero]
  why:=by simp [St.zero] }
theorem heats_same (W:Warm 5 σ.ht)(hx:∀ l∈xs,1≤l.natAbs∧l.natAbs≤5):∀ l∈xs,(tget σ.ht (l.natAbs:Int)).isSome=true:=fun l hl=>(W _).mpr (by have:=hx l hl; lia)
inductive Low0 (cls:List (List Int))(w:Nat)(σ σ1:St):Prop
 | mk (e:σ.back 0=some σ1)(R:Rest cls w σ1)(b:σ1.be=[])(f:fit σ1=true)(F:σ1.ref=false→Inv 5 BB cls σ1∧Cover cls σ1∧Full σ1 σ1.seen)(lg:σ1.lg=σ.lg)(cl:σ1.cl=σ.cl)(lim:σ1.lim=σ.lim)(ref:σ1.ref=σ.ref):Low0 cls w σ σ1
theorem rest_low (R:Rest cls w σ):∃ σ1,Low0 cls w σ σ1:=by
 induction R.way with
 | dead e b room u=>exact ⟨σ,.mk (back_none (by rw [b]; exact Nat.le_refl _)) R b (room.fit (by decide) (Nat.le_refl _)) (fun q=>ff (q.symm.trans e)) rfl rfl rfl rfl⟩
 | live e I C F top bot=>
  obtain ⟨σ1,_,z⟩:=bottom_ok (R:=Low0 cls w σ) I C F top bot fun σ2 b1 I2 C2 F2 be2 row2 rows2 ht2 lg2 cl2 ref2 lim2 bl2=>
   .mk b1 ⟨ht2▸R.ht,lg2▸R.log,rows2▸R.rows,lg2▸R.lg,.live (ref2.trans e) I2 C2 F2 (fun b hb=>by rw [be2] at hb; exact absurd hb List.not_mem_nil) fun uu=>rfl⟩ be2 (I2.fit (by decide) (Nat.le_refl _)) (fun uu=>⟨I2,C2,F2⟩) lg2 cl2 lim2 ref2
  exact ⟨σ1,z⟩
structure Added (cls:List (List Int))(w:Nat)(σ:St)(xs:List Int)(σ':St):Prop where
 rest:Rest (cls++[xs]) (w + 1) σ'
 lg:σ'.lg=σ.lg∧σ'.ref=σ.ref∨σ'.lg=σ.lg++[[]]∧σ'.ref=true
theorem Rest.up (R:Rest cls w σ):Rest (cls++[xs]) (w + 1) σ∨σ.ref=false:=by
 induction R.way with
 | live e _ _ _ _ _=>exact .inr e
 | dead e b room u=>exact .inl ⟨R.ht,R.log.more fun C hC=>List.mem_append.mpr (.inl hC),Nat.le_succ_of_le R.rows,Nat.le_succ_of_le R.lg,.dead e b room fun U hU h=>u U hU fun C hC=>h C (List.mem_append.mpr (.inl hC))⟩
theorem add_ok (hw:w<BB){σ1:St}(L:Low0 cls w σ σ1)(hx:∀ l∈xs,1≤l.natAbs∧l.natAbs≤5):({ σ1 with ht:=defHeats σ1.ht xs }:St)=σ1∧(Contra xs→Added cls w σ xs σ1)∧(¬ Contra xs→∀ ys,OrdOf xs ys→Added cls w σ xs (σ1.addTo ys)):=by
 induction L with
 | mk e R be0 hfit FF elg ecl elim eref=>
 have sub:∀ C∈cls,C∈cls++[xs]:=fun C hC=>List.mem_append.mpr (.inl hC)
 have log:=R.log.more sub
 have cov1:∀ {σ':St},Cover cls σ'→Cov σ' xs→Cover (cls++[xs]) σ':=fun {σ'} c d C hC=>(List.mem_append.mp hC).elim (c C) fun q=>List.mem_singleton.mp q▸d
 have top0:∀ {σ':St},σ'.be=[]→∀ {s},∀ b∈σ'.be,b≤s:=fun {σ'} h {s} b hb=>by rw [h] at hb; exact absurd hb List.not_mem_nil
 have keepB:(σ1.ref=false→Inv 5 BB cls σ1→Cov σ1 xs)→Added cls w σ xs σ1:=fun cv=>⟨by
  rcases R.up (xs:=xs) with q | q
  ·exact q
  ·obtain ⟨I,C,F⟩:=FF q
   exact ⟨R.ht,log,Nat.le_succ_of_le R.rows,Nat.le_succ_of_le R.lg,.live q (I.more sub) (cov1 C (cv q I)) F (top0 be0) fun uu=>rfl⟩,.inl ⟨elg,eref⟩⟩
 refine ⟨?_,fun q=>keepB fun uu uu=>.con q,fun nc ys ho=>?_⟩
 ·rw [defHeats_same (heats_same R.ht hx)]
 unfold St.addTo
 by_cases c:σ1.ref=true∨some true∈ys.map σ1.says
 ·rw [if_pos c]
  refine keepB fun hf I=>?_
  rcases c with c | c
  ·exact ff (hf.symm.trans c)
  ·obtain ⟨l,hl,el⟩:=List.mem_map.mp c
   have hx':=(ho.mem l).mp hl
   have l0:l≠0:=by have:=hx l hx'; lia
   obtain ⟨i,hi⟩:=List.mem_iff_getElem?.mp ((I.known.says l0).1.mp el)
   exact .low hx' ⟨i,hi,by rw [be0]; rfl⟩
 ·rw [if_neg c]
  have cr:σ1.ref=false:=Bool.eq_false_iff.mpr fun q=>c (.inl q)
  have ct:some true∉ys.map σ1.says:=fun q=>c (.inr q)
  obtain ⟨I,cv,F⟩:=FF cr
  have I':Inv 5 BB (cls++[xs]) σ1:=I.more sub
  have xsB:xs∈(cls++[xs])++σ1.lg:=by simp
  have z:∀ l∈xs,l≠0:=fun l hl=>by have:=hx l hl; lia
  have lows:∀ l,-l∈σ1.row→Forced ((cls++[xs])++σ1.lg) (-l):=fun l hl=>by
   obtain ⟨i,hi⟩:=List.mem_iff_getElem?.mp hl
   exact I'.low i _ hi (by rw [be0]; rfl)
  have cases3:∀ l∈xs,l∈ys.filter (fun l=>σ1.says l==none)∨-l∈σ1.row:=fun l hl=>by
   have hy:=(ho.mem l).mpr hl
   cases q:σ1.says l with
   | none=>exact .inl (List.mem_filter.mpr ⟨hy,by simp [q]⟩)
   | some b=>
    cases b with
    | true=>exact absurd (List.mem_map.mpr ⟨l,hy,q⟩) ct
    | false=>exact .inr ((I.known.says (z l hl)).2.mp q)
  have fsub:∀ l∈ys.filter (fun l=>σ1.says l==none),l∈xs∧l∉σ1.row∧-l∉σ1.row:=fun l hl=>by
   obtain ⟨a,b⟩:=List.mem_filter.mp hl
   have hl:=(ho.mem l).mp a
   have:=(I.known.says_none (z l hl)).mp (by simpa using b)
   exact ⟨hl,this.1,this.2⟩
  have fnd:(ys.filter (fun l=>σ1.says l==none)).Nodup:=ho.nodup.sublist List.filter_sublist
  generalize ys.filter (fun l=>σ1.says l==none)=left at cases3 fsub fnd
  have rl:=R.rows
  have ll:=R.lg
  match left,cases3,fsub,fnd with
  | [],cases3,_,_=>
   have un:Unsat (cls++[xs]):=fun U hU h=>by
    obtain ⟨l,hl,ul⟩:=h xs (by simp)
    exact hU.one l ul (lows l ((cases3 l hl).resolve_left (by simp)) U (forced_all log hU h))
   have r0:=I.room
   refine ⟨⟨R.ht,fun U hU h=>absurd h (un U hU),Nat.le_succ_of_le R.rows,by show (σ1.lg++[[]]).length≤_; rw [List.length_append]; exact Nat.succ_le_succ R.lg,.dead rfl be0 ⟨r0.kn,r0.hh,r0.ca,r0.li,r0.ht,r0.wd,r0.row,r0.be,r0.rows,by show (σ1.lg++[[]]).length≤BB; rw [List.length_append]; show σ1.lg.length + 1≤BB; lia,r0.wl⟩ un⟩,.inr ⟨by show σ1.lg++[[]]=_; rw [elg],rfl⟩⟩
  | [l],cases3,fsub,_=>
   obtain ⟨f1,f2,f3⟩:=fsub l (.head _)
   have I2:=let_ok I' (l:=l) (o:=none) (hx l f1) f2 f3 (fun uu U s=>(s xs xsB).2 l f1 fun m hm ne=>lows m ((cases3 m hm).resolve_left (by simp [ne])) U s) (fun q=>absurd be0 q) (.inl rfl)
   have lowT:∀ x,Low σ1 x→Low (σ1.let' l none) x:=fun x ⟨i,ei,li⟩=>⟨i,by show (σ1.row++[l])[i]?=_; rw [List.getElem?_append_left (List.getElem?_eq_some_iff.mp ei).1]; exact ei,li⟩
   refine ⟨⟨R.ht,log,Nat.le_succ_of_le R.rows,Nat.le_succ_of_le R.lg,.live (s:=σ1.seen) cr I2 (cov1 (fun C hC=>(cv C hC).to lowT fun n c e=>⟨c,e,.refl _⟩) (.low f1 ⟨σ1.row.length,by show (σ1.row++[l])[_]?=_; rw [List.getElem?_append_right (Nat.le_refl _),Nat.sub_self]; rfl,by show lvl σ1.be _=0; rw [be0]; rfl⟩)) ⟨F.att,fun n c w w' e p i hi ei=>?_⟩ (top0 (σ':=σ1.let' l none) be0) fun uu=>rfl⟩,.inl ⟨elg,eref⟩⟩
   have hi2:i<σ1.row.length:=Nat.lt_of_lt_of_le hi I.seen
   have ei:(σ1.row++[l])[i]?=some (-w):=ei
   rw [List.getElem?_append_left hi2] at ei
   obtain ⟨j,ej,lj⟩:=F.wch n c w w' e p i hi ei
   exact ⟨j,by show (σ1.row++[l])[j]?=_; rw [List.getElem?_append_left (List.getElem?_eq_some_iff.mp ej).1]; exact ej,lj⟩
  | a::b::r,cases3,fsub,fnd=>
   have G:GoodC 5 (a::b::r):=⟨by simp,fnd,fun l hl=>hx l (fsub l hl).1,fun l hl q=>nc ⟨l,(fsub l hl).1,(fsub _ q).1⟩⟩
   have I2:=keep_ok I' G (by lia) ⟨xs,xsB,fun l hl=>(fsub l hl).1,fun l hl=>(cases3 l hl).imp id fun q=>lows l q⟩
   exact ⟨⟨R.ht,log,by show (σ1.rows++[_]).length≤w + 1; rw [List.length_append]; exact Nat.succ_le_succ R.rows,Nat.le_succ_of_le R.lg,.live (s:=σ1.seen) cr I2 (cov1 (fun C hC=>(cv C hC).to (fun uu q=>q) fun n c e=>⟨c,by show (σ1.rows++_)[n]?=_; rw [List.getElem?_append_left (List.getElem?_eq_some_iff.mp e).1]; exact e,.refl _⟩) (.row (n:=σ1.rows.length) (c:=a::b::r) (by show (σ1.rows++_)[_]?=_; rw [List.getElem?_append_right (Nat.le_refl _),Nat.sub_self]; rfl) (fun l hl=>(fsub l hl).1) fun l hl=>(cases3 l hl).imp id fun q=>by
    obtain ⟨i,hi⟩:=List.mem_iff_getElem?.mp q
    exact ⟨i,hi,by show lvl σ1.be i=0; rw [be0]; rfl⟩)) (keep_full F G.two fun l hl=>(fsub l hl).2.2) (top0 (σ':=σ1.keep (a::b::r)) be0) fun uu=>rfl⟩,.inl ⟨elg,eref⟩⟩
theorem solve_ok (hw:w + 5000<BB){σ1:St}(L:Low0 cls w σ σ1)(hA:A.length≤3):∃ j,Going cls A σ.lg σ.cl σ.lim (w + 5000) j (σ1.sBl []) σ1.cl 16:=by
 induction L with
 | mk e R be0 hfit FF elg ecl elim eref=>
 have r1:=R.rows
 have r2:=R.lg
 have fr:Fresh σ.lg σ.cl (σ1.sBl []):=.mk (f:=[]) (by show σ1.lg=_; rw [elg,List.append_nil]) (by show 0=σ1.cl - σ.cl; rw [ecl,Int.sub_self]) fun C hC=>absurd hC List.not_mem_nil
 by_cases q:σ1.ref=true
 ·induction R.way with
  | live e' _ _ _ _ _=>exact ff (e'.symm.trans q)
  | dead e' b room u=>
   exact ⟨0,.dead q be0 ⟨room.kn,room.hh,room.ca,room.li,room.ht,room.wd,room.row,room.be,room.rows,room.lg,room.wl⟩ u R.ht R.log fr elim rfl (by show σ1.rows.length≤_; lia) (by show σ1.lg.length≤_; lia)⟩
 ·have q:=Bool.eq_false_iff.mpr q
  obtain ⟨I,C,F⟩:=FF q
  have ab:absent σ1.rows≤243:=Nat.le_trans List.countP_le_length (by rw [List.length_range]; exact Nat.le_refl _)
  have pt:pot (σ1.sBl [])≤248:=by
   unfold pot
   exact Nat.add_le_add ab (Nat.sub_le _ _)
  have fl:=fuel_le (σ:=σ1.sBl []) (r:=σ1.cl) (sp:=16) hA
  have dl:=due_le (σ:=σ1.sBl []) (r:=σ1.cl) (sp:=16)
  have be1:(σ1.sBl []).be=[]:=be0
  refine ⟨fuel A (σ1.sBl []) σ1.cl 16,.live q { I with room:=⟨I.room.kn,I.room.hh,I.room.ca,I.room.li,I.room.ht,I.room.wd,I.room.row,I.room.be,I.room.rows,I.room.lg,I.room.wl⟩ } (fun D hD=>(C D hD).to (fun uu h=>h) fun m c e=>⟨c,e,.refl _⟩) ⟨F.att,F.wch⟩ ⟨fun k x hk=>absurd hk (by rw [be1]; exact Nat.not_lt_zero _),fun i x uu h0=>absurd h0 (by rw [be1]; exact Nat.lt_irrefl _)⟩ R.ht R.log fr elim rfl (by decide) (Nat.le_refl _) ?_ ?_ ?_⟩
  ·show σ1.rows.length + _≤_; lia
  ·show σ1.lg.length + _≤_; lia
  ·rw [be1]; show 0 + _≤_; lia
end
end Mini.C
end
section
namespace Mini.T02
open PySem Mini
noncomputable def f__law_turn:MFn:=⟨2,none,
  (.cons (.assign (.var 2) (.sub (.var 0) (.str 35)))
  (.cons (.assign (.sub (.var 0) (.str 35)) (.bin .add (.var 2) (.int 1)))
  (.cons (.ite (.cmp .lt (.var 2) (.callB .len (.cons (.sub (.var 0) (.str 6)) .nil))) (.cons (.ret (.bin .mod (.sub (.sub (.var 0) (.str 6)) (.var 2)) (.var 1)))
  .nil) .nil)
  (.cons (.ret (.bin .mod (.bin .mod (.bin .add (.bin .add (.bin .mul (.bin .mul (.int 29) (.var 2)) (.var 2)) (.bin .mul (.int 17) (.var 2))) (.int 160)) (.int 1009)) (.var 1)))
  .nil))))⟩
noncomputable def v__law_turn:List (Str×Nat):=[(Str.ofString "wheel",0),(Str.ofString "many",1),(Str.ofString "spot",2)]
noncomputable def f__law_clause:MFn:=⟨1,none,
  (.cons (.assigns [(.var 1),(.var 2),(.var 3),(.var 4)] (.cons (.bin .mod (.var 0) (.int 5)) (.cons (.bin .mod (.bin .fdiv (.var 0) (.int 5)) (.int 2)) (.cons (.bin .mod (.bin .fdiv (.var 0) (.int 10)) (.int 8)) (.cons (.ite (.cmp .lt (.var 0) (.int 160)) (.int 3) (.int 2)) .nil)))))
  (.cons (.assign (.var 5) (.list .nil))
  (.cons (.for 6 (.callB .range1 (.cons (.var 4) .nil)) (.cons (.assign (.var 7) (.bin .add (.int 1) (.bin .mod (.bin .add (.var 1) (.bin .mul (.var 6) (.bin .add (.int 1) (.var 2)))) (.int 5))))
  (.cons (.expr (.callM (.var 5) 0 (.cons (.ite (.cmp .eq (.bin .band (.bin .shr (.var 3) (.var 6)) (.int 1)) (.int 0)) (.var 7) (.bin .sub (.int 0) (.var 7))) .nil)))
  .nil)))
  (.cons (.ret (.callB .tuple (.cons (.var 5) .nil)))
  .nil))))⟩
noncomputable def v__law_clause:List (Str×Nat):=[(Str.ofString "code",0),(Str.ofString "first",1),(Str.ofString "step",2),(Str.ofString "signs",3),(Str.ofString "size",4),(Str.ofString "found",5),(Str.ofString "k",6),(Str.ofString "v",7)]
noncomputable def f__law_rows:MFn:=⟨1,none,
  (.cons (.assign (.var 1) (.int 0))
  (.cons (.for 2 (.var 0) (.cons (.assign (.var 1) (.bin .bor (.var 1) (.ite (.cmp .gt (.var 2) (.int 0)) (.sub (.gtup [2863311530,3435973836,4042322160,4278255360,4294901760]) (.bin .sub (.var 2) (.int 1))) (.bin .sub (.glob 4294967295) (.sub (.gtup [2863311530,3435973836,4042322160,4278255360,4294901760]) (.bin .sub (.bin .sub (.int 0) (.var 2)) (.int 1)))))))
  .nil))
  (.cons (.ret (.var 1))
  .nil)))⟩
noncomputable def v__law_rows:List (Str×Nat):=[(Str.ofString "literals",0),(Str.ofString "found",1),(Str.ofString "one",2)]
noncomputable def f__law_shared:MFn:=⟨1,none,
  (.cons (.assign (.var 1) (.glob 4294967295))
  (.cons (.for 2 (.var 0) (.cons (.assign (.var 1) (.bin .band (.var 1) (.callF 3 (.cons (.tup (.cons (.var 2) .nil)) .nil))))
  .nil))
  (.cons (.ret (.var 1))
  .nil)))⟩
noncomputable def v__law_shared:List (Str×Nat):=[(Str.ofString "literals",0),(Str.ofString "found",1),(Str.ofString "one",2)]
noncomputable def f__law_assumed:MFn:=⟨1,none,
  (.cons (.assign (.var 1) (.comp (.callF 1 (.cons (.var 0) (.cons (.int 10) .nil))) 2 (.callB .range1 (.cons (.bin .add (.int 1) (.callF 1 (.cons (.var 0) (.cons (.int 3) .nil)))) .nil)) .nil))
  (.cons (.ret (.comp (.ite (.cmp .eq (.bin .mod (.var 3) (.int 2)) (.int 0)) (.bin .add (.int 1) (.bin .fdiv (.var 3) (.int 2))) (.bin .sub (.bin .sub (.int 0) (.int 1)) (.bin .fdiv (.var 3) (.int 2)))) 3 (.var 1) .nil))
  .nil))⟩
noncomputable def v__law_assumed:List (Str×Nat):=[(Str.ofString "wheel",0),(Str.ofString "codes",1)]
noncomputable def f__law_answer_right:MFn:=⟨5,none,
  (.cons (.assign (.var 5) (.bin .band (.var 1) (.callF 4 (.cons (.var 2) .nil))))
  (.cons (.ite (.or (.cons (.not (.isbool (.var 3))) (.cons (.cmp .ne (.var 3) (.cmp .ne (.var 5) (.int 0))) .nil))) (.cons (.ret (.bool false))
  .nil) .nil)
  (.cons (.ite (.var 3) (.cons (.assign (.var 6) (.callB .sum (.cons (.comp (.bin .pow (.int 2) (.bin .sub (.var 8) (.int 1))) 8 (.callB .range2 (.cons (.int 1) (.cons (.int 6) .nil))) (.cons (.callM (.var 0) 36 (.cons (.var 8) .nil)) .nil)) .nil)))
  (.cons (.ret (.and (.cons (.cmp .eq (.bin .band (.bin .shr (.var 5) (.var 6)) (.int 1)) (.int 1)) (.cons (.not (.var 4)) .nil))))
  .nil)) .nil)
  (.cons (.assign (.var 7) (.callM (.var 0) 37 .nil))
  (.cons (.ite (.or (.cons (.cmp .ne (.comp (.var 9) 9 (.var 7) (.cons (.cmp .notin (.var 9) (.var 2)) .nil)) (.list .nil)) (.cons (.cmp .ne (.bin .band (.var 1) (.callF 4 (.cons (.var 7) .nil))) (.int 0)) .nil))) (.cons (.ret (.bool false))
  .nil) .nil)
  (.cons (.ret (.or (.cons (.cmp .eq (.var 7) (.tup .nil)) (.cons (.not (.var 4)) .nil))))
  .nil))))))⟩
noncomputable def v__law_answer_right:List (Str×Nat):=[(Str.ofString "search",0),(Str.ofString "worlds",1),(Str.ofString "assumed",2),(Str.ofString "told",3),(Str.ofString "is_spent",4),(Str.ofString "able",5),(Str.ofString "place",6),(Str.ofString "lost",7)]
noncomputable def f__law_asking_right:MFn:=⟨4,none,
  (.cons (.assign (.attr (.var 0) 27) (.var 3))
  (.cons (.assigns [(.var 4),(.var 5)] (.cons (.callB .list (.cons (.attr (.var 0) 11) .nil)) (.cons (.attr (.var 0) 10) .nil)))
  (.cons (.tryM 6 (.var 0) 38 (.cons (.callB .list (.cons (.var 2) .nil)) .nil))
  (.cons (.assigns [(.var 7),(.var 8)] (.cons (.bin .sub (.attr (.var 0) 10) (.var 5)) (.cons (.sliceFrom (.attr (.var 0) 11) (.callB .len (.cons (.var 4) .nil))) .nil)))
  (.cons (.ite (.or (.cons (.cmp .ne (.sliceTo (.attr (.var 0) 11) (.callB .len (.cons (.var 4) .nil))) (.var 4)) (.cons (.cmp .ne (.comp (.var 12) 12 (.var 8) (.cons (.cmp .ne (.bin .band (.var 1) (.bin .sub (.glob 4294967295) (.callF 3 (.cons (.var 12) .nil)))) (.int 0)) .nil)) (.list .nil)) .nil))) (.cons (.ret (.bool false))
  .nil) .nil)
  (.cons (.assign (.var 9) (.chain .lt .le (.int 0) (.var 3) (.var 7)))
  (.cons (.ite (.cmp .is (.var 6) .none) (.cons (.ret (.and (.cons (.var 9) (.cons (.cmp .eq (.callB .len (.cons (.var 8) .nil)) (.var 7)) .nil))))
  .nil) .nil)
  (.cons (.ite (.not (.callF 6 (.cons (.var 0) (.cons (.var 1) (.cons (.var 2) (.cons (.var 6) (.cons (.var 9) .nil))))))) (.cons (.ret (.bool false))
  .nil) .nil)
  (.cons (.assign (.var 10) (.ite (.var 6) (.tup .nil) (.callM (.var 0) 37 .nil)))
  (.cons (.assign (.var 11) (.ite (.and (.cons (.cmp .ne (.var 10) (.tup .nil)) (.cons (.cmp .ne (.callF 4 (.cons (.var 10) .nil)) (.int 0)) .nil))) (.list (.cons (.callB .tuple (.cons (.sortAbs (.comp (.bin .sub (.int 0) (.var 13)) 13 (.var 10) .nil)) .nil)) .nil)) (.list .nil)))
  (.cons (.ret (.and (.cons (.cmp .eq (.callB .len (.cons (.var 8) .nil)) (.bin .add (.var 7) (.callB .len (.cons (.var 11) .nil)))) (.cons (.cmp .eq (.sliceFrom (.var 8) (.var 7)) (.var 11)) .nil))))
  .nil)))))))))))⟩
noncomputable def v__law_asking_right:List (Str×Nat):=[(Str.ofString "search",0),(Str.ofString "worlds",1),(Str.ofString "assumed",2),(Str.ofString "most",3),(Str.ofString "elder",4),(Str.ofString "begun",5),(Str.ofString "told",6),(Str.ofString "spent",7),(Str.ofString "fresh",8),(Str.ofString "is_spent",9),(Str.ofString "lost",10),(Str.ofString "denied",11)]
noncomputable def f_law:MFn:=⟨1,none,
  (.cons (.assign (.var 1) (.dict2 6 (.comp (.bin .mod (.callB .int (.cons (.var 13) .nil)) (.int 1000003)) 13 (.sliceTo (.var 0) (.int 60)) .nil) 35 (.int 0)))
  (.cons (.assign (.var 2) (.comp (.callF 2 (.cons (.callF 1 (.cons (.var 1) (.cons (.int 240) .nil))) .nil)) 14 (.callB .range1 (.cons (.bin .add (.int 7) (.callF 1 (.cons (.var 1) (.cons (.int 6) .nil)))) .nil)) .nil))
  (.cons (.assigns [(.var 3),(.var 4)] (.cons (.new (.cons (.var 2) (.cons (.int 5) .nil))) (.cons (.glob 4294967295) .nil)))
  (.cons (.for 5 (.var 2) (.cons (.assign (.var 4) (.bin .band (.var 4) (.callF 3 (.cons (.var 5) .nil))))
  .nil))
  (.cons (.assign (.var 6) (.callF 5 (.cons (.var 1) .nil)))
  (.cons (.assign (.var 7) (.callF 5 (.cons (.var 1) .nil)))
  (.cons (.for 8 (.callB .range1 (.cons (.bin .add (.int 4) (.callF 1 (.cons (.var 1) (.cons (.int 3) .nil)))) .nil)) (.cons (.ite (.cmp .eq (.callF 1 (.cons (.var 1) (.cons (.int 5) .nil))) (.int 4)) (.cons (.assigns [(.var 5),(.var 9)] (.cons (.callF 2 (.cons (.callF 1 (.cons (.var 1) (.cons (.int 240) .nil))) .nil)) (.cons (.callB .list (.cons (.attr (.var 3) 11) .nil)) .nil)))
  (.cons (.assign (.var 4) (.bin .band (.var 4) (.callF 3 (.cons (.var 5) .nil))))
  (.cons (.assign (.var 10) (.callM (.var 3) 28 (.cons (.var 5) .nil)))
  (.cons (.ite (.or (.cons (.and (.cons (.not (.var 10)) (.cons (.cmp .ne (.var 4) (.int 0)) .nil))) (.cons (.cmp .notin (.attr (.var 3) 11) (.tup (.cons (.var 9) (.cons (.bin .cat (.var 9) (.list (.cons (.tup .nil) .nil))) .nil)))) (.cons (.and (.cons (.var 10) (.cons (.cmp .ne (.attr (.var 3) 11) (.var 9)) .nil))) .nil)))) (.cons (.ret (.bool false))
  .nil) .nil)
  .nil)))) .nil)
  (.cons (.assign (.var 11) (.callF 1 (.cons (.var 1) (.cons (.int 3) .nil))))
  (.cons (.assign (.var 12) (.ite (.cmp .lt (.var 11) (.int 2)) (.sub (.tup (.cons (.var 6) (.cons (.var 7) .nil))) (.var 11)) (.callF 5 (.cons (.var 1) .nil))))
  (.cons (.ite (.not (.callF 7 (.cons (.var 3) (.cons (.var 4) (.cons (.var 12) (.cons (.sub (.tup (.cons (.int 1) (.cons (.int 0) (.cons (.int 2) (.cons (.int 1) .nil))))) (.callF 1 (.cons (.var 1) (.cons (.int 4) .nil)))) .nil)))))) (.cons (.ret (.bool false))
  .nil) .nil)
  .nil)))))
  (.cons (.ret (.and (.cons (.callF 7 (.cons (.var 3) (.cons (.var 4) (.cons (.var 6) (.cons (.int 0) .nil))))) (.cons (.callF 7 (.cons (.var 3) (.cons (.var 4) (.cons (.var 7) (.cons (.int 0) .nil))))) .nil))))
  .nil))))))))⟩
noncomputable def v_law:List (Str×Nat):=[(Str.ofString "script",0),(Str.ofString "wheel",1),(Str.ofString "clauses",2),(Str.ofString "search",3),(Str.ofString "worlds",4),(Str.ofString "clause",5),(Str.ofString "first",6),(Str.ofString "second",7),(Str.ofString "lap",8),(Str.ofString "elder",9),(Str.ofString "stands",10),(Str.ofString "way",11),(Str.ofString "assumed",12)]
noncomputable def strTab:List Str:=[Str.ofString "append",Str.ofString "extend",Str.ofString "pop",Str.ofString "update",Str.ofString "get",Str.ofString "setdefault",Str.ofString "cells",Str.ofString "begins",Str.ofString "row",Str.ofString "heights",Str.ofString "clashes",Str.ofString "log",Str.ofString "learn",Str.ofString "is_refuted",Str.ofString "height_of",Str.ofString "says",Str.ofString "spread",Str.ofString "let",Str.ofString "known",Str.ofString "causes",Str.ofString "seen",Str.ofString "liked",Str.ofString "rows",Str.ofString "watching",Str.ofString "heats",Str.ofString "gain",Str.ofString "blamed",Str.ofString "conflict_limit",Str.ofString "add_clause",Str.ofString "back_to",Str.ofString "refute",Str.ofString "keep",Str.ofString "has_moved",Str.ofString "warm",Str.ofString "lesson",Str.ofString "spot",Str.ofString "value",Str.ofString "failed",Str.ofString "solve",Str.ofString "blame",Str.ofString "hottest",Str.ofString "decide"]
noncomputable def fnTab:List Str:=[Str.ofString "ordered",Str.ofString "_law_turn",Str.ofString "_law_clause",Str.ofString "_law_rows",Str.ofString "_law_shared",Str.ofString "_law_assumed",Str.ofString "_law_answer_right",Str.ofString "_law_asking_right",Str.ofString "law"]
noncomputable def globTab:List (Str×Int):=[(Str.ofString "FIRST_SPAN",16),(Str.ofString "MOST_HEAT",1000000000),(Str.ofString "_law_every",4294967295)]
noncomputable def gtupTab:List (Str×List Int):=[(Str.ofString "_law_columns",[2863311530,3435973836,4042322160,4278255360,4294901760])]
noncomputable def attrTab:List Nat:=[27,10,11,18,9,19,8,7,20,21,22,23,24,25,13,26]
noncomputable def tab:Tab:=⟨strTab,fnTab,globTab,gtupTab,attrTab,Str.ofString "Search",Str.ofString "LimitFault"⟩
noncomputable def prog:MProg:=⟨[C.f_ordered,f__law_turn,f__law_clause,f__law_rows,f__law_shared,f__law_assumed,f__law_answer_right,f__law_asking_right,f_law,C.f_Values___init__,C.f_Values_says,C.f_Values_let,C.f_Values_back_to,{ C.f_Search___init__ with sup:=some 9 },C.f_Search_add_clause,C.f_Search_refute,C.f_Search_keep,C.f_Search_spread,C.f_Search_has_moved,C.f_Search_warm,C.f_Search_lesson,C.f_Search_height_of,C.f_Search_learn,C.f_Search_blame,C.f_Search_hottest,C.f_Search_decide,C.f_Search_solve,C.f_Search_value,C.f_Search_failed],[(15,10),(17,11),(29,12),(28,14),(30,15),(31,16),(16,17),(32,18),(33,19),(34,20),(14,21),(12,22),(39,23),(40,24),(41,25),(38,26),(36,27),(37,28)],13⟩
end Mini.T02
end
section
namespace Mini.C
open Mini
section
variable {P:MProg}{sc:List Int}{d:Nat}{adr:Tag→Nat}{h:MHeap}{σ:St}{X:XH}{Q:KV}{ρ:Vars}
theorem eq_step {x y:Int}{xs ys:List Int}:(x==y&&decide (xs=ys))=decide (x::xs=y::ys):=by
 by_cases c:x=y
 ·by_cases e:xs=ys
  ·rw [decide_eq_true e,decide_eq_true (congr (congrArg List.cons c) e),beq_iff_eq.mpr c]; rfl
  ·rw [decide_eq_false e,decide_eq_false fun q=>e (List.cons.inj q).2,Bool.and_false]
 ·rw [beq_eq_false_iff_ne.mpr c,decide_eq_false fun q=>c (List.cons.inj q).1]; rfl
theorem eqL_iL {R:MV→MV→Bool→Prop}(hR:∀ a b:Int,R (.int a) (.int b) (a==b)){xs ys:List Int}:EqL R (iL xs) (iL ys) (decide (xs=ys)):=by
 induction xs generalizing ys with
 | nil=>
  rcases ys with _ | ⟨y,s⟩
  ·exact .nil
  ·exact .right _ _
 | cons x r ih=>
  rcases ys with _ | ⟨y,s⟩
  ·exact .left _ _
  ·exact eq_step▸.cons (hR x y) ih
theorem feq_tup {xs ys:List Int}:FEq (.tup (iL xs)) (.tup (iL ys)) (decide (xs=ys)):=.tt (eqL_iL .ii)
theorem eqv_nil {a b:Nat}{xs:List MV}(ha:h.obj a=some (.list xs))(hb:h.obj b=some (.list [])):Eqv h (.ref a) (.ref b) xs.isEmpty:=by
 rcases xs with _ | ⟨x,r⟩
 ·exact .list ha hb .nil
 ·exact .list ha hb (.left _ _)
theorem inL_iL {l:Int}{xs:List Int}:InL (.int l) (iL xs) (decide (l∈xs)):=by
 induction xs with
 | nil=>exact .nil
 | cons x r ih=>
  have e:(x==l||decide (l∈r))=decide (l∈x::r):=by
   by_cases c:x=l
   ·rw [beq_iff_eq.mpr c,decide_eq_true (List.mem_cons.mpr (.inl c.symm))]; rfl
   ·by_cases q:l∈r
    ·rw [decide_eq_true q,decide_eq_true (List.mem_cons_of_mem _ q),Bool.or_true]
    ·rw [decide_eq_false q,beq_eq_false_iff_ne.mpr c,decide_eq_false fun z=>(List.mem_cons.mp z).elim (fun z=>c z.symm) q]; rfl
  exact e▸.cons (.ii x l) ih
section
variable {L:Lg}{e i l r o k:ME}{es:MEs}{t:Bool}{op:MCmp}{n:Nat}
theorem m_cmpL (H:ev L l ρ false (fun v h=>ev L r ρ false (fun w h=>Yields (Cmp h op v w) fun b=>Q (.bool b) h) h) h):ev L (.cmp op l r) ρ t Q h:=H
theorem m_and (H:ev L e ρ t (fun v h=>If v (ev L (.and (.cons i es)) ρ t Q h) (Q (.bool false) h)) h):ev L (.and (.cons e (.cons i es))) ρ t Q h:=H
theorem m_and1 (H:ev L e ρ t Q h):ev L (.and (.cons e .nil)) ρ t Q h:=H
theorem m_or (H:ev L e ρ t (fun v h=>If v (Q (.bool true) h) (ev L (.or (.cons i es)) ρ t Q h)) h):ev L (.or (.cons e (.cons i es))) ρ t Q h:=H
theorem e_notin {x:Int}{xs:List Int}(E:Ev L ρ h l (.int x))(E':Ev L ρ h r (.ref n))(o:h.obj n=some (.list (iL xs))):Ev L ρ h (.cmp .notin l r) (.bool (!decide (x∈xs))):=e_cmp E E' (.notin (.list o inL_iL))
theorem Sim.nil_ne {Q:Bool→HP}{ys:List MV}(S:Sim adr h σ X)(H:∀ h',Sim adr h' σ X→Q (!ys.isEmpty) h') :
  fin false (fun v h=>ev L (.list .nil) ρ false (fun w h=>Yields (Cmp h .ne v w) fun b=>Q b h) h) (.ref h.next) (h.new (.list ys)):=by
 have S1:=S.push (.list ys)
 have S2:=S1.push (.list [])
 exact m_list e_nil (Nat.zero_le _) (f_in (.mk (.ne (eqv_nil (S2.o (S1.sub_put _ _ put_same)) (S2.o put_same))) (H _ (S.put_less (S1.put_less S2)))))
end
structure Feed (X:XH)(f c:Nat)(cs:List Int)(k:Nat):Prop where
 feed:X f=some (.sdict [(6,.ref c),(35,.int (k:Int))])
 cells:X c=some (.list (iL cs))
noncomputable abbrev feedO (c k:Nat):MObj:=.sdict [(6,.ref c),(35,.int (k:Int))]
end
section
variable {h:MHeap}{X:XH}
theorem m_arR {L:Lg}{ρ:Vars}{l r:ME}{v:MV}{op:MOp}{t:Bool}{Q:KV}(E:Ev L ρ h l v)(H:ev L r ρ false (fun w h=>Via (Bin h op v w) (fin t Q)) h):ev L (.bin op l r) ρ t Q h:=E.go H
theorem Out0.push (O:Out0 h X)(o:MObj):Out0 (h.new o) (X.put h.next o):=fun a o' e=>by
 by_cases c:a=h.next
 ·rw [c,put_same] at e
  rw [c,← Option.some.inj e]
  exact ⟨new_same,Nat.lt_succ_self _⟩
 ·rw [put_ne c] at e
  exact ⟨(new_ne (O a o' e).lt).trans (O a o' e).obj,Nat.lt_succ_of_lt (O a o' e).lt⟩
theorem Out0.poke (O:Out0 h X){a:Nat}{o:MObj}(e:X a=some o)(o':MObj):Out0 (h.set a o') (X.put a o'):=fun b p q=>by
 by_cases c:b=a
 ·rw [c,put_same] at q
  rw [c,← Option.some.inj q]
  exact ⟨set_same,(O a o e).lt⟩
 ·rw [put_ne c] at q
  exact ⟨(set_ne c).trans (O b p q).obj,(O b p q).lt⟩
theorem Out0.none_at (O:Out0 h X):X h.next=none:=by
 by_cases e:X h.next=none
 ·exact e
 ·obtain ⟨o,e⟩:=Option.ne_none_iff_exists'.mp e
  exact absurd (O _ o e).lt (Nat.lt_irrefl _)
theorem ne_obj {a b:Nat}{o p:MObj}(x:X a=some o)(y:X b=some p)(n:o≠p):a≠b:=fun q=>n (Option.some.inj (x.symm.trans (q▸y)))
end
section
variable {L:Lg}{ρ:Vars}{h:MHeap}{e i a b c:ME}{v:MV}{t:Bool}{Q:KV}{r:MSs}{R:KF}{es:MEs}{vs:List MV}
theorem m_subR (E:Ev L ρ h e v)(H:ev L i ρ false (fun w h=>Yields (GetI h v w) fun u=>fin t Q u h) h):ev L (.sub e i) ρ t Q h:=E.go H
theorem m_new (E:EvL L ρ h es vs)(H:L.call L.P.init (.ref h.next::vs) (fun r h'=>r = .none∧fin t Q (.ref h.next) h') (h.new (.inst []))):ev L (.new es) ρ t Q h:=E _ H
theorem m_dict2 {k k':Nat}{e':ME}(H:ev L e ρ false (fun v h=>ev L e' ρ false (fun w h=>fin t Q (.ref h.next) (h.new (.sdict [(k,v),(k',w)]))) h) h):ev L (.dict2 k e k' e') ρ t Q h:=H
end
noncomputable def dropS:Nat→MSs→MSs
 | 0,m=>m
 | n + 1,m=>dropS n (MSs.tl m)
end Mini.C
end
section
namespace Mini.C
open Mini
noncomputable abbrev every:Nat:=4294967295
noncomputable abbrev lit5 (l:Int):Prop:=1≤l.natAbs∧l.natAbs≤5
noncomputable def colL:List Nat:=[2863311530,3435973836,4042322160,4278255360,4294901760]
noncomputable def col (i:Nat):Nat:=colL.getD i 0
noncomputable def tv (p:Nat)(l:Int):Bool:=if 0<l then p.testBit (l.natAbs - 1) else !p.testBit (l.natAbs - 1)
noncomputable def litM (l:Int):Nat:=if 0<l then col (l.natAbs - 1) else every - col (l.natAbs - 1)
noncomputable def rowsM (c:List Int):Nat:=c.foldl (fun m l=>m|||litM l) 0
noncomputable def sharedM (c:List Int):Nat:=c.foldl (fun m l=>m&&&rowsM [l]) every
theorem col_lt:∀ i,i<5→col i<2 ^ 32:=by decide
theorem col_bit:∀ i,i<5→∀ p,p<32→(col i).testBit p=p.testBit i:=by decide
theorem every_sub (m p:Nat)(h:m<2 ^ 32)(hp:p<32):(every - m).testBit p=!m.testBit p:=by
 have z:=Nat.testBit_two_pow_sub_succ h p
 rw [show (2:Nat) ^ 32 - (m + 1)=every - m by rw [Nat.add_comm,← Nat.sub_sub]] at z
 rw [z,decide_eq_true hp,Bool.true_and]
theorem sub_lt (m:Nat):every - m<2 ^ 32:=Nat.lt_of_le_of_lt (Nat.sub_le _ _) (by decide)
theorem ix {l:Int}(h:lit5 l):l.natAbs - 1<5:=by have:=h.1; have:=h.2; lia
theorem litM_lt {l:Int}(h:lit5 l):litM l<2 ^ 32:=by
 unfold litM
 by_cases c:0<l
 ·rw [if_pos c]; exact col_lt _ (ix h)
 ·rw [if_neg c]; exact sub_lt _
theorem litM_bit {l:Int}(h:lit5 l){p:Nat}(hp:p<32):(litM l).testBit p=tv p l:=by
 unfold litM tv
 by_cases c:0<l
 ·rw [if_pos c,if_pos c,col_bit _ (ix h) p hp]
 ·rw [if_neg c,if_neg c,every_sub _ _ (col_lt _ (ix h)) hp,col_bit _ (ix h) p hp]
theorem every_bit {p:Nat}(hp:p<32):every.testBit p=true:=by
 have z:=every_sub 0 p (by decide) hp
 rw [Nat.zero_testBit] at z
 exact z
theorem or_fold {c:List Int}(hc:∀ l∈c,lit5 l){m:Nat}(hm:m<2 ^ 32):c.foldl (fun m l=>m|||litM l) m<2 ^ 32∧∀ p,p<32→(c.foldl (fun m l=>m|||litM l) m).testBit p=(m.testBit p||c.any (tv p)):=by
 induction c generalizing m with
 | nil=>exact ⟨hm,fun p uu=>(Bool.or_false _).symm⟩
 | cons l r ih=>
  have hl:=hc l List.mem_cons_self
  obtain ⟨a,b⟩:=ih (fun x hx=>hc x (List.mem_cons_of_mem _ hx)) (Nat.or_lt_two_pow hm (litM_lt hl))
  refine ⟨a,fun p hp=>?_⟩
  rw [List.foldl_cons,b p hp,Nat.testBit_or,litM_bit hl hp,List.any_cons,Bool.or_assoc]
theorem rowsM_ok {c:List Int}(hc:∀ l∈c,lit5 l):rowsM c<2 ^ 32∧∀ p,p<32→(rowsM c).testBit p=c.any (tv p):=by
 obtain ⟨a,b⟩:=or_fold hc (m:=0) (by decide)
 exact ⟨a,fun p hp=>by rw [rowsM,b p hp,Nat.zero_testBit,Bool.false_or]⟩
theorem and_fold {c:List Int}(hc:∀ l∈c,lit5 l){m:Nat}(hm:m<2 ^ 32):c.foldl (fun m l=>m&&&rowsM [l]) m<2 ^ 32∧∀ p,p<32→(c.foldl (fun m l=>m&&&rowsM [l]) m).testBit p=(m.testBit p&&c.all (tv p)):=by
 induction c generalizing m with
 | nil=>exact ⟨hm,fun p uu=>(Bool.and_true _).symm⟩
 | cons l r ih=>
  have hl:∀ x∈[l],lit5 x:=fun x hx=>List.mem_singleton.mp hx▸hc l List.mem_cons_self
  obtain ⟨a,b⟩:=ih (fun x hx=>hc x (List.mem_cons_of_mem _ hx)) (m:=m&&&rowsM [l]) (Nat.lt_of_le_of_lt Nat.and_le_left hm)
  refine ⟨a,fun p hp=>?_⟩
  rw [List.foldl_cons,b p hp,Nat.testBit_and,(rowsM_ok hl).2 p hp,List.all_cons,List.any_cons,List.any_nil,Bool.or_false,Bool.and_assoc]
theorem sharedM_ok {c:List Int}(hc:∀ l∈c,lit5 l):sharedM c<2 ^ 32∧∀ p,p<32→(sharedM c).testBit p=c.all (tv p):=by
 obtain ⟨a,b⟩:=and_fold hc (m:=every) (by decide)
 exact ⟨a,fun p hp=>by rw [sharedM,b p hp,every_bit hp,Bool.true_and]⟩
theorem mask_ne {m:Nat}(hm:m<2 ^ 32):m≠0↔∃ p,p<32∧m.testBit p=true:=by
 refine ⟨fun h=>?_,fun ⟨p,_,h⟩ q=>?_⟩
 ·obtain ⟨p,hp⟩:=Nat.exists_testBit_of_ne_zero h
  refine ⟨p,Nat.not_le.mp fun q=>?_,hp⟩
  rw [Nat.testBit_lt_two_pow (Nat.lt_of_lt_of_le hm (Nat.pow_le_pow_right (by decide) q))] at hp
  exact ff hp
 ·rw [q,Nat.zero_testBit] at h; exact ff h
structure Worlds (m:Nat)(cls:List (List Int)):Prop where
 lt:m<2 ^ 32
 bit:∀ p,p<32→(m.testBit p=true↔∀ C∈cls,∃ l∈C,tv p l=true)
theorem Worlds.nil:Worlds every []:=⟨by decide,fun p hp=>⟨fun uu C h=>absurd h List.not_mem_nil,fun uu=>every_bit hp⟩⟩
theorem Worlds.push {m:Nat}{cls:List (List Int)}(W:Worlds m cls){c:List Int}(hc:∀ l∈c,lit5 l):Worlds (m&&&rowsM c) (cls++[c]):=by
 refine ⟨Nat.lt_of_le_of_lt Nat.and_le_left W.lt,fun p hp=>?_⟩
 rw [Nat.testBit_and,Bool.and_eq_true,W.bit p hp,(rowsM_ok hc).2 p hp,List.any_eq_true]
 exact ⟨fun ⟨a,b⟩ C hC=>(List.mem_append.mp hC).elim (a C) fun q=>List.mem_singleton.mp q▸b,fun h=>⟨fun C hC=>h C (List.mem_append.mpr (.inl hC)),h c (List.mem_append.mpr (.inr (List.mem_singleton_self _)))⟩⟩
noncomputable def asg (p:Nat)(l:Int):Prop:=lit5 l∧tv p l=true
theorem tv_neg {p:Nat}{l:Int}(h:l≠0):tv p (-l)=!tv p l:=by
 unfold tv
 rw [Int.natAbs_neg]
 by_cases c:0<l
 ·rw [if_pos c,if_neg (by lia)]
 ·rw [if_neg c,if_pos (by lia),Bool.not_not]
theorem asg_ok (p:Nat):Assign 5 (asg p):=by
 refine ⟨fun l a b=>?_,fun l h1 h2=>?_⟩
 ·have l0:l≠0:=fun q=>by rw [q] at a; exact absurd a.1.1 (by decide)
  have z:=b.2
  rw [tv_neg l0,a.2] at z
  exact ff z
 ·have l0:l≠0:=fun q=>by rw [q] at h1; exact absurd h1 (by decide)
  cases q:tv p l with
  | true=>exact .inl ⟨⟨h1,h2⟩,q⟩
  | false=>exact .inr ⟨by unfold lit5; rw [Int.natAbs_neg]; exact ⟨h1,h2⟩,by rw [tv_neg l0,q]; rfl⟩
theorem Worlds.sat {m p:Nat}{cls:List (List Int)}(W:Worlds m cls)(hp:p<32)(h:m.testBit p=true)(hz:∀ C∈cls,∀ l∈C,lit5 l):∀ C∈cls,Sat (asg p) C:=fun C hC=>by
 obtain ⟨l,hl,t⟩:=(W.bit p hp).mp h C hC
 exact ⟨l,hl,hz C hC l hl,t⟩
theorem Worlds.none {m:Nat}{cls:List (List Int)}(W:Worlds m cls)(hz:∀ C∈cls,∀ l∈C,lit5 l)(u:Unsat cls):m=0:=Classical.byContradiction fun n=>by
 obtain ⟨p,hp,h⟩:=(mask_ne W.lt).mp n
 exact u _ (asg_ok p) (W.sat hp h hz)
theorem Worlds.logged {m:Nat}{cls:List (List Int)}(W:Worlds m cls)(hz:∀ C∈cls,∀ l∈C,lit5 l){c:List Int}(hc:∀ l∈c,lit5 l)(h:∀ U,Assign 5 U→(∀ C∈cls,Sat U C)→Sat U c):m&&&(every - rowsM c)=0:=Classical.byContradiction fun n=>by
 obtain ⟨p,hp,b⟩:=(mask_ne (Nat.lt_of_le_of_lt Nat.and_le_left W.lt)).mp n
 rw [Nat.testBit_and,Bool.and_eq_true] at b
 obtain ⟨l,hl,t⟩:=h _ (asg_ok p) (W.sat hp b.1 hz)
 have z:=b.2
 rw [every_sub _ _ (rowsM_ok hc).1 hp,(rowsM_ok hc).2 p hp,List.any_eq_true.mpr ⟨l,hl,t.2⟩] at z
 exact ff z
theorem Worlds.lost {m:Nat}{cls:List (List Int)}(W:Worlds m cls)(hz:∀ C∈cls,∀ l∈C,lit5 l){c:List Int}(hc:∀ l∈c,lit5 l)(h:∀ U,Assign 5 U→(∀ C∈cls,Sat U C)→(∀ l∈c,U l)→False):m&&&sharedM c=0:=Classical.byContradiction fun n=>by
 obtain ⟨p,hp,b⟩:=(mask_ne (Nat.lt_of_le_of_lt Nat.and_le_left W.lt)).mp n
 rw [Nat.testBit_and,Bool.and_eq_true,(sharedM_ok hc).2 p hp,List.all_eq_true] at b
 exact h _ (asg_ok p) (W.sat hp b.1 hz) fun l hl=>⟨hc l hl,b.2 l hl⟩
noncomputable def placeB (a b c d e:Bool):Nat:=a.toNat + 2 * b.toNat + 4 * c.toNat + 8 * d.toNat + 16 * e.toNat
theorem placeB_ok:∀ a b c d e:Bool,placeB a b c d e<32∧(placeB a b c d e).testBit 0=a∧(placeB a b c d e).testBit 1=b∧(placeB a b c d e).testBit 2=c∧(placeB a b c d e).testBit 3=d∧(placeB a b c d e).testBit 4=e:=by decide
noncomputable def placeF (f:Int→Bool):Nat:=placeB (f 1) (f 2) (f 3) (f 4) (f 5)
theorem placeF_ok (f:Int→Bool):placeF f<32∧∀ l:Int,lit5 l→tv (placeF f) l=(if 0<l then f l else !f (-l)):=by
 obtain ⟨z,h1,h2,h3,h4,h5⟩:=placeB_ok (f 1) (f 2) (f 3) (f 4) (f 5)
 refine ⟨z,fun l hl=>?_⟩
 have key:(placeF f).testBit (l.natAbs - 1)=f l.natAbs:=by
  have c:l.natAbs=1∨l.natAbs=2∨l.natAbs=3∨l.natAbs=4∨l.natAbs=5:=by have:=hl.1; have:=hl.2; lia
  rcases c with c | c | c | c | c <;> rw [c]
  ·exact h1
  ·exact h2
  ·exact h3
  ·exact h4
  ·exact h5
 unfold tv
 rw [key]
 by_cases c:0<l
 ·rw [if_pos c,if_pos c,Int.natAbs_of_nonneg (Int.le_of_lt c)]
 ·rw [if_neg c,if_neg c,show ((l.natAbs:Nat):Int) = -l by lia]
theorem shared_ne {c:List Int}(hc:∀ l∈c,lit5 l):sharedM c≠0↔¬ Contra c:=by
 rw [mask_ne (sharedM_ok hc).1]
 refine ⟨fun ⟨p,hp,h⟩ ⟨l,a,b⟩=>?_,fun h=>?_⟩
 ·rw [(sharedM_ok hc).2 p hp,List.all_eq_true] at h
  have l0:l≠0:=fun q=>by have:=(hc l a).1; rw [q] at this; exact absurd this (by decide)
  have z:=h _ b
  rw [tv_neg l0,h l a] at z
  exact ff z
 ·obtain ⟨z,k⟩:=placeF_ok fun v=>decide (v∈c)
  refine ⟨_,z,?_⟩
  rw [(sharedM_ok hc).2 _ z,List.all_eq_true]
  intro l hl
  rw [k l (hc l hl)]
  by_cases q:0<l
  ·rw [if_pos q]; exact decide_eq_true hl
  ·rw [if_neg q,decide_eq_false fun m=>h ⟨l,hl,m⟩]; rfl
end Mini.C
end
section
namespace Mini.T02
open Mini Mini.C
noncomputable def lib:LibS prog where
 fSays:=10
 fLet:=11
 fBack:=12
 fAdd:=14
 fRefute:=15
 fKeep:=16
 fSpread:=17
 fMoved:=18
 fInit0:=9
 mSays:=rfl
 mLet:=rfl
 mBack:=rfl
 mAdd:=rfl
 mRefute:=rfl
 mKeep:=rfl
 mSpread:=rfl
 mMoved:=rfl
 bOrdered:=rfl
 bSays:=rfl
 bLet:=rfl
 bBack:=rfl
 bAdd:=rfl
 bRefute:=rfl
 bKeep:=rfl
 bSpread:=rfl
 bMoved:=rfl
 bInit:=rfl
 bInit0:=rfl
 fWarm:=19
 fLesson:=20
 fHeight:=21
 fLearn:=22
 mWarm:=rfl
 mLesson:=rfl
 mHeight:=rfl
 mLearn:=rfl
 bWarm:=rfl
 bLesson:=rfl
 bHeight:=rfl
 bLearn:=rfl
 fBlame:=23
 fHot:=24
 fDecide:=25
 fSolve:=26
 fValue:=27
 fFailed:=28
 mBlame:=rfl
 mHot:=rfl
 mDecide:=rfl
 mSolve:=rfl
 mValue:=rfl
 mFailed:=rfl
 bBlame:=rfl
 bHot:=rfl
 bDecide:=rfl
 bSolve:=rfl
 bValue:=rfl
 bFailed:=rfl
section
variable {sc:List Int}{d:Nat}{adr:Tag→Nat}{h:MHeap}{σ:St}{X:XH}{Q:KV}{ρ:Vars}{R:KF}
theorem e_fn {L:Lg}{f:Nat}{es:MEs}{vs:List MV}{w:MV}(E:EvL L ρ h es vs)(q:∀ Q:KV,Q w h→L.call f vs Q h):Ev L ρ h (.callF f es) w:=fun uu uu H=>E _ (q _ H)
theorem e_asI {L:Lg}{e:ME}{x y:Int}(E:Ev L ρ h e (.int x))(q:x=y):Ev L ρ h e (.int y):=q▸E
theorem e_band {L:Lg}{l r:ME}{m n:Nat}(E:Ev L ρ h l (iN m))(E':Ev L ρ h r (iN n)):Ev L ρ h (.bin .band l r) (iN (m&&&n)):=e_ari E E' (.band (Int.natCast_nonneg m) (Int.natCast_nonneg n))
theorem e_bor {L:Lg}{l r:ME}{m n:Nat}(E:Ev L ρ h l (iN m))(E':Ev L ρ h r (iN n)):Ev L ρ h (.bin .bor l r) (iN (m|||n)):=e_ari E E' (.bor (Int.natCast_nonneg m) (Int.natCast_nonneg n))
theorem e_every {L:Lg}{e:ME}{m:Nat}(E:Ev L ρ h e (iN m))(hm:m<2 ^ 32):Ev L ρ h (.bin .sub (.glob 4294967295) e) (iN (every - m)):=e_asI (e_ari e_glob E (.sub _ _)) (Int.ofNat_sub (Nat.le_of_lt_succ hm)).symm
noncomputable abbrev colsE:ME:=.gtup [2863311530,3435973836,4042322160,4278255360,4294901760]
theorem col_at:∀ j,j<5→([2863311530,3435973836,4042322160,4278255360,4294901760]:List Int)[j]?=some (col j:Int):=by decide
theorem e_col {L:Lg}{i:ME}{j:Nat}(E:Ev L ρ h i (iN j))(hj:j<5):Ev L ρ h (.sub colsE i) (iN (col j)):=e_sub e_gtup E (.tup (.pos (j:=j) hj) (iL_at (col_at j hj)))
theorem e_lit {L:Lg}{x:Nat}{l:Int}(q:ρ x=some (.int l))(hl:lit5 l):Ev L ρ h (.ite (.cmp .gt (.var x) (.int 0)) (.sub colsE (.bin .sub (.var x) (.int 1))) (.bin .sub (.glob 4294967295) (.sub colsE (.bin .sub (.bin .sub (.int 0) (.var x)) (.int 1))))) (iN (litM l)):=by
 have hj:=ix hl
 have h1:=hl.1
 unfold litM
 by_cases c:0<l
 ·rw [if_pos c]
  exact e_iteT (e_gtT (e_var q) e_int c) (.bool _) (e_col (e_asI (e_ari (e_var q) e_int (.sub _ _)) (by omega)) hj)
 ·rw [if_neg c]
  exact e_iteF (e_gtF (e_var q) e_int (Int.not_lt.mp c)) (.bool _) (e_every (e_col (e_asI (e_ari (e_ari e_int (e_var q) (.sub _ _)) e_int (.sub _ _)) (by omega)) hj) (col_lt _ hj))
theorem rows_spec {c:List Int}(hc:∀ l∈c,lit5 l)(q:Q (iN (rowsM c)) h):callD prog sc (d + 1) 3 [.tup (iL c)] Q h:=by
 refine enter (fn:=f__law_rows) rfl rfl rfl (x_let e_int (x_for (e_var rfl) (.tup _) ?_))
 have go:∀ (r:List Int)(m:Nat)(ρ:Vars),(∀ l∈r,lit5 l)→ρ 1=some (iN m)→r.foldl (fun m l=>m|||litM l) m=rowsM c →
   forL (fun h=>Items h (.tup (iL c)) (iL c)) (forB (lg prog sc d) 2 (MS.bd (MSs.hd (MSs.tl f__law_rows.body)))) (iL r) (seq (lg prog sc d) (MSs.tl (MSs.tl f__law_rows.body)) (retQ Q)) ρ h:=by
  intro r
  induction r with
  | nil=>exact fun m ρ uu r1 e=>⟨.tup _,x_ret (e_var r1) (by rw [show m=rowsM c from e]; exact q)⟩
  | cons l r ih=>exact fun m ρ hr r1 e=>⟨.tup _,x_let (e_bor (e_var (v:=iN m) r1) (e_lit rfl (hr l List.mem_cons_self))) (ih _ _ (fun x hx=>hr x (List.mem_cons_of_mem _ hx)) rfl e)⟩
 exact go c 0 _ hc rfl rfl
theorem shared_spec {v:MV}{c:List Int}(hv:Items h v (iL c))(hc:∀ l∈c,lit5 l)(q:Q (iN (sharedM c)) h):callD prog sc (d + 2) 4 [v] Q h:=by
 refine enter (fn:=f__law_shared) rfl rfl rfl (x_let e_glob (x_for (e_var rfl) hv ?_))
 have go:∀ (r:List Int)(m:Nat)(ρ:Vars),(∀ l∈r,lit5 l)→ρ 1=some (iN m)→r.foldl (fun m l=>m&&&rowsM [l]) m=sharedM c →
   forL (fun h=>Items h v (iL c)) (forB (lg prog sc (d + 1)) 2 (MS.bd (MSs.hd (MSs.tl f__law_shared.body)))) (iL r) (seq (lg prog sc (d + 1)) (MSs.tl (MSs.tl f__law_shared.body)) (retQ Q)) ρ h:=by
  intro r
  induction r with
  | nil=>exact fun m ρ uu r1 e=>⟨hv,x_ret (e_var r1) (by rw [show m=sharedM c from e]; exact q)⟩
  | cons l r ih=>
   intro m ρ hr r1 e
   have hl:∀ x∈[l],lit5 x:=fun x hx=>List.mem_singleton.mp hx▸hr l List.mem_cons_self
   exact ⟨hv,x_let (e_band (e_var (v:=iN m) r1) (e_fn (vs:=[.tup (iL [l])]) (e_one (e_tup (e_one (e_var rfl)) (Nat.le_of_ble_eq_true rfl) rfl)) fun Q H=>rows_spec hl H)) (ih _ _ (fun x hx=>hr x (List.mem_cons_of_mem _ hx)) rfl e)⟩
 exact go c every _ hc rfl rfl
theorem draw_wp {f c k:Nat}{cs:List Int}{m:Int}(hf:h.obj f=some (feedO c k))(hc:h.obj c=some (.list (iL cs)))(hm:0<m)(hk:k<fitN)
  (q:∀ r:Int,0≤r→r<m→Q (.int r) (h.set f (feedO c (k + 1)))):callD prog sc (d + 1) 1 [.ref f,.int m] Q h:=by
 have hne:c≠f:=fun z=>by rw [z,hf] at hc; exact MObj.noConfusion (Option.some.inj hc)
 have o2:(h.set f (feedO c (k + 1))).obj c=some (.list (iL cs)):=(set_ne hne).trans hc
 have fin:=fun a:Int=>q (a.fmod m) (Int.fmod_nonneg_of_pos _ hm) (Int.fmod_lt_of_pos _ hm)
 have m0:=Int.ne_of_gt hm
 have sk:small k:=Mini.C.small_nat (Nat.le_of_lt (fit_line hk))
 refine enter (fn:=f__law_turn) rfl rfl rfl (x_let (e_sub (e_var rfl) e_str (.sdict hf rfl)) (x_setI (e_ari (e_var rfl) e_int (.add _ 1)) (e_var rfl) e_str (.sdict hf (Nat.le_of_ble_eq_true rfl)) (x_if (e_cmp (e_var rfl) (e_len (e_sub (e_var rfl) e_str (.sdict set_same rfl)) o2) (.lt _ _)) (fun z=>?_) fun uu=>?_)))
 ·have hlt:k<cs.length:=iL_length (xs:=cs)▸dec_lt z
  exact x_ret (e_ari (e_sub (e_sub (e_var rfl) e_str (.sdict set_same rfl)) (e_var rfl) (.list o2 (.pos (iL_length.symm▸hlt)) (iL_at (getD_get hlt)))) (e_var rfl) (.mod m0)) (fin _)
 ·exact x_ret (e_ari (e_ari (e_ari (e_ari (e_ari (e_ari e_int (e_var rfl) (.mul (.inr sk))) (e_var rfl) (.mul (.inr sk))) (e_ari e_int (e_var rfl) (.mul (.inr sk))) (.add _ _)) e_int (.add _ _)) e_int (.mod (by decide))) (e_var rfl) (.mod m0)) (fin _)
structure Ctx (Z:XH→MHeap→Prop):Prop where
 obj:∀ {X h a o},Z X h→X a=some o→h.obj a=some o
 none:∀ {X h},Z X h→X h.next=none
 push:∀ {X h},Z X h→∀ o,Z (X.put h.next o) (h.new o)
 poke:∀ {X h a o},Z X h→X a=some o→∀ o',Z (X.put a o') (h.set a o')
 less:∀ {X X' h},Z X h→(∀ a o,X' a=some o→X a=some o)→Z X' h
theorem ctx0:Ctx fun X h=>Out0 h X:=⟨fun O e=>(O _ _ e).obj,Out0.none_at,Out0.push,fun O e o=>O.poke e o,fun O s a o e=>O a o (s a o e)⟩
theorem ctxS:Ctx fun X h=>Sim adr h σ X:=⟨fun S e=>S.o e,fun S=>S.none_at (Nat.le_refl _),Sim.push,fun S e o=>S.poke e o,fun S s=>S.less s⟩
theorem put_less {X:XH}{a:Nat}{o:MObj}(n:X a=none):∀ b p,X b=some p→(X.put a o) b=some p:=fun b p e=>(put_ne fun q=>by rw [q,n] at e; exact ns e).trans e
theorem draw {Z:XH→MHeap→Prop}(C:Ctx Z){f c k:Nat}{cs:List Int}(z:Z X h)(F:Feed X f c cs k){m:Int}(hm:0<m)(hk:k<fitN)(q:∀ r:Int,0≤r→r<m→∀ h',Z (X.put f (feedO c (k + 1))) h'→Q (.int r) h'):callD prog sc (d + 1) 1 [.ref f,.int m] Q h:=
 draw_wp (C.obj z F.feed) (C.obj z F.cells) hm hk fun r h0 h1=>q r h0 h1 _ (C.poke z F.feed _)
structure Cl (C:List Int):Prop where
 len:C.length≤3
 rng:∀ l∈C,lit5 l
noncomputable def clBody:MSs:=MS.bd (MSs.hd (MSs.tl (MSs.tl f__law_clause.body)))
theorem clause_loop {Z:XH→MHeap→Prop}(C:Ctx Z){L:Lg}{b:Nat}{first step signs:Int}{chk:HP}(hchk:∀ h,chk h)(h3:0≤signs)(q:∀ ρ h row,ρ 5=some (.ref b)→Z (X.put b (.list (iL row))) h→Cl row→R .next ρ h){xs:List MV} :
  ∀ {ρ h row},(∀ w∈xs,∃ k:Nat,k<3∧w = .int (0 + (k:Int)))→row.length + xs.length≤3→(∀ l∈row,lit5 l)→ρ 1=some (.int first)→ρ 2=some (.int step)→ρ 3=some (.int signs)→ρ 5=some (.ref b)→Z (X.put b (.list (iL row))) h →
   forL chk (forB L 6 clBody) xs R ρ h:=by
 induction xs with
 | nil=>exact fun uu hl rng uu uu uu r5 z=>⟨hchk _,q _ _ _ r5 z ⟨hl,rng⟩⟩
 | cons w r ih=>
  intro ρ h row hw hl rng r1 r2 r3 r5 z
  obtain ⟨k,hk,rfl⟩:=hw w List.mem_cons_self
  have sk:small (0 + (k:Int)):=by unfold small; have:(intLine:Int)=2 ^ 60:=rfl; omega
  have m0:=Int.fmod_nonneg_of_pos (first + (0 + (k:Int)) * (1 + step)) (b:=5) (by decide)
  have m1:=Int.fmod_lt_of_pos (first + (0 + (k:Int)) * (1 + step)) (b:=5) (by decide)
  refine ⟨hchk _,x_let (e_ari e_int (e_ari (e_ari (e_var (n:=1) r1) (e_ari (e_var rfl) (e_ari e_int (e_var r2) (.add _ _)) (.mul (.inl sk))) (.add _ _)) e_int (.mod (by decide))) (.add _ _)) ?_⟩
  generalize (first + (0 + (k:Int)) * (1 + step)).fmod 5=m at m0 m1
  have ob:=C.obj z put_same
  have lr:(iL row).length<lenLine:=by rw [iL_length]; exact Nat.lt_of_le_of_lt (Nat.le_trans (Nat.le_add_right _ _) hl) (Nat.le_of_ble_eq_true rfl)
  have E:=e_cmp (L:=L) (h:=h) (ρ:=(Vars.set ρ 6 (.int (0 + (k:Int)))).set 7 (.int (1 + m))) (e_ari (e_ari (e_var (n:=3) r3) (e_var (n:=6) rfl) (.shr (by omega))) (e_int (i:=1)) (.band (Int.fdiv_nonneg h3 (Int.le_of_lt (Int.pow_pos (by decide)))) (by decide))) (e_int (i:=0)) (.eq (.flat (.at (.ii _ _))))
  have fin:∀ l:Int,lit5 l→∀ ρ':Vars,ρ' 1=some (.int first)→ρ' 2=some (.int step)→ρ' 3=some (.int signs)→ρ' 5=some (.ref b)→forL chk (forB L 6 clBody) r R ρ' (h.set b (.list (iL row++[.int l]))):=fun l hl' ρ' r1 r2 r3 r5=>
   ih (row:=row++[l]) (fun w hw'=>hw w (List.mem_cons_of_mem _ hw')) (by rw [List.length_append,List.length_singleton,Nat.add_right_comm]; exact hl) (fun x hx=>(mem_push.mp hx).elim (rng x) fun q=>q▸hl') r1 r2 r3 r5 (by
    have z2:=C.poke z put_same (.list (iL row++[.int l]))
    rw [put_put] at z2
    rw [← iL_push]
    exact z2)
  revert E
  generalize ((_:Int)==0)=bb
  rcases bb with _ | _
  ·exact fun E=>x_expr (m_append (e_var (n:=5) r5) ob (e_iteF E (.bool _) (e_ari e_int (e_var rfl) (.sub _ _))) lr (fin (0 - (1 + m)) (by unfold lit5; omega) _ r1 r2 r3 r5))
  ·exact fun E=>x_expr (m_append (e_var (n:=5) r5) ob (e_iteT E (.bool _) (e_var rfl)) lr (fin (1 + m) (by unfold lit5; omega) _ r1 r2 r3 r5))
theorem rng_in {n:Int}{m:Nat}(hn:n≤m):∀ w∈rngL 0 n,∃ k:Nat,k<m∧w = .int (0 + (k:Int)):=fun w hw=>by
 obtain ⟨k,hk,e⟩:=List.mem_map.mp hw
 exact ⟨k,Nat.lt_of_lt_of_le (List.mem_range.mp hk) (Int.toNat_le.mpr (by rw [Int.sub_zero]; exact hn)),e.symm⟩
theorem rng_len {n:Int}{m:Nat}(h:n≤m):(rngL 0 n).length≤m:=by
 unfold rngL
 rw [List.length_map,List.length_range,Int.sub_zero]
 exact Int.toNat_le.mpr h
theorem clause_spec {Z:XH→MHeap→Prop}(C:Ctx Z)(z:Z X h){code:Int}(h0:0≤code)(q:∀ C h',Cl C→Z X h'→Q (.tup (iL C)) h'):callD prog sc (d + 1) 2 [.int code] Q h:=by
 have size:∃ n:Int,(n=2∨n=3)∧Ev (lg prog sc d) (bindV [.int code]) h (.ite (.cmp .lt (.var 0) (.int 160)) (.int 3) (.int 2)) (.int n):=by
  by_cases c:code<160
  ·exact ⟨3,.inr rfl,e_iteT (e_as (e_cmp (e_var rfl) e_int (.lt _ _)) (decide_eq_true c)) (.bool _) e_int⟩
  ·exact ⟨2,.inl rfl,e_iteF (e_as (e_cmp (e_var rfl) e_int (.lt _ _)) (decide_eq_false c)) (.bool _) e_int⟩
 obtain ⟨n,hn,E⟩:=size
 have n3:n≤((3:Nat):Int):=by omega
 refine enter (fn:=f__law_clause) rfl rfl rfl (x_asgs (e_cons (e_ari (e_var rfl) e_int (.mod (by decide))) (e_cons (e_ari (e_ari (e_var rfl) e_int (.fdiv (by decide) (by decide))) e_int (.mod (by decide))) (e_cons (e_ari (e_ari (e_var rfl) e_int (.fdiv (by decide) (by decide))) e_int (.mod (by decide))) (e_one E)))) (Nat.le_of_ble_eq_true rfl) rfl (a_var (a_var (a_var (a_var (a_nil ?_))))))
 have xn:=C.none z
 refine x_var (m_list e_nil (Nat.zero_le _) (f_in (x_for (e_bui (e_one (e_var rfl)) (.range1 (n:=n) (by unfold small; have:(intLine:Int)=2 ^ 60:=rfl; omega))) (.rng _ _) (clause_loop C (b:=h.next) (row:=[]) (fun uu=>.rng _ _) (Int.fmod_nonneg_of_pos _ (by decide)) (fun ρ h row r5 z3 c3=>?_) (rng_in n3) (by rw [List.length_nil,Nat.zero_add]; exact rng_len n3) (fun l hl=>absurd hl List.not_mem_nil) rfl rfl rfl rfl (C.push z _)))))
 exact x_ret (e_bui (e_one (e_var r5)) (.tupL (C.obj z3 put_same) iL_flat)) (q row _ c3 (C.less z3 (put_less xn)))
end
end Mini.T02
end
section
namespace Mini.C
open Mini
theorem Feed.put {X:XH}{f c k a:Nat}{cs:List Int}{o:MObj}(F:Feed X f c cs k)(n:X a=none):Feed (X.put a o) f c cs k:=⟨(put_ne fun q=>by rw [← q,F.feed] at n; exact ns n.symm).trans F.feed,(put_ne fun q=>by rw [← q,F.cells] at n; exact ns n.symm).trans F.cells⟩
theorem Feed.next {X:XH}{f c k:Nat}{cs:List Int}(F:Feed X f c cs k):Feed (X.put f (feedO c (k + 1))) f c cs (k + 1):=⟨put_same,(put_ne (ne_obj F.cells F.feed fun q=>MObj.noConfusion q)).trans F.cells⟩
noncomputable def Fz (f:Nat)(X X':XH):Prop:=∀ b o,X b=some o→b≠f→X' b=some o
theorem Fz.trans {f:Nat}{X Y Z:XH}(a:Fz f X Y)(b:Fz f Y Z):Fz f X Z:=fun x o e n=>b x o (a x o e n) n
theorem Fz.turn {f:Nat}{X:XH}{o:MObj}:Fz f X (X.put f o):=fun uu uu e n=>(put_ne n).trans e
theorem Fz.push {f a:Nat}{X:XH}{o:MObj}(n:X a=none):Fz f X (X.put a o):=fun b p e uu=>(put_ne fun q=>by rw [q,n] at e; exact ns e).trans e
section
variable {L:Lg}{ρ:Vars}{h:MHeap}{e i:ME}{t:Bool}{Q:KV}{cond:MEs}{x:Nat}
theorem m_compR (H:ev L i ρ false (fun s h=>Yields (Items h s) fun xs=>compL (fun h=>Items h s xs) (fun v=>evC L cond (Vars.set ρ x v)) (fun v=>ev L e (Vars.set ρ x v) false) xs [] (fun ys h=>fin t Q (.ref h.next) (h.new (.list ys))) h) h):ev L (.comp e x i cond) ρ t Q h:=H
theorem comp_eff {α:Type}{emb:α→MV}{chk:HP}{Q:List MV→HP}(I:Nat→List α→MHeap→Prop)(hchk:∀ h,chk h)(step:∀ n acc v h (K:KV),I (n + 1) acc h→(∀ a h',I n (acc++[a]) h'→K (emb a) h')→ev L e (Vars.set ρ x v) false K h){xs:List MV} :
  ∀ {acc:List α}{h:MHeap},I xs.length acc h→acc.length + xs.length≤lenLine→(∀ acc' h',I 0 acc' h'→Q (acc'.map emb) h')→compL chk (fun v=>evC L .nil (Vars.set ρ x v)) (fun v=>ev L e (Vars.set ρ x v) false) xs (acc.map emb) Q h:=by
 induction xs with
 | nil=>exact fun i uu q=>⟨hchk _,q _ _ i⟩
 | cons v r ih=>
  intro acc h i l q
  rw [List.length_cons] at l
  refine ⟨hchk _,step r.length acc v h _ i fun a h' i'=>⟨by rw [List.length_map]; lia,?_⟩⟩
  rw [show acc.map emb++[emb a]=(acc++[a]).map emb by rw [List.map_append]; rfl]
  exact ih i' (by rw [List.length_append,List.length_singleton]; lia) q
end
end Mini.C
namespace Mini.T02
open Mini Mini.C
section
variable {sc:List Int}{d:Nat}{adr:Tag→Nat}{h:MHeap}{σ:St}{X:XH}{Q:KV}{ρ:Vars}{R:KF}
structure As (A:List Int):Prop where
 len:A.length≤3
 rng:∀ x∈A,lit5 x
inductive AsI (Z:XH→MHeap→Prop)(X:XH)(f c:Nat)(cs:List Int)(k0 n:Nat)(acc:List Int)(h:MHeap):Prop
 | mk {X':XH}{k:Nat}(z:Z X' h)(F:Feed X' f c cs k)(hk:k + n≤k0)(l:acc.length + n≤3)(r:∀ a∈acc,0≤a∧a<10)(fr:Fz f X X'):AsI Z X f c cs k0 n acc h
noncomputable def asF (a:Int):Int:=if a.fmod 2=0 then 1 + a.fdiv 2 else 0 - 1 - a.fdiv 2
theorem asF_ok {a:Int}(h0:0≤a)(h1:a<10):lit5 (asF a):=by
 unfold asF lit5
 rw [Int.fmod_eq_emod_of_nonneg _ (by decide),Int.fdiv_eq_ediv_of_nonneg _ (by decide)]
 by_cases c:a % 2=0
 ·rw [if_pos c]; lia
 ·rw [if_neg c]; lia
theorem assumed_spec {Z:XH→MHeap→Prop}(C:Ctx Z){f c k:Nat}{cs:List Int}(z:Z X h)(F:Feed X f c cs k)(hk:k + 4<fitN)
  (q:∀ (h':MHeap)(X':XH)(a k':Nat)(A:List Int),Z X' h'→Feed X' f c cs k'→k'≤k + 4→X' a=some (.list (iL A))→As A→Fz f X X'→Q (.ref a) h'):callD prog sc (d + 2) 5 [.ref f] Q h:=by
 refine enter (fn:=f__law_assumed) rfl rfl rfl (x_var (m_compR (m_bui1 (m_arR e_int (m_fn (e_cons (e_var rfl) (e_one e_int)) (draw C z F (by decide) (by lia) fun x z0 z1 h1 O1=>f_in (.mk (.ari (.add _ _)) (f_in (.mk (.range1 (by unfold small; have:(intLine:Int)=2 ^ 60:=rfl; lia)) (f_in (.mk (.rng _ _) ?_)))))))))))
 have rl:=rng_len (n:=1 + x) (m:=3) (by lia)
 refine comp_eff (emb:=.int) (acc:=[]) (AsI Z X f c cs (k + 4)) (fun uu=>.rng _ _) (fun n acc v h K I hK=>?_) (.mk O1 F.next (by lia) (by rw [List.length_nil]; lia) (fun a h=>absurd h List.not_mem_nil) Fz.turn) (by rw [List.length_nil,Nat.zero_add]; exact Nat.le_trans rl (Nat.le_of_ble_eq_true rfl)) fun codes h2 I=>?_
 ·induction I with
  | @mk X' k' z' F' hk' l r fr=>
  exact m_fn (e_cons (e_var rfl) (e_one e_int)) (draw C z' F' (by decide) (by lia) fun y y0 y1 h3 O3=>f_in (hK y h3 (.mk O3 F'.next (by lia) (by rw [List.length_append,List.length_singleton]; lia) (fun a ha=>(mem_push.mp ha).elim (r a) fun q=>q▸⟨y0,y1⟩) (fr.trans Fz.turn))))
 ·induction I with
  | @mk X' k' z' F' hk' l r fr=>
  have z2:=C.push z' (.list (iL codes))
  have n2:=C.none z'
  have F2:=F'.put (o:=.list (iL codes)) n2
  refine x_retE (m_comp (emb:=.int) (f:=fun uu=>true) (g:=fun a=>.int (asF a)) (e_var rfl) (.list (C.obj z2 put_same)) (fun a uu K H=>H) (fun a uu uu=>?_) (Nat.le_trans (Nat.le_trans (Nat.le_add_right _ 0) l) (Nat.le_of_ble_eq_true rfl)) (f_in ?_))
  ·unfold asF
   by_cases c:a.fmod 2=0
   ·rw [if_pos c]
    exact e_iteT (e_eqT (e_ari (e_var rfl) e_int (.mod (by decide))) e_int c) (.bool _) (e_ari e_int (e_ari (e_var rfl) e_int (.fdiv (by decide) (by decide))) (.add _ _))
   ·rw [if_neg c]
    exact e_iteF (e_eqF (e_ari (e_var rfl) e_int (.mod (by decide))) e_int c) (.bool _) (e_ari (e_ari e_int e_int (.sub _ _)) (e_ari (e_var rfl) e_int (.fdiv (by decide) (by decide))) (.sub _ _))
  ·rw [filter_all,show codes.map (fun a=>MV.int (asF a))=iL (codes.map asF) from List.map_map.symm]
   have n3:=C.none z2
   exact q _ _ _ k' _ (C.push z2 _) (F2.put n3) hk' put_same ⟨by rw [List.length_map]; lia,fun x hx=>by
    obtain ⟨a,ha,rfl⟩:=List.mem_map.mp hx
    exact asF_ok (r a ha).1 (r a ha).2⟩ ((fr.trans (Fz.push n2)).trans (Fz.push n3))
theorem ne0 {n:Nat}:(!((n:Int)==0))=decide (n≠0):=by
 by_cases c:n=0
 ·rw [c]; rfl
 ·rw [decide_eq_true c,Bool.eq_false_iff.mpr fun z:((n:Int)==0)=true=>c (by have:=eq_of_beq z; lia)]; rfl
theorem e_ne0 {L:Lg}{e:ME}{n:Nat}(E:Ev L ρ h e (iN n)):Ev L ρ h (.cmp .ne e (.int 0)) (.bool (decide (n≠0))):=e_as (e_cmp E e_int (.ne (.flat (.at (.ii _ _))))) ne0
theorem m_not' {L:Lg}{e:ME}{t:Bool}(H:ev L e ρ t (fun v h=>Yields (Tru v) fun b=>Q (.bool (!b)) h) h):ev L (.not e) ρ t Q h:=H
theorem eqB {L:Lg}{l r:ME}{a b:Bool}(E:Ev L ρ h l (.bool a))(E':Ev L ρ h r (.bool b)):Ev L ρ h (.cmp .ne l r) (.bool (!(a==b))):=e_cmp E E' (.ne (.flat (.at (.bb a b))))
theorem place_sum (f:Nat→Bool):(((List.range 5).filter f).map fun k=>(2:Int) ^ k).sum=(placeB (f 0) (f 1) (f 2) (f 3) (f 4):Nat):=by
 rw [show List.range 5=[0,1,2,3,4] from rfl]
 simp only [List.filter_cons,List.filter_nil]
 generalize f 0=a
 generalize f 1=b
 generalize f 2=c
 generalize f 3=d
 generalize f 4=e
 revert a b c d e
 decide
theorem bit_at {m p:Nat}(h:m.testBit p=true):(m / 2 ^ p)&&&1=1:=by
 rw [Nat.and_one_is_mod]
 rw [Nat.testBit_eq_decide_div_mod_eq] at h
 exact of_decide_eq_true h
noncomputable def valF (σ:St)(v:Int):Bool:=(tget σ.kn v).getD false
structure Right (m:Nat)(A:List Int)(σ:St)(b sp:Bool):Prop where
 able:m&&&sharedM A≠0↔b=true
 yes:b=true→(m&&&sharedM A).testBit (placeF (valF σ))=true∧sp=false
 len:σ.bl.length≤1000
 lits:∀ x∈σ.bl,lit5 x
 no:b=false→(∀ x∈σ.bl,x∈A)∧m&&&sharedM σ.bl=0∧(σ.bl=[]∨sp=false)
theorem sum_le {f:Nat→Bool}:∀ a∈((List.range 5).filter f).map (fun k=>(2:Int) ^ k),0≤a∧a≤1000:=fun a ha=>by
 obtain ⟨k,hk,rfl⟩:=List.mem_map.mp ha
 have hk:=List.mem_range.mp (List.mem_filter.mp hk).1
 have:k=0∨k=1∨k=2∨k=3∨k=4:=by lia
 rcases this with q | q | q | q | q <;> rw [q] <;> decide
theorem rng16:rngL 1 6=(List.range 5).map fun k:Nat=>MV.int (1 + (k:Int)):=rfl
theorem answer_spec (S:Sim adr h σ X){m a:Nat}{A:List Int}{b sp:Bool}(xa:X a=some (.list (iL A)))(G:As A)(T:Right m A σ b sp)(q:∀ h',Sim adr h' σ X→Q (.bool true) h'):callD prog sc (d + 3) 6 [.ref (adr .s),iN m,.ref a,.bool b,.bool sp] Q h:=by
 have EA:Ev (lg prog sc (d + 2)) (bindV [.ref (adr .s),iN m,.ref a,.bool b,.bool sp]) h (.bin .band (.var 1) (.callF 4 (.cons (.var 2) .nil))) (iN (m&&&sharedM A)):=e_band (e_var rfl) (e_fn (e_one (e_var rfl)) fun Q H=>shared_spec (.list (S.o xa)) G.rng H)
 refine enter (fn:=f__law_answer_right) rfl rfl rfl (x_let EA ?_)
 have E2:=e_ne0 (L:=lg prog sc (d + 2)) (h:=h) (ρ:=(bindV [.ref (adr .s),iN m,.ref a,.bool b,.bool sp]).set 5 (iN (m&&&sharedM A))) (e_var (n:=5) rfl)
 rw [show decide (m&&&sharedM A≠0)=b by
  rcases b with _ | _
  ·exact decide_eq_false fun z=>ff (T.able.mp z)
  ·exact decide_eq_true (T.able.mpr rfl)] at E2
 refine x_iteF (e_orF (e_not (e_isbool (e_var rfl) (.bool _)) (.bool _)) (e_or1 (e_as (eqB (e_var rfl) E2) (by rw [beq_self_eq_true]; rfl)))) ?_
 rcases b with _ | _
 ·obtain ⟨t1,t2,t3⟩:=T.no rfl
  have fb:∀ {ρ:Vars},ρ 0=some (.ref (adr .s))→Ev (lg prog sc (d + 2)) ρ h (.callM (.var 0) 37 .nil) (.tup (iL σ.bl)):=fun r0=>e_meth (e_var r0) S.s lib.mFailed e_nil fun Q H=>failed_spec lib S H
  refine x_iteF (e_var rfl) (x_let (fb rfl) ?_)
  refine x_ite' (m_or (m_cmpL (m_comp (emb:=.int) (f:=fun x=>!decide (x∈A)) (g:=.int) (e_var rfl) (.tup _) (fun x uu K H=>c_one (e_notin (e_var rfl) (e_var (n:=2) rfl) (S.o xa)) H) (fun uu uu uu=>e_var rfl) ?_ ?_)))
  ·exact Nat.le_trans T.len (Nat.le_of_ble_eq_true rfl)
  ·have em:(σ.bl.filter fun x=>!decide (x∈A))=[]:=List.filter_eq_nil_iff.mpr fun x hx=>by rw [decide_eq_true (t1 x hx)]; exact Bool.false_ne_true
   rw [em]
   refine S.nil_ne fun h2 S2=>.no rfl ?_
   have E3:=e_ne0 (L:=lg prog sc (d + 2)) (h:=h2) (ρ:=((bindV [.ref (adr .s),iN m,.ref a,.bool false,.bool sp]).set 5 (iN (m&&&sharedM A))).set 7 (.tup (iL σ.bl))) (e_band (e_var (v:=iN m) (n:=1) rfl) (e_fn (f:=4) (e_one (e_var (n:=7) rfl)) fun Q H=>shared_spec (.tup _) T.lits H))
   rw [decide_eq_false (not_not_intro t2)] at E3
   refine m_or1 (E3.tru (.bool _) (.no rfl ?_))
   have E4:=e_cmp (L:=lg prog sc (d + 2)) (h:=h2) (ρ:=((bindV [.ref (adr .s),iN m,.ref a,.bool false,.bool sp]).set 5 (iN (m&&&sharedM A))).set 7 (.tup (iL σ.bl))) (e_var (n:=7) rfl) (e_tup e_nil (Nat.zero_le _) rfl) (.eq (.flat (feq_tup (ys:=[]))))
   by_cases c:σ.bl=[]
   ·rw [decide_eq_true c] at E4
    exact x_ret (r:=.nil) (e_orT E4) (q _ S2)
   ·rw [decide_eq_false c] at E4
    have sp0:=t3.resolve_left c
    exact x_ret (r:=.nil) (e_orF E4 (e_or1 (e_not (e_var rfl) (.bool _)))) (by rw [sp0]; exact q _ S2)
 ·obtain ⟨t1,t2⟩:=T.yes rfl
  refine x_iteT (e_var rfl) (x_var (m_bui1 (m_comp (emb:=fun k:Nat=>.int (1 + (k:Int))) (as:=List.range 5) (f:=fun k=>valF σ (1 + (k:Int))) (g:=fun k=>.int (2 ^ k)) (e_bui (e_cons e_int (e_one e_int)) (.range2 (m:=1) (n:=6) (by unfold small; decide) (by unfold small; decide))) (rng16▸.rng 1 6) (fun k hk K H=>c_one (e_meth (e_var rfl) S.s lib.mValue (e_one (e_var rfl)) fun Q H=>value_spec lib S H) H) (fun k hk uu=>?_) (Nat.le_of_ble_eq_true rfl) (f_in ?_))))
  ·have k5:=List.mem_range.mp hk
   refine e_asI (e_ari e_int (e_ari (e_var rfl) e_int (.sub _ _)) (.pow (by lia) (by lia) (by unfold small; decide))) ?_
   rw [show (1 + (k:Int) - 1).toNat=k by lia]
  ·have S2:=S.push (.list (((List.range 5).filter fun k:Nat=>valF σ (1 + (k:Int))).map fun k=>MV.int (2 ^ k)))
   refine .mk (.sum (is:=((List.range 5).filter fun k:Nat=>valF σ (1 + (k:Int))).map fun k=>(2:Int) ^ k) (by rw [List.map_map]; exact S2.o put_same) (by rw [List.length_map]; exact Nat.lt_of_le_of_lt (List.length_filter_le _ _) (by decide)) sum_le) ?_
   rw [place_sum fun k=>valF σ (1 + (k:Int))]
   have S3:=S.put_less S2
   have z:placeB (valF σ (1 + ((0:Nat):Int))) (valF σ (1 + ((1:Nat):Int))) (valF σ (1 + ((2:Nat):Int))) (valF σ (1 + ((3:Nat):Int))) (valF σ (1 + ((4:Nat):Int)))=placeF (valF σ):=rfl
   rw [z]
   have bt:=bit_at t1
   have ep:=(placeF_ok (valF σ)).1
   generalize placeF (valF σ)=p at bt ep
   refine f_in (x_ret (e_andT (e_eqT (e_band (m:=(m&&&sharedM A) / 2 ^ p) (n:=1) (e_asI (e_ari (e_var (v:=iN (m&&&sharedM A)) rfl) (e_var (v:=iN p) rfl) (.shr (Int.natCast_nonneg p))) ?_) e_int) e_int (by rw [bt]; rfl)) (e_and1 (e_not (e_var rfl) (.bool _)))) (by rw [t2]; exact q _ S3))
   rw [Int.toNat_natCast,Int.fdiv_eq_ediv_of_nonneg _ (Int.le_of_lt (Int.pow_pos (by decide)))]
   rw [Int.natCast_ediv,Int.natCast_pow]
   rfl
end
end Mini.T02
end
section
namespace Mini.C
open Mini
theorem sort_uniq {xs ys:List Int}(p:ys.Perm xs)(s1:xs.Pairwise fun a b=>a.natAbs≤b.natAbs)(s2:ys.Pairwise fun a b=>a.natAbs≤b.natAbs)(inj:∀ a∈xs,∀ b∈xs,a.natAbs=b.natAbs→a=b):ys=xs:=by
 induction xs generalizing ys with
 | nil=>exact p.eq_nil
 | cons x r ih=>
  rcases ys with _ | ⟨y,t⟩
  ·exact p.symm.eq_nil.symm
  ·have hy:y∈x::r:=p.mem_iff.mp List.mem_cons_self
   have hx:x∈y::t:=p.mem_iff.mpr List.mem_cons_self
   have l1:x.natAbs≤y.natAbs:=(List.mem_cons.mp hy).elim (fun q=>q▸Nat.le_refl _) fun q=>(List.pairwise_cons.mp s1).1 y q
   have l2:y.natAbs≤x.natAbs:=(List.mem_cons.mp hx).elim (fun q=>q▸Nat.le_refl _) fun q=>(List.pairwise_cons.mp s2).1 x q
   obtain rfl:=inj y hy x List.mem_cons_self (Nat.le_antisymm l2 l1)
   rw [ih (List.Perm.cons_inv p) (List.pairwise_cons.mp s1).2 (List.pairwise_cons.mp s2).2 fun a ha b hb=>inj a (List.mem_cons_of_mem _ ha) b (List.mem_cons_of_mem _ hb)]
theorem dec_cons {α:Type} [DecidableEq α]{x y:α}{xs ys:List α}:(decide (x=y)&&decide (xs=ys))=decide (x::xs=y::ys):=by
 by_cases c:x=y
 ·by_cases e:xs=ys
  ·rw [decide_eq_true e,decide_eq_true (congr (congrArg List.cons c) e),decide_eq_true c]; rfl
  ·rw [decide_eq_false e,decide_eq_false fun q=>e (List.cons.inj q).2,Bool.and_false]
 ·rw [decide_eq_false c,decide_eq_false fun q=>c (List.cons.inj q).1]; rfl
theorem eqL_tL {xs ys:List (List Int)}:EqL FEq (tL xs) (tL ys) (decide (xs=ys)):=by
 induction xs generalizing ys with
 | nil=>
  rcases ys with _ | ⟨y,s⟩
  ·exact .nil
  ·exact .right _ _
 | cons x r ih=>
  rcases ys with _ | ⟨y,s⟩
  ·exact .left _ _
  ·rw [← dec_cons]; exact .cons feq_tup ih
theorem tL_take {ts:List (List Int)}{n:Nat}:(tL ts).take n=tL (ts.take n):=List.map_take.symm
theorem tL_drop {ts:List (List Int)}{n:Nat}:(tL ts).drop n=tL (ts.drop n):=List.map_drop.symm
section
variable {adr:Tag→Nat}{h:MHeap}{σ:St}{X:XH}{ρ:Vars}{L:Lg}{o e:ME}{n m x f:Nat}{es:MEs}{r:MSs}{R:KF}{as:List (Nat×MV)}{t:Bool}{Q:KV}
theorem Sim.set_lim (S:Sim adr h σ X)(i:Int):Sim adr (h.set (adr .s) (.inst (kset (attrs σ adr) 27 (.int i)))) (σ.sLim i) X:=S.set_at rfl (fun uu=>Iff.rfl) fun t n=>by cases t <;> first | rfl | exact absurd rfl n
theorem x_try (O:Ev L ρ h o (.ref n))(p:h.obj n=some (.inst as))(e:L.P.meths.lookup m=some f)(H:evL L es ρ (fun vs h=>L.tryc f (.ref n::vs) (fun u h=>exs L r R (Vars.set ρ x (u.getD .none)) h) h) h):exs L (.cons (.tryM x o m es) r) R ρ h:=O.go (.mk (.inst p e) H)
theorem m_sortL (H:ev L e ρ false (fun v h=>SortA h (fin t Q) v) h):ev L (.sortAbs e) ρ t Q h:=H
theorem from_at {ts us:List (List Int)}(p:h.obj n=some (.list (tL (ts++us)))):SlFrom h (.ref n) (iN ts.length) (.ref h.next) (h.new (.list (tL us))):=by
 have z:=SlFrom.list (ts.length:Int) p
 rw [tL_length,clamp_nat,tL_drop,List.length_append,Nat.min_eq_left (Nat.le_add_right _ _),List.drop_left] at z
 exact z
theorem to_at {sc:List Int}{ts us:List (List Int)}(p:h.obj n=some (.list (tL (ts++us)))):SlTo sc h (.ref n) (iN ts.length) (.ref h.next) (h.new (.list (tL ts))):=by
 have z:=SlTo.list (sc:=sc) (ts.length:Int) p
 rw [tL_length,clamp_nat,tL_take,List.length_append,Nat.min_eq_left (Nat.le_add_right _ _),List.take_left] at z
 exact z
end
end Mini.C
namespace Mini.T02
open Mini Mini.C
structure Log (m:Nat)(lg0:List (List Int))(begun:Int)(σ:St)(f D:List (List Int)):Prop where
 lg:σ.lg=lg0++(f++D)
 len:(f.length:Int)=σ.cl - begun
 lits:∀ C∈f++D,∀ l∈C,lit5 l
 good:∀ C∈f++D,m&&&(every - rowsM C)=0
 small:σ.lg.length≤BB
inductive Denied (σ:St):List (List Int)→Prop
 | none (c:σ.bl=[]∨Contra σ.bl):Denied σ []
 | one {ys:List Int}(n:σ.bl≠[])(c:¬ Contra σ.bl)(nd:σ.bl.Nodup)(o:OrdOf (negs σ.bl) ys)(l:σ.bl.length<64):Denied σ [ys]
inductive Told (m:Nat)(A:List Int)(σ:St)(sp:Bool):Option Bool→List (List Int)→Prop
 | spent (s:sp=true):Told m A σ sp none []
 | yes (T:Right m A σ true sp):Told m A σ sp (some true) []
 | no {D:List (List Int)}(T:Right m A σ false sp)(d:Denied σ D):Told m A σ sp (some false) D
structure Va (ρ:Vars)(s m a:Nat)(most begun:Int)(n4:Nat)(t:MV):Prop where
 r0:ρ 0=some (.ref s)
 r1:ρ 1=some (iN m)
 r2:ρ 2=some (.ref a)
 r3:ρ 3=some (.int most)
 r4:ρ 4=some (.ref n4)
 r5:ρ 5=some (.int begun)
 r6:ρ 6=some t
theorem Va.set {ρ:Vars}{s m a n4 x:Nat}{most begun:Int}{t v:MV}(V:Va ρ s m a most begun n4 t)(hx:7≤x):Va (ρ.set x v) s m a most begun n4 t:=
 have k:∀ y,y<7→ρ.set x v y=ρ y:=fun y hy=>if_neg (Nat.ne_of_lt (Nat.lt_of_lt_of_le hy hx))
 ⟨(k 0 (by decide)).trans V.r0,(k 1 (by decide)).trans V.r1,(k 2 (by decide)).trans V.r2,(k 3 (by decide)).trans V.r3,(k 4 (by decide)).trans V.r4,(k 5 (by decide)).trans V.r5,(k 6 (by decide)).trans V.r6⟩
section
variable {sc:List Int}{d:Nat}{adr:Tag→Nat}{h:MHeap}{σ:St}{X:XH}{Q:KV}{ρ:Vars}{R:KF}{m a n4 n8:Nat}{A:List Int}{most begun:Int}{lg0 f D:List (List Int)}
theorem log_walk (V:Va ρ (adr .s) m a most begun n4 t)(S:Sim adr h σ X)(x4:X n4=some (.list (tL lg0)))(G:Log m lg0 begun σ f D)
  (q:∀ (h':MHeap)(X':XH)(n8:Nat)(ρ':Vars),Va ρ' (adr .s) m a most begun n4 t→Sim adr h' σ X'→(∀ b o,X b=some o→X' b=some o)→X' n8=some (.list (tL (f++D)))→ρ' 7=some (iN f.length)→ρ' 8=some (.ref n8)→exs (lg prog sc (d + 1)) (dropS 5 f__law_asking_right.body) R ρ' h') :
  exs (lg prog sc (d + 1)) (dropS 3 f__law_asking_right.body) R ρ h:=by
 have olg:=S.lg
 rw [G.lg] at olg
 have S8:=S.push (.list (tL (f++D)))
 have x8:∀ b o,X b=some o→(X.put h.next (.list (tL (f++D)))) b=some o:=S.sub_put
 have e4:Ev (lg prog sc (d + 1)) ρ h (.callB .len (.cons (.var 4) .nil)) (iN lg0.length):=tL_length (ts:=lg0)▸e_len (e_var V.r4) (S.o x4)
 refine x_asgs' (l_cons ((e_asI (e_ari (S.at V.r0 (n:=10) rfl) (e_var V.r5) (.sub _ _)) G.len.symm).go (l_one (m_from (S.at V.r0 rfl) e4 (from_at olg) (f_in ⟨Nat.le_of_ble_eq_true rfl,rfl,a_var (a_var (a_nil ?_))⟩)))))
 have V:=(V.set (x:=7) (v:=iN f.length) (by decide)).set (x:=8) (v:=.ref h.next) (by decide)
 have olg8:=S8.lg
 rw [G.lg] at olg8
 have e4:Ev (lg prog sc (d + 1)) ((ρ.set 7 (iN f.length)).set 8 (.ref h.next)) (h.new (.list (tL (f++D)))) (.callB .len (.cons (.var 4) .nil)) (iN lg0.length):=tL_length (ts:=lg0)▸e_len (e_var V.r4) (S8.o (x8 _ _ x4))
 have S9:=S8.push (.list (tL lg0))
 refine x_ite' (m_or (m_cmpL (m_to (S8.at V.r0 rfl) e4 (to_at olg8) (f_in ((e_var V.r4).go (.mk (.ne (.list (S9.o put_same) (S9.o (S8.sub_put _ _ (x8 _ _ x4))) eqL_tL)) ?_))))))
 rw [decide_eq_true rfl]
 have S9:=S8.put_less S9
 refine .no rfl (m_or1 (m_cmpL (m_comp (emb:=fun C=>.tup (iL C)) (f:=fun C=>decide (m&&&(every - rowsM C)≠0)) (g:=fun C=>.tup (iL C)) (e_var rfl) (.list (S9.o put_same)) (fun C hC K H=>c_one (e_ne0 (e_band (e_var V.r1) (e_every (e_fn (e_one (e_var rfl)) fun Q H=>rows_spec (G.lits C hC) H) (rowsM_ok (G.lits C hC)).1))) H) (fun uu uu uu=>e_var rfl) ?_ ?_)))
 ·have z:=G.small
  rw [G.lg,List.length_append] at z
  exact Nat.le_trans (Nat.le_trans (Nat.le_add_left _ _) z) (Nat.le_of_ble_eq_true rfl)
 ·have em:((f++D).filter fun C=>decide (m&&&(every - rowsM C)≠0))=[]:=List.filter_eq_nil_iff.mpr fun C hC=>by rw [decide_eq_false (not_not_intro (G.good C hC))]; exact Bool.false_ne_true
  rw [em]
  exact S9.nil_ne fun h3 S3=>.no rfl (q _ _ _ _ V S3 x8 put_same rfl rfl)
end
end Mini.T02
end
section
namespace Mini.C
open Mini
section
variable {L:Lg}{ρ:Vars}{h:MHeap}{e i:ME}{es:MEs}{t:Bool}{Q:KV}
theorem m_andT (E:Ev L ρ h e (.bool true))(H:ev L (.and (.cons i es)) ρ t Q h):ev L (.and (.cons e (.cons i es))) ρ t Q h:=E t _ (bool_fin (.yes rfl H))
theorem m_listL (H:evL L es ρ (fun vs h=>vs.length≤100∧fin t Q (.ref h.next) (h.new (.list vs))) h):ev L (.list es) ρ t Q h:=H
end
theorem negs_nodup {xs:List Int}(h:xs.Nodup):(negs xs).Nodup:=List.Pairwise.map _ (fun a b hab q=>hab (Int.neg_inj.mp q)) h
theorem negs_zero {xs:List Int}:xs.map (fun x=>(0:Int) - x)=negs xs:=List.map_congr_left fun x uu=>Int.zero_sub x
theorem sorted_one {out ys zs:List Int}(nd:out.Nodup)(c:¬ Contra out)(o:OrdOf (negs out) ys)(p:zs.Perm (negs out))(s:zs.Pairwise fun a b=>a.natAbs≤b.natAbs):zs=ys:=by
 have py:ys.Perm (negs out):=(List.perm_ext_iff_of_nodup o.nodup (negs_nodup nd)).mpr o.mem
 refine sort_uniq (p.trans py.symm) o.sorted s fun a ha b hb e=>?_
 have q:a=b∨a = -b:=by lia
 refine q.resolve_right fun q=>c (contra_neg.mp ⟨b,(o.mem b).mp hb,?_⟩)
 exact q▸(o.mem a).mp ha
end Mini.C
namespace Mini.T02
open Mini Mini.C
section
variable {sc:List Int}{d:Nat}{adr:Tag→Nat}{h:MHeap}{σ:St}{X:XH}{Q:KV}{ρ:Vars}{R:KF}{m a n4 n8 n11:Nat}{A:List Int}{most begun:Int}{lg0 f D:List (List Int)}{t:MV}
theorem ask_end (S:Sim adr h σ X)(x8:X n8=some (.list (tL (f++D))))(x11:X n11=some (.list (tL D)))(r7:ρ 7=some (iN f.length))(r8:ρ 8=some (.ref n8))(r11:ρ 11=some (.ref n11))(q:∀ h',Sim adr h' σ X→Q (.bool true) h') :
  exs (lg prog sc d) (dropS 10 f__law_asking_right.body) (retQ Q) ρ h:=by
 have E8:Ev (lg prog sc d) ρ h (.callB .len (.cons (.var 8) .nil)) (iN (f++D).length):=tL_length (ts:=f++D)▸e_len (e_var r8) (S.o x8)
 have E11:Ev (lg prog sc d) ρ h (.callB .len (.cons (.var 11) .nil)) (iN D.length):=tL_length (ts:=D)▸e_len (e_var r11) (S.o x11)
 have S9:=S.push (.list (tL D))
 refine x_retE (r:=.nil) (m_andT (e_eqT E8 (e_ari (e_var r7) E11 (.add _ _)) (by rw [List.length_append]; rfl)) (m_and1 (m_cmpL (m_from (e_var r8) (e_var r7) (from_at (S.o x8)) (f_in ((e_var r11).go (.mk (.eq (.list (S9.o put_same) (S9.o (S.sub_put _ _ x11)) eqL_tL)) ?_)))))))
 rw [decide_eq_true rfl]
 exact q _ (S.put_less S9)
theorem denied_walk (S:Sim adr h σ X){bl:List Int}(lb:∀ x∈bl,lit5 x)(dn:Denied (σ.sBl bl) D)(r10:ρ 10=some (.tup (iL bl)))(q:∀ (h':MHeap)(X':XH)(n:Nat),Sim adr h' σ X'→(∀ b o,X b=some o→X' b=some o)→X' n=some (.list (tL D))→exs (lg prog sc (d + 2)) (dropS 10 f__law_asking_right.body) R (ρ.set 11 (.ref n)) h') :
  exs (lg prog sc (d + 2)) (dropS 9 f__law_asking_right.body) R ρ h:=by
 have E1:=e_cmp (L:=lg prog sc (d + 2)) (h:=h) (e_var r10) (e_tup e_nil (Nat.zero_le _) rfl) (.ne (.flat (feq_tup (ys:=[]))))
 have E2:=e_ne0 (L:=lg prog sc (d + 2)) (h:=h) (ρ:=ρ) (e_fn (f:=4) (e_one (e_var r10)) fun Q H=>shared_spec (.tup _) lb H)
 cases dn with
 | none c=>
  have z:Ev (lg prog sc (d + 2)) ρ h (.and (.cons (.cmp .ne (.var 10) (.tup .nil)) (.cons (.cmp .ne (.callF 4 (.cons (.var 10) .nil)) (.int 0)) .nil))) (.bool false):=by
   by_cases e:bl=[]
   ·rw [decide_eq_true e] at E1
    exact e_andF E1
   ·rw [decide_eq_false e] at E1
    have c:Contra bl:=c.resolve_left e
    rw [decide_eq_false (not_not_intro (Classical.byContradiction fun n=>(shared_ne lb).mp n c))] at E2
    exact e_andT E1 (e_and1 E2)
  exact x_var (m_iteF z (.bool _) (m_list e_nil (Nat.zero_le _) (f_in (q _ _ _ (S.push (.list (tL []))) S.sub_put put_same))))
 | @one ys n c nd o l=>
  rw [decide_eq_false (show ¬ bl=[] from n)] at E1
  rw [decide_eq_true ((shared_ne lb).mpr (show ¬ Contra bl from c))] at E2
  refine x_var (m_iteT (e_andT E1 (e_and1 E2)) (.bool _) (m_listL (l_one (m_bui1 (m_sortL (m_comp (emb:=.int) (f:=fun uu=>true) (g:=fun x=>.int (0 - x)) (e_var r10) (.tup _) (fun x uu K H=>H) (fun uu uu uu=>e_ari e_int (e_var rfl) (.sub _ _)) (Nat.le_trans (Nat.le_of_lt l) (Nat.le_of_ble_eq_true rfl)) (f_in ?_)))))))
  rw [filter_all,show bl.map (fun x=>MV.int (0 - x))=(negs bl).map .int from negs_zero▸List.map_map.symm]
  have S1:=S.push (.list (iL (negs bl)))
  refine .list (S1.o put_same) (by show (negs bl).length<64; unfold negs; rw [List.length_map]; exact l) fun zs hp hs=>f_in ?_
  obtain rfl:=sorted_one nd c o hp hs
  have S2:=S1.push (.list (iL zs))
  refine .mk (.tupL (S2.o put_same) iL_flat) (f_in ⟨Nat.le_of_ble_eq_true rfl,f_in ?_⟩)
  have S3:=S2.push (.list (tL [zs]))
  exact q _ _ _ S3 (fun b o e=>S2.sub_put _ _ (S1.sub_put _ _ (S.sub_put _ _ e))) put_same
theorem ask_tail {sp:Bool}{o:Option Bool}(V:Va ρ (adr .s) m a most begun n4 (oB o))(S:Sim adr h σ X)(xa:X a=some (.list (iL A)))(GA:As A)(x8:X n8=some (.list (tL (f++D))))(r7:ρ 7=some (iN f.length))(r8:ρ 8=some (.ref n8))
  (hs:(decide (0<most)&&decide (most≤(f.length:Int)))=sp)(T:Told m A σ sp o D)(q:∀ h',Sim adr h' σ X→Q (.bool true) h'):exs (lg prog sc (d + 3)) (dropS 5 f__law_asking_right.body) (retQ Q) ρ h:=by
 refine x_let (e_as (e_chain e_int (e_var V.r3) (.lt _ _) (e_var r7) fun uu=>.le _ _) hs) ?_
 have V1:=V.set (x:=9) (v:=.bool sp) (by decide)
 cases T with
 | spent s=>
  subst s
  have E8:Ev (lg prog sc (d + 3)) (ρ.set 9 (.bool true)) h (.callB .len (.cons (.var 8) .nil)) (iN (f++[]).length):=tL_length (ts:=f++[])▸e_len (e_var r8) (S.o x8)
  exact x_iteT (e_cmp (e_var V1.r6) e_none (.is .nn)) (x_ret (e_andT (e_var rfl) (e_and1 (e_eqT E8 (e_var r7) (by rw [List.append_nil])))) (q _ S))
 | yes T=>
  refine x_iteF (e_cmp (e_var V1.r6) e_none (.is (.bn _))) (x_ite' (m_not' (m_fn (e_cons (e_var V1.r0) (e_cons (e_var V1.r1) (e_cons (e_var V1.r2) (e_cons (e_var V1.r6) (e_one (e_var rfl)))))) (answer_spec S xa GA T fun h1 S1=>.mk (.bool true) (.mk (.bool true) (.no rfl ?_))))))
  refine x_let (e_iteT (e_var V1.r6) (.bool _) (e_tup e_nil (Nat.zero_le _) rfl)) (denied_walk (bl:=[]) S1 (fun x h=>absurd h List.not_mem_nil) (.none (.inl rfl)) rfl fun h2 X2 n11 S2 hx x11=>ask_end S2 (hx _ _ x8) x11 r7 r8 rfl fun h3 S3=>q _ (S3.less hx))
 | no T dn=>
  refine x_iteF (e_cmp (e_var V1.r6) e_none (.is (.bn _))) (x_ite' (m_not' (m_fn (e_cons (e_var V1.r0) (e_cons (e_var V1.r1) (e_cons (e_var V1.r2) (e_cons (e_var V1.r6) (e_one (e_var rfl)))))) (answer_spec S xa GA T fun h1 S1=>.mk (.bool true) (.mk (.bool true) (.no rfl ?_))))))
  refine x_let (e_iteF (e_var V1.r6) (.bool _) (e_meth (e_var V1.r0) S1.s lib.mFailed e_nil fun Q H=>failed_spec lib S1 H)) (denied_walk (bl:=σ.bl) S1 T.lits dn rfl fun h2 X2 n11 S2 hx x11=>ask_end S2 (hx _ _ x8) x11 r7 r8 rfl fun h3 S3=>q _ (S3.less hx))
end
end Mini.T02
end
section
namespace Mini.T02
open Mini Mini.C
theorem tv_row {σ:St}(K:Known 5 σ.row σ.kn){l:Int}(hl:lit5 l)(m:l∈σ.row):tv (placeF (valF σ)) l=true:=by
 rw [(placeF_ok (valF σ)).2 l hl]
 have l0:l≠0:=fun q=>by rw [q] at hl; exact absurd hl.1 (by decide)
 have e:=(K.kn l l0).mp m
 unfold valF
 by_cases c:0<l
 ·rw [if_pos c,← Int.natAbs_of_nonneg (Int.le_of_lt c),e]
  simp
  lia
 ·rw [if_neg c,show -l=((l.natAbs:Nat):Int) by lia,e,decide_eq_false c]; rfl
theorem few5 {xs:List Int}(nd:xs.Nodup)(h:∀ l∈xs,lit5 l):xs.length≤11:=by
 have:xs.length≤(keyRange 5).length:=nodup_le nd fun k hk=>by
  have:=(h k hk).2
  simp only [keyRange,List.mem_map,List.mem_range]
  exact ⟨(k + 5).toNat,by lia,by lia⟩
 exact Nat.le_trans this (by decide)
theorem len_of {xs:List Int}(nd:xs.Nodup)(h:∀ l∈xs,lit5 l):xs.length≤1000:=Nat.le_trans (few5 nd h) (by decide)
theorem post_told {cls lg0:List (List Int)}{A:List Int}{begun lim:Int}{w m:Nat}{o:Option Bool}{σ:St}(P:Post cls A lg0 begun lim w o σ)(W:Worlds m cls)(hz:∀ C∈cls,∀ l∈C,lit5 l)(GA:As A)(hw:w≤BB) :
  Rest cls w σ∧∃ f D,Log m lg0 begun σ f D∧Told m A σ (decide (0<lim)&&decide (lim≤(f.length:Int))) o D:=by
 have lg_of:∀ {f D},Rest cls w σ→σ.lg=lg0++(f++D)→(f.length:Int)=σ.cl - begun→(∀ C∈f++D,∀ l∈C,lit5 l)→Log m lg0 begun σ f D:=fun {f D} R e l g=>⟨e,l,g,fun C hC=>W.logged hz (g C hC) fun U hU h=>R.log U hU h C (e▸List.mem_append.mpr (.inr hC)),Nat.le_trans R.lg hw⟩
 have nsp:∀ {n:Nat},σ.lim=lim→(n:Int)=σ.cl - begun→¬ Spent begun σ→(decide (0<lim)&&decide (lim≤(n:Int)))=false:=fun lm e ns=>by
  rw [← Bool.decide_and]
  exact decide_eq_false fun q=>ns ⟨lm▸q.1,by rw [lm,← e]; exact q.2⟩
 have mA:(∀ U,Assign 5 U→(∀ C∈cls,Sat U C)→(∀ x∈A,U x)→False)→(m&&&sharedM A≠0↔false=true):=fun h=>⟨fun n=>absurd (W.lost hz GA.rng h) n,fun z=>ff z⟩
 cases P with
 | yes R lm bl fr n tot kn sh as=>
  obtain ⟨e,l,g⟩:=fr
  rename_i f
  refine ⟨R,f,[],lg_of R (by rw [List.append_nil]; exact e) l (by rw [List.append_nil]; exact g),?_⟩
  rw [nsp lm l n]
  obtain ⟨p32,_⟩:=placeF_ok (valF σ)
  have bit:(m&&&sharedM A).testBit (placeF (valF σ))=true:=by
   rw [Nat.testBit_and,Bool.and_eq_true]
   refine ⟨(W.bit _ p32).mpr fun C hC=>?_,?_⟩
   ·obtain ⟨x,hx,nx⟩:=(sh C hC).1
    have lx:=hz C hC x hx
    have inr:x∈σ.row:=by
     have z:=tot x.natAbs (by have:=lx.1; lia) (by have:=lx.2; lia)
     have c:x=(x.natAbs:Int)∨x = -(x.natAbs:Int):=by lia
     rcases c with c | c
     ·rw [← c] at z
      exact z.resolve_right nx
     ·rw [← c] at z
      refine z.resolve_left fun q=>nx ?_
      rwa [show ((x.natAbs:Nat):Int) = -x by lia] at q
    exact ⟨x,hx,tv_row kn lx inr⟩
   ·rw [(sharedM_ok GA.rng).2 _ p32,List.all_eq_true]
    exact fun x hx=>tv_row kn (GA.rng x hx) (as x hx)
  have bl0:∀ x∈σ.bl,False:=fun x h=>by rw [bl] at h; exact absurd h List.not_mem_nil
  refine .yes ⟨⟨fun uu=>rfl,fun uu q=>?_⟩,fun uu=>⟨bit,rfl⟩,by rw [bl]; exact Nat.zero_le _,fun x h=>(bl0 x h).elim,fun z=>ff z.symm⟩
  rw [q,Nat.zero_testBit] at bit
  exact ff bit
 | dead R lm fr u bl=>
  obtain ⟨e,l,g⟩:=fr
  rename_i f
  refine ⟨R,f,[],lg_of R (by rw [List.append_nil]; exact e) l (by rw [List.append_nil]; exact g),?_⟩
  have m0:=W.none hz u
  have bl0:∀ x∈σ.bl,False:=fun x h=>by rw [bl] at h; exact absurd h List.not_mem_nil
  exact .no ⟨mA fun U hU h uu=>u U hU h,fun z=>ff z,by rw [bl]; exact Nat.zero_le _,fun x h=>(bl0 x h).elim,fun uu=>⟨fun x h=>(bl0 x h).elim,by rw [m0,Nat.zero_and],.inl bl⟩⟩ (.none (.inl bl))
 | @lostC _ out R lm fr n bl o0 sub no nd c=>
  obtain ⟨e,l,g⟩:=fr
  rename_i f
  refine ⟨R,f,[],lg_of R (by rw [List.append_nil]; exact e) l (by rw [List.append_nil]; exact g),?_⟩
  rw [nsp lm l n]
  subst bl
  have lb:∀ x∈σ.bl,lit5 x:=fun x h=>GA.rng x (sub x h)
  exact .no ⟨mA fun U hU h hx=>no U hU h fun x hx'=>hx x (sub x hx'),fun z=>ff z,len_of nd lb,lb,fun uu=>⟨sub,W.lost hz lb no,.inr rfl⟩⟩ (.none (.inr c))
 | @lost _ out ys f R lm e l g n bl o0 sub no nd c ho=>
  subst bl
  have lb:∀ x∈σ.bl,lit5 x:=fun x h=>GA.rng x (sub x h)
  have ly:∀ x∈ys,lit5 x:=fun x h=>by
   have z:=lb _ (negs_mem.mp ((ho.mem x).mp h))
   unfold lit5 at z ⊢
   rw [Int.natAbs_neg] at z
   exact z
  refine ⟨R,f,[ys],lg_of R (by rw [← List.append_assoc]; exact e) l (fun C hC=>(mem_push.mp hC).elim (g C) fun q=>q▸ly),?_⟩
  rw [nsp lm l n]
  have ll:=len_of nd lb
  exact .no ⟨mA fun U hU h hx=>no U hU h fun x hx'=>hx x (sub x hx'),fun z=>ff z,ll,lb,fun uu=>⟨sub,W.lost hz lb no,.inr rfl⟩⟩ (.one o0 c nd ho (Nat.lt_of_le_of_lt (few5 nd lb) (by decide)))
 | spent R lm fr n=>
  obtain ⟨e,l,g⟩:=fr
  rename_i f
  refine ⟨R,f,[],lg_of R (by rw [List.append_nil]; exact e) l (by rw [List.append_nil]; exact g),.spent ?_⟩
  rw [← Bool.decide_and]
  exact decide_eq_true ⟨lm▸n.1,by rw [l,← lm]; exact n.2⟩
end Mini.T02
end
section
namespace Mini.C
open Mini
theorem Rest.lim {cls:List (List Int)}{w:Nat}{σ:St}(R:Rest cls w σ)(x:Int):Rest cls w (σ.sLim x):=by
 refine ⟨R.ht,R.log,R.rows,R.lg,?_⟩
 induction R.way with
 | dead e b room u=>exact .dead e b ⟨room.kn,room.hh,room.ca,room.li,room.ht,room.wd,room.row,room.be,room.rows,room.lg,room.wl⟩ u
 | live e I C F top bot=>exact .live e { I with room:=⟨I.room.kn,I.room.hh,I.room.ca,I.room.li,I.room.ht,I.room.wd,I.room.row,I.room.be,I.room.rows,I.room.lg,I.room.wl⟩ } (fun D hD=>(C D hD).to (fun uu h=>h) fun m c e=>⟨c,e,.refl _⟩) ⟨F.att,F.wch⟩ top bot
end Mini.C
namespace Mini.T02
open Mini Mini.C
section
variable {sc:List Int}{d:Nat}{adr:Tag→Nat}{h:MHeap}{σ:St}{X:XH}{Q:KV}{m a w:Nat}{A:List Int}{most:Int}{cls:List (List Int)}
theorem asking_spec (S:Sim adr h σ X)(R:Rest cls w σ)(W:Worlds m cls)(hz:∀ C∈cls,∀ l∈C,lit5 l)(hw:w + 5001≤BB)(xa:X a=some (.list (iL A)))(GA:As A)(hm:most=0∨most=1∨most=2)
  (q:∀ h' adr' σ',adr' .s=adr .s→Rest cls (w + 5001) σ'→Sim adr' h' σ' X→Q (.bool true) h'):callD prog sc (d + 5) 7 [.ref (adr .s),iN m,.ref a,.int most] Q h:=by
 refine enter (fn:=f__law_asking_right) rfl rfl rfl (x_at S rfl (e_var rfl) (S.set_lim most) fun h1 S1=>?_)
 have R:=R.lim most
 have el:(σ.sLim most).lim=most:=rfl
 generalize σ.sLim most=σ at S1 R el
 have S4:=S1.push (.list (tL σ.lg))
 have x4:=S1.sub_put (o:=.list (tL σ.lg))
 refine x_asgs' (l_cons (m_bui (e_one (S1.at rfl rfl)) (.listL S1.lg) (f_in (e_one (S4.at (x:=0) (n:=10) rfl rfl) _ ⟨Nat.le_of_ble_eq_true rfl,rfl,a_var (a_var (a_nil ?_))⟩))))
 have S5:=S4.push (.list (iL A))
 have x5:=fun b o e=>S4.sub_put (o:=.list (iL A)) b o (x4 b o e)
 obtain ⟨σ1,L0⟩:=rest_low R
 have hw':w + 5000<BB:=hw
 obtain ⟨j,G⟩:=solve_ok hw' L0 GA.len
 induction L0 with
 | mk e1 R1 b1 f1 F1 lg1 cl1 lim1 ref1=>
 rw [← cl1] at G
 refine x_try (e_var rfl) S4.s lib.mSolve (l_one (m_bui (e_one (e_var rfl)) (.listL (S4.o (x4 _ _ xa))) (f_in (solve_spec (d:=d) lib put_same S5 e1 (heats_same R1.ht GA.rng) G (fun j σ r s G=>going_step hw' GA.len GA.rng (fun C hC l hl q=>absurd (hz C hC l hl).1 (by rw [q]; decide)) (by rw [el]; exact hm) G) fun o σ' h' adr' s' P S'=>?_))))
 obtain ⟨R',f,D,GL,T⟩:=post_told P W hz GA hw
 rw [el] at T
 have eo:(o.map MV.bool).getD .none=oB o:=by rcases o with _ | b <;> rfl
 rw [eo,cl1] at *
 refine log_walk (d:=d + 3) (t:=oB o) (a:=a) (most:=most) (begun:=σ.cl) (n4:=h1.next) (lg0:=σ.lg) ⟨s'▸rfl,rfl,rfl,rfl,rfl,rfl,rfl⟩ S' (S4.sub_put _ _ put_same) GL fun h6 X6 n8 ρ6 V6 S6 hx6 x8 r7 r8=>?_
 exact ask_tail V6 S6 (hx6 _ _ (x5 _ _ xa)) GA x8 r7 r8 rfl T fun h7 S7=>q h7 _ _ s' R' (S7.less fun b o e=>hx6 _ _ (x5 b o e))
end
end Mini.T02
end
section
namespace Mini.T02
open Mini Mini.C
structure Vl (ρ:Vars)(f s m a6 a7:Nat):Prop where
 r1:ρ 1=some (.ref f)
 r3:ρ 3=some (.ref s)
 r4:ρ 4=some (iN m)
 r6:ρ 6=some (.ref a6)
 r7:ρ 7=some (.ref a7)
theorem Vl.set {ρ:Vars}{f s m a6 a7 x:Nat}{v:MV}(V:Vl ρ f s m a6 a7)(hx:8≤x):Vl (ρ.set x v) f s m a6 a7:=
 have k:∀ y,y<8→ρ.set x v y=ρ y:=fun y hy=>if_neg (Nat.ne_of_lt (Nat.lt_of_lt_of_le hy hx))
 ⟨(k 1 (by decide)).trans V.r1,(k 3 (by decide)).trans V.r3,(k 4 (by decide)).trans V.r4,(k 6 (by decide)).trans V.r6,(k 7 (by decide)).trans V.r7⟩
structure Lap (adr:Tag→Nat)(h:MHeap)(σ:St)(X:XH)(f c k w m a6 a7:Nat)(cs:List Int)(cls:List (List Int))(A6 A7:List Int):Prop where
 S:Sim adr h σ X
 F:Feed X f c cs k
 R:Rest cls w σ
 W:Worlds m cls
 hz:∀ C∈cls,∀ l∈C,lit5 l
 x6:X a6=some (.list (iL A6))
 x7:X a7=some (.list (iL A7))
 G6:As A6
 G7:As A7
section
variable {sc:List Int}{d:Nat}{adr:Tag→Nat}{h:MHeap}{σ:St}{X X':XH}{Q:KV}{ρ:Vars}{R:KF}{f c k w m s a6 a7:Nat}{cs A6 A7:List Int}{cls:List (List Int)}
theorem Fz.lap (L:Lap adr h σ X f c k w m a6 a7 cs cls A6 A7){h':MHeap}{k':Nat}(S:Sim adr h' σ X')(F:Feed X' f c cs k')(fr:Fz f X X'):Lap adr h' σ X' f c k' w m a6 a7 cs cls A6 A7:=
 ⟨S,F,L.R,L.W,L.hz,fr _ _ L.x6 (ne_obj L.x6 L.F.feed fun q=>MObj.noConfusion q),fr _ _ L.x7 (ne_obj L.x7 L.F.feed fun q=>MObj.noConfusion q),L.G6,L.G7⟩
theorem lap_draw (L:Lap adr h σ X f c k w m a6 a7 cs cls A6 A7){n:Int}(hn:0<n)(hk:k<fitN)(q:∀ r:Int,0≤r→r<n→∀ h',Lap adr h' σ (X.put f (feedO c (k + 1))) f c (k + 1) w m a6 a7 cs cls A6 A7→Q (.int r) h'):callD prog sc (d + 1) 1 [.ref f,.int n] Q h:=
 draw ctxS L.S L.F hn hk fun r r0 r1 h' S=>q r r0 r1 h' (Fz.lap L S L.F.next Fz.turn)
noncomputable def lapB:MSs:=MS.bd (MSs.hd (dropS 6 f_law.body))
noncomputable def addB:MSs:=match MSs.hd lapB with
 | .ite _ a _=>a
 | _=>.nil
theorem lap_add (V:Vl ρ f (adr .s) m a6 a7)(L:Lap adr h σ X f c k w m a6 a7 cs cls A6 A7)(hk:k<fitN)(hw:w<BB)(r:MSs)
  (q:∀ (h':MHeap)(adr':Tag→Nat)(σ':St)(X':XH)(ρ':Vars)(k' m':Nat)(cls':List (List Int)),adr' .s=adr .s→Vl ρ' f (adr .s) m' a6 a7→k'≤k + 1→Lap adr' h' σ' X' f c k' (w + 1) m' a6 a7 cs cls' A6 A7→exs (lg prog sc (d + 2)) r R ρ' h'):exs (lg prog sc (d + 2)) addB (seq (lg prog sc (d + 2)) r R) ρ h:=by
 refine x_asgs' (l_cons (m_fnL (l_one (m_fn (e_cons (e_var V.r1) (e_one e_int)) (lap_draw L (by decide) hk fun code c0 c1 h1 L1=>f_in (clause_spec ctxS L1.S c0 fun C h2 hC S2=>f_in (l_one (m_bui (e_one (S2.at V.r3 rfl)) (.listL S2.lg) (f_in ⟨Nat.le_of_ble_eq_true rfl,rfl,a_var (a_var (a_nil ?_))⟩)))))))))
 have S3:=S2.push (.list (tL σ.lg))
 have x3:=S2.sub_put (o:=.list (tL σ.lg))
 have V3:Vl ((ρ.set 5 (.tup (iL C))).set 9 (.ref h2.next)) f (adr .s) m a6 a7:=(show Vl (ρ.set 5 (.tup (iL C))) f (adr .s) m a6 a7 from ⟨V.r1,V.r3,V.r4,V.r6,V.r7⟩).set (by decide)
 refine x_let (e_band (e_var V3.r4) (e_fn (e_one (e_var rfl)) fun Q H=>rows_spec hC.rng H)) ?_
 obtain ⟨σ1,L0⟩:=rest_low L.R
 obtain ⟨g1,g2,g3⟩:=Mini.C.add_ok hw L0 hC.rng
 have W':=L.W.push hC.rng
 have hz':∀ D∈cls++[C],∀ l∈D,lit5 l:=fun D hD=>(mem_push.mp hD).elim (L.hz D) fun q=>q▸hC.rng
 have fin:∀ (h':MHeap)(adr':Tag→Nat)(σ':St),adr' .s=adr .s→Added cls w σ C σ'→Sim adr' h' σ' ((X.put f (feedO c (k + 1))).put h2.next (.list (tL σ.lg))) →
   exs (lg prog sc (d + 2)) (dropS 3 addB) (seq (lg prog sc (d + 2)) r R) ((((ρ.set 5 (.tup (iL C))).set 9 (.ref h2.next)).set 4 (iN (m&&&rowsM C))).set 10 (.bool (!σ'.ref))) h':=by
  intro h' adr' σ' ea Ad S'
  have V4:Vl ((((ρ.set 5 (.tup (iL C))).set 9 (.ref h2.next)).set 4 (iN (m&&&rowsM C))).set 10 (.bool (!σ'.ref))) f (adr .s) (m&&&rowsM C) a6 a7:=Vl.set (ρ:=((ρ.set 5 (.tup (iL C))).set 9 (.ref h2.next)).set 4 (iN (m&&&rowsM C))) ⟨V.r1,V.r3,rfl,V.r6,V.r7⟩ (by decide)
  have r9:((((ρ.set 5 (.tup (iL C))).set 9 (.ref h2.next)).set 4 (iN (m&&&rowsM C))).set 10 (.bool (!σ'.ref))) 9=some (.ref h2.next):=rfl
  have r10:((((ρ.set 5 (.tup (iL C))).set 9 (.ref h2.next)).set 4 (iN (m&&&rowsM C))).set 10 (.bool (!σ'.ref))) 10=some (.bool (!σ'.ref)):=rfl
  have go:=fun (h'':MHeap)(S'':Sim adr' h'' σ' ((X.put f (feedO c (k + 1))).put h2.next (.list (tL σ.lg))))=>q h'' adr' σ' _ _ (k + 1) (m&&&rowsM C) (cls++[C]) ea V4 (Nat.le_refl _) ⟨S'',L1.F.put (S2.none_at (Nat.le_refl _)),Ad.rest,W',hz',x3 _ _ L1.x6,x3 _ _ L1.x7,L.G6,L.G7⟩
  generalize ((((ρ.set 5 (.tup (iL C))).set 9 (.ref h2.next)).set 4 (iN (m&&&rowsM C))).set 10 (.bool (!σ'.ref)))=ρ4 at V4 r9 r10 go
  have r3:ρ4 3=some (.ref (adr' .s)):=ea.symm▸V4.r3
  have E1:Ev (lg prog sc (d + 2)) ρ4 h' (.and (.cons (.not (.var 10)) (.cons (.cmp .ne (.var 4) (.int 0)) .nil))) (.bool false):=by
   have n:=e_not (L:=lg prog sc (d + 2)) (h:=h') (e_var r10) (.bool _)
   have z:=e_ne0 (L:=lg prog sc (d + 2)) (h:=h') (e_var V4.r4)
   by_cases rf:σ'.ref=true
   ·rw [rf] at n
    have m0:m&&&rowsM C=0:=by
     induction Ad.rest.way with
     | dead _ _ _ u=>exact W'.none hz' u
     | live e _ _ _ _ _=>exact ff (e.symm.trans rf)
    rw [decide_eq_false (not_not_intro m0)] at z
    exact e_andT n (e_and1 z)
   ·rw [Bool.eq_false_iff.mpr rf] at n
    exact e_andF n
  have o9:((X.put f (feedO c (k + 1))).put h2.next (.list (tL σ.lg))) h2.next=some (.list (tL σ.lg)):=put_same
  have llg:σ.lg.length≤BB:=Nat.le_trans L.R.lg (Nat.le_of_lt hw)
  refine x_ite' (m_orF E1 (m_or (m_cmpL ((S'.at r3 rfl).go (m_tup (l_cons ((e_var r9).go (l_one (m_cat ((e_var r9).go (m_list (e_one (e_tup e_nil (Nat.zero_le _) rfl)) (Nat.le_of_ble_eq_true rfl) (f_in ?_))))))))))))
  have S5:=S'.push (.list (tL [[]]))
  have S6:=S5.push (.list (tL (σ.lg++[[]])))
  have ne9:h2.next≠h'.next + 1:=fun e=>Nat.lt_irrefl _ (Nat.lt_succ_of_lt (e▸(S'.out _ _ o9).lt))
  have nel:=(S'.out _ _ o9).ne .lg trivial
  have nel2:adr' .lg≠h'.next + 1:=fun e=>Nat.lt_irrefl _ (Nat.lt_succ_of_lt (e▸S'.lt .lg trivial))
  refine .mk (.cat (S5.o (S'.sub_put _ _ o9)) (S5.o put_same) (by rw [tL_length]; show σ.lg.length + 1≤_; exact Nat.le_trans (Nat.succ_le_succ llg) (Nat.le_of_ble_eq_true rfl))) (f_in ⟨Nat.le_of_ble_eq_true rfl,rfl,f_in ?_⟩)
  have e2:(tL σ.lg++tL [[]])=tL (σ.lg++[[]]):=tL_append
  rw [e2]
  refine .mk (.notin (.two S6.lg (S6.o (S5.sub_put _ _ (S'.sub_put _ _ o9))) (S6.o put_same) ne9 nel nel2 (.all eqL_tL) (.all eqL_tL))) ?_
  have al:(decide (σ.lg=σ'.lg)||decide (σ.lg++[[]]=σ'.lg))=true:=by
   rcases Ad.lg with ⟨e,_⟩ | ⟨e,_⟩
   ·rw [decide_eq_true e.symm]; rfl
   ·rw [decide_eq_true e.symm,Bool.or_true]
  rw [al]
  have S7:=S'.put_less (S5.put_less S6)
  refine .no rfl (m_or1 ?_)
  have E3:Ev (lg prog sc (d + 2)) ρ4 ((h'.new (.list (tL [[]]))).new (.list (tL (σ.lg++[[]])))) (.and (.cons (.var 10) (.cons (.cmp .ne (.attr (.var 3) 11) (.var 9)) .nil))) (.bool false):=by
   have n:=e_var (L:=lg prog sc (d + 2)) (h:=(h'.new (.list (tL [[]]))).new (.list (tL (σ.lg++[[]])))) r10
   by_cases rf:σ'.ref=true
   ·rw [rf] at n
    exact e_andF n
   ·rw [Bool.eq_false_iff.mpr rf] at n
    have z:=e_cmp (L:=lg prog sc (d + 2)) (S7.at r3 (n:=11) rfl) (e_var r9) (.ne (.list S7.lg (S7.o o9) eqL_tL))
    rcases Ad.lg with ⟨e,_⟩ | ⟨_,e⟩
    ·rw [decide_eq_true e] at z
     exact e_andT n (e_and1 z)
    ·exact absurd e rf
  exact E3.tru (.bool _) (.no rfl (go _ S7))
 induction L0 with
 | mk e1 R1 b1 f1 F1 lg1 cl1 lim1 ref1=>
 exact x_var (m_meth (e_var V3.r3) S3.s lib.mAdd (e_one (e_var rfl)) (add_spec lib.toLib S3 .tup (fun z=>absurd (hC.rng 0 z).1 (by decide)) (Nat.lt_of_le_of_lt hC.len (by decide)) e1 g1 (fit_ht f1) f1 (fun c h' a' s' S'=>fin h' a' σ1 s' (g2 c) S') fun c ys ho h' a' s' S'=>fin h' a' _ s' (g3 c ys ho) S'))
end
end Mini.T02
end
section
namespace Mini.T02
open Mini Mini.C
section
variable {sc:List Int}{d:Nat}{adr:Tag→Nat}{h:MHeap}{σ:St}{X X':XH}{Q:KV}{ρ:Vars}{R:KF}{f c k w m s a6 a7:Nat}{cs A6 A7:List Int}{cls:List (List Int)}
theorem lap_say (L:Lap adr h σ X f c k w m a6 a7 cs cls A6 A7)(hw:w + 5001≤BB){a:Nat}{A:List Int}(xa:X a=some (.list (iL A)))(GA:As A){most:Int}(hm:most=0∨most=1∨most=2)
  (q:∀ h' adr' σ',adr' .s=adr .s→Lap adr' h' σ' X f c k (w + 5001) m a6 a7 cs cls A6 A7→Q (.bool true) h'):callD prog sc (d + 5) 7 [.ref (adr .s),iN m,.ref a,.int most] Q h:=
 asking_spec L.S L.R L.W L.hz hw xa GA hm fun h' adr' σ' ea R' S'=>q h' adr' σ' ea ⟨S',L.F,R',L.W,L.hz,L.x6,L.x7,L.G6,L.G7⟩
theorem limits:∀ j,j<4→nth [1,0,2,1] j=0∨nth [1,0,2,1] j=1∨nth [1,0,2,1] j=2:=by decide
theorem lap_ask (V:Vl ρ f (adr .s) m a6 a7)(L:Lap adr h σ X f c k w m a6 a7 cs cls A6 A7)(hk:k + 8<fitN)(hw:w + 5001≤BB)
  (q:∀ (h':MHeap)(adr':Tag→Nat)(σ':St)(X':XH)(ρ':Vars)(k':Nat),adr' .s=adr .s→Vl ρ' f (adr .s) m a6 a7→k'≤k + 8→Lap adr' h' σ' X' f c k' (w + 5001) m a6 a7 cs cls A6 A7→R .next ρ' h'):exs (lg prog sc (d + 5)) (MSs.tl lapB) R ρ h:=by
 refine x_var (m_fn (e_cons (e_var V.r1) (e_one e_int)) (lap_draw L (by decide) (by lia) fun r r0 r1 h1 L1=>f_in ?_))
 have V1:=V.set (x:=11) (v:=.int r) (by decide)
 have e11:(ρ.set 11 (.int r)) 11=some (.int r):=rfl
 generalize ρ.set 11 (.int r)=ρ1 at V1 e11 ⊢
 have fin:∀ (h':MHeap)(X':XH)(a k':Nat)(A:List Int),Lap adr h' σ X' f c k' w m a6 a7 cs cls A6 A7→k'≤k + 6→X' a=some (.list (iL A))→As A→exs (lg prog sc (d + 5)) (MSs.tl (MSs.tl (MSs.tl lapB))) R (ρ1.set 12 (.ref a)) h':=by
  intro h' X' a k' A L' hk' xa GA
  have V2:=V1.set (x:=12) (v:=.ref a) (by decide)
  have e12:(ρ1.set 12 (.ref a)) 12=some (.ref a):=rfl
  generalize ρ1.set 12 (.ref a)=ρ2 at V2 e12 ⊢
  refine x_ite' (m_not' (m_fnL (l_cons ((e_var V2.r3).go (l_cons ((e_var V2.r4).go (l_cons ((e_var e12).go (l_one (m_subR (e_tup (vs:=iL [1,0,2,1]) (e_cons e_int (e_cons e_int (e_cons e_int (e_one e_int)))) (by decide) rfl) (m_fn (e_cons (e_var V2.r1) (e_one e_int)) (lap_draw L' (by decide) (by lia) fun x z0 z1 h3 L3=>f_in ?_))))))))))))
  obtain ⟨j,rfl⟩:=Int.eq_ofNat_of_zero_le z0
  have hj:j<4:=Int.ofNat_lt.mp z1
  refine .mk (.tup (.pos (j:=j) hj) (iL_at (getD_get hj))) (f_in (lap_say L3 hw ((put_ne (ne_obj xa L'.F.feed fun q=>MObj.noConfusion q)).trans xa) GA (limits j hj) fun h4 adr4 σ4 e4 L4=>.mk (.bool true) (.mk (.bool true) (.no rfl (q h4 adr4 σ4 _ _ (k' + 1) e4 V2 (by lia) L4)))))
 have E:=e_cmp (L:=lg prog sc (d + 5)) (h:=h1) (e_var e11) (e_int (i:=2)) (.lt _ _)
 have n6:=ne_obj L.x6 L.F.feed (fun q=>MObj.noConfusion q)
 have n7:=ne_obj L.x7 L.F.feed (fun q=>MObj.noConfusion q)
 by_cases c:r<2
 ·rw [decide_eq_true c] at E
  have r01:r=0∨r=1:=by lia
  rcases r01 with e | e <;> subst e
  ·exact x_var (m_iteT E (.bool _) (Ev.go (e_sub (e_tup (e_cons (e_var V1.r6) (e_one (e_var V1.r7))) (Nat.le_of_ble_eq_true rfl) rfl) (e_var e11) (.tup (.pos (j:=0) Nat.zero_lt_two) rfl)) (fin _ _ _ (k + 1) A6 L1 (by lia) L1.x6 L.G6)))
  ·exact x_var (m_iteT E (.bool _) (Ev.go (e_sub (e_tup (e_cons (e_var V1.r6) (e_one (e_var V1.r7))) (Nat.le_of_ble_eq_true rfl) rfl) (e_var e11) (.tup (.pos (j:=1) Nat.one_lt_two) rfl)) (fin _ _ _ (k + 1) A7 L1 (by lia) L1.x7 L.G7)))
 ·rw [decide_eq_false c] at E
  exact x_var (m_iteF E (.bool _) (m_fn (e_one (e_var V1.r1)) (assumed_spec (d:=d + 3) ctxS L1.S L1.F (by lia) fun h' X' a k' A S' F' hk' xa GA fr=>f_in (fin h' X' a k' A (Fz.lap L1 S' F' fr) (by lia) xa GA))))
theorem lap_walk (V:Vl ρ f (adr .s) m a6 a7)(L:Lap adr h σ X f c k w m a6 a7 cs cls A6 A7)(hk:k + 10<fitN)(hw:w + 5002<BB)
  (q:∀ (h':MHeap)(adr':Tag→Nat)(σ':St)(X':XH)(ρ':Vars)(k' w' m':Nat)(cls':List (List Int)),adr' .s=adr .s→Vl ρ' f (adr .s) m' a6 a7→k'≤k + 10→w'≤w + 5002→Lap adr' h' σ' X' f c k' w' m' a6 a7 cs cls' A6 A7→R .next ρ' h'):exs (lg prog sc (d + 5)) lapB R ρ h:=by
 refine x_ite' (m_cmpL (m_fn (e_cons (e_var V.r1) (e_one e_int)) (lap_draw L (by decide) (by lia) fun r r0 r1 h1 L1=>f_in (e_int.go (.mk (.eq (.flat (.at (.ii _ _)))) (If.of (fun uu=>?_) fun uu=>?_))))))
 ·refine lap_add (d:=d + 3) V L1 (by lia) (by lia) (MSs.tl lapB) fun h' adr' σ' X' ρ' k' m' cls' ea V' hk' L'=>?_
  rw [← ea] at V'
  exact lap_ask (d:=d) V' L' (by lia) (by lia) fun h2 a2 σ2 X2 ρ2 k2 e2 V2 hk2 L2=>q h2 a2 σ2 X2 ρ2 k2 _ m' cls' (e2.trans ea) (ea▸V2) (by lia) (by lia) L2
 ·exact lap_ask (d:=d) V L1 (by lia) (by lia) fun h2 a2 σ2 X2 ρ2 k2 e2 V2 hk2 L2=>q h2 a2 σ2 X2 ρ2 k2 _ m cls e2 V2 (by lia) (by lia) L2
inductive LawI (s f c a6 a7:Nat)(cs A6 A7:List Int)(r:List MV)(ρ:Vars)(h:MHeap):Prop
 | mk {adr:Tag→Nat}{σ:St}{X:XH}{k w m:Nat}{cls:List (List Int)}(ea:adr .s=s)(V:Vl ρ f s m a6 a7)(L:Lap adr h σ X f c k w m a6 a7 cs cls A6 A7)(hk:k + 10 * r.length≤1000)(hw:w + 5002 * r.length≤60000):LawI s f c a6 a7 cs A6 A7 r ρ h
theorem laps_walk {xs:List MV}{chk:HP}(hchk:∀ h,chk h)(I:LawI s f c a6 a7 cs A6 A7 xs ρ h)(q:∀ h',Q (.bool true) h') :
  forL chk (forB (lg prog sc (d + 5)) 8 lapB) xs (seq (lg prog sc (d + 5)) (dropS 7 f_law.body) (retQ Q)) ρ h:=by
 refine for_rule (LawI s f c a6 a7 cs A6 A7) (fun uu uu uu uu=>hchk _) (fun v r ρ h K I hK=>?_) (fun ρ h I=>?_) I
 ·induction I with
  | @mk adr σ X k w m cls ea V L hk hw=>
  subst ea
  rw [List.length_cons] at hk hw
  exact lap_walk (d:=d) (V.set (x:=8) (v:=v) (by decide)) L (Nat.lt_of_le_of_lt (m:=1000) (by lia) (by decide)) (Nat.lt_of_le_of_lt (m:=60000) (by lia) (by decide)) fun h' adr' σ' X' ρ' k' w' m' cls' ea V' hk' hw' L'=>hK _ _ (.mk ea V' L' (by lia) (by lia))
 ·induction I with
  | @mk adr σ X k w m cls ea V L hk hw=>
  subst ea
  rw [List.length_nil] at hw
  refine x_retE (r:=.nil) (m_and (m_fn (e_cons (e_var V.r3) (e_cons (e_var V.r4) (e_cons (e_var V.r6) (e_one e_int)))) (lap_say (d:=d) L (Nat.le_trans (m:=65001) (by lia) (by decide)) L.x6 L.G6 (.inl rfl) fun h1 adr1 σ1 e1 L1=>f_in (.yes rfl ?_))))
  rw [← e1] at V
  exact m_and1 (m_fn (e_cons (e_var V.r3) (e_cons (e_var V.r4) (e_cons (e_var V.r7) (e_one e_int)))) (lap_say (d:=d) L1 (Nat.le_trans (m:=70002) (by lia) (by decide)) L1.x7 L1.G7 (.inl rfl) fun h2 adr2 σ2 e2 L2=>f_in (q h2)))
end
end Mini.T02
end
section
namespace Mini.T02
open Mini Mini.C
inductive ClI (X:XH)(f c:Nat)(cs:List Int)(k0 n:Nat)(acc:List (List Int))(h:MHeap):Prop
 | mk {X':XH}{k:Nat}(z:Out0 h X')(F:Feed X' f c cs k)(hk:k + n≤k0)(l:acc.length + n≤12)(r:∀ C∈acc,Cl C):ClI X f c cs k0 n acc h
section
variable {sc:List Int}{d:Nat}{adr:Tag→Nat}{h:MHeap}{σ:St}{X X':XH}{Q:KV}{ρ:Vars}{R:KF}{f c k w m s a a6 a7:Nat}{cs A6 A7:List Int}{cls:List (List Int)}
theorem nothing {X:XH}(e:X=fun uu=>none){h:MHeap}:Out0 h X:=fun a o q=>ns ((congrFun e a).symm.trans q)
theorem tuples {X:XH}{ts:List (List Int)}:SeqL X ts (tL ts):=by
 induction ts with
 | nil=>exact .nil
 | cons t r ih=>exact .cons .tup ih
theorem add_to (rc:∀ C∈cls,Cl C)(l12:cls.length≤12){done rest:List (List Int)}{xs:List Int}(e:cls=done++xs::rest)(Rt:Rest done done.length σ):AddTo (fun σ=>Rest (done++[xs]) (done++[xs]).length σ) σ xs:=by
 have hC:=rc xs (e▸List.mem_append_right _ List.mem_cons_self)
 have dl:done.length<BB:=Nat.lt_of_le_of_lt (Nat.le_trans (Nat.le_trans (Nat.le_add_right _ _) (Nat.le_of_eq (by rw [e,List.length_append]))) l12) (by decide)
 have el:(done++[xs]).length=done.length + 1:=List.length_append
 obtain ⟨σ1,L0⟩:=rest_low Rt
 obtain ⟨g1,g2,g3⟩:=Mini.C.add_ok dl L0 hC.rng
 induction L0 with
 | mk e1 R1 b1 f1 F1 lg1 cl1 lim1 ref1=>
 exact .mk e1 g1 (fit_ht f1) f1 (fun z=>absurd (hC.rng 0 z).1 (by decide)) (Nat.lt_of_le_of_lt hC.len (by decide)) (fun q=>el▸(g2 q).rest) fun q ys ho=>el▸(g3 q ys ho).rest
theorem worlds_loop {L:Lg}{chk:HP}(S:Sim adr h σ X)(hchk:chk h)(rc:∀ C∈cls,Cl C)(hP:L=lg prog sc (d + 1))(q:∀ ρ m,Worlds m cls→ρ 1=some (.ref f)→ρ 3=some (.ref s)→ρ 4=some (iN m)→R .next ρ h){rest:List (List Int)} :
  ∀ {done:List (List Int)}{ρ:Vars}{m:Nat},cls=done++rest→Worlds m done→ρ 1=some (.ref f)→ρ 3=some (.ref s)→ρ 4=some (iN m)→forL chk (forB L 5 (MS.bd (MSs.hd (dropS 3 f_law.body)))) (tL rest) R ρ h:=by
 subst hP
 induction rest with
 | nil=>exact fun e W r1 r3 r4=>⟨hchk,q _ _ (by rw [List.append_nil] at e; exact e▸W) r1 r3 r4⟩
 | cons C r ih=>
  intro done ρ m e W r1 r3 r4
  have hC:=rc C (e▸List.mem_append_right _ List.mem_cons_self)
  exact ⟨hchk,x_let (e_band (e_var (v:=iN m) r4) (e_fn (e_one (e_var rfl)) fun Q H=>rows_spec hC.rng H)) (ih (done:=done++[C]) (by rw [e,List.append_assoc]; rfl) (W.push hC.rng) r1 r3 rfl)⟩
theorem law_main {n:Nat}(S:Sim adr h σ X)(F:Feed X f c cs k)(Rt:Rest cls cls.length σ)(l12:cls.length≤12)(rc:∀ C∈cls,Cl C)(xa:X a=some (.list (tL cls)))(hk:k≤20)(r1:ρ 1=some (.ref f))(r2:ρ 2=some (.ref a))(r3:ρ 3=some (.ref (adr .s)))(r4:ρ 4=some (iN every))(q:∀ h',Q (.bool true) h') :
  exs (lg prog sc (d + 5)) (dropS 3 f_law.body) (retQ Q) ρ h:=by
 refine x_for (e_var r2) (.list (S.o xa)) (worlds_loop (d:=d + 4) S (.list (S.o xa)) rc rfl (fun ρ m W r1 r3 r4=>?_) (done:=[]) rfl .nil r1 r3 r4)
 have hz:∀ C∈cls,∀ l∈C,lit5 l:=fun C hC=>(rc C hC).rng
 refine x_var (m_fn (e_one (e_var r1)) (assumed_spec (d:=d + 3) ctxS S F (Nat.lt_of_le_of_lt (m:=24) (by lia) (by decide)) fun h1 X1 a6 k1 A6 S1 F1 hk1 x6 G6 fr1=>f_in ?_))
 refine x_var (m_fn (e_one (e_var (v:=.ref f) r1)) (assumed_spec (d:=d + 3) ctxS S1 F1 (Nat.lt_of_le_of_lt (m:=28) (by lia) (by decide)) fun h2 X2 a7 k2 A7 S2 F2 hk2 x7 G7 fr2=>f_in ?_))
 have x6':=fr2 _ _ x6 (ne_obj x6 F1.feed fun q=>MObj.noConfusion q)
 have V:Vl ((ρ.set 6 (.ref a6)).set 7 (.ref a7)) f (adr .s) m a6 a7:=⟨r1,r3,r4,rfl,rfl⟩
 have L:Lap adr h2 σ X2 f c k2 cls.length m a6 a7 cs cls A6 A7:=⟨S2,F2,Rt,W,hz,x6',x7,G6,G7⟩
 refine x_for' (m_bui1 (m_arR e_int (m_fn (e_cons (e_var V.r1) (e_one e_int)) (lap_draw L (by decide) (Nat.lt_of_le_of_lt (m:=28) (by lia) (by decide)) fun r z0 z1 h3 L3=>f_in (.mk (.ari (.add _ _)) (f_in (.mk (.range1 (by unfold small; have:(intLine:Int)=2 ^ 60:=rfl; lia)) (f_in (.mk (.rng _ _) ?_)))))))))
 have rl:=rng_len (n:=4 + r) (m:=6) (by lia)
 exact laps_walk (d:=d) (fun uu=>.rng _ _) (.mk rfl V L3 (by lia) (by lia)) q
theorem law_holds (script:List Int):callD prog script 20 8 [.script] (fun v uu=>v = .bool true) ⟨0,fun uu=>none,0⟩:=by
 have O1:=(nothing (X:=fun uu=>none) rfl (h:=⟨0,fun uu=>none,0⟩)).push (.list (iL (script.take (clamp script.length 60))))
 have tl:(script.take (clamp script.length 60)).length≤lenLine:=Nat.le_trans (List.length_take_le ..) (Nat.le_trans (show clamp script.length ((60:Nat):Int)≤60 by rw [clamp_nat]; exact Nat.min_le_left ..) (Nat.le_of_ble_eq_true rfl))
 refine enter (fn:=f_law) rfl rfl rfl (x_var (m_dict2 (m_compR (m_to (e_var rfl) e_int (.script 60) (f_in (.mk (.list (O1 _ _ put_same).obj) (comp_pure (emb:=.int) (f:=fun uu=>true) (g:=fun i=>.int (i.fmod 1000003)) (.list (O1 _ _ put_same).obj) (fun uu uu uu H=>c_nil H) (fun uu uu uu=>e_ari (e_bui (e_one (e_var rfl)) (.int _)) e_int (.mod (by decide))) (by rw [List.length_nil,Nat.zero_add]; exact tl) (f_in (e_int.go (f_in ?_))))))))))
 rw [List.nil_append,filter_all,show (script.take (clamp script.length 60)).map (fun i=>MV.int (i.fmod 1000003))=iL ((script.take (clamp script.length 60)).map (fun i=>i.fmod 1000003)) from (List.map_map ..).symm]
 have O2:=O1.push (.list (iL ((script.take (clamp script.length 60)).map (fun i=>i.fmod 1000003))))
 have O3:=O2.push (feedO 1 0)
 generalize (script.take (clamp script.length 60)).map (fun i=>i.fmod 1000003)=cs at O2 O3 ⊢
 have F3:Feed ((((XH.put (fun uu=>none) 0 (.list (iL (script.take (clamp script.length 60))))).put 1 (.list (iL cs)))).put 2 (feedO 1 0)) 2 1 cs 0:=⟨put_same,(put_ne (by decide)).trans put_same⟩
 refine x_var (m_compR (m_bui1 (m_arR e_int (m_fn (e_cons (e_var rfl) (e_one e_int)) (draw ctx0 O3 F3 (by decide) (by decide) fun r z0 z1 h4 O4=>f_in (.mk (.ari (.add _ _)) (f_in (.mk (.range1 (by unfold small; have:(intLine:Int)=2 ^ 60:=rfl; lia)) (f_in (.mk (.rng _ _) ?_))))))))))
 have rl:=rng_len (n:=7 + r) (m:=12) (by lia)
 refine comp_eff (emb:=fun C=>.tup (iL C)) (acc:=[]) (ClI (fun uu=>none) 2 1 cs 20) (fun uu=>.rng _ _) (fun n acc v h K I hK=>?_) (.mk O4 F3.next (by lia) (by rw [List.length_nil]; lia) fun C h=>absurd h List.not_mem_nil) (by rw [List.length_nil,Nat.zero_add]; exact Nat.le_trans rl (Nat.le_of_ble_eq_true rfl)) fun cls h5 I=>?_
 ·induction I with
  | @mk X' k z F hk l r=>
  exact m_fnL (l_one (m_fn (e_cons (e_var rfl) (e_one e_int)) (draw ctx0 z F (by decide) (Nat.lt_of_le_of_lt (m:=20) (by lia) (by decide)) fun code c0 c1 h6 O6=>f_in (clause_spec ctx0 O6 c0 fun C h7 hC O7=>f_in (hK C h7 (.mk O7 F.next (by lia) (by rw [List.length_append,List.length_singleton]; lia) fun D hD=>(mem_push.mp hD).elim (r D) fun q=>q▸hC))))))
 ·induction I with
  | @mk X' k z F hk l rc=>
  have O6:=Out0.push z (.list (tL cls))
  have F6:=F.put (o:=.list (tL cls)) (Out0.none_at z)
  refine f_in (x_asgs' (l_cons (m_new (e_cons (e_var rfl) (e_one e_int)) (init_spec lib.toLib O6 (many:=5) (by decide) (.mk put_same tuples) (fun done σ=>Rest done done.length σ) rest0 (fun done xs rest σ e Rt=>add_to rc l e Rt) fun h7 adr σ e Rt S=>⟨rfl,f_in ?_⟩))))
  rw [show (h5.new (MObj.list (cls.map fun C=>MV.tup (iL C)))).next=adr .s from e.symm]
  exact e_one e_glob _ ⟨Nat.le_of_ble_eq_true rfl,rfl,a_var (a_var (a_nil (law_main (d:=14) (n:=0) S F6 Rt l rc put_same (by lia) rfl rfl rfl rfl fun uu=>rfl)))⟩
end
end Mini.T02
end
section
set_option maxHeartbeats 8000000
open PySem PySem.W PyProof.Rows Mini
namespace Mini.T02
noncomputable def faddr (f:Nat):Addr:=([62,230,237,244,251,256,261,266,271,76,83,90,97,118,123,130,137,144,151,156,163,170,177,182,189,196,203,210,217]:List Nat).getD f 0
noncomputable def cks:List FCk:=[⟨C.f_ordered,C.v_ordered,["literals"]⟩,⟨f__law_turn,v__law_turn,["wheel","many"]⟩,⟨f__law_clause,v__law_clause,["code"]⟩,⟨f__law_rows,v__law_rows,["literals"]⟩,⟨f__law_shared,v__law_shared,["literals"]⟩,⟨f__law_assumed,v__law_assumed,["wheel"]⟩,⟨f__law_answer_right,v__law_answer_right,["search","worlds","assumed","told","is_spent"]⟩,⟨f__law_asking_right,v__law_asking_right,["search","worlds","assumed","most"]⟩,⟨f_law,v_law,["script"]⟩,⟨C.f_Values___init__,C.v_Values___init__,["self"]⟩,⟨C.f_Values_says,C.v_Values_says,["self","literal"]⟩,⟨C.f_Values_let,C.v_Values_let,["self","literal","cause"]⟩,⟨C.f_Values_back_to,C.v_Values_back_to,["self","height"]⟩,⟨{ C.f_Search___init__ with sup:=some 9 },C.v_Search___init__,["self","clauses","many"]⟩,⟨C.f_Search_add_clause,C.v_Search_add_clause,["self","literals"]⟩,⟨C.f_Search_refute,C.v_Search_refute,["self"]⟩,⟨C.f_Search_keep,C.v_Search_keep,["self","literals"]⟩,⟨C.f_Search_spread,C.v_Search_spread,["self"]⟩,⟨C.f_Search_has_moved,C.v_Search_has_moved,["self","number","lost"]⟩,⟨C.f_Search_warm,C.v_Search_warm,["self","v"]⟩,⟨C.f_Search_lesson,C.v_Search_lesson,["self","number"]⟩,⟨C.f_Search_height_of,C.v_Search_height_of,["self","literal"]⟩,⟨C.f_Search_learn,C.v_Search_learn,["self","number"]⟩,⟨C.f_Search_blame,C.v_Search_blame,["self","literal"]⟩,⟨C.f_Search_hottest,C.v_Search_hottest,["self"]⟩,⟨C.f_Search_decide,C.v_Search_decide,["self","assumptions"]⟩,⟨C.f_Search_solve,C.v_Search_solve,["self","assumptions"]⟩,⟨C.f_Search_value,C.v_Search_value,["self","v"]⟩,⟨C.f_Search_failed,C.v_Search_failed,["self"]⟩]
noncomputable abbrev wd (K:Frag)(p:Program)(w:World)(B:Heap)(script:List Int)(at_:Addr)(mg mb:Str→Option Value):Wd:=
 ⟨p,w,B,K,tab,prog,script,at_,220,53,faddr,mg,mb⟩
noncomputable abbrev h0:MHeap:=⟨0,fun uu=>none,0⟩
theorem heap0 {W:Wd}:SimC W [] h0 W.B:=⟨fun a o e=>e,rfl,fun i o e=>ns e,List.nodup_nil,fun a h=>absurd h List.not_mem_nil,fun a h=>absurd h List.not_mem_nil⟩
theorem core {K:Frag}{p:Program}{w:World}{script:List Int}{at_:Addr}{mg mb:Str→Option Value}{s:Shared}(KO:WdOk (wd K p w s.heap script at_ mg mb))(mk:MkF (wd K p w s.heap script at_ mg mb))(h3:∀ i c,cks[i]?=some c→FnOk (wd K p w s.heap script at_ mg mb) (0 + i) c.fn)(hl:script.length≤63) :
  codeAny (model p w) callerA (.call (.ref 271) ⟨[.ref at_],[]⟩) (fun r s'=>match r with | .ok (.ret v)=>v = .bool true∧(∀ b o,s.heap.get? b=some o→s'.heap.get? b=some o)∧s'.gens=s.gens∧s'.os=s.os | _=>False) s:=by
 refine codeAny_mono ((callOk KO (make_ok KO mk) (fnOk_of _ rfl h3) 20).1 8 callerA [.script] [.ref at_] (fun v uu=>v = .bool true) ⟨[],h0,s,heap0,[],nofun⟩ rfl (by decide) (by decide) (.mk rfl rfl trivial nofun) (.one rfl) (law_holds _)) fun r s' h=>?_
 rcases r with e | (_ | _ | _ | v) <;> first | exact h.elim | skip
 have h:Out _ Cf.V _ v s':=h
 induction h with
 | mk r q l=>exact ⟨by rw [q] at r; exact r,fun b o e=>l.keep b o e List.not_mem_nil List.not_mem_nil List.not_mem_nil,l.rest.1,l.rest.2⟩
end Mini.T02
end
section
set_option maxHeartbeats 80000000
open PySem PySem.W PyProof.Rows Mini
noncomputable def Mini.T02.fin0.tw3397434621427004590:Unit:=()
noncomputable def Mini.T02.fin0.tw9949755198418904896:Unit:=()
noncomputable def Mini.T02.fin0.tw9737604755540929866:Unit:=()
noncomputable def Mini.T02.fin0.tw7475254089399546913:Unit:=()
noncomputable def Mini.T02.fin0.tw5629402370660919278:Unit:=()
noncomputable def Mini.T02.fin0.tw16779361543195374033:Unit:=()
noncomputable def Mini.T02.fin0.tw12824428023218185093:Unit:=()
noncomputable def Mini.T02.fin0.tw5931705774909554486:Unit:=()
noncomputable def Mini.T02.fin0.tw16900410125997568947:Unit:=()
noncomputable def Mini.T02.fin0.tw4316592282484569909:Unit:=()
noncomputable def Mini.T02.fin0.tw2038090696187683552:Unit:=()
noncomputable def Mini.T02.fin0.tw3474348083227005889:Unit:=()
noncomputable def Mini.T02.fin0.tw2568284843196385239:Unit:=()
noncomputable def Mini.T02.fin0.tw17747520376917860329:Unit:=()
noncomputable def Mini.T02.fin0.tw10504791736575780398:Unit:=()
noncomputable def Mini.T02.fin0.tw8190858494884499758:Unit:=()
noncomputable def Mini.T02.fin0.tw10678249292572327503:Unit:=()
noncomputable def Mini.T02.fin0.tw11869273802282692673:Unit:=()
noncomputable def Mini.T02.fin0.tw10436797670535617535:Unit:=()
noncomputable def Mini.T02.fin0.tw11949585609354881485:Unit:=()
noncomputable def Mini.T02.fin0.tw1788783568233177961:Unit:=()
noncomputable def Mini.T02.fin0.tw12225465915832643711:Unit:=()
noncomputable def Mini.T02.fin0.tw6691752741768576894:Unit:=()
noncomputable def Mini.T02.fin0.tw15120025035460509958:Unit:=()
noncomputable def Mini.T02.fin0.tw10756714016621060203:Unit:=()
noncomputable def Mini.T02.fin0.tw8545997500364635680:Unit:=()
noncomputable def Mini.T02.fin0.tw330583422444886179:Unit:=()
noncomputable def Mini.T02.fin0.tw9364980865993982572:Unit:=()
noncomputable def Mini.T02.fin0.tw10691784304706450642:Unit:=()
noncomputable def Mini.T02.fin0.tw10210164984211239074:Unit:=()
noncomputable def Mini.T02.fin0.tw9075966177309436793:Unit:=()
noncomputable def Mini.T02.fin0.tw6071952536411091561:Unit:=()
noncomputable def Mini.T02.fin0.tw8478115143414230920:Unit:=()
noncomputable def Mini.T02.fin0.tw8562693753994483682:Unit:=()
noncomputable def Mini.T02.fin0.tw860020382991884905:Unit:=()
noncomputable def Mini.T02.fin0.tw17803852666238300179:Unit:=()
noncomputable def Mini.T02.fin0.tw8237895233277761402:Unit:=()
noncomputable def Mini.T02.fin0.tw13267757912108527794:Unit:=()
noncomputable def Mini.T02.fin0.tw11095343451211780589:Unit:=()
noncomputable def Mini.T02.fin0.tw11448737857765837299:Unit:=()
noncomputable def Mini.T02.fin0.tw5407918489457760784:Unit:=()
noncomputable def Mini.T02.fin0.tw2914306755113086985:Unit:=()
noncomputable def Mini.T02.fin0.tw11688705202243769448:Unit:=()
noncomputable def Mini.T02.fin0.tw4031877513489434742:Unit:=()
noncomputable def Mini.T02.fin0.tw987206864996952845:Unit:=()
noncomputable def Mini.T02.fin0.tw8899884784778233260:Unit:=()
noncomputable def Mini.T02.fin0.tw16316396078804881577:Unit:=()
noncomputable def Mini.T02.fin0.tw6946022350780296014:Unit:=()
noncomputable def Mini.T02.fin0.tw5591768595034943747:Unit:=()
noncomputable def Mini.T02.fin0.tw14258373038366219791:Unit:=()
noncomputable def Mini.T02.fin0.tw3172955625155025421:Unit:=()
noncomputable def Mini.T02.fin0.tw4500486997437418429:Unit:=()
noncomputable def Mini.T02.fin0.tw1729906783864081035:Unit:=()
noncomputable def Mini.T02.fin0.tw6041269420553245701:Unit:=()
noncomputable def Mini.T02.fin0.tw9464800343491660468:Unit:=()
noncomputable def Mini.T02.fin0.tw4207478270430215341:Unit:=()
noncomputable def Mini.T02.fin0.tw1026032689332005435:Unit:=()
noncomputable def Mini.T02.fin0.tw5044383846624171910:Unit:=()
noncomputable def Mini.T02.fin0.tw6404313949890416007:Unit:=()
noncomputable def Mini.T02.fin0.tw11582899221610298290:Unit:=()
noncomputable def Mini.T02.fin0.tw12305919734467833713:Unit:=()
noncomputable def Mini.T02.fin0.tw18071408703433038735:Unit:=()
noncomputable def Mini.T02.fin0.tw2356936700775569702:Unit:=()
noncomputable def Mini.T02.fin0.tw9027223944576199049:Unit:=()
noncomputable def Mini.T02.fin0.tw17069402676217236099:Unit:=()
noncomputable def Mini.T02.fin0.tw15652071433651774875:Unit:=()
noncomputable def Mini.T02.fin0.tw14889683239871464201:Unit:=()
noncomputable def Mini.T02.fin0.tw4814278388122802277:Unit:=()
noncomputable def Mini.T02.fin0.tw236194403050404137:Unit:=()
noncomputable def Mini.T02.fin0.tw13094424664117832349:Unit:=()
noncomputable def Mini.T02.fin0.tw11761112114353176799:Unit:=()
noncomputable def Mini.T02.fin0.tw15368652855797210371:Unit:=()
noncomputable def Mini.T02.fin0.tw6750657155513387666:Unit:=()
noncomputable def Mini.T02.fin0.tw1543664035845179440:Unit:=()
noncomputable def Mini.T02.fin0.tw8444782506178538747:Unit:=()
noncomputable def Mini.T02.fin0.tw17456117004457155982:Unit:=()
noncomputable def Mini.T02.fin0.tw16981293797859790213:Unit:=()
noncomputable def Mini.T02.fin0.tw6443013569429969311:Unit:=()
noncomputable def Mini.T02.fin0.tw11345967029115666854:Unit:=()
noncomputable def Mini.T02.fin0.tw1413321906847275833:Unit:=()
noncomputable def Mini.T02.fin0.tw11692331533107958770:Unit:=()
noncomputable def Mini.T02.fin0.tw721343246479300073:Unit:=()
noncomputable def Mini.T02.fin0.tw14986190790112594917:Unit:=()
noncomputable def Mini.T02.fin0.tw11280314930352472403:Unit:=()
noncomputable def Mini.T02.fin0.tw7655044938348649239:Unit:=()
noncomputable def Mini.T02.fin0.tw1172238067429347956:Unit:=()
noncomputable def Mini.T02.fin0.tw6610828721345980041:Unit:=()
noncomputable def Mini.T02.fin0.tw3546802441862394878:Unit:=()
noncomputable def Mini.T02.fin0.tw5971481110076033389:Unit:=()
noncomputable def Mini.T02.fin0.tw12530748204701070564:Unit:=()
noncomputable def Mini.T02.fin0.tw3638999057776018906:Unit:=()
noncomputable def Mini.T02.fin0.tw12768042863585215098:Unit:=()
noncomputable def Mini.T02.fin0.tw376583683317609657:Unit:=()
noncomputable def Mini.T02.fin0.tw15001927749947496092:Unit:=()
noncomputable def Mini.T02.fin0.tw16469744968147630628:Unit:=()
noncomputable def Mini.T02.fin0.tw11219273994086223977:Unit:=()
noncomputable def Mini.T02.fin0.tw8129262051046065322:Unit:=()
noncomputable def Mini.T02.fin0.tw2383030135602578696:Unit:=()
noncomputable def Mini.T02.fin0.tw17502488697479172544:Unit:=()
noncomputable def Mini.T02.fin0.tw13921655592701078651:Unit:=()
noncomputable def Mini.T02.fin0.tw11845045494443632276:Unit:=()
noncomputable def Mini.T02.fin0.tw341674479502886426:Unit:=()
noncomputable def Mini.T02.fin0.tw4861390308573718812:Unit:=()
noncomputable def Mini.T02.fin0.tw12907700316710266996:Unit:=()
noncomputable def Mini.T02.fin0.tw8110690759701975546:Unit:=()
noncomputable def Mini.T02.fin0.tw4228167313285900166:Unit:=()
noncomputable def Mini.T02.fin0.tw2213883485144843811:Unit:=()
noncomputable def Mini.T02.fin0.tw4150801056345796700:Unit:=()
noncomputable def Mini.T02.fin0.tw4479848840556788974:Unit:=()
noncomputable def Mini.T02.fin0.tw323395288892226356:Unit:=()
noncomputable def Mini.T02.fin0.tw12019105371787213181:Unit:=()
noncomputable def Mini.T02.fin0.tw8336275521830434580:Unit:=()
noncomputable def Mini.T02.fin0.tw12753525012656264144:Unit:=()
noncomputable def Mini.T02.fin0.tw3216105412488627622:Unit:=()
noncomputable def Mini.T02.fin0.tw12101283899471355337:Unit:=()
noncomputable def Mini.T02.fin0.tw10065849284890180361:Unit:=()
set_option Elab.async true in
theorem Mini.T02.fin0:PySem.Challenge.rw_rr0091_02.Holds:=by
 w_on; o_law; k_head; (case hw=>w_witness2)
 k_fill
 intro w s₀ s₁ mg mb G Y fa o pm cd doc dV kV ho hdd hcd hD hmg hg args vals as hpre hlay hrd hwl hlo
 have KX:=kIn_of Y
 refine Ground.open G ?_
 intro T B D TE TW
 wrow_args hpre hlay hrd hwl hlo
 all_goals first | refine callC_kw (enter_call ?_) | refine enter_call ?_ | refine callC_kw (enter_callW ?_) | refine enter_callW ?_
 clear hdd hcd hD
 rename_i xs hs hlay0 hL1 hr1 hl2 w4 w3 at_ vs w0 hL ra w1 r0 hI hr hcond1 hcond2
 refine codeAny_mono ?_ (fun uu uu g=>GoodW.toG g)
 have hl:xs.length≤63:=by
  have:¬ (63:Int)<(xs.length:Int):=by simpa using hcond1
  exact Nat.le_of_not_lt fun q=>this (Int.ofNat_lt.mpr q)
 have hfa:fa=271:=by
  have h1:=mg_of KX T.g (n:="law") (v:=.ref 271) (by kernel_rfl)
  have h2:mg "law"=some (.ref fa):=hmg
  rw [h1] at h2
  cases h2; rfl
 subst hfa
 refine codeAny_mono (Mini.T02.core (at_:=at_) (Dec.get (d:=wdD _ KX T.g T.b T.nolimit T.builtins ⟨_,hL,hI⟩ (Nat.le_trans hl (by decide))) (by kernel_rfl)) (Dec.get (d:=mkD _ 30 (bind2 fun a b=>by kernel_rfl)) (by kernel_rfl)) (Dec.get (d:=fnsD _ Mini.T02.cks 0 (bindAll_of rfl 0 fun a b c d e=>by kernel_rfl)) (by kernel_rfl)) hl) fun r s' h=>?_
 rcases r with e | (_ | _ | _ | v) <;> first | exact h.elim | skip
 obtain ⟨rfl,h1,h2,h3⟩:=h
 exact ⟨.inl ⟨_,.bool true,[],rfl,fun uu=>rfl,.bool _,by kernel_rfl,fun uu=>⟨List.nodup_nil,fun a h=>by cases h⟩⟩,h1,h3,h2.trans hg⟩
end
theorem PySem.Challenge.cw_rr0091_02_holds : PySem.Challenge.rw_rr0091_02.Holds :=
 Mini.T02.fin0
