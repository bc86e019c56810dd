import PyProof.Rows.All
import Wide.All
import OpenK.AllK
import Wide.FinOn
import KE.KSetInts
import KE.KEqDict
import KE.KSortKey
import KE.KDictSum
import PyProof.EnumStmt
import KE.KSuper
import PySem.Challenge.RW_rr0091_01
set_option Elab.async false
set_option maxRecDepth 100000
set_option linter.unusedVariables false
set_option linter.unusedSimpArgs false
set_option linter.unusedSectionVars false
section
set_option genSizeOf false
set_option genSizeOfSpec false
namespace Mini
inductive MV where
  | none
  | bool (b : Bool)
  | int (i : Int)
  | str (s : Nat)
  | tup (vs : List MV)
  | rng (lo hi : Int)
  | script
  | ref (a : Nat)
noncomputable def MV.flat : MV → Bool
  | .tup _ => false
  | _ => true
inductive MObj where
  | list (xs : List MV)
  | idict (es : List (Int × MV))
  | sdict (es : List (Nat × MV))
  | inst (as : List (Nat × MV))
  | set (xs : List Int)
structure MHeap where
  next : Nat
  obj : Nat → Option MObj
noncomputable def MHeap.set (h : MHeap) (a : Nat) (o : MObj) : MHeap := ⟨h.next, fun b => if b = a then some o else h.obj b⟩
noncomputable def MHeap.new (h : MHeap) (o : MObj) : MHeap := ⟨h.next + 1, fun b => if b = h.next then some o else h.obj b⟩
noncomputable abbrev Vars := Nat → Option MV
noncomputable def Vars.set (ρ : Vars) (x : Nat) (v : MV) : Vars := fun y => if y = x then some v else ρ y
noncomputable abbrev HP := MHeap → Prop
noncomputable abbrev KV := MV → MHeap → Prop
noncomputable abbrev PT (α : Type) := (α → MHeap → Prop) → MHeap → Prop
set_option genInjectivity false
inductive MFlow where
  | next | brk | cont
  | ret (v : MV)
noncomputable abbrev KF := MFlow → Vars → MHeap → Prop
noncomputable abbrev PS := KF → Vars → MHeap → Prop
inductive MOp where
  | add | sub | mul | fdiv | mod | band | shr | pow | cat | bor | diff
inductive MCmp where
  | eq | ne | lt | le | gt | ge | is | isnot | isin | notin
inductive MB where
  | len | abs | list | tuple | dict | max | range1 | range2 | sorted | set | int
mutual
inductive ME where
  | none
  | bool (b : Bool)
  | int (i : Int)
  | str (s : Nat)
  | var (x : Nat)
  | glob (i : Int)
  | attr (e : ME) (a : Nat)
  | bin (op : MOp) (l r : ME)
  | neg (e : ME)
  | not (e : ME)
  | cmp (op : MCmp) (l r : ME)
  | and (es : MEs)
  | or (es : MEs)
  | ite (t a b : ME)
  | sub (e i : ME)
  | sliceTo (e hi : ME)
  | sliceFrom (e lo : ME)
  | slice (e lo hi : ME)
  | list (es : MEs)
  | tup (es : MEs)
  | dict0
  | dict2 (k : Nat) (e : ME) (k' : Nat) (e' : ME)
  | callF (f : Nat) (es : MEs)
  | callM (o : ME) (m : Nat) (es : MEs)
  | callB (b : MB) (es : MEs)
  | new (es : MEs)
  | comp (elt : ME) (x : Nat) (it : ME) (cond : MEs)
  | dcomp (k v : ME) (x : Nat) (it : ME)
  | sortAbs (e : ME)
  | sortKeyRev (e o : ME) (m : Nat)
inductive MEs where
  | nil
  | cons (e : ME) (es : MEs)
end
inductive MT where
  | var (x : Nat)
  | attr (o : ME) (a : Nat)
  | sub (o i : ME)
mutual
inductive MS where
  | assign (t : MT) (e : ME)
  | assigns (ts : List MT) (es : MEs)
  | expr (e : ME)
  | ite (t : ME) (a b : MSs)
  | while (t : ME) (b : MSs)
  | for (x : Nat) (it : ME) (b : MSs)
  | forE (x y : Nat) (it : ME) (b : MSs)
  | ret (e : ME)
  | retNone
  | brk
  | cont
  | bad
inductive MSs where
  | nil
  | cons (s : MS) (r : MSs)
end
structure MFn where
  npar : Nat
  sup : Option Nat
  body : MSs
structure MProg where
  fns : List MFn
  meths : List (Nat × Nat)
  init : Nat
inductive Yields {α : Type} (R Q : α → Prop) : Prop
  | mk {a : α} (r : R a) (q : Q a)
inductive Via (R : MV → MHeap → Prop) (Q : MV → MHeap → Prop) : Prop
  | mk {u : MV} {h : MHeap} (r : R u h) (q : Q u h)
inductive Alt (R : MHeap → Prop) (Q : MHeap → Prop) : Prop
  | mk {h : MHeap} (r : R h) (q : Q h)
inductive Tru : MV → Bool → Prop
  | none : Tru .none false
  | bool (b : Bool) : Tru (.bool b) b
  | int (i : Int) : Tru (.int i) (i != 0)
noncomputable def fin : Bool → KV → KV
  | false, Q => Q
  | true, Q => fun v h => Yields (Tru v) fun b => Q (.bool b) h
inductive AEq : MV → MV → Bool → Prop
  | nn : AEq .none .none true
  | nb (b : Bool) : AEq .none (.bool b) false
  | ni (i : Int) : AEq .none (.int i) false
  | bn (b : Bool) : AEq (.bool b) .none false
  | int (i : Int) : AEq (.int i) .none false
  | bb (a b : Bool) : AEq (.bool a) (.bool b) (a == b)
  | ii (a b : Int) : AEq (.int a) (.int b) (a == b)
inductive EqL (R : MV → MV → Bool → Prop) : List MV → List MV → Bool → Prop
  | nil : EqL R [] [] true
  | left (x : MV) (r : List MV) : EqL R (x :: r) [] false
  | right (y : MV) (s : List MV) : EqL R [] (y :: s) false
  | cons {x y : MV} {r s : List MV} {a b : Bool} (h : R x y a) (t : EqL R r s b) : EqL R (x :: r) (y :: s) (a && b)
inductive FEq : MV → MV → Bool → Prop
  | at {x y : MV} {b : Bool} (e : AEq x y b) : FEq x y b
  | nt (vs : List MV) : FEq .none (.tup vs) false
  | tn (vs : List MV) : FEq (.tup vs) .none false
  | tt {xs ys : List MV} {b : Bool} (e : EqL AEq xs ys b) : FEq (.tup xs) (.tup ys) b
noncomputable def ins (xs : List Int) (k : Int) : List Int := if k ∈ xs then xs else xs ++ [k]
noncomputable def uni (xs ys : List Int) : List Int := ys.foldl ins xs
noncomputable def dedup (xs : List Int) : List Int := xs.foldl ins []
noncomputable def subs (xs ys : List Int) : Bool := xs.all fun k => ys.contains k
noncomputable def same (xs ys : List Int) : Bool := xs.length == ys.length && subs xs ys
noncomputable def kget {κ : Type} [DecidableEq κ] : List (κ × MV) → κ → Option MV
  | [], _ => none
  | p :: r, k => if p.1 = k then some p.2 else kget r k
inductive EqD (ys : List (Int × MV)) : List (Int × MV) → Bool → Prop
  | nil : EqD ys [] true
  | miss {k : Int} {v : MV} {r : List (Int × MV)} (e : kget ys k = none) : EqD ys ((k, v) :: r) false
  | hit {k : Int} {v y : MV} {r : List (Int × MV)} {a b : Bool} (e : kget ys k = some y) (q : AEq v y a) (t : EqD ys r b) : EqD ys ((k, v) :: r) (a && b)
inductive Eqv (h : MHeap) : MV → MV → Bool → Prop
  | flat {x y : MV} {b : Bool} (e : FEq x y b) : Eqv h x y b
  | list {i j : Nat} {xs ys : List MV} {b : Bool} (p : h.obj i = some (.list xs)) (q : h.obj j = some (.list ys)) (e : EqL FEq xs ys b) : Eqv h (.ref i) (.ref j) b
  | lens {i j : Nat} {xs ys : List MV} (p : h.obj i = some (.list xs)) (q : h.obj j = some (.list ys)) (e : xs.length ≠ ys.length) : Eqv h (.ref i) (.ref j) false
  | set {i j : Nat} {xs ys : List Int} (p : h.obj i = some (.set xs)) (q : h.obj j = some (.set ys)) : Eqv h (.ref i) (.ref j) (same xs ys)
  | dict {i j : Nat} {xs ys : List (Int × MV)} {b : Bool} (p : h.obj i = some (.idict xs)) (q : h.obj j = some (.idict ys)) (e : EqD ys xs b) : Eqv h (.ref i) (.ref j) (xs.length == ys.length && b)
inductive IsV : MV → MV → Bool → Prop
  | nn : IsV .none .none true
  | nb (b : Bool) : IsV .none (.bool b) false
  | bn (b : Bool) : IsV (.bool b) .none false
  | int (i : Int) : IsV (.int i) .none false
  | tn (vs : List MV) : IsV (.tup vs) .none false
  | rn (i : Nat) : IsV (.ref i) .none false
  | bb (a b : Bool) : IsV (.bool a) (.bool b) (a == b)
inductive InL (v : MV) : List MV → Bool → Prop
  | nil : InL v [] false
  | cons {x : MV} {r : List MV} {a b : Bool} (e : AEq x v a) (t : InL v r b) : InL v (x :: r) (a || b)
inductive InV (h : MHeap) : MV → MV → Bool → Prop
  | tup {v : MV} {xs : List MV} {b : Bool} (e : InL v xs b) : InV h v (.tup xs) b
  | list {v : MV} {i : Nat} {xs : List MV} {b : Bool} (p : h.obj i = some (.list xs)) (e : InL v xs b) : InV h v (.ref i) b
  | dict {k : Int} {i : Nat} {es : List (Int × MV)} (p : h.obj i = some (.idict es)) : InV h (.int k) (.ref i) (es.any fun e => e.1 == k)
  | set {k : Int} {i : Nat} {xs : List Int} (p : h.obj i = some (.set xs)) : InV h (.int k) (.ref i) (xs.contains k)
inductive Cmp (h : MHeap) : MCmp → MV → MV → Bool → Prop
  | eq {x y : MV} {b : Bool} (e : Eqv h x y b) : Cmp h .eq x y b
  | ne {x y : MV} {b : Bool} (e : Eqv h x y b) : Cmp h .ne x y (!b)
  | is {x y : MV} {b : Bool} (e : IsV x y b) : Cmp h .is x y b
  | isnot {x y : MV} {b : Bool} (e : IsV x y b) : Cmp h .isnot x y (!b)
  | isin {x y : MV} {b : Bool} (e : InV h x y b) : Cmp h .isin x y b
  | notin {x y : MV} {b : Bool} (e : InV h x y b) : Cmp h .notin x y (!b)
  | lt (a b : Int) : Cmp h .lt (.int a) (.int b) (decide (a < b))
  | le (a b : Int) : Cmp h .le (.int a) (.int b) (decide (a ≤ b))
  | leS {i j : Nat} {xs ys : List Int} (p : h.obj i = some (.set xs)) (q : h.obj j = some (.set ys)) : Cmp h .le (.ref i) (.ref j) (subs xs ys)
  | gt (a b : Int) : Cmp h .gt (.int a) (.int b) (decide (b < a))
  | ge (a b : Int) : Cmp h .ge (.int a) (.int b) (decide (b ≤ a))
noncomputable abbrev intLine : Int := 2 ^ 60
noncomputable def small (i : Int) : Prop := -intLine < i ∧ i < intLine
noncomputable abbrev lenLine : Nat := 2 ^ 20
inductive Ari : MOp → Int → Int → Int → Prop
  | add (a b : Int) : Ari .add a b (a + b)
  | sub (a b : Int) : Ari .sub a b (a - b)
  | mul {a b : Int} (l : small a ∨ small b) : Ari .mul a b (a * b)
  | fdiv {a b : Int} (l : 0 < b) (m : b ≤ 1000000000) : Ari .fdiv a b (a.fdiv b)
  | mod {a b : Int} (l : b ≠ 0) : Ari .mod a b (a.fmod b)
  | band {a b : Int} (l : 0 ≤ a) (m : 0 ≤ b) : Ari .band a b ((a.toNat &&& b.toNat : Nat) : Int)
  | shr {a b : Int} (l : 0 ≤ b) : Ari .shr a b (a.fdiv (2 ^ b.toNat))
  | pow {a b : Int} (l : 0 ≤ b) (m : b ≤ 1000) (n : small a) : Ari .pow a b (a ^ b.toNat)
inductive Bin (h : MHeap) : MOp → MV → MV → MV → MHeap → Prop
  | ari {op : MOp} {a b c : Int} (e : Ari op a b c) : Bin h op (.int a) (.int b) (.int c) h
  | cat {i j : Nat} {xs ys : List MV} (p : h.obj i = some (.list xs)) (q : h.obj j = some (.list ys)) (l : xs.length + ys.length ≤ lenLine) : Bin h .cat (.ref i) (.ref j) (.ref h.next) (h.new (.list (xs ++ ys)))
  | bor {i j : Nat} {xs ys : List Int} (p : h.obj i = some (.set xs)) (q : h.obj j = some (.set ys)) (n : i ≠ j) (l : xs.length + ys.length ≤ 40) : Bin h .bor (.ref i) (.ref j) (.ref h.next) (h.new (.set (uni xs ys)))
  | diff {i j : Nat} {xs ys : List Int} (p : h.obj i = some (.set xs)) (q : h.obj j = some (.set ys)) (l : xs.length < 8) : Bin h .diff (.ref i) (.ref j) (.ref h.next) (h.new (.set (xs.filter fun k => !ys.contains k)))
noncomputable def kset {κ : Type} [DecidableEq κ] : List (κ × MV) → κ → MV → List (κ × MV)
  | [], k, v => [(k, v)]
  | p :: r, k, v => if p.1 = k then (p.1, v) :: r else p :: kset r k v
noncomputable def kdel {κ : Type} [DecidableEq κ] : List (κ × MV) → κ → List (κ × MV)
  | [], _ => []
  | p :: r, k => if p.1 = k then r else p :: kdel r k
inductive Place (n : Nat) : Int → Nat → Prop
  | pos {j : Nat} (l : j < n) : Place n (j : Int) j
  | neg {j : Nat} (l : j < n) : Place n ((j : Int) - n) j
noncomputable def clamp (n : Nat) (i : Int) : Nat :=
  if 0 ≤ i then min i.toNat n else (n + i).toNat
inductive GetA (h : MHeap) : MV → Nat → MV → Prop
  | mk {x a : Nat} {as : List (Nat × MV)} {w : MV} (p : h.obj x = some (.inst as)) (q : kget as a = some w) : GetA h (.ref x) a w
inductive GetI (h : MHeap) : MV → MV → MV → Prop
  | tup {xs : List MV} {k : Int} {j : Nat} {w : MV} (l : Place xs.length k j) (q : xs[j]? = some w) : GetI h (.tup xs) (.int k) w
  | list {i : Nat} {xs : List MV} {k : Int} {j : Nat} {w : MV} (p : h.obj i = some (.list xs)) (l : Place xs.length k j) (q : xs[j]? = some w) : GetI h (.ref i) (.int k) w
  | idict {i : Nat} {es : List (Int × MV)} {k : Int} {w : MV} (p : h.obj i = some (.idict es)) (q : kget es k = some w) : GetI h (.ref i) (.int k) w
  | sdict {i : Nat} {es : List (Nat × MV)} {k : Nat} {w : MV} (p : h.obj i = some (.sdict es)) (q : kget es k = some w) : GetI h (.ref i) (.str k) w
inductive SetI (h : MHeap) (w : MV) : MV → MV → MHeap → Prop
  | list {i : Nat} {xs : List MV} {j : Nat} (p : h.obj i = some (.list xs)) (l : j < xs.length) : SetI h w (.ref i) (.int (j : Int)) (h.set i (.list (xs.set j w)))
  | idict {i : Nat} {es : List (Int × MV)} {k : Int} (p : h.obj i = some (.idict es)) (l : es.length < lenLine) : SetI h w (.ref i) (.int k) (h.set i (.idict (kset es k w)))
  | sdict {i : Nat} {es : List (Nat × MV)} {k : Nat} (p : h.obj i = some (.sdict es)) (l : es.length < lenLine) : SetI h w (.ref i) (.str k) (h.set i (.sdict (kset es k w)))
inductive SetA (h : MHeap) (a : Nat) (w : MV) : MV → MHeap → Prop
  | mk {x : Nat} {as : List (Nat × MV)} (p : h.obj x = some (.inst as)) (l : as.length < 100) : SetA h a w (.ref x) (h.set x (.inst (kset as a w)))
inductive SlTo (sc : List Int) (h : MHeap) : MV → MV → MV → MHeap → Prop
  | script (k : Int) : SlTo sc h .script (.int k) (.ref h.next) (h.new (.list ((sc.take (clamp sc.length k)).map .int)))
  | list {i : Nat} {xs : List MV} (k : Int) (p : h.obj i = some (.list xs)) : SlTo sc h (.ref i) (.int k) (.ref h.next) (h.new (.list (xs.take (clamp xs.length k))))
inductive SlFrom (h : MHeap) : MV → MV → MV → MHeap → Prop
  | list {i : Nat} {xs : List MV} (k : Int) (p : h.obj i = some (.list xs)) : SlFrom h (.ref i) (.int k) (.ref h.next) (h.new (.list (xs.drop (clamp xs.length k))))
inductive Sl (h : MHeap) : MV → MV → MV → MV → MHeap → Prop
  | list {i : Nat} {xs : List MV} {j k : Nat} (p : h.obj i = some (.list xs)) (l : j ≤ k) (m : k ≤ xs.length) : Sl h (.ref i) (.int (j : Int)) (.int (k : Int)) (.ref h.next) (h.new (.list ((xs.drop j).take (k - j))))
noncomputable def rngL (lo hi : Int) : List MV := (List.range (hi - lo).toNat).map fun k : Nat => .int (lo + (k : Int))
inductive Items (h : MHeap) : MV → List MV → Prop
  | tup (xs : List MV) : Items h (.tup xs) xs
  | rng (lo hi : Int) : Items h (.rng lo hi) (rngL lo hi)
  | list {i : Nat} {xs : List MV} (p : h.obj i = some (.list xs)) : Items h (.ref i) xs
inductive ItemsL (h : MHeap) : MV → List MV → Prop
  | list {i : Nat} {xs : List MV} (p : h.obj i = some (.list xs)) : ItemsL h (.ref i) xs
noncomputable def enumL : Nat → List MV → List MV
  | _, [] => []
  | n, v :: r => .tup [.int n, v] :: enumL (n + 1) r
noncomputable def Vars.two (ρ : Vars) (x y : Nat) : MV → Vars
  | .tup [a, b] => (ρ.set x a).set y b
  | _ => ρ
noncomputable def compL (chk : HP) (cond : MV → PT Bool) (elt : MV → PT MV) : List MV → List MV → PT (List MV)
  | [], acc => fun Q h => chk h ∧ Q acc h
  | v :: r, acc => fun Q h => chk h ∧ cond v (fun b h => match b with
    | true => elt v (fun w h => acc.length < lenLine ∧ compL chk cond elt r (acc ++ [w]) Q h) h
    | false => compL chk cond elt r acc Q h) h
inductive PairQ (acc : List (Int × MV)) (Q : List (Int × MV) → Prop) : MV → MV → Prop
  | mk {i : Int} {w : MV} (l : acc.length < lenLine) (q : Q (kset acc i w)) : PairQ acc Q (.int i) w
noncomputable def dcompL (chk : HP) (ke ve : MV → PT MV) : List MV → List (Int × MV) → PT (List (Int × MV))
  | [], acc => fun Q h => chk h ∧ Q acc h
  | v :: r, acc => fun Q h => chk h ∧ ke v (fun k h => ve v (fun w h => PairQ acc (fun acc' => dcompL chk ke ve r acc' Q h) k w) h) h
noncomputable def forL (chk : HP) (body : MV → PS) : List MV → PS
  | [], Q, ρ, h => chk h ∧ Q .next ρ h
  | v :: r, Q, ρ, h => chk h ∧ body v (fun f ρ' h' => match f with
    | .next => forL chk body r Q ρ' h'
    | .cont => forL chk body r Q ρ' h'
    | .brk => Q .next ρ' h'
    | .ret w => Q (.ret w) ρ' h') ρ h
inductive If (v : MV) (P Q : Prop) : Prop
  | yes (e : v = .bool true) (p : P)
  | no (e : v = .bool false) (q : Q)
noncomputable def whileN (test : Vars → PT MV) (body : PS) : Nat → PS
  | 0, _, _, _ => False
  | n + 1, Q, ρ, h => test ρ (fun v h' => If v (body (fun f ρ' h'' => match f with
      | .next => whileN test body n Q ρ' h''
      | .cont => whileN test body n Q ρ' h''
      | .brk => Q .next ρ' h''
      | .ret w => Q (.ret w) ρ' h'') ρ h') (Q .next ρ h')) h
inductive Bui (h : MHeap) : MB → List MV → MV → MHeap → Prop
  | lenT (xs : List MV) : Bui h .len [.tup xs] (.int xs.length) h
  | lenL {i : Nat} {xs : List MV} (p : h.obj i = some (.list xs)) : Bui h .len [.ref i] (.int xs.length) h
  | abs (i : Int) : Bui h .abs [.int i] (.int i.natAbs) h
  | listT (xs : List MV) : Bui h .list [.tup xs] (.ref h.next) (h.new (.list xs))
  | listL {i : Nat} {xs : List MV} (p : h.obj i = some (.list xs)) : Bui h .list [.ref i] (.ref h.next) (h.new (.list xs))
  | tupL {i : Nat} {xs : List MV} (p : h.obj i = some (.list xs)) (f : xs.all MV.flat = true) : Bui h .tuple [.ref i] (.tup xs) h
  | dict {i : Nat} {es : List (Int × MV)} (p : h.obj i = some (.idict es)) : Bui h .dict [.ref i] (.ref h.next) (h.new (.idict es))
  | max {i : Nat} {is : List Int} {m : Int} (p : h.obj i = some (.list (is.map .int))) (e : m ∈ is) (l : ∀ a ∈ is, a ≤ m) : Bui h .max [.ref i] (.int m) h
  | lenS {i : Nat} {xs : List Int} (p : h.obj i = some (.set xs)) : Bui h .len [.ref i] (.int xs.length) h
  | set0 : Bui h .set [] (.ref h.next) (h.new (.set []))
  | setL {i : Nat} {is : List Int} (p : h.obj i = some (.list (is.map .int))) (l : is.length ≤ 40) : Bui h .set [.ref i] (.ref h.next) (h.new (.set (dedup is)))
  | setS {i : Nat} {xs : List Int} (p : h.obj i = some (.set xs)) : Bui h .set [.ref i] (.ref h.next) (h.new (.set xs))
  | maxS {i : Nat} {x : Int} (p : h.obj i = some (.set [x])) : Bui h .max [.ref i] (.int x) h
  | max2 (a b : Int) : Bui h .max [.int a, .int b] (.int (if b > a then b else a)) h
  | int (a : Int) : Bui h .int [.int a] (.int a) h
  | range1 {n : Int} (l : small n) : Bui h .range1 [.int n] (.rng 0 n) h
  | range2 {m n : Int} (l : small m) (l' : small n) : Bui h .range2 [.int m, .int n] (.rng m n) h
inductive DoB (h : MHeap) (Q : KV) : MB → List MV → Prop
  | of {b : MB} {vs : List MV} {u : MV} {h' : MHeap} (r : Bui h b vs u h') (q : Q u h') : DoB h Q b vs
  | sorted {i : Nat} {is : List Int} (p : h.obj i = some (.list (is.map .int))) (l : is.length < 64) (q : ∀ ys : List Int, ys.Perm is → ys.Pairwise (· ≤ ·) → Q (.ref h.next) (h.new (.list (ys.map .int)))) : DoB h Q .sorted [.ref i]
inductive MK where
  | list | dict
  | inst (f : Nat)
inductive Kind (P : MProg) (h : MHeap) (m : Nat) : MV → MK → Prop
  | list {i : Nat} {xs : List MV} (p : h.obj i = some (.list xs)) (l : m < 4) : Kind P h m (.ref i) .list
  | dict {i : Nat} {es : List (Int × MV)} (p : h.obj i = some (.idict es)) (l : m = 2 ∨ m = 4 ∨ m = 5) : Kind P h m (.ref i) .dict
  | inst {i : Nat} {as : List (Nat × MV)} {f : Nat} (p : h.obj i = some (.inst as)) (e : P.meths.lookup m = some f) : Kind P h m (.ref i) (.inst f)
inductive Meth (h : MHeap) : MK → Nat → MV → List MV → MV → MHeap → Prop
  | append {i : Nat} {xs : List MV} {w : MV} (p : h.obj i = some (.list xs)) (l : xs.length < lenLine) : Meth h .list 0 (.ref i) [w] .none (h.set i (.list (xs ++ [w])))
  | extend {i j : Nat} {xs ys : List MV} (p : h.obj i = some (.list xs)) (q : h.obj j = some (.list ys)) (l : xs.length + ys.length ≤ lenLine) : Meth h .list 1 (.ref i) [.ref j] .none (h.set i (.list (xs ++ ys)))
  | popL {i : Nat} {xs : List MV} {w : MV} (p : h.obj i = some (.list (xs ++ [w]))) : Meth h .list 2 (.ref i) [] w (h.set i (.list xs))
  | count {i : Nat} {is : List Int} (k : Int) (p : h.obj i = some (.list (is.map .int))) : Meth h .list 3 (.ref i) [.int k] (.int (is.count k)) h
  | get {i : Nat} {es : List (Int × MV)} (k : Int) (p : h.obj i = some (.idict es)) : Meth h .dict 4 (.ref i) [.int k] ((kget es k).getD .none) h
  | popD {i : Nat} {es : List (Int × MV)} {k : Int} {w : MV} {r : List MV} (p : h.obj i = some (.idict es)) (e : kget es k = some w) (l : r.length ≤ 1) : Meth h .dict 2 (.ref i) (.int k :: r) w (h.set i (.idict (kdel es k)))
  | popN {i : Nat} {es : List (Int × MV)} {k : Int} {w : MV} (p : h.obj i = some (.idict es)) (e : kget es k = none) : Meth h .dict 2 (.ref i) [.int k, w] w h
  | defS {i : Nat} {es : List (Int × MV)} {k : Int} {u w : MV} (p : h.obj i = some (.idict es)) (e : kget es k = some u) : Meth h .dict 5 (.ref i) [.int k, w] u h
  | defN {i : Nat} {es : List (Int × MV)} {k : Int} {w : MV} (p : h.obj i = some (.idict es)) (e : kget es k = none) (l : es.length < lenLine) : Meth h .dict 5 (.ref i) [.int k, w] w (h.set i (.idict (kset es k w)))
noncomputable def keysL (call : Nat → List MV → PT MV) (f : Nat) (o : MV) : List MV → PT (List Int)
  | [] => fun Q h => Q [] h
  | v :: r => fun Q h => call f [o, v] (fun k h => Yields (fun i => k = .int i) fun i => keysL call f o r (fun ks h => Q (i :: ks) h) h) h
inductive SortA (h : MHeap) (Q : KV) : MV → Prop
  | mk {i : Nat} {es : List (Int × MV)} (p : h.obj i = some (.idict es)) (l : es.length < 64) (q : ∀ ys : List Int, ys.Perm (es.map (·.1)) → ys.Pairwise (fun a b => a.natAbs ≤ b.natAbs) → Q (.ref h.next) (h.new (.list (ys.map .int)))) : SortA h Q (.ref i)
inductive SortK (P : MProg) (call : Nat → List MV → PT MV) (h : MHeap) (m : Nat) (Q : KV) : MV → MV → Prop
  | mk {i f : Nat} {xs : List MV} {u : MV} (p : h.obj i = some (.list xs)) (k : Kind P h m u (.inst f)) (l : xs.length < 64)
    (q : keysL call f u xs (fun ks h => ∀ ps : List (Int × MV), ps.Perm (ks.zip xs) → ps.Pairwise (fun a b => b.1 ≤ a.1) → Q (.ref h.next) (h.new (.list (ps.map (·.2))))) h) : SortK P call h m Q (.ref i) u
structure Lg where
  P : MProg
  sc : List Int
  call : Nat → List MV → PT MV
inductive Neg : MV → MV → Prop
  | mk (i : Int) : Neg (.int i) (.int (-i))
noncomputable def doM (L : Lg) (h : MHeap) (v : MV) (m : Nat) (vs : List MV) (Q : KV) : MK → Prop
  | .inst f => L.call f (v :: vs) Q h
  | k => Via (Meth h k m v vs) Q
section
variable (L : Lg)
mutual
noncomputable def ev : ME → Vars → Bool → PT MV
  | .none, _, t => fun Q h => fin t Q .none h
  | .bool b, _, t => fun Q h => fin t Q (.bool b) h
  | .int i, _, t => fun Q h => fin t Q (.int i) h
  | .str s, _, t => fun Q h => fin t Q (.str s) h
  | .var x, ρ, t => fun Q h => Yields (fun v => ρ x = some v) fun v => fin t Q v h
  | .glob i, _, t => fun Q h => fin t Q (.int i) h
  | .attr e a, ρ, t => fun Q h => ev e ρ false (fun v h => Yields (GetA h v a) fun w => fin t Q w h) h
  | .bin op l r, ρ, t => fun Q h => ev l ρ false (fun v h => ev r ρ false (fun w h => Via (Bin h op v w) (fin t Q)) h) h
  | .neg e, ρ, t => fun Q h => ev e ρ false (fun v h => Yields (Neg v) fun w => fin t Q w h) h
  | .not e, ρ, t => fun Q h => ev e ρ t (fun v h => Yields (Tru v) fun b => Q (.bool (!b)) h) h
  | .cmp op l r, ρ, _ => fun Q h => ev l ρ false (fun v h => ev r ρ false (fun w h => Yields (Cmp h op v w) fun b => Q (.bool b) h) h) h
  | .and es, ρ, t => evB es ρ true t
  | .or es, ρ, t => evB es ρ false t
  | .ite c a b, ρ, t => fun Q h => ev c ρ true (fun v h => If v (ev a ρ t Q h) (ev b ρ t Q h)) h
  | .sub e i, ρ, t => fun Q h => ev e ρ false (fun v h => ev i ρ false (fun w h => Yields (GetI h v w) fun u => fin t Q u h) h) h
  | .sliceTo e i, ρ, t => fun Q h => ev e ρ false (fun v h => ev i ρ false (fun w h => Via (SlTo L.sc h v w) (fin t Q)) h) h
  | .sliceFrom e i, ρ, t => fun Q h => ev e ρ false (fun v h => ev i ρ false (fun w h => Via (SlFrom h v w) (fin t Q)) h) h
  | .slice e i j, ρ, t => fun Q h => ev e ρ false (fun v h => ev i ρ false (fun w h => ev j ρ false (fun u h => Via (Sl h v w u) (fin t Q)) h) h) h
  | .list es, ρ, t => fun Q h => evL es ρ (fun vs h => vs.length ≤ 100 ∧ fin t Q (.ref h.next) (h.new (.list vs))) h
  | .tup es, ρ, t => fun Q h => evL es ρ (fun vs h => vs.length ≤ 100 ∧ vs.all MV.flat = true ∧ fin t Q (.tup vs) h) h
  | .dict0, _, t => fun Q h => fin t Q (.ref h.next) (h.new (.idict []))
  | .dict2 k e k' e', ρ, t => fun Q h => ev e ρ false (fun v h => ev e' ρ false (fun w h => fin t Q (.ref h.next) (h.new (.sdict [(k, v), (k', w)]))) h) h
  | .callF f es, ρ, t => fun Q h => evL es ρ (fun vs h => L.call f vs (fin t Q) h) h
  | .callM o m es, ρ, t => fun Q h => ev o ρ false (fun v h => Yields (Kind L.P h m v) fun k => evL es ρ (fun vs h => doM L h v m vs (fin t Q) k) h) h
  | .callB b es, ρ, t => fun Q h => evL es ρ (fun vs h => DoB h (fin t Q) b vs) h
  | .new es, ρ, t => fun Q h => evL es ρ (fun vs h => L.call L.P.init (.ref h.next :: vs) (fun r h' => r = .none ∧ fin t Q (.ref h.next) h') (h.new (.inst []))) h
  | .comp elt x it cond, ρ, t => fun Q h => ev it ρ false (fun s h => Yields (Items h s) fun xs =>
      compL (fun h => Items h s xs) (fun v => evC cond (Vars.set ρ x v)) (fun v => ev elt (Vars.set ρ x v) false) xs [] (fun ys h => fin t Q (.ref h.next) (h.new (.list ys))) h) h
  | .dcomp k w x it, ρ, t => fun Q h => ev it ρ false (fun s h => Yields (Items h s) fun xs =>
      dcompL (fun h => Items h s xs) (fun v => ev k (Vars.set ρ x v) false) (fun v => ev w (Vars.set ρ x v) false) xs [] (fun es h => fin t Q (.ref h.next) (h.new (.idict es))) h) h
  | .sortAbs e, ρ, t => fun Q h => ev e ρ false (fun v h => SortA h (fin t Q) v) h
  | .sortKeyRev e o m, ρ, t => fun Q h => ev e ρ false (fun v h => ev o ρ false (fun u h => SortK L.P L.call h m (fin t Q) v u) h) h
noncomputable def evL : MEs → Vars → PT (List MV)
  | .nil, _ => fun Q h => Q [] h
  | .cons e es, ρ => fun Q h => ev e ρ false (fun v h => evL es ρ (fun vs h => Q (v :: vs) h) h) h
noncomputable def evB : MEs → Vars → Bool → Bool → PT MV
  | .nil, _, _, _ => fun _ _ => False
  | .cons e .nil, ρ, _, t => ev e ρ t
  | .cons e (.cons i es), ρ, isAnd, t => fun Q h => ev e ρ t (fun v h => If v (match isAnd with | true => evB (.cons i es) ρ isAnd t Q h | false => Q (.bool true) h) (match isAnd with | true => Q (.bool false) h | false => evB (.cons i es) ρ isAnd t Q h)) h
noncomputable def evC : MEs → Vars → PT Bool
  | .nil, _ => fun Q h => Q true h
  | .cons e es, ρ => fun Q h => ev e ρ true (fun v h => If v (evC es ρ Q h) (Q false h)) h
end
noncomputable def asg : MT → MV → (Vars → HP) → Vars → HP
  | .var x, v, Q, ρ, h => Q (Vars.set ρ x v) h
  | .attr o a, v, Q, ρ, h => ev L o ρ false (fun u h => Alt (SetA h a v u) fun h => Q ρ h) h
  | .sub o i, v, Q, ρ, h => ev L o ρ false (fun u h => ev L i ρ false (fun k h => Alt (SetI h v u k) fun h => Q ρ h) h) h
noncomputable def asgL : List MT → List MV → (Vars → HP) → Vars → HP
  | [], [], Q, ρ, h => Q ρ h
  | t :: ts, v :: vs, Q, ρ, h => asg L t v (fun ρ h => asgL ts vs Q ρ h) ρ h
  | _, _, _, _, _ => False
mutual
noncomputable def ex : MS → PS
  | .assign t e, Q, ρ, h => ev L e ρ false (fun v h => asg L t v (fun ρ h => Q .next ρ h) ρ h) h
  | .assigns ts es, Q, ρ, h => evL L es ρ (fun vs h => vs.length ≤ 100 ∧ vs.length = ts.length ∧ asgL L ts vs (fun ρ h => Q .next ρ h) ρ h) h
  | .expr e, Q, ρ, h => ev L e ρ false (fun _ h => Q .next ρ h) h
  | .ite t a b, Q, ρ, h => ev L t ρ true (fun v h => If v (exs a Q ρ h) (exs b Q ρ h)) h
  | .while t b, Q, ρ, h => ∃ n, whileN (fun ρ => ev L t ρ true) (exs b) n Q ρ h
  | .for x it b, Q, ρ, h => ev L it ρ false (fun s h => Yields (Items h s) fun xs => forL (fun h => Items h s xs) (fun v Q ρ h => exs b Q (Vars.set ρ x v) h) xs Q ρ h) h
  | .forE x y it b, Q, ρ, h => ev L it ρ false (fun s h => Yields (ItemsL h s) fun xs => forL (fun h => ItemsL h s xs) (fun v Q ρ h => exs b Q (Vars.two ρ x y v) h) (enumL 0 xs) Q ρ h) h
  | .ret e, Q, ρ, h => ev L e ρ false (fun v h => Q (.ret v) ρ h) h
  | .retNone, Q, ρ, h => Q (.ret .none) ρ h
  | .brk, Q, ρ, h => Q .brk ρ h
  | .cont, Q, ρ, h => Q .cont ρ h
  | .bad, _, _, _ => False
noncomputable def exs : MSs → PS
  | .nil, Q, ρ, h => Q .next ρ h
  | .cons s r, Q, ρ, h => ex s (fun f ρ h => match f with
    | .next => exs r Q ρ h
    | f => Q f ρ h) ρ h
end
end
noncomputable def bindV (args : List MV) : Vars := fun i => args[i]?
noncomputable def retQ (Q : KV) : KF
  | .ret v, _, h => Q v h
  | .next, _, h => Q .none h
  | _, _, _ => False
inductive SupQ (call : Nat → List MV → PT MV) (Q : HP) (h : MHeap) (g : Nat) : List MV → Prop
  | mk {i : Nat} {as : List (Nat × MV)} {r : List MV} (p : h.obj i = some (.inst as)) (q : call g [.ref i] (fun _ h => Q h) h) : SupQ call Q h g (.ref i :: r)
noncomputable def supD (call : Nat → List MV → PT MV) (args : List MV) (Q : HP) (h : MHeap) : Option Nat → Prop
  | none => Q h
  | some g => SupQ call Q h g args
noncomputable def callD (P : MProg) (sc : List Int) : Nat → Nat → List MV → PT MV
  | 0, _, _ => fun _ _ => False
  | d + 1, f, args => fun Q h => Yields (fun fn => P.fns[f]? = some fn) fun fn =>
      fn.npar = args.length ∧ supD (callD P sc d) args (fun h => exs ⟨P, sc, callD P sc d⟩ fn.body (retQ Q) (bindV args) h) h fn.sup
noncomputable abbrev lg (P : MProg) (sc : List Int) (d : Nat) : Lg := ⟨P, sc, callD P sc d⟩
end Mini
end
section
namespace Mini
open PySem PySem.W PyProof.Rows
theorem ff {P : Prop} (h : false = true) : P := Bool.noConfusion h
theorem ns {α : Type} {x : α} {P : Prop} (h : none = some x) : P := nomatch h
set_option genInjectivity false
structure Tab where
  strTab : List Str
  fnTab : List Str
  globTab : List (Str × Int)
  attrTab : List Nat
  cname : Str
structure Wd where
  prog : Program
  w : World
  B : Heap
  K : Frag
  T : Tab
  P : MProg
  script : List Int
  scriptAt : Addr
  C : Addr
  faddr : Nat → Addr
  mg : Str → Option Value
  mb : Str → Option Value
noncomputable abbrev Wd.M (W : Wd) := model W.prog W.w
structure Cell where
  a : Addr
  d : Addr
noncomputable abbrev Cells := List Cell
noncomputable def Cell.own (c : Cell) : List Addr := if c.a = c.d then [c.a] else [c.a, c.d]
noncomputable def owned (ρ : Cells) : List Addr := ρ.flatMap Cell.own
theorem owned_append (ρ σ : Cells) : owned (ρ ++ σ) = owned ρ ++ owned σ := List.flatMap_append
theorem mem_own {c : Cell} {b : Addr} : b ∈ c.own ↔ b = c.a ∨ b = c.d := by
  unfold Cell.own; split
  · rename_i h; rw [← h, or_self]; exact List.mem_singleton
  · rw [List.mem_cons, List.mem_singleton]
theorem own_a (c : Cell) : c.a ∈ c.own := mem_own.mpr (.inl rfl)
theorem own_d (c : Cell) : c.d ∈ c.own := mem_own.mpr (.inr rfl)
theorem owned_one (c : Cell) : owned [c] = c.own := List.append_nil _
theorem mem_owned {ρ : Cells} {c : Cell} {i : Nat} {b : Addr} (h : ρ[i]? = some c) (hb : b ∈ c.own) : b ∈ owned ρ :=
  List.mem_flatMap.mpr ⟨c, List.mem_of_getElem? h, hb⟩
theorem nodup_own {ρ : Cells} (hn : (owned ρ).Nodup) {i j : Nat} {c c' : Cell} (hi : ρ[i]? = some c) (hj : ρ[j]? = some c') (hij : i ≠ j) : ∀ a ∈ c.own, a ∉ c'.own := by
  induction ρ generalizing i j with
  | nil => exact ns (List.getElem?_nil.symm.trans hi)
  | cons d r ih =>
    have hn : (d.own ++ owned r).Nodup := hn
    rw [List.nodup_append] at hn
    intro a ha hb
    rcases i with _ | i
    · rcases j with _ | j
      · exact hij rfl
      · exact hn.2.2 a (Option.some.inj hi ▸ ha) a (mem_owned hj hb) rfl
    · rcases j with _ | j
      · exact hn.2.2 a (Option.some.inj hj ▸ hb) a (mem_owned hi ha) rfl
      · exact ih hn.2.1 hi hj (fun e => hij (congrArg _ e)) a ha hb
noncomputable def setD : Data → Bool
  | .dict .. => false
  | .cell .. => false
  | _ => true
noncomputable def setC : Value → Bool
  | .type "tuple" => true
  | .type "range" => true
  | _ => false
structure Frozen (o : Obj) : Prop where
  c : setC o.cls = true
  d : setD o.data = true
theorem nf_c {o : Obj} (e : setC o.cls = false) (f : Frozen o) : False := ff (e.symm.trans f.c)
theorem nf_d {o : Obj} (e : setD o.data = false) (f : Frozen o) : False := ff (e.symm.trans f.d)
theorem mem_of_look {α β : Type} [BEq α] [LawfulBEq α] {l : List (α × β)} {a : α} {b : β} (h : l.lookup a = some b) : (a, b) ∈ l := by
  induction l with
  | nil => exact ns h
  | cons p r ih =>
    obtain ⟨k, v⟩ := p
    rw [List.lookup_cons] at h
    by_cases q : (a == k) = true
    · rw [q] at h
      rw [eq_of_beq q, ← Option.some.inj h]; exact .head _
    · rw [Bool.eq_false_iff.mpr q] at h
      exact .tail _ (ih h)
inductive All2 {α β : Type} (R : α → β → Prop) : List α → List β → Prop
  | nil : All2 R [] []
  | cons {a : α} {b : β} {r : List α} {s : List β} (h : R a b) (t : All2 R r s) : All2 R (a :: r) (b :: s)
inductive IsInt (i : Int) : Value → Prop
  | mk (t : Tok) : IsInt i (.int i t)
noncomputable def byText (w : World) : Bool := w.params.followText "set-order"
inductive ElemAt (k : Int) : Int × Value → Prop
  | mk (t : Tok) : ElemAt k (hashInt k, .int k t)
inductive KeysOf (xs : List Int) (es : List (Int × Value)) : Prop
  | mk {ks : List Int} (r : All2 ElemAt ks es) (p : ks.Perm xs) : KeysOf xs es
noncomputable abbrev setObj (es : Array (Int × Value)) (ep : Nat) (t : SetTable) : Obj := { cls := .type "set", dict := none, data := .set es ep t }
structure TabOk (w : World) (t : SetTable) (n : Nat) : Prop where
  fits : t.fits n = true
  led : t.led = !byText w
  clean : t.dummies = #[]
inductive IsSet (w : World) (h : Heap) (a : Addr) (xs : List Int) : Prop
  | mk {es : Array (Int × Value)} {ep : Nat} {t : SetTable} (g : h.get? a = some (setObj es ep t)) (k : KeysOf xs es.toList) (T : TabOk w t es.size) (nd : xs.Nodup) (l : xs.length ≤ 40) : IsSet w h a xs
section
variable {w : World} {h h' : Heap} {a : Addr} {xs : List Int}
theorem IsSet.keep (S : IsSet w h a xs) (e : ∀ o, h.get? a = some o → h'.get? a = some o) : IsSet w h' a xs := by
  induction S with | mk g K T nd l => exact .mk (e _ g) K T nd l
theorem IsSet.lives0 (S : IsSet w h a xs) : ∃ o, h.get? a = some o ∧ setC o.cls = false := by induction S with | mk g K T nd l => exact ⟨_, g, rfl⟩
end
section
variable (W : Wd) (ρ : Cells) (h : Heap)
noncomputable def isStrs (s : Nat) (x : Str) : Prop := W.T.strTab[s]? = some x
inductive IsStr (s : Nat) : Value → Prop
  | mk {x : Str} (t : Tok) (e : isStrs W s x) : IsStr s (.str x t)
inductive IsRng (lo hi : Int) : Value → Prop
  | mk {a : Addr} {x y z : Tok} (r : IsRange h a lo hi 1 x y z) (l : small lo) (l' : small hi) : IsRng lo hi (.ref a)
inductive IsRef (i : Nat) : Value → Prop
  | mk {c : Cell} (e : ρ[i]? = some c) : IsRef i (.ref c.a)
noncomputable def FRel : MV → Value → Prop
  | .none, v => v = .none
  | .bool b, v => v = .bool b
  | .int i, v => IsInt i v
  | .str s, v => IsStr W s v
  | .tup _, _ => False
  | .rng lo hi, v => IsRng h lo hi v
  | .script, v => v = .ref W.scriptAt
  | .ref i, v => IsRef ρ i v
inductive IsTup (vs : List MV) : Value → Prop
  | mk {a : Addr} {its : Array Value} {n : Nat} (g : h.get? a = some { cls := .type "tuple", data := .seq its n }) (r : All2 (FRel W ρ h) vs its.toList) (l : vs.length ≤ lenLine) : IsTup vs (.ref a)
noncomputable def VRel : MV → Value → Prop
  | .tup vs, v => IsTup W ρ h vs v
  | .none, v => v = .none
  | .bool b, v => v = .bool b
  | .int i, v => IsInt i v
  | .str s, v => IsStr W s v
  | .rng lo hi, v => IsRng h lo hi v
  | .script, v => v = .ref W.scriptAt
  | .ref i, v => IsRef ρ i v
noncomputable abbrev VRels := All2 (VRel W ρ h)
noncomputable def KRel {κ κ' : Type} (nm : κ → κ' → Prop) : List (κ × MV) → List (κ' × Value) → Prop := All2 fun p q => nm p.1 q.1 ∧ VRel W ρ h p.2 q.2
inductive AtE (p : Nat × MV) : DictEntry → Prop
  | mk {nm : Str} {v : Value} (hs : Int) (t : Tok) (n : isStrs W p.1 nm) (r : VRel W ρ h p.2 v) : AtE p ⟨hs, .str nm t, v⟩
noncomputable def ARel : List (Nat × MV) → List DictEntry → Prop := All2 (AtE W ρ h)
inductive LRel (xs : List MV) (c : Cell) : Prop
  | mk {its : Array Value} {n : Nat} (d : c.d = c.a) (g : h.get? c.a = some (listOf its n)) (r : VRels W ρ h xs its.toList) (l : xs.length ≤ lenLine)
inductive DRel {κ κ' : Type} [DecidableEq κ'] (knd : KeyKind W.prog W.w κ') (nm : κ → κ' → Prop) (es : List (κ × MV)) (c : Cell) : Prop
  | mk {kvs : List (κ' × Value)} (d : c.d = c.a) (g : h.DictOf knd c.a kvs) (r : KRel W ρ h nm es kvs) (l : es.length ≤ lenLine)
inductive NRel (as : List (Nat × MV)) (c : Cell) : Prop
  | mk {es : List DictEntry} {n : Nat} (d : c.d ≠ c.a) (g : h.get? c.a = some (instObj W.C c.d)) (g' : h.get? c.d = some (dictOf es n)) (r : ARel W ρ h as es) (l : as.length ≤ 100) (al : ∀ e ∈ as, e.1 ∈ W.T.attrTab)
inductive SRel (xs : List Int) (c : Cell) : Prop
  | mk (d : c.d = c.a) (s : IsSet W.w h c.a xs)
noncomputable def ORel : MObj → Cell → Prop
  | .list xs, c => LRel W ρ h xs c
  | .idict es, c => DRel W ρ h (intKind W.prog W.w) Eq es c
  | .sdict es, c => DRel W ρ h (strKind W.prog W.w) (isStrs W) es c
  | .inst as, c => NRel W ρ h as c
  | .set xs, c => SRel W h xs c
end
noncomputable def Above (h : Heap) (a : Addr) : Prop := ∀ b o, h.get? b = some o → b < a
theorem Above.no {h : Heap} {a : Addr} {o : Obj} (x : Above h a) (e : h.get? a = some o) : False := Nat.lt_irrefl _ (x a o e)
theorem above_size (h : Heap) {a : Addr} (e : h.objs.size ≤ a) : Above h a := fun b o q => Nat.lt_of_lt_of_le (Heap.lt_size q) e
noncomputable def Alive (h h' : Heap) : Prop := ∀ b o, h.get? b = some o → ∃ o', h'.get? b = some o'
theorem Above.back {h h' : Heap} {a : Addr} (x : Above h' a) (l : Alive h h') : Above h a := fun b o e => let ⟨o', e'⟩ := l b o e; x b o' e'
noncomputable def Ext (h h' : Heap) : Prop := ∀ b o, h.get? b = some o → h'.get? b = some o
theorem Ext.refl (h : Heap) : Ext h h := fun _ _ e => e
theorem Ext.trans {h h' h'' : Heap} (x : Ext h h') (y : Ext h' h'') : Ext h h'' := fun b o e => y b o (x b o e)
theorem Ext.push (h : Heap) (o : Obj) : Ext h (h.push o) := fun _ _ e => Heap.get?_push_of_some _ e
theorem Ext.alive {h h' : Heap} (x : Ext h h') : Alive h h' := fun b o e => ⟨o, x b o e⟩
structure Stay (ρ : Cells) (h : Heap) (ρ' : Cells) (h' : Heap) : Prop where
  at_ : ∀ {i : Nat} {c : Cell}, ρ[i]? = some c → ρ'[i]? = some c
  froz : ∀ b o, h.get? b = some o → Frozen o → h'.get? b = some o
theorem Ext.stay {h h' : Heap} (x : Ext h h') {ρ : Cells} : Stay ρ h ρ h' := ⟨fun e => e, fun b o e _ => x b o e⟩
section
variable {α β : Type} {R R' : α → β → Prop} {xs : List α} {vs : List β}
theorem All2.imp (f : ∀ a b, R a b → R' a b) (r : All2 R xs vs) : All2 R' xs vs := by
  induction r with
  | nil => exact .nil
  | cons h t ih => exact .cons (f _ _ h) ih
theorem All2.length (r : All2 R xs vs) : vs.length = xs.length := by
  induction r with
  | nil => rfl
  | cons h t ih => exact congrArg (· + 1) ih
theorem All2.append {ys : List α} {us : List β} (q : All2 R ys us) (r : All2 R xs vs) : All2 R (xs ++ ys) (vs ++ us) := by
  induction r with
  | nil => exact q
  | cons h t ih => exact .cons h ih
theorem All2.get {i : Nat} {x : α} (r : All2 R xs vs) (e : xs[i]? = some x) : ∃ v, vs[i]? = some v ∧ R x v := by
  induction r generalizing i with
  | nil => exact ns (List.getElem?_nil.symm.trans e)
  | cons h t ih =>
    rcases i with _ | i
    · exact ⟨_, rfl, Option.some.inj e ▸ h⟩
    · exact ih (i := i) e
theorem All2.take (n : Nat) (r : All2 R xs vs) : All2 R (xs.take n) (vs.take n) := by
  induction r generalizing n with
  | nil => rw [List.take_nil, List.take_nil]; exact .nil
  | cons h t ih =>
    rcases n with _ | n
    · exact .nil
    · exact .cons h (ih n)
theorem All2.drop (n : Nat) (r : All2 R xs vs) : All2 R (xs.drop n) (vs.drop n) := by
  induction r generalizing n with
  | nil => rw [List.drop_nil, List.drop_nil]; exact .nil
  | cons h t ih =>
    rcases n with _ | n
    · exact .cons h t
    · exact ih n
theorem All2.set {y : α} {u : β} (b : R y u) (n : Nat) (r : All2 R xs vs) : All2 R (xs.set n y) (vs.set n u) := by
  induction r generalizing n with
  | nil => exact .nil
  | cons h t ih =>
    rcases n with _ | n
    · exact .cons b t
    · exact .cons h (ih n)
@[elab_as_elim] theorem All2.nilE {P : List β → Prop} (r : All2 R [] vs) (k : P []) : P vs := by cases r; exact k
@[elab_as_elim] theorem All2.consE {P : List β → Prop} {x : α} (r : All2 R (x :: xs) vs) (k : ∀ v s, R x v → All2 R xs s → P (v :: s)) : P vs := by cases r with | cons h t => exact k _ _ h t
theorem All2.one {y : α} {u : β} (b : R y u) : All2 R [y] [u] := .cons b .nil
end
section
variable {W : Wd} {ρ ρ' : Cells} {h h' : Heap}
theorem FRel.up {x : MV} {v : Value} (r : FRel W ρ h x v) : VRel W ρ h x v := by
  rcases x with _ | _ | _ | _ | _ | _ | _ | _ <;> first | exact r | exact r.elim
theorem IsRng.stay (S : Stay ρ h ρ' h') {lo hi : Int} {v : Value} (r : IsRng h lo hi v) : IsRng h' lo hi v := by
  induction r with | mk r l l' => exact .mk (S.froz _ _ r ⟨rfl, rfl⟩) l l'
theorem IsRef.stay (S : Stay ρ h ρ' h') {i : Nat} {v : Value} (r : IsRef ρ i v) : IsRef ρ' i v := by
  induction r with | mk e => exact .mk (S.at_ e)
theorem FRel.stay (S : Stay ρ h ρ' h') {x : MV} {v : Value} (r : FRel W ρ h x v) : FRel W ρ' h' x v := by
  rcases x with _ | _ | _ | _ | _ | _ | _ | _ <;> first | exact IsRef.stay S r | exact IsRng.stay S r | exact r
theorem IsTup.stay (S : Stay ρ h ρ' h') {vs : List MV} {v : Value} (r : IsTup W ρ h vs v) : IsTup W ρ' h' vs v := by
  induction r with | mk g r l => exact .mk (S.froz _ _ g ⟨rfl, rfl⟩) (r.imp fun _ _ => FRel.stay S) l
theorem VRel.stay (S : Stay ρ h ρ' h') {x : MV} {v : Value} (r : VRel W ρ h x v) : VRel W ρ' h' x v := by
  rcases x with _ | _ | _ | _ | _ | _ | _ | _ <;> first | exact IsRef.stay S r | exact IsTup.stay S r | exact IsRng.stay S r | exact r
theorem VRels.stay (S : Stay ρ h ρ' h') {xs : List MV} {vs : List Value} (r : VRels W ρ h xs vs) : VRels W ρ' h' xs vs := r.imp fun _ _ => VRel.stay S
theorem KRel.stay {κ κ' : Type} {nm : κ → κ' → Prop} (S : Stay ρ h ρ' h') {es : List (κ × MV)} {l : List (κ' × Value)} (r : KRel W ρ h nm es l) : KRel W ρ' h' nm es l := r.imp fun _ _ q => ⟨q.1, q.2.stay S⟩
theorem ARel.stay (S : Stay ρ h ρ' h') {es : List (Nat × MV)} {l : List DictEntry} (r : ARel W ρ h es l) : ARel W ρ' h' es l := r.imp fun _ _ q => by
  induction q with | mk hs t n r => exact .mk hs t n (r.stay S)
noncomputable def Kept (c : Cell) (h h' : Heap) : Prop := ∀ a ∈ c.own, ∀ x, h.get? a = some x → h'.get? a = some x
theorem DRel.stay {κ κ' : Type} [DecidableEq κ'] {knd : KeyKind W.prog W.w κ'} {nm : κ → κ' → Prop} {es : List (κ × MV)} {c : Cell} (S : Stay ρ h ρ' h') (k : Kept c h h') (R : DRel W ρ h knd nm es c) : DRel W ρ' h' knd nm es c := by
  induction R with | mk d g r l => exact .mk d (by obtain ⟨o, x, y, g, z⟩ := g; exact ⟨o, x, y, k _ (own_a c) _ g, z⟩) (r.stay S) l
theorem ORel.stay {o : MObj} {c : Cell} (S : Stay ρ h ρ' h') (k : Kept c h h') (R : ORel W ρ h o c) : ORel W ρ' h' o c := by
  rcases o with xs | es | es | as | xs
  · have R : LRel W ρ h xs c := R
    induction R with | mk d g r l => exact LRel.mk d (k _ (own_a c) _ g) (VRels.stay S r) l
  · exact DRel.stay S k R
  · exact DRel.stay S k R
  · have R : NRel W ρ h as c := R
    induction R with | mk d g g' r l al => exact NRel.mk d (k _ (own_a c) _ g) (k _ (own_d c) _ g') (r.stay S) l al
  · have R : SRel W h xs c := R
    induction R with | mk d s => exact SRel.mk d (s.keep (k _ (own_a c)))
inductive Lives (h : Heap) (a : Addr) : Prop
  | mk {x : Obj} (e : h.get? a = some x) (f : ¬ Frozen x)
theorem setC_type {x : Value} {T : String} (e : x = .type T) (h : setC (.type T) = false) : setC x = false := by rw [e]; exact h
theorem DictOf.lives {κ : Type} [DecidableEq κ] {knd : KeyKind W.prog W.w κ} {a : Addr} {kvs : List (κ × Value)} (d : h.DictOf knd a kvs) : Lives h a := by
  obtain ⟨_, _, _, g, x⟩ := d
  exact .mk g (nf_c (setC_type x.1.1 rfl))
theorem Lives.own {c : Cell} {a : Addr} (ha : a ∈ c.own) (e : c.d = c.a) (q : Lives h c.a) : Lives h a := by
  rw [mem_own, e, or_self] at ha; rw [ha]; exact q
theorem ORel.live {o : MObj} {c : Cell} (R : ORel W ρ h o c) (a : Addr) (ha : a ∈ c.own) : Lives h a := by
  rcases o with xs | es | es | as | xs
  · have R : LRel W ρ h xs c := R
    induction R with | mk d g r l => exact .own ha d (.mk g (nf_c rfl))
  · have R : DRel W ρ h _ _ es c := R
    induction R with | mk d g r l => exact .own ha d (DictOf.lives g)
  · have R : DRel W ρ h _ _ es c := R
    induction R with | mk d g r l => exact .own ha d (DictOf.lives g)
  · have R : NRel W ρ h as c := R
    induction R with | mk d g g' r l al =>
    rcases mem_own.mp ha with rfl | rfl
    · exact .mk g (nf_c rfl)
    · exact .mk g' (nf_d rfl)
  · have R : SRel W h xs c := R
    induction R with | mk d s => obtain ⟨o, g, e⟩ := s.lives0; exact .own ha d (.mk g (nf_c e))
end
end Mini
end
section
namespace Mini
open PySem PySem.W PyProof.Rows
section
variable {prog : Program} {w : World} {A : Around} {E : Value → Shared → Prop} {s : Shared} {h h' : Heap} {a : Addr} {xs : List Int} {k : Int} {t : Tok}
theorem All2.perm {α β : Type} {R : α → β → Prop} {vs us : List β} (p : us.Perm vs) {xs : List α} (r : All2 R xs vs) : ∃ ys, ys.Perm xs ∧ All2 R ys us := by
  induction p generalizing xs with
  | nil => exact ⟨xs, .refl _, r⟩
  | cons x _ ih =>
    cases r with
    | cons q t =>
      obtain ⟨ys, p, r⟩ := ih t
      exact ⟨_ :: ys, p.cons _, .cons q r⟩
  | swap x y l =>
    cases r with
    | cons q t => cases t with | cons q' t => exact ⟨_, .swap _ _ _, .cons q' (.cons q t)⟩
  | trans _ _ ih1 ih2 =>
    obtain ⟨ys, p, r⟩ := ih2 r
    obtain ⟨zs, p', r⟩ := ih1 r
    exact ⟨zs, p'.trans p, r⟩
theorem KeysOf.perm {es es' : List (Int × Value)} (K : KeysOf xs es) (p : es'.Perm es) : KeysOf xs es' := by
  induction K with
  | mk r q =>
    obtain ⟨ys, p', r⟩ := All2.perm p r
    exact .mk r (p'.trans q)
theorem KeysOf.length {es : List (Int × Value)} (K : KeysOf xs es) : es.length = xs.length := by
  induction K with | mk r q => exact r.length.trans q.length_eq
theorem KeysOf.push {es : List (Int × Value)} (K : KeysOf xs es) : KeysOf (xs ++ [k]) (es ++ [(hashInt k, .int k t)]) := by
  induction K with | mk r q => exact .mk (All2.append (All2.one (.mk t)) r) (q.append_right _)
theorem All2.mem_left {α β : Type} {R : α → β → Prop} {vs : List β} {xs : List α} (r : All2 R xs vs) {x : α} (h : x ∈ xs) : ∃ v ∈ vs, R x v := by
  induction r with
  | nil => exact absurd h List.not_mem_nil
  | cons q t ih => exact (List.mem_cons.mp h).elim (fun e => ⟨_, .head _, e ▸ q⟩) fun m => let ⟨v, hv, q⟩ := ih m; ⟨v, .tail _ hv, q⟩
theorem All2.mem_right {α β : Type} {R : α → β → Prop} {vs : List β} {xs : List α} (r : All2 R xs vs) {v : β} (h : v ∈ vs) : ∃ x ∈ xs, R x v := by
  induction r with
  | nil => exact absurd h List.not_mem_nil
  | cons q t ih => exact (List.mem_cons.mp h).elim (fun e => ⟨_, .head _, e ▸ q⟩) fun m => let ⟨x, hx, q⟩ := ih m; ⟨x, .tail _ hx, q⟩
theorem elem_is {e : Int × Value} (q : ElemAt k e) : (intKind prog w).is k e.2 = true ∧ e.1 = (intKind prog w).hash k ∧ e.2.scannable = true := by
  induction q with | mk t => exact ⟨intKind_is _ _ _ t, rfl, rfl⟩
theorem KeysOf.elems {es : List (Int × Value)} (K : KeysOf xs es) : ElemsOf (intKind prog w) es := fun e he => by
  induction K with
  | mk r q =>
    obtain ⟨k, _, q⟩ := r.mem_right he
    have z := elem_is (prog := prog) (w := w) q
    exact ⟨⟨k, z.1, z.2.1⟩, z.2.2⟩
theorem KeysOf.mem {es : List (Int × Value)} (K : KeysOf xs es) : k ∈ xs ↔ ∃ e ∈ es, (intKind prog w).is k e.2 = true := by
  induction K with
  | mk r q =>
    constructor
    · intro m
      obtain ⟨v, hv, z⟩ := r.mem_left (q.mem_iff.mpr m)
      exact ⟨v, hv, (elem_is z).1⟩
    · rintro ⟨e, he, z⟩
      obtain ⟨k', hk, z'⟩ := r.mem_right he
      exact ((intKind prog w).inj _ _ _ z (elem_is z').1) ▸ q.mem_iff.mp hk
theorem IsSet.setOf (S : IsSet w h a xs) : h.SetOf (intKind prog w) a (fun k => decide (k ∈ xs)) xs.length := by
  induction S with
  | mk g K T nd l =>
    have e := K.length
    rw [Array.length_toList] at e
    exact ⟨_, _, _, _, g, ⟨rfl, rfl, rfl⟩, rfl, K.elems, fun k => decide_eq_true_iff.trans K.mem, e ▸ Nat.lt_of_le_of_lt l (by decide), T.fits, e⟩
theorem orStand_ok {t : SetTable} {n : Nat} (l : t.led = !byText w) (c : t.dummies = #[]) : TabOk w (t.orStandIn n) n := by
  refine ⟨SetTable.orStandIn_fits t n, ?_, ?_⟩ <;> unfold SetTable.orStandIn <;> split <;> first | exact l | exact c | rfl
theorem has_none {j : Nat} : SetTable.has #[] j = false := rfl
theorem layNew_ok {t : SetTable} {es : Array (Int × Value)} {n : Nat} {hv : Int} {x : Value} (T : TabOk w t n) : TabOk w (layNew t es hv x).2.1 (layNew t es hv x).1.size := by
  unfold layNew
  split
  · refine orStand_ok T.led ?_
    show (if SetTable.has t.dummies _ then _ else t.dummies) = #[]
    rw [T.clean, has_none]
    rfl
  · rw [Array.size_push]
    exact ⟨SetTable.standIn_fits t _, T.led, rfl⟩
theorem laid_led {mask finger moves : Nat} {led plain : Bool} {hs : Array Int} {t : SetTable} {o : Array Nat} (e : SetTable.laid mask finger moves led plain hs = some (t, o)) : t.led = led ∧ t.dummies = #[] := by
  unfold SetTable.laid at e
  simp only [Option.pure_def, Option.bind_eq_bind, Option.bind_eq_some_iff] at e
  obtain ⟨ow, _, e⟩ := e
  have e := (Prod.mk.inj (Option.some.inj e)).1
  subst e
  exact ⟨rfl, rfl⟩
theorem relay_ok {t : SetTable} {es : Array (Int × Value)} {n m : Nat} (T : TabOk w t n) : TabOk w (relayAll t es m).2.1 (relayAll t es m).1.size := by
  refine ⟨relayAll_fits t es m, ?_, ?_⟩
  all_goals
    unfold relayAll
    split
    · rename_i e
      dsimp only
      split
      · first | exact (laid_led e).1.trans T.led | exact (laid_led e).2
      · first | exact T.led | rfl
    · first | exact T.led | rfl
end
end Mini
end
section
namespace Mini
open PySem PySem.W PyProof.Rows
section
variable {prog : Program} {w : World} {A : Around} {E : Value → Shared → Prop} {s : Shared} {h h' : Heap} {a : Addr} {xs : List Int} {k : Int} {t : Tok}
theorem ins_nodup (h : xs.Nodup) : (ins xs k).Nodup := by
  unfold ins
  by_cases c : k ∈ xs
  · rw [if_pos c]; exact h
  · rw [if_neg c, List.nodup_append]
    exact ⟨h, List.nodup_cons.mpr ⟨List.not_mem_nil, List.nodup_nil⟩, fun a ha b hb q => c (List.mem_singleton.mp hb ▸ q ▸ ha)⟩
theorem ins_mem {j : Int} : j ∈ ins xs k ↔ j ∈ xs ∨ j = k := by
  unfold ins
  by_cases c : k ∈ xs
  · rw [if_pos c]; exact ⟨.inl, fun q => q.elim id fun q => q ▸ c⟩
  · rw [if_neg c, List.mem_append, List.mem_singleton]
theorem ins_len : (ins xs k).length ≤ xs.length + 1 := by
  unfold ins
  by_cases c : k ∈ xs
  · rw [if_pos c]; exact Nat.le_succ _
  · rw [if_neg c, List.length_append]; exact Nat.le_refl _
theorem IsSet.store {es es' : Array (Int × Value)} {ep : Nat} {t t' : SetTable} {ys : List Int} {Q : Unit → Shared → Prop} (g : s.heap.get? a = some (setObj es ep t)) (K : KeysOf ys es'.toList) (T : TabOk w t' es'.size) (nd : ys.Nodup) (l : ys.length ≤ 40)
    (q : ∀ h', Heap.SameBut a s.heap h' → h'.get? a = some (setObj es' (ep + 1) t') → IsSet w h' a ys → Q () { s with heap := h' }) : wpAny (model prog w) A (storeSet a es' t') Q E s := by
  have e := K.length
  rw [Array.length_toList] at e
  have g' : (s.heap.update a (Obj.putSet es' t')).get? a = some (setObj es' (ep + 1) t') := Heap.get?_update_self (Obj.putSet es' t') g rfl
  exact wpAny_storeSet_of g rfl (q _ (Heap.SameBut.update s.heap a _) g' (.mk g' K T nd l)) (e ▸ Nat.le_trans l (by decide))
theorem gave_ok {b : Bool} {Q : Unit → Shared → Prop} (q : Q () s) : wpAny (model prog w) A (match b with | true => rule "set.scan.the-table-gave-way" | false => pure ()) Q E s := by
  rcases b with _ | _
  · exact wpAny_pure q
  · exact wpAny_rule q
theorem add_tail {g : Bool → Sem Unit} (hg : ∀ (b : Bool) (s₁ : Shared) (Q' : Unit → Shared → Prop), Q' () s₁ → wpAny (model prog w) A (g b) Q' E s₁) {es es1 : Array (Int × Value)} {ep : Nat} {t t1 : SetTable} {ys : List Int} (ga : s.heap.get? a = some (setObj es ep t)) (K1 : KeysOf ys es1.toList) (T1 : TabOk w t1 es1.size) (nd : ys.Nodup) (l : ys.length ≤ 40) (was : Bool) {Q : Bool → Shared → Prop}
    (q : ∀ h', Heap.SameBut a s.heap h' → IsSet w h' a ys → Q true { s with heap := h' }) (f : Option Bool → Sem Bool) (hf : f (some true) = pure true) : wpAny (model prog w) A (do
        storeSet a es1 t1
        if (!was && t1.tooFull) = true then do
            g (relayAll t1 es1 (SetTable.grown es1.size)).2.2
            storeSet a (relayAll t1 es1 (SetTable.grown es1.size)).1 (relayAll t1 es1 (SetTable.grown es1.size)).2.1
            pure (some true)
          else pure (some true)) (fun r s' => wpAny (model prog w) A (f r) Q E s') E s := by
  refine wpAny_bind (IsSet.store ga K1 T1 nd l fun h1 sb1 g1 S1 => ?_)
  split
  · have pm2 := relayAll_perm t1 es1 (SetTable.grown es1.size)
    have T2 := relay_ok (w := w) (es := es1) (m := SetTable.grown es1.size) T1
    refine wpAny_bind (hg _ _ _ (wpAny_bind (IsSet.store (s := { s with heap := h1 }) g1 (K1.perm pm2) T2 nd l fun h2 sb2 g2 S2 => ?_)))
    exact wpAny_pure (by rw [hf]; exact wpAny_pure (q _ (sb1.trans sb2) S2))
  · exact wpAny_pure (by rw [hf]; exact wpAny_pure (q _ sb1 S1))
theorem add_ok {Q : Bool → Shared → Prop} (S : IsSet w s.heap a xs) (l : xs.length < 40) (q : ∀ h', Heap.SameBut a s.heap h' → IsSet w h' a (ins xs k) → Q (!decide (k ∈ xs)) { s with heap := h' }) : wpAny (model prog w) A (setAddHashed a (.int k t) (hashInt k)) Q E s := by
  have is : (intKind prog w).is k (.int k t) = true := intKind_is _ _ _ t
  induction S with
  | @mk es ep tb g K T nd lx =>
  have el := K.elems (prog := prog) (w := w)
  have sz := K.length
  rw [Array.length_toList] at sz
  unfold setAddHashed setAddHashedIn
  refine wpAny_holding (wpAny_bind (wpAny_setState_of g rfl T.fits ?_))
  dsimp only
  rw [byScan_of (knd := intKind prog w) rfl (sz ▸ Nat.lt_of_le_of_lt lx (by decide)) el, if_pos rfl]
  unfold setAddByScan
  refine wpAny_bind (wpAny_bind (wpAny_rule (wpAny_bind (wpAny_setScan_of (knd := intKind prog w) (k := k) is g rfl T.fits el ?_))))
  cases hr : List.findIdx? (fun e => (intKind prog w).is k e.2) es.toList with
  | some j =>
    obtain ⟨hj, hp, _⟩ := List.findIdx?_eq_some_iff_getElem.mp hr
    have m : k ∈ xs := K.mem.mpr ⟨_, List.getElem_mem hj, hp⟩
    have z := q s.heap (.refl a s.heap)
    rw [decide_eq_true m, ins, if_pos m] at z
    exact wpAny_pure (wpAny_pure (z (.mk g K T nd lx)))
  | none =>
    have m : k ∉ xs := fun m => by
      obtain ⟨e, he, hp⟩ := K.mem.mp m
      exact ff ((List.findIdx?_eq_none_iff.mp hr e he).symm.trans hp)
    rw [decide_eq_false m, ins, if_neg m] at q
    dsimp only
    have pm := layNew_perm tb es (hashInt k) (.int k t)
    have T1 := layNew_ok (w := w) (es := es) (hv := hashInt k) (x := .int k t) T
    generalize layNew tb es (hashInt k) (.int k t) = N at pm T1 ⊢
    obtain ⟨es1, t1, was, gave⟩ := N
    dsimp only at pm T1 ⊢
    rw [Array.toList_push] at pm
    have K1 := (K.push (k := k) (t := t)).perm pm
    have nd1 : (xs ++ [k]).Nodup := by have z := ins_nodup (k := k) nd; rw [ins, if_neg m] at z; exact z
    have l1 : (xs ++ [k]).length ≤ 40 := by rw [List.length_append]; exact l
    refine wpAny_bind (gave_ok ?_)
    have hb : hashByValue 8 (.int k t) = pure true := rfl
    have tail := fun {gv : Bool → Sem Unit} (hg : ∀ (b : Bool) (s₁ : Shared) (R : Unit → Shared → Prop), R () s₁ → wpAny (model prog w) A (gv b) R E s₁) => add_tail hg g K1 T1 nd1 l1 was q
    split
    · rw [hb]
      refine wpAny_bind (wpAny_bind (wpAny_pure ?_))
      refine wpAny_pure (tail (fun b s₁ Q' z => gave_ok z) _ ?_)
      rfl
    · refine wpAny_bind (wpAny_bind (wpAny_pure ?_))
      refine wpAny_pure (tail (fun b s₁ Q' z => gave_ok z) _ ?_)
      rfl
end
end Mini
end
section
namespace Mini
open PySem PySem.W PyProof.Rows
noncomputable abbrev set0 (w : World) : Obj := setObj #[] 0 (.fresh 0 0 (!byText w))
section
variable {prog : Program} {w : World} {A : Around} {E : Value → Shared → Prop} {s : Shared} {h h' : Heap} {a : Addr} {xs : List Int} {k : Int} {t : Tok} {args : List Value}
theorem set0_is {h : Heap} (g : h.get? a = some (set0 w)) : IsSet w h a [] := .mk g (.mk .nil (.refl _)) ⟨rfl, rfl, rfl⟩ List.nodup_nil (by decide)
theorem newSet_ok {Q : Value → Shared → Prop} (q : Q (.ref s.heap.objs.size) { s with heap := s.heap.push (set0 w) }) : wpAny (model prog w) A (newSet (.type "set")) Q E s := by
  unfold newSet setsByText
  refine wpAny_bind (wpAny_bind (wpAny_askSetting (wpAny_pure ?_)))
  simp only [newObj]
  exact wpAny_bind (wpAny_alloc (wpAny_pure q))
theorem set_new {Q : Value → Shared → Prop} (hc : checkBuiltinCall "set.__new__" ⟨.type "set" :: args, []⟩ = pure ()) (q : Q (.ref s.heap.objs.size) { s with heap := s.heap.push (set0 w) }) :
    codeAny (model prog w) A (.call (.builtin "set.__new__") ⟨.type "set" :: args, []⟩) (wants Q E) s := by
  refine codeAny_of_tree ?_
  show wpAny _ A.in1 (do checkBuiltinCall "set.__new__" ⟨.type "set" :: args, []⟩; again (.builtin "set.__new__" ⟨.type "set" :: args, []⟩)) _ _ s
  refine wpAny_bind (wpAny_of_eq hc (wpAny_pure ⟨plainId_quiet F.plain_set_new _, codeAny_builtin F.entry_set_new ?_⟩))
  rw [Around.under_plainId F.plain_set_new _]
  unfold Builtin.«set.__new__» Builtin.Frozenset.newClass
  have hsub := sub_set_self
  obtain ⟨hp, g, d, tk, os⟩ := s
  dsimp only
  wp_walk
  refine wpAny_askSetting (wpAny_pure ?_)
  simp only [newObj]
  exact wpAny_bind (wpAny_alloc (wpAny_pure (wpAny_pure q)))
set_option maxHeartbeats 3200000 in
theorem set_call {Q : Value → Shared → Prop} (hct : checkTypeCall "set" ⟨args, []⟩ = pure ()) (hc : checkBuiltinCall "set.__new__" ⟨.type "set" :: args, []⟩ = pure ())
    (hi : ∀ {M : Model} {A : Around} {Q : Unit → Shared → Prop} {s₁ : Shared}, s₁.TypeIs (.ref s.heap.objs.size) "set" → Q () s₁ → wpAny M A (checkBuiltinCall "set.__init__" ⟨.ref s.heap.objs.size :: args, []⟩) Q E s₁)
    (hb : wpAny (model prog w) A.in1.in1 (Builtin.«set.__init__» ⟨.ref s.heap.objs.size :: args, []⟩) (fun f s₂ => f = .done (.ret .none) ∧ Q (.ref s.heap.objs.size) s₂) E { s with heap := s.heap.push (set0 w) }) :
    wpAny (model prog w) A (call (.type "set") args) Q E s := by
  obtain ⟨c, tl, hmro⟩ := F.called_set.mro
  have hmade := F.called_set.made
  have hsub := F.called_set.sub
  refine wpAny_call (codeAny_of_tree ?_)
  show wpAny _ _ (callAny (.type "set") _) _ _ _
  refine wpAny_pure ⟨Code.quiet_builtin _ (by decide +kernel), codeAny_builtin F.entry_type_call ?_⟩
  rw [Around.under_plain (weight_type_call_type "set" args []) rfl]
  have h1 := F.called_set.notType
  have h2 := F.called_set.canCreate
  repeat (any_goals (first | assumption | wp_step))
  refine codeAny_mono (set_new (E := E) (Q := fun obj s₁ => obj = .ref s.heap.objs.size ∧ s₁ = { s with heap := s.heap.push (set0 w) }) hc ⟨rfl, rfl⟩) fun r s₁ hr => ?_
  rcases r with e | (_ | _ | _ | obj) <;> first | exact hr | skip
  obtain ⟨rfl, rfl⟩ := hr
  have hT : Shared.TypeIs { s with heap := s.heap.push (set0 w) } (.ref s.heap.objs.size) "set" := ⟨_, Heap.get?_push_size _ rfl, rfl⟩
  have hli := F.called_set.init.lookup
  have hbi := F.called_set.init.bind (.ref s.heap.objs.size)
  repeat (any_goals (first | assumption | wp_step))
  refine codeAny_mono (codeAny_call_builtin (R := wants (fun r s₂ => r = .none ∧ Q (.ref s.heap.objs.size) s₂) E) F.called_set.init.plain F.entry_set_init (hi hT ?_)) fun r s₂ hr => ?_
  · refine wpAny_mono hb (fun f s₂ z => ?_) fun _ _ e => e
    obtain ⟨rfl, z⟩ := z
    exact ⟨rfl, z⟩
  · rcases r with e | (_ | _ | _ | r) <;> first | exact hr | skip
    obtain ⟨rfl, hq⟩ := hr
    repeat (any_goals (first | assumption | wp_step))
end
end Mini
end
section
namespace Mini
open PySem PySem.W PyProof.Rows PySem.Spec
section
variable {prog : Program} {w : World} {A : Around} {E : Value → Shared → Prop} {s : Shared} {h h' : Heap} {a : Addr} {xs : List Int} {k : Int} {t : Tok} {args : List Value}
theorem dedup_push {x : Int} : dedup (xs ++ [x]) = ins (dedup xs) x := by unfold dedup; rw [List.foldl_append]; rfl
theorem dedup_len : (dedup xs).length ≤ xs.length := by
  have go : ∀ acc : List Int, (xs.foldl ins acc).length ≤ acc.length + xs.length := by
    induction xs with
    | nil => exact fun _ => Nat.le_refl _
    | cons x r ih =>
      intro acc
      refine Nat.le_trans (ih _) ?_
      rw [List.length_cons, ← Nat.add_assoc, Nat.add_right_comm]
      exact Nat.add_le_add_right ins_len _
  exact Nat.zero_add xs.length ▸ go []
theorem take_push {x : Int} {i : Nat} (e : xs[i]? = some x) : xs.take (i + 1) = xs.take i ++ [x] := by rw [List.take_add_one, e]; rfl
section
variable {I : Addr} {fp wr : List Addr} {G : Array GenState → Array GenState → Prop} {n : Nat} {P : Nat → Value → Prop} {St : Nat → Shared → Prop} {R : Result → Shared → Prop}
theorem upd_loop (W : WalksS prog w A.in1 I fp wr G xs.length P St) (hS : a ∉ fp) (hv : ∀ i v, P i v → ∃ x, xs[i]? = some x ∧ IsInt x v) (hb : xs.length ≤ 40) (m i : Nat) (hm : i + m = xs.length) (st : St i s) (S : IsSet w s.heap a (dedup (xs.take i)))
    (q : ∀ s', Moved (a :: wr) G s s' → IsSet w s'.heap a (dedup xs) → R (.ok (.ret .none)) s') : codeAny (model prog w) A (.builtin "set.update.loop" ⟨[.ref a, .ref I], []⟩) R s := by
  have hw : a ∉ wr := fun h => hS (W.sub _ h)
  have sub : ∀ b ∈ wr, b ∈ a :: wr := fun b hb => List.mem_cons_of_mem _ hb
  induction m generalizing i s with
  | zero =>
    refine codeAny_builtin F.entry_set_update_loop ?_
    rw [Around.under_plainId F.plain_set_update_loop _]
    have hm : i = xs.length := hm
    subst hm
    rw [List.take_length] at S
    exact wpAny_bind (W.done s _ _ st fun s' mv => wpAny_pure (q s' (mv.mono sub) (S.keep fun o e => mv.heap a o hw e)))
  | succ m ih =>
    have hi : i < xs.length := hm ▸ Nat.lt_add_of_pos_right (Nat.succ_pos m)
    refine codeAny_builtin F.entry_set_update_loop ?_
    rw [Around.under_plainId F.plain_set_update_loop _]
    refine wpAny_bind (W.item i s _ _ hi st fun v s' p st' mv => ?_)
    obtain ⟨x, ex, r⟩ := hv i v p
    induction r with
    | mk t =>
    have S' := S.keep (h' := s'.heap) fun o e => mv.heap a o hw e
    show wpAny _ A.in1 (holding [Value.int x t] (setAdd a (.int x t)) >>= _) _ _ s'
    refine wpAny_bind (wpAny_holding ?_)
    unfold setAdd
    refine wpAny_holding (wpAny_bind ((intKind prog w).pyHash (k := x) (intKind_is _ _ _ _) ?_))
    have l : (dedup (xs.take i)).length < 40 := Nat.lt_of_le_of_lt (Nat.le_trans dedup_len (List.length_take_le _ _)) (Nat.lt_of_lt_of_le hi hb)
    refine add_ok (s := { s' with toks := s'.toks + 1 }) S' l fun h' sb S2 => ?_
    rw [← dedup_push, ← take_push ex] at S2
    refine wpAny_pure ⟨plainId_quiet F.plain_set_update_loop _, ih (i + 1) (Nat.add_right_comm i m 1 ▸ hm) (W.frame _ s' _ _ st' (Nat.le_succ _) fun b hb o e => ?_) S2 fun s'' mv2 S3 => q s'' (Moved.trans W.gtrans ((mv.mono sub).then_heap (Nat.le_succ _) fun b o hb e => ?_) mv2) S3⟩
    · exact (sb.2 b fun z => hS (z ▸ hb)).trans e
    · exact (sb.2 b fun z => hb (z ▸ List.mem_cons_self)).trans e
end
end
end Mini
end
section
namespace Mini
open PySem PySem.W PyProof.Rows PySem.Spec
section
variable {prog : Program} {w : World} {A : Around} {E : Value → Shared → Prop} {s : Shared} {h h' : Heap} {a l : Addr} {xs : List Int} {k : Int} {t : Tok} {args : List Value} {Q : Value → Shared → Prop}
theorem set_nil (q : ∀ h', Ext s.heap h' → IsSet w h' s.heap.objs.size [] → Q (.ref s.heap.objs.size) { s with heap := h' }) : wpAny (model prog w) A (call (.type "set") []) Q E s := by
  refine set_call F.typeCall_set_0 F.newCall_set_0 (fun hT q => check_set_init hT q) ?_
  have z := q _ (.push _ _) (set0_is (Heap.get?_push_size _ rfl))
  have hT : Shared.TypeIs { s with heap := s.heap.push (set0 w) } (.ref s.heap.objs.size) "set" := ⟨_, Heap.get?_push_size _ rfl, rfl⟩
  have hS : (s.heap.push (set0 w)).get? s.heap.objs.size = some (set0 w) := Heap.get?_push_size _ rfl
  unfold Builtin.«set.__init__» noKeywords
  wp_walk
  exact ⟨rfl, z⟩
set_option maxHeartbeats 3200000 in
theorem set_list {its : Array Value} {n : Nat} (hh : A.handled = none) (g : s.heap.get? l = some (listOf its n)) (hi : All2 IsInt xs its.toList) (hl : xs.length ≤ 40) (q : ∀ h' tk, Ext s.heap h' → IsSet w h' s.heap.objs.size (dedup xs) → Q (.ref s.heap.objs.size) { s with heap := h', toks := tk }) :
    wpAny (model prog w) A (call (.type "set") [.ref l]) Q E s := by
  refine set_call (F.typeCall_set_1 _) (F.newCall_set_1 _) (fun hT q => check_set_init_1 hT q) ?_
  have hS : (s.heap.push (set0 w)).get? s.heap.objs.size = some (set0 w) := Heap.get?_push_size _ rfl
  have hT : Shared.TypeIs { s with heap := s.heap.push (set0 w) } (.ref s.heap.objs.size) "set" := ⟨_, hS, rfl⟩
  have hol' : (s.heap.push (set0 w)).get? l = some (listOf its n) := Heap.get?_push_of_some _ g
  have hsls := F.sub_list_set
  have hslf := F.sub_list_frozenset
  have hne : (Value.type "list" == Value.type "dict") = false := by decide
  have hl1 : (s.heap.push (set0 w)).IsList l its := ⟨_, hol', rfl, n, rfl⟩
  unfold Builtin.«set.__init__» noKeywords Builtin.Frozenset.updateFrom
  generalize hPI : pyIter = PI
  wp_walk
  subst hPI
  refine wpAny_pyIter_list hl1 (wpAny_bind (wpAny_runValue ?_))
  have hlS : l < s.heap.objs.size := Heap.lt_size g
  have hI : ((s.heap.push (set0 w)).objs.size) = s.heap.objs.size + 1 := Heap.size_push ..
  have hneI : l ≠ (s.heap.push (set0 w)).objs.size := by rw [hI]; exact Nat.ne_of_lt (Nat.lt_succ_of_lt hlS)
  have hSf : s.heap.objs.size ∉ [(s.heap.push (set0 w)).objs.size, l] := by
    rw [hI, List.mem_cons, List.mem_singleton]
    exact fun q => q.elim (Nat.ne_of_lt (Nat.lt_succ_self _)) (Nat.ne_of_gt hlS)
  have sz : its.size = xs.length := Array.length_toList.symm.trans hi.length
  have W := (Walks.list (prog := prog) (w := w) (A := A.in1.in1.in1) (by simp [hh]) (s.heap.push (set0 w)).objs.size l hneI its).toS
  rw [sz] at W
  refine upd_loop W hSf (fun i v e => ?_) hl xs.length 0 (Nat.zero_add _) ⟨⟨_, Heap.get?_push_size _ rfl, rfl, rfl⟩, hl1.push _⟩ ((set0_is hS).keep fun o e => Heap.get?_push_of_some _ e) fun s' mv S => ?_
  · have lt : i < xs.length := sz ▸ (Array.getElem?_eq_some_iff.mp e).1
    obtain ⟨v', e', r⟩ := hi.get (List.getElem?_eq_getElem lt)
    rw [Array.getElem?_toList, e] at e'
    exact ⟨_, List.getElem?_eq_getElem lt, Option.some.inj e' ▸ r⟩
  · have es := Moved.eq_with mv
    rw [es]
    refine wpAny_pure (wpAny_pure ⟨rfl, q _ _ (fun b o e => mv.heap b o (fun hb => ?_) (Heap.get?_push_of_some _ (Heap.get?_push_of_some _ e))) S⟩)
    have lt := Heap.lt_size e
    rcases List.mem_cons.mp hb with z | z
    · exact Nat.lt_irrefl _ (z ▸ lt)
    · rw [List.mem_singleton, hI] at z
      exact Nat.lt_irrefl _ (Nat.lt_of_succ_lt (z ▸ lt))
end
end Mini
end
section
namespace Mini
open PySem PySem.W PyProof.Rows
noncomputable def hop (m : Nat) (x : Nat × Nat) : Nat × Nat := ((x.1 * 5 + 1 + x.2 / 32) % m, x.2 / 32)
noncomputable def hops (m : Nat) : Nat → Nat × Nat → Nat × Nat
  | 0, x => x
  | k + 1, x => hops m k (hop m x)
noncomputable def jump (m : Nat) (i : Nat) : Nat := (i * 5 + 1) % m
noncomputable def jumps (m : Nat) : Nat → Nat → Nat
  | 0, i => i
  | k + 1, i => jumps m k (jump m i)
theorem hops_add {m a b : Nat} {x : Nat × Nat} : hops m (a + b) x = hops m b (hops m a x) := by
  induction a generalizing x with
  | zero => rw [Nat.zero_add]; rfl
  | succ a ih => rw [Nat.add_right_comm]; exact ih
theorem jumps_add {m a b i : Nat} : jumps m (a + b) i = jumps m b (jumps m a i) := by
  induction a generalizing i with
  | zero => rw [Nat.zero_add]; rfl
  | succ a ih => rw [Nat.add_right_comm]; exact ih
theorem hops_zero {m k i : Nat} : (hops m k (i, 0)).1 = jumps m k i := by
  induction k generalizing i with
  | zero => rfl
  | succ k ih =>
    have e : hop m (i, 0) = (jump m i, 0) := by unfold hop jump; rw [Nat.zero_div, Nat.add_zero]
    show (hops m k (hop m (i, 0))).1 = _
    rw [e]
    exact ih
theorem hops_two {m k : Nat} {x : Nat × Nat} : (hops m k x).2 = x.2 / 32 ^ k := by
  induction k generalizing x with
  | zero => rw [Nat.pow_zero, Nat.div_one]; rfl
  | succ k ih =>
    show (hops m k (hop m x)).2 = _
    rw [ih, Nat.pow_succ, Nat.mul_comm, ← Nat.div_div_eq_div_mul]
    rfl
theorem hops_lt {m k : Nat} {x : Nat × Nat} (hm : 0 < m) (h : x.1 < m) : (hops m k x).1 < m := by
  induction k generalizing x with
  | zero => exact h
  | succ k ih => exact ih (Nat.mod_lt _ hm)
structure Round (m : Nat) : Prop where
  all : ∀ j, j < m → ∃ a, a < m ∧ jumps m a 0 = j
  back : jumps m m 0 = 0
  pos : 0 < m
theorem Round.reach {m : Nat} (R : Round m) {i j : Nat} (hi : i < m) (hj : j < m) : ∃ k, k < m ∧ jumps m k i = j := by
  obtain ⟨a, ha, ea⟩ := R.all i hi
  obtain ⟨b, hb, eb⟩ := R.all j hj
  rcases Nat.le_total a b with q | q
  · refine ⟨b - a, Nat.lt_of_le_of_lt (Nat.sub_le _ _) hb, ?_⟩
    rw [← ea, ← jumps_add, Nat.add_sub_cancel' q, eb]
  · rcases Nat.eq_or_lt_of_le q with q | q
    · exact ⟨0, R.pos, by rw [← ea, ← q, eb]; rfl⟩
    · refine ⟨m - a + b, by omega, ?_⟩
      rw [← ea, ← jumps_add, ← Nat.add_assoc, Nat.add_sub_cancel' (Nat.le_of_lt ha), jumps_add, R.back, eb]
noncomputable def orbit (m : Nat) : Nat → Nat → List Nat
  | 0, _ => []
  | k + 1, i => i :: orbit m k (jump m i)
theorem orbit_mem {m k i j : Nat} (h : j ∈ orbit m k i) : ∃ a, a < k ∧ jumps m a i = j := by
  induction k generalizing i with
  | zero => exact absurd h List.not_mem_nil
  | succ k ih =>
    rcases List.mem_cons.mp h with q | q
    · exact ⟨0, Nat.succ_pos _, q.symm⟩
    · obtain ⟨a, ha, e⟩ := ih q
      exact ⟨a + 1, Nat.succ_lt_succ ha, e⟩
theorem round_of {m : Nat} (h : ((List.range m).all fun j => (orbit m m 0).contains j) = true) (b : jumps m m 0 = 0) (p : 0 < m) : Round m :=
  ⟨fun j hj => orbit_mem (List.contains_iff_mem.mp (List.all_eq_true.mp h j (List.mem_range.mpr hj))), b, p⟩
theorem round8 : Round 8 := round_of (by kernel_rfl) (by kernel_rfl) (by decide)
theorem round16 : Round 16 := round_of (by kernel_rfl) (by kernel_rfl) (by decide)
theorem round32 : Round 32 := round_of (by kernel_rfl) (by kernel_rfl) (by decide)
theorem round64 : Round 64 := round_of (by kernel_rfl) (by kernel_rfl) (by decide)
theorem round128 : Round 128 := round_of (by kernel_rfl) (by kernel_rfl) (by decide)
section
variable {mask : Nat} {owner : Array (Option Nat)}
theorem free_none {fuel i p : Nat} (h : SetTable.layClean.free mask owner fuel i p = none) : ∀ k, k < fuel → owner.getD (hops (mask + 1) k (i, p)).1 (some 0) ≠ none := by
  induction fuel generalizing i p with
  | zero => exact fun k hk => absurd hk (Nat.not_lt_zero _)
  | succ fuel ih =>
    unfold SetTable.layClean.free at h
    split at h
    · exact ns h.symm
    · rename_i hf
      intro k hk
      rcases k with _ | k
      · intro q
        have z := List.find?_eq_none.mp hf 0 (List.mem_range.mpr (by unfold SetTable.runEnd; split <;> omega))
        rw [Nat.add_zero] at z
        have q : owner.getD i (some 0) = none := q
        rw [q] at z
        exact z rfl
      · exact ih h k (Nat.lt_of_succ_lt_succ hk)
theorem free_some {fuel i p j : Nat} (h : SetTable.layClean.free mask owner fuel i p = some j) : owner.getD j (some 0) = none := by
  induction fuel generalizing i p with
  | zero => exact ns h
  | succ fuel ih =>
    unfold SetTable.layClean.free at h
    split at h
    · rename_i hf
      have z := List.find?_some hf
      rw [← Option.some.inj h]
      exact Option.isNone_iff_eq_none.mp z
    · exact ih h
theorem free_finds (R : Round (mask + 1)) {i p : Nat} (hi : i < mask + 1) (hp : p < 32 ^ 13) {j : Nat} (hj : j < mask + 1) (f : owner.getD j (some 0) = none) : ∃ j', SetTable.layClean.free mask owner (SetTable.turns mask) i p = some j' := by
  cases e : SetTable.layClean.free mask owner (SetTable.turns mask) i p with
  | some j' => exact ⟨j', rfl⟩
  | none =>
    obtain ⟨k, hk, ek⟩ := R.reach (hops_lt (k := 13) (x := (i, p)) R.pos hi) hj
    have z := free_none e (13 + k) (by unfold SetTable.turns; omega)
    have e2 : hops (mask + 1) 13 (i, p) = ((hops (mask + 1) 13 (i, p)).1, 0) := by
      have q := hops_two (m := mask + 1) (k := 13) (x := (i, p))
      rw [Nat.div_eq_of_lt hp] at q
      exact Prod.ext rfl q
    rw [hops_add, e2, hops_zero, ek] at z
    exact absurd f z
end
end Mini
end
section
namespace Mini
open PySem PySem.W PyProof.Rows
theorem none_of_short {α : Type} {l : List (Option α)} (h : (l.filterMap id).length < l.length) : ∃ j : Nat, l[j]? = some none := by
  induction l with
  | nil => exact absurd h (Nat.lt_irrefl 0)
  | cons x r ih =>
    rcases x with _ | x
    · exact ⟨0, rfl⟩
    · obtain ⟨j, e⟩ := ih (Nat.lt_of_succ_lt_succ h)
      exact ⟨j + 1, e⟩
theorem set_filter {α : Type} {l : List (Option α)} {j : Nat} {k : α} (e : l[j]? = some none) : ((l.set j (some k)).filterMap id).Perm (k :: l.filterMap id) := by
  induction l generalizing j with
  | nil => exact ns (List.getElem?_nil.symm.trans e)
  | cons x r ih =>
    rcases j with _ | j
    · rw [Option.some.inj e]; exact .refl _
    · have q := ih (j := j) e
      rcases x with _ | x
      · exact q
      · exact (q.cons x).trans (.swap _ _ _)
inductive Laid (mask n : Nat) (ow : Array (Option Nat)) : Prop
  | mk (s : ow.size = mask + 1) (p : (ow.toList.filterMap id).Perm (List.range n)) : Laid mask n ow
section
variable {mask : Nat} {owner : Array (Option Nat)}
theorem bits_lt {h : Int} : SetTable.bits h < 32 ^ 13 := by
  unfold SetTable.bits
  have a := Int.emod_nonneg h (b := 2 ^ 64) (by decide)
  have b := Int.emod_lt_of_pos h (b := 2 ^ 64) (by decide)
  exact Nat.lt_trans ((Int.toNat_lt a).mpr b) (by decide)
noncomputable abbrev layStep (mask : Nat) (acc : Option (Array (Option Nat) × Nat)) (h : Int) : Option (Array (Option Nat) × Nat) := do
  let (owner, k) ← acc
  let j ← SetTable.layClean.free mask owner (SetTable.turns mask) (SetTable.bits h % (mask + 1)) (SetTable.bits h)
  pure (owner.setIfInBounds j (some k), k + 1)
theorem lay_fold (R : Round (mask + 1)) {hs : List Int} {k : Nat} (L : Laid mask k owner) (hk : k + hs.length ≤ mask + 1) : ∃ ow, hs.foldl (layStep mask) (some (owner, k)) = some (ow, k + hs.length) ∧ Laid mask (k + hs.length) ow := by
  induction hs generalizing owner k with
  | nil => exact ⟨owner, rfl, L⟩
  | cons h r ih =>
    induction L with
    | mk s p =>
    have lk : k < mask + 1 := Nat.lt_of_lt_of_le (Nat.lt_add_of_pos_right (Nat.succ_pos _)) hk
    obtain ⟨j, ej⟩ := none_of_short (l := owner.toList) (by rw [p.length_eq, List.length_range, Array.length_toList, s]; exact lk)
    have g : ∀ j, owner.toList[j]? = some none ↔ owner.getD j (some 0) = none := fun j => by
      rw [Array.getElem?_toList, Array.getD_eq_getD_getElem?]
      cases owner[j]? with
      | none => exact ⟨fun q => ns q, fun q => ns q.symm⟩
      | some x => exact ⟨fun q => Option.some.inj q, fun q => congrArg some q⟩
    have jl : j < mask + 1 := by rw [← s, ← Array.length_toList]; exact (List.getElem?_eq_some_iff.mp ej).1
    obtain ⟨j', ef⟩ := free_finds (owner := owner) R (Nat.mod_lt (SetTable.bits h) R.pos) (bits_lt (h := h)) jl ((g j).mp ej)
    have e' := (g j').mpr (free_some ef)
    have L' : Laid mask (k + 1) (owner.setIfInBounds j' (some k)) := by
      refine ⟨by rw [Array.size_setIfInBounds]; exact s, ?_⟩
      rw [Array.toList_setIfInBounds, List.range_succ]
      exact (set_filter e').trans ((p.cons k).trans (List.perm_append_singleton k _).symm)
    obtain ⟨ow, eo, Lo⟩ := ih L' (Nat.add_right_comm k r.length 1 ▸ hk)
    refine ⟨ow, ?_, ?_⟩
    · rw [List.foldl_cons, List.length_cons, ← Nat.add_assoc, Nat.add_right_comm, ← eo]
      congr 1
      show (do let j ← SetTable.layClean.free mask owner (SetTable.turns mask) (SetTable.bits h % (mask + 1)) (SetTable.bits h); pure (owner.setIfInBounds j (some k), k + 1)) = _
      rw [ef]
      rfl
    · rw [List.length_cons, ← Nat.add_assoc, Nat.add_right_comm]; exact Lo
theorem lay_ok (R : Round (mask + 1)) {hs : Array Int} (hn : hs.size ≤ mask + 1) : ∃ ow, SetTable.layClean mask hs = some ow ∧ Laid mask hs.size ow := by
  have L0 : Laid mask 0 (Array.replicate (mask + 1) none) := by
    refine ⟨Array.size_replicate, ?_⟩
    rw [Array.toList_replicate]
    have e : ∀ n, (List.replicate n (none : Option Nat)).filterMap id = [] := fun n => by
      induction n with
      | zero => rfl
      | succ n ih => exact ih
    rw [e]
    exact .refl _
  obtain ⟨ow, e, L⟩ := lay_fold R (hs := hs.toList) L0 (by rw [Nat.zero_add, Array.length_toList]; exact hn)
  rw [Nat.zero_add, Array.length_toList] at L
  refine ⟨ow, ?_, L⟩
  unfold SetTable.layClean
  rw [← Array.foldl_toList]
  exact congrArg (Option.map (·.1)) e
structure LaidAs (mask n : Nat) (led : Bool) (t : SetTable) (order : Array Nat) : Prop where
  mask : t.mask = mask
  fits : t.fits n = true
  led : t.led = led
  clean : t.dummies = #[]
  perm : order.toList.Perm (List.range n)
theorem laid_ok (R : Round (mask + 1)) {hs : Array Int} (hn : hs.size ≤ mask) (finger moves : Nat) (led plain : Bool) : ∃ t order, SetTable.laid mask finger moves led plain hs = some (t, order) ∧ LaidAs mask hs.size led t order := by
  obtain ⟨ow, e, L⟩ := lay_ok R (Nat.le_succ_of_le hn)
  induction L with
  | mk s p =>
  unfold SetTable.laid
  rw [e]
  refine ⟨_, _, rfl, ?_⟩
  have e2 : (((List.range (mask + 1)).filterMap fun j => (ow.getD j none).map fun x => (j, x)).map (·.2)) = ow.toList.filterMap id := by
    rw [List.map_filterMap]
    have z := List.filterMap_getElem?_range_length ow.toList
    rw [Array.length_toList, s] at z
    conv => rhs; rw [← z, List.filterMap_filterMap]
    refine congrArg (fun f => List.filterMap f (List.range (mask + 1))) (funext fun j => ?_)
    rw [Array.getElem?_toList, Array.getD_eq_getD_getElem?]
    rcases ow[j]? with _ | _ | x <;> rfl
  have len := congrArg List.length e2
  rw [List.length_map, p.length_eq, List.length_range] at len
  refine ⟨rfl, ?_, rfl, rfl, ?_⟩
  · unfold SetTable.fits SetTable.fill
    rw [Bool.and_eq_true, beq_iff_eq, decide_eq_true_eq]
    dsimp only
    rw [List.size_toArray, List.length_map, len]
    exact ⟨rfl, hn⟩
  · exact (List.Perm.of_eq e2).trans p
end
end Mini
end
section
namespace Mini
open PySem PySem.W PyProof.Rows
theorem erase_perm {α : Type} {l : List α} {i : Nat} (h : i < l.length) : (l[i] :: l.eraseIdx i).Perm l := by
  induction l generalizing i with
  | nil => exact absurd h (Nat.not_lt_zero _)
  | cons x r ih =>
    rcases i with _ | i
    · exact .refl _
    · exact (List.Perm.swap _ _ _).trans ((ih (Nat.lt_of_succ_lt_succ h)).cons x)
theorem pick_go {α : Type} {next : Nat → Nat} {n k : Nat} {l : List α} {out : Array α} (h : l.length = n) : (pickOrder.go next n k l out).toList.Perm (out.toList ++ l) := by
  induction n generalizing k l out with
  | zero => rw [List.eq_nil_of_length_eq_zero h, List.append_nil]; exact .refl _
  | succ n ih =>
    have lt : next k % l.length < l.length := Nat.mod_lt _ (h ▸ Nat.succ_pos n)
    unfold pickOrder.go
    rw [List.getElem?_eq_getElem lt]
    refine (ih (by rw [List.length_eraseIdx_of_lt lt, h]; rfl)).trans ?_
    rw [Array.toList_push, List.append_assoc]
    exact (erase_perm lt).append_left _
theorem pick_perm {α : Type} {next : Nat → Nat} {xs : Array α} : (pickOrder next xs).toList.Perm xs.toList := by
  unfold pickOrder
  exact pick_go Array.length_toList
section
variable {prog : Program} {w : World} {A : Around} {E : Value → Shared → Prop} {s : Shared} {h h' : Heap} {a b : Addr} {xs ys : List Int} {k : Int} {t : Tok}
theorem int_elem {es : List (Int × Value)} (K : KeysOf xs es) {e : Int × Value} (he : e ∈ es) : ∃ k t, e = (hashInt k, .int k t) ∧ k ∈ xs := by
  induction K with
  | mk r p =>
    obtain ⟨k, hk, q⟩ := r.mem_right he
    induction q with | mk t => exact ⟨k, t, rfl, p.mem_iff.mp hk⟩
theorem quiet_ok {sets : List Addr} {Q : Bool → Shared → Prop} (h : ∀ b ∈ sets, ∃ xs, IsSet w s.heap b xs) (q : Q true s) : wpAny (model prog w) A (setsQuiet sets) Q E s := by
  unfold setsQuiet
  refine wpAny_bind (wpAny_forIn_list _ (fun rest acc s' => acc = (none, ()) ∧ s' = s ∧ ∀ b ∈ rest, b ∈ sets) _ (fun b rest acc s' I => ?_) (fun acc s' I => ?_) sets _ ⟨rfl, rfl, fun b hb => hb⟩)
  · obtain ⟨rfl, rfl, sub⟩ := I
    obtain ⟨xs, S⟩ := h b (sub b List.mem_cons_self)
    induction S with
    | @mk es ep t g K T nd l =>
    refine wpAny_bind (wpAny_setEntries_of g rfl T.fits (wpAny_bind (wpAny_forIn_array' _ (fun rest acc s'' => acc = (none, ()) ∧ s'' = s' ∧ ∀ e ∈ rest, e ∈ es.toList) _ (fun e rest acc s'' I => ?_) (fun acc s'' I => ?_) es _ ⟨rfl, rfl, fun e he => he⟩)))
    · obtain ⟨rfl, rfl, sub2⟩ := I
      obtain ⟨k, t, rfl, _⟩ := int_elem K (sub2 e List.mem_cons_self)
      exact wpAny_pure ⟨rfl, rfl, fun e he => sub2 e (List.mem_cons_of_mem _ he)⟩
    · obtain ⟨rfl, rfl, _⟩ := I
      exact wpAny_pure ⟨rfl, rfl, fun b hb => sub b (List.mem_cons_of_mem _ hb)⟩
  · obtain ⟨rfl, rfl, _⟩ := I
    exact wpAny_pure q
theorem Tabs.walk_led {t : SetTable} {n : Nat} (T : TabOk w t n) (h : (byText w || t.led && t.plain || decide (n ≤ 1)) = true) (nt : byText w = false) : (!t.plain && decide (n > 1)) = false ∧ (!t.led && decide (n > 1)) = false := by
  rw [T.led, nt] at h ⊢
  rcases Nat.lt_or_ge 1 n with q | q
  · rw [decide_eq_false (Nat.not_le.mpr q), Bool.false_or, Bool.or_false, Bool.not_false, Bool.true_and] at h
    rw [h]
    exact ⟨rfl, rfl⟩
  · rw [decide_eq_false (Nat.not_lt.mpr q), Bool.and_false, Bool.and_false]
    exact ⟨rfl, rfl⟩
theorem walk_ok {es : Array (Int × Value)} {ep : Nat} {t : SetTable} {Q : Array (Int × Value) → Shared → Prop} (g : s.heap.get? a = some (setObj es ep t)) (T : TabOk w t es.size) (h : (byText w || t.led && t.plain || decide (es.size ≤ 1)) = true)
    (q : ∀ es' : Array (Int × Value), es'.toList.Perm es.toList → Q es' s) : wpAny (model prog w) A (setWalk a) Q E s := by
  unfold setWalk
  refine wpAny_bind (wpAny_setState_of g rfl T.fits ?_)
  unfold setsByText
  refine wpAny_bind (wpAny_bind (wpAny_askSetting (wpAny_pure ?_)))
  by_cases nt : byText w = true
  · show wpAny _ _ (if byText w = true then _ else _) _ _ _
    rw [if_pos nt]
    exact wpAny_bind (wpAny_askSetting (wpAny_pure (q _ pick_perm)))
  · have nt := Bool.eq_false_iff.mpr nt
    obtain ⟨z1, z2⟩ := Tabs.walk_led T h nt
    show wpAny _ _ (if byText w = true then _ else (if (!t.plain && decide (es.size > 1)) = true then _ else (if (!t.led && decide (es.size > 1)) = true then unsupported "set:maker-not-led" else pure ()) >>= fun _ => pure es)) _ _ _
    rw [if_neg (by rw [nt]; exact Bool.false_ne_true), z1, z2, if_neg Bool.false_ne_true, if_neg Bool.false_ne_true]
    exact wpAny_bind (wpAny_pure (wpAny_pure (q es (.refl _))))
theorem unseen_ok {es : Array (Int × Value)} {ep : Nat} {t : SetTable} {others : List Addr} {f : Option Addr} {Q : Array (Int × Value) → Shared → Prop} (g : s.heap.get? a = some (setObj es ep t)) (K : KeysOf xs es.toList) (T : TabOk w t es.size) (nd : xs.Nodup) (l : xs.length ≤ 40)
    (ho : ∀ b ∈ others, ∃ xs, IsSet w s.heap b xs) (hf : ∀ b, f = some b → IsSet w s.heap b ys)
    (q : ∀ (es' : Array (Int × Value)) (h' : Heap), es'.toList.Perm es.toList → (h' = s.heap ∨ ∃ b, f = some b ∧ Heap.SameBut b s.heap h' ∧ IsSet w h' b ys) → Q es' { s with heap := h' }) : wpAny (model prog w) A (setWalkUnseen a others f) Q E s := by
  unfold setWalkUnseen
  refine wpAny_bind (wpAny_setState_of g rfl T.fits ?_)
  unfold setsByText
  refine wpAny_bind (wpAny_bind (wpAny_askSetting (wpAny_pure ?_)))
  show wpAny _ _ (if (byText w || t.led && t.plain || decide (es.size ≤ 1)) = true then _ else _) _ _ _
  by_cases c : (byText w || t.led && t.plain || decide (es.size ≤ 1)) = true
  · rw [if_pos c]
    exact walk_ok g T c fun es' p => q es' _ p (.inl rfl)
  · rw [if_neg c]
    refine wpAny_bind (quiet_ok (w := w) (fun b hb => (List.mem_cons.mp hb).elim (fun z => ⟨xs, z ▸ .mk g K T nd l⟩) (ho b)) ?_)
    rw [if_neg (by decide)]
    refine wpAny_bind (wpAny_rule ?_)
    rcases f with _ | b
    · exact wpAny_pure (q es _ (.refl _) (.inl rfl))
    · have Sb := hf b rfl
      induction Sb with
      | @mk ef epf tf gf Kf Tf ndf lf =>
      refine wpAny_bind (wpAny_setState_of gf rfl Tf.fits ?_)
      dsimp only
      split
      · refine wpAny_bind (IsSet.store gf Kf ⟨Tf.fits, ?_, Tf.clean⟩ ndf lf fun h' sb _ S' => wpAny_pure (q es h' (.refl _) (.inr ⟨b, rfl, sb, S'⟩)))
        show (tf.led && t.led) = _
        rw [Tf.led, T.led, Bool.and_self]
      · exact wpAny_pure (q es _ (.refl _) (.inl rfl))
end
end Mini
end
section
namespace Mini
open PySem PySem.W PyProof.Rows
theorem round_ok {n : Nat} (h : n < 100) : Round (SetTable.sizeAbove n) ∧ n < SetTable.sizeAbove n ∧ SetTable.sizeAbove n ≤ 128 := by
  have z := List.all_eq_true.mp (show (List.range 100).all (fun n => [8, 16, 32, 64, 128].contains (SetTable.sizeAbove n) && decide (n < SetTable.sizeAbove n)) = true by kernel_rfl) n (List.mem_range.mpr h)
  obtain ⟨a, b⟩ := (Bool.and_eq_true _ _).mp z
  have a := List.contains_iff_mem.mp a
  refine ⟨?_, of_decide_eq_true b, ?_⟩
  · rcases List.mem_cons.mp a with q | a; · rw [q]; exact round8
    rcases List.mem_cons.mp a with q | a; · rw [q]; exact round16
    rcases List.mem_cons.mp a with q | a; · rw [q]; exact round32
    rcases List.mem_cons.mp a with q | a; · rw [q]; exact round64
    rw [List.mem_singleton.mp a]; exact round128
  · generalize SetTable.sizeAbove n = m at a
    revert m
    decide
section
variable {prog : Program} {w : World} {A : Around} {E : Value → Shared → Prop} {s : Shared} {h h' : Heap} {a b : Addr} {xs ys : List Int} {k n : Nat}
theorem reord_ok {es : Array (Int × Value)} {m : Nat} {led : Bool} {t : SetTable} {order : Array Nat} {R : Sem (Array (Int × Value) × SetTable)} {Q : Array (Int × Value) × SetTable → Shared → Prop} (L : LaidAs m es.size led t order)
    (hR : (order.filterMap (es[·]?)).size = es.size → R = pure (order.filterMap (es[·]?), t)) (q : ∀ es' : Array (Int × Value), es'.toList.Perm es.toList → es'.size = es.size → Q (es', t) s) : wpAny (model prog w) A R Q E s := by
  have p : (order.filterMap (es[·]?)).toList.Perm es.toList := by
    rw [Array.toList_filterMap]
    exact (L.perm.filterMap _).trans (by rw [filterMap_getElem?_range])
  have z : (order.filterMap (es[·]?)).size = es.size := by rw [← Array.length_toList, p.length_eq, Array.length_toList]
  rw [hR z]
  exact wpAny_pure (q _ p z)
theorem bne_same {m n : Nat} {α : Type} {x y : α} (h : m = n) : (if (m != n) = true then x else y) = y := if_neg (by rw [h, bne_self_eq_false]; exact Bool.false_ne_true)
theorem relay_any {es : Array (Int × Value)} {ep : Nat} {t : SetTable} {Q : Unit → Shared → Prop} (g : s.heap.get? a = some (setObj es ep t)) (K : KeysOf xs es.toList) (T : TabOk w t es.size) (nd : xs.Nodup) (l : xs.length ≤ 40) (hn : n < 100) (lt : es.size ≤ n)
    (q : ∀ (h' : Heap) (es' : Array (Int × Value)) (t' : SetTable), Heap.SameBut a s.heap h' → h'.get? a = some (setObj es' (ep + 1) t') → es'.toList.Perm es.toList → TabOk w t' es'.size → Round (t'.mask + 1) → n ≤ t'.mask → IsSet w h' a xs → Q () { s with heap := h' }) : wpAny (model prog w) A (setRelay a n) Q E s := by
  obtain ⟨R, b1, b2⟩ := round_ok hn
  have e1 : SetTable.sizeAbove n - 1 + 1 = SetTable.sizeAbove n := Nat.sub_add_cancel (Nat.le_trans (Nat.succ_le_succ (Nat.zero_le _)) b1)
  have R' : Round (SetTable.sizeAbove n - 1 + 1) := e1.symm ▸ R
  have lm : n ≤ SetTable.sizeAbove n - 1 := Nat.le_sub_one_of_lt b1
  have sz : (es.map (·.1)).size = es.size := Array.size_map ..
  obtain ⟨t', order, el, L⟩ := laid_ok R' (hs := es.map (·.1)) (sz.symm ▸ Nat.le_trans lt lm) t.finger (t.movedTo (SetTable.sizeAbove n - 1)) t.led t.plain
  rw [sz] at L
  unfold setRelay
  refine wpAny_bind (wpAny_setState_of g rfl T.fits ?_)
  dsimp only
  rw [if_neg (Nat.not_lt.mpr (Nat.le_trans b2 (by decide)))]
  unfold SetTable.relaid
  rw [el]
  refine wpAny_bind (reord_ok L (fun z => bne_same z) fun es' p z => ?_)
  have T' : TabOk w t' es'.size := ⟨z.symm ▸ L.fits, L.led.trans T.led, L.clean⟩
  exact IsSet.store g (K.perm p) T' nd l fun h' sb g' S' => q h' es' t' sb g' p T' (L.mask.symm ▸ R') (L.mask.symm ▸ lm) S'
inductive Blank (w : World) (h : Heap) (a : Addr) (n : Nat) : Prop
  | mk {ep : Nat} {t : SetTable} (g : h.get? a = some (setObj #[] ep t)) (T : TabOk w t 0) (R : Round (t.mask + 1)) (l : n ≤ t.mask) : Blank w h a n
theorem keys_nil : KeysOf [] [] := .mk .nil (.refl _)
theorem room_blank {Q : Unit → Shared → Prop} (g : s.heap.get? a = some (set0 w)) (hn : n ≤ 40) (q : ∀ h', Heap.SameBut a s.heap h' → Blank w h' a n → Q () { s with heap := h' }) : wpAny (model prog w) A (setRoomFor a n) Q E s := by
  have T0 : TabOk w (SetTable.fresh 0 0 (!byText w)) 0 := ⟨rfl, rfl, rfl⟩
  unfold setRoomFor
  refine wpAny_bind (wpAny_setState_of (es := #[]) g rfl rfl ?_)
  show wpAny _ _ (match (if (0 + n) * 5 ≥ 7 * 3 then some ((0 + n) * 2) else none) with | some wanted => setRelay a wanted | x => pure ()) _ _ _
  rw [Nat.zero_add]
  by_cases c : n * 5 ≥ 7 * 3
  · rw [if_pos c]
    refine relay_any (n := n * 2) g (xs := []) keys_nil T0 List.nodup_nil (Nat.zero_le _) (Nat.lt_of_le_of_lt (Nat.mul_le_mul_right 2 hn) (by decide)) (Nat.zero_le _) fun h' es' t' sb g' p T' R' l' _ => q h' sb ?_
    have e : es' = #[] := by
      rw [← Array.toList_inj]
      exact p.eq_nil
    subst e
    exact .mk g' T' R' (Nat.le_trans (Nat.le_mul_of_pos_right n (by decide)) l')
  · rw [if_neg c]
    exact wpAny_pure (q s.heap (.refl a s.heap) (.mk g T0 round8 (show n ≤ 7 by omega)))
theorem fill_blank {t : SetTable} (T : TabOk w t 0) : t.fill = 0 := by
  have f := T.fits
  unfold SetTable.fits at f
  rw [Bool.and_eq_true, beq_iff_eq] at f
  unfold SetTable.fill
  rw [f.1, T.clean]
  rfl
theorem merge_blank {each : Sem Unit} {Q : Unit → Shared → Prop} (g : s.heap.get? a = some (set0 w)) (S : IsSet w s.heap b xs) (n : a ≠ b) (q : ∀ h', Heap.SameBut a s.heap h' → IsSet w h' a xs → (xs = [] → h'.get? a = some (set0 w)) → Q () { s with heap := h' }) : wpAny (model prog w) A (setMerge a b each) Q E s := by
  induction S with
  | @mk es ep t gb K T nd l =>
  have sz := K.length
  rw [Array.length_toList] at sz
  unfold setMerge
  rw [if_neg (by rw [beq_iff_eq]; exact n)]
  refine wpAny_bind (wpAny_setState_of gb rfl T.fits ?_)
  dsimp only
  by_cases c : es.isEmpty = true
  · rw [if_pos c]
    have e : xs = [] := List.eq_nil_of_length_eq_zero (sz.symm.trans (by rw [Array.isEmpty_iff_size_eq_zero.mp c]))
    subst e
    exact wpAny_pure (q s.heap (.refl a s.heap) (set0_is g) fun _ => g)
  · rw [if_neg c]
    have ne : xs ≠ [] := fun e => c (Array.isEmpty_iff_size_eq_zero.mpr (sz.trans (congrArg List.length e)))
    refine wpAny_bind (room_blank g (sz.symm ▸ l) fun h1 sb1 B => ?_)
    induction B with
    | @mk ep1 t1 g1 T1 R1 l1 =>
    refine wpAny_bind (wpAny_setState_of (es := #[]) (s := { s with heap := h1 }) g1 rfl T1.fits ?_)
    have led : (t1.led && t.led) = !byText w := by rw [T1.led, T.led, Bool.and_self]
    show wpAny _ _ (match (if t1.fill != 0 then SetTable.Road.oneByOne else if t1.mask == t.mask && t.dummies.isEmpty then SetTable.Road.slotForSlot else SetTable.Road.clean) with | .slotForSlot => _ | .clean => _ | .oneByOne => _) _ _ _
    rw [fill_blank T1, if_neg (by decide)]
    by_cases c2 : (t1.mask == t.mask && t.dummies.isEmpty) = true
    · rw [if_pos c2]
      exact IsSet.store (s := { s with heap := h1 }) g1 K ⟨T.fits, led, T.clean⟩ nd l fun h2 sb2 _ S2 => q h2 (sb1.trans sb2) S2 fun e => absurd e ne
    · rw [if_neg c2]
      have sm : (es.map (·.1)).size = es.size := Array.size_map ..
      obtain ⟨t', order, el, L⟩ := laid_ok R1 (hs := es.map (·.1)) (sm.symm ▸ l1) t1.finger t1.moves (t1.led && t.led) (t1.plain && t.plain)
      rw [sm] at L
      dsimp only
      rw [el]
      refine wpAny_bind (reord_ok L (fun z => bne_same z) fun es' p z => ?_)
      exact IsSet.store (s := { s with heap := h1 }) g1 (K.perm p) ⟨z.symm ▸ L.fits, L.led.trans led, L.clean⟩ nd l fun h2 sb2 _ S2 => q h2 (sb1.trans sb2) S2 fun e => absurd e ne
end
end Mini
end
section
namespace Mini
open PySem PySem.W PyProof.Rows
section
variable {xs ys zs : List Int} {k : Int}
theorem uni_mem : k ∈ uni xs ys ↔ k ∈ xs ∨ k ∈ ys := by
  induction ys generalizing xs with
  | nil => exact ⟨.inl, fun q => q.elim id fun q => absurd q List.not_mem_nil⟩
  | cons y r ih => exact ih.trans (by rw [ins_mem, List.mem_cons, or_assoc])
theorem uni_nodup (h : xs.Nodup) : (uni xs ys).Nodup := by
  induction ys generalizing xs with
  | nil => exact h
  | cons y r ih => exact ih (ins_nodup h)
theorem uni_len : (uni xs ys).length ≤ xs.length + ys.length := by
  induction ys generalizing xs with
  | nil => exact Nat.le_refl _
  | cons y r ih =>
    refine Nat.le_trans (ih (xs := ins xs y)) ?_
    rw [List.length_cons, ← Nat.add_assoc, Nat.add_right_comm]
    exact Nat.add_le_add_right ins_len _
theorem uni_perm (nd : xs.Nodup) (p : ys.Perm zs) : (uni xs ys).Perm (uni xs zs) :=
  (List.perm_ext_iff_of_nodup (uni_nodup nd) (uni_nodup nd)).mpr fun a => by rw [uni_mem, uni_mem, p.mem_iff]
end
section
variable {prog : Program} {w : World} {A : Around} {E : Value → Shared → Prop} {s : Shared} {h h' : Heap} {a b : Addr} {xs ys : List Int} {k n : Nat}
theorem KeysOf.swap {es : List (Int × Value)} (K : KeysOf xs es) (p : xs.Perm ys) : KeysOf ys es := by induction K with | mk r q => exact .mk r (q.trans p)
theorem IsSet.perm (S : IsSet w h a xs) (p : xs.Perm ys) : IsSet w h a ys := by
  induction S with | mk g K T nd l => exact .mk g (K.swap p) T (p.nodup_iff.mp nd) (p.length_eq ▸ l)
theorem IsSet.short (S : IsSet w h a xs) : xs.length ≤ 40 := by induction S with | mk g K T nd l => exact l
theorem IsSet.nodup (S : IsSet w h a xs) : xs.Nodup := by induction S with | mk g K T nd l => exact nd
theorem IsSet.same (S : IsSet w h a xs) (e : h'.get? a = h.get? a) : IsSet w h' a xs := S.keep fun o q => e.trans q
theorem IsSet.typeIs (S : IsSet w s.heap a xs) : s.TypeIs (.ref a) "set" := by induction S with | mk g K T nd l => exact ⟨_, g, rfl⟩
theorem any_set {Q : Bool → Shared → Prop} (hT : s.TypeIs (.ref a) "set") (q : Q true s) : wpAny (model prog w) A (Builtin.Frozenset.isAnySet (.ref a)) Q E s := by
  unfold Builtin.Frozenset.isAnySet
  exact wpAny_bind (wpAny_isInstance hT sub_set_self (wpAny_pure q))
theorem size_set {Q : Nat → Shared → Prop} (S : IsSet w s.heap a xs) (q : Q xs.length s) : wpAny (model prog w) A (Builtin.Frozenset.sizeOf a) Q E s := by
  induction S with
  | mk g K T nd l =>
  have e := K.length
  rw [Array.length_toList] at e
  unfold Builtin.Frozenset.sizeOf
  exact wpAny_bind (wpAny_bind (wpAny_setState_of g rfl T.fits (wpAny_pure (wpAny_pure (e ▸ q)))))
theorem copy_ok {Q : Value → Shared → Prop} (S : IsSet w s.heap a xs) (q : ∀ h', Ext s.heap h' → IsSet w h' s.heap.objs.size xs → (xs = [] → h'.get? s.heap.objs.size = some (set0 w)) → Q (.ref s.heap.objs.size) { s with heap := h' }) : wpAny (model prog w) A (Builtin.Frozenset.copyOf a) Q E s := by
  have lt : a < s.heap.objs.size := by induction S with | mk g K T nd l => exact Heap.lt_size g
  unfold Builtin.Frozenset.copyOf Builtin.Frozenset.baseOf
  refine wpAny_bind (wpAny_bind (wpAny_isInstance S.typeIs sub_set_self (wpAny_pure ?_)))
  rw [if_pos rfl]
  refine wpAny_bind (newSet_ok ?_)
  refine wpAny_bind (wpAny_pure (wpAny_bind (merge_blank (s := { s with heap := s.heap.push (set0 w) }) (Heap.get?_push_size _ rfl) (S.keep fun o e => Heap.get?_push_of_some _ e) (Nat.ne_of_gt lt) fun h' sb S' z => wpAny_pure (q h' (fun b o e => ?_) S' z))))
  exact (sb.2 b fun z => Nat.lt_irrefl _ (z ▸ Heap.lt_size e)).trans (Heap.get?_push_of_some _ e)
theorem fill_some {t : SetTable} (T : TabOk w t n) (hn : n ≠ 0) : (t.fill != 0) = true := by
  have f := T.fits
  unfold SetTable.fits at f
  rw [Bool.and_eq_true, beq_iff_eq] at f
  unfold SetTable.fill
  rw [f.1, T.clean, bne_iff_ne]
  exact fun z => hn (Nat.add_eq_zero_iff.mp z).1
theorem room_any {Q : Unit → Shared → Prop} (S : IsSet w s.heap a xs) (hx : xs.length + n ≤ 40) (q : ∀ h', Heap.SameBut a s.heap h' → IsSet w h' a xs → Q () { s with heap := h' }) : wpAny (model prog w) A (setRoomFor a n) Q E s := by
  induction S with
  | @mk es ep t g K T nd l =>
  have sz := K.length
  rw [Array.length_toList] at sz
  have f := T.fits
  unfold SetTable.fits at f
  rw [Bool.and_eq_true, beq_iff_eq] at f
  unfold setRoomFor
  refine wpAny_bind (wpAny_setState_of g rfl T.fits ?_)
  dsimp only
  unfold SetTable.roomFor
  rw [f.1, sz]
  by_cases c : (t.fill + n) * 5 ≥ t.mask * 3
  · rw [if_pos c]
    exact relay_any g K T nd l (Nat.lt_of_le_of_lt (Nat.mul_le_mul_right 2 hx) (by decide)) (Nat.le_trans (sz ▸ Nat.le_add_right _ _) (Nat.le_mul_of_pos_right _ (by decide))) fun h' _ _ sb _ _ _ _ _ S => q h' sb S
  · rw [if_neg c]
    exact wpAny_pure (q s.heap (.refl a s.heap) (.mk g K T nd l))
inductive MergeAt (w : World) (s : Shared) (a b : Addr) (goal : List Int) (rest : List (Int × Value)) (s' : Shared) : Prop
  | mk {h : Heap} {zs ks : List Int} (e : s' = { s with heap := h }) (sb : Heap.SameBut a s.heap h) (S : IsSet w h a zs) (r : All2 ElemAt ks rest) (l : zs.length + ks.length ≤ 40) (p : (uni zs ks).Perm goal) : MergeAt w s a b goal rest s'
theorem merge_more {each : Sem Unit} {Q : Unit → Shared → Prop} (he : ∀ (s' : Shared) (Q' : Unit → Shared → Prop), s'.heap.get? b = s.heap.get? b → Q' () s' → wpAny (model prog w) A each Q' E s')
    (S : IsSet w s.heap a xs) (ne : xs ≠ []) (S2 : IsSet w s.heap b ys) (n : a ≠ b) (l : xs.length + ys.length ≤ 40) (q : ∀ h', Heap.SameBut a s.heap h' → IsSet w h' a (uni xs ys) → Q () { s with heap := h' }) : wpAny (model prog w) A (setMerge a b each) Q E s := by
  induction S2 with
  | @mk es ep t gb K T nd l2 =>
  have sz := K.length
  rw [Array.length_toList] at sz
  unfold setMerge
  rw [if_neg (by rw [beq_iff_eq]; exact n)]
  refine wpAny_bind (wpAny_setState_of gb rfl T.fits ?_)
  dsimp only
  by_cases c : es.isEmpty = true
  · rw [if_pos c]
    have e : ys = [] := List.eq_nil_of_length_eq_zero (sz.symm.trans (by rw [Array.isEmpty_iff_size_eq_zero.mp c]))
    subst e
    exact wpAny_pure (q s.heap (.refl a s.heap) S)
  · rw [if_neg c, sz]
    refine wpAny_bind (room_any S l fun h1 sb1 S1 => ?_)
    have nd1 := S1.nodup
    have gb1 := (sb1.2 b n.symm).trans gb
    have S1' := S1
    induction S1 with
    | @mk es1 ep1 t1 g1 K1 T1 nd1 l1 =>
    refine wpAny_bind (wpAny_setState_of (s := { s with heap := h1 }) g1 rfl T1.fits ?_)
    have z1 := K1.length
    rw [Array.length_toList] at z1
    show wpAny _ _ (match (if t1.fill != 0 then SetTable.Road.oneByOne else if t1.mask == t.mask && t.dummies.isEmpty then SetTable.Road.slotForSlot else SetTable.Road.clean) with | .slotForSlot => _ | .clean => _ | .oneByOne => _) _ _ _
    rw [if_pos (fill_some T1 (z1 ▸ fun z => ne (List.eq_nil_of_length_eq_zero z)))]
    refine wpAny_bind (unseen_ok (s := { s with heap := h1 }) (ys := xs) gb1 K T nd l2 (fun c hc => List.mem_singleton.mp hc ▸ ⟨_, S1'⟩) (fun c hc => Option.some.inj hc ▸ S1') fun es' h2 p o => ?_)
    have st : Heap.SameBut a s.heap h2 ∧ IsSet w h2 a xs := by
      rcases o with rfl | ⟨c, e, sb2, S2⟩
      · exact ⟨sb1, S1'⟩
      · obtain rfl := Option.some.inj e
        exact ⟨sb1.trans sb2, S2⟩
    clear o
    obtain ⟨sb2, S2⟩ := st
    refine wpAny_bind (wpAny_forIn_array' _ (fun rest _ s' => MergeAt w s a b (uni xs ys) rest s') _ (fun e rest acc s' I => ?_) (fun acc s' I => ?_) es' _ ?_)
    · induction I with
      | @mk h3 zs ks e sb S r l =>
      subst e
      cases r with
      | cons q r =>
      rename_i k ks
      induction q with
      | mk tk =>
      refine wpAny_bind (wpAny_holding (add_ok (s := { s with heap := h3 }) S ?_ fun h4 sb4 S4 => ?_))
      · exact Nat.lt_of_lt_of_le (Nat.lt_add_of_pos_right (Nat.succ_pos _)) l
      · have gb4 := (sb4.2 b n.symm).trans (sb.2 b n.symm)
        refine wpAny_bind (he _ _ gb4 (wpAny_bind (wpAny_setState_of (s := { s with heap := h4 }) (gb4.trans gb) rfl T.fits ?_)))
        rw [if_neg (by rw [bne_self_eq_false]; exact Bool.false_ne_true)]
        refine wpAny_pure (.mk rfl (sb.trans sb4) S4 r ?_ ‹_›)
        exact Nat.le_trans (Nat.add_le_add_right ins_len _) (by rw [Nat.add_right_comm]; exact l)
    · induction I with
      | mk e sb S r l p =>
      subst e
      cases r with
      | nil => exact wpAny_pure (q _ sb (S.perm p))
    · have K' := K.perm p
      induction K' with
      | mk r p' => exact .mk rfl sb2 S2 r (p'.length_eq ▸ l) (uni_perm S.nodup p')
end
end Mini
end
section
namespace Mini
open PySem PySem.W PyProof.Rows
theorem entry_or : entryFor table "set.__or__" = some Builtin.«frozenset.__or__» := entryFor_alias (id' := "frozenset.__or__") (by kernel_rfl) rfl (by decide +kernel) (by kernel_rfl)
theorem entry_sub : entryFor table "set.__sub__" = some Builtin.«frozenset.__sub__» := entryFor_alias (id' := "frozenset.__sub__") (by kernel_rfl) rfl (by decide +kernel) (by kernel_rfl)
theorem entry_eq : entryFor table "set.__eq__" = some Builtin.«frozenset.__eq__» := entryFor_alias (id' := "frozenset.__eq__") (by kernel_rfl) rfl (by decide +kernel) (by kernel_rfl)
theorem entry_ne : entryFor table "set.__ne__" = some Builtin.«frozenset.__ne__» := entryFor_alias (id' := "frozenset.__ne__") (by kernel_rfl) rfl (by decide +kernel) (by kernel_rfl)
theorem entry_le : entryFor table "set.__le__" = some Builtin.«frozenset.__le__» := entryFor_alias (id' := "frozenset.__le__") (by kernel_rfl) rfl (by decide +kernel) (by kernel_rfl)
section
variable {prog : Program} {w : World} {A : Around} {E : Value → Shared → Prop} {s : Shared} {h h' : Heap} {a b : Addr} {xs ys : List Int} {k n : Nat}
theorem unchanged_ok {id : String} {ep : Nat} {es : Array (Int × Value)} {t : SetTable} {Q : Unit → Shared → Prop} (g : s.heap.get? b = some (setObj es ep t)) (f : t.fits es.size = true) (q : Q () s) : wpAny (model prog w) A (Builtin.Frozenset.unchanged id b ep) Q E s := by
  unfold Builtin.Frozenset.unchanged
  refine wpAny_bind (wpAny_setEpoch_of g rfl f ?_)
  rw [if_neg (by rw [bne_self_eq_false]; exact Bool.false_ne_true)]
  exact wpAny_pure q
theorem update_ok {id : String} {Q : Unit → Shared → Prop} (S : IsSet w s.heap a xs) (z : xs = [] → s.heap.get? a = some (set0 w)) (S2 : IsSet w s.heap b ys) (n : a ≠ b) (l : xs.length + ys.length ≤ 40)
    (q : ∀ h', Heap.SameBut a s.heap h' → IsSet w h' a (uni xs ys) → Q () { s with heap := h' }) : wpAny (model prog w) A (Builtin.Frozenset.updateFrom id a (.ref b)) Q E s := by
  unfold Builtin.Frozenset.updateFrom
  refine wpAny_bind (any_set S2.typeIs ?_)
  rw [if_pos rfl]
  unfold Builtin.Frozenset.merge
  refine wpAny_bind (wpAny_pure ?_)
  have S0 := S2
  induction S2 with
  | @mk es ep t g K T nd l2 =>
  refine wpAny_bind (wpAny_setEpoch_of g rfl T.fits ?_)
  by_cases c : xs = []
  · subst c
    refine merge_blank (z rfl) S0 n fun h' sb S' _ => q h' sb ?_
    refine S'.perm ((List.perm_ext_iff_of_nodup nd (uni_nodup List.nodup_nil)).mpr fun k => ?_)
    rw [uni_mem]
    exact ⟨.inr, fun q => q.elim (fun q => absurd q List.not_mem_nil) fun q => q⟩
  · exact merge_more (fun s' Q' e q => unchanged_ok (e.trans g) T.fits q) S c S0 n l fun h' sb S' => q h' sb S'
theorem uni_nil (h : xs.Nodup) : (uni [] xs).Perm xs := (List.perm_ext_iff_of_nodup (uni_nodup List.nodup_nil) h).mpr fun k => by
  rw [uni_mem]
  exact ⟨fun q => q.elim (fun q => absurd q List.not_mem_nil) id, .inr⟩
theorem IsSet.lt (S : IsSet w h a xs) : a < h.objs.size := by induction S with | mk g K T nd l => exact Heap.lt_size g
theorem set_set {Q : Value → Shared → Prop} (S : IsSet w s.heap b xs) (q : ∀ h', Ext s.heap h' → IsSet w h' s.heap.objs.size xs → Q (.ref s.heap.objs.size) { s with heap := h' }) :
    wpAny (model prog w) A (call (.type "set") [.ref b]) Q E s := by
  refine set_call (F.typeCall_set_1 _) (F.newCall_set_1 _) (fun hT q => check_set_init_1 hT q) ?_
  have hS : (s.heap.push (set0 w)).get? s.heap.objs.size = some (set0 w) := Heap.get?_push_size _ rfl
  have S1 : IsSet w (s.heap.push (set0 w)) b xs := S.keep fun o e => Heap.get?_push_of_some _ e
  have ok := fun {A : Around} {Q : Unit → Shared → Prop} {id : String} => update_ok (prog := prog) (A := A) (E := E) (Q := Q) (id := id) (s := { s with heap := s.heap.push (set0 w) }) (set0_is hS) (fun _ => hS) S1 (Nat.ne_of_gt S.lt) (by rw [List.length_nil, Nat.zero_add]; exact S.short)
  unfold Builtin.«set.__init__» noKeywords
  generalize hU : Builtin.Frozenset.updateFrom = U
  wp_walk
  subst hU
  refine ok fun h' sb S' => wpAny_pure ⟨rfl, q h' (fun c o e => ?_) (S'.perm (uni_nil S.nodup))⟩
  exact (sb.2 c fun z => Nat.lt_irrefl _ (z ▸ Heap.lt_size e)).trans (Heap.get?_push_of_some _ e)
theorem slot_two {nm : String} {u v : Value} {Q : Value × Value → Shared → Prop} (q : Q (u, v) s) : wpAny (model prog w) A (Builtin.Frozenset.slot1 nm ⟨[u, v], []⟩) Q E s := by
  unfold Builtin.Frozenset.slot1 slotArgs
  simp only [List.isEmpty_nil, Bool.not_true, Bool.false_eq_true, ↓reduceIte, List.length_cons, List.length_nil, bne_self_eq_false]
  exact wpAny_bind (wpAny_pure (wpAny_pure q))
theorem both_sets {Q : Bool → Shared → Prop} (ha : s.TypeIs (.ref a) "set") (hb : s.TypeIs (.ref b) "set") (q : Q true s) : wpAny (model prog w) A (Builtin.Frozenset.isAnySet (.ref a) <&&> Builtin.Frozenset.isAnySet (.ref b)) Q E s :=
  wpAny_bind (any_set ha (any_set hb q))
theorem or_ok {Q : Value → Shared → Prop} (S : IsSet w s.heap a xs) (S2 : IsSet w s.heap b ys) (n : a ≠ b) (l : xs.length + ys.length ≤ 40) (q : ∀ h', Ext s.heap h' → IsSet w h' s.heap.objs.size (uni xs ys) → Q (.ref s.heap.objs.size) { s with heap := h' }) :
    wpAny (model prog w) A (binaryOp .BitOr (.ref a) (.ref b)) Q E s := by
  refine wpAny_binaryOp_same S.typeIs S2.typeIs F.fills_set_or F.slot_set_or (wpAny_call_entry F.slot_set_or S.typeIs entry_or ?_ (F.args_set_or_2 _ _))
  unfold Builtin.«frozenset.__or__»
  refine wpAny_bind (slot_two (wpAny_bind (both_sets S.typeIs S2.typeIs ?_)))
  rw [if_neg (by decide)]
  refine wpAny_bind (wpAny_pure (wpAny_bind (wpAny_bind (copy_ok S fun h' ex S' z => ?_))))
  rw [if_pos (by rw [bne_iff_ne]; exact fun e => n (Value.ref.inj e).symm)]
  refine wpAny_bind (wpAny_pure (wpAny_bind (wpAny_holding (update_ok (s := { s with heap := h' }) S' z (S2.keep (ex b)) (Nat.ne_of_gt S2.lt) l fun h'' sb S'' => wpAny_pure ?_))))
  refine wpAny_pure ⟨_, rfl, nofun, q _ (fun c o e => ?_) S''⟩
  exact (sb.2 c fun z => Nat.lt_irrefl _ (z ▸ Heap.lt_size e)).trans (ex c o e)
inductive DiffAt (w : World) (s : Shared) (a : Addr) (p : Int → Bool) (goal : List Int) (rest : List (Int × Value)) (s' : Shared) : Prop
  | mk {h : Heap} {zs ks : List Int} (e : s' = { s with heap := h }) (sb : Heap.SameBut a s.heap h) (S : IsSet w h a zs) (r : All2 ElemAt ks rest) (l : zs.length + ks.length ≤ 40) (g : (uni zs (ks.filter p)).Perm goal) : DiffAt w s a p goal rest s'
theorem take_none {id : String} {Q : Unit → Shared → Prop} (S : IsSet w s.heap a xs) (S2 : IsSet w s.heap b []) (n : a ≠ b) (q : Q () s) : wpAny (model prog w) A (Builtin.Frozenset.differenceUpdate id a (.ref b)) Q E s := by
  unfold Builtin.Frozenset.differenceUpdate
  rw [if_neg (by rw [beq_iff_eq]; exact fun e => n (Value.ref.inj e).symm)]
  refine wpAny_bind (any_set S2.typeIs ?_)
  rw [if_pos rfl]
  refine wpAny_bind (wpAny_pure (wpAny_bind (size_set S2 (wpAny_bind (size_set S ?_)))))
  rw [if_neg (by rw [List.length_nil, Nat.zero_div]; exact Nat.not_lt_zero _)]
  have S0 := S2
  induction S2 with
  | @mk es ep t g K T nd l2 =>
  refine wpAny_bind (wpAny_setEpoch_of g rfl T.fits (wpAny_bind (wpAny_holding (wpAny_bind (unseen_ok (ys := []) g K T nd l2 (fun c hc => List.mem_singleton.mp hc ▸ ⟨_, S⟩) nofun fun es' h' p o => ?_)))))
  rcases o with rfl | ⟨c, e, _⟩
  · have e : es' = #[] := by
      have z := (K.perm p).length
      rw [← Array.toList_inj]
      exact List.eq_nil_of_length_eq_zero z
    subst e
    refine wpAny_bind (wpAny_pure (wpAny_pure ?_))
    unfold setTidy
    induction S with
    | mk ga Ka Ta nda la =>
    refine wpAny_bind (wpAny_setState_of ga rfl Ta.fits ?_)
    dsimp only
    unfold SetTable.tooManyDummies
    rw [Ta.clean, if_neg (by rw [decide_eq_true_iff]; exact Nat.not_lt_zero _)]
    exact wpAny_pure q
  · exact absurd e nofun
theorem sub_ok {Q : Value → Shared → Prop} (S : IsSet w s.heap a xs) (S2 : IsSet w s.heap b ys) (l : xs.length < 8) (q : ∀ h', Ext s.heap h' → IsSet w h' s.heap.objs.size (xs.filter fun k => !ys.contains k) → Q (.ref s.heap.objs.size) { s with heap := h' }) :
    wpAny (model prog w) A (binaryOp .Sub (.ref a) (.ref b)) Q E s := by
  refine wpAny_binaryOp_same S.typeIs S2.typeIs F.fills_set_sub F.slot_set_sub (wpAny_call_entry F.slot_set_sub S.typeIs entry_sub ?_ (F.args_set_sub_2 _ _))
  unfold Builtin.«frozenset.__sub__»
  refine wpAny_bind (slot_two (wpAny_bind (both_sets S.typeIs S2.typeIs ?_)))
  rw [if_neg (by decide)]
  refine wpAny_bind (wpAny_pure (wpAny_bind ?_))
  unfold Builtin.Frozenset.difference
  refine wpAny_bind (any_set S2.typeIs ?_)
  rw [if_neg (by decide)]
  refine wpAny_bind (m := Builtin.Frozenset.addrOf (.ref b)) (wpAny_pure ?_)
  rw [if_neg (by exact Bool.false_ne_true), if_pos rfl]
  refine wpAny_bind (size_set S2 (wpAny_bind (size_set S ?_)))
  by_cases c : xs.length / 4 > ys.length
  · rw [if_pos c]
    have e : ys = [] := List.eq_nil_of_length_eq_zero (Nat.lt_one_iff.mp (Nat.lt_of_lt_of_le c (Nat.le_of_lt_succ (Nat.div_lt_of_lt_mul l))))
    subst e
    refine wpAny_bind (wpAny_rule (wpAny_bind (copy_ok S fun h' ex S' _ => wpAny_bind (wpAny_pure (wpAny_bind (wpAny_holding (take_none (s := { s with heap := h' }) S' (S2.keep (ex b)) (Nat.ne_of_gt S2.lt) (wpAny_pure (wpAny_pure ⟨_, rfl, nofun, q h' ex ?_⟩)))))))))
    have e : (xs.filter fun k => !([] : List Int).contains k) = xs := List.filter_eq_self.mpr fun _ _ => rfl
    rw [e]
    exact S'
  · rw [if_neg c]
    unfold Builtin.Frozenset.baseOf
    refine wpAny_bind (wpAny_bind (wpAny_isInstance S.typeIs sub_set_self (wpAny_pure ?_)))
    rw [if_pos rfl]
    refine wpAny_bind (newSet_ok (wpAny_bind (wpAny_pure ?_)))
    have ex : Ext s.heap (s.heap.push (set0 w)) := .push _ _
    have R := set0_is (w := w) (h := s.heap.push (set0 w)) (Heap.get?_push_size _ rfl)
    have B := S2.keep (ex b)
    have na := Nat.ne_of_lt S.lt
    have nb := Nat.ne_of_lt S2.lt
    have X := S.keep (ex a)
    clear ex
    induction X with
    | @mk es ep t g K T nd l2 =>
    refine wpAny_bind (wpAny_setEpoch_of (s := { s with heap := s.heap.push (set0 w) }) g rfl T.fits (wpAny_bind (wpAny_holding ?_)))
    rw [if_pos rfl]
    refine wpAny_bind (unseen_ok (s := { s with heap := s.heap.push (set0 w) }) (ys := []) g K T nd l2 (fun c hc => (List.mem_cons.mp hc).elim (fun z => ⟨_, z ▸ B⟩) fun hc => List.mem_singleton.mp hc ▸ ⟨_, R⟩) (fun c hc => Option.some.inj hc ▸ R) fun es' h2 p o => ?_)
    have st : Heap.SameBut s.heap.objs.size (s.heap.push (set0 w)) h2 ∧ IsSet w h2 s.heap.objs.size [] := by
      rcases o with rfl | ⟨c, e, sb2, S2⟩
      · exact ⟨.refl _ _, R⟩
      · obtain rfl := Option.some.inj e
        exact ⟨sb2, S2⟩
    clear o
    obtain ⟨sb2, R2⟩ := st
    refine wpAny_bind (wpAny_forIn_array' _ (fun rest _ s' => DiffAt w { s with heap := s.heap.push (set0 w) } s.heap.objs.size (fun k => !ys.contains k) (xs.filter fun k => !ys.contains k) rest s') _ (fun e rest acc s' I => ?_) (fun acc s' I => ?_) es' _ ?_)
    · induction I with
      | @mk h3 zs ks e sb R r l gl =>
      subst e
      cases r with
      | cons q r =>
      rename_i k ks
      induction q with
      | mk tk =>
      have B3 := B.same (sb.2 b nb)
      have ga := (sb.2 a na).trans g
      refine wpAny_bind (wpAny_holding (wpAny_bind (wpAny_setFind_of (knd := intKind prog w) (s := { s with heap := h3 }) (k := k) (intKind_is _ _ _ tk) rfl B3.setOf fun f hf => wpAny_bind (wpAny_pure ?_))))
      rw [hf]
      by_cases c : k ∈ ys
      · rw [decide_eq_true c]
        show wpAny _ _ (if (!true) = true then _ else _) _ _ _
        rw [if_neg (by decide)]
        refine wpAny_pure (wpAny_bind (unchanged_ok (s := { s with heap := h3 }) ga T.fits (wpAny_pure (.mk rfl sb R r ?_ ?_))))
        · exact Nat.le_trans (Nat.add_le_add_left (Nat.le_succ _) _) l
        · rw [List.filter_cons_of_neg (by rw [List.contains_iff_mem.mpr c]; exact Bool.false_ne_true)] at gl
          exact gl
      · rw [decide_eq_false c]
        show wpAny _ _ (if (!false) = true then _ else _) _ _ _
        rw [if_pos (by decide)]
        refine wpAny_bind (add_ok (s := { s with heap := h3 }) R ?_ fun h4 sb4 R4 => wpAny_pure (wpAny_bind (unchanged_ok (s := { s with heap := h4 }) ((sb4.2 a na).trans ga) T.fits (wpAny_pure (.mk rfl (sb.trans sb4) R4 r ?_ ?_)))))
        · exact Nat.lt_of_lt_of_le (Nat.lt_add_of_pos_right (Nat.succ_pos _)) l
        · exact Nat.le_trans (Nat.add_le_add_right ins_len _) (by rw [Nat.add_right_comm]; exact l)
        · rw [List.filter_cons_of_pos (by rw [Bool.eq_false_iff.mpr fun z => c (List.contains_iff_mem.mp z)]; rfl)] at gl
          exact gl
    · induction I with
      | mk e sb S r l p =>
      subst e
      cases r with
      | nil => exact wpAny_pure (wpAny_pure (wpAny_pure ⟨_, rfl, nofun, q _ (fun c o e => (sb.2 c fun z => Nat.lt_irrefl _ (z ▸ Heap.lt_size e)).trans (Heap.get?_push_of_some _ e)) (S.perm p)⟩))
    · have K' := K.perm p
      induction K' with
      | mk r p' => exact .mk rfl sb2 R2 r (by rw [List.length_nil, Nat.zero_add, p'.length_eq]; exact S.short) ((uni_perm List.nodup_nil (p'.filter _)).trans (uni_nil (S.nodup.filter _)))
end
end Mini
end
section
namespace Mini
open PySem PySem.W PyProof.Rows
section
variable {prog : Program} {w : World} {A : Around} {E : Value → Shared → Prop} {s : Shared} {h h' : Heap} {a b : Addr} {xs ys : List Int} {k n : Nat}
theorem short_sub (nd : xs.Nodup) (m : ∀ k ∈ xs, k ∈ ys) : xs.length ≤ ys.length := by
  induction xs generalizing ys with
  | nil => exact Nat.zero_le _
  | cons x r ih =>
    obtain ⟨n, nd⟩ := List.nodup_cons.mp nd
    have hx := m x List.mem_cons_self
    have z := ih (ys := ys.erase x) nd fun k hk => (List.mem_erase_of_ne (show k ≠ x from fun e => n (e ▸ hk))).mpr (m k (List.mem_cons_of_mem _ hk))
    rw [List.length_erase_of_mem hx] at z
    exact Nat.add_le_of_le_sub (List.length_pos_of_mem hx) z
theorem subs_mem : subs xs ys = true ↔ ∀ k ∈ xs, k ∈ ys := List.all_eq_true.trans ⟨fun z k hk => List.contains_iff_mem.mp (z k hk), fun z k hk => List.contains_iff_mem.mpr (z k hk)⟩
theorem subs_long (nd : xs.Nodup) (l : xs.length > ys.length) : subs xs ys = false := Bool.eq_false_iff.mpr fun z => absurd (short_sub nd (subs_mem.mp z)) (Nat.not_le.mpr l)
theorem quiet_int {x : Int} {t : Tok} : Builtin.Frozenset.quietEq (.int x t) = pure true := rfl
theorem unseen_list {Q : List (Int × Value) → Shared → Prop} (S : IsSet w s.heap a xs) (S2 : IsSet w s.heap b ys) (q : ∀ es : List (Int × Value), KeysOf xs es → Q es s) : wpAny (model prog w) A (Builtin.Frozenset.walkUnseen a b) Q E s := by
  unfold Builtin.Frozenset.walkUnseen
  induction S with
  | @mk es ep t g K T nd l =>
  induction S2 with
  | @mk es2 ep2 t2 g2 K2 T2 nd2 l2 =>
  refine wpAny_bind (wpAny_setEntries_of g rfl T.fits (wpAny_bind (wpAny_setEntries_of g2 rfl T2.fits (wpAny_bind (wpAny_forIn_list _ (fun rest acc s'' => acc = (none, ()) ∧ s'' = s ∧ ∀ e ∈ rest, ∃ k t, e = (hashInt k, Value.int k t)) _ (fun e rest acc s'' I => ?_) (fun acc s'' I => ?_) _ _ ⟨rfl, rfl, fun e he => ?_⟩)))))
  · obtain ⟨rfl, rfl, sub2⟩ := I
    obtain ⟨k, t, rfl⟩ := sub2 e List.mem_cons_self
    exact wpAny_pure ⟨rfl, rfl, fun e he => sub2 e (List.mem_cons_of_mem _ he)⟩
  · obtain ⟨rfl, rfl, _⟩ := I
    exact wpAny_pure (q _ K)
  · exact (List.mem_append.mp he).elim (fun he => let ⟨k, t, e, _⟩ := int_elem K he; ⟨k, t, e⟩) fun he => let ⟨k, t, e, _⟩ := int_elem K2 he; ⟨k, t, e⟩
theorem subset_ok {id : String} {Q : Bool → Shared → Prop} (S : IsSet w s.heap a xs) (S2 : IsSet w s.heap b ys) (q : Q (subs xs ys) s) : wpAny (model prog w) A (Builtin.Frozenset.subsetOf id a b) Q E s := by
  unfold Builtin.Frozenset.subsetOf
  refine wpAny_bind (size_set S (wpAny_bind (size_set S2 ?_)))
  by_cases c : xs.length > ys.length
  · rw [if_pos c]
    rw [subs_long S.nodup c] at q
    exact wpAny_pure q
  · rw [if_neg c]
    have S0 := S
    induction S0 with
    | @mk es ep t g K T nd l =>
    refine wpAny_bind (wpAny_setEpoch_of g rfl T.fits (wpAny_bind (unseen_list S S2 fun es' K' => wpAny_bind (wpAny_forIn_list _ (fun rest acc s' => acc = (none, ()) ∧ s' = s ∧ ∃ ks, All2 ElemAt ks rest ∧ subs ks ys = subs xs ys) _ (fun e rest acc s' I => ?_) (fun acc s' I => ?_) _ _ ?_))))
    · obtain ⟨rfl, rfl, ks, r, e⟩ := I
      cases r with
      | @cons k _ ks _ q' r =>
      induction q' with
      | mk tk =>
      refine wpAny_bind (wpAny_holding (wpAny_setFind_of (knd := intKind prog w) (k := k) (intKind_is _ _ _ tk) rfl S2.setOf fun f hf => ?_))
      by_cases c : k ∈ ys
      · rw [decide_eq_true c] at hf
        rw [if_neg (by rw [Option.isNone_iff_eq_none]; exact fun z => ff ((congrArg Option.isSome z).symm.trans hf))]
        refine wpAny_bind (unchanged_ok g T.fits (wpAny_pure ⟨rfl, rfl, ks, r, ?_⟩))
        rw [← e]
        unfold subs
        rw [List.all_cons, List.contains_iff_mem.mpr c, Bool.true_and]
      · rw [decide_eq_false c] at hf
        have e' : subs (k :: ks) ys = false := by
          unfold subs
          rw [List.all_cons, Bool.eq_false_iff.mpr fun z => c (List.contains_iff_mem.mp z), Bool.false_and]
        rw [← e, e'] at q
        rw [if_pos (by rw [Option.isNone_iff_eq_none]; exact Option.not_isSome_iff_eq_none.mp (by rw [hf]; exact Bool.false_ne_true))]
        exact wpAny_pure (wpAny_pure q)
    · obtain ⟨rfl, rfl, ks, r, e⟩ := I
      cases r with
      | nil =>
      rw [← e] at q
      exact wpAny_pure q
    · induction K' with
      | mk r p => exact ⟨rfl, rfl, _, r, p.all_eq⟩
theorem le_ok {Q : Value → Shared → Prop} (S : IsSet w s.heap a xs) (S2 : IsSet w s.heap b ys) (hu : A.units < cLine) (q : Q (.bool (subs xs ys)) s) : wpAny (model prog w) A (richCompare .LtE (.ref a) (.ref b)) Q E s := by
  refine wpAny_richCompare_same_or S.typeIs S2.typeIs F.slot_set_le (wpAny_call_entry F.slot_set_le S.typeIs entry_le ?_ (F.args_set_le_2 _ _)) (.inr hu)
  unfold Builtin.«frozenset.__le__»
  refine wpAny_bind (slot_two (wpAny_bind (any_set S2.typeIs ?_)))
  rw [if_neg (by exact Bool.false_ne_true)]
  refine wpAny_bind (wpAny_pure (wpAny_bind (wpAny_pure (wpAny_bind (size_set S (wpAny_bind (size_set S2 ?_)))))))
  exact wpAny_bind (subset_ok S S2 (wpAny_pure ⟨_, rfl, nofun, q⟩))
theorem same_core {id : String} {F : Bool → Sem Bool} {Q : Bool → Shared → Prop} (S : IsSet w s.heap a xs) (S2 : IsSet w s.heap b ys) (hF : F false = Builtin.Frozenset.subsetOf id a b) (q : Q (same xs ys) s) :
    wpAny (model prog w) A (if (xs.length != ys.length) = true then pure false else (isInstance (.ref a) (.type "frozenset") <&&> isInstance (.ref b) (.type "frozenset")) >>= F) Q E s := by
  unfold same at q
  by_cases c : xs.length = ys.length
  · rw [if_neg (by rw [c, bne_self_eq_false]; exact Bool.false_ne_true)]
    rw [beq_iff_eq.mpr c, Bool.true_and] at q
    refine wpAny_bind (wpAny_bind (wpAny_isInstance S.typeIs PySem.F.sub_set_frozenset (wpAny_pure ?_)))
    rw [hF]
    exact subset_ok S S2 q
  · rw [if_pos (bne_iff_ne.mpr c)]
    rw [beq_eq_false_iff_ne.mpr c, Bool.false_and] at q
    exact wpAny_pure q
theorem eq_ok {Q : Value → Shared → Prop} (S : IsSet w s.heap a xs) (S2 : IsSet w s.heap b ys) (hu : A.units < cLine) (q : Q (.bool (same xs ys)) s) : wpAny (model prog w) A (richCompare .Eq (.ref a) (.ref b)) Q E s := by
  refine wpAny_richCompare_same_or S.typeIs S2.typeIs F.slot_set_eq (wpAny_call_entry F.slot_set_eq S.typeIs entry_eq ?_ (F.args_set_eq_2 _ _)) (.inr hu)
  unfold Builtin.«frozenset.__eq__»
  refine wpAny_bind (slot_two (wpAny_bind (any_set S2.typeIs ?_)))
  rw [if_neg (by exact Bool.false_ne_true)]
  refine wpAny_bind (wpAny_pure (wpAny_bind (wpAny_pure (wpAny_bind (size_set S (wpAny_bind (size_set S2 (wpAny_bind ?_))))))))
  exact same_core S S2 rfl (wpAny_pure ⟨_, rfl, nofun, q⟩)
theorem ne_ok {Q : Value → Shared → Prop} (S : IsSet w s.heap a xs) (S2 : IsSet w s.heap b ys) (hu : A.units < cLine) (q : Q (.bool (!same xs ys)) s) : wpAny (model prog w) A (richCompare .NotEq (.ref a) (.ref b)) Q E s := by
  refine wpAny_richCompare_same_or S.typeIs S2.typeIs F.slot_set_ne (wpAny_call_entry F.slot_set_ne S.typeIs entry_ne ?_ (F.args_set_ne_2 _ _)) (.inr hu)
  unfold Builtin.«frozenset.__ne__»
  refine wpAny_bind (slot_two (wpAny_bind (any_set S2.typeIs ?_)))
  rw [if_neg (by exact Bool.false_ne_true)]
  refine wpAny_bind (wpAny_pure (wpAny_bind (wpAny_pure (wpAny_bind (size_set S (wpAny_bind (size_set S2 (wpAny_bind ?_))))))))
  exact same_core S S2 rfl (wpAny_pure ⟨_, rfl, nofun, q⟩)
theorem len_ok {Q : Value → Shared → Prop} (S : IsSet w s.heap a xs) (q : Q (.int xs.length (s.toks + 1)) { s with toks := s.toks + 1 + 1 }) : wpAny (model prog w) A (call (.builtin "len") [.ref a]) Q E s := by
  induction S with
  | mk g K T nd l =>
  have e := K.length
  rw [Array.length_toList] at e
  exact call_len_set g ⟨rfl, rfl, rfl⟩ rfl T.fits (e ▸ Int.lt_of_le_of_lt (Int.ofNat_le.mpr l) (by decide)) (e ▸ q)
theorem in_ok {Q : Value → Shared → Prop} {k : Int} {t : Tok} (S : IsSet w s.heap a xs) (q : Q (.bool (xs.contains k)) { s with toks := s.toks + 1 }) : wpAny (model prog w) A (compareOp .In (.int k t) (.ref a)) Q E s :=
  wpAny_inSet_of (knd := intKind prog w) (intKind_is _ _ _ t) rfl S.setOf (List.elem_eq_mem k xs ▸ q)
theorem notIn_ok {Q : Value → Shared → Prop} {k : Int} {t : Tok} (S : IsSet w s.heap a xs) (q : Q (.bool (!xs.contains k)) { s with toks := s.toks + 1 }) : wpAny (model prog w) A (compareOp .NotIn (.int k t) (.ref a)) Q E s :=
  wpAny_notInSet_of (knd := intKind prog w) (intKind_is _ _ _ t) rfl S.setOf (List.elem_eq_mem k xs ▸ q)
end
end Mini
end
section
namespace Mini
open PySem PySem.W PyProof.Rows
theorem slot_setit_next : Slot "set_iterator" "__next__" "set_iterator.__next__" :=
  .of (owner := "set_iterator") (n := "__next__") (by rw [typeLookup_type, builtinLookup_eq_fast]; kernel_rfl) (by decide +kernel) (by decide +kernel) (by decide +kernel)
    (by first | exact .inl (by decide +kernel) | exact .inr (by decide +kernel)) (by rw [isSubtype_type]; kernel_rfl)
theorem slot_setit_iter : Slot "set_iterator" "__iter__" "set_iterator.__iter__" :=
  .of (owner := "set_iterator") (n := "__iter__") (by rw [typeLookup_type, builtinLookup_eq_fast]; kernel_rfl) (by decide +kernel) (by decide +kernel) (by decide +kernel)
    (by first | exact .inl (by decide +kernel) | exact .inr (by decide +kernel)) (by rw [isSubtype_type]; kernel_rfl)
theorem entry_set_iter' : entryFor table "set.__iter__" = some Builtin.«frozenset.__iter__» := entryFor_alias (id' := "frozenset.__iter__") (by kernel_rfl) rfl (by decide +kernel) (by kernel_rfl)
theorem entry_setit_next : entryFor table "set_iterator.__next__" = some Builtin.«set_iterator.__next__» := entryFor_of_tree (by kernel_rfl)
theorem entry_setit_iter : entryFor table "set_iterator.__iter__" = some Builtin.«dict_keyiterator.__iter__» := entryFor_alias (id' := "dict_keyiterator.__iter__") (by kernel_rfl) rfl (by decide +kernel) (by kernel_rfl)
theorem args_setit_next (a : Value) : argsOk "set_iterator.__next__" ⟨[a], []⟩ := by unfold argsOk; kernel_rfl
theorem args_setit_iter (a : Value) : argsOk "set_iterator.__iter__" ⟨[a], []⟩ := by unfold argsOk; kernel_rfl
noncomputable abbrev itObj (a : Addr) (slot i ep : Nat) : Obj := { cls := .type "set_iterator", data := .fields #[.int slot 0, .int i 0, .ref a, .int 1 0, .int ep 0] }
inductive One (w : World) (it a : Addr) (e : Int × Value) (i : Nat) (h : Heap) : Prop
  | mk {ep : Nat} {t : SetTable} {p slot : Nat} (g : h.get? it = some (itObj a slot i ep)) (ga : h.get? a = some (setObj #[e] ep t)) (T : TabOk w t 1) (hp : t.place = #[p]) (hs : byText w = true ∨ SetTable.below #[p] slot = i) : One w it a e i h
theorem below_zero {p : Nat} : SetTable.below #[p] 0 = 0 := rfl
theorem below_next {p : Nat} : SetTable.below #[p] (p + 1) = 1 := by
  simp [SetTable.below, SetTable.below.go]
section
variable {prog : Program} {w : World} {A : Around} {E : Value → Shared → Prop} {s : Shared} {h h' : Heap} {it a b : Addr} {xs ys : List Int} {k n i : Nat} {e : Int × Value}
theorem next_one {ep slot p : Nat} {t : SetTable} {Q : Option (Value × Nat) → Shared → Prop} (ga : s.heap.get? a = some (setObj #[e] ep t)) (T : TabOk w t 1) (hp : t.place = #[p]) (hs : byText w = true ∨ SetTable.below #[p] slot = i)
    (q0 : i = 0 → ∀ slot', (byText w = true ∨ SetTable.below #[p] slot' = 1) → Q (some (e.2, slot')) s) (q1 : i = 1 → Q none s) (hi : i ≤ 1) : wpAny (model prog w) A (setNext a slot i ep) Q E s := by
  unfold setNext
  refine wpAny_bind (wpAny_setState_of ga rfl T.fits ?_)
  unfold setsByText
  refine wpAny_bind (wpAny_bind (wpAny_askSetting (wpAny_pure ?_)))
  by_cases nt : byText w = true
  · show wpAny _ _ (if byText w = true then _ else _) _ _ _
    rw [if_pos nt, if_neg (by rw [bne_self_eq_false]; exact Bool.false_ne_true)]
    refine wpAny_bind (walk_ok ga T (by rw [nt]; rfl) fun es' pm => wpAny_pure ?_)
    have z : es' = #[e] := by
      rw [← Array.toList_inj]
      exact List.perm_singleton.mp pm
    subst z
    rcases i with _ | _ | i
    · exact q0 rfl slot (.inl nt)
    · exact q1 rfl
    · exact absurd (Nat.le_of_succ_le_succ hi) (Nat.not_succ_le_zero i)
  · have nf := Bool.eq_false_iff.mpr nt
    have hs := hs.resolve_left nt
    show wpAny _ _ (if byText w = true then _ else (if (!t.plain && decide (1 > 1)) = true then _ else (if (!t.led && !Array.isEmpty #[e]) = true then unsupported "set:maker-not-led" else pure ()) >>= fun _ => pure (match (#[e] : Array (Int × Value))[SetTable.below t.place slot]?, t.place[SetTable.below t.place slot]? with | some (_, x), some j => some (x, j + 1) | _, _ => none))) _ _ _
    rw [if_neg nt, if_neg (by rw [decide_eq_false (Nat.lt_irrefl 1), Bool.and_false]; exact Bool.false_ne_true), T.led, nf, if_neg (show ¬ ((!!false && !Array.isEmpty #[e]) = true) from Bool.false_ne_true), hp, hs]
    refine wpAny_bind (wpAny_pure (wpAny_pure ?_))
    rcases i with _ | _ | i
    · exact q0 rfl _ (.inr below_next)
    · exact q1 rfl
    · exact absurd (Nat.le_of_succ_le_succ hi) (Nat.not_succ_le_zero i)
theorem One.typeIs (O : One w it a e i s.heap) : s.TypeIs (.ref it) "set_iterator" := by induction O with | mk g _ _ _ _ => exact ⟨_, g, rfl⟩
theorem stop_set {Q : Option Value → Shared → Prop} (hh : A.handled = none) (O : One w it a e 1 s.heap) (q : ∀ h' tk, (∀ b o, b ∉ [it] → s.heap.get? b = some o → h'.get? b = some o) → Q none { s with heap := h', toks := tk }) : wpAny (model prog w) A (pyNext (.ref it)) Q E s := by
  have hT := O.typeIs
  induction O with
  | @mk ep t p slot g ga T hp hs =>
  unfold pyNext
  refine wpAny_bind (wpAny_attempt (wpAny_callSpecial?_slot (name := Str.ofString "__next__") hT slot_setit_next
    (wpAny_call_entry slot_setit_next hT entry_setit_next ?_ (args_setit_next _))))
  unfold Builtin.«set_iterator.__next__»
  refine wpAny_bind (wpAny_pure (wpAny_bind (wpAny_fieldsOf g rfl ?_)))
  refine wpAny_bind (wpAny_setEntries_of ga rfl T.fits ?_)
  show wpAny _ _ (if (((1 : Nat) : Int) != 1) = true then _ else _) _ _ _
  rw [if_neg (by decide)]
  refine wpAny_bind (next_one ga T hp hs (fun z => absurd z (by decide)) (fun _ => ?_) (Nat.le_refl 1))
  refine wpAny_bind (wpAny_setField g rfl (show 2 < 5 by decide) ?_)
  refine wpAny_bind ?_
  simp only [newExc, newTuple]
  refine wpAny_bind (wpAny_newObj_type ?_ (by size_fits))
  refine wpAny_bind (m := firstArgMember _ _) (wpAny_of_eq (a := Value.none) (by first | rfl | (simp only [firstArgMember]; rfl)) ?_)
  refine wpAny_newObj_type ?_ (by size_fits)
  simp only [raiseNew]
  refine wpAny_bind (wpAny_handled ?_)
  rw [show A.in1.handled = none from hh]
  refine wpAny_bind (wpAny_pure (wpAny_throw ?_))
  refine wpAny_bind (wpAny_isInstance (T := "StopIteration") (b := true) ⟨_, Heap.get?_push_size _ rfl, rfl⟩ isSubtype_stop ?_)
  refine wpAny_pure (q _ _ fun b o hb e => ?_)
  exact Heap.get?_push_of_some _ (Heap.get?_push_of_some _ (((Heap.SameBut.update ..).2 b fun z => hb (z ▸ List.mem_singleton_self _)).trans e))
theorem item_set {Q : Option Value → Shared → Prop} (n : it ≠ a) (O : One w it a e 0 s.heap) (q : ∀ h', One w it a e 1 h' → (∀ b o, b ∉ [it] → s.heap.get? b = some o → h'.get? b = some o) → Q (some e.2) { s with heap := h' }) : wpAny (model prog w) A (pyNext (.ref it)) Q E s := by
  have hT := O.typeIs
  induction O with
  | @mk ep t p slot g ga T hp hs =>
  unfold pyNext
  refine wpAny_bind (wpAny_attempt (wpAny_callSpecial?_slot (name := Str.ofString "__next__") hT slot_setit_next
    (wpAny_call_entry slot_setit_next hT entry_setit_next ?_ (args_setit_next _))))
  unfold Builtin.«set_iterator.__next__»
  refine wpAny_bind (wpAny_pure (wpAny_bind (wpAny_fieldsOf g rfl ?_)))
  refine wpAny_bind (wpAny_setEntries_of ga rfl T.fits ?_)
  show wpAny _ _ (if (((1 : Nat) : Int) != 1) = true then _ else _) _ _ _
  rw [if_neg (by decide)]
  refine wpAny_bind (next_one ga T hp hs (fun _ slot' hs' => ?_) (fun z => absurd z (by decide)) (Nat.zero_le 1))
  refine wpAny_bind (wpAny_setField g rfl (show 0 < 5 by decide) ?_)
  have g1 : (s.heap.update it (Obj.mapFields (·.setIfInBounds 0 (rawInt slot')))).get? it = some (itObj a slot' 0 ep) := Heap.get?_update_self _ g rfl
  refine wpAny_bind (wpAny_setField (s := { s with heap := s.heap.update it (Obj.mapFields (·.setIfInBounds 0 (rawInt slot'))) }) g1 rfl (show 1 < 5 by decide) ?_)
  have g2 : ((s.heap.update it (Obj.mapFields (·.setIfInBounds 0 (rawInt slot')))).update it (Obj.mapFields (·.setIfInBounds 1 (rawInt 1)))).get? it = some (itObj a slot' 1 ep) := Heap.get?_update_self _ g1 rfl
  have sb := (Heap.SameBut.update s.heap it (Obj.mapFields (·.setIfInBounds 0 (rawInt slot')))).trans (Heap.SameBut.update _ it (Obj.mapFields (·.setIfInBounds 1 (rawInt 1))))
  exact wpAny_pure ⟨_, rfl, wpAny_pure (q _ (.mk g2 ((sb.2 a n.symm).trans ga) T hp hs') fun b o hb e => (sb.2 b fun z => hb (z ▸ List.mem_singleton_self _)).trans e)⟩
theorem self_set {Q : Value → Shared → Prop} (O : One w it a e i s.heap) (q : Q (.ref it) s) : wpAny (model prog w) A (pyIter (.ref it)) Q E s := by
  refine wpAny_pyIter_slot O.typeIs slot_setit_iter (wpAny_call_entry slot_setit_iter O.typeIs entry_setit_iter ?_ (args_setit_iter _))
  show wpAny _ _ (ret (.ref it)) _ _ s
  exact wpAny_pure ⟨_, rfl, "set_iterator", _, O.typeIs, slot_setit_next.lookup, q⟩
theorem One.walks (hh : A.handled = none) (n : it ≠ a) : Walks prog w A it [it, a] [it] 1 (fun _ v => v = e.2) (One w it a e) where
  sub := fun b hb => List.mem_singleton.mp hb ▸ List.mem_cons_self
  frame := fun i h h' O k => by induction O with | mk g ga T hp hs => exact .mk (k it List.mem_cons_self _ g) (k a (List.mem_cons_of_mem _ List.mem_cons_self) _ ga) T hp hs
  item := fun i s Q E hi O q => by
    obtain rfl := Nat.lt_one_iff.mp hi
    exact item_set n O fun h' O' sb => q _ h' s.toks rfl O' sb
  done := fun s Q E O q => stop_set hh O q
  self := fun i s Q E O q => self_set O q
theorem iter_one {x : Int} {Q : Value → Shared → Prop} (S : IsSet w s.heap a [x]) (q : ∀ h' t, One w s.heap.objs.size a (hashInt x, .int x t) 0 h' → (∀ b o, s.heap.get? b = some o → h'.get? b = some o) → h'.objs.size = s.heap.objs.size + 1 → Q (.ref s.heap.objs.size) { s with heap := h' }) :
    wpAny (model prog w) A (pyIter (.ref a)) Q E s := by
  refine wpAny_pyIter_slot S.typeIs F.slot_set_iter (wpAny_call_entry F.slot_set_iter S.typeIs entry_set_iter' ?_ (F.args_set_iter_1 _))
  unfold Builtin.«frozenset.__iter__»
  have S0 := S
  induction S with
  | @mk es ep t g K T nd l =>
  have one : ∃ tk, es = #[(hashInt x, .int x tk)] := by
    induction K with
    | mk r p =>
    obtain rfl := List.perm_singleton.mp p
    rcases es with ⟨es⟩
    cases r with
    | cons q r =>
    cases r
    induction q with
    | mk tk => exact ⟨tk, rfl⟩
  obtain ⟨tk, rfl⟩ := one
  have hp : ∃ p, t.place = #[p] := by
    have f := T.fits
    unfold SetTable.fits at f
    rw [Bool.and_eq_true, beq_iff_eq] at f
    exact Array.size_eq_one_iff.mp f.1
  obtain ⟨p, hp⟩ := hp
  refine wpAny_bind (wpAny_pure (wpAny_bind (size_set S0 ?_)))
  unfold setDrawn
  refine wpAny_bind (wpAny_bind (wpAny_setState_of g rfl T.fits ?_))
  unfold setsByText
  refine wpAny_bind (wpAny_bind (wpAny_askSetting (wpAny_pure (wpAny_pure ?_))))
  show wpAny _ _ (if (!byText w && (!t.plain && decide (1 > 1))) = true then _ else _) _ _ _
  rw [if_neg (by rw [decide_eq_false (Nat.lt_irrefl 1), Bool.and_false, Bool.and_false]; exact Bool.false_ne_true)]
  refine wpAny_bind (wpAny_pure (wpAny_bind (wpAny_setEpoch_of g rfl T.fits ?_)))
  refine wpAny_bind (wpAny_newObj_type (wpAny_pure ⟨_, rfl, "set_iterator", _, ⟨_, Heap.get?_push_size _ rfl, rfl⟩, slot_setit_next.lookup, ?_⟩))
  exact q _ tk (.mk (slot := 0) (Heap.get?_push_size _ rfl) (Heap.get?_push_of_some _ g) T hp (.inr below_zero)) (fun b o e => Heap.get?_push_of_some _ e) (Heap.size_push ..)
theorem max_one {x : Int} {Q : Value → Shared → Prop} (hh : A.handled = none) (S : IsSet w s.heap a [x]) (q : ∀ h' tk t, Ext s.heap h' → Q (.int x t) { s with heap := h', toks := tk }) : wpAny (model prog w) A (call (.builtin "max") [.ref a]) Q E s := by
  have lt := S.lt
  refine call_max_walk (iter_one S fun h' t O k sz => ⟨s.heap.objs.size, _, _, 1, _, _, _, rfl, One.walks (by simp [hh]) (Nat.ne_of_gt lt), O, fun b hb => ?_, Nat.zero_lt_one, CmpOf.ints_gt (fun _ => x) (fun i v e => ⟨t, e⟩), fun v h2 tk e k2 => ?_⟩)
  · rw [sz]
    rcases List.mem_cons.mp hb with z | z
    · exact z ▸ Nat.lt_succ_self _
    · exact List.mem_singleton.mp z ▸ Nat.lt_succ_of_lt lt
  · subst e
    exact q h2 tk t fun b o e => k2 b o (fun z => Nat.lt_irrefl _ (List.mem_singleton.mp z ▸ Heap.lt_size e)) (k b o e)
end
end Mini
end
section
namespace Mini
open PySem PySem.W PyProof.Rows
noncomputable def ExtX (X : List Addr) (h h' : Heap) : Prop := ∀ b o, b ∉ X → h.get? b = some o → h'.get? b = some o
theorem Ext.x {h h' : Heap} (k : Ext h h') : ExtX [] h h' := fun b o _ e => k b o e
inductive HasO (W : Wd) (ρ : Cells) (h : Heap) (i : Nat) (o : MObj) : Prop
  | mk {c : Cell} (e : ρ[i]? = some c) (r : ORel W ρ h o c)
structure SimC (W : Wd) (ρ : Cells) (hm : MHeap) (h : Heap) : Prop where
  base : Ext W.B h
  len : ρ.length = hm.next
  objs : ∀ i o, hm.obj i = some o → HasO W ρ h i o
  nodup : (owned ρ).Nodup
  out : ∀ a ∈ owned ρ, Above W.B a
  live : ∀ a ∈ owned ρ, Lives h a
structure Aside (h₀ : Heap) (ρ : Cells) (h : Heap) (a : Addr) : Prop where
  out : a ∉ owned ρ
  new : Above h₀ a
  live : Lives h a
theorem Lives.nf {h : Heap} {a : Addr} {o : Obj} (l : Lives h a) (e : h.get? a = some o) (f : Frozen o) : False := by
  induction l with | mk e' n => rw [e] at e'; exact n (Option.some.inj e' ▸ f)
section
variable {W : Wd} {ρ : Cells} {hm : MHeap} {h h' : Heap} {X : List Addr}
theorem stay_x (x : ∀ a ∈ X, Lives h a) (k : ExtX X h h') : Stay ρ h ρ h' := ⟨fun e => e, fun b o e f => k b o (fun q => (x b q).nf e f) e⟩
theorem Lives.x {a : Addr} (l : Lives h a) (k : ExtX X h h') (n : a ∉ X) : Lives h' a := by
  induction l with | mk e f => exact .mk (k _ _ n e) f
theorem SimC.move (S : SimC W ρ hm h) (x : ∀ a ∈ X, Aside W.B ρ h a) (k : ExtX X h h') : SimC W ρ hm h' where
  base := fun b o e => k b o (fun q => (x b q).new.no e) (S.base b o e)
  len := S.len
  objs := fun i o e => by
    induction S.objs i o e with
    | mk hc r => exact .mk hc (r.stay (stay_x (fun a ha => (x a ha).live) k) fun b hb y e => k b y (fun q => (x b q).out (mem_owned hc hb)) e)
  nodup := S.nodup
  out := S.out
  live := fun a ha => (S.live a ha).x k fun q => (x a q).out ha
theorem SimC.grow (S : SimC W ρ hm h) (k : Ext h h') : SimC W ρ hm h' := S.move (X := []) nofun k.x
theorem own_nodup (c : Cell) : c.own.Nodup := by
  unfold Cell.own; split
  · exact List.nodup_cons.mpr ⟨List.not_mem_nil, List.nodup_nil⟩
  · rename_i q; exact List.nodup_cons.mpr ⟨fun e => q (List.mem_singleton.mp e), List.nodup_cons.mpr ⟨List.not_mem_nil, List.nodup_nil⟩⟩
theorem at_app {c d : Cell} {i : Nat} (e : ρ[i]? = some c) : (ρ ++ [d])[i]? = some c := by rw [List.getElem?_append_left (List.getElem?_eq_some_iff.mp e).1]; exact e
theorem new_at (l : ρ.length = hm.next) (c : Cell) : (ρ ++ [c])[hm.next]? = some c := by rw [← l]; exact List.getElem?_concat_length
theorem own_or {a : Addr} {c : Cell} (ha : a ∈ owned (ρ ++ [c])) : a ∈ owned ρ ∨ a ∈ c.own := by
  rw [owned_append, owned_one] at ha; exact List.mem_append.mp ha
theorem SimC.adopt (S : SimC W ρ hm h) {c : Cell} {o : MObj} (k : ExtX c.own h h') (hn : ∀ a ∈ c.own, a ∉ owned ρ) (hB : ∀ a ∈ c.own, Above W.B a) (hf : ∀ a ∈ c.own, ∀ x, h.get? a = some x → ¬ Frozen x) (R : ORel W (ρ ++ [c]) h' o c) : SimC W (ρ ++ [c]) (hm.new o) h' where
  base := fun a o e => k a o (fun q => (hB a q).no e) (S.base a o e)
  len := by rw [List.length_append, S.len]; rfl
  objs := fun i o' e => by
    have e : (if i = hm.next then some o else hm.obj i) = some o' := e
    by_cases q : i = hm.next
    · rw [if_pos q] at e
      rw [q]
      exact .mk (new_at S.len c) (Option.some.inj e ▸ R)
    · rw [if_neg q] at e
      induction S.objs i o' e with
      | mk hc r => exact .mk (at_app hc) (r.stay ⟨at_app, fun b o e f => k b o (fun q => hf b q o e f) e⟩ fun a ha x e => k a x (fun q => hn a q (mem_owned hc ha)) e)
  nodup := by
    rw [owned_append, owned_one, List.nodup_append]
    exact ⟨S.nodup, own_nodup c, fun a ha b hb q => hn b hb (q ▸ ha)⟩
  out := fun a ha => (own_or ha).elim (S.out a) (hB a)
  live := fun a ha => (own_or ha).elim (fun ha => (S.live a ha).x k fun q => hn a q ha) fun ha => R.live a ha
theorem SimC.set (S : SimC W ρ hm h) {i : Nat} {c : Cell} {o : MObj} (hi : ρ[i]? = some c) (k : ExtX c.own h h') (R : ORel W ρ h' o c) : SimC W ρ (hm.set i o) h' where
  base := fun a x e => k a x (fun hb => (S.out a (mem_owned hi hb)).no e) (S.base a x e)
  len := S.len
  objs := fun j o' e => by
    have e : (if j = i then some o else hm.obj j) = some o' := e
    by_cases q : j = i
    · rw [if_pos q] at e
      exact .mk (q ▸ hi) (Option.some.inj e ▸ R)
    · rw [if_neg q] at e
      induction S.objs j o' e with
      | mk a b => exact .mk a (b.stay (stay_x (fun a ha => S.live a (mem_owned hi ha)) k) fun y hy x ex => k y x (nodup_own S.nodup a hi q y hy) ex)
  nodup := S.nodup
  out := S.out
  live := fun a ha => by
    by_cases hb : a ∈ c.own
    · exact R.live a hb
    · exact (S.live a ha).x k hb
end
structure LaterR (X : List Addr) (ρ : Cells) (s : Shared) (ρ' : Cells) (s' : Shared) : Prop where
  at_ : ∀ {i : Nat} {c : Cell}, ρ[i]? = some c → ρ'[i]? = some c
  fresh : ∀ a ∈ owned ρ', a ∈ owned ρ ∨ Above s.heap a
  keep : ∀ b o, s.heap.get? b = some o → b ∉ owned ρ → b ∉ X → s'.heap.get? b = some o
  froz : ∀ b o, s.heap.get? b = some o → Frozen o → s'.heap.get? b = some o
  alive : Alive s.heap s'.heap
  rest : s'.gens = s.gens ∧ s'.os = s.os
section
variable {X Y : List Addr} {ρ ρ' ρ'' : Cells} {s s' s'' : Shared}
theorem LaterR.refl : LaterR X ρ s ρ s := ⟨fun e => e, fun _ => .inl, fun _ _ e _ _ => e, fun _ _ e _ => e, fun _ o e => ⟨o, e⟩, rfl, rfl⟩
theorem LaterR.trans (x : LaterR X ρ s ρ' s') (y : LaterR X ρ' s' ρ'' s'') : LaterR X ρ s ρ'' s'' where
  at_ := fun e => y.at_ (x.at_ e)
  fresh := fun a ha => (y.fresh a ha).elim (x.fresh a) fun n => .inr (n.back x.alive)
  keep := fun b o e hb hX => y.keep b o (x.keep b o e hb hX) (fun q => (x.fresh b q).elim hb fun n => n.no e) hX
  froz := fun b o e f => y.froz b o (x.froz b o e f) f
  alive := fun b o e => let ⟨o', e'⟩ := x.alive b o e; y.alive b o' e'
  rest := ⟨y.rest.1.trans x.rest.1, y.rest.2.trans x.rest.2⟩
theorem LaterR.mono (x : LaterR X ρ s ρ' s') (h : ∀ a ∈ X, a ∈ Y) : LaterR Y ρ s ρ' s' := ⟨x.at_, x.fresh, fun b o e hb hY => x.keep b o e hb fun q => hY (h b q), x.froz, x.alive, x.rest⟩
theorem LaterR.up (x : LaterR [] ρ s ρ' s') : LaterR X ρ s ρ' s' := x.mono nofun
theorem LaterR.stay (x : LaterR X ρ s ρ' s') : Stay ρ s.heap ρ' s'.heap := ⟨x.at_, x.froz⟩
theorem not_owned {Z : List Addr} {a : Addr} (l : Lives s.heap a) (n : a ∉ owned ρ) (L : LaterR Z ρ s ρ' s') : a ∉ owned ρ' := fun q => by
  induction l with | mk e f => exact (L.fresh a q).elim n fun z => z.no e
theorem Lives.later {a : Addr} (l : Lives s.heap a) (n : a ∉ owned ρ) (L : LaterR X ρ s ρ' s') (hX : a ∉ X) : Lives s'.heap a := by
  induction l with | mk e f => exact .mk (L.keep _ _ e n hX) f
theorem Aside.later {h₀ : Heap} {a : Addr} (x : Aside h₀ ρ s.heap a) (L : LaterR X ρ s ρ' s') (hX : a ∉ X) : Aside h₀ ρ' s'.heap a := ⟨not_owned x.live x.out L, x.new, x.live.later x.out L hX⟩
theorem LaterR.buts {h' : Heap} {t : Nat} (L : LaterR X ρ s ρ' s') (ab : ∀ a ∈ Y, Above s.heap a) (k : ExtX Y s'.heap h') : LaterR X ρ s ρ' { s' with heap := h', toks := t } where
  at_ := L.at_
  fresh := L.fresh
  keep := fun b o e hb hX => k b o (fun q => (ab b q).no e) (L.keep b o e hb hX)
  froz := fun b o e f => k b o (fun q => (ab b q).no e) (L.froz b o e f)
  alive := fun b o e => let ⟨o', e'⟩ := L.alive b o e; ⟨o', k b o' (fun q => (ab b q).no e) e'⟩
  rest := L.rest
end
structure Cf (W : Wd) where
  ρ : Cells
  hm : MHeap
  s : Shared
  sim : SimC W ρ hm s.heap
noncomputable abbrev Cf.h {W : Wd} (c : Cf W) : Heap := c.s.heap
noncomputable def Cf.V {W : Wd} (c : Cf W) (x : MV) (v : Value) : Prop := VRel W c.ρ c.h x v
noncomputable def Cf.Vs {W : Wd} (c : Cf W) (x : List MV) (v : List Value) : Prop := VRels W c.ρ c.h x v
noncomputable def Later {W : Wd} (X : List Addr) (c c' : Cf W) : Prop := LaterR X c.ρ c.s c'.ρ c'.s
section
variable {W : Wd} {c c' c'' : Cf W} {X Y : List Addr}
theorem Later.refl : Later X c c := LaterR.refl
theorem Later.trans (x : Later X c c') (y : Later X c' c'') : Later X c c'' := LaterR.trans x y
theorem Later.up (x : Later [] c c') : Later X c c' := LaterR.up x
theorem Cf.V.later {x : MV} {v : Value} (r : c.V x v) (L : Later X c c') : c'.V x v := VRel.stay L.stay r
theorem Cf.Vs.later {x : List MV} {v : List Value} (r : c.Vs x v) (L : Later X c c') : c'.Vs x v := VRels.stay L.stay r
noncomputable def Cf.grow (c : Cf W) {h' : Heap} (t : Nat) (k : Ext c.h h') : Cf W := ⟨c.ρ, c.hm, { c.s with heap := h', toks := t }, c.sim.grow k⟩
theorem later_grow {h' : Heap} {t : Nat} (k : Ext c.h h') : Later X c (c.grow t k) := ⟨fun e => e, fun _ => .inl, fun b o e _ _ => k b o e, fun b o e _ => k b o e, k.alive, rfl, rfl⟩
noncomputable def Cf.new (c : Cf W) {h' : Heap} (t : Nat) {d : Cell} {o : MObj} (k : Ext c.h h') (hc : ∀ a ∈ d.own, Above c.h a) (R : ORel W (c.ρ ++ [d]) h' o d) : Cf W :=
  ⟨c.ρ ++ [d], c.hm.new o, { c.s with heap := h', toks := t }, c.sim.adopt (fun b o _ => k b o) (fun a ha q => by induction c.sim.live a q with | mk e f => exact (hc a ha).no e) (fun a ha => (hc a ha).back c.sim.base.alive) (fun a ha x e => ((hc a ha).no e).elim) R⟩
theorem later_new {h' : Heap} {t : Nat} {d : Cell} {o : MObj} {k : Ext c.h h'} {hc : ∀ a ∈ d.own, Above c.h a} {R : ORel W (c.ρ ++ [d]) h' o d} : Later X c (c.new t k hc R) :=
  ⟨at_app, fun a ha => (own_or ha).imp id (hc a), fun b o e _ _ => k b o e, fun b o e _ => k b o e, k.alive, rfl, rfl⟩
noncomputable def Cf.side (c : Cf W) {h' : Heap} (t : Nat) (a : ∀ a ∈ X, Aside W.B c.ρ c.h a) (k : ExtX X c.h h') : Cf W := ⟨c.ρ, c.hm, { c.s with heap := h', toks := t }, c.sim.move a k⟩
theorem Later.side {h' : Heap} {t : Nat} {a : ∀ a ∈ Y, Aside W.B c'.ρ c'.h a} {k : ExtX Y c'.h h'} (L : Later X c c') (ab : ∀ a ∈ Y, Above c.h a) : Later X c (c'.side t a k) := LaterR.buts L ab k
theorem Aside.base {c : Cf W} {ρ : Cells} {h : Heap} {a : Addr} (x : Aside c.h ρ h a) : Aside W.B ρ h a := ⟨x.out, x.new.back c.sim.base.alive, x.live⟩
noncomputable def Cf.set (c : Cf W) {h' : Heap} (t : Nat) {i : Nat} {d : Cell} {o : MObj} (hi : c.ρ[i]? = some d) (k : ExtX d.own c.h h') (R : ORel W c.ρ h' o d) : Cf W := ⟨c.ρ, c.hm.set i o, { c.s with heap := h', toks := t }, c.sim.set hi k R⟩
theorem later_set {h' : Heap} {t : Nat} {i : Nat} {d : Cell} {o : MObj} {hi : c.ρ[i]? = some d} {k : ExtX d.own c.h h'} {R : ORel W c.ρ h' o d} : Later X c (c.set t hi k R) :=
  ⟨fun e => e, fun _ => .inl, fun b o e hb _ => k b o (fun q => hb (mem_owned hi q)) e, fun b o e f => k b o (fun q => (c.sim.live b (mem_owned hi q)).nf e f) e, fun b o e => by
    by_cases q : b ∈ d.own
    · induction R.live b q with | mk e' _ => exact ⟨_, e'⟩
    · exact ⟨o, k b o q e⟩, rfl, rfl⟩
theorem stay_set {h' : Heap} {i : Nat} {d : Cell} (hi : c.ρ[i]? = some d) (k : ExtX d.own c.h h') : Stay c.ρ c.h c.ρ h' := stay_x (fun a ha => c.sim.live a (mem_owned hi ha)) k
end
inductive Out {α β : Type} {W : Wd} (c : Cf W) (R : Cf W → α → β → Prop) (Q : α → MHeap → Prop) : β → Shared → Prop
  | mk {a : α} {b : β} {c' : Cf W} (r : R c' a b) (q : Q a c'.hm) (l : Later [] c c') : Out c R Q b c'.s
noncomputable abbrev noE : Value → Shared → Prop := fun _ _ => False
noncomputable def RB {W : Wd} (c : Cf W) (m : MV) (b : Bool) : Prop := m = .bool b
noncomputable def REq {α : Type} {W : Wd} (c : Cf W) (a b : α) : Prop := a = b
section
variable {W : Wd} {A : Around} {c c' : Cf W} {α β γ δ : Type} {R : Cf W → α → β → Prop} {R' : Cf W → γ → δ → Prop} {Q : α → MHeap → Prop} {Q' : γ → MHeap → Prop}
theorem Out.trans {b : β} {s' : Shared} (L : Later [] c c') (h : Out c' R Q b s') : Out c R Q b s' := by
  induction h with | mk r q l => exact .mk r q (L.trans l)
theorem wmono {t : Sem β} {P : β → Shared → Prop} {P' : β → Shared → Prop} {s : Shared} (h : wpAny W.M A t P noE s) (k : ∀ b s', P b s' → P' b s') : wpAny W.M A t P' noE s := wpAny_mono h k fun _ _ e => e
theorem wout {t : Sem β} {P : β → Shared → Prop} (h : wpAny W.M A t (Out c R Q) noE c.s) (k : ∀ a b c', R c' a b → Q a c'.hm → Later [] c c' → P b c'.s) : wpAny W.M A t P noE c.s :=
  wmono h fun b s' h => by induction h with | mk r q l => exact k _ _ _ r q l
theorem wout' {t : Sem β} {P : β → Shared → Prop} {E : Value → Shared → Prop} (h : wpAny W.M A t (Out c R Q) noE c.s) (k : ∀ a b c', R c' a b → Q a c'.hm → Later [] c c' → P b c'.s) : wpAny W.M A t P E c.s :=
  wpAny_mono (wout h k) (fun _ _ e => e) fun _ _ e => e.elim
theorem wtrans {t : Sem β} (L : Later [] c c') (h : wpAny W.M A t (Out c' R Q) noE c'.s) : wpAny W.M A t (Out c R Q) noE c'.s := wmono h fun _ _ => Out.trans L
theorem seqO {t : Sem β} {f : β → Sem δ} (h : wpAny W.M A t (Out c R Q) noE c.s) (k : ∀ a b c', R c' a b → Q a c'.hm → Later [] c c' → wpAny W.M A (f b) (Out c' R' Q') noE c'.s) : wpAny W.M A (t >>= f) (Out c R' Q') noE c.s :=
  wpAny_bind (wout h fun a b c' r q l => wtrans l (k a b c' r q l))
theorem seqH {t : Sem β} {f : β → Sem δ} {vs : List Value} (h : wpAny W.M A t (Out c R Q) noE c.s) (k : ∀ a b c', R c' a b → Q a c'.hm → Later [] c c' → wpAny W.M A (f b) (Out c' R' Q') noE c'.s) : wpAny W.M A (holding vs t >>= f) (Out c R' Q') noE c.s :=
  wpAny_bind (wpAny_holding (wout h fun a b c' r q l => wtrans l (k a b c' r q l)))
theorem atP {f : Unit → Sem β} {pos : Pos} {P : β → Shared → Prop} {s : Shared} (h : wpAny W.M A (f ()) P noE s) : wpAny W.M A (standAt pos >>= f) P noE s := wpAny_bind (wpAny_standAt h)
theorem out_at {a : α} {b : β} {t : Nat} (r : R (c.grow t (.refl _)) a b) (q : Q a c.hm) : Out c R Q b { c.s with toks := t } := Out.mk (c' := c.grow t (.refl _)) r q (later_grow _)
theorem out_now {a : α} {b : β} (r : R c a b) (q : Q a c.hm) : Out c R Q b c.s := Out.mk r q .refl
section
variable {Q : KV} {m : MV} {v : Value}
theorem out_same {t : Nat} (r : c.V m v) (q : Q m c.hm) : Out c Cf.V Q v { c.s with toks := t } := out_at r q
theorem out_grow {h' : Heap} {t : Nat} (k : Ext c.h h') (r : VRel W c.ρ h' m v) (q : Q m c.hm) : Out c Cf.V Q v { c.s with heap := h', toks := t } := Out.mk (c' := c.grow t k) r q (later_grow _)
theorem out_new {h' : Heap} {t : Nat} {d : Cell} {o : MObj} (k : Ext c.h h') (hc : ∀ a ∈ d.own, Above c.h a) (R : ORel W (c.ρ ++ [d]) h' o d) (q : Q (.ref c.hm.next) (c.hm.new o)) : Out c Cf.V Q (.ref d.a) { c.s with heap := h', toks := t } :=
  Out.mk (a := MV.ref c.hm.next) (c' := c.new t k hc R) (IsRef.mk (new_at c.sim.len d)) q later_new
theorem out_set {h' : Heap} {t : Nat} {i : Nat} {d : Cell} {o : MObj} (hi : c.ρ[i]? = some d) (k : ExtX d.own c.h h') (R : ORel W c.ρ h' o d) (r : VRel W c.ρ h' m v) (q : Q m (c.hm.set i o)) : Out c Cf.V Q v { c.s with heap := h', toks := t } :=
  Out.mk (c' := c.set t hi k R) r q later_set
end
end
end Mini
end
section
namespace Mini
open PySem PySem.W PyProof.Rows PySem.SeqAt
structure Room (A : Around) (d : Nat) : Prop where
  handled : A.handled = none
  depth : A.depth + 4 * d ≤ 900
  units : A.units + 40 * d ≤ 9000
theorem Room.line {A : Around} {d : Nat} (r : Room A d) : A.units + 100 < cLine := Nat.lt_of_le_of_lt (Nat.add_le_add_right (Nat.le_trans (Nat.le_add_right ..) r.units) 100) (by decide)
structure WdOk (W : Wd) : Prop where
  words : W.T.strTab.take 6 = (["append", "extend", "pop", "count", "get", "setdefault"] : List Str)
  globs : ∀ x i, W.T.globTab.lookup x = some i → ∃ t, nsIn W.K mainGlobals x = some (some (.int i t))
  fnGlob : ∀ f x, W.T.fnTab[f]? = some x → nsIn W.K mainGlobals x = some (some (.ref (W.faddr f))) ∧ fnIn W.K (W.faddr f) = true
  cGlob : nsIn W.K mainGlobals W.T.cname = some (some (.ref W.C))
  cCall : specialIn W.K (.ref W.C) "__call__" = some (some (.builtin "type.__call__"))
  cls : isClsIn W.K W.C = true
  noBuiltin : ∀ x ∈ (["len", "abs", "list", "tuple", "dict", "max", "sorted", "range", "super", "set", "int", "enumerate"] : List Str), nsIn W.K mainGlobals x = some none
  meths : ∀ m f x, W.P.meths.lookup m = some f → isStrs W m x → findIn W.K (.ref W.C) x = some (some (.ref (W.faddr f))) ∧ typeIn W.K (.ref (W.faddr f)) = some (.type "function") ∧ (∀ a ∈ W.T.attrTab, a ≠ m) ∧ fnIn W.K (W.faddr f) = true ∧
    specialIn W.K (.ref (W.faddr f)) "__get__" = some (some (.builtin "function.__get__")) ∧ takesIn W.K (.ref (W.faddr f)) = some false ∧ copiedNames.contains x = false
  make : makesIn W.K W.C = true
  ckeep : keepIn W.K (.ref W.C) = true
  initOf : findIn W.K (.ref W.C) "__init__" = some (some (.ref (W.faddr W.P.init)))
  initFn : typeIn W.K (.ref (W.faddr W.P.init)) = some (.type "function")
  X : W.K.In W.B
  g : W.B.Ns mainGlobals W.mg
  b : W.B.Ns builtinsNs W.mb
  nolimit : W.B.NoLimit
  boots : ∀ x : Str, x ≠ "__name__" → W.mb x = bootBuiltins x
  script : ∃ vs, W.B.IsList W.scriptAt vs.toArray ∧ IntsAre vs W.script
  slen : W.script.length ≤ lenLine
  nodup : W.T.strTab.Nodup
  hga : findIn W.K (.ref W.C) "__getattribute__" = some (some (.builtin "object.__getattribute__"))
  hgt : findIn W.K (.ref W.C) "__getattr__" = some none
  hsa : findIn W.K (.ref W.C) "__setattr__" = some (some (.builtin "object.__setattr__"))
  over : plainOver W.K W.C = true
  has : hasDictIn W.K W.C = true
  attr : ∀ a x, a ∈ W.T.attrTab → isStrs W a x → findIn W.K (.ref W.C) x = some none
structure EqAll (v u : Value) (b : Bool) : Prop where
  e : ∀ A s, EqAt A s v u b
  r : ∀ A s, RcAt A s v u b
  n : ∀ A s, RcNeAt A s v u (!b)
  same : v = u → b = true
noncomputable def vaeq (v u : Value) : Bool := match v with
  | .none => (match u with | .none => true | _ => false)
  | .bool a => (match u with | .bool b => a == b | _ => false)
  | .int a _ => (match u with | .int b _ => a == b | _ => false)
  | _ => false
section
variable {W : Wd} {ρ : Cells} {h : Heap} {A : Around} {s : Shared}
@[elab_as_elim] theorem IsInt.elim {P : Value → Prop} {i : Int} {v : Value} (r : IsInt i v) (k : ∀ t, P (.int i t)) : P v := by
  induction r with | mk t => exact k t
theorem aeq_at {x y : MV} {b : Bool} {v u : Value} (e : AEq x y b) (hv : VRel W ρ h x v) (hu : VRel W ρ h y u) : EqAll v u b ∧ vaeq v u = b := by
  induction e with
  | nn => rw [show v = .none from hv, show u = .none from hu]; exact ⟨⟨fun _ _ => EqAt.same _, fun _ _ => RcAt.none_none, fun _ _ => RcNeAt.none_none, fun _ => rfl⟩, rfl⟩
  | nb b => rw [show v = .none from hv, show u = .bool b from hu]; exact ⟨⟨fun _ _ => EqAt.none_bool _, fun _ _ => RcAt.none_bool _, fun _ _ => RcNeAt.none_bool _, nofun⟩, rfl⟩
  | ni i => rw [show v = .none from hv]; refine IsInt.elim hu fun t => ?_; exact ⟨⟨fun _ _ => EqAt.none_int _ _, fun _ _ => RcAt.none_int _ _, fun _ _ => RcNeAt.none_int _ _, nofun⟩, rfl⟩
  | bn b => rw [show v = .bool b from hv, show u = .none from hu]; exact ⟨⟨fun _ _ => EqAt.bool_none _, fun _ _ => RcAt.bool_none _, fun _ _ => RcNeAt.bool_none _, nofun⟩, rfl⟩
  | int i => rw [show u = .none from hu]; refine IsInt.elim hv fun t => ?_; exact ⟨⟨fun _ _ => EqAt.int_none _ _, fun _ _ => RcAt.int_none _ _, fun _ _ => RcNeAt.int_none _ _, nofun⟩, rfl⟩
  | bb a b => rw [show v = .bool a from hv, show u = .bool b from hu]; exact ⟨⟨fun _ _ => EqAt.bool_bool _ _, fun _ _ => RcAt.bool_bool _ _, fun _ _ => RcNeAt.bool_bool _ _, fun e => beq_iff_eq.mpr (Value.bool.inj e)⟩, rfl⟩
  | ii a b => refine IsInt.elim hv fun t => IsInt.elim hu fun t' => ?_; exact ⟨⟨fun _ _ => EqAt.int_int _ _ _ _, fun _ _ => RcAt.int_int _ _ _ _, fun _ _ => RcNeAt.int_int _ _ _ _, fun e => beq_iff_eq.mpr (Value.int.inj e).1⟩, rfl⟩
theorem succ_beq (n m : Nat) : (n + 1 == m + 1) = (n == m) := by rw [Bool.eq_iff_iff, beq_iff_eq, beq_iff_eq, Nat.add_right_cancel_iff]
structure Items2 (P : Value → Value → Bool → Prop) (vs us : List Value) (e : Nat → Bool) (b : Bool) : Prop where
  at_ : ∀ j (h1 : j < vs.length) (h2 : j < us.length), P vs[j] us[j] (e j)
  all : ((List.range (min vs.length us.length)).all e && vs.length == us.length) = b
theorem eqL_at {R : MV → MV → Bool → Prop} {Q : MV → Value → Prop} {P : Value → Value → Bool → Prop} (hf : ∀ x y b v u, R x y b → Q x v → Q y u → P v u b) {xs ys : List MV} {b : Bool} {vs us : List Value}
    (e : EqL R xs ys b) (hv : All2 Q xs vs) (hu : All2 Q ys us) : ∃ e, Items2 P vs us e b := by
  induction e generalizing vs us with
  | nil => refine All2.nilE hv (All2.nilE hu ?_); exact ⟨fun _ => true, nofun, rfl⟩
  | left x r => refine All2.nilE hu (All2.consE hv fun v s _ _ => ?_); exact ⟨fun _ => true, fun _ _ => nofun, Bool.and_false _⟩
  | right y s => refine All2.nilE hv (All2.consE hu fun v s _ _ => ?_); exact ⟨fun _ => true, nofun, Bool.and_false _⟩
  | @cons x y r s a b e t ih =>
    refine All2.consE hv fun v vs hv rv => All2.consE hu fun u us hu ru => ?_
    obtain ⟨f, I⟩ := ih rv ru
    refine ⟨fun j => Nat.casesOn j a f, fun j k1 k2 => ?_, ?_⟩
    · rcases j with _ | j
      · exact hf _ _ _ _ _ e hv hu
      · exact I.at_ j (Nat.lt_of_succ_lt_succ k1) (Nat.lt_of_succ_lt_succ k2)
    · rw [← I.all, List.length_cons, List.length_cons, Nat.add_min_add_right, List.range_succ_eq_map, List.all_cons, List.all_map, Bool.and_assoc, succ_beq]
      rfl
structure Eq3 (A : Around) (s : Shared) (v u : Value) (b : Bool) : Prop where
  e : EqAt A s v u b
  r : RcAt A s v u b
  n : RcNeAt A s v u (!b)
theorem isTuple_of {its : Array Value} {n : Nat} {a : Addr} (e : h.get? a = some { cls := .type "tuple", data := .seq its n }) : h.IsTuple a its := ⟨_, e, rfl, n, rfl⟩
@[elab_as_elim] theorem IsTup.elim {P : Value → Prop} {vs : List MV} {v : Value} (r : IsTup W ρ h vs v) (k : ∀ a its n, h.get? a = some { cls := .type "tuple", data := .seq its n } → All2 (FRel W ρ h) vs its.toList → vs.length ≤ lenLine → P (.ref a)) : P v := by
  induction r with | mk g r' l => exact k _ _ _ g r' l
theorem feq_at {x y : MV} {b : Bool} {v u : Value} (e : FEq x y b) (hv : VRel W ρ s.heap x v) (hu : VRel W ρ s.heap y u) (hA : A.units < cLine) : Eq3 A s v u b := by
  induction e with
  | «at» e => have q := (aeq_at e hv hu).1; exact ⟨q.e _ _, q.r _ _, q.n _ _⟩
  | nt vs => rw [show v = .none from hv]; exact IsTup.elim hu fun a its n g r l => ⟨EqAt.none_tuple (isTuple_of g) hA, RcAt.none_tuple (isTuple_of g) hA, RcNeAt.none_tuple (isTuple_of g) hA⟩
  | tn vs => rw [show u = .none from hu]; exact IsTup.elim hv fun a its n g r l => ⟨EqAt.tuple_none (isTuple_of g) hA, RcAt.tuple_none (isTuple_of g) hA, RcNeAt.tuple_none (isTuple_of g) hA⟩
  | @tt xs ys b e =>
    refine IsTup.elim hv fun a its n g r l => IsTup.elim hu fun a2 its2 n2 g2 r2 l2 => ?_
    have T := isTuple_of g
    have T2 := isTuple_of g2
    obtain ⟨f, I⟩ := eqL_at (P := EqAll) (fun x y b v u e hv hu => (aeq_at (W := W) (ρ := ρ) (h := s.heap) e hv.up hu.up).1) e r r2
    have he : ∀ j (h1 : j < its.size) (h2 : j < its2.size), EqAt A.in1 s its[j] its2[j] (f j) := fun j k1 k2 => (I.at_ j k1 k2).e _ _
    have R : RcAt A s (.ref a) (.ref a2) b := I.all ▸ RcAt.tuples T T2 hA he
    refine ⟨?_, R, I.all ▸ RcNeAt.tuples T T2 hA he⟩
    by_cases q : a = a2
    · subst q
      rw [g] at g2
      have e2 : its = its2 := (Data.seq.inj (Obj.mk.inj (Option.some.inj g2)).2.2.1).1
      subst e2
      have : b = true := by
        rw [← I.all, Nat.min_self, beq_self_eq_true, Bool.and_true]
        exact List.all_eq_true.mpr fun j hj => (I.at_ j (List.mem_range.mp hj) (List.mem_range.mp hj)).same rfl
      rw [this]
      exact EqAt.same _
    · exact EqAt.of_refs q R
end
end Mini
end
section
namespace Mini
open PySem PySem.W PyProof.Rows PySem.SeqAt
section
variable {κ κ' : Type} [DecidableEq κ] [DecidableEq κ'] {nm : κ → κ' → Prop} {k : κ} {k' : κ'} {W : Wd} {ρ : Cells} {h : Heap} {es : List (κ × MV)} {kvs : List (κ' × Value)}
theorem kget_cons {p : κ × MV} {r : List (κ × MV)} : kget (p :: r) k = if p.1 = k then some p.2 else kget r k := rfl
noncomputable def Fit (nm : κ → κ' → Prop) (k : κ) (k' : κ') : Prop := ∀ a a', nm a a' → (a = k ↔ a' = k')
theorem fit_eq {k : Int} : Fit Eq k k := fun a a' e => by rw [e]
theorem KRel.get (hi : Fit nm k k') (r : KRel W ρ h nm es kvs) : (∀ x, kget es k = some x → ∃ v, valueAt kvs k' = some v ∧ VRel W ρ h x v) ∧ (kget es k = none → valueAt kvs k' = none) := by
  unfold valueAt
  induction r with
  | nil => exact ⟨fun _ => ns, fun _ => rfl⟩
  | @cons a b _ _ q t ih =>
    rw [kget_cons, List.find?_cons]
    by_cases z : a.1 = k
    · rw [if_pos z, decide_eq_true ((hi _ _ q.1).mp z)]
      exact ⟨fun x e => ⟨b.2, rfl, Option.some.inj e ▸ q.2⟩, fun e => ns e.symm⟩
    · rw [if_neg z, decide_eq_false fun e => z ((hi _ _ q.1).mpr e)]
      exact ih
end
section
variable {W : Wd} {c : Cf W} {A : Around} {Q : KV} {x y m : MV} {v u : Value} {i j : Nat} {P : Value → Prop}
theorem Cf.X (c : Cf W) (K : WdOk W) : W.K.In c.h := K.X.keeps c.sim.base
theorem IsRef.cell {ρ : Cells} {i : Nat} {d : Cell} {P : Value → Prop} {v : Value} (hv : IsRef ρ i v) (hd : ρ[i]? = some d) (k : P (.ref d.a)) : P v := by
  induction hv with | mk e => rw [hd] at e; exact Option.some.inj e ▸ k
@[elab_as_elim] theorem Cf.listE {xs : List MV} (hv : c.V (.ref i) v) (eo : c.hm.obj i = some (.list xs))
    (k : ∀ (d : Cell) (its : Array Value) (n : Nat), c.ρ[i]? = some d → d.d = d.a → IsL c.h d.a its n → VRels W c.ρ c.h xs its.toList → xs.length ≤ lenLine → its.size = xs.length → P (.ref d.a)) : P v := by
  induction c.sim.objs i _ eo with
  | mk hc r =>
    have r : LRel W c.ρ c.h xs _ := r
    induction r with | mk d g r l => exact IsRef.cell hv hc (k _ _ _ hc d g r l (Array.length_toList.symm.trans r.length))
@[elab_as_elim] theorem Cf.dictE {es : List (Int × MV)} (hv : c.V (.ref i) v) (eo : c.hm.obj i = some (.idict es))
    (k : ∀ (d : Cell) (kvs : List (Int × Value)), c.ρ[i]? = some d → d.d = d.a → c.h.DictOf (intKind W.prog W.w) d.a kvs → KRel W c.ρ c.h Eq es kvs → es.length ≤ lenLine → P (.ref d.a)) : P v := by
  induction c.sim.objs i _ eo with
  | mk hc r =>
    have r : DRel W c.ρ c.h (intKind W.prog W.w) Eq es _ := r
    induction r with | mk d g r l => exact IsRef.cell hv hc (k _ _ hc d g r l)
@[elab_as_elim] theorem Cf.sdictE {es : List (Nat × MV)} (hv : c.V (.ref i) v) (eo : c.hm.obj i = some (.sdict es))
    (k : ∀ (d : Cell) (kvs : List (Str × Value)), c.ρ[i]? = some d → d.d = d.a → c.h.DictOf (strKind W.prog W.w) d.a kvs → KRel W c.ρ c.h (isStrs W) es kvs → es.length ≤ lenLine → P (.ref d.a)) : P v := by
  induction c.sim.objs i _ eo with
  | mk hc r =>
    have r : DRel W c.ρ c.h (strKind W.prog W.w) (isStrs W) es _ := r
    induction r with | mk d g r l => exact IsRef.cell hv hc (k _ _ hc d g r l)
@[elab_as_elim] theorem Cf.instE {as : List (Nat × MV)} (hv : c.V (.ref i) v) (eo : c.hm.obj i = some (.inst as))
    (k : ∀ (d : Cell) (es : List DictEntry) (n : Nat), c.ρ[i]? = some d → d.d ≠ d.a → InstAt c.h d.a (instObj W.C d.d) W.C (some (dictOf es n)) → c.h.get? d.d = some (dictOf es n) → ARel W c.ρ c.h as es → as.length ≤ 100 → (∀ e ∈ as, e.1 ∈ W.T.attrTab) → P (.ref d.a)) : P v := by
  induction c.sim.objs i _ eo with
  | mk hc r =>
    have r : NRel W c.ρ c.h as _ := r
    induction r with | mk d g g' r l al => exact IsRef.cell hv hc (k _ _ _ hc d ⟨g, rfl, rfl, g'⟩ g' r l al)
theorem Cf.notMods (K : WdOk W) {d : Cell} (e : c.ρ[i]? = some d) : (d.a == sysModules) = false := by
  obtain ⟨o, es, ep, g, _⟩ := K.g
  exact beq_eq_false_iff_ne.mpr fun q => absurd (c.sim.out _ (mem_owned e (own_a d)) _ _ g) (by rw [q]; decide)
theorem line_of {n : Nat} (e : n ≤ lenLine) : n ≤ sizeLine := Nat.le_trans e (by decide)
theorem lenLine_big {n : Nat} (e : n ≤ lenLine) : (n : Int) < 2 ^ 62 := Int.lt_of_le_of_lt (Int.ofNat_le.mpr e) (by decide)
noncomputable def cOp : MCmp → CmpOp
  | .eq => .Eq | .ne => .NotEq | .lt => .Lt | .le => .LtE | .gt => .Gt | .ge => .GtE | .is => .Is | .isnot => .IsNot | .isin => .In | .notin => .NotIn
noncomputable def RcW (W : Wd) (A : Around) (s : Shared) (op : CmpOp) (v u : Value) (b : Bool) : Prop := ∀ Q : Value → Shared → Prop, Q (.bool b) s → wpAny W.M A (compareOp op v u) Q noE s
theorem rcW {s : Shared} {b : Bool} (h : RcAt A s v u b ∧ RcNeAt A s v u (!b)) : RcW W A s .Eq v u b ∧ RcW W A s .NotEq v u (!b) := ⟨fun Q q => h.1 _ _ _ _ q, fun Q q => h.2 _ _ _ _ q⟩
@[elab_as_elim] theorem Cf.setE {xs : List Int} (hv : c.V (.ref i) v) (eo : c.hm.obj i = some (.set xs)) (k : ∀ d : Cell, c.ρ[i]? = some d → d.d = d.a → IsSet W.w c.h d.a xs → P (.ref d.a)) : P v := by
  induction c.sim.objs i _ eo with
  | mk hc r =>
    have r : SRel W c.h xs _ := r
    induction r with | mk d s => exact IsRef.cell hv hc (k _ hc d s)
theorem eqD_at {ρ : Cells} {s : Shared} {xs ys : List (Int × MV)} {b : Bool} {ka kb : List (Int × Value)} (e : EqD ys xs b) (r : KRel W ρ s.heap Eq xs ka) (hk : ∀ k, (∀ x, kget ys k = some x → ∃ v, valueAt kb k = some v ∧ VRel W ρ s.heap x v) ∧ (kget ys k = none → valueAt kb k = none)) : KeqHits A s kb ka b := by
  induction e generalizing ka with
  | nil => exact All2.nilE r .nil
  | @miss k _ _ e => 
    refine All2.consE r fun p q hp hr => ?_
    obtain ⟨k', v'⟩ := p
    obtain rfl : k = k' := hp.1
    exact .miss ((hk k).2 e)
  | @hit k _ _ _ _ _ e q t ih => 
    refine All2.consE r fun p q' hp hr => ?_
    obtain ⟨k', v'⟩ := p
    obtain rfl : k = k' := hp.1
    obtain ⟨y, hy, hyr⟩ := (hk k).1 _ e
    exact .hit hy ((aeq_at q hp.2 hyr).1.e _ _) (ih hr)
theorem eqv_at (K : WdOk W) {b : Bool} (e : Eqv c.hm x y b) (hv : c.V x v) (hu : c.V y u) (hA : A.units + 1 < cLine) : RcW W A c.s .Eq v u b ∧ RcW W A c.s .NotEq v u (!b) := by
  have hA' : A.units < cLine := Nat.lt_of_succ_lt hA
  induction e with
  | flat e => exact rcW ⟨(feq_at e hv hu hA').r, (feq_at e hv hu hA').n⟩
  | list p q e =>
    refine Cf.listE hv p fun d its n _ _ g r _ z => Cf.listE hu q fun d2 its2 n2 _ _ g2 r2 _ z2 => ?_
    obtain ⟨f, I⟩ := eqL_at (Q := VRel W c.ρ c.h) (P := fun v u b => EqAt A.in1 c.s v u b) (fun x y b v u e hv hu => (feq_at (W := W) (ρ := c.ρ) e hv hu hA).e) e r r2
    by_cases hz : its.size = its2.size
    · have hb := I.all
      rw [Array.length_toList, Array.length_toList, ← hz, Nat.min_self, beq_self_eq_true, Bool.and_true] at hb
      have he := fun j (h1 : j < its.size) (h2 : j < its2.size) => I.at_ j h1 h2
      exact rcW ⟨hb ▸ RcAt.lists (A := A) g.isList g2.isList hz hA' he, hb ▸ RcNeAt.lists (A := A) g.isList g2.isList hz hA' he⟩
    · have hb := I.all
      rw [Array.length_toList, Array.length_toList, beq_eq_false_iff_ne.mpr hz, Bool.and_false] at hb
      have hsz := bne_iff_ne.mpr hz
      exact rcW ⟨hb ▸ RcAt.lists_lengths g.isList g2.isList hsz hA', hb ▸ RcNeAt.lists_lengths g.isList g2.isList hsz hA'⟩
  | lens p q e =>
    refine Cf.listE hv p fun d its n _ _ g r _ z => Cf.listE hu q fun d2 its2 n2 _ _ g2 r2 _ z2 => ?_
    have hsz := bne_iff_ne.mpr fun (q : its.size = its2.size) => e (z.symm.trans (q.trans z2))
    exact rcW ⟨RcAt.lists_lengths g.isList g2.isList hsz hA', RcNeAt.lists_lengths g.isList g2.isList hsz hA'⟩
  | set p q => exact Cf.setE hv p fun d _ _ S => Cf.setE hu q fun d2 _ _ S2 => ⟨fun Q z => eq_ok S S2 hA' z, fun Q z => ne_ok S S2 hA' z⟩
  | dict p q e =>
    refine Cf.dictE hv p fun d kvs hc _ g r _ => Cf.dictE hu q fun d2 kvs2 hc2 _ g2 r2 _ => ?_
    have h := eqD_at (A := A.in1) (s := c.s) e r fun k => r2.get fit_eq
    have el : kvs.length = _ := r.length
    have el2 : kvs2.length = _ := r2.length
    exact ⟨fun Q z => keq_eq (Cf.notMods K hc) (Cf.notMods K hc2) g g2 hA' (fun _ => h) (by rw [el, el2]; exact z), fun Q z => keq_ne (Cf.notMods K hc) (Cf.notMods K hc2) g g2 hA' (fun _ => h) (by rw [el, el2]; exact z)⟩
theorem isv_at {ρ : Cells} {h : Heap} {b : Bool} (e : IsV x y b) (hv : VRel W ρ h x v) (hu : VRel W ρ h y u) : plainIs v u = true ∧ (v == u) = b := by
  induction e with
  | nn => rw [show v = .none from hv, show u = .none from hu]; exact ⟨rfl, beq_self_eq_true _⟩
  | nb b => rw [show v = .none from hv, show u = .bool b from hu]; exact ⟨rfl, rfl⟩
  | bn b => rw [show v = .bool b from hv, show u = .none from hu]; exact ⟨rfl, rfl⟩
  | int i => rw [show u = .none from hu]; refine IsInt.elim hv fun t => ⟨rfl, rfl⟩
  | tn vs => rw [show u = .none from hu]; exact IsTup.elim hv fun a its n g r l => ⟨rfl, rfl⟩
  | rn i => rw [show u = .none from hu]; have hv : IsRef ρ i v := hv; induction hv with | mk e => exact ⟨rfl, rfl⟩
  | bb a b => rw [show v = .bool a from hv, show u = .bool b from hu]; exact ⟨rfl, by rw [Bool.eq_iff_iff, beq_iff_eq, beq_iff_eq, Value.bool.injEq]⟩
theorem inl_at {ρ : Cells} {h : Heap} {vs : List Value} {xs : List MV} {b : Bool} (hv : VRel W ρ h x v) (e : InL x xs b) (r : VRels W ρ h xs vs) : (∀ w ∈ vs, ∀ A s, EqAt A s w v (vaeq w v)) ∧ vs.any (fun w => vaeq w v) = b := by
  induction e generalizing vs with
  | nil => exact All2.nilE r ⟨fun w hw => absurd hw List.not_mem_nil, rfl⟩
  | cons e t ih =>
    refine All2.consE r fun w s hw rw' => ?_
    obtain ⟨q1, q2⟩ := aeq_at e hw hv
    obtain ⟨h1, h2⟩ := ih rw'
    refine ⟨fun z hz => (List.mem_cons.mp hz).elim (fun e => ?_) (h1 z), by rw [List.any_cons, h2, q2]⟩
    rw [e, q2]; exact q1.e
theorem KRel.any {ρ : Cells} {h : Heap} {es : List (Int × MV)} {kvs : List (Int × Value)} (r : KRel W ρ h Eq es kvs) (k : Int) : (valueAt kvs k).isSome = es.any fun e => e.1 == k := by
  unfold valueAt
  induction r with
  | nil => rfl
  | @cons a b _ _ q t ih =>
    rw [List.find?_cons, List.any_cons, q.1]
    by_cases z : b.1 = k
    · rw [decide_eq_true z, beq_iff_eq.mpr z]; rfl
    · rw [decide_eq_false z, beq_eq_false_iff_ne.mpr z]; exact ih
inductive InAt (A : Around) (s : Shared) (v u : Value) (b : Bool) : Prop
  | mk (i : ∀ {Q : Value → Shared → Prop}, (∀ t, Q (.bool b) { s with toks := t }) → wpAny W.M A (compareOp .In v u) Q noE s) (n : ∀ {Q : Value → Shared → Prop}, (∀ t, Q (.bool !b) { s with toks := t }) → wpAny W.M A (compareOp .NotIn v u) Q noE s)
theorem inv_at (K : WdOk W) {b : Bool} (e : InV c.hm x y b) (hv : c.V x v) (hu : c.V y u) : InAt (W := W) A c.s v u b := by
  induction e with
  | tup e =>
    refine IsTup.elim hu fun a its n g r l => ?_
    obtain ⟨h1, h2⟩ := inl_at hv e (r.imp fun _ _ => FRel.up)
    rw [Array.any_toList] at h2
    exact ⟨fun q => in_tupleAt (fun y => vaeq y v) (isTuple_of g) (fun y hy => h1 y (Array.mem_toList_iff.mpr hy) _ _) (h2 ▸ q c.s.toks), fun q => notIn_tupleAt (fun y => vaeq y v) (isTuple_of g) (fun y hy => h1 y (Array.mem_toList_iff.mpr hy) _ _) (h2 ▸ q c.s.toks)⟩
  | list p e =>
    refine Cf.listE hu p fun d its n _ _ g r l z => ?_
    obtain ⟨h1, h2⟩ := inl_at hv e r
    rw [Array.any_toList] at h2
    exact ⟨fun q => in_listAt (fun y => vaeq y v) g.isList (fun y hy => h1 y (Array.mem_toList_iff.mpr hy) _ _) (h2 ▸ q c.s.toks), fun q => notIn_listAt (fun y => vaeq y v) g.isList (fun y hy => h1 y (Array.mem_toList_iff.mpr hy) _ _) (h2 ▸ q c.s.toks)⟩
  | dict p =>
    refine Cf.dictE hu p fun d kvs hc _ g r l => IsInt.elim hv fun t => ?_
    exact ⟨fun q => wpAny_in_of (intKind_is _ _ _ t) (Cf.notMods K hc) g.mapOf (by rw [r.any]; exact q _), fun q => wpAny_notIn_of (intKind_is _ _ _ t) (Cf.notMods K hc) g.mapOf (by rw [r.any]; exact q _)⟩
  | set p => exact Cf.setE hu p fun d _ _ S => IsInt.elim hv fun t => ⟨fun q => in_ok S (q _), fun q => notIn_ok S (q _)⟩
theorem cmp_ok (K : WdOk W) {op : MCmp} {b : Bool} (e : Cmp c.hm op x y b) (hv : c.V x v) (hu : c.V y u) (hA : A.units + 1 < cLine) (q : Q (.bool b) c.hm) : wpAny W.M A (compareOp (cOp op) v u) (Out c Cf.V Q) noE c.s := by
  have o : ∀ t, Out c Cf.V Q (.bool b) { c.s with toks := t } := fun t => out_same (m := .bool b) rfl q
  induction e with
  | eq e => exact (eqv_at K e hv hu hA).1 _ (o c.s.toks)
  | ne e => exact (eqv_at K e hv hu hA).2 _ (o c.s.toks)
  | is e => exact wpAny_is_plain (isv_at e hv hu).1 ((isv_at e hv hu).2 ▸ o c.s.toks)
  | isnot e => exact wpAny_isNot_plain (isv_at e hv hu).1 ((isv_at e hv hu).2 ▸ o c.s.toks)
  | isin e => induction inv_at (A := A) K e hv hu with | mk i n => exact i o
  | notin e => induction inv_at (A := A) K e hv hu with | mk i n => exact n o
  | lt a b => exact IsInt.elim hv fun t => IsInt.elim hu fun t' => lt_int (o c.s.toks)
  | le a b => exact IsInt.elim hv fun t => IsInt.elim hu fun t' => P.le_int (o c.s.toks)
  | leS p p' => exact Cf.setE hv p fun d _ _ S => Cf.setE hu p' fun d2 _ _ S2 => le_ok S S2 (Nat.lt_of_succ_lt hA) (o c.s.toks)
  | gt a b => exact IsInt.elim hv fun t => IsInt.elim hu fun t' => gt_int (o c.s.toks)
  | ge a b => exact IsInt.elim hv fun t => IsInt.elim hu fun t' => P.ge_int (o c.s.toks)
end
end Mini
end
section
namespace Mini
open PySem PySem.W PyProof.Rows PySem.SeqAt
noncomputable abbrev cell (a : Addr) : Cell := ⟨a, a⟩
theorem own_same {d : Cell} (e : d.d = d.a) : d.own = [d.a] := by unfold Cell.own; rw [if_pos e.symm]
theorem own_cell {a b : Addr} (h : b ∈ (cell a).own) : b = a := (mem_own.mp h).elim id id
theorem above_cell {h : Heap} {a : Addr} (e : h.objs.size ≤ a) : ∀ b ∈ (cell a).own, Above h b := fun b hb => by rw [own_cell hb]; exact above_size h e
section
variable {W : Wd} {c : Cf W} {A : Around} {Q : KV} {x y m : MV} {v u : Value} {i j : Nat} {E : Value → Shared → Prop}
theorem app_stay {ρ : Cells} {d : Cell} {h h' : Heap} (k : Ext h h') : Stay ρ h (ρ ++ [d]) h' := ⟨at_app, fun b o e _ => k b o e⟩
theorem out_list' {h' : Heap} {t n : Nat} {a : Addr} {xs : List MV} {its : Array Value} (k : Ext c.h h') (ha : c.h.objs.size ≤ a) (g : h'.get? a = some (listOf its n)) (r : VRels W c.ρ c.h xs its.toList) (hl : xs.length ≤ lenLine) (q : Q (.ref c.hm.next) (c.hm.new (.list xs))) :
    Out c Cf.V Q (.ref a) { c.s with heap := h', toks := t } :=
  out_new (d := cell a) (o := .list xs) k (above_cell ha) (LRel.mk (c := cell a) rfl g (VRels.stay (app_stay k) r) hl) q
theorem out_list {t : Nat} {xs : List MV} {its : Array Value} (r : VRels W c.ρ c.h xs its.toList) (hl : xs.length ≤ lenLine) (q : Q (.ref c.hm.next) (c.hm.new (.list xs))) :
    Out c Cf.V Q (.ref c.h.objs.size) { c.s with heap := c.h.push { cls := .type "list", data := .seq its }, toks := t } :=
  out_list' (.push _ _) (Nat.le_refl _) (Heap.get?_push_size _ rfl) r hl q
theorem out_sset {h' : Heap} {t : Nat} {a : Addr} {xs : List Int} (k : Ext c.h h') (ha : c.h.objs.size ≤ a) (S : IsSet W.w h' a xs) (q : Q (.ref c.hm.next) (c.hm.new (.set xs))) : Out c Cf.V Q (.ref a) { c.s with heap := h', toks := t } :=
  out_new (d := cell a) (o := .set xs) k (above_cell ha) (SRel.mk (c := cell a) rfl S) q
noncomputable def bOp : MOp → Operator
  | .add => .Add | .sub => .Sub | .mul => .Mult | .fdiv => .FloorDiv | .mod => .Mod | .band => .BitAnd | .shr => .RShift | .pow => .Pow | .cat => .Add | .bor => .BitOr | .diff => .Sub
theorem small_nat {a : Int} (e : small a) : a.natAbs < 2 ^ 60 := by unfold small intLine at e; omega
theorem small_bits {a : Int} (e : small a) : Builtin.Int.intBits a ≤ 64 := by
  have h1 := small_nat e
  unfold Builtin.Int.intBits
  split
  · omega
  · rename_i hz
    have h0 : a.natAbs ≠ 0 := by intro h0; apply hz; simp; omega
    have := (Nat.log2_lt h0).mpr h1
    omega
theorem ari_ok {op : MOp} {a b n : Int} {t t' : Tok} (e : Ari op a b n) (q : ∀ t, Out c Cf.V Q (.int n t) { c.s with toks := c.s.toks + 1 }) : wpAny W.M A (binaryOp (bOp op) (.int a t) (.int b t')) (Out c Cf.V Q) noE c.s := by
  induction e with
  | add a b => exact add_int (q _)
  | sub a b => exact sub_int (q _)
  | mul l => exact mul_int (q _) (l.elim (fun q => IntMulOk.of_left (small_bits q)) fun q => IntMulOk.of_right (small_bits q))
  | fdiv l m => exact floordiv_int (Int.ne_of_gt l) (q _) (Or.inl (PyProof.noPylong_small (by omega)))
  | mod l => exact mod_int l (q _)
  | band l m => exact and_int (by rw [bitAnd_pp l m]; exact q _)
  | shr l => exact rshift_int l (q _)
  | pow l m n => exact pow_int_small l (Int.le_trans m (by decide)) (Nat.lt_trans (small_nat n) (by decide)) (q _)
theorem bin_ok {op : MOp} {h' : MHeap} (e : Bin c.hm op x y m h') (q : Q m h') (hv : c.V x v) (hu : c.V y u) : wpAny W.M A (binaryOp (bOp op) v u) (Out c Cf.V Q) noE c.s := by
  induction e with
  | ari e => exact IsInt.elim hv fun t => IsInt.elim hu fun t' => ari_ok e fun t => out_same (m := .int _) (IsInt.mk t) q
  | cat p p' l =>
    refine Cf.listE hv p fun d its n _ _ g r _ z => Cf.listE hu p' fun d2 its2 n2 _ _ g2 r2 _ z2 => ?_
    exact P.add_list g g2 (out_list (by rw [Array.toList_append]; exact r2.append r) (by rw [List.length_append]; exact l) q) (line_of (by rw [z, z2]; exact l))
  | bor p p' n l => exact Cf.setE hv p fun d hc _ S => Cf.setE hu p' fun d2 hc2 _ S2 => or_ok S S2 (fun e => nodup_own c.sim.nodup hc hc2 n _ (own_a d) (e ▸ own_a d2)) l fun h' k S' => out_sset (t := c.s.toks) k (Nat.le_refl _) S' q
  | diff p p' l => exact Cf.setE hv p fun d hc _ S => Cf.setE hu p' fun d2 hc2 _ S2 => sub_ok S S2 l fun h' k S' => out_sset (t := c.s.toks) k (Nat.le_refl _) S' q
theorem tru_ok {b : Bool} {R : Bool → Shared → Prop} {ρ : Cells} {h : Heap} {s : Shared} (e : Tru x b) (hv : VRel W ρ h x v) (q : R b s) : wpAny W.M A (truthy v) R E s := by
  induction e with
  | none => rw [show v = .none from hv]; exact truthy_none q
  | bool b => rw [show v = .bool b from hv]; exact wpAny_truthy_bool q
  | int i => exact IsInt.elim hv fun t => P.truthy_int q
theorem neg_ok (e : Neg x m) (q : Q m c.hm) (hv : c.V x v) : wpAny W.M A (unaryOp .USub v) (Out c Cf.V Q) noE c.s := by
  induction e with | mk i => exact IsInt.elim hv fun t => P.neg_int (out_same (m := .int _) (IsInt.mk _) q)
section
variable {κ κ' : Type} [DecidableEq κ] [DecidableEq κ'] {nm : κ → κ' → Prop} {k : κ} {k' : κ'} {ρ : Cells} {h : Heap} {es : List (κ × MV)} {kvs : List (κ' × Value)}
theorem stored_head {k : κ'} {v u : Value} {s : List (κ' × Value)} (h : k ∉ s.map (·.1)) : stored ((k, v) :: s) k u = (k, u) :: s := by
  unfold stored
  rw [List.any_cons, decide_eq_true rfl, Bool.true_or, if_pos rfl, List.map_cons, map_store_of_not_mem s k u h, if_pos rfl]
theorem stored_tail {b : κ' × Value} {k : κ'} {u : Value} {s : List (κ' × Value)} (h : ¬ b.1 = k) : stored (b :: s) k u = b :: stored s k u := by
  unfold stored
  rw [List.any_cons, decide_eq_false h, Bool.false_or]
  split
  · rw [List.map_cons, if_neg h]
  · rfl
theorem without_head {k : κ'} {v : Value} {s : List (κ' × Value)} (h : k ∉ s.map (·.1)) : without ((k, v) :: s) k = s := by
  unfold without
  rw [List.filter_cons_of_neg (by rw [decide_eq_true_eq]; exact fun q => q rfl)]
  exact without_of_not_mem s k h
theorem without_tail {b : κ' × Value} {k : κ'} {s : List (κ' × Value)} (h : ¬ b.1 = k) : without (b :: s) k = b :: without s k := by
  unfold without
  exact List.filter_cons_of_pos (decide_eq_true h)
theorem kset_cons {p : κ × MV} {r : List (κ × MV)} {v : MV} : kset (p :: r) k v = if p.1 = k then (p.1, v) :: r else p :: kset r k v := rfl
theorem kdel_cons {p : κ × MV} {r : List (κ × MV)} : kdel (p :: r) k = if p.1 = k then r else p :: kdel r k := rfl
theorem KRel.set (hn : nm k k') (hi : Fit nm k k') {y : MV} {u : Value} (hy : VRel W ρ h y u) (r : KRel W ρ h nm es kvs) (nd : (kvs.map (·.1)).Nodup) : KRel W ρ h nm (kset es k y) (stored kvs k' u) := by
  induction r with
  | nil => exact .cons ⟨hn, hy⟩ .nil
  | @cons a b es' kvs' q t ih =>
    have nd : (b.1 :: kvs'.map (·.1)).Nodup := nd
    rw [List.nodup_cons] at nd
    rw [kset_cons]
    by_cases z : a.1 = k
    · have e := (hi _ _ q.1).mp z
      rw [if_pos z]
      have : stored (b :: kvs') k' u = (b.1, u) :: kvs' := by
        obtain ⟨b1, b2⟩ := b
        obtain rfl : b1 = k' := e
        exact stored_head nd.1
      rw [this]
      exact .cons ⟨q.1, hy⟩ t
    · have e : ¬ b.1 = k' := fun e => z ((hi _ _ q.1).mpr e)
      rw [if_neg z]
      have : stored (b :: kvs') k' u = b :: stored kvs' k' u := stored_tail e
      rw [this]
      exact .cons q (ih nd.2)
theorem KRel.del (hi : Fit nm k k') (r : KRel W ρ h nm es kvs) (nd : (kvs.map (·.1)).Nodup) : KRel W ρ h nm (kdel es k) (without kvs k') := by
  induction r with
  | nil => exact .nil
  | @cons a b es' kvs' q t ih =>
    have nd : (b.1 :: kvs'.map (·.1)).Nodup := nd
    rw [List.nodup_cons] at nd
    rw [kdel_cons]
    by_cases z : a.1 = k
    · have e := (hi _ _ q.1).mp z
      rw [if_pos z]
      have : without (b :: kvs') k' = kvs' := by
        obtain ⟨b1, b2⟩ := b
        obtain rfl : b1 = k' := e
        exact without_head nd.1
      rw [this]
      exact t
    · rw [if_neg z, without_tail fun e => z ((hi _ _ q.1).mpr e)]
      exact .cons q (ih nd.2)
theorem kset_len (k : κ) (y : MV) (l : List (κ × MV)) : (kset l k y).length ≤ l.length + 1 := by
  induction l with
  | nil => exact Nat.le_refl _
  | cons a l ih =>
    rw [kset_cons]
    by_cases z : a.1 = k
    · rw [if_pos z]; exact Nat.le_succ _
    · rw [if_neg z]; exact Nat.succ_le_succ ih
theorem kdel_len (k : κ) (l : List (κ × MV)) : (kdel l k).length ≤ l.length := by
  induction l with
  | nil => exact Nat.le_refl _
  | cons a l ih =>
    rw [kdel_cons]
    by_cases z : a.1 = k
    · rw [if_pos z]; exact Nat.le_succ _
    · rw [if_neg z]; exact Nat.succ_le_succ ih
theorem kset_mem {k : κ} {y : MV} {R : κ → Prop} (hk : R k) {l : List (κ × MV)} (hl : ∀ e ∈ l, R e.1) : ∀ e ∈ kset l k y, R e.1 := by
  induction l with
  | nil => intro e he; rw [List.mem_singleton.mp he]; exact hk
  | cons a l ih =>
    rw [kset_cons]
    rw [List.forall_mem_cons] at hl
    by_cases z : a.1 = k
    · rw [if_pos z, List.forall_mem_cons]; exact ⟨hl.1, hl.2⟩
    · rw [if_neg z, List.forall_mem_cons]; exact ⟨hl.1, ih hl.2⟩
end
theorem fit_str (hnd : W.T.strTab.Nodup) {k : Nat} {x : Str} (hk : isStrs W k x) : Fit (isStrs W) k x := fun a a' e => by
  unfold isStrs at hk e
  constructor
  · intro q; rw [q, hk] at e; exact (Option.some.inj e).symm
  · intro q
    obtain ⟨h1, e1⟩ := List.getElem?_eq_some_iff.mp hk
    obtain ⟨h2, e2⟩ := List.getElem?_eq_some_iff.mp e
    exact (List.getElem_inj (h₀ := h2) (h₁ := h1) hnd).mp (e2.trans (q.trans e1.symm))
theorem AtE.isStr {ρ : Cells} {h : Heap} {p : Nat × MV} {e : DictEntry} {a : Nat} {nm : Str} (hf : Fit (isStrs W) a nm) (r : AtE W ρ h p e) : (e.key.isStr nm = true ↔ p.1 = a) ∧ VRel W ρ h p.2 e.val ∧ e.refKey = false := by
  induction r with
  | @mk nm' v hs t n r => exact ⟨⟨fun e => (hf _ _ n).mpr (eq_of_beq e), fun e => beq_iff_eq.mpr ((hf _ _ n).mp e)⟩, r, rfl⟩
theorem ARel.find {ρ : Cells} {h : Heap} {as : List (Nat × MV)} {es : List DictEntry} {a : Nat} {nm : Str} (hf : Fit (isStrs W) a nm) (r : ARel W ρ h as es) :
    (∀ y, kget as a = some y → ∃ e, es.find? (·.key.isStr nm) = some e ∧ VRel W ρ h y e.val) ∧ (kget as a = none → es.find? (·.key.isStr nm) = none) ∧ es.any (·.refKey) = false := by
  induction r with
  | nil => exact ⟨fun _ => ns, fun _ => rfl, rfl⟩
  | @cons p e as' es' q t ih =>
    obtain ⟨q1, q2, q3⟩ := q.isStr hf
    rw [kget_cons, List.find?_cons, List.any_cons, q3, Bool.false_or]
    by_cases z : p.1 = a
    · rw [if_pos z, q1.mpr z]
      exact ⟨fun y e' => ⟨e, rfl, Option.some.inj e' ▸ q2⟩, fun e => ns e.symm, ih.2.2⟩
    · rw [if_neg z, Bool.eq_false_iff.mpr fun e => z (q1.mp e)]
      exact ih
theorem ARel.put {ρ : Cells} {h : Heap} {as : List (Nat × MV)} {es : List DictEntry} {a : Nat} {nm : Str} {hs : Int} {t : Tok} (hf : Fit (isStrs W) a nm) (hn : isStrs W a nm) (hy : VRel W ρ h y u) (r : ARel W ρ h as es) : ARel W ρ h (kset as a y) (putL nm hs (.str nm t) u es) := by
  induction r with
  | nil => exact .cons (.mk hs t hn hy) .nil
  | @cons p e as' es' q t' ih =>
    have q1 := (q.isStr hf).1
    unfold putL
    rw [kset_cons]
    by_cases z : p.1 = a
    · rw [if_pos z, if_pos (q1.mpr z)]
      refine .cons ?_ t'
      induction q with | mk hs t n r => exact AtE.mk hs t n hy
    · rw [if_neg z, if_neg fun e => z (q1.mp e)]
      exact .cons q ih
theorem hand_of {x : MV} {v : Value} {ρ : Cells} {h : Heap} (r : VRel W ρ h x v) : handedIn v = true := by
  rcases x with _ | _ | _ | _ | vs | _ | _ | _
  · rw [show v = .none from r]; rfl
  · rw [show v = .bool _ from r]; rfl
  · exact IsInt.elim r fun _ => rfl
  · have r : IsStr W _ v := r; induction r with | mk t e => rfl
  · exact IsTup.elim r fun _ _ _ _ _ _ => rfl
  · have r : IsRng h _ _ v := r; induction r with | mk r l l' => rfl
  · rw [show v = .ref _ from r]; rfl
  · have r : IsRef ρ _ v := r; induction r with | mk e => rfl
theorem getA_ok (K : WdOk W) {a : Nat} {nm : Str} (e : GetA c.hm x a y) (ha : a ∈ W.T.attrTab) (hn : isStrs W a nm) (hx : c.V x v) (q : Q y c.hm) {b : Bool} : wpAny W.M A (getAttr v nm b) (Out c Cf.V Q) noE c.s := by
  induction e with
  | mk p eg =>
    refine Cf.instE hx p fun d es n hc _ I gd r _ _ => ?_
    obtain ⟨en, he, hu⟩ := (r.find (fit_str K.nodup hn)).1 _ eg
    have hcd := K.has
    unfold hasDictIn at hcd
    obtain ⟨cd, hcd, hh⟩ := any_some hcd
    have hfo : findObj W.K W.C (some (dictOf es n)) nm = some (.value en.val) := by
      unfold findObj PySem.W.ownOf lookIn
      rw [hcd, K.attr _ nm ha hn]
      simp only [Option.bind_some, hh, if_true, he]
    exact get_value (c.X K) I K.hga hfo (hand_of hu) (out_same hu q)
noncomputable def RU {W : Wd} (c : Cf W) (_ _ : Unit) : Prop := True
theorem setA_ok (K : WdOk W) {a : Nat} {nm : Str} {h' : MHeap} {Q : MHeap → Prop} (e : SetA c.hm a y x h') (ha : a ∈ W.T.attrTab) (hn : isStrs W a nm) (hx : c.V x v) (hy : c.V y u) (q : Q h') : wpAny W.M A (setAttr v nm u) (Out c RU fun _ => Q) noE c.s := by
  induction e with
  | mk p hl =>
    refine Cf.instE hx p fun d es n hc hne I gd r _ al => ?_
    have X := c.X K
    have hcd := K.has
    unfold hasDictIn at hcd
    obtain ⟨cd, hcd, hh⟩ := any_some hcd
    refine set_plain X I K.hsa ?_
    have ht : takerIn W.K W.C nm = some none := by unfold takerIn; rw [K.attr a nm ha hn]; rfl
    refine osa_open (s := { c.s with toks := c.s.toks + 1 }) X I K.over ht fun b => ?_
    refine wpAny_bind (wpAny_pure (wpAny_bind (wpAny_bind (wpAny_loadPart I.at_ (wpAny_bind ((looks_clsIn (h := c.h) X hcd).at ?_))))))
    rw [hh]
    refine wpAny_pure (a := some d.d) (wpAny_bind (wpAny_pure (wpAny_bind ?_)))
    unfold nsSet
    refine wpAny_bind (wpAny_bind (wpAny_askSetting (wpAny_pure (wpAny_bind (wpAny_mkText (wpAny_bind (wpAny_loadPart gd ?_)))))))
    dsimp only
    have hf := fit_str K.nodup hn
    have cc : (!(es.toArray).any (·.key.isStr nm) && (es.toArray).any (·.refKey)) = false := by
      rw [← Array.any_toList, ← Array.any_toList, (r.find hf).2.2, Bool.and_false]
    rw [aRefKeyMayBeTheName_at, cc]
    refine wpAny_updatePart gd ?_
    have gd' : (c.h.update d.d (Obj.putName nm (PyData.keyHash W.w.params nm) (.str nm (c.s.toks + 1)) u)).get? d.d = some (dictOf (putL nm (PyData.keyHash W.w.params nm) (.str nm (c.s.toks + 1)) u es) (putN nm es n)) := by
      rw [← putName_dict]
      exact Heap.get?_update_self _ gd (by rw [putName_dict]; rfl)
    have r' := ARel.put (hs := PyData.keyHash W.w.params nm) (t := c.s.toks + 1) hf hn hy r
    have hkl : (kset _ a y).length ≤ 100 := Nat.le_trans (kset_len a y _) hl
    refine wpAny_bind (wpAny_lookBehind gd' (pastItsLine_dict (by rw [List.size_toArray, All2.length r', sizeLine_eq]; exact Nat.le_trans hkl (by decide))) ?_)
    have G : ExtX d.own c.h (c.h.update d.d (Obj.putName nm (PyData.keyHash W.w.params nm) (.str nm (c.s.toks + 1)) u)) := fun b o hb e => ((Heap.SameBut.update ..).2 b fun q => hb (q ▸ own_d d)).trans e
    exact wpAny_pure (Out.mk (a := ()) (c' := c.set (o := .inst _) _ hc G (NRel.mk hne ((Heap.get?_update_other _ _ hne).trans I.at_) gd' (r'.stay (stay_set hc G)) hkl (kset_mem ha al))) trivial q later_set)
end
end Mini
end
section
namespace Mini
open PySem PySem.W PyProof.Rows PySem.SeqAt
section
variable {W : Wd} {c : Cf W} {A : Around} {Q : KV} {x y i m : MV} {v u w : Value} {E : Value → Shared → Prop}
theorem place_lt {n j : Nat} {k : Int} (e : Place n k j) : j < n := by
  induction e with
  | pos l => exact l
  | neg l => exact l
theorem seqIndex_of {n j : Nat} {k i : Int} (h : (if k < 0 then k + n else k) = i) (hi : i = j) (z : j < n) : seqIndex? k n = some j := by
  unfold seqIndex?
  rw [h, hi]
  rw [if_pos (by rw [Bool.and_eq_true, decide_eq_true_eq, decide_eq_true_eq]; exact ⟨Int.natCast_nonneg j, Int.ofNat_lt.mpr z⟩), Int.toNat_natCast]
theorem place_neg {n j : Nat} (z : j < n) : (j : Int) - n < 0 := Int.sub_neg_of_lt (Int.ofNat_lt.mpr z)
theorem place_seq {n j : Nat} {k : Int} (e : Place n k j) (l : n ≤ lenLine) : seqIndex? k n = some j ∧ -2 ^ 63 ≤ k ∧ k < 2 ^ 63 := by
  have hl : (n : Int) < 2 ^ 63 := Int.lt_of_le_of_lt (Int.ofNat_le.mpr l) (by decide)
  induction e with
  | @pos j z =>
    exact ⟨seqIndex_of (if_neg (Int.not_lt.mpr (Int.natCast_nonneg j))) rfl z, Int.le_trans (by decide) (Int.natCast_nonneg j), Int.lt_trans (Int.ofNat_lt.mpr z) hl⟩
  | @neg j z =>
    exact ⟨seqIndex_of (if_pos (place_neg z)) (Int.sub_add_cancel ..) z, by omega, Int.lt_trans (place_neg z) (by decide)⟩
theorem notPy {T : String} {id : String} {s : Shared} {v : Value} {Q : Bool → Shared → Prop} (hT : s.TypeIs v T) (slot : Slot T "__getitem__" id) (q : Q false s) : wpAny W.M A (getitemInPython v) Q E s := by
  unfold getitemInPython
  exact wpAny_bind (wpAny_specialOf hT slot.lookup (wpAny_pure q))
theorem getI_ok (K : WdOk W) (e : GetI c.hm x i y) (hx : c.V x v) (hi : c.V i u) (q : Q y c.hm) : wpAny W.M A (getItem v u) (Out c Cf.V Q) noE c.s ∧ ∀ P : Bool → Shared → Prop, P false c.s → wpAny W.M A (getitemInPython v) P noE c.s := by
  induction e with
  | tup l e =>
    refine IsTup.elim hx fun a its n g r l' => IsInt.elim hi fun t => ⟨?_, fun P => notPy ⟨_, g, rfl⟩ F.slot_tuple_getitem⟩
    obtain ⟨w, hw, hr⟩ := r.get e
    obtain ⟨p1, p2, p3⟩ := place_seq l l'
    have hz : its.size = _ := Array.length_toList.symm.trans r.length
    exact P.getItem_tuple (n := n) g p2 p3 (by rw [hz]; exact p1) (Array.getElem?_toList.symm.trans hw) (out_same hr.up q)
  | list p l e =>
    refine Cf.listE hx p fun d its n _ _ g r l' z => IsInt.elim hi fun t => ⟨?_, fun P => notPy ⟨_, g, rfl⟩ F.slot_list_getitem⟩
    obtain ⟨w, hw, hr⟩ := r.get e
    induction l with
    | @pos j l => exact wpAny_getItem_list g.isList (Int.natCast_nonneg j) (Int.lt_of_le_of_lt (Int.ofNat_le.mpr (Nat.le_trans (Nat.le_of_lt l) l')) (by decide)) (by rw [Int.toNat_natCast]; exact Array.getElem?_toList.symm.trans hw) (out_same hr q)
    | @neg j l => exact wpAny_getItem_list_neg g.isList (place_neg l) (by rw [z]; omega) (place_seq (.neg l) l').2.1 (by rw [z, Int.sub_add_cancel, Int.toNat_natCast]; exact Array.getElem?_toList.symm.trans hw) (out_same hr q)
  | idict p e =>
    refine Cf.dictE hx p fun d kvs hc _ g r l => IsInt.elim hi fun t => ⟨?_, fun P => notPy g.typeIs F.slot_dict_getitem⟩
    obtain ⟨w, hw, hr⟩ := (r.get fit_eq).1 _ e
    exact wpAny_getItem_of (intKind_is _ _ _ t) g.mapOf hw (out_same hr q)
  | sdict p e =>
    refine Cf.sdictE hx p fun d kvs hc _ g r l => ?_
    have hi : IsStr W _ u := hi
    induction hi with
    | mk t hn =>
    obtain ⟨w, hw, hr⟩ := (r.get (fit_str K.nodup hn)).1 _ e
    exact ⟨wpAny_getItem_of (strKind_is _ _ _ t) g.mapOf hw (out_same hr q), fun P => notPy g.typeIs F.slot_dict_getitem⟩
theorem setItem_listX {s : Shared} {l : Addr} {items : Array Value} {n j : Nat} {k : Int} {t : Tok} {v : Value} {Q : Unit → Shared → Prop} (hl : IsL s.heap l items n) (hk : k = (j : Int)) (hn : j < items.size) (hfit : k < 2 ^ 63)
    (hQ : Q () { s with heap := s.heap.update l (Obj.mapSeq (·.setIfInBounds j v)) }) : wpAny W.M A (setItem (.ref l) (.int k t) v) Q E s := by
  unfold setItem
  have T := hl.isList
  try with_reducible refine wpAny_holding ?_
  first | refine wpAny_bind (wpAny_pure ?_) | skip
  refine wpAny_bind (wpAny_sequenceKey T.typeIs (by decide) ?_)
  refine wpAny_bind (wpAny_callSpecial?_slot (name := Str.ofString "__setitem__") T.typeIs slot_list_setitem
    (wpAny_call_entry slot_list_setitem T.typeIs entry_list_setitem ?_ (args_list_setitem _ _ _)))
  show wpAny _ _ (Builtin.List.listSubscript? (.int k t) >>= _) _ _ s
  refine wpAny_bind (wpAny_listSubscript_int (fitsIndex_of (hk ▸ Int.natCast_nonneg j) hfit) ?_)
  clear hfit
  subst hk
  have hx' : items[j]? = some items[j] := Array.getElem?_eq_getElem hn
  show wpAny _ _ ((seqItemAt l j >>= fun r => pure (r.map (j, ·))) >>= _) _ _ s
  refine wpAny_bind (wpAny_bind (wpAny_seqItemAt hl rfl (wpAny_pure ?_)))
  rw [hx']
  show wpAny _ _ (setSeqItemAt l j v >>= _) _ _ s
  refine wpAny_bind (wpAny_setSeqItemAt hl rfl ?_)
  first
    | exact wpAny_bind (wpAny_pure (wpAny_pure ⟨.none, rfl, wpAny_pure hQ⟩))
    | exact wpAny_pure ⟨.none, rfl, wpAny_pure hQ⟩
theorem dict_nodup {κ : Type} [DecidableEq κ] {knd : KeyKind W.prog W.w κ} {h : Heap} {a : Addr} {kvs : List (κ × Value)} (g : h.DictOf knd a kvs) : (kvs.map (·.1)).Nodup := by
  obtain ⟨_, _, _, _, _, _, _, _, n⟩ := g
  exact n
theorem ext_own {d : Cell} {h h' : Heap} (he : d.d = d.a) (sb : Heap.SameBut d.a h h') : ExtX d.own h h' := fun b o hb e => (sb.2 b fun q => hb (q ▸ own_a d)).trans e
structure LUpd (c : Cf W) (d : Cell) (xs : List MV) (f : Array Value → Array Value) : Prop where
  k : ExtX d.own c.h (c.h.update d.a (Obj.mapSeq f))
  r : ORel W c.ρ (c.h.update d.a (Obj.mapSeq f)) (.list xs) d
theorem listUpd {j n : Nat} {d : Cell} {its : Array Value} (hc : c.ρ[j]? = some d) (he : d.d = d.a) (g : IsL c.h d.a its n) {xs : List MV} (f : Array Value → Array Value) (r : VRels W c.ρ c.h xs (f its).toList) (hl : xs.length ≤ lenLine) : LUpd c d xs f :=
  have k := ext_own he (Heap.SameBut.update ..)
  ⟨k, LRel.mk he (g.update f) (VRels.stay (stay_set hc k) r) hl⟩
theorem setI_ok (K : WdOk W) {h' : MHeap} {Q : MHeap → Prop} (e : SetI c.hm y x i h') (hx : c.V x v) (hi : c.V i u) (hy : c.V y w) (q : Q h') : wpAny W.M A (setItem v u w) (Out c RU fun _ => Q) noE c.s := by
  induction e with
  | @list k xs j p l =>
    refine Cf.listE hx p fun d its n hc he g r l' z => IsInt.elim hi fun t => ?_
    have U := listUpd hc he g (xs := xs.set j y) (·.setIfInBounds j w) (by rw [Array.toList_setIfInBounds]; exact r.set hy j) (by rw [List.length_set]; exact l')
    exact setItem_listX g rfl (by rw [z]; exact l) (Int.lt_of_le_of_lt (Int.ofNat_le.mpr (Nat.le_trans (Nat.le_of_lt l) l')) (by decide)) (Out.mk (a := ()) (c' := c.set _ hc U.k U.r) trivial q later_set)
  | @idict k es kk p l =>
    refine Cf.dictE hx p fun d kvs hc he g r l' => IsInt.elim hi fun t => ?_
    refine wpAny_setItem_pairs (intKind_is _ _ _ t) g (fun h' d' sb => ?_) (line_of (by rw [r.length]; exact l'))
    have k := ext_own he sb
    exact Out.mk (a := ()) (c' := c.set (o := .idict _) _ hc k (DRel.mk he d' ((KRel.set rfl fit_eq hy r (dict_nodup g)).stay (stay_set hc k)) (Nat.le_trans (kset_len ..) l))) trivial q later_set
  | @sdict k es kk p l =>
    refine Cf.sdictE hx p fun d kvs hc he g r l' => ?_
    have hi : IsStr W _ u := hi
    induction hi with
    | mk t hn =>
    refine wpAny_setItem_pairs (strKind_is _ _ _ t) g (fun h' d' sb => ?_) (line_of (by rw [r.length]; exact l'))
    have k := ext_own he sb
    exact Out.mk (a := ()) (c' := c.set (o := .sdict _) _ hc k (DRel.mk he d' ((KRel.set hn (fit_str K.nodup hn) hy r (dict_nodup g)).stay (stay_set hc k)) (Nat.le_trans (kset_len ..) l))) trivial q later_set
end
end Mini
end
section
namespace Mini
open PySem PySem.W PyProof.Rows PySem.SeqAt PySem.MeetsSeq
section
variable {W : Wd} {c : Cf W} {A : Around} {Q : KV} {x y m : MV} {v u w : Value} {vs : List Value} {xs : List MV} {E : Value → Shared → Prop}
theorem ints_rel {ρ : Cells} {h : Heap} {is : List Int} {vs : List Value} (r : VRels W ρ h (is.map .int) vs) : IntsAre vs is := by
  induction is generalizing vs with
  | nil => exact All2.nilE r .nil
  | cons i is ih => exact All2.consE r fun v s hv hs => IsInt.elim hv fun t => .cons _ t (ih hs)
theorem rel_ints {ρ : Cells} {h : Heap} {is : List Int} {vs : List Value} (I : IntsAre vs is) : VRels W ρ h (is.map .int) vs := by
  induction I with
  | nil => exact .nil
  | cons n t _ ih => exact .cons (IsInt.mk t) ih
theorem ints_count {i : Int} {u : Tok} {vs : List Value} {is : List Int} (I : IntsAre vs is) : vs.countP (fun v => vaeq v (.int i u)) = is.count i ∧ ∀ y ∈ vs, ∃ n t, y = .int n t := by
  induction I with
  | nil => exact ⟨rfl, fun y h => absurd h List.not_mem_nil⟩
  | cons n t _ ih =>
    rw [List.countP_cons, List.count_cons, ih.1]
    exact ⟨rfl, fun y h => (List.mem_cons.mp h).elim (fun e => ⟨n, t, e⟩) (ih.2 y)⟩
theorem eraseIdx_concat (l : List Value) (v : Value) : (l ++ [v]).eraseIdx ((l ++ [v]).length - 1) = l := by
  rw [List.length_append, List.length_singleton, Nat.add_sub_cancel, List.eraseIdx_append_of_length_le (Nat.le_refl _), Nat.sub_self]
  exact List.append_nil l
theorem popRel {ρ : Cells} {h : Heap} (r : VRels W ρ h (xs ++ [x]) vs) : ∃ us v, vs = us ++ [v] ∧ VRels W ρ h xs us ∧ VRel W ρ h x v := by
  induction xs generalizing vs with
  | nil => exact All2.consE r fun v s hv hs => All2.nilE hs ⟨[], v, rfl, .nil, hv⟩
  | cons y xs ih =>
    refine All2.consE r fun v s hv hs => ?_
    obtain ⟨us, w, e, h1, h2⟩ := ih hs
    exact ⟨v :: us, w, congrArg (v :: ·) e, .cons hv h1, h2⟩
theorem out_dict {j t : Nat} {d : Cell} {h' : Heap} {es : List (Int × MV)} {kvs kvs' : List (Int × Value)} (hc : c.ρ[j]? = some d) (he : d.d = d.a) (g : c.h.DictOf (intKind W.prog W.w) d.a kvs) (d' : h'.DictOf (intKind W.prog W.w) d.a kvs') (sb : Heap.SameBut d.a c.h h')
    (r : (kvs.map (·.1)).Nodup → KRel W c.ρ c.h Eq es kvs') (l : es.length ≤ lenLine) (hm : c.V m v) (q : Q m (c.hm.set j (.idict es))) : Out c Cf.V Q v { c.s with heap := h', toks := t } := by
  have k := ext_own he sb
  exact out_set (o := .idict es) hc k (DRel.mk he d' ((r (dict_nodup g)).stay (stay_set hc k)) l) (hm.stay (stay_set hc k)) q
noncomputable def methId : Nat → MV → String
  | 0, _ => "list.append" | 1, _ => "list.extend" | 3, _ => "list.count" | 4, _ => "dict.get" | _, _ => "dict.setdefault"
theorem append_ok {i : Nat} (p : c.hm.obj i = some (.list xs)) (l : xs.length < lenLine) (q : Q .none (c.hm.set i (.list (xs ++ [x])))) (hv : c.V (.ref i) v) (hx : c.V x u) : wpAny W.M A (call (.builtin "list.append") [v, u]) (Out c Cf.V Q) noE c.s := by
  refine Cf.listE hv p fun d its n hc he g r l' z => ?_
  have U := listUpd hc he g (xs := xs ++ [x]) (·.push u) (by rw [Array.toList_push]; exact (All2.one hx).append r) (by rw [List.length_append]; exact l)
  exact call_meets F.slot_list_append ⟨_, g, rfl⟩ F.entry_list_append (F.args_list_append_2 _ _) (list_append d.a its n u (line_of (by rw [z]; exact l'))) ⟨g, out_set (m := .none) hc U.k U.r rfl q⟩
theorem extend_ok {i j : Nat} {ys : List MV} (p : c.hm.obj i = some (.list xs)) (p' : c.hm.obj j = some (.list ys)) (l : xs.length + ys.length ≤ lenLine) (q : Q .none (c.hm.set i (.list (xs ++ ys)))) (hv : c.V (.ref i) v) (hx : c.V (.ref j) u) :
    wpAny W.M A (call (.builtin "list.extend") [v, u]) (Out c Cf.V Q) noE c.s := by
  refine Cf.listE hv p fun d its n hc he g r l' z => Cf.listE hx p' fun d2 its2 n2 _ _ g2 r2 l2 z2 => ?_
  have U := listUpd hc he g (xs := xs ++ ys) (· ++ its2) (by rw [Array.toList_append]; exact r2.append r) (by rw [List.length_append]; exact l)
  have hz : its.size + its2.size ≤ sizeLine := line_of (by rw [z, z2]; exact l)
  exact call_meets F.slot_list_extend ⟨_, g, rfl⟩ F.entry_list_extend (F.args_list_extend_2 _ _) (AutoSeq1.list_extend_list_list_0 d.a its n d2.a its2 n2 (by
    have : Builtin.List.listTooLong (its.size + its2.size) = false := by unfold Builtin.List.listTooLong; simpa using hz
    rw [this]; simp) (by omega) (by omega)) ⟨g, g2, out_set (m := .none) hc U.k U.r rfl q⟩
theorem popL_ok {i : Nat} (p : c.hm.obj i = some (.list (xs ++ [x]))) (q : Q x (c.hm.set i (.list xs))) (hv : c.V (.ref i) v) : wpAny W.M A (call (.builtin "list.pop") [v]) (Out c Cf.V Q) noE c.s := by
  refine Cf.listE hv p fun d its n hc he g r l z => ?_
  obtain ⟨us, w, e, r1, r2⟩ := popRel r
  have hs : its.size = (us ++ [w]).length := Array.length_toList.symm.trans (congrArg _ e)
  have U := listUpd hc he g (xs := xs) (fun ys => ys.eraseIdxIfInBounds (its.size - 1)) (by rw [Array.toList_eraseIdxIfInBounds, hs, e, eraseIdx_concat]; exact r1) (Nat.le_trans (by rw [List.length_append]; exact Nat.le_add_right ..) l)
  exact call_meets F.slot_list_pop ⟨_, g, rfl⟩ F.entry_list_pop (F.args_list_pop_1 _) (list_pop_last d.a its n w (by
    rw [← Array.getElem?_toList, e, hs, List.length_append, List.length_singleton, Nat.add_sub_cancel]; exact List.getElem?_concat_length) (line_of (by rw [z]; exact l))) ⟨g, out_set hc U.k U.r (r2.stay (stay_set hc U.k)) q⟩
theorem count_ok {i : Nat} {is : List Int} {k : Int} (p : c.hm.obj i = some (.list (is.map .int))) (q : Q (.int (is.count k)) c.hm) (hv : c.V (.ref i) v) (hx : c.V (.int k) u) : wpAny W.M A (call (.builtin "list.count") [v, u]) (Out c Cf.V Q) noE c.s := by
  refine Cf.listE hv p fun d its n hc he g r l z => IsInt.elim hx fun t => ?_
  have I := ints_count (i := k) (u := t) (ints_rel r)
  refine call_meets F.slot_list_count ⟨_, g, rfl⟩ F.entry_list_count (F.args_list_count_2 _ _) (list_count d.a its n _ (fun y => vaeq y (.int k t)) (fun y hy => ?_)) ⟨g, ?_⟩
  · obtain ⟨m, t', rfl⟩ := I.2 y (Array.mem_toList_iff.mpr hy)
    exact EqGives.int m k t' t
  · rw [I.1]
    exact out_same (m := .int _) (IsInt.mk _) q
theorem get_ok (K : WdOk W) {i : Nat} {es : List (Int × MV)} {k : Int} (p : c.hm.obj i = some (.idict es)) (q : Q ((kget es k).getD .none) c.hm) (hv : c.V (.ref i) v) (hx : c.V (.int k) u) : wpAny W.M A (call (.builtin "dict.get") [v, u]) (Out c Cf.V Q) noE c.s := by
  refine Cf.dictE hv p fun d kvs hc he g r l => IsInt.elim hx fun t => ?_
  have gg := r.get (fit_eq (k := k))
  refine call_meetsIn F.slot_dict_get g.typeIs F.entry_dict_get (F.args_dict_get_2 _ _) (meets_dict_get (intKind W.prog W.w) d.a (intKind_is _ _ k t) (Cf.notMods K hc)) ⟨_, g.mapOf, ?_⟩
  cases e : kget es k with
  | none => rw [gg.2 e]; rw [e] at q; exact out_same (m := .none) rfl q
  | some x =>
    obtain ⟨w, hw, hr⟩ := gg.1 x e
    rw [hw]; rw [e] at q
    exact out_same hr q
theorem popD_ok {i : Nat} {es : List (Int × MV)} {k : Int} {rest : List Value} (p : c.hm.obj i = some (.idict es)) (e : kget es k = some x) (hr : rest.length ≤ 1) (q : Q x (c.hm.set i (.idict (kdel es k)))) (hv : c.V (.ref i) v) (hx : c.V (.int k) u) :
    wpAny W.M A (call (.builtin "dict.pop") (v :: u :: rest)) (Out c Cf.V Q) noE c.s := by
  refine Cf.dictE hv p fun d kvs hc he g r l => IsInt.elim hx fun t => ?_
  obtain ⟨w, hw, hrel⟩ := (r.get (fit_eq (k := k))).1 x e
  have hr' : rest = [] ∨ ∃ d, rest = [d] := by
    rcases rest with _ | ⟨d, _ | ⟨e, r⟩⟩
    · exact .inl rfl
    · exact .inr ⟨d, rfl⟩
    · exact absurd hr (Nat.not_le.mpr (Nat.succ_lt_succ (Nat.succ_pos _)))
  refine call_meetsIn F.slot_dict_pop g.typeIs F.entry_dict_pop (by rcases hr' with e | ⟨d, e⟩ <;> rw [e]; exact F.args_dict_pop_2 _ _; exact F.args_dict_pop_3 _ _ _)
    (meets_dict_pop_there (intKind W.prog W.w) d.a (intKind_is _ _ k t) rest hr' rfl) ⟨_, _, g, line_of (by rw [r.length]; exact l), hw, fun h' d' sb => ?_⟩
  exact out_dict hc he g d' sb (fun n => KRel.del fit_eq r n) (Nat.le_trans (kdel_len ..) l) hrel q
theorem popN_ok (K : WdOk W) {i : Nat} {es : List (Int × MV)} {k : Int} (p : c.hm.obj i = some (.idict es)) (e : kget es k = none) (q : Q x c.hm) (hv : c.V (.ref i) v) (hx : c.V (.int k) u) (hw : c.V x w) : wpAny W.M A (call (.builtin "dict.pop") [v, u, w]) (Out c Cf.V Q) noE c.s :=
  Cf.dictE hv p fun d kvs hc he g r l => IsInt.elim hx fun t =>
    call_meetsIn F.slot_dict_pop g.typeIs F.entry_dict_pop (F.args_dict_pop_3 _ _ _) (meets_dict_pop_default (intKind W.prog W.w) d.a (intKind_is _ _ k t) (Cf.notMods K hc) rfl w) ⟨_, g, (r.get (fit_eq (k := k))).2 e, out_same hw q⟩
theorem def_ok (K : WdOk W) {i : Nat} {es : List (Int × MV)} {k : Int} (p : c.hm.obj i = some (.idict es)) (hs : ∀ y, kget es k = some y → Q y c.hm) (hn : kget es k = none → es.length < lenLine ∧ Q x (c.hm.set i (.idict (kset es k x)))) (hv : c.V (.ref i) v) (hx : c.V (.int k) u) (hw : c.V x w) :
    wpAny W.M A (call (.builtin "dict.setdefault") [v, u, w]) (Out c Cf.V Q) noE c.s := by
  refine Cf.dictE hv p fun d kvs hc he g r l => IsInt.elim hx fun t => ?_
  have gg := r.get (fit_eq (k := k))
  refine call_meetsIn F.slot_dict_setdefault g.typeIs F.entry_dict_setdefault (F.args_dict_setdefault_3 _ _ _)
    (kt_meets_setdefault (intKind W.prog W.w) d.a (intKind_is _ _ k t) (Cf.notMods K hc) w) ⟨_, g, line_of (by rw [r.length]; exact l), fun w' hw' => ?_, fun e h' d' sb => ?_⟩
  · cases e : kget es k with
    | none => rw [gg.2 e] at hw'; exact ns hw'
    | some y =>
      obtain ⟨w2, hw2, hr⟩ := gg.1 y e
      rw [hw'] at hw2
      exact out_same (Option.some.inj hw2 ▸ hr) (hs y e)
  · have e2 : kget es k = none := by
      cases e2 : kget es k with
      | none => rfl
      | some y => obtain ⟨w2, hw2, _⟩ := gg.1 y e2; rw [e] at hw2; exact ns hw2
    exact out_dict hc he g d' sb (fun n => KRel.set rfl fit_eq hw r n) (Nat.le_trans (kset_len ..) (hn e2).1) hw (hn e2).2
noncomputable def bVal : MB → Value
  | .len => .builtin "len" | .abs => .builtin "abs" | .list => .type "list" | .tuple => .type "tuple" | .dict => .type "dict" | .max => .builtin "max" | .sorted => .builtin "sorted"
  | .range1 => .type "range" | .range2 => .type "range" | .set => .type "set" | .int => .type "int"
theorem vrng {ρ : Cells} {h : Heap} {lo hi : Int} {a : Addr} {x y z : Tok} (g : IsRange h a lo hi 1 x y z) (l1 : small lo) (l2 : small hi) : VRel W ρ h (.rng lo hi) (.ref a) := IsRng.mk g l1 l2
theorem listCopy {a : Addr} {T : String} {its : Array Value} {n : Nat} {o : Obj} (hT : T = "list" ∨ T = "tuple") (ho : c.h.get? a = some o) (hc : o.cls = .type T) (hd : o.data = .seq its n) (r : VRels W c.ρ c.h xs its.toList) (l : xs.length ≤ lenLine) (q : Q (.ref c.hm.next) (c.hm.new (.list xs))) :
    wpAny W.M A (call (.type "list") [.ref a]) (Out c Cf.V Q) noE c.s :=
  call_list_seq a hT ho hc hd (fun h' c' hk hD => out_list' (t := c.s.toks) hk (Nat.le_refl _) hD r l q) (line_of (by rw [← Array.length_toList, r.length]; exact l))
theorem tup_up {h : Heap} {ρ : Cells} {vs : List MV} {us : List Value} (r : All2 (FRel W ρ h) vs us) : VRels W ρ h vs us := r.imp fun _ _ => FRel.up
theorem flat_rel {ρ : Cells} {h : Heap} (f : xs.all MV.flat = true) (r : VRels W ρ h xs vs) : All2 (FRel W ρ h) xs vs := by
  induction r with
  | nil => exact .nil
  | @cons x v _ _ q t ih =>
    rw [List.all_cons, Bool.and_eq_true] at f
    refine .cons ?_ (ih f.2)
    rcases x with _ | _ | _ | _ | vs | _ | _ | _ <;> first | exact q | exact ff f.1
end
end Mini
end
section
namespace Mini
open PySem PySem.W PyProof.Rows PySem.SeqAt PySem.MeetsSeq
section
variable {W : Wd} {c : Cf W} {A : Around} {Q : KV} {x y m : MV} {v u w : Value} {vs : List Value} {xs : List MV}
@[elab_as_elim] theorem one {P : List Value → Prop} (r : c.Vs [x] vs) (k : ∀ v, c.V x v → P [v]) : P vs := All2.consE r fun v s hv hs => All2.nilE hs (k v hv)
@[elab_as_elim] theorem two {P : List Value → Prop} (r : c.Vs [x, y] vs) (k : ∀ v u, c.V x v → c.V y u → P [v, u]) : P vs := All2.consE r fun v s hv hs => one hs fun u hu => k v u hv hu
theorem abs_eq (i : Int) : (if i < 0 then -i else i) = (i.natAbs : Int) := by
  by_cases h : i < 0
  · rw [if_pos h, Int.ofNat_natAbs_of_nonpos (Int.le_of_lt h)]
  · rw [if_neg h, Int.natAbs_of_nonneg (Int.not_lt.mp h)]
theorem len63 {n : Nat} (e : n ≤ lenLine) : (n : Int) < 2 ^ 63 := Int.lt_of_le_of_lt (Int.ofNat_le.mpr e) (by decide)
theorem ext_push2 {h h' : Heap} {o : Obj} (sb : Heap.SameBut h.objs.size (h.push o) h') : Ext h h' := fun b o e => (sb.2 b (Nat.ne_of_lt (Heap.lt_size e))).trans (Heap.get?_push_of_some _ e)
theorem IsInt.of {i n : Int} {t : Tok} (e : i = n) : IsInt n (.int i t) := e ▸ .mk t
theorem max_ok {i : Nat} {is : List Int} {n : Int} (hh : A.handled = none) (p : c.hm.obj i = some (.list (is.map .int))) (e : n ∈ is) (l : ∀ a ∈ is, a ≤ n) (q : Q (.int n) c.hm) (hv : c.V (.ref i) v) : wpAny W.M A (call (.builtin "max") [v]) (Out c Cf.V Q) noE c.s := by
  refine Cf.listE hv p fun d its k hc _ g r _ z => ?_
  have I := ints_rel r
  obtain ⟨zs, hzs⟩ := I.allInts.items
  rw [Array.toArray_toList] at hzs
  have hns : is = zs.toList.map (·.1) := by rw [← I.numsOf, hzs, nums_intItems]
  have hne : 0 < zs.size := by
    refine Nat.pos_of_ne_zero fun z => ?_
    rw [hns, List.eq_nil_of_length_eq_zero (show zs.toList.length = 0 from z)] at e
    exact absurd e List.not_mem_nil
  refine max_intList hh (hzs ▸ g.isList) hne fun v h' tk hv hk => ?_
  obtain ⟨t, rfl⟩ := intItems_at hv
  obtain ⟨h1, h2⟩ := argBest_gt (numAt zs) (zs.size - 1)
  refine out_grow (m := .int n) hk (IsInt.of (Int.le_antisymm (l _ ?_) ?_)) q
  · rw [hns, numAt_eq]; exact getD_mem (by rw [List.length_map, Array.length_toList]; omega)
  · rw [hns] at e
    obtain ⟨j, hj, e⟩ := mem_getD e
    rw [List.length_map, Array.length_toList] at hj
    rw [← e, ← numAt_eq]; exact h2 j (by omega)
theorem sorted_ok {i : Nat} {is : List Int} (p : c.hm.obj i = some (.list (is.map .int))) (l : is.length < 64) (q : ∀ ys : List Int, ys.Perm is → ys.Pairwise (· ≤ ·) → Q (.ref c.hm.next) (c.hm.new (.list (ys.map .int)))) (hv : c.V (.ref i) v) : wpAny W.M A (call (.builtin "sorted") [v]) (Out c Cf.V Q) noE c.s := by
  refine Cf.listE hv p fun d its k hc _ g r _ z => ?_
  have I := ints_rel r
  refine sorted_ints (vs := its.toList) (by rw [Array.toArray_toList]; exact g.isList) I (by rw [I.length]; exact l) fun out ns' a1 a2 a3 => ?_
  obtain ⟨e, he⟩ := sortedAll_at c.h its.toList out
  exact out_list' (t := c.s.toks) (fun b o q => sortedAll_old q) (Nat.le_succ _) he (rel_ints a1) (by rw [List.length_map, a2.length_eq]; exact Nat.le_trans (Nat.le_of_lt l) (by decide)) (q ns' a2 a3)
theorem isints {ρ : Cells} {h : Heap} {is : List Int} {us : List Value} (r : VRels W ρ h (is.map .int) us) : All2 IsInt is us := by
  induction is generalizing us with
  | nil => exact All2.nilE r .nil
  | cons i is ih => exact All2.consE r fun v s hv hs => .cons hv (ih hs)
theorem bui_ok (K : WdOk W) {b : MB} {h' : MHeap} (e : Bui c.hm b xs m h') (q : Q m h') (hh : A.handled = none) (hx : c.Vs xs vs) : wpAny W.M A (call (bVal b) vs) (Out c Cf.V Q) noE c.s := by
  induction e with
  | lenT ys =>
    refine one hx fun v hv => IsTup.elim hv fun a its n g r l => ?_
    have hz : its.size = _ := Array.length_toList.symm.trans r.length
    exact P.len_tuple (n := n) g (Int.not_le.mpr (hz ▸ len63 l)) (by rw [hz]; exact out_same (m := .int _) (IsInt.mk _) q)
  | lenL p => exact one hx fun v hv => Cf.listE hv p fun d its n _ _ g r l z => Calls.call_len_list g.isList (z ▸ len63 l) (by rw [z]; exact out_same (m := .int _) (IsInt.mk _) q)
  | abs i =>
    refine one hx fun v hv => IsInt.elim hv fun t => call_abs_int fun u tk => ?_
    rw [abs_eq]
    exact out_same (m := .int _) (IsInt.mk _) q
  | listT ys => exact one hx fun v hv => IsTup.elim hv fun a its n g r l => listCopy (.inr rfl) g rfl rfl (tup_up r) l q
  | listL p => exact one hx fun v hv => Cf.listE hv p fun d its n _ _ g r l z => listCopy (.inl rfl) g rfl rfl r l q
  | tupL p f =>
    refine one hx fun v hv => Cf.listE hv p fun d its n _ _ g r l z => call_tuple_list g.isList (fun h' hk => ?_) (line_of (z ▸ l))
    have G : Ext c.h (h'.push { cls := .type "tuple", data := .seq its }) := Ext.trans hk (.push _ _)
    exact out_grow (t := c.s.toks) (m := .tup _) G (IsTup.mk (Heap.get?_push_size _ rfl) (flat_rel f (VRels.stay G.stay r)) l) q
  | dict p =>
    refine one hx fun v hv => Cf.dictE hv p fun d kvs hc _ g r l => kt_call_dict (Cf.notMods K hc) g (line_of (by rw [All2.length r]; exact l)) fun h' d' sb => ?_
    have G : Ext c.h h' := ext_push2 sb
    exact out_new (d := cell _) (o := .idict _) (t := c.s.toks) G (above_cell (Nat.le_refl _)) (DRel.mk (c := cell _) rfl d' (KRel.stay (app_stay G) r) l) q
  | max p e l => exact one hx fun v hv => max_ok hh p e l q hv
  | lenS p => exact one hx fun v hv => Cf.setE hv p fun d _ _ S => len_ok S (out_same (m := .int _) (IsInt.mk _) q)
  | set0 => exact All2.nilE hx (set_nil fun h' k S => out_sset (t := c.s.toks) k (Nat.le_refl _) S q)
  | setL p l => exact one hx fun v hv => Cf.listE hv p fun d its n _ _ g r _ z => set_list hh g (isints r) l fun h' tk k S => out_sset k (Nat.le_refl _) S q
  | setS p => exact one hx fun v hv => Cf.setE hv p fun d _ _ S => set_set S fun h' k S => out_sset (t := c.s.toks) k (Nat.le_refl _) S q
  | maxS p => exact one hx fun v hv => Cf.setE hv p fun d _ _ S => max_one hh S fun h' tk t k => out_grow (m := .int _) k (IsInt.mk _) q
  | max2 a b =>
    refine two hx fun v u hv hu => IsInt.elim hv fun t => IsInt.elim hu fun t' => max_two_ints hh fun h' tk k => ?_
    by_cases z : b > a
    · rw [if_pos z]; rw [if_pos z] at q; exact out_grow (m := .int b) k (IsInt.mk _) q
    · rw [if_neg z]; rw [if_neg z] at q; exact out_grow (m := .int a) k (IsInt.mk _) q
  | int a => exact one hx fun v hv => IsInt.elim hv fun t => call_int_int (out_same (t := c.s.toks) (m := .int _) (IsInt.mk _) q)
  | range1 l => exact one hx fun v hv => IsInt.elim hv fun t => call_range_1 (out_grow (m := .rng 0 _) (.push _ _) (IsRng.mk (IsRange.new ..) (by unfold small intLine; decide) l) q)
  | range2 l l' => exact two hx fun v u hv hu => IsInt.elim hv fun t => IsInt.elim hu fun t' => call_range_2 (out_grow (m := .rng _ _) (.push _ _) (IsRng.mk (IsRange.new ..) l l') q)
theorem doB_ok (K : WdOk W) {b : MB} (e : DoB c.hm Q b xs) (hh : A.handled = none) (hx : c.Vs xs vs) : wpAny W.M A (call (bVal b) vs) (Out c Cf.V Q) noE c.s := by
  induction e with
  | of r q => exact bui_ok K r q hh hx
  | sorted p l q => exact one hx fun v hv => sorted_ok p l q hv
theorem clamp_neg {n : Nat} {k : Int} (h : ¬ 0 ≤ k) : ∃ j : Nat, 1 ≤ j ∧ k = -(j : Int) ∧ (n + k).toNat = n - j := by
  obtain ⟨j, rfl⟩ := Int.exists_eq_neg_ofNat (Int.le_of_lt (Int.not_le.mp h))
  exact ⟨j, Nat.pos_of_ne_zero fun z => h (by rw [z]; decide), rfl, Int.toNat_sub n j⟩
theorem clamp_take (items : Array Value) (k : Int) : (slicePick items none (some k) none).toList = items.toList.take (clamp items.size k) := by
  unfold clamp
  by_cases h0 : 0 ≤ k
  · rw [if_pos h0]
    obtain ⟨j, rfl⟩ := Int.eq_ofNat_of_zero_le h0
    rw [slicePick_upto', Int.toNat_natCast]
    rcases Nat.le_total j items.size with z | z
    · rw [Nat.min_eq_left z]
    · rw [Nat.min_eq_right z, List.take_of_length_le (show items.toList.length ≤ j from z), List.take_of_length_le (show items.toList.length ≤ items.size from Nat.le_refl _)]
  · rw [if_neg h0]
    obtain ⟨j, h1, h2, h3⟩ := clamp_neg (n := items.size) h0
    rw [h3, h2, slicePick_butLast _ _ h1]
theorem clamp_drop (items : Array Value) (k : Int) : (slicePick items (some k) none none).toList = items.toList.drop (clamp items.size k) := by
  unfold clamp
  by_cases h0 : 0 ≤ k
  · rw [if_pos h0]
    obtain ⟨j, rfl⟩ := Int.eq_ofNat_of_zero_le h0
    rw [slicePick_from', Int.toNat_natCast]
    rcases Nat.le_total j items.size with z | z
    · rw [Nat.min_eq_left z]
    · rw [Nat.min_eq_right z, List.drop_eq_nil_of_le (show items.toList.length ≤ j from z), List.drop_eq_nil_of_le (show items.toList.length ≤ items.size from Nat.le_refl _)]
  · rw [if_neg h0]
    obtain ⟨j, h1, h2, h3⟩ := clamp_neg (n := items.size) h0
    rw [h3, h2, slicePick_last _ _ h1]
end
end Mini
end
section
namespace Mini
open PySem PySem.W PyProof.Rows PySem.SeqAt
structure Ck where
  scope : Scope
  vs : List (Str × Nat)
structure Gx where
  env : Env
  vs : List (Str × Nat)
  A : Around
noncomputable def Gx.own (G : Gx) : List Addr := G.env.locals :: G.env.cells.filterMap fun p => G.env.cells.lookup p.1
noncomputable def Gx.mine (G : Gx) : List Addr := G.env.locals :: G.env.cells.filterMap fun p => if G.env.kindOf p.1 == some .cell then G.env.cells.lookup p.1 else none
inductive Stored (G : Gx) (m cm : Str → Option Value) (x : Str) (u : Value) : Prop
  | loc (k : G.env.kindOf x = some .local) (e : m x = some u)
  | cell (k : G.env.kindOf x = some .cell ∨ G.env.kindOf x = some .free) {a : Addr} (l : G.env.cells.lookup x = some a) (e : cm x = some u)
structure GOk (W : Wd) (k : Ck) (d : Nat) (G : Gx) : Prop where
  scope : G.env.scope = k.scope
  vs : G.vs = k.vs
  fn : G.env.scope.kind = .function
  globals : G.env.globals = mainGlobals
  builtins : G.env.builtins = builtinsNs
  room : Room G.A (d + 1)
  apart : ∀ n c, G.env.cells.lookup n = some c → c ≠ G.env.locals
  apartC : ∀ n n' c, G.env.cells.lookup n = some c → G.env.cells.lookup n' = some c → n = n'
  place : ∀ x i, G.vs.lookup x = some i → G.env.kindOf x = some .cell ∨ G.env.kindOf x = some .free → (G.env.cells.lookup x).isSome = true
  inj : ∀ x y i, G.vs.lookup x = some i → G.vs.lookup y = some i → x = y
  base : ∀ a ∈ G.mine, Above W.B a
inductive HasV (W : Wd) (G : Gx) (ρ : Cells) (h : Heap) (m cm : Str → Option Value) (x : Str) (v : MV) : Prop
  | mk {u : Value} (r : VRel W ρ h v u) (s : Stored G m cm x u)
inductive Store (W : Wd) (G : Gx) (vars : Vars) (ρ : Cells) (h : Heap) : Prop
  | mk {m cm : Str → Option Value} (l : h.Ns G.env.locals m) (c : ∀ n c, G.env.cells.lookup n = some c → h.IsCell c (cm n)) (v : ∀ x i v, G.vs.lookup x = some i → vars i = some v → HasV W G ρ h m cm x v)
structure Fr {W : Wd} (G : Gx) (vars : Vars) (c : Cf W) : Prop where
  store : Store W G vars c.ρ c.h
  out : ∀ a ∈ G.own, a ∉ owned c.ρ
section
variable {W : Wd} {G : Gx} {vars : Vars} {c c' : Cf W} {X : List Addr} {h h' : Heap} {ρ ρ' : Cells}
theorem Gx.own_cell {n : Str} {a : Addr} (e : G.env.cells.lookup n = some a) : a ∈ G.own := List.mem_cons_of_mem _ (List.mem_filterMap.mpr ⟨(n, a), mem_of_look e, e⟩)
theorem ns_keep {a : Addr} {m : Str → Option Value} (n : h.Ns a m) (k : ∀ o, h.get? a = some o → h'.get? a = some o) : h'.Ns a m := by
  obtain ⟨o, es, ep, g, r⟩ := n
  exact ⟨o, es, ep, k _ g, r⟩
theorem ns_lives {a : Addr} {m : Str → Option Value} (n : h.Ns a m) : Lives h a := by
  obtain ⟨o, es, ep, g, e, r⟩ := n
  exact .mk g (nf_d (by rw [e]; rfl))
theorem cell_lives {a : Addr} {v : Option Value} (n : h.IsCell a v) : Lives h a := by
  obtain ⟨o, g, e⟩ := n
  exact .mk g (nf_d (by rw [e]; rfl))
theorem cell_keep {a : Addr} {v : Option Value} (n : h.IsCell a v) (k : ∀ o, h.get? a = some o → h'.get? a = some o) : h'.IsCell a v := by
  obtain ⟨o, g, r⟩ := n
  exact ⟨o, k _ g, r⟩
theorem HasV.stay {m cm : Str → Option Value} {x : Str} {v : MV} (r : HasV W G ρ h m cm x v) (st : Stay ρ h ρ' h') : HasV W G ρ' h' m cm x v := by
  induction r with | mk r s => exact .mk (r.stay st) s
theorem Store.keep (S : Store W G vars ρ h) (st : Stay ρ h ρ' h') (k : ∀ a ∈ G.own, ∀ o, h.get? a = some o → h'.get? a = some o) : Store W G vars ρ' h' := by
  induction S with
  | mk l cc v => exact .mk (ns_keep l (k _ (.head _))) (fun n a e => cell_keep (cc n a e) (k _ (Gx.own_cell e))) fun x i w e1 e2 => (v x i w e1 e2).stay st
theorem Store.lives (S : Store W G vars ρ h) (a : Addr) (ha : a ∈ G.own) : Lives h a := by
  induction S with
  | mk l cc v =>
    rcases List.mem_cons.mp ha with e | e
    · rw [e]; exact ns_lives l
    · obtain ⟨p, _, e⟩ := List.mem_filterMap.mp e; exact cell_lives (cc _ _ e)
theorem Fr.laterX (O : Fr G vars c) (L : Later X c c') (hX : ∀ a ∈ G.own, a ∉ X) : Fr G vars c' :=
  ⟨O.store.keep L.stay fun a ha o e => L.keep a o e (O.out a ha) (hX a ha), fun a ha => not_owned (O.store.lives a ha) (O.out a ha) L⟩
theorem Fr.later (O : Fr G vars c) (L : Later [] c c') : Fr G vars c' := O.laterX L fun _ _ => List.not_mem_nil
end
noncomputable def CallOk (W : Wd) (d : Nat) (call : Nat → List MV → PT MV) : Prop :=
  ∀ (f : Nat) (A : Around) (xs : List MV) (vs : List Value) (Q : KV) (c : Cf W), A.handled = none → A.depth + 4 * d + 2 ≤ 900 → A.units + 40 * d + 20 ≤ 9000 → c.Vs xs vs → call f xs Q c.hm →
    codeAny W.M A (.call (.ref (W.faddr f)) ⟨vs, []⟩) (fun r s' => match r with | .ok (.ret v) => Out c Cf.V Q v s' | _ => False) c.s
structure Lx (W : Wd) where
  d : Nat
  call : Nat → List MV → PT MV
  K : WdOk W
  ok : CallOk W d call
noncomputable abbrev Lx.lg {W : Wd} (X : Lx W) : Lg := ⟨W.P, W.script, X.call⟩
structure Pt (W : Wd) (k : Ck) (d : Nat) where
  G : Gx
  vars : Vars
  c : Cf W
  g : GOk W k d G
  O : Fr G vars c
noncomputable def Pt.to {W : Wd} {k : Ck} {d : Nat} (p : Pt W k d) {c' : Cf W} (L : Later [] p.c c') : Pt W k d := ⟨p.G, p.vars, c', p.g, p.O.later L⟩
structure SE (W : Wd) (k : Ck) (m : ME) (e : Expr) : Prop where
  v : ∀ (X : Lx W) (p : Pt W k X.d) (Q : KV), ev X.lg m p.vars false Q p.c.hm → wpAny W.M p.G.A (eval e p.G.env) (Out p.c Cf.V Q) noE p.c.s
  t : ∀ (X : Lx W) (p : Pt W k X.d) (Q : KV), ev X.lg m p.vars true Q p.c.hm → wpAny W.M p.G.A (isTrue e p.G.env (eval e p.G.env)) (Out p.c RB Q) noE p.c.s
section
variable {W : Wd} {c : Cf W}
theorem rb {b : Bool} : RB c (.bool b) b := rfl
theorem vnone : c.V .none .none := rfl
theorem vbool {b : Bool} : c.V (.bool b) (.bool b) := rfl
theorem vint {i : Int} {t : Tok} : c.V (.int i) (.int i t) := IsInt.mk t
end
theorem SE.of {W : Wd} {k : Ck} {m : ME} {e : Expr} (hm : ∀ (X : Lx W) vars Q h, ev X.lg m vars true Q h → ev X.lg m vars false (fin true Q) h)
    (hp : ∀ env, isTrue e env (eval e env) = (eval e env >>= fun v => standAt e.pos >>= fun _ => holding [v] (truthy v)))
    (h : ∀ (X : Lx W) (p : Pt W k X.d) (Q : KV), ev X.lg m p.vars false Q p.c.hm → wpAny W.M p.G.A (eval e p.G.env) (Out p.c Cf.V Q) noE p.c.s) : SE W k m e :=
  ⟨h, fun X p Q q => by
    rw [hp]
    refine seqO (h X p _ (hm X _ _ _ q)) fun a v c' r q l => atP (wpAny_holding ?_)
    induction q with | mk e q => exact tru_ok e r (out_now rb q)⟩
noncomputable def Ck.kind (k : Ck) (id : Str) : Option NameKind := k.scope.names.lookup id
noncomputable def isVar (k : Ck) (id : Str) (x : Nat) : Bool :=
  k.vs.lookup id == some x && (k.kind id == some .local || (k.kind id == some .cell || k.kind id == some .free)) && !(id == ("__debug__" : Str)) && !(id == ("__classdict__" : Str))
noncomputable def isGl (k : Ck) (id : Str) : Bool := k.kind id == some .globalImplicit && !(id == ("__debug__" : Str))
theorem t2 {a b : Bool} (h : (a && b) = true) : a = true ∧ b = true := (Bool.and_eq_true a b).mp h
theorem tn {a : Bool} (h : (!a) = true) : a = false := Bool.not_eq_true' a |>.mp h
section
variable {W : Wd} {k : Ck} {d : Nat} {X : Lx W} {P : Value → Shared → Prop} {E : Value → Shared → Prop} {id : Str} {pos : Pos}
theorem GOk.kind {G : Gx} (g : GOk W k d G) (id : Str) : G.env.kindOf id = k.kind id := by unfold Env.kindOf; rw [g.scope]; rfl
theorem load_var (p : Pt W k d) {x : Nat} (q : isVar k id x = true) {v : MV} (hv : p.vars x = some v) (h : ∀ u, p.c.V v u → P u p.c.s) : wpAny W.M p.G.A (eval (.Name id pos) p.G.env) P E p.c.s := by
  obtain ⟨q, q4⟩ := t2 q
  obtain ⟨q, q3⟩ := t2 q
  obtain ⟨q1, q2⟩ := t2 q
  refine wpAny_Name ?_ (tn q3)
  induction p.O.store with
  | mk l cc hh =>
    induction hh id x v (by rw [p.g.vs]; exact eq_of_beq q1) hv with
    | mk r s =>
      induction s with
      | loc kk e => exact wpAny_loadName_local p.g.fn kk l e (h _ r)
      | cell kk l' e =>
        rcases kk with kk | kk
        · exact wpAny_loadName_cell p.g.fn kk l' (e ▸ cc _ _ l') (h _ r)
        · exact wpAny_loadName_free p.g.fn kk l' (e ▸ cc _ _ l') (h _ r) (tn q4)
theorem load_glob (K : WdOk W) (p : Pt W k d) (q : isGl k id = true) {v : Value} (hv : nsIn W.K mainGlobals id = some (some v)) (h : P v p.c.s) : wpAny W.M p.G.A (eval (.Name id pos) p.G.env) P E p.c.s :=
  Calls.Name_function_global p.g.fn ((p.g.kind id).trans (eq_of_beq (t2 q).1)) (Calls.loadGlobal_global (mg := W.mg) (by rw [p.g.globals]; exact K.g.keeps p.c.sim.base) (mg_of K.X K.g hv) h) (tn (t2 q).2)
theorem load_builtin (K : WdOk W) (p : Pt W k d) (q : isGl k id = true) {v : Value} (hv : nsIn W.K mainGlobals id = some none) (hb : bootBuiltins id = some v) (hn : id ≠ "__name__") (h : P v p.c.s) : wpAny W.M p.G.A (eval (.Name id pos) p.G.env) P E p.c.s :=
  Calls.Name_function_global p.g.fn ((p.g.kind id).trans (eq_of_beq (t2 q).1))
    (Calls.loadGlobal_builtin (mg := W.mg) (mb := W.mb) (by rw [p.g.globals]; exact K.g.keeps p.c.sim.base) (mg_none_of K.X K.g hv) (by rw [p.g.builtins]; exact K.b.keeps p.c.sim.base) ((K.boots id hn).trans hb) h) (tn (t2 q).2)
end
end Mini
end
section
namespace Mini
open PySem PySem.W PyProof.Rows PySem.SeqAt
noncomputable def notSlice (e : Expr) : Bool := e.ctorIdx != 26
noncomputable def notStar (e : Expr) : Bool := e.ctorIdx != 22
noncomputable def notSetE (e : Expr) : Bool := e.ctorIdx != 7
noncomputable def notSuper (e : Expr) : Bool := if h : e.ctorIdx = 16 then Expr.Call.elim e h (fun f _ _ _ => f.ctorIdx != 23) else true
section
variable {W : Wd} {k : Ck} {pos : Pos} {kk : Nat} {e l r o i c a b : Expr} {me ml mr mo mi mc ma mb : ME}
theorem se_none : SE W k .none (.Constant .none kk pos) := .of (fun _ _ _ _ q => q) (fun _ => rfl) fun X p Q q => wpAny_pure (out_now vnone q)
theorem se_bool {b : Bool} : SE W k (.bool b) (.Constant (.bool b) kk pos) := .of (fun _ _ _ _ q => q) (fun _ => rfl) fun X p Q q => wpAny_pure (out_now vbool q)
theorem se_int {i : Int} : SE W k (.int i) (.Constant (.int i) kk pos) := .of (fun _ _ _ _ q => q) (fun _ => rfl) fun X p Q q => wpAny_Constant_int (out_same vint q)
theorem se_str {n : Nat} {x : Str} (e : isStrs W n x) : SE W k (.str n) (.Constant (.str x) kk pos) := .of (fun _ _ _ _ q => q) (fun _ => rfl) fun X p Q q => Calls.Constant_str (out_same (m := .str n) (IsStr.mk _ e) q)
theorem se_var {x : Nat} {id : Str} (e : isVar k id x = true) : SE W k (.var x) (.Name id pos) := .of (fun _ _ _ _ q => q) (fun _ => rfl) fun X p Q q => by
  induction q with | mk h q => exact load_var p e h fun u r => out_now r q
theorem se_glob {i : Int} {id : Str} (e : isGl k id = true) (e' : W.T.globTab.lookup id = some i) : SE W k (.glob i) (.Name id pos) := .of (fun _ _ _ _ q => q) (fun _ => rfl) fun X p Q q => by
  obtain ⟨t, ht⟩ := X.K.globs _ _ e'
  exact load_glob X.K p e ht (out_now vint q)
theorem notSuper_base {attr : Str} {env : Env} {whole : Sem Value} (e : notSuper o = true) : attributeBase o attr env whole = whole := by
  rcases o with  _ | _ | _ | _ | _ | _ | _ | _ | _ | _ | _ | _ | _ | _ | _ | _ | _ | _ | _ | _ | _ | _ | _ | _ | _ | _ | _  <;> try exact rfl
  rename_i f a kw p
  rcases f with  _ | _ | _ | _ | _ | _ | _ | _ | _ | _ | _ | _ | _ | _ | _ | _ | _ | _ | _ | _ | _ | _ | _ | _ | _ | _ | _  <;> first | exact rfl | exact ff e
theorem go_pure {α : Type} {A : Around} {base : Expr} {o r : Value} {P : Value → Shared → Prop} {s : Shared} (h : P r s) : wpAny W.M A (letTemporaryGo base o r >>= fun _ => pure r) P noE s := wpAny_bind (wpAny_letTemporaryGo (wpAny_pure h))
theorem se_attr {n : Nat} {x : Str} (ho : SE W k mo o) (hs : notSuper o = true) (ha : n ∈ W.T.attrTab) (hn : isStrs W n x) : SE W k (.attr mo n) (.Attribute o x pos) := .of (fun _ _ _ _ q => q) (fun _ => rfl) fun X p Q q => by
  rw [arm_eval_Attribute, notSuper_base hs]
  refine seqO (ho.v X p _ q) fun m v c' r q l => atP (wpAny_bind (wpAny_holding ?_))
  induction q with | mk e q => exact wmono (getA_ok X.K e ha hn r q) fun r s' h => go_pure (α := Unit) h
theorem eval_BinOp_arm (l op r pos env) : eval (.BinOp l op r pos) env = (eval l env >>= fun a => holding [a] (eval r env) >>= fun b => standAt pos >>= fun _ => operate [a, b] (binaryOp op a b)) := rfl
theorem se_bin {op : MOp} (hl : SE W k ml l) (hr : SE W k mr r) : SE W k (.bin op ml mr) (.BinOp l (bOp op) r pos) := .of (fun _ _ _ _ q => q) (fun _ => rfl) fun X p Q q => by
  rw [eval_BinOp_arm]
  refine seqO (hl.v X p _ q) fun m v c' r q l => seqH (hr.v X (p.to l) _ q) fun n u c2 r2 q l2 => atP ?_
  induction q with | mk e q => exact wpAny_operating (bin_ok e q (r.later l2) r2)
theorem eval_USub_arm (e pos env) : eval (.UnaryOp .USub e pos) env = (eval e env >>= fun v => standAt pos >>= fun _ => holding [v] (unaryOp .USub v)) := rfl
theorem se_neg (he : SE W k me e) : SE W k (.neg me) (.UnaryOp .USub e pos) := .of (fun _ _ _ _ q => q) (fun _ => rfl) fun X p Q q => by
  rw [eval_USub_arm]
  refine seqO (he.v X p _ q) fun m v c' r q l => atP (wpAny_holding ?_)
  induction q with | mk e q => exact neg_ok e q r
theorem eval_Not_arm (e pos env) : eval (.UnaryOp .Not e pos) env = (eval e env >>= fun v => standAt pos >>= fun _ => holding [v] (unaryOp .Not v)) := rfl
theorem test_Not_arm (e pos env) : isTrue (.UnaryOp .Not e pos) env (eval (.UnaryOp .Not e pos) env) = (isTrue e env (eval e env) >>= fun b => pure (!b)) := rfl
theorem se_not (he : SE W k me e) : SE W k (.not me) (.UnaryOp .Not e pos) where
  v := fun X p Q q => by
    rw [eval_Not_arm]
    refine seqO (he.v X p _ q) fun m v c' r q l => atP (wpAny_holding ?_)
    induction q with | mk e q => exact not_of (tru_ok e r (out_now vbool q))
  t := fun X p Q q => by
    rw [test_Not_arm]
    refine seqO (he.t X p _ q) fun m b c' r q l => wpAny_pure ?_
    rw [show m = .bool b from r] at q
    induction q with | mk e q => exact out_now (by cases e; exact rb) q
theorem marked1 {op : CmpOp} {t : Sem Value} (h : notSetE e = true) : markedEach [op] [e] [t] = [t] := by
  show [markedBehindIn op e t] = [t]
  have : behindInMarks op e = false := by
    rcases e with  _ | _ | _ | _ | _ | _ | _ | _ | _ | _ | _ | _ | _ | _ | _ | _ | _ | _ | _ | _ | _ | _ | _ | _ | _ | _ | _  <;> first | exact rfl | exact ff h
  unfold markedBehindIn; rw [this]
theorem eval_Cmp_arm (l op r pos env) : eval (.Compare l [op] [r] pos) env = (eval l env >>= fun a => compareChain pos a [op] (markedEach [op] [r] [eval r env])) := rfl
theorem chain_arm (pos v op t) : compareChain pos v [op] [t] = (holding [v] t >>= fun w => standAt pos >>= fun _ => operate [v, w] (compareOp op v w)) := rfl
theorem test_Cmp_arm (l op r pos env) : isTrue (.Compare l [op] [r] pos) env (eval (.Compare l [op] [r] pos) env) = (eval l env >>= fun a => testChain pos a [op] (markedEach [op] [r] [eval r env])) := rfl
theorem testc_arm (pos v op t) : testChain pos v [op] [t] = (holding [v] t >>= fun w => standAt pos >>= fun _ => operate [v, w] (compareOp op v w) >>= fun c => holding [c] (truthy c)) := rfl
theorem se_cmp {op : MCmp} (hl : SE W k ml l) (hr : SE W k mr r) (hs : notSetE r = true) : SE W k (.cmp op ml mr) (.Compare l [cOp op] [r] pos) where
  v := fun X p Q q => by
    rw [eval_Cmp_arm, marked1 hs]
    refine seqO (hl.v X p _ q) fun m v c' r q l => ?_
    rw [chain_arm]
    refine seqH (hr.v X (p.to l) _ q) fun n u c2 r2 q l2 => atP (wpAny_operating ?_)
    induction q with | mk e q => exact cmp_ok X.K e (r.later l2) r2 (Nat.lt_of_le_of_lt (Nat.add_le_add_left (by decide) _) p.g.room.line) q
  t := fun X p Q q => by
    rw [test_Cmp_arm, marked1 hs]
    refine seqO (hl.v X p _ q) fun m v c' r q l => ?_
    rw [testc_arm]
    refine seqH (hr.v X (p.to l) _ q) fun n u c2 r2 q l2 => atP ?_
    induction q with
    | @mk b e q =>
      refine seqO (Q := fun m h => m = .bool b ∧ Q (.bool b) h) (wpAny_operating (cmp_ok X.K e (r.later l2) r2 (Nat.lt_of_le_of_lt (Nat.add_le_add_left (by decide) _) p.g.room.line) ⟨rfl, q⟩)) fun m v c3 r3 q l3 => wpAny_holding ?_
      rw [q.1] at r3
      rw [show v = .bool b from r3]
      exact wpAny_truthy_bool (out_now rb q.2)
theorem If.elim {b : Bool} {P Q : Prop} (h : If (.bool b) P Q) : cond b P Q := by
  rcases b with _ | _
  · cases h with
    | yes e p => exact absurd e (by simp)
    | no e q => exact q
  · cases h with
    | yes e p => exact p
    | no e q => exact absurd e (by simp)
theorem eval_If_arm (c a b pos env) : eval (.IfExp c a b pos) env = (isTrue c env (eval c env) >>= fun t => if t = true then eval a env else eval b env) := rfl
theorem test_If_arm (c a b pos env) : isTrue (.IfExp c a b pos) env (eval (.IfExp c a b pos) env) = (isTrue c env (eval c env) >>= fun t => if t = true then isTrue a env (eval a env) else isTrue b env (eval b env)) := rfl
theorem se_ite (hc : SE W k mc c) (ha : SE W k ma a) (hb : SE W k mb b) : SE W k (.ite mc ma mb) (.IfExp c a b pos) where
  v := fun X p Q q => by
    rw [eval_If_arm]
    refine seqO (hc.t X p _ q) fun m t c' r q l => ?_
    rw [show m = .bool t from r] at q
    rcases t with _ | _
    · exact hb.v X (p.to l) _ q.elim
    · exact ha.v X (p.to l) _ q.elim
  t := fun X p Q q => by
    rw [test_If_arm]
    refine seqO (hc.t X p _ q) fun m t c' r q l => ?_
    rw [show m = .bool t from r] at q
    rcases t with _ | _
    · exact hb.t X (p.to l) _ q.elim
    · exact ha.t X (p.to l) _ q.elim
theorem sub_notSlice (h : notSlice i = true) (o v : Value) : subscripted i false o v = operate [o, v] (getItem o v) := by
  rcases i with  _ | _ | _ | _ | _ | _ | _ | _ | _ | _ | _ | _ | _ | _ | _ | _ | _ | _ | _ | _ | _ | _ | _ | _ | _ | _ | _  <;> first | exact rfl | exact ff h
theorem se_sub (ho : SE W k mo o) (hi : SE W k mi i) (hs : notSlice i = true) : SE W k (.sub mo mi) (.Subscript o i pos) := .of (fun _ _ _ _ q => q) (fun _ => rfl) fun X p Q q => by
  rw [arm_eval_Subscript]
  refine seqO (ho.v X p _ q) fun m v c' r q l => seqH (hi.v X (p.to l) _ q) fun n u c2 r2 q l2 => atP ?_
  induction q with
  | mk e q =>
    have z := getI_ok (A := p.G.A) X.K e (r.later l2) r2 q
    refine wpAny_bind (z.2 _ ?_)
    rw [sub_notSlice hs]
    exact wpAny_bind (wpAny_operating (wmono z.1 fun r s' h => go_pure (α := Unit) h))
theorem cut_ok {c c₀ : Cf W} {A : Around} {Q : KV} {d : Addr} {its : Array Value} {vl vu : Value} {lo hi : Option Int} {xs : List MV} {p1 p2 : Option Expr} {pp : Pos} {base : Expr} (L : Later [] c₀ c) (hl : c.h.IsList d its) (hz : its.size ≤ lenLine) (pl : IsPart vl lo) (pu : IsPart vu hi)
    (r : VRels W c.ρ c.h xs (slicePick its lo hi none).toList) (hx : xs.length ≤ lenLine) (q : Q (.ref c.hm.next) (c.hm.new (.list xs))) :
    wpAny W.M A (newFields "slice" [vl, vu, .none]) (fun i s' => wpAny W.M A (do
      standAt pos
      let r ← subscripted (.Slice p1 p2 none pp) (← getitemInPython (.ref d)) (.ref d) i
      letTemporaryGo base (.ref d) r
      pure r) (Out c₀ Cf.V Q) noE s') noE c.s := by
  unfold newFields
  refine wpAny_newObj_type (atP (wpAny_bind ?_))
  have hl' : (c.h.push { cls := .type "slice", data := .fields #[vl, vu, .none] }).IsList d its := hl.push _
  refine notPy (s := { c.s with heap := c.h.push { cls := .type "slice", data := .fields #[vl, vu, .none] } }) hl'.typeIs F.slot_list_getitem ?_
  show wpAny _ _ (operate _ (getItem (.ref d) (.ref c.h.objs.size)) >>= _) _ _ _
  refine wpAny_bind (wpAny_operating (wpAny_getItem_list_slice (s := { c.s with heap := c.h.push { cls := .type "slice", data := .fields #[vl, vu, .none] } }) hl' (Heap.IsSliceOf.new ..) pl pu .none (by simp) (go_pure (α := Unit) (Out.trans L ?_)) (line_of hz)))
  exact out_list' (t := c.s.toks) (Ext.trans (.push _ _) (.push _ _)) (by rw [Heap.size_push]; exact Nat.le_succ _) (Heap.get?_push_size _ rfl) r hx q
theorem take_le {xs : List MV} (n : Nat) (l : xs.length ≤ lenLine) : (xs.take n).length ≤ lenLine := Nat.le_trans (List.length_take_le' ..) l
theorem drop_le {xs : List MV} (n : Nat) (l : xs.length ≤ lenLine) : (xs.drop n).length ≤ lenLine := Nat.le_trans (by rw [List.length_drop]; exact Nat.sub_le ..) l
theorem slTo_ok {c c₀ : Cf W} {A : Around} {Q : KV} {x i m : MV} {v u : Value} {h' : MHeap} {p1 p2 : Option Expr} {pp : Pos} {base : Expr} (K : WdOk W) (L : Later [] c₀ c) (e : SlTo W.script c.hm x i m h') (q : Q m h') (hv : c.V x v) (hu : c.V i u) :
    wpAny W.M A (newFields "slice" [.none, u, .none]) (fun i s' => wpAny W.M A (do
      standAt pos
      let r ← subscripted (.Slice p1 p2 none pp) (← getitemInPython v) v i
      letTemporaryGo base v r
      pure r) (Out c₀ Cf.V Q) noE s') noE c.s := by
  induction e with
  | script n =>
    obtain ⟨vs, l1, I⟩ := K.script
    rw [show v = .ref W.scriptAt from hv]
    have hlen := I.length
    have l2 : c.h.IsList W.scriptAt vs.toArray := by obtain ⟨o, g, r⟩ := l1; exact ⟨o, c.sim.base _ _ g, r⟩
    refine IsInt.elim hu fun t => cut_ok L l2 (by rw [List.size_toArray, hlen]; exact K.slen) .none (.int _ t) ?_ ?_ q
    · rw [clamp_take, List.size_toArray, hlen, List.map_take]
      exact (rel_ints I).take _
    · rw [List.length_map]; exact Nat.le_trans (List.length_take_le' ..) K.slen
  | list n p => exact Cf.listE hv p fun d its k _ _ g r l z => IsInt.elim hu fun t => cut_ok L g.isList (z ▸ l) .none (.int _ t) (by rw [clamp_take, z]; exact r.take _) (take_le _ l) q
theorem slFrom_ok {c c₀ : Cf W} {A : Around} {Q : KV} {x i m : MV} {v u : Value} {h' : MHeap} {p1 p2 : Option Expr} {pp : Pos} {base : Expr} (L : Later [] c₀ c) (e : SlFrom c.hm x i m h') (q : Q m h') (hv : c.V x v) (hu : c.V i u) :
    wpAny W.M A (newFields "slice" [u, .none, .none]) (fun i s' => wpAny W.M A (do
      standAt pos
      let r ← subscripted (.Slice p1 p2 none pp) (← getitemInPython v) v i
      letTemporaryGo base v r
      pure r) (Out c₀ Cf.V Q) noE s') noE c.s := by
  induction e with
  | list n p => exact Cf.listE hv p fun d its k _ _ g r l z => IsInt.elim hu fun t => cut_ok L g.isList (z ▸ l) (.int _ t) .none (by rw [clamp_drop, z]; exact r.drop _) (drop_le _ l) q
theorem se_sliceTo {pp : Pos} (ho : SE W k mo o) (hi : SE W k mi i) : SE W k (.sliceTo mo mi) (.Subscript o (.Slice none (some i) none pp) pos) := .of (fun _ _ _ _ q => q) (fun _ => rfl) fun X p Q q => by
  rw [arm_eval_Subscript]
  refine seqO (ho.v X p _ q) fun m v c' r q l => ?_
  rw [arm_eval_Slice]
  refine wpAny_bind (wpAny_holding (wpAny_bind (wpAny_pure (wpAny_bind (wpAny_holding (wout (hi.v X (p.to l) _ q) fun n u c2 r2 q l2 => wpAny_bind (wpAny_holding (wpAny_pure ?_))))))))
  induction q with | mk e q => exact slTo_ok X.K l2 e q (r.later l2) r2
theorem se_sliceFrom {pp : Pos} (ho : SE W k mo o) (hi : SE W k mi i) : SE W k (.sliceFrom mo mi) (.Subscript o (.Slice (some i) none none pp) pos) := .of (fun _ _ _ _ q => q) (fun _ => rfl) fun X p Q q => by
  rw [arm_eval_Subscript]
  refine seqO (ho.v X p _ q) fun m v c' r q l => ?_
  rw [arm_eval_Slice]
  refine wpAny_bind (wpAny_holding (wpAny_bind (wout (hi.v X (p.to l) _ q) fun n u c2 r2 q l2 => wpAny_bind (wpAny_holding (wpAny_pure (wpAny_bind (wpAny_holding (wpAny_pure ?_))))))))
  induction q with | mk e q => exact slFrom_ok l2 e q (r.later l2) r2
theorem clamp_run (items : Array Value) {a b : Nat} (hb : b ≤ items.size) (hab : a ≤ b) : (slicePick items (some (a : Int)) (some (b : Int)) none).toList = (items.toList.drop a).take (b - a) := by
  rw [slicePick_run items a b hb hab, List.toList_toArray]
theorem sl_ok {c c₀ : Cf W} {A : Around} {Q : KV} {x i j m : MV} {v u w : Value} {h' : MHeap} {p1 p2 : Option Expr} {pp : Pos} {base : Expr} (L : Later [] c₀ c) (e : Sl c.hm x i j m h') (q : Q m h') (hv : c.V x v) (hu : c.V i u) (hw : c.V j w) :
    wpAny W.M A (newFields "slice" [u, w, .none]) (fun i s' => wpAny W.M A (do
      standAt pos
      let r ← subscripted (.Slice p1 p2 none pp) (← getitemInPython v) v i
      letTemporaryGo base v r
      pure r) (Out c₀ Cf.V Q) noE s') noE c.s := by
  induction e with
  | list p l m => exact Cf.listE hv p fun d its k _ _ g r l' z => IsInt.elim hu fun t => IsInt.elim hw fun t' => cut_ok L g.isList (z ▸ l') (.int _ t) (.int _ t') (by rw [clamp_run its (z ▸ m) l]; exact (r.drop _).take _) (take_le _ (drop_le _ l')) q
theorem se_slice {pp : Pos} {j : Expr} {mj : ME} (ho : SE W k mo o) (hi : SE W k mi i) (hj : SE W k mj j) : SE W k (.slice mo mi mj) (.Subscript o (.Slice (some i) (some j) none pp) pos) := .of (fun _ _ _ _ q => q) (fun _ => rfl) fun X p Q q => by
  rw [arm_eval_Subscript]
  refine seqO (ho.v X p _ q) fun m v c' r q l => ?_
  rw [arm_eval_Slice]
  refine wpAny_bind (wpAny_holding (wpAny_bind (wout (hi.v X (p.to l) _ q) fun n u c2 r2 q l2 => wpAny_bind (wpAny_holding (wout (hj.v X ((p.to l).to l2) _ q) fun n3 w c3 r3 q l3 => wpAny_bind (wpAny_holding (wpAny_pure ?_)))))))
  induction q with | mk e q => exact sl_ok (l2.trans l3) e q ((r.later l2).later l3) (r2.later l3) r3
theorem se_dict0 : SE W k .dict0 (.Dict [] [] pos) := .of (fun _ _ _ _ q => q) (fun _ => rfl) fun X p Q q =>
  wpAny_Dict_empty (out_new (d := cell p.c.h.objs.size) (o := .idict []) (t := p.c.s.toks) (.push _ _) (above_cell (Nat.le_refl _)) (DRel.mk (c := cell _) rfl (Heap.DictOf.new _) .nil (by decide)) q)
end
end Mini
end
section
namespace Mini
open PySem PySem.W PyProof.Rows PySem.SeqAt
noncomputable def pl (es : List Expr) (env : Env) : List (Bool × Sem Value) := es.map fun e => (false, eval e env)
theorem pl_any (es : List Expr) (env : Env) : (pl es env).any (·.1) = false := by
  induction es with
  | nil => rfl
  | cons e r ih => exact ih
theorem pl_all (es : List Expr) (env : Env) : (pl es env).all (fun x => !x.1) = true := by
  induction es with
  | nil => rfl
  | cons e r ih => exact ih
theorem star_cons {e : Expr} {r : List Expr} {env : Env} (h : notStar e = true) : starEach (e :: r) env = (false, eval e env) :: starEach r env := by
  rcases e with  _ | _ | _ | _ | _ | _ | _ | _ | _ | _ | _ | _ | _ | _ | _ | _ | _ | _ | _ | _ | _ | _ | _ | _ | _ | _ | _  <;> first | exact rfl | exact ff h
noncomputable def ifsLoop (env : Env) (ifs : List Expr) (b : Bool) : Sem Bool :=
  forIn ifs b fun c r => if r = true then do let ok ← isTrue c env (eval c env); pure (ForInStep.yield ok) else pure (ForInStep.yield r)
theorem ifs_false (env : Env) (es : List Expr) : ifsLoop env es false = pure false := by
  induction es with
  | nil => rfl
  | cons e r ih =>
    unfold ifsLoop
    rw [List.forIn_cons]
    exact ih
structure SLs (W : Wd) (k : Ck) (ms : MEs) (es : List Expr) : Prop where
  Z : ms = .nil ↔ es = []
  N : ∀ pos env, backTo pos (starEach es env) = pl es env
  L : ∀ (X : Lx W) (p : Pt W k X.d) Q, evL X.lg ms p.vars Q p.c.hm → wpAny W.M p.G.A (spliced (pl es p.G.env)) (Out p.c Cf.Vs Q) noE p.c.s
  B : ∀ (X : Lx W) (p : Pt W k X.d) pos isAnd Q, evB X.lg ms p.vars isAnd false Q p.c.hm → wpAny W.M p.G.A (boolOp pos (cond isAnd .And .Or) (evalEach es p.G.env)) (Out p.c Cf.V Q) noE p.c.s
  T : ∀ (X : Lx W) (p : Pt W k X.d) isAnd Q, evB X.lg ms p.vars isAnd true Q p.c.hm → wpAny W.M p.G.A (allTrue (cond isAnd .And .Or) es p.G.env) (Out p.c RB Q) noE p.c.s
  C : ∀ (X : Lx W) (p : Pt W k X.d) Q, evC X.lg ms p.vars Q p.c.hm → wpAny W.M p.G.A (ifsLoop p.G.env es true) (Out p.c REq Q) noE p.c.s
section
variable {W : Wd} {k : Ck} {pos : Pos} {e : Expr} {es : List Expr} {m : ME} {ms : MEs}
theorem sl_nil : SLs W k .nil [] where
  Z := ⟨fun _ => rfl, fun _ => rfl⟩
  N := fun _ _ => rfl
  L := fun X p Q q => wpAny_pure (out_now (R := Cf.Vs) .nil q)
  B := fun X p pos isAnd Q q => q.elim
  T := fun X p isAnd Q q => q.elim
  C := fun X p Q q => wpAny_pure (out_now (R := REq) rfl q)
theorem b_step {c : Cf W} {A : Around} {isAnd t : Bool} {v : Value} {r : Sem Value} {Q : KV} {P : Prop} (q : If (.bool t) (match isAnd with | true => P | false => Q (.bool true) c.hm) (match isAnd with | true => Q (.bool false) c.hm | false => P)) (hv : v = .bool t) (h : P → wpAny W.M A r (Out c Cf.V Q) noE c.s) :
    wpAny W.M A (match (cond isAnd BoolOp.And BoolOp.Or), t with | .And, false => pure v | .Or, true => pure v | _, _ => r) (Out c Cf.V Q) noE c.s := by
  rw [hv]
  rcases t with _ | _ <;> rcases isAnd with _ | _
  · exact h q.elim
  · exact wpAny_pure (out_now vbool q.elim)
  · exact wpAny_pure (out_now vbool q.elim)
  · exact h q.elim
theorem t_step {c : Cf W} {A : Around} {isAnd t : Bool} {r : Sem Bool} {Q : KV} {P : Prop} (q : If (.bool t) (match isAnd with | true => P | false => Q (.bool true) c.hm) (match isAnd with | true => Q (.bool false) c.hm | false => P)) (h : P → wpAny W.M A r (Out c RB Q) noE c.s) :
    wpAny W.M A (match (cond isAnd BoolOp.And BoolOp.Or), t with | .And, false => pure false | .Or, true => pure true | _, _ => r) (Out c RB Q) noE c.s := by
  rcases t with _ | _ <;> rcases isAnd with _ | _
  · exact h q.elim
  · exact wpAny_pure (out_now rb q.elim)
  · exact wpAny_pure (out_now rb q.elim)
  · exact h q.elim
theorem t_last {c : Cf W} {A : Around} {isAnd t : Bool} {Q : KV} {s : Shared} (h : Out c RB Q t s) : wpAny W.M A (match (cond isAnd BoolOp.And BoolOp.Or), t with | .And, false => pure false | .Or, true => pure true | op, _ => allTrue op [] (default : Env)) (Out c RB Q) noE s := by
  rcases t with _ | _ <;> rcases isAnd with _ | _ <;> exact wpAny_pure h
theorem bool_arm (pos op x y r) : boolOp pos op (x :: y :: r) = (x >>= fun v => standAt pos >>= fun _ => holding [v] (truthy v) >>= fun t => match op, t with | .And, false => pure v | .Or, true => pure v | _, _ => boolOp pos op (y :: r)) := rfl
theorem all_arm (op e r env) : allTrue op (e :: r) env = (isTrue e env (eval e env) >>= fun t => match op, t with | .And, false => pure false | .Or, true => pure true | _, _ => allTrue op r env) := rfl
theorem sl_cons (hm : SE W k m e) (hs : SLs W k ms es) (hn : notStar e = true) : SLs W k (.cons m ms) (e :: es) where
  Z := ⟨fun h => MEs.noConfusion h, fun h => absurd h (List.cons_ne_nil _ _)⟩
  N := fun pos env => by
    rw [star_cons hn]
    exact congrArg ((false, eval e env) :: ·) (hs.N pos env)
  L := fun X p Q q => by
    refine seqO (hm.v X p _ q) fun a v c' r q l => ?_
    refine wpAny_bind (wpAny_pure (wpAny_bind (wpAny_holding (wout (hs.L X (p.to l) _ q) fun as vs c2 r2 q l2 => ?_))))
    exact wpAny_pure (Out.mk (R := Cf.Vs) (.cons (r.later l2) r2) q l2)
  B := fun X p pos isAnd Q q => by
    rcases ms with _ | ⟨m2, ms2⟩
    · rw [hs.Z.mp rfl]
      exact hm.v X p _ q
    · rcases es with _ | ⟨e2, es2⟩
      · exact MEs.noConfusion (hs.Z.mpr rfl)
      rw [show evalEach (e :: e2 :: es2) p.G.env = eval e p.G.env :: eval e2 p.G.env :: evalEach es2 p.G.env from rfl, bool_arm]
      refine seqO (hm.v X p _ q) fun a v c' r q l => atP (wpAny_bind (wpAny_holding ?_))
      have ih := hs.B X (p.to l) pos isAnd Q
      cases q with
      | yes ea p =>
        rw [ea] at r
        exact tru_ok (.bool true) r (b_step (.yes rfl p) r ih)
      | no ea p =>
        rw [ea] at r
        exact tru_ok (.bool false) r (b_step (.no rfl p) r ih)
  T := fun X p isAnd Q q => by
    rw [all_arm]
    rcases ms with _ | ⟨m2, ms2⟩
    · rw [hs.Z.mp rfl]
      refine wpAny_bind (wmono (hm.t X p _ q) fun b s' h => ?_)
      rcases b with _ | _ <;> rcases isAnd with _ | _ <;> exact wpAny_pure h
    · refine seqO (hm.t X p _ q) fun a t c' r q l => ?_
      rw [show a = .bool t from r] at q
      exact t_step q (hs.T X (p.to l) isAnd Q)
  C := fun X p Q q => by
    unfold ifsLoop
    rw [List.forIn_cons]
    refine seqO (Q := fun b h => If (.bool b) (evC X.lg ms p.vars Q h) (Q false h)) (R := fun _ a b => ForInStep.yield a = b) (wpAny_bind (wout (hm.t X p _ q) fun a b c' r q l => wpAny_pure (Out.mk (R := fun _ a b => ForInStep.yield a = b) (a := b) rfl ?_ l))) ?_
    · rw [show a = .bool b from r] at q; exact q
    · intro b b' c' r q l
      rw [← show ForInStep.yield b = b' from r]
      rcases b with _ | _
      · show wpAny _ _ (ifsLoop p.G.env es false) _ _ _
        rw [ifs_false]
        exact wpAny_pure (out_now (R := REq) rfl q.elim)
      · exact hs.C X (p.to l) Q q.elim
end
end Mini
end
section
namespace Mini
open PySem PySem.W PyProof.Rows PySem.SeqAt
theorem fnIn_of {K : Frag} {f : Addr} (h : fnIn K f = true) : ∃ o fd, K.lookup f = some o ∧ o.data = .func fd := by
  unfold fnIn at h
  split at h
  · rename_i e; exact ⟨_, _, e, rfl⟩
  · exact ff h
section
variable {W : Wd} {k : Ck} {pos : Pos} {kk : Nat} {e : Expr} {es : List Expr} {m : ME} {ms : MEs}
theorem se_and (hs : SLs W k ms es) : SE W k (.and ms) (.BoolOp .And es pos) := ⟨fun X p Q q => hs.B X p pos true Q q, fun X p Q q => hs.T X p true Q q⟩
theorem se_or (hs : SLs W k ms es) : SE W k (.or ms) (.BoolOp .Or es pos) := ⟨fun X p Q q => hs.B X p pos false Q q, fun X p Q q => hs.T X p false Q q⟩
theorem size_ok {c : Cf W} {xs : List MV} {vs : List Value} (r : c.Vs xs vs) (l : xs.length ≤ 100) : sizeOk (Data.seq vs.toArray) := by
  show vs.toArray.size ≤ sizeLine
  rw [List.size_toArray, r.length]; exact Nat.le_trans l (by decide)
theorem se_list (hs : SLs W k ms es) : SE W k (.list ms) (.List es pos) := .of (fun _ _ _ _ q => q) (fun _ => rfl) fun X p Q q => by
  rw [arm_eval_List, hs.N]
  refine atP (seqO (hs.L X p _ q) fun xs vs c' r q l => ?_)
  unfold newList
  exact wpAny_newObj_type (out_list (t := c'.s.toks) r (Nat.le_trans q.1 (by decide)) q.2) (size_ok r q.1)
theorem se_tup (hs : SLs W k ms es) : SE W k (.tup ms) (.Tuple es kk pos) := .of (fun _ _ _ _ q => q) (fun _ => rfl) fun X p Q q => by
  rw [arm_eval_Tuple, hs.N]
  refine atP (seqO (hs.L X p _ q) fun xs vs c' r q l => ?_)
  unfold newTuple
  have G : Ext c'.h (c'.h.push { cls := .type "tuple", data := .seq vs.toArray }) := .push _ _
  exact wpAny_newObj_type (out_grow (m := .tup xs) (t := c'.s.toks) G (IsTup.mk (Heap.get?_push_size _ rfl) (flat_rel q.2.1 (VRels.stay G.stay r)) (Nat.le_trans q.1 (by decide))) q.2.2) (size_ok r q.1)
theorem args_ok {c : Cf W} {A : Around} {f : Value} {env : Env} {P : Args → Shared → Prop} {Q : List MV → MHeap → Prop} (h : wpAny W.M A (spliced (pl es env)) (Out c Cf.Vs Q) noE c.s) (k : ∀ xs vs c', c'.Vs xs vs → Q xs c'.hm → Later [] c c' → P ⟨vs, []⟩ c'.s) : wpAny W.M A (evalArgs f true (pl es env) []) P noE c.s := by
  rcases es with _ | ⟨e, r⟩
  · unfold evalArgs
    show wpAny _ A (spliced [] >>= _) P _ c.s
    refine wpAny_bind (wout h fun xs vs c' r q l => wpAny_bind (wpAny_pure (wpAny_holding ?_)))
    exact wpAny_bind (wpAny_pure (wpAny_bind (wpAny_pure (wpAny_pure (k xs vs c' r q l)))))
  · exact Calls.evalArgs_plain (wout h k)
theorem room1 {X : Lx W} {p : Pt W k X.d} : p.G.A.handled = none ∧ p.G.A.depth + 4 * X.d + 2 ≤ 900 ∧ p.G.A.units + 40 * X.d + 20 ≤ 9000 := ⟨p.g.room.handled, Nat.le_trans (Nat.le_add_right _ 2) p.g.room.depth, Nat.le_trans (Nat.le_add_right _ 20) p.g.room.units⟩
theorem call_fn {X : Lx W} {p : Pt W k X.d} {c' : Cf W} {f : Nat} {xs : List MV} {vs : List Value} {Q : KV} (L : Later [] p.c c') (r : c'.Vs xs vs) (q : X.call f xs Q c'.hm) : wpAny W.M p.G.A (call (.ref (W.faddr f)) vs) (Out p.c Cf.V Q) noE c'.s :=
  wpAny_call (codeAny_mono (X.ok f p.G.A xs vs Q c' room1.1 room1.2.1 room1.2.2 r q) fun r s'' h => by
    rcases r with e | (_ | _ | _ | v) <;> first | exact h.elim | exact Out.trans L h)
theorem se_callF {f : Nat} {id : Str} {np : Pos} (hs : SLs W k ms es) (hi : isGl k id = true) (hf : W.T.fnTab[f]? = some id) : SE W k (.callF f ms) (.Call (.Name id np) es [] pos) := .of (fun _ _ _ _ q => q) (fun _ => rfl) fun X p Q q => by
  rw [arm_eval_Call_Name']
  obtain ⟨hg, hfn⟩ := X.K.fnGlob f id hf
  obtain ⟨o, fd, ho, hd⟩ := fnIn_of hfn
  refine wpAny_bind (load_glob X.K p hi hg ?_)
  rw [hs.N]
  exact Calls.callWith_function (o := o) (fd := fd) (args_ok (hs.L X p _ q) fun xs vs c' r q l => ⟨⟨c'.sim.base _ _ (X.K.X _ _ ho), hd⟩, call_fn l r q⟩)
noncomputable def bName : MB → Str
  | .len => "len" | .abs => "abs" | .list => "list" | .tuple => "tuple" | .dict => "dict" | .max => "max" | .sorted => "sorted" | .range1 => "range" | .range2 => "range" | .set => "set" | .int => "int"
theorem b_facts (b : MB) : bName b ∈ (["len", "abs", "list", "tuple", "dict", "max", "sorted", "range", "super", "set", "int", "enumerate"] : List Str) ∧ bootBuiltins (bName b) = some (bVal b) ∧ bName b ≠ "__name__" := by
  rcases b with _ | _ | _ | _ | _ | _ | _ | _ | _ | _ | _
  · exact ⟨by decide, boot_len, by decide⟩
  · exact ⟨by decide, boot_abs, by decide⟩
  · exact ⟨by decide, boot_list, by decide⟩
  · exact ⟨by decide, boot_tuple, by decide⟩
  · exact ⟨by decide, boot_dict, by decide⟩
  · exact ⟨by decide, boot_max, by decide⟩
  · exact ⟨by decide, boot_range, by decide⟩
  · exact ⟨by decide, boot_range, by decide⟩
  · exact ⟨by decide, boot_sorted, by decide⟩
  · exact ⟨by decide, by kernel_rfl, by decide⟩
  · exact ⟨by decide, by kernel_rfl, by decide⟩
theorem with_b {b : MB} {M : Model} {A : Around} {s : Shared} {E : Value → Shared → Prop} {P : Value → Shared → Prop} {args : List (Bool × Sem Value)} (h : args.any (·.1) = false) (g : wpAny M A (evalArgs (bVal b) true args []) (fun a s' => wpAny M A (call (bVal b) a.pos a.kw) P E s') E s) :
    wpAny M A (callWith pos (bVal b) [] args []) P E s := by
  rcases b with _ | _ | _ | _ | _ | _ | _ | _ | _ | _ | _
  · exact Calls.callWith_builtin (id := "len") h g
  · exact Calls.callWith_builtin (id := "abs") h g
  · exact _root_.PySem.callWith_type (T := "list") h g
  · exact _root_.PySem.callWith_type (T := "tuple") h g
  · exact _root_.PySem.callWith_type (T := "dict") h g
  · exact Calls.callWith_builtin (id := "max") h g
  · exact _root_.PySem.callWith_type (T := "range") h g
  · exact _root_.PySem.callWith_type (T := "range") h g
  · exact Calls.callWith_builtin (id := "sorted") h g
  · exact _root_.PySem.callWith_type (T := "set") h g
  · exact _root_.PySem.callWith_type (T := "int") h g
theorem se_callB {b : MB} {np : Pos} (hs : SLs W k ms es) (hi : isGl k (bName b) = true) : SE W k (.callB b ms) (.Call (.Name (bName b) np) es [] pos) := .of (fun _ _ _ _ q => q) (fun _ => rfl) fun X p Q q => by
  rw [arm_eval_Call_Name']
  obtain ⟨h1, h2, h3⟩ := b_facts b
  refine wpAny_bind (load_builtin X.K p hi (X.K.noBuiltin _ h1) h2 h3 ?_)
  rw [hs.N]
  exact with_b (pl_any ..) (args_ok (hs.L X p _ q) fun xs vs c' r q l => wtrans l (doB_ok X.K q p.g.room.handled r))
theorem method_call {env : Env} {o : Expr} {name : Str} {apos pos : Pos} {ov f : Value} {first : List Value} {n : Nat} {args : List (Bool × Sem Value)} {A : Around} {s s' : Shared} {E P : Value → Shared → Prop} (hfew : args.all (fun x => !x.1) = true) (hn : n < 29) (hline : (apos.endLine == pos.line) = true)
    (hm : ∀ (R : Value × List Value → Shared → Prop) (pl : Sem Bool), R (f, first) s' → wpAny W.M A (getMethod ov name pl) R E s) (h : wpAny W.M A (callWith pos f first args []) P E s') : wpAny W.M A (methodCall o name apos pos env ov n args []) P E s := by
  have hform : methodCallForm n args [] = true := by
    unfold methodCallForm
    rw [hfew]
    simp; omega
  have hpos : methodCallPos true o env apos pos = pure pos := by unfold methodCallPos; simp [hline]
  unfold methodCall
  rw [hform]
  exact wpAny_bind (wpAny_holding (hm _ _ (wpAny_bind (wpAny_of_eq hpos h))))
noncomputable def lName : Nat → String
  | 0 => "list.append"
  | 1 => "list.extend"
  | 2 => "list.pop"
  | _ => "list.count"
noncomputable def dName : Nat → String
  | 2 => "dict.pop"
  | 4 => "dict.get"
  | _ => "dict.setdefault"
noncomputable def mVal (W : Wd) : MK → Nat → Value
  | .list, n => .builtin (lName n)
  | .dict, n => .builtin (dName n)
  | .inst f, _ => .ref (W.faddr f)
theorem word_at (K : WdOk W) {i : Nat} {x : Str} (hi : i < 6) (e : isStrs W i x) : (["append", "extend", "pop", "count", "get", "setdefault"] : List Str)[i]? = some x := by
  rw [← K.words, List.getElem?_take_of_lt hi]; exact e
theorem kget_none {as : List (Nat × MV)} {m : Nat} {L : List Nat} (al : ∀ e ∈ as, e.1 ∈ L) (h : ∀ a ∈ L, a ≠ m) : kget as m = none := by
  induction as with
  | nil => rfl
  | cons z l ih =>
    rw [List.forall_mem_cons] at al
    rw [kget_cons, if_neg (h _ al.1)]
    exact ih al.2
theorem slotMeth {c : Cf W} {A : Around} {T : String} {name : Str} {id : String} {a : Addr} {o : Obj} {R : Value × List Value → Shared → Prop} {pl : Sem Bool} (pa : PlainAttrs T) (slot : Slot T name id) (hty : typeOf (.builtin id) = pure (.type "method_descriptor")) (ho : c.h.get? a = some o) (hc : o.cls = .type T) (hd : o.dict = none)
    (q : R (.builtin id, [.ref a]) c.s) : wpAny W.M A (getMethod (.ref a) name pl) R noE c.s :=
  getMethod_builtin ⟨_, ho, hc⟩ pa slot hty (fun b e => by cases e; exact ⟨o, ho, hd⟩) q
theorem getM_ok (K : WdOk W) {c : Cf W} {A : Around} {n : Nat} {x : MV} {v : Value} {nm : Str} {kd : MK} (e : Kind W.P c.hm n x kd) (hn : isStrs W n nm) (hv : c.V x v) (R : Value × List Value → Shared → Prop) (pl : Sem Bool) (q : R (mVal W kd n, [v]) c.s) : wpAny W.M A (getMethod v nm pl) R noE c.s := by
  induction e with
  | list p l =>
    refine Cf.listE hv p (P := fun v => R (_, [v]) c.s → wpAny W.M A (getMethod v nm pl) R noE c.s) (fun d its j _ _ g _ _ _ q => ?_) q
    have w := word_at K (Nat.lt_trans l (by decide)) hn
    have hpl : PlainAttrs "list" := F.plainAttrs_list
    rcases n with _ | _ | _ | _ | n
    · rw [← Option.some.inj w]; exact slotMeth hpl F.slot_list_append F.type_list_append g rfl rfl q
    · rw [← Option.some.inj w]; exact slotMeth hpl F.slot_list_extend F.type_list_extend g rfl rfl q
    · rw [← Option.some.inj w]; exact slotMeth hpl F.slot_list_pop F.type_list_pop g rfl rfl q
    · rw [← Option.some.inj w]; exact slotMeth hpl F.slot_list_count F.type_list_count g rfl rfl q
    · exact absurd l (Nat.not_lt.mpr (Nat.le_add_left ..))
  | dict p l =>
    refine Cf.dictE hv p (P := fun v => R (_, [v]) c.s → wpAny W.M A (getMethod v nm pl) R noE c.s) (fun d kvs _ _ g _ _ q => ?_) q
    have hpl : PlainAttrs "dict" := F.plainAttrs_dict
    obtain ⟨o, _, _, g1, g2, _⟩ := g
    rcases l with rfl | rfl | rfl
    · rw [← Option.some.inj (word_at K (by decide) hn)]; exact slotMeth hpl F.slot_dict_pop F.type_dict_pop g1 g2.1 g2.2.1 q
    · rw [← Option.some.inj (word_at K (by decide) hn)]; exact slotMeth hpl F.slot_dict_get F.type_dict_get g1 g2.1 g2.2.1 q
    · rw [← Option.some.inj (word_at K (by decide) hn)]; exact slotMeth hpl F.slot_dict_setdefault F.type_dict_setdefault g1 g2.1 g2.2.1 q
  | inst p e =>
    refine Cf.instE hv p (P := fun v => R (_, [v]) c.s → wpAny W.M A (getMethod v nm pl) R noE c.s) (fun d ds j hc _ I gd r _ al q => ?_) q
    obtain ⟨hf, ht, hat, _⟩ := K.meths _ _ _ e hn
    have hz := r.find (fit_str K.nodup hn)
    have hsh : shadowIn (some (dictOf ds j)) nm = some false := by
      unfold shadowIn lookIn
      simp only [hz.2.1 (kget_none al hat), hz.2.2]
      rfl
    exact method_fn (c.X K) I K.hga K.hgt hf ht hsh q
theorem meth_ok (K : WdOk W) {c : Cf W} {A : Around} {n : Nat} {x u : MV} {v : Value} {xs : List MV} {vs : List Value} {kd : MK} {h' : MHeap} {Q : KV} (e : Meth c.hm kd n x xs u h') (q : Q u h') (hv : c.V x v) (r : c.Vs xs vs) : wpAny W.M A (call (mVal W kd n) (v :: vs)) (Out c Cf.V Q) noE c.s := by
  induction e with
  | append p l => exact one r fun u hu => append_ok p l q hv hu
  | extend p p' l => exact one r fun u hu => extend_ok p p' l q hv hu
  | popL p => exact All2.nilE r (popL_ok p q hv)
  | count k p => exact one r fun u hu => count_ok p q hv hu
  | get k p => exact one r fun u hu => get_ok K p q hv hu
  | popD p e l => exact All2.consE r fun u s hu hs => popD_ok p e (by rw [hs.length]; exact l) q hv hu
  | popN p e => exact two r fun u w hu hw => popN_ok K p e q hv hu hw
  | defS p e => exact two r fun u w hu hw => def_ok K p (fun y e' => by rw [e] at e'; exact Option.some.inj e' ▸ q) (fun e' => ns (e'.symm.trans e)) hv hu hw
  | defN p e l => exact two r fun u w hu hw => def_ok K p (fun y e' => ns (e.symm.trans e')) (fun _ => ⟨l, q⟩) hv hu hw
theorem se_callM {n : Nat} {o : Expr} {mo : ME} {nm : Str} {apos : Pos} (ho : SE W k mo o) (hs : SLs W k ms es) (hb : notSuper o = true) (hn : isStrs W n nm) (hl : (apos.endLine == pos.line) = true) (hk : es.length < 29) : SE W k (.callM mo n ms) (.Call (.Attribute o nm apos) es [] pos) := .of (fun _ _ _ _ q => q) (fun _ => rfl) fun X p Q q => by
  rw [arm_eval_Call, notSuper_base hb]
  refine seqO (ho.v X p _ q) fun x v c' r q l => atP ?_
  rw [hs.N]
  induction q with
  | @mk kd e q =>
  refine method_call (pl_all ..) hk hl (fun R pl q => getM_ok X.K e hn r R pl q) ?_
  have go := fun {P : Args → Shared → Prop} {f : Value} (g : ∀ xs vs c2, c2.Vs xs vs → doM X.lg c2.hm x n xs Q kd → Later [] c' c2 → P ⟨vs, []⟩ c2.s) => args_ok (f := f) (hs.L X (p.to l) _ q) g
  rcases kd with _ | _ | f
  · exact Calls.callWith_builtin (id := lName n) (pl_any ..) (go fun xs vs c2 r2 q l2 => by induction q with | mk e q => exact wtrans l2 (meth_ok X.K e q (r.later l2) r2))
  · exact Calls.callWith_builtin (id := dName n) (pl_any ..) (go fun xs vs c2 r2 q l2 => by induction q with | mk e q => exact wtrans l2 (meth_ok X.K e q (r.later l2) r2))
  · obtain ⟨_, _, _, hfn, _⟩ := X.K.meths n f nm (by cases e; assumption) hn
    obtain ⟨og, fd, hog, hfd⟩ := fnIn_of hfn
    exact Calls.callWith_function (o := og) (fd := fd) (go fun xs vs c2 r2 q l2 => ⟨⟨c2.sim.base _ _ (X.K.X _ _ hog), hfd⟩, call_fn (p := p.to l) l2 (.cons (r.later l2) r2) q⟩)
end
end Mini
end
section
namespace Mini
open PySem PySem.W PyProof.Rows PySem.SeqAt
section
variable {W : Wd} {c c' : Cf W} {Q : KV} {D : Addr}
theorem ext_cell {h h' : Heap} (k : ExtX [D] h h') : ExtX (cell D).own h h' := fun b o n e => k b o (fun q => n (by rw [List.mem_singleton.mp q]; exact own_a _)) e
noncomputable def Cf.adopt (c : Cf W) {o : MObj} {h' : Heap} (t : Nat) (a : Aside W.B c.ρ c.h D) (k : ExtX [D] c.h h') (R : ORel W (c.ρ ++ [cell D]) h' o (cell D)) : Cf W :=
  ⟨c.ρ ++ [cell D], c.hm.new o, { c.s with heap := h', toks := t }, c.sim.adopt (ext_cell k) (fun b hb => by rw [own_cell hb]; exact a.out) (fun b hb => by rw [own_cell hb]; exact a.new) (fun b hb x e f => by rw [own_cell hb] at e; exact a.live.nf e f) R⟩
theorem Later.adopt {o : MObj} {h' : Heap} {t : Nat} {a : Aside W.B c'.ρ c'.h D} {k : ExtX [D] c'.h h'} {R : ORel W (c'.ρ ++ [cell D]) h' o (cell D)} (L : Later [] c c') (ab : Above c.h D) : Later [] c (c'.adopt t a k R) := by
  have ne : ∀ b o, c.h.get? b = some o → b ∉ [D] := fun b o e q => by rw [List.mem_singleton.mp q] at e; exact ab.no e
  exact ⟨fun e => at_app (L.at_ e), fun b hb => (own_or hb).elim (L.fresh b) fun hb => .inr (by rw [own_cell hb]; exact ab), fun b o e hb hX => k b o (ne b o e) (L.keep b o e hb hX), fun b o e f => k b o (ne b o e) (L.froz b o e f), fun b o e => by
    obtain ⟨o', e'⟩ := L.alive b o e
    exact ⟨o', k b o' (ne b o e) e'⟩, L.rest⟩
theorem adopt_V {o : MObj} {h' : Heap} {t : Nat} {a : Aside W.B c'.ρ c'.h D} {k : ExtX [D] c'.h h'} {R : ORel W (c'.ρ ++ [cell D]) h' o (cell D)} : (c'.adopt t a k R).V (.ref c'.hm.next) (.ref D) := IsRef.mk (new_at c'.sim.len (cell D))
theorem out_adopt {o : MObj} {h' : Heap} {t : Nat} (L : Later [] c c') (a : Aside c.h c'.ρ c'.h D) (k : ExtX [D] c'.h h') (R : ORel W (c'.ρ ++ [cell D]) h' o (cell D)) (q : Q (.ref c'.hm.next) (c'.hm.new o)) : Out c Cf.V Q (.ref D) { c'.s with heap := h', toks := t } :=
  Out.mk (c' := c'.adopt t a.base k R) adopt_V q (L.adopt a.new)
theorem not_own {c : Cf W} {a : Addr} (ab : Above c.h a) : a ∉ owned c.ρ := fun q => by induction c.sim.live a q with | mk e _ => exact ab.no e
theorem aside_new {h' : Heap} {a : Addr} (ab : c.h.objs.size ≤ a) (l : Lives h' a) : Aside c.h c.ρ h' a := ⟨not_own (above_size _ ab), above_size _ ab, l⟩
end
section
variable {W : Wd} {k : Ck} {pos : Pos} {kk : Nat} {e e' : Expr} {es : List Expr} {m m' : ME} {ms : MEs}
theorem pairs_arm (a : Sem Value) (v : Sem Value) (r) : evalPairs ((a, v) :: r) = (a >>= fun kv => holding [kv] v >>= fun vv => holding [kv, vv] (evalPairs r) >>= fun s => pure ((kv, vv) :: s)) := rfl
theorem se_dict2 {n n' : Nat} {x x' : Str} {a a' : Nat} {q₁ q₂ : Pos} (he : SE W k m e) (he' : SE W k m' e') (hn : isStrs W n x) (hn' : isStrs W n' x') (hne : n ≠ n') : SE W k (.dict2 n m n' m') (.Dict [some (.Constant (.str x) a q₁), some (.Constant (.str x') a' q₂)] [e, e'] pos) := .of (fun _ _ _ _ q => q) (fun _ => rfl) fun X p Q q => by
  have hx : x ≠ x' := fun z => hne ((fit_str X.K.nodup hn' _ _ hn).mpr z)
  refine wpAny_Dict_pairs (knd := strKind W.prog W.w) (pairs := [(eval (.Constant (.str x) a q₁) p.G.env, eval e p.G.env >>= fun x => standAt pos >>= fun _ => pure x), (eval (.Constant (.str x') a' q₂) p.G.env, eval e' p.G.env >>= fun x => standAt pos >>= fun _ => pure x)]) rfl (List.cons_ne_nil _ _) (Nat.le_of_ble_eq_true rfl) ?_
  have g0 : Ext p.c.h (p.c.h.push { cls := .type "dict", data := .dict #[] }) := .push _ _
  have D0 : (p.c.h.push { cls := .type "dict", data := .dict #[] }).DictOf (strKind W.prog W.w) p.c.h.objs.size [] := Heap.DictOf.new _
  have L0 := later_grow (X := []) (t := p.c.s.toks + 1) g0
  have a0 : Aside p.c.h (p.c.grow (p.c.s.toks + 1) g0).ρ (p.c.grow (p.c.s.toks + 1) g0).h p.c.h.objs.size := aside_new (Nat.le_refl _) (DictOf.lives D0)
  rw [pairs_arm]
  refine wpAny_bind (Calls.Constant_str (wpAny_bind (wpAny_holding (wpAny_bind (wout (c := p.c.grow (p.c.s.toks + 1) g0) (he.v X (p.to L0) _ q) fun v u c1 r q l => ?_)))))
  refine atP (wpAny_pure (wpAny_bind (wpAny_holding ?_)))
  rw [pairs_arm]
  have L1 : Later [] c1 (c1.grow (c1.s.toks + 1) (.refl _)) := later_grow _
  refine wpAny_bind (Calls.Constant_str (wpAny_bind (wpAny_holding (wpAny_bind (wout (c := c1.grow (c1.s.toks + 1) (.refl _)) (he'.v X ((p.to (L0.trans l)).to L1) _ q) fun v' u' c2 r' q l' => ?_)))))
  refine atP (wpAny_pure (wpAny_bind (wpAny_holding (wpAny_pure (wpAny_pure (wpAny_pure ?_))))))
  have l2 := L1.trans l'
  have L := (L0.trans l).trans l2
  have a2 : Aside p.c.h c2.ρ c2.h p.c.h.objs.size := (a0.later l List.not_mem_nil).later l2 List.not_mem_nil
  refine ⟨[(x, u), (x', u')], ⟨strKind_is _ _ _ _, rfl, strKind_is _ _ _ _, rfl, trivial⟩, ?_, fun h' d' sb => out_adopt (o := .sdict _) L a2 (fun b o n e => (sb.2 b fun q => n (List.mem_singleton.mpr q)).trans e) ?_ q⟩
  · obtain ⟨o, es, ep, g, r⟩ := D0
    exact ⟨o, es, ep, (l.trans l2).keep _ _ g a0.out List.not_mem_nil, r⟩
  · rw [merged_nil_of_nodup [(x, u), (x', u')] (List.nodup_cons.mpr ⟨fun q => hx (List.mem_singleton.mp q), List.nodup_cons.mpr ⟨List.not_mem_nil, List.nodup_nil⟩⟩)] at d'
    have st : Stay c2.ρ c2.h (c2.ρ ++ [cell p.c.h.objs.size]) h' := ⟨at_app, fun b o e f => (sb.2 b fun q => by rw [q] at e; exact a2.live.nf e f).trans e⟩
    exact DRel.mk (c := cell _) rfl d' (KRel.stay st (.cons ⟨hn, r.later l2⟩ (.cons ⟨hn', r'⟩ .nil))) (Nat.le_of_ble_eq_true rfl)
theorem se_new {id : Str} {np : Pos} (hs : SLs W k ms es) (hi : isGl k id = true) (hid : id = W.T.cname) : SE W k (.new ms) (.Call (.Name id np) es [] pos) := .of (fun _ _ _ _ q => q) (fun _ => rfl) fun X p Q q => by
  have K := X.K
  subst hid
  rw [arm_eval_Call_Name']
  refine wpAny_bind (load_glob K p hi K.cGlob ?_)
  rw [hs.N]
  refine callWith_of (by rw [pl_any]; rfl) (keeps_K K.ckeep) (args_ok (hs.L X p _ q) fun xs vs c' r q l => ?_)
  have XK := c'.X K
  refine ⟨XK, wpAny_call ?_⟩
  refine make_core (h := c'.h) (g := c'.s.gens) (d := c'.s.drawn) (t := c'.s.toks) (os := c'.s.os) (makes_of XK K.make) (looks_findIn XK K.initOf) (fun self => bind_fn XK self K.initFn) (.inl rfl) ?_
  have g1 : Ext c'.h ((c'.h.push emptyDict).push (instObj W.C c'.h.objs.size)) := .trans (.push _ _) (.push _ _)
  have hd : ∀ a ∈ (Cell.mk (c'.h.objs.size + 1) c'.h.objs.size).own, Above c'.h a := fun a ha => (mem_own.mp ha).elim (fun e => e ▸ above_size _ (Nat.le_succ _)) fun e => e ▸ above_size _ (Nat.le_refl _)
  have R : ORel W (c'.ρ ++ [⟨c'.h.objs.size + 1, c'.h.objs.size⟩]) ((c'.h.push emptyDict).push (instObj W.C c'.h.objs.size)) (.inst []) ⟨c'.h.objs.size + 1, c'.h.objs.size⟩ :=
    NRel.mk (es := []) (n := 0) (Nat.ne_of_lt (Nat.lt_succ_self _)) (by have := Heap.get?_push_size (c'.h.push emptyDict) (o := instObj W.C c'.h.objs.size) rfl; rwa [Heap.size_push] at this) (Heap.get?_push_of_some _ (Heap.get?_push_size _ rfl)) .nil (Nat.zero_le _) fun e he => absurd he List.not_mem_nil
  have L2 : Later [] c' (c'.new c'.s.toks g1 hd R) := later_new
  have hself : (c'.new c'.s.toks g1 hd R).V (.ref c'.hm.next) (.ref (c'.h.objs.size + 1)) := IsRef.mk (new_at c'.sim.len _)
  have e : (Code.builtin "type.__call__" { pos := Value.ref W.C :: ([] ++ vs) }).frames = 0 := rfl
  refine codeAny_mono (X.ok W.P.init (p.G.A.under _) (.ref c'.hm.next :: xs) (.ref (c'.h.objs.size + 1) :: vs) _ (c'.new c'.s.toks g1 hd R) p.g.room.handled ?_ ?_ (.cons hself (r.later L2)) q) fun r s'' h => ?_
  · have := p.g.room.depth
    show p.G.A.depth + 1 + 4 * X.d + 2 ≤ 900
    omega
  · have := p.g.room.units
    show p.G.A.units + _ + 40 * X.d + 20 ≤ 9000
    simp only [Code.cUnits, e]
    omega
  · rcases r with e | (_ | _ | _ | v) <;> first | exact h.elim | skip
    have h : Out (c'.new c'.s.toks g1 hd R) Cf.V _ v s'' := h
    induction h with
    | mk r q l3 =>
      rw [q.1] at r
      exact ⟨r, Out.mk (a := MV.ref c'.hm.next) (hself.later l3) q.2 ((l.trans L2).trans l3)⟩
end
end Mini
end
section
namespace Mini
open PySem PySem.W PyProof.Rows PySem.SeqAt
noncomputable def clStep (env : Env) (p : Str × NameKind) (cs : List (Str × Addr)) : List (Str × Addr) := if p.2 == .free then (match env.cells.lookup p.1 with | some a => (p.1, a) :: cs | none => cs) else cs
noncomputable def clFold (env : Env) : List (Str × NameKind) → List (Str × Addr) → List (Str × Addr)
  | [], cs => cs
  | p :: r, cs => clFold env r (clStep env p cs)
section
variable {env : Env} {names : List (Str × NameKind)} {cs : List (Str × Addr)}
theorem clFold_eq (h : ∀ p ∈ names, p.2 = .free → (env.cells.lookup p.1).isSome = true) :
    (forIn names cs fun x r => (match x with | (name, kind) => if kind == .free then do let a ← cellOf env name; pure (ForInStep.yield ((name, a) :: r)) else pure (ForInStep.yield r) : Sem (ForInStep (List (Str × Addr))))) = pure (clFold env names cs) := by
  induction names generalizing cs with
  | nil => rfl
  | cons p r ih =>
    rw [List.forall_mem_cons] at h
    obtain ⟨n, k⟩ := p
    rw [List.forIn_cons]
    unfold clFold clStep
    by_cases hk : (k == NameKind.free) = true
    · obtain ⟨a, ha⟩ := Option.isSome_iff_exists.mp (h.1 (eq_of_beq hk))
      have e : cellOf env n = pure a := by unfold cellOf; rw [ha]
      dsimp only
      rw [if_pos hk, if_pos hk, e, ha]
      exact ih h.2
    · dsimp only
      rw [if_neg hk, if_neg hk]
      exact ih h.2
theorem clStep_sound {n : Str} {a : Addr} {p : Str × NameKind} (h : (clStep env p cs).lookup n = some a) : cs.lookup n = some a ∨ ((n, NameKind.free) = p ∧ env.cells.lookup n = some a) := by
  unfold clStep at h
  by_cases hk : (p.2 == NameKind.free) = true
  · rw [if_pos hk] at h
    cases ha : env.cells.lookup p.1 with
    | none => rw [ha] at h; exact .inl h
    | some b =>
      rw [ha] at h
      dsimp only at h
      rw [List.lookup_cons] at h
      by_cases q : (n == p.1) = true
      · rw [q] at h
        obtain ⟨m, kk⟩ := p
        obtain rfl : n = m := eq_of_beq q
        obtain rfl : kk = .free := eq_of_beq hk
        exact .inr ⟨rfl, ha.trans h⟩
      · rw [Bool.eq_false_iff.mpr q] at h
        exact .inl h
  · rw [if_neg hk] at h
    exact .inl h
theorem clFold_sound {n : Str} {a : Addr} (h : (clFold env names cs).lookup n = some a) : cs.lookup n = some a ∨ ((n, NameKind.free) ∈ names ∧ env.cells.lookup n = some a) := by
  induction names generalizing cs with
  | nil => exact .inl h
  | cons p r ih =>
    rcases ih h with h | h
    · rcases clStep_sound h with h | ⟨e, h⟩
      · exact .inl h
      · exact .inr ⟨e ▸ .head _, h⟩
    · exact .inr ⟨.tail _ h.1, h.2⟩
theorem clFold_some {n : Str} (hn : ∀ p ∈ names, p.2 = .free → (env.cells.lookup p.1).isSome = true) (h : (cs.lookup n).isSome = true ∨ (n, NameKind.free) ∈ names) : ((clFold env names cs).lookup n).isSome = true := by
  induction names generalizing cs with
  | nil => exact h.resolve_right List.not_mem_nil
  | cons p r ih =>
    rw [List.forall_mem_cons] at hn
    refine ih hn.2 ?_
    unfold clStep
    by_cases hk : (p.2 == NameKind.free) = true
    · obtain ⟨a, ha⟩ := Option.isSome_iff_exists.mp (hn.1 (eq_of_beq hk))
      rw [if_pos hk, ha]
      dsimp only
      rw [List.lookup_cons]
      by_cases q : (n == p.1) = true
      · rw [q]; exact .inl rfl
      · rw [Bool.eq_false_iff.mpr q]
        exact h.imp id fun h => (List.mem_cons.mp h).resolve_left fun e => q (by rw [← e]; exact beq_self_eq_true n)
    · rw [if_neg hk]
      exact h.imp id fun h => (List.mem_cons.mp h).resolve_left fun e => hk (by rw [← e]; rfl)
theorem closure_eq {scope : Scope} (h : ∀ p ∈ scope.names, p.2 = .free → (env.cells.lookup p.1).isSome = true) : closureFor scope env = pure (clFold env scope.names []) := by
  unfold closureFor
  show (forIn scope.names [] _ >>= fun cs => pure cs) = _
  refine Eq.trans (congrArg (· >>= fun cs => pure cs) (Eq.trans ?_ (clFold_eq (cs := []) h))) rfl
  congr 1
end
noncomputable def reKind (outer : Ck) (n : Str) (k : NameKind) : NameKind := if (k == .free && outer.scope.kind == .function && outer.kind n == some .cell) then .cell else k
noncomputable def relabelS (outer : Ck) (scope : Scope) : Scope := { scope with names := scope.names.map fun p => (p.1, reKind outer p.1 p.2) }
noncomputable def innerVs (k : Ck) (scope : Scope) : List (Str × Nat) := scope.names.filterMap fun nk => if nk.2 == .free then (k.vs.lookup nk.1).map (nk.1, ·) else none
noncomputable def Ck.inner (k : Ck) (scope : Scope) (y : Str) (x : Nat) : Ck := ⟨relabelS k scope, (y, x) :: innerVs k scope⟩
noncomputable def compOk (k : Ck) (scope : Scope) (y : Str) (x : Nat) : Bool :=
  scope.kind == .function && (scope.names.lookup y == some .local && (scope.names.all (fun nk => nk.2 != .cell && (nk.2 != .local || scope.names.lookup nk.1 == some .local)) &&
  (scope.names.all (fun nk => nk.2 != .free || ((k.vs.lookup nk.1).isSome && (k.kind nk.1 == some .cell || k.kind nk.1 == some .free) && scope.names.lookup nk.1 == some .free)) && k.vs.all (fun p => p.2 != x))))
structure CompOk (k : Ck) (scope : Scope) (y : Str) (x : Nat) : Prop where
  kind : scope.kind = .function
  here : scope.names.lookup y = some .local
  noCell : ∀ p ∈ scope.names, p.2 ≠ .cell
  loc : ∀ p ∈ scope.names, p.2 = .local → scope.names.lookup p.1 = some .local
  free : ∀ p ∈ scope.names, p.2 = .free → (k.vs.lookup p.1).isSome = true ∧ (k.kind p.1 = some .cell ∨ k.kind p.1 = some .free) ∧ scope.names.lookup p.1 = some .free
  fresh : ∀ n i, k.vs.lookup n = some i → i ≠ x
theorem bor {a b : Bool} (h : (a || b) = true) : a = true ∨ b = true := (Bool.or_eq_true a b).mp h
theorem imp_of {α : Type} [BEq α] [LawfulBEq α] {a b : α} {c : Bool} (h : (a != b || c) = true) (e : a = b) : c = true := (bor h).resolve_left fun q => by rw [e, bne_self_eq_false] at q; exact ff q
section
variable {W : Wd} {G : Gx} {k : Ck} {d : Nat} {scope : Scope} {y : Str} {x : Nat}
theorem compOk_of (h : compOk k scope y x = true) : CompOk k scope y x := by
  obtain ⟨h1, h⟩ := t2 h
  obtain ⟨h2, h⟩ := t2 h
  obtain ⟨h3, h⟩ := t2 h
  obtain ⟨h4, h5⟩ := t2 h
  exact ⟨eq_of_beq h1, eq_of_beq h2, fun p hp => bne_iff_ne.mp (t2 (List.all_eq_true.mp h3 p hp)).1, fun p hp e => eq_of_beq (imp_of (t2 (List.all_eq_true.mp h3 p hp)).2 e), fun p hp e =>
    have q := t2 (imp_of (List.all_eq_true.mp h4 p hp) e)
    ⟨(t2 q.1).1, (bor (t2 q.1).2).imp (fun e => eq_of_beq e) (fun e => eq_of_beq e), eq_of_beq q.2⟩, fun n i e => bne_iff_ne.mp (List.all_eq_true.mp h5 _ (mem_of_look e))⟩
theorem lookup_map2 {f : Str → NameKind → NameKind} {l : List (Str × NameKind)} {n : Str} : (l.map fun p => (p.1, f p.1 p.2)).lookup n = (l.lookup n).map (f n) := by
  induction l with
  | nil => rfl
  | cons p r ih =>
    obtain ⟨m, kk⟩ := p
    rw [List.map_cons, List.lookup_cons, List.lookup_cons]
    by_cases q : (n == m) = true
    · rw [q, eq_of_beq q]; rfl
    · rw [Bool.eq_false_iff.mpr q]; exact ih
theorem relabel_eq (g : GOk W k d G) : relabel scope G.env = relabelS k scope := by
  unfold relabel relabelS
  congr 1
  refine List.map_congr_left fun p _ => ?_
  obtain ⟨n, kk⟩ := p
  unfold reKind
  rw [← g.kind, ← g.scope]
  dsimp only
  split <;> rfl
noncomputable def Gx.inner (G : Gx) (k : Ck) (scope : Scope) (C : Addr) (y : Str) (x : Nat) : Gx := ⟨compEnvC scope (clFold G.env scope.names []) C G.env, (k.inner scope y x).vs, G.A⟩
theorem cells_there (o : CompOk k scope y x) (g : GOk W k d G) : ∀ p ∈ scope.names, p.2 = .free → (G.env.cells.lookup p.1).isSome = true := fun p hp e => by
  obtain ⟨h1, h2, _⟩ := o.free p hp e
  obtain ⟨i, hi⟩ := Option.isSome_iff_exists.mp h1
  exact g.place p.1 i (by rw [g.vs]; exact hi) (by rw [g.kind]; exact h2)
theorem inner_look {n : Str} {i : Nat} (h : (innerVs k scope).lookup n = some i) : (n, NameKind.free) ∈ scope.names ∧ k.vs.lookup n = some i := by
  obtain ⟨p, hp, e⟩ := List.mem_filterMap.mp (mem_of_look h)
  obtain ⟨m, kk⟩ := p
  by_cases q : (kk == NameKind.free) = true
  · rw [if_pos q] at e
    obtain ⟨j, hj, e⟩ := Option.map_eq_some_iff.mp e
    obtain ⟨e1, e2⟩ := Prod.mk.inj e
    exact ⟨e1 ▸ eq_of_beq q ▸ hp, e1 ▸ e2 ▸ hj⟩
  · rw [if_neg q] at e; exact ns e
inductive InnerV (k : Ck) (scope : Scope) (y : Str) (x : Nat) (n : Str) (i : Nat) : Prop
  | here (e : n = y) (e' : i = x)
  | out (ne : n ≠ y) (m : (n, NameKind.free) ∈ scope.names) (l : k.vs.lookup n = some i) (ne' : i ≠ x)
theorem innerV (o : CompOk k scope y x) {n : Str} {i : Nat} (h : (k.inner scope y x).vs.lookup n = some i) : InnerV k scope y x n i := by
  have h : List.lookup n ((y, x) :: innerVs k scope) = some i := h
  rw [List.lookup_cons] at h
  by_cases q : (n == y) = true
  · rw [q] at h; exact .here (eq_of_beq q) (Option.some.inj h).symm
  · rw [Bool.eq_false_iff.mpr q] at h
    have z := inner_look h
    exact .out (fun e => q (beq_iff_eq.mpr e)) z.1 z.2 (o.fresh _ _ z.2)
end
end Mini
end
section
namespace Mini
open PySem PySem.W PyProof.Rows PySem.SeqAt
section
variable {W : Wd} {G : Gx} {k : Ck} {d : Nat} {scope : Scope} {y : Str} {x : Nat} {c : Cf W} {C : Addr} {vars : Vars}
theorem inner_kind (g : GOk W k d G) {n : Str} : (G.inner k scope C y x).env.kindOf n = (scope.names.lookup n).map (reKind k n) := by
  show (relabel scope G.env).names.lookup n = _
  rw [relabel_eq g]
  exact lookup_map2
theorem inner_here (o : CompOk k scope y x) (g : GOk W k d G) : (G.inner k scope C y x).env.kindOf y = some .local := by rw [inner_kind g, o.here]; rfl
theorem inner_free (o : CompOk k scope y x) (g : GOk W k d G) {n : Str} (h : (n, NameKind.free) ∈ scope.names) : (G.inner k scope C y x).env.kindOf n = some .cell ∧ k.kind n = some .cell ∨ (G.inner k scope C y x).env.kindOf n = some .free := by
  rw [inner_kind g, (o.free _ h rfl).2.2, Option.map_some]
  unfold reKind
  split
  · rename_i q; exact .inl ⟨rfl, eq_of_beq (t2 q).2⟩
  · exact .inr rfl
theorem inner_sound {n : Str} {a : Addr} (e : (G.inner k scope C y x).env.cells.lookup n = some a) : (n, NameKind.free) ∈ scope.names ∧ G.env.cells.lookup n = some a := (clFold_sound e).resolve_left fun e => ns e
theorem inner_g (o : CompOk k scope y x) (g : GOk W k d G) (hB : Above W.B C) (hne : ∀ n a, G.env.cells.lookup n = some a → a ≠ C) : GOk W (k.inner scope y x) d (G.inner k scope C y x) where
  scope := relabel_eq g
  vs := rfl
  fn := o.kind
  globals := g.globals
  builtins := g.builtins
  room := g.room
  apart := fun n a e => hne n a (inner_sound e).2
  apartC := fun n n' a e e' => g.apartC n n' a (inner_sound e).2 (inner_sound e').2
  place := fun n i e e' => by
    induction innerV o e with
    | here e1 e2 => rw [e1, inner_here o g] at e'; rcases e' with e' | e' <;> cases e'
    | out ne m l ne' => exact clFold_some (cells_there o g) (.inr m)
  inj := fun n n' i e e' => by
    induction innerV o e with
    | here e1 e2 =>
      induction innerV o e' with
      | here e3 e4 => exact e1.trans e3.symm
      | out ne m l ne' => exact absurd e2 ne'
    | out ne m l ne' =>
      induction innerV o e' with
      | here e3 e4 => exact absurd e4 ne'
      | out ne2 m2 l2 _ => exact g.inj n n' i (by rw [g.vs]; exact l) (by rw [g.vs]; exact l2)
  base := fun a ha => by
    rcases List.mem_cons.mp ha with e | e
    · rw [e]; exact hB
    · obtain ⟨p, hp, e⟩ := List.mem_filterMap.mp e
      by_cases q : ((G.inner k scope C y x).env.kindOf p.1 == some .cell) = true
      · rw [if_pos q] at e
        have z := inner_sound e
        rcases inner_free (C := C) o g z.1 with w | w
        · exact g.base a (List.mem_cons_of_mem _ (List.mem_filterMap.mpr ⟨(p.1, a), mem_of_look z.2, by rw [g.kind, w.2, if_pos (beq_self_eq_true _)]; exact z.2⟩))
        · rw [w] at q; exact ff q
      · rw [if_neg q] at e; exact ns e
theorem inner_fr (o : CompOk k scope y x) (g : GOk W k d G) (O : Fr G vars c) {m' : Str → Option Value} {v : MV} {u : Value} (hC : C ∉ owned c.ρ) (n : c.h.Ns C m') (hm : m' y = some u) (hv : c.V v u) : Fr (G.inner k scope C y x) (Vars.set vars x v) c := by
  induction O.store with
  | @mk m cm l cc hh =>
  refine ⟨.mk n (fun n a e => cc n a (inner_sound e).2) fun n i w e1 e2 => ?_, fun a ha => ?_⟩
  · have e2 : (if i = x then some v else vars i) = some w := e2
    induction innerV o e1 with
    | here q1 q2 =>
      rw [if_pos q2] at e2
      exact .mk (Option.some.inj e2 ▸ hv) (.loc (by rw [q1]; exact inner_here o g) (by rw [q1]; exact hm))
    | out ne m l ne' =>
      rw [if_neg ne'] at e2
      induction hh n i w (by rw [g.vs]; exact l) e2 with
      | mk r s =>
        refine .mk r ?_
        obtain ⟨a, ha⟩ := Option.isSome_iff_exists.mp (clFold_some (cs := []) (cells_there o g) (.inr m))
        refine .cell ((inner_free o g m).imp And.left id) ha ?_
        induction s with
        | loc k1 e =>
          rw [g.kind] at k1
          rcases (o.free _ m rfl).2.1 with z | z <;> rw [z] at k1 <;> cases k1
        | cell _ _ e => exact e
  · rcases List.mem_cons.mp ha with e | e
    · rw [e]; exact hC
    · obtain ⟨p, _, e⟩ := List.mem_filterMap.mp e
      exact O.out a (Gx.own_cell (inner_sound e).2)
end
inductive TupIt (W : Wd) (ρ : Cells) (h : Heap) (I : Addr) (j : Nat) (vs : List MV) : Prop
  | mk {a : Addr} {its : Array Value} {n : Nat} (g : h.get? a = some { cls := .type "tuple", data := .seq its n }) (r : All2 (FRel W ρ h) vs its.toList) (ne : a ≠ I) (it : h.IsTupleIter I a j)
inductive RefIt (ρ : Cells) (h : Heap) (I : Addr) (j : Nat) (i : Nat) : Prop
  | mk {c : Cell} (e : ρ[i]? = some c) (it : h.IsListIter I c.a j) (ne : c.a ≠ I)
noncomputable def IterOk (W : Wd) (ρ : Cells) (h : Heap) (I : Addr) (j : Nat) : MV → Prop
  | .tup vs => TupIt W ρ h I j vs
  | .rng lo hi => IsRangeIter h I (lo + (j : Int)) (((hi - lo).toNat : Int) - (j : Int)) 1
  | .ref i => RefIt ρ h I j i
  | _ => False
theorem rangeSize1 (lo hi : Int) : Builtin.Range.rangeSize lo hi 1 = ((hi - lo).toNat : Int) := by
  unfold Builtin.Range.rangeSize
  split
  · split <;> simp <;> omega
  · omega
theorem rng_small {lo hi : Int} (h1 : small lo) (h2 : small hi) : Builtin.Range.small lo hi 1 = true := by
  unfold Builtin.Range.small Builtin.Range.rangeFitsLong
  rw [rangeSize1]
  unfold small intLine at h1 h2
  have : (1 : Int) > 0 := by omega
  simp only [this, if_true, Bool.and_eq_true, decide_eq_true_eq, Bool.or_eq_true]
  refine ⟨⟨⟨⟨?_, ?_⟩, ?_⟩, ?_⟩, .inr ?_⟩ <;> constructor <;> omega
section
variable {W : Wd} {c : Cf W} {A : Around} {v : MV} {u : Value} {xs : List MV} {I : Addr} {j : Nat} {ρ ρ' : Cells} {h h' : Heap}
theorem iter_start (e : Items c.hm v xs) (hv : c.V v u) {Q : Value → Shared → Prop} (k : ∀ o, Lives (c.h.push o) c.h.objs.size → IterOk W c.ρ (c.h.push o) c.h.objs.size 0 v → Q (.ref c.h.objs.size) { c.s with heap := c.h.push o }) : wpAny W.M A (pyIter u) Q noE c.s := by
  induction e with
  | tup xs =>
    refine IsTup.elim hv fun a its n g r l => wpAny_pyIter_tuple ⟨_, g, rfl, n, rfl⟩ (k _ (.mk (Heap.get?_push_size _ rfl) (nf_c rfl)) ?_)
    exact TupIt.mk (Heap.get?_push_of_some _ g) (r.imp fun _ _ => FRel.stay (Ext.stay (.push _ _))) (Nat.ne_of_lt (Heap.lt_size g)) ⟨_, Heap.get?_push_size _ rfl, rfl, rfl⟩
  | rng lo hi =>
    have hv : IsRng c.h lo hi u := hv
    induction hv with
    | mk g l1 l2 =>
      refine wpAny_pyIter_range g (rng_small l1 l2) (k _ (.mk (Heap.get?_push_size _ rfl) (nf_c rfl)) ?_)
      show IsRangeIter _ _ _ _ _
      rw [rangeSize1]
      simpa using Heap.get?_push_size _ rfl
  | list p =>
    refine Cf.listE hv p fun d its n hc _ g r l z => wpAny_pyIter_list g.isList (k _ (.mk (Heap.get?_push_size _ rfl) (nf_c rfl)) ?_)
    exact RefIt.mk hc ⟨_, Heap.get?_push_size _ rfl, rfl, rfl⟩ (Nat.ne_of_lt (Heap.lt_size g))
theorem iter_self {s : Shared} {E : Value → Shared → Prop} (it : IterOk W ρ s.heap I j v) {Q : Value → Shared → Prop} (q : Q (.ref I) s) : wpAny W.M A (pyIter (.ref I)) Q E s := by
  rcases v with _ | _ | _ | _ | vs | ⟨lo, hi⟩ | _ | i <;> try exact it.elim
  · have it : TupIt W ρ s.heap I j vs := it
    induction it with | mk g r ne it => exact wpAny_pyIter_tupleiter it q
  · exact wpAny_pyIter_rangeiter it q
  · have it : RefIt ρ s.heap I j i := it
    induction it with | mk e it ne => exact wpAny_pyIter_listiter it q
theorem IterOk.keep (it : IterOk W ρ h I j v) (st : Stay ρ h ρ' h') (k : ∀ o, h.get? I = some o → h'.get? I = some o) : IterOk W ρ' h' I j v := by
  rcases v with _ | _ | _ | _ | vs | ⟨lo, hi⟩ | _ | i <;> try exact it.elim
  · have it : TupIt W ρ h I j vs := it
    induction it with | mk g r ne it => obtain ⟨o, e1, e2⟩ := it; exact TupIt.mk (st.froz _ _ g ⟨rfl, rfl⟩) (r.imp fun _ _ => FRel.stay st) ne ⟨o, k o e1, e2⟩
  · exact k _ it
  · have it : RefIt ρ h I j i := it
    induction it with | mk e it ne => obtain ⟨o, e1, e2⟩ := it; exact RefIt.mk (st.at_ e) ⟨o, k o e1, e2⟩ ne
theorem IterOk.lives (it : IterOk W ρ h I j v) : Lives h I := by
  rcases v with _ | _ | _ | _ | vs | ⟨lo, hi⟩ | _ | i <;> try exact it.elim
  · have it : TupIt W ρ h I j vs := it
    induction it with | mk g r ne it => obtain ⟨o, e1, e2, _⟩ := it; exact .mk e1 (nf_c (by rw [e2]; rfl))
  · exact .mk it (nf_c rfl)
  · have it : RefIt ρ h I j i := it
    induction it with | mk e it ne => obtain ⟨o, e1, e2, _⟩ := it; exact .mk e1 (nf_c (by rw [e2]; rfl))
theorem sb_x {a : Addr} (sb : Heap.SameBut a h h') : ExtX [a] h h' := fun b o n e => (sb.2 b fun q => n (List.mem_singleton.mpr q)).trans e
theorem eb_x {a : Addr} (k : Heap.ExtBut a h h') : ExtX [a] h h' := fun b o n e => k b o (fun q => n (List.mem_singleton.mpr q)) e
theorem iter_next (e : Items c.hm v xs) (it : IterOk W c.ρ c.h I j v) (hj : j ≤ xs.length) (hh : A.handled = none) {Q : Option Value → Shared → Prop} {E : Value → Shared → Prop} (hN : j = xs.length → ∀ h', ExtX [I] c.h h' → Q none { c.s with heap := h' })
    (hS : ∀ x u h' t, xs[j]? = some x → ExtX [I] c.h h' → VRel W c.ρ h' x u → IterOk W c.ρ h' I (j + 1) v → Q (some u) { c.s with heap := h', toks := t }) : wpAny W.M A (pyNext (.ref I)) Q E c.s := by
  have st : ∀ {h'}, ExtX [I] c.h h' → Stay c.ρ c.h c.ρ h' := fun k => stay_x (fun a ha => by rw [List.mem_singleton.mp ha]; exact it.lives) k
  induction e with
  | tup xs =>
    have it : TupIt W c.ρ c.h I j xs := it
    induction it with
    | @mk a its n g r ne it =>
    by_cases q : j < xs.length
    · obtain ⟨u, e2, hr⟩ := r.get (List.getElem?_eq_getElem q)
      exact wpAny_pyNext_tuple_item it ⟨_, g, rfl, n, rfl⟩ (x := u) (Array.getElem?_toList.symm.trans e2) fun h' it' sb =>
        have st := st (sb_x sb)
        hS _ u h' c.s.toks (List.getElem?_eq_getElem q) (sb_x sb) (hr.up.stay st) (TupIt.mk ((sb.2 a ne).trans g) (r.imp fun _ _ => FRel.stay st) ne it')
    · have q := Nat.le_antisymm hj (Nat.not_lt.mp q)
      exact wpAny_pyNext_tuple_end hh it ⟨_, g, rfl, n, rfl⟩ (Array.getElem?_eq_none (by rw [← Array.length_toList, r.length, q]; exact Nat.le_refl _)) fun h' k => hN q h' (eb_x k)
  | rng lo hi =>
    have it : IsRangeIter c.h I (lo + (j : Int)) (((hi - lo).toNat : Int) - (j : Int)) 1 := it
    have hl : (rngL lo hi).length = (hi - lo).toNat := by unfold rngL; rw [List.length_map, List.length_range]
    by_cases q : j < (rngL lo hi).length
    · have q' := q
      rw [hl] at q'
      refine wpAny_pyNext_range_item it (by omega) fun h' it' sb => hS (.int (lo + (j : Int))) _ h' _ ?_ (sb_x sb) (IsInt.mk _) ?_
      · unfold rngL; rw [List.getElem?_map, List.getElem?_range q']; rfl
      · show IsRangeIter _ _ _ _ _
        rw [show lo + ((j + 1 : Nat) : Int) = lo + (j : Int) + 1 by omega, show ((hi - lo).toNat : Int) - ((j + 1 : Nat) : Int) = ((hi - lo).toNat : Int) - (j : Int) - 1 by omega]
        exact it'
    · have q := Nat.le_antisymm hj (Nat.not_lt.mp q)
      exact wpAny_pyNext_range_end hh it (by rw [q, hl]; omega) fun h' k => hN q h' (eb_x k)
  | @list i xs p =>
    have it : RefIt c.ρ c.h I j i := it
    induction it with
    | mk e it ne =>
    refine Cf.listE (P := fun u => u = u → _) (IsRef.mk e) p (fun d its n hc _ g r l z _ => ?_) rfl
    rw [e] at hc
    obtain rfl := Option.some.inj hc
    by_cases q : j < xs.length
    · obtain ⟨u, e2, hr⟩ := r.get (List.getElem?_eq_getElem q)
      exact wpAny_pyNext_list_item it g.isList (x := u) (Array.getElem?_toList.symm.trans e2) fun h' it' sb => hS _ u h' c.s.toks (List.getElem?_eq_getElem q) (sb_x sb) (hr.stay (st (sb_x sb))) (RefIt.mk e it' ne)
    · have q := Nat.le_antisymm hj (Nat.not_lt.mp q)
      exact wpAny_pyNext_list_end hh it g.isList (Array.getElem?_eq_none (by rw [z, q]; exact Nat.le_refl _)) fun h' k => hN q h' (eb_x k)
end
end Mini
end
section
namespace Mini
open PySem PySem.W PyProof.Rows PySem.SeqAt
inductive HasNs (h : Heap) (C : Addr) : Prop
  | mk {m : Str → Option Value} (n : h.Ns C m)
structure Off {W : Wd} (c₁ c : Cf W) (a : Addr) : Prop where
  out : a ∉ owned c.ρ
  new : Above c₁.h a
structure AidE {W : Wd} (c₁ c : Cf W) (D C : Addr) (o : MObj) : Prop where
  L : Later [] c₁ c
  d : Off c₁ c D
  n : Off c₁ c C
  ns : HasNs c.h C
  acc : ORel W c.ρ c.h o (cell D)
  dn : D ≠ C
structure Aid {W : Wd} (c₁ c : Cf W) (D C I : Addr) (o : MObj) (v : MV) (j : Nat) : Prop extends AidE c₁ c D C o where
  i : Off c₁ c I
  it : IterOk W c.ρ c.h I j v
  id : I ≠ D
  ic : I ≠ C
section
variable {W : Wd} {c₁ c c' : Cf W} {I D C Z : Addr} {v : MV} {j j' : Nat} {o o' : MObj} {h h' : Heap} {t : Nat}
theorem HasNs.lives (n : HasNs h C) : Lives h C := by induction n with | mk n => exact ns_lives n
theorem HasNs.keep (n : HasNs h C) (k : ∀ o, h.get? C = some o → h'.get? C = some o) : HasNs h' C := by induction n with | mk n => exact .mk (ns_keep n k)
theorem Off.later (a : Off c₁ c Z) (l : Lives c.h Z) (L : Later [] c c') : Off c₁ c' Z := ⟨not_owned l a.out L, a.new⟩
theorem Off.aside (a : Off c₁ c Z) (l : Lives c.h Z) : Aside c₁.h c.ρ c.h Z := ⟨a.out, a.new, l⟩
theorem acc_lives {ρ : Cells} (a : ORel W ρ h o (cell D)) : Lives h D := a.live D (own_a (cell D))
theorem kept_cell (k : ∀ x, h.get? D = some x → h'.get? D = some x) : Kept (cell D) h h' := fun a ha x e => by rw [own_cell ha] at e ⊢; exact k x e
theorem out_keep {Z Y : Addr} (k : ExtX [Z] h h') (n : Y ≠ Z) : ∀ o, h.get? Y = some o → h'.get? Y = some o := fun o e => k Y o (fun q => n (List.mem_singleton.mp q)) e
noncomputable def Cf.turn (c : Cf W) {h' : Heap} (t : Nat) (a : Aside W.B c.ρ c.h Z) (k : ExtX [Z] c.h h') : Cf W := c.side t (X := [Z]) (fun b hb => by rw [List.mem_singleton.mp hb]; exact a) k
theorem stay_turn {h₀ : Heap} (a : Aside h₀ c.ρ c.h Z) (k : ExtX [Z] c.h h') : Stay c.ρ c.h c.ρ h' := stay_x (fun b hb => by rw [List.mem_singleton.mp hb]; exact a.live) k
theorem acc_turn (a : ORel W c.ρ c.h o (cell D)) (z : Aside c₁.h c.ρ c.h Z) (k : ExtX [Z] c.h h') (n : D ≠ Z) : ORel W c.ρ h' o (cell D) := a.stay (stay_turn z k) (kept_cell (out_keep k n))
theorem Later.turn {X : List Addr} {a : Aside W.B c.ρ c.h Z} {k : ExtX [Z] c.h h'} (L : Later X c₁ c) (n : Above c₁.h Z) : Later X c₁ (c.turn t a k) := L.side fun b hb => by rw [List.mem_singleton.mp hb]; exact n
theorem Aid.later (a : Aid c₁ c D C I o v j) (l : Later [] c c') : Aid c₁ c' D C I o v j := by
  have k : ∀ {Z}, Off c₁ c Z → ∀ o, c.h.get? Z = some o → c'.h.get? Z = some o := fun z o e => l.keep _ o e z.out List.not_mem_nil
  exact ⟨⟨a.L.trans l, a.d.later (acc_lives a.acc) l, a.n.later a.ns.lives l, a.ns.keep (k a.n), a.acc.stay l.stay (kept_cell (k a.d)), a.dn⟩, a.i.later a.it.lives l, a.it.keep l.stay (k a.i), a.id, a.ic⟩
theorem Aid.endI (a : Aid c₁ c D C I o v j) (k : ExtX [I] c.h h') (z : Aside c₁.h c.ρ c.h I) : AidE c₁ (c.turn t z.base k) D C o :=
  have r := acc_turn a.acc z k a.id.symm
  ⟨a.L.turn z.new, ⟨a.d.out, a.d.new⟩, ⟨a.n.out, a.n.new⟩, a.ns.keep (out_keep k a.ic.symm), r, a.dn⟩
theorem Aid.setI (a : Aid c₁ c D C I o v j) (k : ExtX [I] c.h h') (z : Aside c₁.h c.ρ c.h I) (it : IterOk W c.ρ h' I j' v) : Aid c₁ (c.turn t z.base k) D C I o v j' :=
  ⟨a.endI k z, ⟨a.i.out, a.i.new⟩, it, a.id, a.ic⟩
theorem Aid.setC (a : Aid c₁ c D C I o v j) (k : ExtX [C] c.h h') (z : Aside c₁.h c.ρ c.h C) (n : HasNs h' C) : Aid c₁ (c.turn t z.base k) D C I o v j :=
  have r := acc_turn a.acc z k a.dn
  ⟨⟨a.L.turn z.new, ⟨a.d.out, a.d.new⟩, ⟨a.n.out, a.n.new⟩, n, r, a.dn⟩, ⟨a.i.out, a.i.new⟩, a.it.keep (stay_turn z k) (out_keep k a.ic), a.id, a.ic⟩
theorem Aid.setD (a : Aid c₁ c D C I o v j) (k : ExtX [D] c.h h') (z : Aside c₁.h c.ρ c.h D) (r : ORel W c.ρ h' o' (cell D)) : Aid c₁ (c.turn t z.base k) D C I o' v j :=
  ⟨⟨a.L.turn z.new, ⟨a.d.out, a.d.new⟩, ⟨a.n.out, a.n.new⟩, a.ns.keep (out_keep k a.dn.symm), r, a.dn⟩, ⟨a.i.out, a.i.new⟩, a.it.keep (stay_turn z k) (out_keep k a.id), a.id, a.ic⟩
inductive OutC (c₀ : Cf W) (Q : KV) (C : Addr) : Value → Shared → Prop
  | mk {m : MV} {w : Value} {c : Cf W} (r : c.V m w) (q : Q m c.hm) (l : Later [] c₀ c) (n : Off c₀ c C) (ns : HasNs c.h C) : OutC c₀ Q C w c.s
theorem AidE.out {c₀ : Cf W} {Q : KV} (a : AidE c₁ c D C o) (L : Later [] c₀ c₁) (q : Q (.ref c.hm.next) (c.hm.new o)) : OutC c₀ Q C (.ref D) c.s := by
  have aD : Aside c₀.h c.ρ c.h D := ⟨a.d.out, a.d.new.back L.alive, acc_lives a.acc⟩
  have R : ORel W (c.ρ ++ [cell D]) c.h o (cell D) := a.acc.stay ⟨at_app, fun _ _ e _ => e⟩ fun _ _ _ e => e
  exact OutC.mk (c := c.adopt c.s.toks aD.base (fun b o _ e => e) R) adopt_V q ((L.trans a.L).adopt aD.new) ⟨fun q => (own_or (ρ := c.ρ) (c := cell D) q).elim a.n.out fun q => a.dn (own_cell q).symm, a.n.new.back L.alive⟩ a.ns
theorem outC_out {c₀ : Cf W} {Q : KV} {w : Value} {s' : Shared} (h : OutC c₀ Q C w s') : ∃ m, s'.heap.Ns C m ∧ ∀ h', Heap.SameBut C s'.heap h' → Out c₀ Cf.V Q w { s' with heap := h' } := by
  induction h with
  | @mk m w c r q l n ns =>
    have z := n.aside ns.lives
    induction ns with
    | mk ns => exact ⟨_, ns, fun h' sb => Out.mk (c' := c.turn c.s.toks z.base (sb_x sb)) (r.stay (stay_turn z (sb_x sb))) q (l.turn z.new)⟩
end
section
variable {W : Wd} {k : Ck} {d : Nat} {p : Pt W k d} {scope : Scope} {y : Str} {py : Pos} {x : Nat} {c₁ c : Cf W} {C D I : Addr} {v : MV} {xs : List MV} {j : Nat} {mo : MObj}
theorem comp_next (o : CompOk k scope y x) (L : Later [] p.c c₁) (a : Aid c₁ c D C I mo v j) (e : Items c.hm v xs) (hj : j ≤ xs.length) (hne : ∀ n a, p.G.env.cells.lookup n = some a → a ≠ C) {R : Shared → Prop} {P : Unit → Shared → Prop} {E : Value → Shared → Prop}
    (hN : j = xs.length → ∀ c2, c2.hm = c.hm → AidE c₁ c2 D C mo → R c2.s)
    (hS : ∀ xv (c3 : Cf W), xs[j]? = some xv → GOk W (k.inner scope y x) d (p.G.inner k scope C y x) → Fr (p.G.inner k scope C y x) (Vars.set p.vars x xv) c3 → c3.hm = c.hm → Aid c₁ c3 D C I mo v (j + 1) → P () c3.s) :
    wpAny W.M p.G.A (pyNext (.ref I)) (fun r s₁ => match r with
      | none => R s₁
      | some v => wpAny W.M p.G.A (assign (.Name y py) (compEnvC scope (clFold p.G.env scope.names []) C p.G.env) v) P E s₁) E c.s := by
  have zI := a.i.aside a.it.lives
  refine iter_next e a.it hj p.g.room.handled (fun hje h' k' => hN hje (c.turn c.s.toks zI.base k') rfl (a.endI k' zI)) fun xv u h' t hx k' hu it => ?_
  have a2 := a.setI (t := t) k' zI it
  induction a2.ns with
  | mk n2 =>
  have zC := a2.n.aside a2.ns.lives
  refine wpAny_assign_Name (wpAny_storeName_local (inner_here (C := C) (x := x) o p.g) n2 (fun h'' n3 sb => ?_) (by show (scope.kind == .class || (scope.kind == .module && _)) = false; rw [o.kind]; rfl))
  have a3 := a2.setC (t := t + 1) (sb_x sb) zC (.mk n3)
  exact hS xv _ hx (inner_g o p.g (a3.n.aside a3.ns.lives).base.new hne) (inner_fr o p.g (p.O.later (L.trans a3.L)) a3.n.out n3 (if_pos rfl) (VRel.stay (stay_turn zC (sb_x sb)) hu)) rfl a3
theorem drop_at {α : Type} {xs : List α} {j : Nat} {x : α} (e : xs[j]? = some x) : xs.drop j = x :: xs.drop (j + 1) ∧ j < xs.length := by
  obtain ⟨l, e⟩ := List.getElem?_eq_some_iff.mp e
  exact ⟨by rw [List.drop_eq_getElem_cons l, e], l⟩
theorem drop_end {α : Type} {xs : List α} {j : Nat} (e : j = xs.length) : xs.drop j = [] := List.drop_eq_nil_of_le (Nat.le_of_eq e.symm)
theorem comp_start {X : Lx W} {p : Pt W k X.d} {mi : ME} {it e : Expr} {gs : List Expr} {newAcc : Sem Value} {od : Obj} {pos : Pos} {use : Option (Value → Sem Unit)} {P : Value → Shared → Prop} (hi : SE W k mi it) (o : CompOk k scope y x) (hcl : clausesOf e = [⟨.Name y py, it, gs, 0⟩]) (hset : notSetE it = true)
    (hnew : ∀ (s : Shared) (R : Value → Shared → Prop), R (.ref s.heap.objs.size) { s with heap := s.heap.push od } → wpAny W.M p.G.A newAcc R noE s) (hod : ∀ ρ (h : Heap), ORel W ρ (h.push od) mo (cell h.objs.size))
    (hst : ∀ {s it acc env R}, codeAny W.M p.G.A (.compLoop e 0 it acc env) R s → wpAny W.M p.G.A (pyIter it) (fun it' s' => codeAny W.M p.G.A (.compLoop e 0 it' acc env) R s') (notedBy W.M p.G.A env fun x s' => R (.error x) s') s → codeAny W.M p.G.A (.compStart e 0 it acc env) R s)
    {K : MV → List MV → MHeap → Prop} (q : ev X.lg mi p.vars false (fun s h => Yields (Items h s) fun xs => K s xs h) p.c.hm)
    (loop : ∀ v xs c₁ c D C I, Items c.hm v xs → K v xs c.hm → Later [] p.c c₁ → Aid c₁ c D C I mo v 0 → (∀ n a, p.G.env.cells.lookup n = some a → a ≠ C) → codeAny W.M p.G.A (.compLoop e 0 (.ref I) (.ref D) (compEnvC scope (clFold p.G.env scope.names []) C p.G.env)) (compPost W.M p.G.A noE use P (.ref D) C) c.s) :
    wpAny W.M p.G.A (comprehension e scope p.G.env pos newAcc false (eval it p.G.env) use) P noE p.c.s := by
  refine wpAny_comprehension_free (g := ⟨.Name y py, it, gs, 0⟩) (gs := []) hcl (fun v => ?_) (closure_eq (cells_there o p.g)) o.kind o.loc ?_
  · rcases it with _ | _ | _ | _ | _ | _ | _ | _ | _ | _ | _ | _ | _ | _ | _ | _ | _ | _ | _ | _ | _ | _ | _ | _ | _ | _ | _ <;> first | exact rfl | exact ff hset
  refine wout (hi.v X p _ q) fun v u c₁ r q L => ?_
  induction q with
  | @mk xs e q =>
  refine iter_start e r fun oI lI it0 => hnew _ _ (wpAny_newFunctionEnv o.noCell (fun x hx => absurd hx List.not_mem_nil) (fun h4 hns hsb => ?_) o.kind)
  have n1 : c₁.h.objs.size < (c₁.h.push oI).objs.size := by rw [Heap.size_push]; exact Nat.lt_succ_self _
  have n2 : (c₁.h.push oI).objs.size < ((c₁.h.push oI).push od).objs.size := by rw [Heap.size_push (c₁.h.push oI)]; exact Nat.lt_succ_self _
  have k2 : Ext (c₁.h.push oI) ((c₁.h.push oI).push od) := .push _ _
  have k4 : Ext ((c₁.h.push oI).push od) h4 := fun b o e => (hsb.2 b (Nat.ne_of_lt (Heap.lt_size e))).trans (Heap.get?_push_of_some _ e)
  have k24 := k2.trans k4
  have kk : Ext c₁.h h4 := (Ext.push _ _).trans k24
  have l3 : ∀ {ρ}, ORel W ρ ((c₁.h.push oI).push od) mo (cell (c₁.h.push oI).objs.size) := fun {ρ} => hod _ _
  have off : ∀ a, c₁.h.objs.size ≤ a → Off c₁ (c₁.grow c₁.s.toks kk) a := fun a ha => ⟨not_own (c := c₁) (above_size _ ha), above_size _ ha⟩
  have A0 : Aid c₁ (c₁.grow c₁.s.toks kk) (c₁.h.push oI).objs.size ((c₁.h.push oI).push od).objs.size c₁.h.objs.size mo v 0 :=
    ⟨⟨later_grow kk, off _ (Nat.le_of_lt n1), off _ (Nat.le_of_lt (Nat.lt_trans n1 n2)), .mk hns, l3.stay k4.stay (kept_cell fun x e => k4 _ x e), Nat.ne_of_lt n2⟩, off _ (Nat.le_refl _), it0.keep k24.stay fun o e => k24 _ o e, Nat.ne_of_lt n1, Nat.ne_of_lt (Nat.lt_trans n1 n2)⟩
  have hne : ∀ n a, p.G.env.cells.lookup n = some a → a ≠ ((c₁.h.push oI).push od).objs.size := fun n a e z => by
    induction (p.O.later L).store.lives a (Gx.own_cell e) with | mk g _ => exact A0.n.new.no (z ▸ g)
  have lp := loop v xs c₁ (c₁.grow c₁.s.toks kk) _ _ _ e q L A0 hne
  exact hst lp (iter_self A0.it lp)
end
end Mini
end
section
namespace Mini
open PySem PySem.W PyProof.Rows PySem.SeqAt
section
variable {W : Wd} {k : Ck} {scope : Scope} {y : Str} {py : Pos} {x : Nat}
inductive LoopI {d : Nat} (p : Pt W k d) (c₁ : Cf W) (D C I : Addr) (v : MV) (xs : List MV) (mk : Nat → Cf W → MObj → Prop) (n : Nat) : Shared → Prop
  | mk {c : Cf W} {j : Nat} {o : MObj} (en : n = xs.length + 1 - j) (hj : j ≤ xs.length) (a : Aid c₁ c D C I o v j) (q : mk j c o) : LoopI p c₁ D C I v xs mk n c.s
theorem LoopI.next {d : Nat} {p : Pt W k d} {c₁ c : Cf W} {D C I : Addr} {v : MV} {xs : List MV} {mk : Nat → Cf W → MObj → Prop} {j : Nat} {o : MObj} (hj : j < xs.length) (a : Aid c₁ c D C I o v (j + 1)) (q : mk (j + 1) c o) : ∃ m, m < xs.length + 1 - j ∧ LoopI p c₁ D C I v xs mk m c.s :=
  ⟨xs.length + 1 - (j + 1), by omega, .mk rfl hj a q⟩
inductive ListQ (P : List MV → HP) (c : Cf W) : MObj → Prop
  | mk {acc : List MV} (q : P acc c.hm) : ListQ P c (.list acc)
theorem append_own {c : Cf W} {A : Around} {D : Addr} {acc : List MV} {w : MV} {u : Value} (r : ORel W c.ρ c.h (.list acc) (cell D)) (hw : c.V w u) (l : acc.length < lenLine) {P : Value → Shared → Prop} {E : Value → Shared → Prop} (h : ∀ h', ExtX [D] c.h h' → ORel W c.ρ h' (.list (acc ++ [w])) (cell D) → P .none { c.s with heap := h' }) :
    wpAny W.M A (call (.builtin "list.append") [.ref D, u]) P E c.s := by
  have r : LRel W c.ρ c.h acc (cell D) := r
  induction r with
  | @mk its n d g r l' =>
    have hz : its.size = acc.length := Array.length_toList.symm.trans r.length
    refine append_at g (fun h' sb g' => ?_) (by rw [hz]; exact line_of l')
    have st : Stay c.ρ c.h c.ρ h' := stay_x (X := [D]) (fun b hb => by rw [List.mem_singleton.mp hb]; exact .mk g (nf_c rfl)) (sb_x sb)
    exact h h' (sb_x sb) (LRel.mk rfl g' (by rw [Array.toList_push]; exact (All2.one (hw.stay st)).append (VRels.stay st r)) (by rw [List.length_append]; exact l))
theorem comp_core {X : Lx W} {p : Pt W k X.d} {melt mit : ME} {conds : MEs} {e' it' : Expr} {ifs : List Expr} {pos pos' : Pos} {use : Option (Value → Sem Unit)} {P : Value → Shared → Prop} {Q : KV} (o : CompOk k scope y x) (hi : SE W k mit it') (he : SE W (k.inner scope y x) melt e') (hc : SLs W (k.inner scope y x) conds ifs) (hset : notSetE it' = true)
    (q : ev X.lg (.comp melt x mit conds) p.vars false Q p.c.hm) (hP : ∀ C w s', OutC p.c Q C w s' → compPost W.M p.G.A noE use P w C (.ok .next) s') :
    wpAny W.M p.G.A (comprehension (.ListComp e' [⟨.Name y py, it', ifs, 0⟩] scope pos) scope p.G.env pos' (newList []) false (eval it' p.G.env) use) P noE p.c.s := by
  refine comp_start (mo := .list []) (od := { cls := .type "list", dict := none, data := .seq ([] : List Value).toArray }) hi o rfl hset (fun s R h => wpAny_newObj_type h) (fun ρ h => LRel.mk (c := cell _) rfl (Heap.get?_push_size _ rfl) .nil (Nat.zero_le _)) codeAny_compStart_list q fun v xs c₁ c D C I e q L a hne => ?_
  refine codeAny_compLoop_tests (LoopI p c₁ D C I v xs fun j c o => ListQ (fun acc h => compL (fun h => Items h v xs) (fun v => evC X.lg conds (Vars.set p.vars x v)) (fun v => ev X.lg melt (Vars.set p.vars x v) false) (xs.drop j) acc (fun ys h => fin false Q (.ref h.next) (h.new (.list ys))) h) c o) (fun n s hI => ?_) (xs.length + 1) (.mk rfl (Nat.zero_le _) a (.mk q))
  clear a q e
  induction hI with
  | @mk c j mo en hj a q =>
  induction q with
  | @mk acc q =>
  have ei : Items c.hm v xs := by
    rcases hd : xs.drop j with _ | ⟨z, r⟩ <;> rw [hd] at q <;> exact q.1
  refine comp_next o L a ei hj hne (fun hje c2 e2 a2 => ?_) fun xv c3 hx g3 O3 e3 a3 => ?_
  · rw [drop_end hje] at q
    exact hP C (.ref D) _ (a2.out L (by rw [e2]; exact q.2))
  · obtain ⟨ed, hlt⟩ := drop_at hx
    rw [ed] at q
    have q := q.2
    rw [← e3] at q
    refine wout' (hc.C X ⟨_, _, c3, g3, O3⟩ _ q) fun b b' c4 r4 q4 l4 => ?_
    have a4 := a3.later l4
    rw [← show b = b' from r4]
    rcases b with _ | _
    · rw [if_neg Bool.false_ne_true, en]
      exact LoopI.next hlt a4 (.mk q4)
    · rw [if_pos rfl]
      refine wout' (he.v X (Pt.to ⟨_, _, c3, g3, O3⟩ l4) _ q4) fun w u c5 r5 q5 l5 => ?_
      have a5 := a4.later l5
      refine append_own a5.acc r5 q5.1 fun h' k' R => ?_
      rw [en]
      exact LoopI.next hlt (a5.setD (t := c5.s.toks) k' (a5.d.aside (acc_lives a5.acc)) R) (.mk q5.2)
inductive DictQ (P : List (Int × MV) → HP) (c : Cf W) : MObj → Prop
  | mk {acc : List (Int × MV)} (q : P acc c.hm) : DictQ P c (.idict acc)
theorem dcomp_core {X : Lx W} {p : Pt W k X.d} {mk mv mit : ME} {k' e' it' : Expr} {pos pos' : Pos} {use : Option (Value → Sem Unit)} {P : Value → Shared → Prop} {Q : KV} (o : CompOk k scope y x) (hi : SE W k mit it') (hk : SE W (k.inner scope y x) mk k') (he : SE W (k.inner scope y x) mv e') (hset : notSetE it' = true)
    (q : ev X.lg (.dcomp mk mv x mit) p.vars false Q p.c.hm) (hP : ∀ C w s', OutC p.c Q C w s' → compPost W.M p.G.A noE use P w C (.ok .next) s') :
    wpAny W.M p.G.A (comprehension (.DictComp k' e' [⟨.Name y py, it', [], 0⟩] scope pos) scope p.G.env pos' newDict false (eval it' p.G.env) use) P noE p.c.s := by
  refine comp_start (mo := .idict []) (od := { cls := .type "dict", dict := none, data := .dict #[] }) hi o rfl hset (fun s R h => wpAny_newObj_type h) (fun ρ h => DRel.mk (c := cell _) rfl (Heap.DictOf.new _) .nil (Nat.zero_le _)) codeAny_compStart_dict q fun v xs c₁ c D C I e q L a hne => ?_
  refine codeAny_compLoop_testsD (LoopI p c₁ D C I v xs fun j c o => DictQ (fun acc h => dcompL (fun h => Items h v xs) (fun v => ev X.lg mk (Vars.set p.vars x v) false) (fun v => ev X.lg mv (Vars.set p.vars x v) false) (xs.drop j) acc (fun ys h => fin false Q (.ref h.next) (h.new (.idict ys))) h) c o) (fun n s hI => ?_) (xs.length + 1) (.mk rfl (Nat.zero_le _) a (.mk q))
  clear a q e
  induction hI with
  | @mk c j mo en hj a q =>
  induction q with
  | @mk acc q =>
  have ei : Items c.hm v xs := by
    rcases hd : xs.drop j with _ | ⟨z, r⟩ <;> rw [hd] at q <;> exact q.1
  refine comp_next o L a ei hj hne (fun hje c2 e2 a2 => ?_) fun xv c3 hx g3 O3 e3 a3 => ?_
  · rw [drop_end hje] at q
    exact hP C (.ref D) _ (a2.out L (by rw [e2]; exact q.2))
  · obtain ⟨ed, hlt⟩ := drop_at hx
    rw [ed] at q
    have q := q.2
    rw [← e3] at q
    refine wpAny_pure ?_
    rw [if_pos rfl]
    refine wout' (hk.v X ⟨_, _, c3, g3, O3⟩ _ q) fun km kv c4 r4 q4 l4 => ?_
    refine wout' (he.v X (Pt.to ⟨_, _, c3, g3, O3⟩ l4) _ q4) fun w u c5 r5 q5 l5 => ?_
    have a5 := (a3.later l4).later l5
    have r4 := r4.later l5
    induction q5 with
    | @mk i w l q5 =>
    refine IsInt.elim r4 fun tk => ?_
    have R : DRel W c5.ρ c5.h (intKind W.prog W.w) Eq acc (cell D) := a5.acc
    induction R with
    | @mk kvs d g r l' =>
    refine wpAny_dictSet_pairs (intKind_is _ _ _ tk) g (fun h' g' sb => ?_) (by rw [r.length]; exact line_of l')
    have z5 := a5.d.aside (acc_lives a5.acc)
    have st := stay_turn z5 (sb_x sb)
    rw [en]
    exact LoopI.next (o := .idict _) hlt (a5.setD (sb_x sb) z5 (DRel.mk rfl g' ((KRel.set rfl fit_eq r5 r (dict_nodup g)).stay st) (Nat.le_trans (kset_len ..) l))) (.mk q5)
variable {melt mit mk mv : ME} {conds : MEs} {e' k' it' : Expr} {ifs : List Expr} {pos : Pos}
theorem se_comp (o : CompOk k scope y x) (hi : SE W k mit it') (he : SE W (k.inner scope y x) melt e') (hc : SLs W (k.inner scope y x) conds ifs) (hset : notSetE it' = true) : SE W k (.comp melt x mit conds) (.ListComp e' [⟨.Name y py, it', ifs, 0⟩] scope pos) := .of (fun _ _ _ _ q => q) (fun _ => rfl) fun X p Q q => by
  rw [eval_ListComp]
  exact comp_core o hi he hc hset q fun C w s' h => outC_out h
theorem se_dcomp (o : CompOk k scope y x) (hi : SE W k mit it') (hk : SE W (k.inner scope y x) mk k') (he : SE W (k.inner scope y x) mv e') (hset : notSetE it' = true) : SE W k (.dcomp mk mv x mit) (.DictComp k' e' [⟨.Name y py, it', [], 0⟩] scope pos) := .of (fun _ _ _ _ q => q) (fun _ => rfl) fun X p Q q => by
  rw [arm_eval_DictComp]
  exact dcomp_core o hi hk he hset q fun C w s' h => outC_out h
end
end Mini
end
section
set_option maxHeartbeats 4000000
namespace Mini
open PySem PySem.W PyProof.Rows PySem.SeqAt
section
variable {prog : Program} {w : World} {A : Around} {E : Value → Shared → Prop} {s : Shared} {a kS : Addr} {b : Bool} {vs : List Value} {kz : List Int} {keys : Array Value} {e e1 : Nat} {P : PySem.Fin → Shared → Prop}
theorem srt_tail {st : SortSt} (nk : s.heap.get? kS = some (seqObj "list" keys e)) (na : s.heap.get? a = some (seqObj "list" #[] e1)) (hka : kS ≠ a)
    (hk : IntsAre keys.toList kz) (hlen : kz.length = vs.length) (h64 : vs.length < 64) (hp : (arrOf st).Perm (keys.zip vs.toArray)) (hs : SortedTo (arrOf st) (arrOf st).size) (hfl : failedOf st = none)
    (h : ∀ (h' : Heap) (tk : Nat) (out : Array Value) (c : Nat), (∀ (x : Addr) (o : Obj), x ≠ kS → x ≠ a → s.heap.get? x = some o → h'.get? x = some o) → h'.get? a = some (seqObj "list" out c) → KskOut b kz vs out.toList → P (.done (.ret .none)) { s with heap := h', toks := tk }) :
    wpAny (model prog w) A (ksk_tail a b e1 (.ref kS) st) P E s := by
  have hsz : keys.size = vs.length := by
    have h1 := hk.length
    rw [Array.length_toList] at h1
    omega
  have hsz2 : (arrOf st).size = vs.length := by rw [hp.size_eq, Array.size_zip, hsz, List.size_toArray, Nat.min_self]
  have hout : (if b then ((arrOf st).map (·.2)).reverse else (arrOf st).map (·.2)).size = vs.length := by
    cases b with
    | false => simp only [Bool.false_eq_true, if_false, Array.size_map]; exact hsz2
    | true => simp only [if_true, Array.size_reverse, Array.size_map]; exact hsz2
  have s1 := Heap.SameBut.update s.heap kS (Obj.mapSeq fun _ => (#[] : Array Value))
  have na1 : (s.heap.update kS (Obj.mapSeq fun _ => (#[] : Array Value))).get? a = some (seqObj "list" #[] e1) := (s1.2 a hka.symm).trans na
  have s2 := Heap.SameBut.update (s.heap.update kS (Obj.mapSeq fun _ => (#[] : Array Value))) a (Obj.mapSeq fun _ => if b then ((arrOf st).map (·.2)).reverse else (arrOf st).map (·.2))
  obtain ⟨c2, hc2⟩ : ∃ c2, ((s.heap.update kS (Obj.mapSeq fun _ => (#[] : Array Value))).update a (Obj.mapSeq fun _ => if b then ((arrOf st).map (·.2)).reverse else (arrOf st).map (·.2))).get? a = some (seqObj "list" (if b then ((arrOf st).map (·.2)).reverse else (arrOf st).map (·.2)) c2) :=
    ⟨_, get?_update_seq na1 fun _ => if b then ((arrOf st).map (·.2)).reverse else (arrOf st).map (·.2)⟩
  unfold ksk_tail
  try dsimp only
  refine wpAny_bind (listUpdate_at nk rfl ?_ (by rw [hsz, sizeLine_eq]; omega) (Nat.zero_le _))
  refine wpAny_bind (wpAny_letGo ?_)
  refine wpAny_bind (seqEpoch_at na1 rfl ?_)
  refine wpAny_bind (listUpdate_at na1 rfl ?_ (Nat.zero_le _) (Nat.le_trans (Nat.le_of_eq hout) (by rw [sizeLine_eq]; omega)))
  rw [hfl]
  simp only [bne_self_eq_false, Bool.false_eq_true, if_false]
  have kk : ∀ (x : Addr) (o : Obj), x ≠ kS → x ≠ a → s.heap.get? x = some o → ((s.heap.update kS (Obj.mapSeq fun _ => (#[] : Array Value))).update a (Obj.mapSeq fun _ => if b then ((arrOf st).map (·.2)).reverse else (arrOf st).map (·.2))).get? x = some o := fun x o n1 n2 q => (s2.2 x n2).trans ((s1.2 x n1).trans q)
  exact wpAny_pure (h _ _ _ c2 kk hc2 (ksk_out hk hp hs))
theorem srt_end (nk : s.heap.get? kS = some (seqObj "list" keys e)) (na : s.heap.get? a = some (seqObj "list" #[] e1)) (hka : kS ≠ a)
    (hk : IntsAre keys.toList kz) (hlen : kz.length = vs.length) (h64 : vs.length < 64)
    (h : ∀ (h' : Heap) (tk : Nat) (out : Array Value) (c : Nat), (∀ (x : Addr) (o : Obj), x ≠ kS → x ≠ a → s.heap.get? x = some o → h'.get? x = some o) → h'.get? a = some (seqObj "list" out c) → KskOut b kz vs out.toList → P (.done (.ret .none)) { s with heap := h', toks := tk }) :
    wpAny (model prog w) A (ksk_end a b vs.toArray e1 (.ref kS) keys) P E s := by
  have hsz : keys.size = vs.length := by
    have h1 := hk.length
    rw [Array.length_toList] at h1
    omega
  have hzs : (keys.zip vs.toArray).size = vs.length := by rw [Array.size_zip, hsz, List.size_toArray, Nat.min_self]
  have step : ∀ t : Sem PySem.Fin, wpAny (model prog w) A t P E s → wpAny (model prog w) A (if b = true then (do let _ ← rule "list.sort.reverse"; t) else t) P E s := by
    intro t ht
    split
    · exact wpAny_bind (wpAny_rule ht)
    · exact ht
  have hstart : (if b = true then (keys.zip vs.toArray).reverse else keys.zip vs.toArray).Perm (keys.zip vs.toArray) := by
    cases b with
    | false => exact Array.Perm.refl _
    | true => exact Array.perm_iff_toList_perm.mpr (by rw [if_pos rfl, Array.toList_reverse]; exact List.reverse_perm _)
  unfold ksk_end
  try dsimp only
  refine step _ ?_
  by_cases h2 : vs.toArray.size < 2
  · rw [if_pos h2, if_pos h2]
    refine wpAny_bind (wpAny_pure ?_)
    rw [StateT.run_pure]
    refine wpAny_bind (wpAny_pure ?_)
    try dsimp only
    refine srt_tail (st := SortSt.mk' general' (if b = true then (keys.zip vs.toArray).reverse else keys.zip vs.toArray) #[] 7 none) nk na hka hk hlen h64 hstart ?_ rfl h
    intro i j hij hj
    have hj2 : j < (if b = true then (keys.zip vs.toArray).reverse else keys.zip vs.toArray).size := hj
    rw [hstart.size_eq, hzs] at hj2
    rw [List.size_toArray] at h2
    have : i = j := by omega
    subst this
    exact Int.le_refl _
  · rw [if_neg h2, if_neg h2]
    rw [List.size_toArray] at h2
    rw [ksk_kind hk (by rw [hsz]; omega)]
    refine wpAny_bind (wpAny_pure ?_)
    refine wpAny_bind (wpAny_mono (wpS_sortRuns (a₀ := keys.zip vs.toArray) (st := SortSt.mk' oneType' (if b = true then (keys.zip vs.toArray).reverse else keys.zip vs.toArray) #[] 7 none)
      (Q := fun _ st' => (arrOf st').Perm (keys.zip vs.toArray) ∧ failedOf st' = none ∧ SortedTo (arrOf st') (keys.zip vs.toArray).size)
      (ksk_intKeys hk) ⟨hstart, rfl, rfl, rfl⟩ (by rw [hzs]; omega) (by rw [hzs]; exact h64) fun st' a1 a2 a3 => ⟨a1, a2, a3⟩) ?_ fun _ _ e => e)
    rintro ⟨⟨⟩, st'⟩ s' ⟨rfl, hp, hf, hs⟩
    try dsimp only
    exact srt_tail nk na hka hk hlen h64 hp (by rw [hp.size_eq]; exact hs) hf h
end
end Mini
end
section
set_option maxHeartbeats 4000000
namespace Mini
open PySem PySem.W PyProof.Rows PySem.SeqAt
noncomputable abbrev Objs := List (Addr × Obj)
noncomputable def Gs {W : Wd} (c₀ c : Cf W) (G : Objs) : Prop := ∀ p ∈ G, Off c₀ c p.1 ∧ c.h.get? p.1 = some p.2 ∧ ¬ Frozen p.2
section
variable {W : Wd} {A : Around} {c₀ c c' : Cf W} {a kS Z : Addr} {b : Bool} {vs : List Value} {e1 : Nat} {G : Objs} {K : List Int → HP} {f : Value} {h' : Heap}
theorem seq_lives {h : Heap} {xs : Array Value} {n : Nat} (g : h.get? a = some (seqObj "list" xs n)) : Lives h a := .mk g (nf_c rfl)
theorem Gs.later (g : Gs c₀ c G) (l : Later [] c c') : Gs c₀ c' G := fun p hp => ⟨(g p hp).1.later (.mk (g p hp).2.1 (g p hp).2.2) l, l.keep _ _ (g p hp).2.1 (g p hp).1.out List.not_mem_nil, (g p hp).2.2⟩
theorem Gs.turn (g : Gs c₀ c G) {t : Nat} {z : Aside W.B c.ρ c.h Z} {k : ExtX [Z] c.h h'} (n : ∀ p ∈ G, p.1 ≠ Z) : Gs c₀ (c.turn t z k) G := fun p hp => ⟨⟨(g p hp).1.out, (g p hp).1.new⟩, out_keep k (n p hp) _ (g p hp).2.1, (g p hp).2.2⟩
theorem Gs.ext {t : Nat} (g : Gs c₀ c G) (k : Ext c.h h') : Gs c₀ (c.grow t k) G := fun p hp => ⟨⟨(g p hp).1.out, (g p hp).1.new⟩, k _ _ (g p hp).2.1, (g p hp).2.2⟩
noncomputable def KeyQ (K : List Int → HP) (ks : List Int) (m : MV) (h : MHeap) : Prop := ∃ n, m = .int n ∧ K (ks ++ [n]) h
noncomputable def KeyStep (W : Wd) (A : Around) (c₀ : Cf W) (G : Objs) (f : Value) (vs : List Value) (K : List Int → HP) : Prop :=
  ∀ (ks : List Int) (x : Value) (c : Cf W), vs[ks.length]? = some x → Later [] c₀ c → Gs c₀ c G → K ks c.hm → wpAny W.M A (PySem.call f [x]) (Out c Cf.V (KeyQ K ks)) noE c.s
inductive SrtI (c₀ : Cf W) (kS a : Addr) (e1 : Nat) (G : Objs) (vs : List Value) (K : List Int → HP) (i : Nat) : Shared → Prop
  | mk {c : Cf W} {kA : Array Value} {e : Nat} {ks : List Int} (L : Later [] c₀ c) (zK : Off c₀ c kS) (zA : Off c₀ c a) (gK : c.h.get? kS = some (seqObj "list" kA e)) (gA : c.h.get? a = some (seqObj "list" #[] e1)) (I : IntsAre kA.toList ks) (hl : ks.length = i) (hle : i ≤ vs.length) (g : Gs c₀ c G) (q : K ks c.hm) : SrtI c₀ kS a e1 G vs K i c.s
inductive SrtR (c₀ : Cf W) (b : Bool) (vs : List Value) (K : List Int → HP) (a : Addr) : Shared → Prop
  | mk {c : Cf W} {ks : List Int} {out : Array Value} {n : Nat} (hl : ks.length = vs.length) (q : K ks c.hm) (L : Later [] c₀ c) (z : Off c₀ c a) (g : c.h.get? a = some (seqObj "list" out n)) (o : KskOut b ks vs out.toList) : SrtR c₀ b vs K a c.s
theorem push_keys {c : Cf W} {kA : Array Value} {e i : Nat} {ks : List Int} {n : Int} {tk : Tok} (h64 : vs.length < 64) (hka : kS ≠ a) (hG : ∀ p ∈ G, p.1 ≠ kS) (hi : i < vs.length) (L : Later [] c₀ c) (zK : Off c₀ c kS) (zA : Off c₀ c a) (gK : c.h.get? kS = some (seqObj "list" kA e)) (gA : c.h.get? a = some (seqObj "list" #[] e1)) (I : IntsAre kA.toList ks) (hl : ks.length = i) (g : Gs c₀ c G) (q : K (ks ++ [n]) c.hm)
    {P : Unit → Shared → Prop} {E : Value → Shared → Prop} (h : ∀ s, SrtI c₀ kS a e1 G vs K (i + 1) s → P () s) : wpAny W.M A (Builtin.List.listUpdate (.ref kS) (·.push (.int n tk))) P E c.s := by
  have s1 := Heap.SameBut.update c.h kS (Obj.mapSeq (·.push (Value.int n tk)))
  have hz : kA.size = i := Array.length_toList.symm.trans (I.length.trans hl)
  have g2 := get?_update_seq gK (·.push (Value.int n tk))
  have zz := zK.aside (seq_lives gK)
  refine listUpdate_at gK rfl (h _ ?_) (by rw [hz, sizeLine_eq]; omega) (Nat.le_trans (Nat.le_of_eq (Array.size_push ..)) (by rw [hz, sizeLine_eq]; omega))
  have ea : (kA.push (Value.int n tk)).toList = kA.toList ++ [Value.int n tk] := Array.toList_push
  exact SrtI.mk (c := c.turn c.s.toks zz.base (sb_x s1)) (L.turn zK.new) ⟨zK.out, zK.new⟩ ⟨zA.out, zA.new⟩ g2 (out_keep (sb_x s1) hka.symm _ gA) (by rw [ea]; exact ksk_snoc I) (by rw [List.length_append, hl]; rfl) hi (g.turn hG) q
theorem srt_rest (step : KeyStep W A c₀ G f vs K) (h64 : vs.length < 64) (hka : kS ≠ a) (hGK : ∀ p ∈ G, p.1 ≠ kS) {s : Shared} {E : Value → Shared → Prop} (h : SrtI c₀ kS a e1 G vs K 0 s) : wpAny W.M A (ksk_rest a f b vs.toArray e1 (.ref kS)) (fun r s' => r = .done (.ret .none) ∧ SrtR c₀ b vs K a s') E s := by
  unfold ksk_rest
  refine wpAny_bind (wpAny_rule ?_)
  first
    | rw [List.forIn_toArray]
    | (rw [← Array.forIn_toList]; simp only [List.toList_toArray])
    | rw [← Array.forIn_toList]
  refine wpAny_bind (ksk_fold (SrtI c₀ kS a e1 G vs K) vs 0 s h (fun j x s' hx hI => ?_) fun s' hI => ?_)
  · have hj : j < vs.length := (List.getElem?_eq_some_iff.mp hx).1
    rw [Nat.zero_add] at hI ⊢
    induction hI with
    | @mk c kA e ks L zK zA gK gA I hl hle g q =>
    refine wpAny_bind (wpAny_attempt (wout' (step ks x c (by rw [hl]; exact hx) L g q) fun m v c2 r q l => ?_))
    obtain ⟨n, rfl, q⟩ := q
    refine IsInt.elim r fun t => ?_
    have k : ∀ {Z}, Off c₀ c Z → ∀ o, c.h.get? Z = some o → c2.h.get? Z = some o := fun z o e => l.keep _ o e z.out List.not_mem_nil
    exact wpAny_bind (push_keys h64 hka hGK hj (L.trans l) (zK.later (seq_lives gK) l) (zA.later (seq_lives gA) l) (k zK _ gK) (k zA _ gA) I hl (g.later l) q fun s h => wpAny_pure ⟨rfl, h⟩)
  · rw [Nat.zero_add] at hI
    induction hI with
    | @mk c kA e ks L zK zA gK gA I hl hle g q =>
    refine wpAny_bind (listItems_at gK rfl ?_)
    refine srt_end gK gA hka I hl h64 fun h3 tk3 out n k3 g3 o3 => ⟨rfl, ?_⟩
    have z : ∀ b ∈ [kS, a], Aside c₀.h c.ρ c.h b := fun b hb => by
      rcases List.mem_cons.mp hb with e | e
      · rw [e]; exact zK.aside (seq_lives gK)
      · rw [List.mem_singleton.mp e]; exact zA.aside (seq_lives gA)
    have k3 : ExtX [kS, a] c.h h3 := fun x o hx e => k3 x o (fun q => hx (q ▸ .head _)) (fun q => hx (q ▸ .tail _ (.head _))) e
    exact SrtR.mk (c := c.side tk3 (fun b hb => (z b hb).base) k3) hl q (L.side fun b hb => (z b hb).new) ⟨zA.out, zA.new⟩ g3 o3
theorem srt_sort (step : KeyStep W A c₀ G f vs K) (h64 : vs.length < 64) {n : Nat} (L : Later [] c₀ c) (zA : Off c₀ c a) (gA : c.h.get? a = some (seqObj "list" vs.toArray n)) (g : Gs c₀ c G) (hGa : ∀ p ∈ G, p.1 ≠ a) (q : K [] c.hm) {E : Value → Shared → Prop} :
    wpAny W.M A (ksk_tree a f b) (fun r s' => r = .done (.ret .none) ∧ SrtR c₀ b vs K a s') E c.s := by
  have s1 := Heap.SameBut.update c.h a (Obj.mapSeq fun _ => (#[] : Array Value))
  have g1 := get?_update_seq gA fun _ => #[]
  have zz := zA.aside (seq_lives gA)
  have k1 := sb_x s1
  unfold ksk_tree
  refine wpAny_bind (listItems_at gA rfl ?_)
  refine wpAny_bind (listUpdate_at gA rfl ?_ (by rw [List.size_toArray, sizeLine_eq]; omega) (Nat.zero_le _))
  refine wpAny_bind (seqEpoch_at g1 rfl ?_)
  refine wpAny_bind (wpAny_newTuple ?_ (by show vs.length ≤ _; rw [sizeLine_eq]; omega))
  refine wpAny_bind (wpAny_newList ?_ (Nat.zero_le _))
  refine wpAny_holding ?_
  have k2 : Ext (c.turn c.s.toks zz.base k1).h (((c.turn c.s.toks zz.base k1).h.push (seqObj "tuple" vs.toArray 0)).push (seqObj "list" #[] 0)) := .trans (.push _ _) (.push _ _)
  have hsz : ((c.turn c.s.toks zz.base k1).h.push (seqObj "tuple" vs.toArray 0)).objs.size = c.h.objs.size + 1 := by rw [Heap.size_push]; exact congrArg (· + 1) (Heap.size_update ..)
  have gK : (((c.turn c.s.toks zz.base k1).h.push (seqObj "tuple" vs.toArray 0)).push (seqObj "list" #[] 0)).get? ((c.turn c.s.toks zz.base k1).h.push (seqObj "tuple" vs.toArray 0)).objs.size = some (seqObj "list" #[] 0) := Heap.get?_push_size _ rfl
  have L1 := L.turn (t := c.s.toks) (a := zz.base) (k := k1) zA.new
  have main : ∀ kS, kS = c.h.objs.size + 1 → (((c.turn c.s.toks zz.base k1).h.push (seqObj "tuple" vs.toArray 0)).push (seqObj "list" #[] 0)).get? kS = some (seqObj "list" #[] 0) → wpAny W.M A (ksk_rest a f b vs.toArray _ (.ref kS)) (fun r s' => r = .done (.ret .none) ∧ SrtR c₀ b vs K a s') E ((c.turn c.s.toks zz.base k1).grow c.s.toks k2).s := fun kS hsz gK => by
    have lt : ∀ x o, c.h.get? x = some o → x < kS := fun x o e => by rw [hsz]; exact Nat.lt_succ_of_lt (Heap.lt_size e)
    have nK : ∀ x, Lives c.h x → x ≠ kS := fun x l e => by induction l with | mk g _ => exact Nat.lt_irrefl _ (e ▸ lt x _ g)
    refine srt_rest step h64 (nK a (seq_lives gA)).symm (fun p hp => nK _ (.mk (g p hp).2.1 (g p hp).2.2)) (SrtI.mk (c := (c.turn c.s.toks zz.base k1).grow c.s.toks k2) (kA := #[]) (L1.trans (later_grow k2)) ⟨fun q => nK _ (c.sim.live _ q) rfl, fun x o e => ?_⟩ ⟨zA.out, zA.new⟩ gK (k2 _ _ g1) .nil rfl (Nat.zero_le _) (Gs.ext (Gs.turn g hGa) k2) q)
    obtain ⟨o', e'⟩ := L.alive x o e
    exact lt x o' e'
  exact main _ hsz gK
theorem sorted_go {PV : List Value → Prop} {src : Value} {kw : List (Str × Value)} (ha1 : argsOk "sorted" ⟨[src], kw⟩) (ha2 : ∀ x, argsOk "list.sort" ⟨[.ref x], kw⟩) (ht : ∀ x, Builtin.«list.sort» ⟨[.ref x], kw⟩ = ksk_tree x f b)
    (hc : ∀ (Qc : List Value → Shared → Prop) (E' : Value → Shared → Prop), (∀ (h' : Heap) (tk : Nat) (vs : List Value), PV vs → Ext c.h h' → Qc vs { c.s with heap := h', toks := tk }) → wpAny W.M A.in1 (collect src) Qc E' c.s)
    (step : ∀ vs, PV vs → KeyStep W A.in1.in1 c₀ G f vs K) (h64 : ∀ vs, PV vs → vs.length < 64) (L : Later [] c₀ c) (g : Gs c₀ c G) (q : K [] c.hm) {R : Value → Shared → Prop} {E : Value → Shared → Prop} (h : ∀ D vs s, PV vs → SrtR c₀ b vs K D s → R (.ref D) s) : wpAny W.M A (PySem.call (.builtin "sorted") [src] kw) R E c.s := by
  refine call_function_entry_kw kind_sorted plain_sorted entry_sorted ha1 ?_
  unfold Builtin.«sorted»
  refine wpAny_bind (m := checkCount "sorted" 1 1 _) (wpAny_pure ?_)
  refine wpAny_bind (hc _ _ fun h' tk vs pv up => ?_)
  have h64' := h64 vs pv
  refine wpAny_bind (wpAny_newList ?_ (by rw [sizeLine_eq]; omega))
  have gA : (h'.push (seqObj "list" vs.toArray 0)).get? h'.objs.size = some (seqObj "list" vs.toArray 0) := Heap.get?_push_size _ rfl
  have up2 : Ext c.h (h'.push (seqObj "list" vs.toArray 0)) := Ext.trans up (.push _ _)
  have lt : ∀ x o, c.h.get? x = some o → x < h'.objs.size := fun x o e => Heap.lt_size (up x o e)
  refine wpAny_bind (wpAny_holding (wpAny_call_entry_kw slot_list_sort ⟨_, gA, rfl⟩ entry_list_sort ?_ (ha2 _)))
  show wpAny W.M A.in1.in1 (Builtin.«list.sort» ⟨[.ref h'.objs.size], kw⟩) _ _ _
  rw [ht]
  refine wpAny_mono (srt_sort (c := c.grow tk up2) (step vs pv) h64' (L.trans (later_grow up2)) ⟨fun q => ?_, fun x o e => ?_⟩ gA (g.ext up2) (fun p hp e => Nat.lt_irrefl _ (e ▸ lt _ _ (g p hp).2.1)) q) (fun r s' h2 => ?_) fun _ _ e => e
  · induction c.sim.live _ q with | mk e _ => exact Nat.lt_irrefl _ (lt _ _ e)
  · obtain ⟨o', e'⟩ := L.alive x o e
    exact lt x o' e'
  · obtain ⟨rfl, h2⟩ := h2
    exact ⟨_, rfl, wpAny_pure ⟨_, rfl, h _ vs _ pv h2⟩⟩
theorem sorted_out {Q : KV} {D : Addr} {s' : Shared} (h : SrtR c₀ b vs K D s') (hn : vs.length ≤ lenLine) (fin : ∀ ks (c : Cf W) (out : List Value), ks.length = vs.length → K ks c.hm → Later [] c₀ c → KskOut b ks vs out → ∃ xs, c.Vs xs out ∧ Q (.ref c.hm.next) (c.hm.new (.list xs))) : Out c₀ Cf.V Q (.ref D) s' := by
  induction h with
  | @mk c ks out n hl q L z g o =>
  obtain ⟨xs, r, q⟩ := fin ks c out.toList hl q L o
  have hlen : xs.length ≤ lenLine := by
    obtain ⟨ps, hp, e, _⟩ := o
    rw [← r.length, e, List.length_map, hp.length_eq, List.length_zip]
    exact Nat.le_trans (Nat.min_le_right ..) hn
  exact out_adopt (o := .list xs) (t := c.s.toks) L (z.aside (seq_lives g)) (fun b o _ e => e) (LRel.mk (c := cell D) rfl g (VRels.stay ⟨at_app, fun _ _ e _ => e⟩ r) hlen) q
end
end Mini
end
section
set_option maxHeartbeats 2000000
namespace Mini
open PySem PySem.W PyProof.Rows PySem.SeqAt
theorem perm_lift {α β : Type} {f : α → β} {ps l : List β} (h : ps.Perm l) {T : List α} (e : T.map f = l) : ∃ T' : List α, T'.Perm T ∧ T'.map f = ps := by
  induction h generalizing T with
  | nil => exact ⟨T, .refl _, e⟩
  | cons x h ih =>
    rcases T with _ | ⟨t, T⟩
    · exact absurd e (List.cons_ne_nil _ _).symm
    · obtain ⟨e1, e2⟩ := List.cons.inj e
      obtain ⟨T', a, b⟩ := ih e2
      exact ⟨t :: T', a.cons t, by rw [List.map_cons, b, e1]⟩
  | swap x y l =>
    rcases T with _ | ⟨t1, _ | ⟨t2, T⟩⟩
    · exact absurd e (List.cons_ne_nil _ _).symm
    · exact absurd (List.cons.inj e).2 (List.cons_ne_nil _ _).symm
    · obtain ⟨e1, e2⟩ := List.cons.inj e
      obtain ⟨e2, e3⟩ := List.cons.inj e2
      exact ⟨t2 :: t1 :: T, .swap _ _ _, by rw [List.map_cons, List.map_cons, e1, e2, e3]⟩
  | trans h1 h2 ih1 ih2 =>
    obtain ⟨T2, a, b⟩ := ih2 e
    obtain ⟨T1, c, d⟩ := ih1 b
    exact ⟨T1, c.trans a, d⟩
section
variable {W : Wd} {k : Ck} {pos : Pos}
theorem rels_of {ρ : Cells} {h : Heap} {T : List (Int × (MV × Value))} (e : ∀ p ∈ T, VRel W ρ h p.2.1 p.2.2) : VRels W ρ h (T.map fun t => t.2.1) (T.map fun t => t.2.2) := by
  induction T with
  | nil => exact .nil
  | cons p T ih => rw [List.forall_mem_cons] at e; exact .cons e.1 (ih e.2)
theorem rels_zip {ρ : Cells} {h : Heap} {xs : List MV} {vs : List Value} (r : VRels W ρ h xs vs) : ∀ p ∈ xs.zip vs, VRel W ρ h p.1 p.2 := by
  induction r with
  | nil => exact fun p hp => absurd hp List.not_mem_nil
  | cons q t ih => rw [List.zip_cons_cons, List.forall_mem_cons]; exact ⟨q, ih⟩
theorem key_out {ρ : Cells} {h : Heap} {b : Bool} {xs : List MV} {vs out : List Value} {ks : List Int} (r : VRels W ρ h xs vs) (hk : ks.length = vs.length) (ko : KskOut b ks vs out) :
    ∃ ps : List (Int × MV), ps.Perm (ks.zip xs) ∧ ps.Pairwise (fun x y => if b then y.1 ≤ x.1 else x.1 ≤ y.1) ∧ VRels W ρ h (ps.map (·.2)) out := by
  obtain ⟨qs, hp, rfl, hpw⟩ := ko
  have hx := r.length
  have e1 : (ks.zip (xs.zip vs)).map (fun t => (t.1, t.2.2)) = ks.zip vs := by
    rw [show (fun t : Int × (MV × Value) => (t.1, t.2.2)) = Prod.map id Prod.snd from rfl, ← List.zip_map, List.map_id, List.map_snd_zip (Nat.le_of_eq hx)]
  have e2 : (ks.zip (xs.zip vs)).map (fun t => (t.1, t.2.1)) = ks.zip xs := by
    rw [show (fun t : Int × (MV × Value) => (t.1, t.2.1)) = Prod.map id Prod.fst from rfl, ← List.zip_map, List.map_id, List.map_fst_zip (Nat.le_of_eq hx.symm)]
  obtain ⟨T, h1, h2⟩ := perm_lift hp e1
  refine ⟨T.map fun t => (t.1, t.2.1), e2 ▸ h1.map _, ?_, ?_⟩
  · rw [← h2, List.pairwise_map] at hpw
    rw [List.pairwise_map]
    exact hpw
  · rw [← h2, List.map_map, List.map_map]
    exact rels_of fun p hp => rels_zip r _ (List.of_mem_zip (h1.mem_iff.mp hp)).2
theorem ints_get {vs : List Value} {is : List Int} (I : IntsAre vs is) {i : Nat} {v : Value} (h : vs[i]? = some v) : ∃ n, is[i]? = some n ∧ IsInt n v := by
  induction I generalizing i with
  | nil => exact ns (List.getElem?_nil.symm.trans h)
  | cons n t _ ih =>
    rcases i with _ | i
    · exact ⟨n, rfl, Option.some.inj h ▸ .mk t⟩
    · exact ih (i := i) h
theorem ints_of {vs : List Value} {is : List Int} (l : vs.length = is.length) (h : ∀ (j : Nat) (v : Value), vs[j]? = some v → ∃ n, is[j]? = some n ∧ ∃ t, v = .int n t) : IntsAre vs is := by
  induction vs generalizing is with
  | nil =>
    rcases is with _ | ⟨n, is⟩
    · exact .nil
    · exact absurd l (Nat.ne_of_lt (Nat.succ_pos _))
  | cons v vs ih =>
    rcases is with _ | ⟨n, is⟩
    · exact absurd l (Nat.ne_of_gt (Nat.succ_pos _))
    · obtain ⟨n', e1, t, e2⟩ := h 0 v rfl
      rw [e2, ← Option.some.inj e1]
      exact .cons _ t (ih (Nat.succ.inj l) fun j v hj => h (j + 1) v hj)
theorem KRel.keys {ρ : Cells} {h : Heap} {es : List (Int × MV)} {kvs : List (Int × Value)} (r : KRel W ρ h Eq es kvs) : kvs.map (·.1) = es.map (·.1) := by
  induction r with
  | nil => rfl
  | cons q t ih => rw [List.map_cons, List.map_cons, ih, q.1]
variable {e : Expr} {me : ME}
theorem star_one {env : Env} (h : notStar e = true) : starEach [e] env = [(false, eval e env)] := by rw [star_cons h]; rfl
noncomputable def AbsK (h₀ : MHeap) (is ks : List Int) (h : MHeap) : Prop := h = h₀ ∧ ks = (is.take ks.length).map fun i => (i.natAbs : Int)
theorem abs_step {A : Around} {c₀ : Cf W} {is : List Int} {vs : List Value} {h₀ : MHeap} (I : IntsAre vs is) : KeyStep W A c₀ [] (.builtin "abs") vs (AbsK h₀ is) := fun ks x c hx L _ q => by
  obtain ⟨n, hn, hx⟩ := ints_get I hx
  refine hx.elim fun t => call_abs_int fun u tk => ?_
  rw [abs_eq]
  refine out_same (m := .int n.natAbs) (IsInt.mk _) ⟨_, rfl, q.1, ?_⟩
  rw [List.length_append, List.length_singleton, List.take_add_one, hn, List.map_append, ← q.2]
  rfl
theorem abs_out {is ks : List Int} {ps : List (Int × MV)} (hk : ks = is.map fun i => (i.natAbs : Int)) (hp : ps.Perm (ks.zip (is.map .int))) (hs : ps.Pairwise (fun x y => x.1 ≤ y.1)) : ∃ ys : List Int, ps.map (·.2) = ys.map .int ∧ ys.Perm is ∧ ys.Pairwise fun a b => a.natAbs ≤ b.natAbs := by
  have e : is.map (fun i => ((i.natAbs : Int), MV.int i)) = ks.zip (is.map .int) := by
    rw [hk]
    clear hk hp
    induction is with
    | nil => rfl
    | cons i is ih => rw [List.map_cons, ih]; rfl
  obtain ⟨ys, h1, h2⟩ := perm_lift hp e
  refine ⟨ys, by rw [← h2, List.map_map]; rfl, h1, ?_⟩
  rw [← h2, List.pairwise_map] at hs
  exact hs.imp fun h => Int.ofNat_le.mp h
theorem se_sortAbs {np kp : Pos} {q : Pos} (he : SE W k me e) (hi : isGl k "sorted" = true) (hi' : isGl k "abs" = true) (hs : notStar e = true) : SE W k (.sortAbs me) (.Call (.Name "sorted" np) [e] [⟨some "key", .Name "abs" kp, q⟩] pos) := .of (fun _ _ _ _ q => q) (fun _ => rfl) fun X p Q q => by
  have K := X.K
  rw [arm_eval_Call_Name']
  refine wpAny_bind (load_builtin K p hi (K.noBuiltin "sorted" (by simp)) boot_sorted (by decide) ?_)
  refine callWith_kw (e := e) (rest := []) ?_ (by rw [star_one hs]; rfl) (by rw [star_one hs]; rfl)
  rw [star_one hs]
  refine Calls.spliced_cons (wout (he.v X p _ q) fun v u c r q l => Calls.spliced_nil ?_)
  refine kws_cons (load_builtin K (p.to l) hi' (K.noBuiltin "abs" (by simp)) boot_abs (by decide) (kws_nil ?_))
  induction q with
  | @mk i es eo h64 q =>
  refine Cf.dictE r eo fun d kvs hc hd dk kr ll => ?_
  obtain ⟨ep, dat⟩ := dk.dictAt
  have hkl : kvs.length = es.length := kr.length
  have hke := kr.keys
  have hnl : (es.map (·.1)).length = es.length := List.length_map ..
  refine sorted_go (c₀ := c) (c := c) (b := false) (f := .builtin "abs") (src := .ref d.a) (kw := [(Str.ofString "key", .builtin "abs")]) (G := []) (PV := fun vs => IntsAre vs (es.map (·.1))) (K := AbsK c.hm (es.map (·.1)))
    (ksk_s1 _ _) (fun _ => ksk_l1 _ _) (fun x => ksk_t4 "abs" x) (fun Qc E' hq => ?_) (fun vs pv => abs_step pv) (fun vs pv => by rw [pv.length, hnl]; exact h64) .refl (fun p hp => absurd hp List.not_mem_nil) ⟨rfl, rfl⟩ fun D vs s pv h => ?_
  · refine kdu_collect (kdl_dict (prog := W.prog) (w := W.w) (knd := intKind W.prog W.w) (kvs := kvs) (ep := ep) (Cf.notMods K hc)) p.g.room.handled dat (by rw [hkl]; exact line_of ll) fun h' tk acc up hacc => hq h' tk acc.toList ?_ up
    refine ints_of (by rw [Array.length_toList, hacc.1, hkl, hnl]) fun j v hj => ?_
    rw [Array.getElem?_toList] at hj
    obtain ⟨k, y, g1, g2⟩ := hacc.2 j v hj
    exact ⟨k, by rw [← hke, List.getElem?_map, g1]; rfl, Value.isInt_shape g2⟩
  · have pvl := pv.length
    refine Out.trans l (sorted_out h (by rw [pvl, hnl]; exact ll) fun ks c2 out hl hK L ko => ?_)
    obtain ⟨ps, h1, h2, h3⟩ := key_out (rel_ints pv) hl ko
    obtain ⟨ys, e1, e2, e3⟩ := abs_out (by rw [hK.2, List.take_of_length_le (by rw [hl, pvl]; exact Nat.le_refl _)]) h1 (h2.imp fun h => h)
    exact ⟨_, e1 ▸ h3, hK.1 ▸ q ys e2 e3⟩
end
end Mini
end
section
set_option maxHeartbeats 2000000
namespace Mini
open PySem PySem.W PyProof.Rows PySem.SeqAt
section
variable {W : Wd} {k : Ck} {pos : Pos} {e o : Expr} {me mo : ME}
theorem bound_ok (K : WdOk W) {c : Cf W} {A : Around} {n f : Nat} {x : MV} {v : Value} {nm : Str} {b : Bool} {P : Value → Shared → Prop} (e : Kind W.P c.hm n x (.inst f)) (hn : isStrs W n nm) (hv : c.V x v) (h : P (.ref c.h.objs.size) { c.s with heap := c.h.push (methodObj (.ref (W.faddr f)) v), toks := c.s.toks + 1 }) : wpAny W.M A (getAttr v nm b) P noE c.s := by
  cases e with
  | @inst i as _ p e =>
  refine Cf.instE hv p (P := fun v => P (.ref c.h.objs.size) { c.s with heap := c.h.push (methodObj (.ref (W.faddr f)) v), toks := c.s.toks + 1 } → wpAny W.M A (getAttr v nm b) P noE c.s) (fun d ds j hc _ I gd r _ al h => ?_) h
  obtain ⟨hf, ht, hat, _, g1, g2, g3⟩ := K.meths _ _ _ e hn
  have hz := r.find (fit_str K.nodup hn)
  have hcd := K.has
  unfold hasDictIn at hcd
  obtain ⟨cd, hcd, hh⟩ := any_some hcd
  have hfo : findObj W.K W.C (some (dictOf ds j)) nm = some (.bind (.builtin "function.__get__") (.ref (W.faddr f))) := by
    unfold findObj PySem.W.ownOf lookIn
    rw [hcd, hf]
    simp only [Option.bind_some, hh, if_true, g1, g2, hz.2.1 (kget_none al hat), g3, Bool.false_and, Bool.false_eq_true, if_false, hz.2.2]
  refine get_bind (c.X K) I K.hga hfo K.hgt (wpAny_call (fn_get (c.X K) ht ?_))
  show wpAny _ A (handedOut _) _ _ _
  rw [handedOut_of rfl]
  exact wpAny_pure h
noncomputable def RevK (X : Lx W) (Q : KV) (f : Nat) (u : MV) (xs : List MV) (ks : List Int) (h : MHeap) : Prop :=
  keysL X.call f u (xs.drop ks.length) (fun ks' h => ∀ ps : List (Int × MV), ps.Perm ((ks ++ ks').zip xs) → ps.Pairwise (fun a b => b.1 ≤ a.1) → Q (.ref h.next) (h.new (.list (ps.map (·.2))))) h
theorem rev_step {X : Lx W} {A : Around} {c c₀ : Cf W} {Q : KV} {f : Nat} {u : MV} {ov : Value} {xs : List MV} {vs : List Value} {gm : Addr} (hA : A.handled = none ∧ A.depth + 4 * X.d + 2 ≤ 900 ∧ A.units + 40 * X.d + 20 ≤ 9000) (L0 : Later [] c₀ c) (hu : c₀.V u ov) (hr : c₀.Vs xs vs) : KeyStep W A c [(gm, methodObj (.ref (W.faddr f)) ov)] (.ref gm) vs (RevK X Q f u xs) := fun ks x c' hx L g q => by
  obtain ⟨l, e⟩ := List.getElem?_eq_some_iff.mp hx
  have l' : ks.length < xs.length := by rw [← hr.length]; exact l
  obtain ⟨w, hw, hxr⟩ := hr.get (List.getElem?_eq_getElem l')
  rw [hx] at hw
  obtain rfl := Option.some.inj hw
  have LL := L0.trans L
  unfold RevK at q
  rw [(drop_at (List.getElem?_eq_getElem l')).1] at q
  have q : X.call f [u, xs[ks.length]] _ c'.hm := q
  refine wpAny_call (PySem.W.method_call (g _ (.head _)).2.1 ?_)
  refine codeAny_mono (X.ok f A [u, xs[ks.length]] [ov, x] _ c' hA.1 hA.2.1 hA.2.2 (.cons (hu.later LL) (.cons (VRel.stay LL.stay hxr) .nil)) q) fun r s'' h => ?_
  rcases r with e | (_ | _ | _ | v) <;> first | exact h.elim | skip
  have h : Out c' Cf.V _ v s'' := h
  induction h with
  | mk r q l3 =>
  induction q with
  | @mk i ei q =>
  refine Out.mk r ⟨i, ei, ?_⟩ l3
  unfold RevK
  rw [List.length_append, List.length_singleton]
  have z : ∀ ks' : List Int, ks ++ [i] ++ ks' = ks ++ i :: ks' := fun ks' => List.append_assoc ..
  simp only [z]
  exact q
theorem room2 {X : Lx W} {p : Pt W k X.d} : p.G.A.in1.in1.handled = none ∧ p.G.A.in1.in1.depth + 4 * X.d + 2 ≤ 900 ∧ p.G.A.in1.in1.units + 40 * X.d + 20 ≤ 9000 :=
  ⟨p.g.room.handled, by have := p.g.room.depth; simp; omega, by have := p.g.room.units; simp; omega⟩
theorem se_sortKeyRev {n : Nat} {nm : Str} {np ap rp : Pos} {q q' : Pos} {kk : Nat} (he : SE W k me e) (ho : SE W k mo o) (hi : isGl k "sorted" = true) (hs : notStar e = true) (hb : notSuper o = true) (hn : isStrs W n nm) :
    SE W k (.sortKeyRev me mo n) (.Call (.Name "sorted" np) [e] [⟨some "key", .Attribute o nm ap, q⟩, ⟨some "reverse", .Constant (.bool true) kk rp, q'⟩] pos) := .of (fun _ _ _ _ q => q) (fun _ => rfl) fun X p Q q => by
  have K := X.K
  rw [arm_eval_Call_Name']
  refine wpAny_bind (load_builtin K p hi (K.noBuiltin "sorted" (by simp)) boot_sorted (by decide) ?_)
  refine callWith_kw (e := e) (rest := []) ?_ (by rw [star_one hs]; rfl) (by rw [star_one hs]; rfl)
  rw [star_one hs]
  refine Calls.spliced_cons (wout (he.v X p _ q) fun v u c r q l => Calls.spliced_nil ?_)
  refine kws_cons ?_
  rw [arm_eval_Attribute, notSuper_base hb]
  refine wpAny_bind (wout (ho.v X (p.to l) _ q) fun om ov c2 r2 q2 l2 => ?_)
  have r := r.later l2
  clear q
  induction q2 with
  | @mk i f xs om eo kd h64 q =>
  refine atP (wpAny_bind (wpAny_holding (bound_ok K kd hn r2 (wpAny_bind (wpAny_letTemporaryGo (wpAny_pure ?_))))))
  refine kws_cons ?_
  show wpAny W.M p.G.A (pure (Value.bool true)) _ _ _
  refine wpAny_pure (kws_nil ?_)
  refine Cf.listE r eo fun d its nn hc _ g lr ll hz => ?_
  have up : Ext c2.h (c2.h.push (methodObj (.ref (W.faddr f)) ov)) := .push _ _
  have L3 : Later [] c2 (c2.grow (c2.s.toks + 1) up) := later_grow up
  refine sorted_go (c₀ := c2) (c := c2.grow (c2.s.toks + 1) up) (b := true) (f := .ref c2.h.objs.size) (src := .ref d.a) (kw := [(Str.ofString "key", .ref c2.h.objs.size), (Str.ofString "reverse", .bool true)]) (G := [(c2.h.objs.size, methodObj (.ref (W.faddr f)) ov)]) (PV := fun vs => vs = its.toList) (K := RevK X Q f om xs)
    (ksk_s2 _ _ _) (fun _ => ksk_l2 _ _ _) (fun x => ksk_t2 _ x true) (fun Qc E' hq => ?_) (fun vs pv => rev_step (c₀ := c2) room2 .refl r2 (pv ▸ lr)) (fun vs pv => by rw [pv, Array.length_toList, hz]; exact h64) L3 (fun p hp => ?_) q fun D vs s pv h => ?_
  · refine collect_list (vs := its.toList) (by rw [Array.toArray_toList]; exact (show IsL _ _ _ _ from up _ _ g).isList) (hq _ _ _ rfl fun x o e => ?_) (line_of (by rw [Array.length_toList, hz]; exact ll))
    have hlt := Heap.lt_size e
    rw [Heap.get?_update_ne _ _ _ _ (Nat.ne_of_lt hlt), Heap.get?_push_ne _ _ _ (Nat.ne_of_lt hlt)]
    exact e
  · rw [List.mem_singleton.mp hp]
    exact ⟨⟨not_own (c := c2) (above_size _ (Nat.le_refl _)), above_size _ (Nat.le_refl _)⟩, Heap.get?_push_size _ rfl, nf_c rfl⟩
  · refine Out.trans (l.trans l2) (sorted_out h (by rw [pv, Array.length_toList, hz]; exact ll) fun ks c3 out hl hK L ko => ?_)
    rw [pv] at hl ko
    obtain ⟨ps, h1, h2, h3⟩ := key_out (VRels.stay L.stay lr) hl ko
    unfold RevK at hK
    rw [drop_end (hl.trans lr.length)] at hK
    have hK : ∀ ps : List (Int × MV), ps.Perm ((ks ++ []).zip xs) → ps.Pairwise (fun a b => b.1 ≤ a.1) → Q (.ref c3.hm.next) (c3.hm.new (.list (ps.map (·.2)))) := hK
    rw [List.append_nil] at hK
    exact ⟨_, h3, hK ps h1 (h2.imp fun h => h)⟩
end
end Mini
end
section
namespace Mini
open PySem PySem.W
inductive Dec (p : Prop) : Type
  | no
  | yes (h : p)
noncomputable def Dec.isYes {p : Prop} : Dec p → Bool
  | .no => false
  | .yes _ => true
theorem Dec.get {p : Prop} {d : Dec p} (h : d.isYes = true) : p := by
  rcases d with _ | q
  · exact ff h
  · exact q
section
variable {p q : Prop}
noncomputable def Dec.bind (d : Dec p) (f : p → Dec q) : Dec q := match d with
  | .no => .no
  | .yes h => f h
noncomputable def need (b : Bool) (f : b = true → Dec p) : Dec p := if h : b = true then f h else .no
noncomputable def deq {α : Type} [DecidableEq α] (a b : α) (f : a = b → Dec p) : Dec p := if h : a = b then f h else .no
variable {P : Expr → Prop} {e : Expr}
noncomputable def dBool (f : ∀ op vs pos, Dec (P (.BoolOp op vs pos))) : Dec (P e) := if h : e.ctorIdx = 0 then Expr.BoolOp.elim (motive_1 := fun e => Dec (P e)) e h f else .no
noncomputable def dBin (f : ∀ l o r pos, Dec (P (.BinOp l o r pos))) : Dec (P e) := if h : e.ctorIdx = 2 then Expr.BinOp.elim (motive_1 := fun e => Dec (P e)) e h f else .no
noncomputable def dUn (f : ∀ o x pos, Dec (P (.UnaryOp o x pos))) : Dec (P e) := if h : e.ctorIdx = 3 then Expr.UnaryOp.elim (motive_1 := fun e => Dec (P e)) e h f else .no
noncomputable def dIf (f : ∀ c a b pos, Dec (P (.IfExp c a b pos))) : Dec (P e) := if h : e.ctorIdx = 5 then Expr.IfExp.elim (motive_1 := fun e => Dec (P e)) e h f else .no
noncomputable def dDict (f : ∀ ks vs pos, Dec (P (.Dict ks vs pos))) : Dec (P e) := if h : e.ctorIdx = 6 then Expr.Dict.elim (motive_1 := fun e => Dec (P e)) e h f else .no
noncomputable def dLC (f : ∀ x gs sc pos, Dec (P (.ListComp x gs sc pos))) : Dec (P e) := if h : e.ctorIdx = 8 then Expr.ListComp.elim (motive_1 := fun e => Dec (P e)) e h f else .no
noncomputable def dDC (f : ∀ x y gs sc pos, Dec (P (.DictComp x y gs sc pos))) : Dec (P e) := if h : e.ctorIdx = 10 then Expr.DictComp.elim (motive_1 := fun e => Dec (P e)) e h f else .no
noncomputable def dCmp (f : ∀ l os rs pos, Dec (P (.Compare l os rs pos))) : Dec (P e) := if h : e.ctorIdx = 15 then Expr.Compare.elim (motive_1 := fun e => Dec (P e)) e h f else .no
noncomputable def dCall (f : ∀ g as ks pos, Dec (P (.Call g as ks pos))) : Dec (P e) := if h : e.ctorIdx = 16 then Expr.Call.elim (motive_1 := fun e => Dec (P e)) e h f else .no
noncomputable def dConst (f : ∀ c k pos, Dec (P (.Constant c k pos))) : Dec (P e) := if h : e.ctorIdx = 19 then Expr.Constant.elim (motive_1 := fun e => Dec (P e)) e h f else .no
noncomputable def dAttr (f : ∀ b n pos, Dec (P (.Attribute b n pos))) : Dec (P e) := if h : e.ctorIdx = 20 then Expr.Attribute.elim (motive_1 := fun e => Dec (P e)) e h f else .no
noncomputable def dSub (f : ∀ o i pos, Dec (P (.Subscript o i pos))) : Dec (P e) := if h : e.ctorIdx = 21 then Expr.Subscript.elim (motive_1 := fun e => Dec (P e)) e h f else .no
noncomputable def dNm (f : ∀ id pos, Dec (P (.Name id pos))) : Dec (P e) := if h : e.ctorIdx = 23 then Expr.Name.elim (motive_1 := fun e => Dec (P e)) e h f else .no
noncomputable def dList (f : ∀ xs pos, Dec (P (.List xs pos))) : Dec (P e) := if h : e.ctorIdx = 24 then Expr.List.elim (motive_1 := fun e => Dec (P e)) e h f else .no
noncomputable def dTuple (f : ∀ xs k pos, Dec (P (.Tuple xs k pos))) : Dec (P e) := if h : e.ctorIdx = 25 then Expr.Tuple.elim (motive_1 := fun e => Dec (P e)) e h f else .no
noncomputable def dSlice (f : ∀ a b c pos, Dec (P (.Slice a b c pos))) : Dec (P e) := if h : e.ctorIdx = 26 then Expr.Slice.elim (motive_1 := fun e => Dec (P e)) e h f else .no
variable {C : Const → Prop} {c : Const}
noncomputable def cNone (f : Dec (C .none)) : Dec (C c) := if h : c.ctorIdx = 0 then Const.none.elim (motive := fun e => Dec (C e)) c h f else .no
noncomputable def cBool (f : ∀ b, Dec (C (.bool b))) : Dec (C c) := if h : c.ctorIdx = 1 then Const.bool.elim (motive := fun e => Dec (C e)) c h f else .no
noncomputable def cInt (f : ∀ b, Dec (C (.int b))) : Dec (C c) := if h : c.ctorIdx = 2 then Const.int.elim (motive := fun e => Dec (C e)) c h f else .no
noncomputable def cStr (f : ∀ b, Dec (C (.str b))) : Dec (C c) := if h : c.ctorIdx = 5 then Const.str.elim (motive := fun e => Dec (C e)) c h f else .no
variable {α : Type} {L : List α → Prop} {l : List α} {O : Option α → Prop} {o : Option α}
noncomputable def dNil (f : Dec (L [])) : Dec (L l) := if h : l.ctorIdx = 0 then List.nil.elim (motive := fun e => Dec (L e)) l h f else .no
noncomputable def dCons (f : ∀ a r, Dec (L (a :: r))) : Dec (L l) := if h : l.ctorIdx = 1 then List.cons.elim (motive := fun e => Dec (L e)) l h f else .no
noncomputable def dOne (f : ∀ a, Dec (L [a])) : Dec (L l) := dCons fun a r => dNil (L := fun r => L (a :: r)) (f a)
noncomputable def dNo (f : Dec (O none)) : Dec (O o) := if h : o.ctorIdx = 0 then Option.none.elim (motive := fun e => Dec (O e)) o h f else .no
noncomputable def dSome (f : ∀ a, Dec (O (some a))) : Dec (O o) := if h : o.ctorIdx = 1 then Option.some.elim (motive := fun e => Dec (O e)) o h f else .no
end
section
variable (W : Wd)
mutual
noncomputable def trE : (m : ME) → (k : Ck) → (e : Expr) → Dec (SE W k m e)
  | .none, k, e => dConst fun c kk pos => cNone (C := fun c => SE W k _ (.Constant c kk pos)) (.yes se_none)
  | .bool b, k, e => dConst fun c kk pos => cBool (C := fun c => SE W k _ (.Constant c kk pos)) fun b' => deq b b' fun h => .yes (h ▸ se_bool)
  | .int i, k, e => dConst fun c kk pos => cInt (C := fun c => SE W k _ (.Constant c kk pos)) fun j => deq i j fun h => .yes (h ▸ se_int)
  | .str s, k, e => dConst fun c kk pos => cStr (C := fun c => SE W k _ (.Constant c kk pos)) fun x => deq W.T.strTab[s]? (some x) fun h => .yes (se_str h)
  | .var x, k, e => dNm fun id pos => need (isVar k id x) fun h => .yes (se_var h)
  | .glob i, k, e => dNm fun id pos => need (isGl k id) fun h => deq (W.T.globTab.lookup id) (some i) fun h' => .yes (se_glob h h')
  | .attr o a, k, e => dAttr fun b n pos => need (notSuper b) fun h => deq W.T.strTab[a]? (some n) fun hn => need (W.T.attrTab.contains a) fun ha => (trE o k b).bind fun ho => .yes (se_attr ho h (List.contains_iff_mem.mp ha) hn)
  | .bin op l r, k, e => dBin fun l' o r' pos => deq o (bOp op) fun h => (trE l k l').bind fun hl => (trE r k r').bind fun hr => .yes (h ▸ se_bin hl hr)
  | .neg x, k, e => dUn fun o y pos => deq o .USub fun h => (trE x k y).bind fun hx => .yes (h ▸ se_neg hx)
  | .not x, k, e => dUn fun o y pos => deq o .Not fun h => (trE x k y).bind fun hx => .yes (h ▸ se_not hx)
  | .cmp op l r, k, e => dCmp fun l' os rs pos => dOne (L := fun os => SE W k _ (.Compare l' os rs pos)) fun o => dOne (L := fun rs => SE W k _ (.Compare l' [o] rs pos)) fun r' =>
      deq o (cOp op) fun h => need (notSetE r') fun hs => (trE l k l').bind fun hl => (trE r k r').bind fun hr => .yes (h ▸ se_cmp hl hr hs)
  | .and es, k, e => dBool fun op vs pos => deq op .And fun h => (trL es k vs).bind fun hs => .yes (h ▸ se_and hs)
  | .or es, k, e => dBool fun op vs pos => deq op .Or fun h => (trL es k vs).bind fun hs => .yes (h ▸ se_or hs)
  | .ite t a b, k, e => dIf fun t' a' b' pos => (trE t k t').bind fun ht => (trE a k a').bind fun ha => (trE b k b').bind fun hb => .yes (se_ite ht ha hb)
  | .sub o i, k, e => dSub fun o' i' pos => need (notSlice i') fun h => (trE o k o').bind fun ho => (trE i k i').bind fun hi => .yes (se_sub ho hi h)
  | .sliceTo o i, k, e => dSub fun o' s pos => dSlice (P := fun s => SE W k _ (.Subscript o' s pos)) fun a b c pp => dNo (O := fun a => SE W k _ (.Subscript o' (.Slice a b c pp) pos)) (dSome (O := fun b => SE W k _ (.Subscript o' (.Slice none b c pp) pos)) fun i' => dNo (O := fun c => SE W k _ (.Subscript o' (.Slice none (some i') c pp) pos))
      ((trE o k o').bind fun ho => (trE i k i').bind fun hi => .yes (se_sliceTo ho hi)))
  | .sliceFrom o i, k, e => dSub fun o' s pos => dSlice (P := fun s => SE W k _ (.Subscript o' s pos)) fun a b c pp => dSome (O := fun a => SE W k _ (.Subscript o' (.Slice a b c pp) pos)) fun i' => dNo (O := fun b => SE W k _ (.Subscript o' (.Slice (some i') b c pp) pos)) (dNo (O := fun c => SE W k _ (.Subscript o' (.Slice (some i') none c pp) pos))
      ((trE o k o').bind fun ho => (trE i k i').bind fun hi => .yes (se_sliceFrom ho hi)))
  | .slice o i j, k, e => dSub fun o' s pos => dSlice (P := fun s => SE W k _ (.Subscript o' s pos)) fun a b c pp => dSome (O := fun a => SE W k _ (.Subscript o' (.Slice a b c pp) pos)) fun i' => dSome (O := fun b => SE W k _ (.Subscript o' (.Slice (some i') b c pp) pos)) fun j' => dNo (O := fun c => SE W k _ (.Subscript o' (.Slice (some i') (some j') c pp) pos))
      ((trE o k o').bind fun ho => (trE i k i').bind fun hi => (trE j k j').bind fun hj => .yes (se_slice ho hi hj))
  | .list es, k, e => dList fun xs pos => (trL es k xs).bind fun hs => .yes (se_list hs)
  | .tup es, k, e => dTuple fun xs kk pos => (trL es k xs).bind fun hs => .yes (se_tup hs)
  | .dict0, k, e => dDict fun ks vs pos => dNil (L := fun ks => SE W k _ (.Dict ks vs pos)) (dNil (L := fun vs => SE W k _ (.Dict [] vs pos)) (.yes se_dict0))
  | .dict2 n m n' m', k, e => dDict fun ks vs pos => dCons (L := fun ks => SE W k _ (.Dict ks vs pos)) fun k1 ks => dOne (L := fun ks => SE W k _ (.Dict (k1 :: ks) vs pos)) fun k2 => dCons (L := fun vs => SE W k _ (.Dict [k1, k2] vs pos)) fun v1 vs => dOne (L := fun vs => SE W k _ (.Dict [k1, k2] (v1 :: vs) pos)) fun v2 =>
      dSome (O := fun k1 => SE W k _ (.Dict [k1, k2] [v1, v2] pos)) fun e1 => dSome (O := fun k2 => SE W k _ (.Dict [some e1, k2] [v1, v2] pos)) fun e2 =>
      dConst (P := fun e1 => SE W k _ (.Dict [some e1, some e2] [v1, v2] pos)) fun c1 q1 p1 => dConst (P := fun e2 => SE W k _ (.Dict [some (.Constant c1 q1 p1), some e2] [v1, v2] pos)) fun c2 q2 p2 =>
      cStr (C := fun c1 => SE W k _ (.Dict [some (.Constant c1 q1 p1), some (.Constant c2 q2 p2)] [v1, v2] pos)) fun x1 => cStr (C := fun c2 => SE W k _ (.Dict [some (.Constant (.str x1) q1 p1), some (.Constant c2 q2 p2)] [v1, v2] pos)) fun x2 =>
      deq W.T.strTab[n]? (some x1) fun h1 => deq W.T.strTab[n']? (some x2) fun h2 => need (n != n') fun hn => (trE m k v1).bind fun hm => (trE m' k v2).bind fun hm' => .yes (se_dict2 hm hm' h1 h2 (bne_iff_ne.mp hn))
  | .callF f es, k, e => dCall fun g as ks pos => dNm (P := fun g => SE W k _ (.Call g as ks pos)) fun id np => dNil (L := fun ks => SE W k _ (.Call (.Name id np) as ks pos)) (need (isGl k id) fun hi => deq W.T.fnTab[f]? (some id) fun hf => (trL es k as).bind fun hs => .yes (se_callF hs hi hf))
  | .callM o m es, k, e => dCall fun g as ks pos => dAttr (P := fun g => SE W k _ (.Call g as ks pos)) fun b n ap => dNil (L := fun ks => SE W k _ (.Call (.Attribute b n ap) as ks pos)) (need (notSuper b) fun hb => deq W.T.strTab[m]? (some n) fun hn => need (ap.endLine == pos.line) fun hl => need (decide (as.length < 29)) fun hk =>
      (trE o k b).bind fun ho => (trL es k as).bind fun hs => .yes (se_callM ho hs hb hn hl (of_decide_eq_true hk)))
  | .callB b es, k, e => dCall fun g as ks pos => dNm (P := fun g => SE W k _ (.Call g as ks pos)) fun id np => dNil (L := fun ks => SE W k _ (.Call (.Name id np) as ks pos)) (deq id (bName b) fun h => need (isGl k (bName b)) fun hi => (trL es k as).bind fun hs => .yes (h ▸ se_callB hs hi))
  | .new es, k, e => dCall fun g as ks pos => dNm (P := fun g => SE W k _ (.Call g as ks pos)) fun id np => dNil (L := fun ks => SE W k _ (.Call (.Name id np) as ks pos)) (need (isGl k id) fun hi => deq id W.T.cname fun h => (trL es k as).bind fun hs => .yes (se_new hs hi h))
  | .comp elt x it cond, k, e => dLC fun e' gs sc pos => dOne (L := fun gs => SE W k _ (.ListComp e' gs sc pos)) fun g => Comprehension.casesOn (motive_3 := fun g => Dec (SE W k _ (.ListComp e' [g] sc pos))) g fun t it' ifs a =>
      dNm (P := fun t => SE W k _ (.ListComp e' [⟨t, it', ifs, a⟩] sc pos)) fun y py => deq a 0 fun ha => need (compOk k sc y x) fun hc => need (notSetE it') fun hs => (trE it k it').bind fun hi => (trE elt (k.inner sc y x) e').bind fun he => (trL cond (k.inner sc y x) ifs).bind fun hl => .yes (ha ▸ se_comp (compOk_of hc) hi he hl hs)
  | .dcomp ke ve x it, k, e => dDC fun k' e' gs sc pos => dOne (L := fun gs => SE W k _ (.DictComp k' e' gs sc pos)) fun g => Comprehension.casesOn (motive_3 := fun g => Dec (SE W k _ (.DictComp k' e' [g] sc pos))) g fun t it' ifs a =>
      dNm (P := fun t => SE W k _ (.DictComp k' e' [⟨t, it', ifs, a⟩] sc pos)) fun y py => dNil (L := fun ifs => SE W k _ (.DictComp k' e' [⟨.Name y py, it', ifs, a⟩] sc pos)) (deq a 0 fun ha => need (compOk k sc y x) fun hc => need (notSetE it') fun hs => (trE it k it').bind fun hi => (trE ke (k.inner sc y x) k').bind fun hk => (trE ve (k.inner sc y x) e').bind fun he => .yes (ha ▸ se_dcomp (compOk_of hc) hi hk he hs))
  | .sortAbs x, k, e => dCall fun g as ks pos => dNm (P := fun g => SE W k _ (.Call g as ks pos)) fun id np => dOne (L := fun as => SE W k _ (.Call (.Name id np) as ks pos)) fun a => dOne (L := fun ks => SE W k _ (.Call (.Name id np) [a] ks pos)) fun kw => Keyword.casesOn (motive_7 := fun kw => Dec (SE W k _ (.Call (.Name id np) [a] [kw] pos))) kw fun key v q =>
      dNm (P := fun v => SE W k _ (.Call (.Name id np) [a] [⟨key, v, q⟩] pos)) fun ab kp => deq id "sorted" fun h1 => deq key (some "key") fun h2 => deq ab "abs" fun h3 => need (isGl k "sorted") fun g1 => need (isGl k "abs") fun g2 => need (notStar a) fun hs => (trE x k a).bind fun hx => .yes (h1 ▸ h2 ▸ h3 ▸ se_sortAbs hx g1 g2 hs)
  | .sortKeyRev x o n, k, e => dCall fun g as ks pos => dNm (P := fun g => SE W k _ (.Call g as ks pos)) fun id np => dOne (L := fun as => SE W k _ (.Call (.Name id np) as ks pos)) fun a => dCons (L := fun ks => SE W k _ (.Call (.Name id np) [a] ks pos)) fun kw ks => dOne (L := fun ks => SE W k _ (.Call (.Name id np) [a] (kw :: ks) pos)) fun kw' =>
      Keyword.casesOn (motive_7 := fun kw => Dec (SE W k _ (.Call (.Name id np) [a] [kw, kw'] pos))) kw fun key v q => Keyword.casesOn (motive_7 := fun kw' => Dec (SE W k _ (.Call (.Name id np) [a] [⟨key, v, q⟩, kw'] pos))) kw' fun key' v' q' =>
      dAttr (P := fun v => SE W k _ (.Call (.Name id np) [a] [⟨key, v, q⟩, ⟨key', v', q'⟩] pos)) fun b nm ap => dConst (P := fun v' => SE W k _ (.Call (.Name id np) [a] [⟨key, .Attribute b nm ap, q⟩, ⟨key', v', q'⟩] pos)) fun c kk rp => cBool (C := fun c => SE W k _ (.Call (.Name id np) [a] [⟨key, .Attribute b nm ap, q⟩, ⟨key', .Constant c kk rp, q'⟩] pos)) fun bb =>
      deq id "sorted" fun h1 => deq key (some "key") fun h2 => deq key' (some "reverse") fun h3 => deq bb true fun h4 => need (isGl k "sorted") fun g1 => need (notStar a) fun hs => need (notSuper b) fun hb => deq W.T.strTab[n]? (some nm) fun hn => (trE x k a).bind fun hx => (trE o k b).bind fun ho => .yes (h1 ▸ h2 ▸ h3 ▸ h4 ▸ se_sortKeyRev hx ho g1 hs hb hn)
noncomputable def trL : (ms : MEs) → (k : Ck) → (es : List Expr) → Dec (SLs W k ms es)
  | .nil, k, es => dNil (.yes sl_nil)
  | .cons m ms, k, es => dCons fun e r => need (notStar e) fun hn => (trE m k e).bind fun he => (trL ms k r).bind fun hr => .yes (sl_cons he hr hn)
end
end
end Mini
end
section
namespace Mini
open PySem PySem.W PyProof.Rows PySem.SeqAt
inductive FlRel {W : Wd} (c : Cf W) : MFlow → Flow → Prop
  | next : FlRel c .next .next
  | brk : FlRel c .brk .brk
  | cont : FlRel c .cont .cont
  | ret {m : MV} {v : Value} (r : c.V m v) : FlRel c (.ret m) (.ret v)
section
variable {W : Wd} {k : Ck} {d : Nat}
inductive OutS (p : Pt W k d) (Q : KF) : Flow → Shared → Prop
  | mk {mf : MFlow} {fl : Flow} {vars : Vars} {c : Cf W} (r : FlRel c mf fl) (q : Q mf vars c.hm) (O : Fr p.G vars c) (l : Later p.G.mine p.c c) : OutS p Q fl c.s
inductive OutA (p : Pt W k d) (Q : Vars → HP) : Shared → Prop
  | mk {vars : Vars} {c : Cf W} (q : Q vars c.hm) (O : Fr p.G vars c) (l : Later p.G.mine p.c c) : OutA p Q c.s
noncomputable def Pt.go (p : Pt W k d) {vars : Vars} {c : Cf W} (O : Fr p.G vars c) : Pt W k d := ⟨p.G, vars, c, p.g, O⟩
variable {p : Pt W k d} {c : Cf W} {Q : KF}
theorem OutS.trans {vars : Vars} {O : Fr p.G vars c} {fl : Flow} {s : Shared} (L : Later p.G.mine p.c c) (h : OutS (p.go O) Q fl s) : OutS p Q fl s := by
  induction h with | mk r q O l => exact .mk r q O (L.trans l)
theorem OutA.trans {vars : Vars} {Q : Vars → HP} {O : Fr p.G vars c} {s : Shared} (L : Later p.G.mine p.c c) (h : OutA (p.go O) Q s) : OutA p Q s := by
  induction h with | mk q O l => exact .mk q O (L.trans l)
theorem OutA.next {s : Shared} (h : OutA p (fun ρ h => Q .next ρ h) s) : OutS p Q .next s := by
  induction h with | mk q O l => exact .mk .next q O l
theorem later_in {X : List Addr} {Z : Addr} {h' : Heap} {t : Nat} {z : Aside W.B c.ρ c.h Z} {k' : ExtX [Z] c.h h'} (hZ : Z ∈ X) (l : Lives h' Z) : Later X c (c.turn t z k') :=
  ⟨fun e => e, fun _ => .inl, fun b o e _ n => k' b o (fun q => n (by rw [List.mem_singleton.mp q]; exact hZ)) e, fun b o e f => (stay_turn z k').froz b o e f, fun b o e => by
    by_cases q : b ∈ [Z]
    · rw [List.mem_singleton.mp q]; induction l with | mk e _ => exact ⟨_, e⟩
    · exact ⟨o, k' b o q e⟩, rfl, rfl⟩
theorem set_cases {vars : Vars} {x i : Nat} {v w : MV} (e : Vars.set vars x v i = some w) : i = x ∧ v = w ∨ i ≠ x ∧ vars i = some w := by
  have e : (if i = x then some v else vars i) = some w := e
  by_cases q : i = x
  · rw [if_pos q] at e; exact .inl ⟨q, Option.some.inj e⟩
  · rw [if_neg q] at e; exact .inr ⟨q, e⟩
theorem mine_cell {G : Gx} {n : Str} {a : Addr} (kk : G.env.kindOf n = some .cell) (e : G.env.cells.lookup n = some a) : a ∈ G.mine := List.mem_cons_of_mem _ (List.mem_filterMap.mpr ⟨(n, a), mem_of_look e, by rw [kk]; exact e⟩)
theorem store_ok {nm : Str} {x : Nat} {v : MV} {u : Value} {Q : Vars → HP} {E : Value → Shared → Prop} (hx : k.vs.lookup nm = some x) (hk : k.kind nm = some .local ∨ k.kind nm = some .cell) (hv : p.c.V v u) (q : Q (Vars.set p.vars x v) p.c.hm) : wpAny W.M p.G.A (storeName p.G.env nm u) (fun _ => OutA p Q) E p.c.s := by
  rw [← p.g.vs] at hx
  rw [← p.g.kind] at hk
  have own := p.O.out
  have ne : ∀ {y i}, p.G.vs.lookup y = some i → i ≠ x → y ≠ nm := fun e n z => n (by rw [z, hx] at e; exact (Option.some.inj e).symm)
  induction p.O.store with
  | @mk m cm l cc hh =>
  rcases hk with hk | hk
  · refine wpAny_storeName_local hk l (fun h' n' sb => ?_) (by rw [p.g.fn]; rfl)
    have z : Aside W.B p.c.ρ p.c.h p.G.env.locals := ⟨own _ (.head _), p.g.base _ (.head _), ns_lives l⟩
    have st := stay_turn z (sb_x sb)
    refine OutA.mk (c := p.c.turn _ z (sb_x sb)) q ⟨.mk n' (fun n a e => cell_keep (cc n a e) (out_keep (sb_x sb) (p.g.apart n a e))) fun y i w e1 e2 => ?_, own⟩ (later_in (.head _) (ns_lives n'))
    rcases set_cases e2 with ⟨rfl, rfl⟩ | ⟨n, e2⟩
    · rw [p.g.inj y nm i e1 hx]
      exact .mk (hv.stay st) (.loc hk (if_pos rfl))
    · induction hh y i w e1 e2 with
      | mk r s =>
        refine .mk (r.stay st) ?_
        induction s with
        | loc kk e => exact .loc kk ((if_neg (ne e1 n)).trans e)
        | cell kk l e => exact .cell kk l e
  · obtain ⟨ca, hca⟩ := Option.isSome_iff_exists.mp (p.g.place nm x hx (.inl hk))
    refine wpAny_storeName_cell p.g.fn hk hca (cc _ _ hca) fun h' c' sb => ?_
    have z : Aside W.B p.c.ρ p.c.h ca := ⟨own _ (Gx.own_cell hca), p.g.base _ (mine_cell hk hca), cell_lives (cc _ _ hca)⟩
    have st := stay_turn z (sb_x sb)
    refine OutA.mk (c := p.c.turn p.c.s.toks z (sb_x sb)) q ⟨.mk (cm := fun n => if n = nm then some u else cm n) (ns_keep l (out_keep (sb_x sb) (p.g.apart nm ca hca).symm)) (fun n a e => ?_) fun y i w e1 e2 => ?_, own⟩ (later_in (mine_cell hk hca) (cell_lives c'))
    · by_cases q : n = nm
      · rw [q, hca] at e
        rw [if_pos q, ← Option.some.inj e]; exact c'
      · rw [if_neg q]
        exact cell_keep (cc n a e) (out_keep (sb_x sb) fun w => q (p.g.apartC n nm ca (w ▸ e) hca))
    · rcases set_cases e2 with ⟨rfl, rfl⟩ | ⟨n, e2⟩
      · rw [p.g.inj y nm i e1 hx]
        exact .mk (hv.stay st) (.cell (.inl hk) hca (if_pos rfl))
      · induction hh y i w e1 e2 with
        | mk r s =>
          refine .mk (r.stay st) ?_
          induction s with
          | loc kk e => exact .loc kk e
          | cell kk l e => exact .cell kk l ((if_neg (ne e1 n)).trans e)
end
noncomputable def stores (k : Ck) (id : Str) (x : Nat) : Bool := k.vs.lookup id == some x && (k.kind id == some .local || k.kind id == some .cell)
structure AE (W : Wd) (k : Ck) (t : MT) (tg : Expr) : Prop where
  v : ∀ (X : Lx W) (p : Pt W k X.d) (v : MV) (u : Value) (Q : Vars → HP), p.c.V v u → asg X.lg t v Q p.vars p.c.hm → wpAny W.M p.G.A (assign tg p.G.env u) (fun _ => OutA p Q) noE p.c.s
  sw : ∀ value env, swappedStores [tg] value env = pure none
  each : ∀ r env, assignEach (tg :: r) env = (false, assign tg env) :: assignEach r env
  nm : ∀ id pos, tg = .Name id pos → ∃ x, t = .var x ∧ stores k id x = true
  cl : ∀ e gs sc pos line env, swapsWithSole [tg] (.ListComp e gs sc pos) line env = pure false ∨ (∃ nm p, tg = .Name nm p) ∧ swapsWithSole [tg] (.ListComp e gs sc pos) line env = pure true
  cd : ∀ e f gs sc pos line env, swapsWithSole [tg] (.DictComp e f gs sc pos) line env = pure false ∨ (∃ nm p, tg = .Name nm p) ∧ swapsWithSole [tg] (.DictComp e f gs sc pos) line env = pure true
theorem stores_of {k : Ck} {id : Str} {x : Nat} (h : stores k id x = true) : k.vs.lookup id = some x ∧ (k.kind id = some .local ∨ k.kind id = some .cell) := ⟨eq_of_beq (t2 h).1, (bor (t2 h).2).imp (fun e => eq_of_beq e) fun e => eq_of_beq e⟩
section
variable {W : Wd} {k : Ck} {pos : Pos} {o i : Expr} {mo mi : ME}
theorem or_pure {b : Bool} {P : Prop} (h : P) : (pure b : Sem Bool) = pure false ∨ P ∧ (pure b : Sem Bool) = pure true := by
  rcases b with _ | _
  · exact .inl rfl
  · exact .inr ⟨h, rfl⟩
theorem ae_var {x : Nat} {id : Str} (h : stores k id x = true) : AE W k (.var x) (.Name id pos) := ⟨fun X p v u Q r q => wpAny_assign_Name (store_ok (stores_of h).1 (stores_of h).2 r q), fun _ _ => rfl, fun _ _ => rfl, fun id' pos' e => ⟨x, rfl, (Expr.Name.inj e).1 ▸ h⟩, fun _ _ _ _ _ _ => or_pure ⟨_, _, rfl⟩, fun _ _ _ _ _ _ _ => or_pure ⟨_, _, rfl⟩⟩
theorem arm_assign_attr (o : Expr) (attr : Str) (pos : Pos) (env : Env) (v : Value) : assign (.Attribute o attr pos) env v = (holding [v] (eval o env) >>= fun ov => standAt pos.atName >>= fun _ => holding [v, ov] (setAttr ov attr v) >>= fun _ => release [v, ov] []) := rfl
theorem arm_assign_sub (o i : Expr) (pos : Pos) (env : Env) (v : Value) : assign (.Subscript o i pos) env v = (holding [v] (eval o env) >>= fun ov => holding [v, ov] (eval i env) >>= fun iv => standAt pos >>= fun _ => holding [v, ov, iv] (setItem ov iv v) >>= fun _ =>
    release (match i with | .Slice _ _ none _ => [iv, v, ov] | _ => [v, ov, iv]) []) := rfl
theorem ae_attr {a : Nat} {n : Str} (ho : SE W k mo o) (ha : a ∈ W.T.attrTab) (hn : isStrs W a n) : AE W k (.attr mo a) (.Attribute o n pos) := ⟨fun X p v u Q r q => by
  rw [arm_assign_attr]
  refine wpAny_bind (wpAny_holding (wout (ho.v X p _ q) fun m ov c2 r2 q l2 => atP (wpAny_bind (wpAny_holding ?_))))
  induction q with
  | mk e q => exact wout (setA_ok X.K e ha hn r2 (r.later l2) q) fun _ _ c3 _ q l3 => wpAny_release (.mk q (p.O.later (l2.trans l3)) (l2.trans l3).up), fun _ _ => rfl, fun _ _ => rfl, fun _ _ e => Expr.noConfusion e, fun _ _ _ _ _ _ => .inl rfl, fun _ _ _ _ _ _ _ => .inl rfl⟩
theorem ae_sub (ho : SE W k mo o) (hi : SE W k mi i) : AE W k (.sub mo mi) (.Subscript o i pos) := ⟨fun X p v u Q r q => by
  rw [arm_assign_sub]
  refine wpAny_bind (wpAny_holding (wout (ho.v X p _ q) fun m ov c2 r2 q l2 => wpAny_bind (wpAny_holding (wout (hi.v X (p.to l2) _ q) fun n iv c3 r3 q l3 => atP (wpAny_bind (wpAny_holding ?_))))))
  have L := l2.trans l3
  induction q with
  | mk e q => exact wout (setI_ok X.K e (r2.later l3) r3 (r.later L) q) fun _ _ c4 _ q l4 => wpAny_release (.mk q (p.O.later (L.trans l4)) (L.trans l4).up), fun _ _ => rfl, fun _ _ => rfl, fun _ _ e => Expr.noConfusion e, fun _ _ _ _ _ _ => .inl rfl, fun _ _ _ _ _ _ _ => .inl rfl⟩
end
noncomputable def trT (W : Wd) (t : MT) (k : Ck) (e : Expr) : Dec (AE W k t e) := match t with
  | .var x => dNm fun id pos => need (stores k id x) fun h => .yes (ae_var h)
  | .attr o a => dAttr fun b n pos => deq W.T.strTab[a]? (some n) fun hn => need (W.T.attrTab.contains a) fun ha => (trE W o k b).bind fun ho => .yes (ae_attr ho (List.contains_iff_mem.mp ha) hn)
  | .sub o i => dSub fun o' i' pos => (trE W o k o').bind fun ho => (trE W i k i').bind fun hi => .yes (ae_sub ho hi)
end Mini
end
section
namespace Mini
open PySem PySem.W PyProof.Rows PySem.SeqAt
noncomputable def XE (W : Wd) (k : Ck) (m : MS) (st : Stmt) : Prop := ∀ (X : Lx W) (p : Pt W k X.d) (Q : KF), ex X.lg m Q p.vars p.c.hm → wpAny W.M p.G.A (exec st p.G.env) (OutS p Q) noE p.c.s
noncomputable def XEs (W : Wd) (k : Ck) (m : MSs) (st : List Stmt) : Prop := ∀ (X : Lx W) (p : Pt W k X.d) (Q : KF), exs X.lg m Q p.vars p.c.hm → wpAny W.M p.G.A (execs st p.G.env) (OutS p Q) noE p.c.s
noncomputable def notComp (e : Expr) : Bool := e.ctorIdx != 8 && (e.ctorIdx != 9 && e.ctorIdx != 10)
section
variable {W : Wd} {k : Ck} {pos : Pos} {e : Expr} {me : ME} {ma mb : MSs} {a b : List Stmt}
theorem outS_now {d : Nat} {p : Pt W k d} {Q : KF} {mf : MFlow} {fl : Flow} {c : Cf W} (r : FlRel c mf fl) (q : Q mf p.vars c.hm) (l : Later [] p.c c) : OutS p Q fl c.s := .mk r q (p.O.later l) l.up
theorem xe_expr (he : SE W k me e) (hn : notComp e = true) : XE W k (.expr me) (.Expr e pos) := fun X p Q q =>
  wpAny_Expr_any (wout (he.v X p _ q) fun m u c r q l => outS_now .next q l) (by unfold interactive; rw [p.g.fn]; rfl) (by
    rcases e with _ | _ | _ | _ | _ | _ | _ | _ | _ | _ | _ | _ | _ | _ | _ | _ | _ | _ | _ | _ | _ | _ | _ | _ | _ | _ | _ <;> first | exact rfl | exact ff hn)
theorem xe_ret (he : SE W k me e) : XE W k (.ret me) (.Return (some e) pos) := fun X p Q q => wpAny_Return_some (wout (he.v X p _ q) fun m u c r q l => outS_now (.ret r) q l)
theorem xe_retNone : XE W k .retNone (.Return none pos) := fun X p Q q => wpAny_Return_none (outS_now (.ret vnone) q .refl)
theorem xe_brk : XE W k .brk (.Break pos) := fun X p Q q => by rw [arm_exec_Break]; exact atP (wpAny_pure (outS_now .brk q .refl))
theorem xe_cont : XE W k .cont (.Continue pos) := fun X p Q q => by rw [arm_exec_Continue]; exact atP (wpAny_pure (outS_now .cont q .refl))
theorem xe_bad {st : Stmt} : XE W k .bad st := fun X p Q q => q.elim
theorem go_on {d : Nat} {p : Pt W k d} {c : Cf W} {vars : Vars} {Q : KF} {t : Sem Flow} (O : Fr p.G vars c) (L : Later p.G.mine p.c c) (h : wpAny W.M p.G.A t (OutS (p.go O) Q) noE c.s) : wpAny W.M p.G.A t (OutS p Q) noE c.s := wmono h fun _ _ => OutS.trans L
theorem xe_ite (he : SE W k me e) (ha : XEs W k ma a) (hb : XEs W k mb b) : XE W k (.ite me ma mb) (.If e a b pos) := fun X p Q q => by
  refine wpAny_If (wout (he.t X p _ q) fun m t c r q l => ?_)
  rw [show m = .bool t from r] at q
  rcases t with _ | _
  · exact go_on (p.O.later l) l.up (hb X (p.go (p.O.later l)) Q q.elim)
  · exact go_on (p.O.later l) l.up (ha X (p.go (p.O.later l)) Q q.elim)
inductive WhileI {d : Nat} (p : Pt W k d) (K : Nat → Vars → HP) (n : Nat) : Shared → Prop
  | mk {vars : Vars} {c : Cf W} (q : K n vars c.hm) (O : Fr p.G vars c) (l : Later p.G.mine p.c c) : WhileI p K n c.s
noncomputable def turnF (Q : KF) (K : Vars → HP) : KF := fun f ρ h => match f with
  | .next => K ρ h
  | .cont => K ρ h
  | .brk => Q .next ρ h
  | .ret w => Q (.ret w) ρ h
theorem xe_while (he : SE W k me e) (hb : XEs W k mb b) : XE W k (.while me mb) (.While e b [] pos) := fun X p Q q => by
  obtain ⟨n, q⟩ := q
  refine wpAny_While (codeAny_whileLoop (WhileI p fun n ρ h => whileN (fun ρ => ev X.lg me ρ true) (exs X.lg mb) n Q ρ h) (fun n s hI => ?_) n (.mk q p.O .refl))
  induction hI with
  | @mk vars c q O l =>
  rcases n with _ | n
  · exact q.elim
  refine wout' (he.t X (p.go O) _ q) fun m t c2 r q l2 => ?_
  rw [show m = .bool t from r] at q
  rcases t with _ | _
  · rw [if_neg Bool.false_ne_true]
    exact wpAny_execs_nil (.mk .next q.elim (O.later l2) (l.trans l2.up))
  · rw [if_pos rfl]
    refine wpAny_mono (hb X (p.go (O.later l2)) (turnF Q fun ρ h => whileN (fun ρ => ev X.lg me ρ true) (exs X.lg mb) n Q ρ h) q.elim) (fun fl s h => ?_) fun _ _ e => e.elim
    induction h with
    | mk r q O3 l3 =>
    have L := (l.trans l2.up).trans l3
    induction r with
    | next => exact ⟨n, Nat.lt_succ_self _, .mk q O3 L⟩
    | brk => exact .mk .next q O3 L
    | cont => exact ⟨n, Nat.lt_succ_self _, .mk q O3 L⟩
    | ret r => exact .mk (.ret r) q O3 L
end
end Mini
end
section
namespace Mini
open PySem PySem.W PyProof.Rows PySem.SeqAt
section
variable {W : Wd} {k : Ck} {pos np : Pos} {e : Expr} {me : ME} {mb : MSs} {b : List Stmt}
theorem Fr.turn {G : Gx} {vars : Vars} {c : Cf W} {Z : Addr} {h' : Heap} {t : Nat} {z : Aside W.B c.ρ c.h Z} {k : ExtX [Z] c.h h'} (O : Fr G vars c) (n : Z ∉ G.own) : Fr G vars (c.turn t z k) :=
  ⟨O.store.keep (stay_turn z k) fun a ha o e => out_keep k (fun q => n (q ▸ ha)) o e, O.out⟩
theorem mine_own {G : Gx} {a : Addr} (h : a ∈ G.mine) : a ∈ G.own := by
  rcases List.mem_cons.mp h with q | q
  · rw [q]; exact .head _
  · obtain ⟨p, hp, e⟩ := List.mem_filterMap.mp q
    by_cases z : (G.env.kindOf p.1 == some .cell) = true
    · rw [if_pos z] at e; exact Gx.own_cell e
    · rw [if_neg z] at e; exact ns e
theorem fresh_own {G : Gx} {vars : Vars} {c : Cf W} {a : Addr} (O : Fr G vars c) (n : Above c.h a) : a ∉ G.own := fun q => by
  induction O.store.lives a q with | mk g _ => exact n.no g
theorem notSet_fold {env : Env} (h : notSetE e = true) (v : Value) : foldedSetIterable e env v = pure v := by
  rcases e with _ | _ | _ | _ | _ | _ | _ | _ | _ | _ | _ | _ | _ | _ | _ | _ | _ | _ | _ | _ | _ | _ | _ | _ | _ | _ | _ <;> first | exact rfl | exact ff h
inductive ForI {d : Nat} (p : Pt W k d) (I : Addr) (v : MV) (xs : List MV) (K : Nat → Vars → HP) (n : Nat) : Shared → Prop
  | mk {vars : Vars} {c : Cf W} {j : Nat} (en : n = xs.length + 1 - j) (hj : j ≤ xs.length) (q : K j vars c.hm) (O : Fr p.G vars c) (l : Later p.G.mine p.c c) (out : I ∉ owned c.ρ) (it : IterOk W c.ρ c.h I j v) : ForI p I v xs K n c.s
theorem xe_for {x : Nat} {id : Str} (he : SE W k me e) (hb : XEs W k mb b) (hs : stores k id x = true) (hset : notSetE e = true) : XE W k (.for x me mb) (.For (.Name id np) e b [] pos) := fun X p Q q => by
  refine wpAny_For ?_ (notSet_fold hset)
  refine wout (he.v X p _ q) fun v u c₁ r q L => ?_
  induction q with
  | @mk xs e q =>
  refine iter_start e r fun oI lI it0 => ?_
  have O1 := p.O.later L
  have k2 : Ext c₁.h (c₁.h.push oI) := .push _ _
  have nI := fresh_own O1 (above_size c₁.h (Nat.le_refl _))
  have nM : c₁.h.objs.size ∉ p.G.mine := fun q => nI (mine_own q)
  have aI : Above p.c.h c₁.h.objs.size := (above_size c₁.h (Nat.le_refl _)).back L.alive
  have L2 : Later [] p.c (c₁.grow c₁.s.toks k2) := L.trans (later_grow k2)
  refine codeAny_forLoop (ForI p c₁.h.objs.size v xs fun j ρ h => forL (fun h => Items h v xs) (fun v Q ρ h => exs X.lg mb Q (Vars.set ρ x v) h) (xs.drop j) Q ρ h) (fun n s hI => ?_) (xs.length + 1) (.mk (c := c₁.grow c₁.s.toks k2) rfl (Nat.zero_le _) q (p.O.later L2) L2.up (not_own (c := c₁) (above_size _ (Nat.le_refl _))) it0)
  clear q e r it0 lI
  generalize c₁.h.objs.size = I at *
  induction hI with
  | @mk vars c j en hj q O l out it =>
  have ei : Items c.hm v xs := by
    rcases hd : xs.drop j with _ | ⟨z, r⟩ <;> rw [hd] at q <;> exact q.1
  have z : Aside W.B c.ρ c.h I := ⟨out, aI.back p.c.sim.base.alive, it.lives⟩
  refine iter_next ei it hj p.g.room.handled (fun hje h' k' => ?_) fun xv u h' t hx k' hu it' => ?_
  · rw [drop_end hje] at q
    exact wpAny_execs_nil (.mk (c := c.turn c.s.toks z k') .next q.2 (O.turn nI) (l.turn aI))
  · obtain ⟨ed, hlt⟩ := drop_at hx
    rw [ed] at q
    have O2 : Fr p.G vars (c.turn t z k') := O.turn nI
    have LT : Later p.G.mine p.c (c.turn t z k') := l.turn aI
    refine wpAny_assign_Name (wpAny_mono (store_ok (p := p.go O2) (Q := fun ρ h => ρ = Vars.set vars x xv ∧ h = c.hm) (E := noE) (stores_of hs).1 (stores_of hs).2 hu ⟨rfl, rfl⟩) (fun _ s h => ?_) fun _ _ e => e.elim)
    induction h with
    | @mk vars3 c3 q3 O3 l3 =>
    have q := q.2
    rw [← q3.2] at q
    have O3' := q3.1 ▸ O3
    have it3 := it'.keep l3.stay fun o e => l3.keep _ o e out nM
    have n3 := not_owned it'.lives out l3
    refine wpAny_mono (hb X (p.go O3') (turnF Q fun ρ h => forL (fun h => Items h v xs) (fun v Q ρ h => exs X.lg mb Q (Vars.set ρ x v) h) (xs.drop (j + 1)) Q ρ h) q) (fun fl s h => ?_) fun _ _ e => e.elim
    induction h with
    | @mk mf fl vars4 c4 r q O4 l4 =>
    have LL : Later p.G.mine p.c c4 := (LT.trans l3).trans l4
    have back : j < xs.length → forL (fun h => Items h v xs) (fun v Q ρ h => exs X.lg mb Q (Vars.set ρ x v) h) (xs.drop (j + 1)) Q vars4 c4.hm → ∃ m, m < n ∧ ForI p I v xs (fun j ρ h => forL (fun h => Items h v xs) (fun v Q ρ h => exs X.lg mb Q (Vars.set ρ x v) h) (xs.drop j) Q ρ h) m c4.s := fun hlt q =>
      ⟨xs.length + 1 - (j + 1), by omega, .mk rfl hlt q O4 LL (not_owned it3.lives n3 l4) (it3.keep l4.stay fun o e => l4.keep _ o e n3 nM)⟩
    induction r with
    | next => exact back hlt q
    | brk => exact .mk .next q O4 LL
    | cont => exact back hlt q
    | ret r => exact .mk (.ret r) q O4 LL
end
end Mini
end
section
namespace Mini
open PySem PySem.W PyProof.Rows PySem.SeqAt
section
variable {W : Wd} {k : Ck} {pos : Pos} {e tg : Expr} {me : ME} {t : MT}
theorem swaps_plain (h : notComp e = true) (tgs : List Expr) (line : Nat) (env : Env) : swapsWithSole tgs e line env = pure false := by
  rcases tgs with _ | ⟨a, _ | ⟨b, r⟩⟩
  · exact rfl
  · rcases e with _ | _ | _ | _ | _ | _ | _ | _ | _ | _ | _ | _ | _ | _ | _ | _ | _ | _ | _ | _ | _ | _ | _ | _ | _ | _ | _ <;> first | exact rfl | exact ff h
  · exact rfl
theorem assign_arm (a : Expr) (v : Expr) (pos : Pos) (env : Env) (h : swapsWithSole [a] v pos.line env = pure false) (M : Model) (A : Around) (Q : Flow → Shared → Prop) (E : Value → Shared → Prop) (s : Shared)
    (g : wpAny M A (eval v env >>= fun u => swappedStores [a] v env >>= fun w => assignStores env u w ((assignEach [a] env).map (·.2))) Q E s) : wpAny M A (exec (.Assign [a] v pos) env) Q E s := by
  rw [arm_exec_Assign]
  refine wpAny_bind (wpAny_standAt ?_)
  rw [h]
  exact wpAny_bind (wpAny_pure (by rw [if_neg Bool.false_ne_true]; exact g))
theorem assign_one {X : Lx W} {p : Pt W k X.d} {Q : KF} (he : SE W k me e) (ht : AE W k t tg) (hw : swapsWithSole [tg] e pos.line p.G.env = pure false) (q : ex X.lg (.assign t me) Q p.vars p.c.hm) : wpAny W.M p.G.A (exec (.Assign [tg] e pos) p.G.env) (OutS p Q) noE p.c.s := by
  refine assign_arm _ _ _ _ hw _ _ _ _ _ (wpAny_bind (wout (he.v X p _ q) fun m u c r q l => ?_))
  rw [ht.sw, ht.each]
  refine wpAny_bind (wpAny_pure ?_)
  show wpAny _ _ (assign tg p.G.env u >>= fun _ => pure Flow.next) _ _ _
  exact wpAny_bind (wmono (ht.v X (p.to l) m u _ r q) fun _ s h => wpAny_pure (by
    have h : OutA (p.to l) _ s := h
    induction h with | mk q O l3 => exact .mk .next q O (l.up.trans l3)))
theorem xe_assign (he : SE W k me e) (ht : AE W k t tg) (hn : notComp e = true) : XE W k (.assign t me) (.Assign [tg] e pos) := fun X p Q q => assign_one he ht (swaps_plain hn _ _ _) q
theorem use_after {X : Lx W} {p : Pt W k X.d} {Q : KF} {C : Addr} {w : Value} {s : Shared} (ht : AE W k t tg) (h : OutC p.c (fun v h => asg X.lg t v (fun ρ h => Q .next ρ h) p.vars h) C w s) : compPost W.M p.G.A noE (some fun v => assignAll v ((assignEach [tg] p.G.env).map (·.2))) (fun _ s' => OutS p Q .next s') w C (.ok .next) s := by
  induction h with
  | @mk m w c r q l n ns =>
  have nC := fresh_own p.O n.new
  rw [ht.each]
  show wpAny _ _ (assign tg p.G.env w) _ _ _
  refine wmono (ht.v X (p.to l) m w _ r q) fun _ s h => ?_
  have h : OutA (p.to l) _ s := h
  induction h with
  | @mk vars c2 q O l2 =>
  have nM : C ∉ p.G.mine := fun q => nC (mine_own q)
  have ns2 := ns.keep fun o e => l2.keep _ o e n.out nM
  have z : Aside p.c.h c2.ρ c2.h C := ⟨not_owned ns.lives n.out l2, n.new, ns2.lives⟩
  induction ns2 with
  | mk n2 =>
  refine ⟨_, n2, fun h' sb => ?_⟩
  have L : Later p.G.mine p.c c2 := l.up.trans l2
  exact OutS.mk (c := c2.turn c2.s.toks z.base (sb_x sb)) .next q (O.turn nC) (L.turn n.new)
theorem use_arm {X : Lx W} {p : Pt W k X.d} {Q : KF} {scope : Scope} {newAcc : Sem Value} {it : Expr} {pos' : Pos} (hs : swapsWithSole [tg] e pos.line p.G.env = pure true)
    (hu : ∀ use : Value → Sem Unit, evalThenUse e p.G.env use = (comprehension e scope p.G.env pos' newAcc false (eval it p.G.env) (some use) >>= fun _ => pure ()))
    (h : wpAny W.M p.G.A (comprehension e scope p.G.env pos' newAcc false (eval it p.G.env) (some fun v => assignAll v ((assignEach [tg] p.G.env).map (·.2)))) (fun _ s' => OutS p Q .next s') noE p.c.s) : wpAny W.M p.G.A (exec (.Assign [tg] e pos) p.G.env) (OutS p Q) noE p.c.s := by
  rw [arm_exec_Assign]
  refine wpAny_bind (wpAny_standAt ?_)
  rw [hs]
  refine wpAny_bind (wpAny_pure ?_)
  rw [if_pos rfl, hu]
  exact wpAny_bind (wpAny_bind (wmono h fun _ s' h => wpAny_pure (wpAny_pure h)))
variable {scope : Scope} {y : Str} {py cp : Pos} {x : Nat} {melt mit mk mv : ME} {conds : MEs} {e' k' it' : Expr} {ifs : List Expr}
theorem xe_assignL (ht : AE W k t tg) (o : CompOk k scope y x) (hi : SE W k mit it') (he : SE W (k.inner scope y x) melt e') (hc : SLs W (k.inner scope y x) conds ifs) (hset : notSetE it' = true) : XE W k (.assign t (.comp melt x mit conds)) (.Assign [tg] (.ListComp e' [⟨.Name y py, it', ifs, 0⟩] scope cp) pos) := fun X p Q q => by
  rcases ht.cl e' [⟨.Name y py, it', ifs, 0⟩] scope cp pos.line p.G.env with h | ⟨_, h⟩
  · exact assign_one (se_comp o hi he hc hset) ht h q
  · exact use_arm h (fun _ => rfl) (comp_core o hi he hc hset q fun C w s h => use_after ht h)
theorem xe_assignD (ht : AE W k t tg) (o : CompOk k scope y x) (hi : SE W k mit it') (hk : SE W (k.inner scope y x) mk k') (he : SE W (k.inner scope y x) mv e') (hset : notSetE it' = true) : XE W k (.assign t (.dcomp mk mv x mit)) (.Assign [tg] (.DictComp k' e' [⟨.Name y py, it', [], 0⟩] scope cp) pos) := fun X p Q q => by
  rcases ht.cd k' e' [⟨.Name y py, it', [], 0⟩] scope cp pos.line p.G.env with h | ⟨_, h⟩
  · exact assign_one (se_dcomp o hi hk he hset) ht h q
  · exact use_arm h (fun _ => rfl) (dcomp_core o hi hk he hset q fun C w s h => use_after ht h)
end
end Mini
end
section
namespace Mini
open PySem PySem.W PyProof.Rows PySem.SeqAt
noncomputable def swapOk (e : Expr) : Bool := if h : e.ctorIdx = 25 then Expr.Tuple.elim e h (fun vs _ _ => vs.all (foldedForSure 8) || !(vs.all (constantsAlone 8))) else true
noncomputable def nameOf (env : Env) (line : Nat) : Expr → Option Str
  | .Name id pos => if env.kindOf id == some .local && pos.line == line then some id else none
  | _ => none
theorem filterMap_all {α β : Type} {f : α → Option β} {l : List α} (h : (l.filterMap f).length = l.length) : l.map f = (l.filterMap f).map some := by
  induction l with
  | nil => rfl
  | cons a l ih =>
    rw [List.filterMap_cons] at h ⊢
    cases q : f a with
    | none =>
      rw [q] at h
      exact absurd (Nat.le_of_eq h.symm) (Nat.not_le.mpr (Nat.lt_succ_of_le (List.length_filterMap_le f l)))
    | some b =>
      rw [q] at h
      rw [List.map_cons, q, ih (Nat.succ.inj h)]; rfl
inductive Swap (elts : List Expr) (env : Env) (t : Sem (Option (List Str))) : Prop
  | no (e : t = pure none)
  | yes (names : List Str) (line : Nat) (e : t = pure (some names)) (d : names.eraseDups.length = names.length) (m : elts.map (nameOf env line) = names.map some) (l : elts.length = 2 ∨ elts.length = 3)
theorem swapped_cases {elts : List Expr} {a : Nat} {b : Pos} {v : Expr} {env : Env} (h : swapOk v = true) : Swap elts env (swappedStores [.Tuple elts a b] v env) := by
  rcases v with _ | _ | _ | _ | _ | _ | _ | _ | _ | _ | _ | _ | _ | _ | _ | _ | _ | _ | _ | _ | _ | _ | _ | _ | _ | ⟨vs, x, y⟩ | _ <;> try exact .no rfl
  have h := bor (show (vs.all (foldedForSure 8) || !(vs.all (constantsAlone 8))) = true from h)
  unfold swappedStores
  dsimp only
  split
  · exact .no rfl
  · rename_i h0
    split
    · exact .no rfl
    · split
      · exact .no rfl
      · rename_i hnm
        split
        · exact .no rfl
        · rename_i hf
          split
          · rename_i hc
            exact absurd (tn (h.resolve_left hf)) (by rw [hc]; exact Bool.noConfusion)
          · rw [Bool.not_eq_true, Bool.or_eq_false_iff, bne_eq_false_iff_eq, bne_eq_false_iff_eq] at hnm
            rw [Bool.not_eq_true, Bool.or_eq_false_iff, Bool.or_eq_false_iff, Bool.not_eq_false', Bool.or_eq_true, beq_iff_eq, beq_iff_eq] at h0
            refine .yes _ ((elts.head?.map (·.pos.line)).getD 0) rfl hnm.2 ?_ h0.1.1
            refine Eq.trans ?_ (filterMap_all hnm.1)
            refine List.map_congr_left fun e _ => ?_
            rcases e with _ | _ | _ | _ | _ | _ | _ | _ | _ | _ | _ | _ | _ | _ | _ | _ | _ | _ | _ | _ | _ | _ | _ | _ | _ | _ | _ <;> rfl
theorem nameOf_eq {env : Env} {line : Nat} {e : Expr} {n : Str} (h : nameOf env line e = some n) : ∃ pos, e = .Name n pos := by
  rcases e with _ | _ | _ | _ | _ | _ | _ | _ | _ | _ | _ | _ | _ | _ | _ | _ | _ | _ | _ | _ | _ | _ | _ | ⟨id, pos⟩ | _ | _ | _ <;> try exact ns h
  have h : (if env.kindOf id == some .local && pos.line == line then some id else none) = some n := h
  by_cases q : (env.kindOf id == some .local && pos.line == line) = true
  · rw [if_pos q] at h; exact ⟨pos, by rw [Option.some.inj h]⟩
  · rw [if_neg q] at h; exact ns h
theorem set_comm {vars : Vars} {a b : Nat} {v w : MV} (h : a ≠ b) : Vars.set (Vars.set vars a v) b w = Vars.set (Vars.set vars b w) a v := by
  funext i
  show (if i = b then some w else if i = a then some v else vars i) = (if i = a then some v else if i = b then some w else vars i)
  by_cases q : i = b
  · rw [if_pos q, if_neg fun z => h (z.symm.trans q), if_pos q]
  · rw [if_neg q, if_neg q]
theorem dups_le (n : Nat) (l : List Str) (h : l.length ≤ n) : l.eraseDups.length ≤ l.length := by
  induction n generalizing l with
  | zero => rw [List.eq_nil_of_length_eq_zero (Nat.le_zero.mp h)]; exact Nat.le_refl _
  | succ n ih =>
    rcases l with _ | ⟨a, l⟩
    · exact Nat.le_refl _
    · rw [List.eraseDups_cons]
      have z := List.length_filter_le (fun b => !b == a) l
      exact Nat.succ_le_succ (Nat.le_trans (ih _ (Nat.le_trans z (Nat.le_of_succ_le_succ h))) z)
theorem dups_cons {a : Str} {l : List Str} (h : (a :: l).eraseDups.length = (a :: l).length) : a ∉ l ∧ l.eraseDups.length = l.length := by
  rw [List.eraseDups_cons] at h
  have h := Nat.succ.inj h
  have hf : (l.filter fun b => !b == a).length = l.length := Nat.le_antisymm (List.length_filter_le _ _) (h ▸ dups_le _ _ (Nat.le_refl _))
  have all := List.length_filter_eq_length_iff.mp hf
  rw [List.filter_eq_self.mpr all] at h
  exact ⟨fun hm => ff ((by rw [beq_self_eq_true]; rfl : false = (!a == a)).trans (all a hm)), h⟩
section
variable {W : Wd} {k : Ck} {pos tp : Pos} {kk : Nat} {e : Expr} {me : ME} {ts : List MT} {elts : List Expr}
theorem star_none {env : Env} (h : All2 (AE W k) ts elts) : (assignEach elts env).findIdx? (·.1) = none ∧ (assignEach elts env).length = ts.length := by
  induction h with
  | nil => exact ⟨rfl, rfl⟩
  | cons h t ih =>
    rw [h.each, List.findIdx?_cons, ih.1]
    exact ⟨rfl, congrArg (· + 1) ih.2⟩
theorem asgL_ok {X : Lx W} {Q : Vars → HP} (hts : All2 (AE W k) ts elts) {p : Pt W k X.d} {vs : List MV} {us : List Value} (hl : vs.length = ts.length) (r : p.c.Vs vs us) (q : asgL X.lg ts vs Q p.vars p.c.hm) : wpAny W.M p.G.A (assignInOrder ((assignEach elts p.G.env).map (·.2)) us) (fun _ => OutA p Q) noE p.c.s := by
  induction hts generalizing p vs us with
  | nil =>
    rcases vs with _ | ⟨v, vs⟩
    · exact All2.nilE r (wpAny_pure (.mk q p.O .refl))
    · exact absurd hl (Nat.succ_ne_zero _)
  | @cons t tg ts tgs h t' ih =>
    rcases vs with _ | ⟨v, vs⟩
    · exact absurd hl.symm (Nat.succ_ne_zero _)
    refine All2.consE r fun u us hu hus => ?_
    rw [h.each]
    show wpAny _ _ (holding us (assign tg p.G.env u) >>= fun _ => assignInOrder ((assignEach tgs p.G.env).map (·.2)) us) _ _ _
    refine wpAny_bind (wpAny_holding (wmono (h.v X p v u _ hu q) fun _ s h => ?_))
    induction h with
    | @mk vars c q O l => exact wmono (ih (p := p.go O) (Nat.succ.inj hl) (VRels.stay l.stay hus) q) fun _ _ => OutA.trans l
theorem bind_ok {d : Nat} {p : Pt W k d} {n : Str} {x : Nat} {v : MV} {u : Value} {Q : Vars → HP} (h : stores k n x = true) (hv : p.c.V v u) (q : Q (Vars.set p.vars x v) p.c.hm) : wpAny W.M p.G.A (bindName p.G.env n u) (fun _ => OutA p Q) noE p.c.s := wpAny_bindName (store_ok (stores_of h).1 (stores_of h).2 hv q)
theorem ae_name {t : MT} {n : Str} {q : Pos} (h : AE W k t (.Name n q)) : ∃ x, t = .var x ∧ stores k n x = true := h.nm n q rfl
theorem ne_var {d : Nat} {G : Gx} (g : GOk W k d G) {a b : Str} {x y : Nat} (n : a ≠ b) (h1 : stores k a x = true) (h2 : stores k b y = true) : x ≠ y := fun e => n (g.inj a b x (by rw [g.vs]; exact (stores_of h1).1) (by rw [g.vs, e]; exact (stores_of h2).1))
theorem put_comm {X : Lx W} {line : Nat} {env : Env} {names : List Str} (hts : All2 (AE W k) ts elts) (m : elts.map (nameOf env line) = names.map some) {x : Nat} {v : MV} (hx : ∀ n ∈ names, ∀ y, stores k n y = true → y ≠ x) {vs : List MV} {Q : Vars → HP} {ρ : Vars} {h : MHeap} (q : asgL X.lg ts vs Q (Vars.set ρ x v) h) :
    asgL X.lg ts vs (fun ρ h => Q (Vars.set ρ x v) h) ρ h := by
  induction hts generalizing names vs ρ with
  | nil =>
    rcases vs with _ | ⟨w, vs⟩
    · exact q
    · exact q.elim
  | cons a t ih =>
    rcases vs with _ | ⟨w, vs⟩
    · exact q.elim
    rcases names with _ | ⟨n, names⟩
    · exact absurd m (List.cons_ne_nil _ _)
    obtain ⟨m1, m2⟩ := List.cons.inj m
    obtain ⟨qq, rfl⟩ := nameOf_eq m1
    obtain ⟨y, rfl, s1⟩ := ae_name a
    rw [List.forall_mem_cons] at hx
    have q : asgL X.lg _ vs Q (Vars.set (Vars.set ρ x v) y w) h := q
    rw [set_comm (hx.1 y s1).symm] at q
    exact ih m2 hx.2 q
theorem swapped_ok {X : Lx W} {Q : Vars → HP} {p : Pt W k X.d} {names : List Str} {line : Nat} {vs : List MV} {us us2 : List Value} {fs2 : List (Value → Sem Unit)} {P : Unit → Shared → Prop} (hts : All2 (AE W k) ts elts) (d : names.eraseDups.length = names.length) (m : elts.map (nameOf p.G.env line) = names.map some)
    (r : p.c.Vs vs us) (q : asgL X.lg ts vs Q p.vars p.c.hm) (kont : ∀ vars c, Fr p.G vars c → Later p.G.mine p.c c → Q vars c.hm → wpAny W.M p.G.A (assignInOrder fs2 us2) P noE c.s) : wpAny W.M p.G.A (assignInOrder (names.reverse.map (fun n => bindName p.G.env n) ++ fs2) (us.reverse ++ us2)) P noE p.c.s := by
  induction hts generalizing names vs us Q us2 fs2 with
  | nil =>
    rcases vs with _ | ⟨w, vs⟩
    · rcases names with _ | ⟨n, names⟩
      · exact All2.nilE r (kont _ _ p.O .refl q)
      · exact absurd m (List.cons_ne_nil _ _).symm
    · exact q.elim
  | cons a t ih =>
    rcases vs with _ | ⟨v, vs⟩
    · exact q.elim
    rcases names with _ | ⟨n, names⟩
    · exact absurd m (List.cons_ne_nil _ _)
    obtain ⟨m1, m2⟩ := List.cons.inj m
    obtain ⟨qq, rfl⟩ := nameOf_eq m1
    obtain ⟨x, rfl, s1⟩ := ae_name a
    obtain ⟨d1, d2⟩ := dups_cons d
    refine All2.consE r fun u us hu hus => ?_
    have hu : p.c.V v u := hu
    rw [List.reverse_cons, List.reverse_cons, List.map_append, List.append_assoc, List.append_assoc]
    refine ih d2 m2 hus (put_comm t m2 (fun n' hn' y hy => ne_var p.g (fun e => d1 (by rw [← e]; exact hn')) hy s1) q) fun vars c O l q => ?_
    show wpAny _ _ (holding us2 (bindName p.G.env n u) >>= fun _ => assignInOrder fs2 us2) _ _ _
    refine wpAny_bind (wpAny_holding (wmono (bind_ok (p := p.go O) s1 (hu.later l) q) fun _ s h => ?_))
    have h : OutA (p.go O) Q s := h
    induction h with
    | mk q O2 l2 => exact kont _ _ O2 (l.trans l2) q
inductive TupV (c : Cf W) (vs : List MV) : Value → Prop
  | mk {a : Addr} {its : Array Value} {n : Nat} (g : c.h.get? a = some { cls := .type "tuple", data := .seq its n }) (r : VRels W c.ρ c.h vs its.toList) : TupV c vs (.ref a)
variable {ms : MEs} {es : List Expr}
theorem disp_ok {X : Lx W} {p : Pt W k X.d} {Q : List MV → MHeap → Prop} (hs : SLs W k ms es) (q : evL X.lg ms p.vars (fun vs h => vs.length ≤ 100 ∧ Q vs h) p.c.hm) : wpAny W.M p.G.A (eval (.Tuple es kk pos) p.G.env) (Out p.c TupV Q) noE p.c.s := by
  rw [arm_eval_Tuple, hs.N]
  refine atP (seqO (hs.L X p _ q) fun xs us c' r q l => ?_)
  unfold newTuple
  have G : Ext c'.h (c'.h.push { cls := .type "tuple", data := .seq us.toArray }) := .push _ _
  exact wpAny_newObj_type (Out.mk (c' := c'.grow c'.s.toks G) (TupV.mk (Heap.get?_push_size _ rfl) (VRels.stay G.stay r)) q.2 (later_grow _)) (size_ok r q.1)
theorem xe_assigns {kk2 : Nat} {tp2 : Pos} (hs : SLs W k ms es) (hts : All2 (AE W k) ts elts) (hw : swapOk (.Tuple es kk2 tp2) = true) : XE W k (.assigns ts ms) (.Assign [.Tuple elts kk tp] (.Tuple es kk2 tp2) pos) := fun X p Q q => by
  refine assign_arm _ _ _ _ (swaps_plain rfl _ _ _) _ _ _ _ _ (wpAny_bind (wout (disp_ok hs q) fun vs u c r q l => ?_))
  obtain ⟨hl, q⟩ := q
  induction r with
  | @mk ta its tn g rt =>
  have htup := isTuple_of g
  have hsz : its.size = vs.length := Array.length_toList.symm.trans rt.length
  have kx : ∀ {h'}, Heap.ExtBut c.h.objs.size c.h h' → Ext c.h h' := fun ext b o e => ext b o (Nat.ne_of_lt (Heap.lt_size e)) e
  induction swapped_cases (a := kk) (b := tp) (elts := elts) (env := p.G.env) hw with
  | no e =>
    rw [e]
    refine wpAny_bind (wpAny_pure ?_)
    show wpAny _ _ (assign (.Tuple elts kk tp) p.G.env (.ref ta) >>= fun _ => pure Flow.next) _ _ _
    obtain ⟨h1, h2⟩ := star_none (env := p.G.env) hts
    refine wpAny_bind (atP (wpAny_unpack_tuple p.g.room.handled htup (by rw [h2, ← hl, hsz]) h1 fun h' ext => ?_))
    have L2 : Later [] c (c.grow c.s.toks (kx ext)) := later_grow _
    refine wmono (asgL_ok (p := (p.to l).to L2) hts hl (VRels.stay L2.stay (rt)) q) fun _ s h => wpAny_pure ?_
    have h : OutA ((p.to l).to L2) _ s := h
    induction h with | mk q O l3 => exact .mk .next q O ((l.trans L2).up.trans l3)
  | yes names line e d m l' =>
    rw [e]
    refine wpAny_bind (wpAny_pure ?_)
    have hnl : names.length = its.size := by rw [hsz, hl, ← hts.length, ← List.length_map (f := some), ← m, List.length_map]
    show wpAny _ _ (rule "assign.swapped-stores" >>= fun _ => unpackItems (.ref ta) names.length none >>= fun items => assignInOrder (names.reverse.map fun n => bindName p.G.env n) items.reverse >>= fun _ => pure Flow.next) _ _ _
    rw [hnl]
    refine wpAny_bind (wpAny_rule (wpAny_bind (wpAny_unpackItems_tuple p.g.room.handled htup fun h' ext => ?_)))
    have L2 : Later [] c (c.grow c.s.toks (kx ext)) := later_grow _
    have z := swapped_ok (p := (p.to l).to L2) (fs2 := []) (us2 := []) (P := fun _ s => wpAny W.M p.G.A (pure Flow.next) (OutS p Q) noE s) hts d m (VRels.stay L2.stay (rt)) q fun vars c O l3 q => wpAny_pure (wpAny_pure (.mk .next q O ((l.trans L2).up.trans l3)))
    rw [List.append_nil, List.append_nil] at z
    exact wpAny_bind z
end
end Mini
end
section
namespace Mini
open PySem PySem.W PyProof.Rows PySem.SeqAt
section
variable {W : Wd} {k : Ck} {pos np np' tp cp ep : Pos} {e : Expr} {me : ME} {mb : MSs} {b : List Stmt}
theorem enumL_drop {n j : Nat} {xs : List MV} : (enumL n xs).drop j = enumL (n + j) (xs.drop j) := by
  induction xs generalizing n j with
  | nil => rw [List.drop_nil]; exact List.drop_nil
  | cons x r ih =>
    rcases j with _ | j
    · rfl
    · exact (ih (n := n + 1) (j := j)).trans (by rw [List.drop_succ_cons, Nat.add_right_comm]; rfl)
theorem Fr.side {G : Gx} {vars : Vars} {c : Cf W} {Y : List Addr} {h' : Heap} {t : Nat} {z : ∀ a ∈ Y, Aside W.B c.ρ c.h a} {k : ExtX Y c.h h'} (O : Fr G vars c) (n : ∀ a ∈ Y, a ∉ G.own) : Fr G vars (c.side t z k) :=
  ⟨O.store.keep (stay_x (fun a ha => (z a ha).live) k) fun a ha o e => k a o (fun q => n a q ha) e, O.out⟩
inductive ForEI {d : Nat} (p : Pt W k d) (E I : Addr) (i : Nat) (xs : List MV) (K : Nat → Vars → HP) (n : Nat) : Shared → Prop
  | mk {vars : Vars} {c : Cf W} {j : Nat} {cl : Cell} {old : Value} (en : n = xs.length + 1 - j) (hj : j ≤ xs.length) (q : K j vars c.hm) (O : Fr p.G vars c) (l : Later p.G.mine p.c c) (oe : E ∉ owned c.ρ) (oi : I ∉ owned c.ρ)
    (hd : c.ρ[i]? = some cl) (he : IsEnum c.h E I (j : Int) old) (hit : c.h.IsListIter I cl.a j) : ForEI p E I i xs K n c.s
noncomputable def OneQ (R : MV → MHeap → Prop) : List MV → MHeap → Prop
  | [v] => R v
  | _ => fun _ => False
theorem OneQ.inv {R : MV → MHeap → Prop} {xs : List MV} {h : MHeap} (q : OneQ R xs h) : ∃ v, xs = [v] ∧ R v h := by
  rcases xs with _ | ⟨v, _ | _⟩
  · exact q.elim
  · exact ⟨v, rfl, q⟩
  · exact q.elim
theorem enum_call {X : Lx W} {p : Pt W k X.d} {R : MV → MHeap → Prop} {P : Value → Shared → Prop} (he : SE W k me e) (hn : notStar e = true) (hg : isGl k "enumerate" = true) (q : ev X.lg me p.vars false R p.c.hm)
    (g : ∀ v u (c : Cf W), c.V v u → R v c.hm → Later [] p.c c → wpAny W.M p.G.A (call (.type "enumerate") [u]) P noE c.s) : wpAny W.M p.G.A (eval (.Call (.Name "enumerate" ep) [e] [] cp) p.G.env) P noE p.c.s := by
  have hs := sl_cons he sl_nil hn
  rw [arm_eval_Call_Name']
  refine wpAny_bind (load_builtin X.K p hg (X.K.noBuiltin "enumerate" (by decide)) (v := .type "enumerate") (by kernel_rfl) (by decide) ?_)
  rw [hs.N]
  refine _root_.PySem.callWith_type (T := "enumerate") (pl_any ..) (args_ok (hs.L X p (OneQ R) q) fun xs vs c' r q l => ?_)
  obtain ⟨v, rfl, q⟩ := q.inv
  exact one r fun u hu => g v u c' hu q l
theorem notMine {d : Nat} {p : Pt W k d} {E : Addr} (n : E ∉ p.G.own) : E ∉ p.G.mine := fun q => n (mine_own q)
theorem it_keep {h h' : Heap} {I l : Addr} {j : Nat} (hit : h.IsListIter I l j) (k : ∀ o, h.get? I = some o → h'.get? I = some o) : h'.IsListIter I l j := by
  obtain ⟨o, g, r⟩ := hit
  exact ⟨o, k o g, r⟩
theorem it_lives {h : Heap} {I l : Addr} {j : Nat} (hit : h.IsListIter I l j) : Lives h I := by
  obtain ⟨o, g, e, _⟩ := hit
  exact .mk g (nf_c (by rw [e]; rfl))
theorem xe_forE {x y : Nat} {id id' : Str} {kk : Nat} (he : SE W k me e) (hn : notStar e = true) (hg : isGl k "enumerate" = true) (hb : XEs W k mb b) (hx : stores k id x = true) (hy : stores k id' y = true) :
    XE W k (.forE x y me mb) (.For (.Tuple [.Name id np, .Name id' np'] kk tp) (.Call (.Name "enumerate" ep) [e] [] cp) b [] pos) := fun X p Q q => by
  refine wpAny_For ?_ (fun _ => rfl)
  refine enum_call he hn hg q fun v u c r z L => ?_
  induction z with
  | @mk xs e q =>
  induction e with
  | @list i xs p' =>
  refine Cf.listE r p' fun d its n0 hc he0 g r0 l0 z0 => call_enumerate_1 g fun h' hE hI _ kp => wpAny_pyIter_enum hE ?_
  have O1 := p.O.later L
  have aI : Above p.c.h c.h.objs.size := (above_size c.h (Nat.le_refl _)).back L.alive
  have aE : Above p.c.h (c.h.objs.size + 1) := (above_size c.h (Nat.le_succ _)).back L.alive
  have nI := fresh_own O1 (above_size c.h (Nat.le_refl _))
  have nE : c.h.objs.size + 1 ∉ p.G.own := fresh_own O1 (above_size c.h (Nat.le_succ _))
  have hne : c.h.objs.size + 1 ≠ c.h.objs.size := Nat.succ_ne_self _
  have L2 : Later [] p.c (c.grow c.s.toks kp) := L.trans (later_grow kp)
  refine codeAny_forLoop_any (ForEI p (c.h.objs.size + 1) c.h.objs.size i xs fun j ρ h => forL (fun h => ItemsL h (.ref i) xs) (fun v Q ρ h => exs X.lg mb Q (Vars.two ρ x y v) h) ((enumL 0 xs).drop j) Q ρ h) (fun n s hS => ?_) (xs.length + 1)
    (.mk (c := c.grow c.s.toks kp) (j := 0) rfl (Nat.zero_le _) q (p.O.later L2) L2.up (not_own (c := c) (above_size _ (Nat.le_succ _))) (not_own (c := c) (above_size _ (Nat.le_refl _))) hc hE hI)
  clear q r p' z0 l0 r0 g he0 hE hI kp L2 O1 hc n0 its d
  generalize c.h.objs.size = I at *
  generalize I + 1 = E at *
  induction hS with
  | @mk vars c j cl old en hj q O l oe oi hd hE hI =>
  have ei : ItemsL c.hm (.ref i) xs := by
    rcases hd : (enumL 0 xs).drop j with _ | ⟨z, r⟩ <;> rw [hd] at q <;> exact q.1
  have p2 : c.hm.obj i = some (.list xs) := by cases ei with | list p => exact p
  have hh := p.g.room.handled
  have lE : Lives c.h E := .mk hE (nf_c rfl)
  have lI := it_lives hI
  have xE : Aside W.B c.ρ c.h E := ⟨oe, aE.back p.c.sim.base.alive, lE⟩
  have xI : Aside W.B c.ρ c.h I := ⟨oi, aI.back p.c.sim.base.alive, lI⟩
  obtain ⟨its, m, g, r, z⟩ : ∃ its m, IsL c.h cl.a its m ∧ VRels W c.ρ c.h xs its.toList ∧ its.size = xs.length := by
    induction c.sim.objs i _ p2 with
    | mk hc r =>
    obtain rfl := Option.some.inj (hd.symm.trans hc)
    have r : LRel W c.ρ c.h xs _ := r
    induction r with | mk d g r l => exact ⟨_, _, g, r, Array.length_toList.symm.trans r.length⟩
  by_cases hjl : j < xs.length
  · obtain ⟨u, e2, hr⟩ := r.get (List.getElem?_eq_getElem hjl)
    have ed : (enumL 0 xs).drop j = .tup [.int (j : Int), xs[j]] :: (enumL 0 xs).drop (j + 1) := by
      rw [enumL_drop, enumL_drop, Nat.zero_add, Nat.zero_add, List.drop_eq_getElem_cons hjl]
      rfl
    rw [ed] at q
    refine wpAny_pyNext_enum_item hE hI g.isList (x := u) (Array.getElem?_toList.symm.trans e2) hne fun h1 eo hI1 ht1 hz1 k1 => ?_
    have ltE := Heap.lt_size hE
    refine wpAny_letOwnedTupleGo_enum eo fun h2 hE2 sb2 => ?_
    have sb2 : Heap.SameBut E h1 h2 := sb2
    have ht2 : h2.IsTuple c.h.objs.size #[.int j c.s.toks, u] := ⟨_, (sb2.2 _ (Nat.ne_of_gt ltE)).trans ht1, rfl, _, rfl⟩
    have hz2 : h2.objs.size = c.h.objs.size + 1 := sb2.1.trans hz1
    refine wpAny_assign_Tuple hh ht2 rfl rfl fun h3 hx3 => ?_
    have hx3 : Heap.ExtBut h2.objs.size h2 h3 := hx3
    have old : ∀ b o, b < c.h.objs.size → h2.get? b = some o → h3.get? b = some o := fun b o l e => hx3 b o (by rw [hz2]; exact Nat.ne_of_lt (Nat.lt_succ_of_lt l)) e
    have kx : ExtX [E, I] c.h h3 := fun b o hb e => by
      have nE' : b ≠ E := fun q => hb (q ▸ List.mem_cons_self)
      have nI' : b ≠ I := fun q => hb (q ▸ List.mem_cons_of_mem _ List.mem_cons_self)
      exact old b o (Heap.lt_size e) ((sb2.2 b nE').trans (k1 b o nE' nI' e))
    have two : ∀ {P : Addr → Prop}, P E → P I → ∀ a ∈ [E, I], P a := fun pE pI a ha => (List.mem_cons.mp ha).elim (fun q => q ▸ pE) fun q => List.mem_singleton.mp q ▸ pI
    have hE3 : IsEnum h3 E I ((j + 1 : Nat) : Int) u := old E _ ltE hE2
    have hI3 : h3.IsListIter I cl.a (j + 1) := by
      obtain ⟨o, g1, r1⟩ := hI1
      obtain ⟨o', g0, _⟩ := hI
      exact ⟨o, old I o (Heap.lt_size g0) ((sb2.2 I hne.symm).trans g1), r1⟩
    have O2 : Fr p.G vars (c.side (c.s.toks + 1) (two xE xI) kx) := O.side (two nE nI)
    have LT : Later p.G.mine p.c (c.side (c.s.toks + 1) (two xE xI) kx) := l.side (two aE aI)
    have st : Stay c.ρ c.h c.ρ h3 := stay_x (two lE lI) kx
    refine wpAny_mono (asgL_ok (X := X) (.cons (ae_var hx) (.cons (ae_var hy) .nil)) (p := p.go O2) (vs := [.int j, xs[j]]) (us := [.int j c.s.toks, u]) (Q := fun ρ h => ρ = Vars.two vars x y (.tup [.int j, xs[j]]) ∧ h = c.hm) rfl (.cons (IsInt.mk _) (.cons (hr.stay st) .nil)) ⟨rfl, rfl⟩) (fun _ s h => ?_) fun _ _ e => e.elim
    induction h with
    | @mk vars3 c3 q3 O3 l3 =>
    have q := q.2
    rw [← q3.2] at q
    have O3' := q3.1 ▸ O3
    have hE4 : IsEnum c3.h E I ((j + 1 : Nat) : Int) u := l3.keep _ _ hE3 oe (notMine nE)
    have hI4 := it_keep hI3 fun o e => l3.keep _ o e oi (notMine nI)
    have oe4 := not_owned (.mk hE3 (nf_c rfl)) oe l3
    have oi4 := not_owned (it_lives hI3) oi l3
    refine wpAny_mono (hb X (p.go O3') (turnF Q fun ρ h => forL (fun h => ItemsL h (.ref i) xs) (fun v Q ρ h => exs X.lg mb Q (Vars.two ρ x y v) h) ((enumL 0 xs).drop (j + 1)) Q ρ h) q) (fun fl s h => ?_) fun _ _ e => e.elim
    induction h with
    | @mk mf fl vars4 c4 r q O4 l4 =>
    have LL : Later p.G.mine p.c c4 := (LT.trans l3).trans l4
    have back : forL (fun h => ItemsL h (.ref i) xs) (fun v Q ρ h => exs X.lg mb Q (Vars.two ρ x y v) h) ((enumL 0 xs).drop (j + 1)) Q vars4 c4.hm → ∃ m, m < n ∧ ForEI p E I i xs (fun j ρ h => forL (fun h => ItemsL h (.ref i) xs) (fun v Q ρ h => exs X.lg mb Q (Vars.two ρ x y v) h) ((enumL 0 xs).drop j) Q ρ h) m c4.s := fun q =>
      ⟨xs.length + 1 - (j + 1), by omega, .mk (cl := cl) rfl hjl q O4 LL (not_owned (.mk hE4 (nf_c rfl)) oe4 l4) (not_owned (it_lives hI4) oi4 l4) (l4.at_ (l3.at_ hd)) (l4.keep _ _ hE4 oe4 (notMine nE)) (it_keep hI4 fun o e => l4.keep _ o e oi4 (notMine nI))⟩
    induction r with
    | next => exact back q
    | brk => exact .mk .next q O4 LL
    | cont => exact back q
    | ret r => exact .mk (.ret r) q O4 LL
  · have je : j = xs.length := Nat.le_antisymm hj (Nat.not_lt.mp hjl)
    have hv : its[j]? = none := by rw [je, ← z]; exact Array.getElem?_eq_none (Nat.le_refl _)
    refine wpAny_pyNext_enum_end hh hE hI g.isList hv fun h' k' => wpAny_execs_nil ?_
    have e0 : (enumL 0 xs).drop j = [] := by rw [enumL_drop, je, List.drop_length]; rfl
    rw [e0] at q
    exact .mk (c := c.turn c.s.toks xI (eb_x k')) .next q.2 (O.turn nI) (l.turn aI)
end
end Mini
end
section
namespace Mini
open PySem PySem.W PyProof.Rows PySem.SeqAt
section
variable {W : Wd} {k : Ck} {st : Stmt} {ss : List Stmt} {m : MS} {ms : MSs}
theorem xs_nil : XEs W k .nil [] := fun X p Q q => wpAny_execs_nil (.mk .next q p.O .refl)
theorem xs_cons (h1 : XE W k m st) (h2 : XEs W k ms ss) : XEs W k (.cons m ms) (st :: ss) := fun X p Q q => by
  refine wpAny_execs_cons (wmono (h1 X p _ q) fun fl s h => ?_)
  induction h with
  | mk r q O l =>
  induction r with
  | next => exact go_on O l (h2 X (p.go O) Q q)
  | brk => exact .mk .brk q O l
  | cont => exact .mk .cont q O l
  | ret r => exact .mk (.ret r) q O l
variable {P : Stmt → Prop} {s : Stmt}
noncomputable def sRet (f : ∀ o pos, Dec (P (.Return o pos))) : Dec (P s) := if h : s.ctorIdx = 3 then Stmt.Return.elim (motive_2 := fun e => Dec (P e)) s h f else .no
noncomputable def sAsg (f : ∀ t v pos, Dec (P (.Assign t v pos))) : Dec (P s) := if h : s.ctorIdx = 5 then Stmt.Assign.elim (motive_2 := fun e => Dec (P e)) s h f else .no
noncomputable def sFor (f : ∀ t i b o pos, Dec (P (.For t i b o pos))) : Dec (P s) := if h : s.ctorIdx = 9 then Stmt.For.elim (motive_2 := fun e => Dec (P e)) s h f else .no
noncomputable def sWhile (f : ∀ t b o pos, Dec (P (.While t b o pos))) : Dec (P s) := if h : s.ctorIdx = 11 then Stmt.While.elim (motive_2 := fun e => Dec (P e)) s h f else .no
noncomputable def sIf (f : ∀ t b o pos, Dec (P (.If t b o pos))) : Dec (P s) := if h : s.ctorIdx = 12 then Stmt.If.elim (motive_2 := fun e => Dec (P e)) s h f else .no
noncomputable def sExpr (f : ∀ e pos, Dec (P (.Expr e pos))) : Dec (P s) := if h : s.ctorIdx = 24 then Stmt.Expr.elim (motive_2 := fun e => Dec (P e)) s h f else .no
noncomputable def sBrk (f : ∀ pos, Dec (P (.Break pos))) : Dec (P s) := if h : s.ctorIdx = 26 then Stmt.Break.elim (motive_2 := fun e => Dec (P e)) s h f else .no
noncomputable def sCont (f : ∀ pos, Dec (P (.Continue pos))) : Dec (P s) := if h : s.ctorIdx = 27 then Stmt.Continue.elim (motive_2 := fun e => Dec (P e)) s h f else .no
end
section
variable (W : Wd)
noncomputable def trTs (k : Ck) : (ts : List MT) → (es : List Expr) → Dec (All2 (AE W k) ts es)
  | [], es => dNil (.yes .nil)
  | t :: ts, es => dCons fun e r => (trT W t k e).bind fun ht => (trTs k ts r).bind fun hs => .yes (.cons ht hs)
noncomputable def trA (t : MT) (me : ME) (k : Ck) (tg v : Expr) (pos : Pos) (ht : AE W k t tg) : Dec (XE W k (.assign t me) (.Assign [tg] v pos)) := match me with
  | .comp elt x it cond => dLC (P := fun v => XE W k _ (.Assign [tg] v pos)) fun e' gs sc cp => dOne (L := fun gs => XE W k _ (.Assign [tg] (.ListComp e' gs sc cp) pos)) fun g => Comprehension.casesOn (motive_3 := fun g => Dec (XE W k _ (.Assign [tg] (.ListComp e' [g] sc cp) pos))) g fun t it' ifs a =>
      dNm (P := fun t => XE W k _ (.Assign [tg] (.ListComp e' [⟨t, it', ifs, a⟩] sc cp) pos)) fun y py => deq a 0 fun ha => need (compOk k sc y x) fun hc => need (notSetE it') fun hs => (trE W it k it').bind fun hi => (trE W elt (k.inner sc y x) e').bind fun he => (trL W cond (k.inner sc y x) ifs).bind fun hl => .yes (ha ▸ xe_assignL ht (compOk_of hc) hi he hl hs)
  | .dcomp ke ve x it => dDC (P := fun v => XE W k _ (.Assign [tg] v pos)) fun k' e' gs sc cp => dOne (L := fun gs => XE W k _ (.Assign [tg] (.DictComp k' e' gs sc cp) pos)) fun g => Comprehension.casesOn (motive_3 := fun g => Dec (XE W k _ (.Assign [tg] (.DictComp k' e' [g] sc cp) pos))) g fun t it' ifs a =>
      dNm (P := fun t => XE W k _ (.Assign [tg] (.DictComp k' e' [⟨t, it', ifs, a⟩] sc cp) pos)) fun y py => dNil (L := fun ifs => XE W k _ (.Assign [tg] (.DictComp k' e' [⟨.Name y py, it', ifs, a⟩] sc cp) pos)) (deq a 0 fun ha => need (compOk k sc y x) fun hc => need (notSetE it') fun hs =>
      (trE W it k it').bind fun hi => (trE W ke (k.inner sc y x) k').bind fun hk => (trE W ve (k.inner sc y x) e').bind fun he => .yes (ha ▸ xe_assignD ht (compOk_of hc) hi hk he hs))
  | me => need (notComp v) fun hn => (trE W me k v).bind fun he => .yes (xe_assign he ht hn)
mutual
noncomputable def trS : (m : MS) → (k : Ck) → (s : Stmt) → Dec (XE W k m s)
  | .assign t e, k, s => sAsg fun tgs v pos => dOne (L := fun tgs => XE W k _ (.Assign tgs v pos)) fun tg => (trT W t k tg).bind fun ht => trA W t e k tg v pos ht
  | .assigns ts ms, k, s => sAsg fun tgs v pos => dOne (L := fun tgs => XE W k _ (.Assign tgs v pos)) fun tg => dTuple (P := fun tg => XE W k _ (.Assign [tg] v pos)) fun es kk tp => (trTs W k ts es).bind fun hts => dTuple (P := fun v => XE W k _ (.Assign [.Tuple es kk tp] v pos)) fun vs kk2 tp2 => need (swapOk (.Tuple vs kk2 tp2)) fun hw => (trL W ms k vs).bind fun hs => .yes (xe_assigns hs hts hw)
  | .expr e, k, s => sExpr fun v pos => need (notComp v) fun hn => (trE W e k v).bind fun he => .yes (xe_expr he hn)
  | .ite t a b, k, s => sIf fun te body orelse pos => (trE W t k te).bind fun ht => (trSs a k body).bind fun ha => (trSs b k orelse).bind fun hb => .yes (xe_ite ht ha hb)
  | .while t b, k, s => sWhile fun te body orelse pos => dNil (L := fun orelse => XE W k _ (.While te body orelse pos)) ((trE W t k te).bind fun ht => (trSs b k body).bind fun hb => .yes (xe_while ht hb))
  | .for x it b, k, s => sFor fun tg it' body orelse pos => dNm (P := fun tg => XE W k _ (.For tg it' body orelse pos)) fun id np => dNil (L := fun orelse => XE W k _ (.For (.Name id np) it' body orelse pos)) (need (stores k id x) fun h => need (notSetE it') fun hs => (trE W it k it').bind fun hi => (trSs b k body).bind fun hb => .yes (xe_for hi hb h hs))
  | .forE x y it b, k, s => sFor fun tg it' body orelse pos => dTuple (P := fun tg => XE W k _ (.For tg it' body orelse pos)) fun tgs kk tp => dCons (L := fun tgs => XE W k _ (.For (.Tuple tgs kk tp) it' body orelse pos)) fun t1 r => dOne (L := fun r => XE W k _ (.For (.Tuple (t1 :: r) kk tp) it' body orelse pos)) fun t2 =>
      dNm (P := fun t1 => XE W k _ (.For (.Tuple [t1, t2] kk tp) it' body orelse pos)) fun id np => dNm (P := fun t2 => XE W k _ (.For (.Tuple [.Name id np, t2] kk tp) it' body orelse pos)) fun id' np' => dNil (L := fun orelse => XE W k _ (.For (.Tuple [.Name id np, .Name id' np'] kk tp) it' body orelse pos))
      (dCall (P := fun it' => XE W k _ (.For (.Tuple [.Name id np, .Name id' np'] kk tp) it' body [] pos)) fun g as ks cp => dNm (P := fun g => XE W k _ (.For (.Tuple [.Name id np, .Name id' np'] kk tp) (.Call g as ks cp) body [] pos)) fun nm ep => dOne (L := fun as => XE W k _ (.For (.Tuple [.Name id np, .Name id' np'] kk tp) (.Call (.Name nm ep) as ks cp) body [] pos)) fun a =>
      dNil (L := fun ks => XE W k _ (.For (.Tuple [.Name id np, .Name id' np'] kk tp) (.Call (.Name nm ep) [a] ks cp) body [] pos)) (deq nm "enumerate" fun h0 => need (notStar a) fun hn => need (isGl k "enumerate") fun hg => need (stores k id x) fun hx => need (stores k id' y) fun hy => (trE W it k a).bind fun hi => (trSs b k body).bind fun hb => .yes (h0 ▸ xe_forE hi hn hg hb hx hy)))
  | .ret e, k, s => sRet fun o pos => dSome (O := fun o => XE W k _ (.Return o pos)) fun v => (trE W e k v).bind fun he => .yes (xe_ret he)
  | .retNone, k, s => sRet fun o pos => dNo (O := fun o => XE W k _ (.Return o pos)) (.yes xe_retNone)
  | .brk, k, s => sBrk fun pos => .yes xe_brk
  | .cont, k, s => sCont fun pos => .yes xe_cont
  | .bad, k, s => .yes xe_bad
noncomputable def trSs : (ms : MSs) → (k : Ck) → (ss : List Stmt) → Dec (XEs W k ms ss)
  | .nil, k, ss => dNil (.yes xs_nil)
  | .cons m ms, k, ss => dCons fun s r => (trS m k s).bind fun h => (trSs ms k r).bind fun hs => .yes (xs_cons h hs)
end
end
end Mini
end
section
set_option maxHeartbeats 1000000
namespace Mini
open PySem PySem.W PyProof.Rows PySem.SeqAt
theorem cellsFrom_some {x : Str} {names : List (Str × NameKind)} {n : Nat} {acc : List (Str × Addr)} (h : (acc.lookup x).isSome = true ∨ (x, NameKind.cell) ∈ names) : ((cellsFrom n names acc).lookup x).isSome = true := by
  induction names generalizing n acc with
  | nil => exact h.resolve_right List.not_mem_nil
  | cons p r ih =>
    obtain ⟨m, k⟩ := p
    unfold cellsFrom
    by_cases hk : (k == NameKind.cell) = true
    · rw [if_pos hk]
      refine ih ?_
      rw [List.lookup_cons]
      by_cases q : (x == m) = true
      · rw [q]; exact .inl rfl
      · rw [Bool.eq_false_iff.mpr q]
        exact h.imp id fun h => (List.mem_cons.mp h).resolve_left fun e => q (by rw [(Prod.mk.inj e).1]; exact beq_self_eq_true m)
    · rw [if_neg hk]
      exact ih (h.imp id fun h => (List.mem_cons.mp h).resolve_left fun e => hk (by rw [← (Prod.mk.inj e).2]; rfl))
section
variable {kindOf : Str → Option NameKind} {x : Str} {binds : List (Str × Value)} {m : Str → Option Value} {u : Value}
theorem bindL_keep (h : x ∉ binds.map (·.1)) : bindL kindOf binds m x = m x := by
  induction binds generalizing m with
  | nil => rfl
  | cons p r ih =>
    rw [List.map_cons, List.mem_cons, not_or] at h
    unfold bindL
    rw [ih h.2]
    split
    · exact if_neg h.1
    · rfl
theorem bindC_keep (h : x ∉ binds.map (·.1)) : bindC kindOf binds m x = m x := by
  induction binds generalizing m with
  | nil => rfl
  | cons p r ih =>
    rw [List.map_cons, List.mem_cons, not_or] at h
    unfold bindC
    rw [ih h.2]
    split
    · rfl
    · exact if_neg h.1
theorem bindL_get (hk : kindOf x = some .local) (hn : (binds.map (·.1)).Nodup) (h : (x, u) ∈ binds) : bindL kindOf binds m x = some u := by
  induction binds generalizing m with
  | nil => exact absurd h List.not_mem_nil
  | cons p r ih =>
    rw [List.map_cons, List.nodup_cons] at hn
    unfold bindL
    rcases List.mem_cons.mp h with h | h
    · subst h
      rw [bindL_keep hn.1, if_pos hk, if_pos rfl]
    · exact ih hn.2 h
theorem bindC_get (hk : kindOf x = some .cell) (hn : (binds.map (·.1)).Nodup) (h : (x, u) ∈ binds) : bindC kindOf binds m x = some u := by
  induction binds generalizing m with
  | nil => exact absurd h List.not_mem_nil
  | cons p r ih =>
    rw [List.map_cons, List.nodup_cons] at hn
    unfold bindC
    rcases List.mem_cons.mp h with h | h
    · subst h
      rw [bindC_keep hn.1, if_neg (by rw [hk]; decide), if_pos rfl]
    · exact ih hn.2 h
end
structure FnAt (W : Wd) (f : Nat) (npar : Nat) (o : Obj) (fd : FuncData) (body : List Stmt) (vs : List (Str × Nat)) (ps : List Str) : Prop where
  at_ : W.K.lookup (W.faddr f) = some o
  data : o.data = .func fd
  bodyAt : fd.body = .stmts body
  code : codeIn W.K fd.code fd.qualname = true
  globals : fd.globals = mainGlobals
  builtins : fd.builtins = builtinsNs
  kind : fd.scope.kind = .function
  noCo : fd.scope.isCoroutine = false
  noGen : fd.scope.isGenerator = false
  npar : ps.length = npar
  pnodup : ps.Nodup
  bind : ∀ vals : List Value, vals.length = ps.length → bindArgs fd ⟨vals, []⟩ = pure (ps.zip vals)
  pnum : ∀ (i : Nat) (p : Str), ps[i]? = some p → vs.lookup p = some i
  pkind : ∀ p ∈ ps, fd.scope.names.lookup p = some .local ∨ fd.scope.names.lookup p = some .cell
  inj : ∀ x y i, vs.lookup x = some i → vs.lookup y = some i → x = y
  noFree : ∀ x i, vs.lookup x = some i → fd.scope.names.lookup x ≠ some .free
section
variable {W : Wd} {d f n : Nat} {o : Obj} {fd : FuncData} {body : List Stmt} {vs : List (Str × Nat)} {ps : List Str} {A : Around} {c : Cf W}
theorem room_deep {env : Env} (h1 : A.handled = none) (h2 : A.depth + 4 * (d + 1) + 2 ≤ 900) (h3 : A.units + 40 * (d + 1) + 20 ≤ 9000) : Room (A.deeper env) (d + 1) :=
  ⟨h1, by show A.depth + 1 + 4 * (d + 1) ≤ 900; omega, by show A.units + 3 + 40 * (d + 1) ≤ 9000; omega⟩
theorem var_at (X : FnAt W f n o fd body vs ps) {xs : List MV} {vals : List Value} (hl : xs.length = ps.length) (hr : c.Vs xs vals) {y : Str} {i : Nat} {v : MV} (h1 : vs.lookup y = some i) (h2 : xs[i]? = some v) : ∃ u, c.V v u ∧ y ∈ ps ∧ ps[i]? = some y ∧ vals[i]? = some u ∧ (y, u) ∈ ps.zip vals := by
  obtain ⟨u, hu, hv⟩ := hr.get h2
  have hlt : i < ps.length := by rw [← hl]; exact (List.getElem?_eq_some_iff.mp h2).1
  have hp := List.getElem?_eq_getElem hlt
  have e := X.inj y ps[i] i h1 (X.pnum i _ hp)
  rw [← e] at hp
  exact ⟨u, hv, e ▸ List.getElem_mem hlt, hp, hu, List.mem_of_getElem? (i := i) (by rw [List.getElem?_zip_eq_some]; exact ⟨hp, hu⟩)⟩
theorem zip_names {vals : List Value} (h : vals.length = ps.length) : (ps.zip vals).map (·.1) = ps := List.map_fst_zip (Nat.le_of_eq h.symm)
theorem later_call {M : List Addr} {c₁ c' : Cf W} (ab : ∀ a ∈ M, Above c.h a) (L0 : Later [] c c₁) (L : Later M c₁ c') (own : c₁.ρ = c.ρ) : Later [] c c' :=
  ⟨fun e => L.at_ (L0.at_ e), fun a ha => (L.fresh a ha).elim (L0.fresh a) fun z => .inr (z.back L0.alive), fun b o e hb hX => L.keep b o (L0.keep b o e hb hX) (by rw [own]; exact hb) fun q => (ab b q).no e, fun b o e f => L.froz b o (L0.froz b o e f) f, fun b o e => let ⟨o', e'⟩ := L0.alive b o e; L.alive b o' e', L.rest.1.trans L0.rest.1, L.rest.2.trans L0.rest.2⟩
noncomputable def retOf : Flow → Value
  | .ret v => v
  | _ => .none
theorem out_call {k : Ck} {p : Pt W k d} {Q : KV} {fl : Flow} {s : Shared} (ab : ∀ a ∈ p.G.mine, Above c.h a) (L0 : Later [] c p.c) (own : p.c.ρ = c.ρ) (h : OutS p (retQ Q) fl s) : Out c Cf.V Q (retOf fl) s := by
  induction h with
  | mk r q O l =>
  have L := later_call ab L0 l own
  induction r with
  | next => exact .mk vnone q L
  | brk => exact q.elim
  | cont => exact q.elim
  | ret r => exact .mk r q L
theorem mine_above {G : Gx} (hl : Above c.h G.env.locals) (hc : ∀ n a, G.env.kindOf n = some .cell → G.env.cells.lookup n = some a → Above c.h a) : ∀ a ∈ G.mine, Above c.h a := fun a ha => by
  rcases List.mem_cons.mp ha with e | e
  · rw [e]; exact hl
  · obtain ⟨p, hp, e⟩ := List.mem_filterMap.mp e
    by_cases q : (G.env.kindOf p.1 == some .cell) = true
    · rw [if_pos q] at e; exact hc p.1 a (eq_of_beq q) e
    · rw [if_neg q] at e; exact ns e
theorem call_plain {X : Lx W} {xs : List MV} {vals : List Value} {Q : KV} {mb : MSs} (F : FnAt W f xs.length o fd body vs ps) (hcl : fd.closure = []) (ck : XEs W ⟨fd.scope, vs⟩ mb body) (h1 : A.handled = none) (h2 : A.depth + 4 * (X.d + 1) + 2 ≤ 900) (h3 : A.units + 40 * (X.d + 1) + 20 ≤ 9000) (hr : c.Vs xs vals)
    (q : exs X.lg mb (retQ Q) (bindV xs) c.hm) : codeAny W.M A (.call (.ref (W.faddr f)) ⟨vals, []⟩) (fun r s' => match r with | .ok (.ret v) => Out c Cf.V Q v s' | _ => False) c.s := by
  have XK := c.X X.K
  have hvl : vals.length = ps.length := hr.length.trans F.npar.symm
  refine codeAny_call_cells (o := o) (fd := fd) (body := body) (binds := ps.zip vals) (by simp [recursionLimit]; omega) (c.sim.base _ _ (X.K.X _ _ F.at_)) F.data (X.K.nolimit.keeps c.sim.base) (codeRec_of XK F.code) F.bodyAt (F.bind vals hvl) hcl (fun x hx => ?_) (fun s₁ x => ?_) F.noCo F.noGen F.kind
  · rcases F.pkind x.1 (List.of_mem_zip hx).1 with e | e
    · exact .inl e
    · exact .inr ⟨e, cellsFrom_some (.inr (mem_of_look e))⟩
  · obtain ⟨h', t, e, kp⟩ := x.done
    subst e
    have cab : ∀ n a, (callEnvC fd c.h.objs.size (W.faddr f)).cells.lookup n = some a → c.h.objs.size < a := fun n a e => x.above n a (mem_of_look e)
    have hl : Above c.h c.h.objs.size := above_size _ (Nat.le_refl _)
    have ab : ∀ a ∈ Gx.mine ⟨callEnvC fd c.h.objs.size (W.faddr f), vs, A.deeper (callEnvC fd c.h.objs.size (W.faddr f))⟩, Above c.h a := mine_above hl fun n a _ e => above_size _ (Nat.le_of_lt (cab n a e))
    have g : GOk W ⟨fd.scope, vs⟩ X.d ⟨callEnvC fd c.h.objs.size (W.faddr f), vs, A.deeper (callEnvC fd c.h.objs.size (W.faddr f))⟩ :=
      ⟨rfl, rfl, F.kind, F.globals, F.builtins, room_deep h1 h2 h3, fun n a e z => Nat.lt_irrefl _ (z ▸ cab n a e), fun n n' a e e' => name_of_addr x.apart (mem_of_look e) (mem_of_look e'), fun y i e e' => e'.elim (fun e' => cellsFrom_some (.inr (mem_of_look e'))) fun e' => absurd e' (F.noFree y i e), F.inj, fun a ha => (ab a ha).back c.sim.base.alive⟩
    have nd : ((ps.zip vals).map (·.1)).Nodup := by rw [zip_names hvl]; exact F.pnodup
    have O : Fr ⟨callEnvC fd c.h.objs.size (W.faddr f), vs, A.deeper (callEnvC fd c.h.objs.size (W.faddr f))⟩ (bindV xs) (c.grow t kp) := by
      refine ⟨.mk x.toInCall.ns x.cell fun y i v e1 e2 => ?_, fun a ha q => ?_⟩
      · obtain ⟨u, hu, hy, _, _, hm⟩ := var_at F F.npar.symm hr e1 e2
        refine .mk (hu.stay (Ext.stay kp)) ?_
        rcases F.pkind y hy with z | z
        · exact .loc z (bindL_get z nd hm)
        · obtain ⟨a, ha⟩ := Option.isSome_iff_exists.mp (cellsFrom_some (n := c.h.objs.size + 1) (acc := []) (.inr (mem_of_look z)))
          exact .cell (.inl z) ha (bindC_get z nd hm)
      · induction c.sim.live a q with
        | mk e _ =>
          rcases List.mem_cons.mp ha with z | z
          · exact hl.no (z ▸ e)
          · obtain ⟨p, _, z⟩ := List.mem_filterMap.mp z
            exact Nat.lt_irrefl _ (Nat.lt_trans (Heap.lt_size e) (cab _ _ z))
    refine wpAny_mono (ck X ⟨_, bindV xs, c.grow t kp, g, O⟩ (retQ Q) q) (fun fl s' h => ?_) fun _ _ e => e.elim
    have z := out_call (c := c) ab (later_grow kp) rfl h
    cases fl <;> exact z
end
end Mini
end
section
set_option maxHeartbeats 1000000
namespace Mini
open PySem PySem.W PyProof.Rows PySem.SeqAt
structure FnSup (W : Wd) (fd : FuncData) (body : List Stmt) (ps : List Str) (g : Nat) (cc cda : Addr) (occ oc : Obj) (kvs : Array Value) (file : Str) (tf : Tok) (rest : List Stmt) (p0 p1 apos pos spos : Pos) (ar : Arg) (cd : ClassData) : Prop where
  closure : fd.closure = [(("__class__" : Str), cc)]
  ccAt : W.K.lookup cc = some occ
  ccIs : occ.data = .cell (some (.ref W.C))
  codeIs : fd.code = .ref cda
  cdAt : W.K.lookup cda = some oc
  cdIs : oc.data = .fields kvs
  file2 : kvs[2]? = some (.str file tf)
  fileOk : ((W.prog.main.file : Str) == file) = true
  noSuper : (W.prog.main.scope.names.lookup ("super" : Str)).isSome = false
  bodyIs : body = .Expr (.Call (.Attribute (.Call (.Name "super" p0) [] [] p1) "__init__" apos) [] [] pos) spos :: rest
  first : (fd.params.posonlyargs ++ fd.params.args).head? = some ar
  first0 : ps[0]? = some ar.arg
  kSuper : fd.scope.names.lookup ("super" : Str) = some .globalImplicit
  kClass : fd.scope.names.lookup ("__class__" : Str) = some .free
  noCell : ∀ x ∈ fd.scope.names, x.2 ≠ .cell
  cls : clsIn W.K W.C = some cd
  sub : mroIn W.K W.C (.ref W.C) = some true
  up : alongIn W.K "__init__" ((cd.mro.dropWhile (· != .ref W.C)).drop 1) = some (some (.ref (W.faddr g)))
  line : (apos.endLine == pos.line) = true
  upIs : fnIn W.K (W.faddr g) = true
  upFn : typeIn W.K (.ref (W.faddr g)) = some (.type "function")
  plainWorld : nsIn W.K cStatics "thirdparty.any" = some none
theorem boot_super : bootBuiltins "super" = some (.type "super") := by decide +kernel
theorem look_rev {α : Type} {l : List (Str × α)} {x : Str} {v : α} (hn : (l.map (·.1)).Nodup) (hm : (x, v) ∈ l) : l.lookup x = some v := by
  induction l with
  | nil => exact absurd hm List.not_mem_nil
  | cons p r ih =>
    obtain ⟨m, w⟩ := p
    rw [List.map_cons, List.nodup_cons] at hn
    rw [List.lookup_cons]
    rcases List.mem_cons.mp hm with e | e
    · rw [(Prod.mk.inj e).1, beq_self_eq_true, (Prod.mk.inj e).2]
    · have : (x == m) = false := beq_eq_false_iff_ne.mpr fun q => hn.1 (List.mem_map.mpr ⟨(x, v), e, q⟩)
      rw [this]; exact ih hn.2 e
section
variable {W : Wd} {f n : Nat} {o : Obj} {fd : FuncData} {body : List Stmt} {vs : List (Str × Nat)} {ps : List Str} {A : Around} {c : Cf W}
theorem one_cell {x y : Str} {a b : Addr} (e : [(x, a)].lookup y = some b) : y = x ∧ b = a := by
  rw [List.lookup_cons] at e
  by_cases q : (y == x) = true
  · rw [q] at e; exact ⟨eq_of_beq q, (Option.some.inj e).symm⟩
  · rw [Bool.eq_false_iff.mpr q] at e; exact ns e
theorem call_super {X : Lx W} {g : Nat} {cc cda : Addr} {occ oc : Obj} {kvs : Array Value} {file : Str} {tf : Tok} {rest : List Stmt} {p0 p1 apos pos spos : Pos} {ar : Arg} {cd : ClassData} {i : Nat} {as : List (Nat × MV)} {xs : List MV} {vals : List Value} {Q : KV} {mb : MSs} (F : FnAt W f (MV.ref i :: xs).length o fd body vs ps)
    (Y : FnSup W fd body ps g cc cda occ oc kvs file tf rest p0 p1 apos pos spos ar cd) (ck : XEs W ⟨fd.scope, vs⟩ mb rest) (h1 : A.handled = none) (h2 : A.depth + 4 * (X.d + 1) + 2 ≤ 900) (h3 : A.units + 40 * (X.d + 1) + 20 ≤ 9000) (hr : c.Vs (MV.ref i :: xs) vals) (eo : c.hm.obj i = some (.inst as))
    (q : X.call g [.ref i] (fun _ h => exs X.lg mb (retQ Q) (bindV (.ref i :: xs)) h) c.hm) : codeAny W.M A (.call (.ref (W.faddr f)) ⟨vals, []⟩) (fun r s' => match r with | .ok (.ret v) => Out c Cf.V Q v s' | _ => False) c.s := by
  have K := X.K
  have hvl : vals.length = ps.length := hr.length.trans F.npar.symm
  have hb : BindsTo c.s fd ⟨vals, []⟩ (ps.zip vals) := fun M A Q E h => by rw [F.bind vals hvl]; exact wpAny_pure h
  have loc : ∀ p ∈ ps, fd.scope.names.lookup p = some .local := fun p hp => (F.pkind p hp).resolve_right fun e => Y.noCell _ (mem_of_look e) rfl
  refine ks_codeAny_call_defAt (o := o) (fd := fd) (body := body) (binds := ps.zip vals) (by simp [recursionLimit]; omega) (c.sim.base _ _ (K.X _ _ F.at_)) F.data (K.nolimit.keeps c.sim.base) (codeRec_of (c.X K) F.code) F.bodyAt hb Y.noCell (fun x hx => loc x.1 (List.of_mem_zip hx).1) (fun h₁ hns kp => ?_) F.noCo F.noGen F.kind
  have kp : Ext c.h h₁ := kp
  have e5 : (callEnv fd c.h.objs.size (W.faddr f)).cells = [(("__class__" : Str), cc)] := Y.closure
  have e7 : (callEnv fd c.h.objs.size (W.faddr f)).code = .ref cda := Y.codeIs
  have nd : (((ps.zip vals).reverse).map (·.1)).Nodup := by
    rw [List.map_reverse]
    refine (List.reverse_perm _).nodup_iff.mpr ?_
    rw [zip_names hvl]; exact F.pnodup
  have hcc : W.B.get? cc = some occ := K.X _ _ Y.ccAt
  have hccl : c.h.get? cc = some occ := c.sim.base _ _ hcc
  have hl : Above c.h c.h.objs.size := above_size _ (Nat.le_refl _)
  have ab : ∀ a ∈ Gx.mine ⟨callEnv fd c.h.objs.size (W.faddr f), vs, A.deeper (callEnv fd c.h.objs.size (W.faddr f))⟩, Above c.h a := mine_above hl fun n a k _ => absurd rfl (Y.noCell _ (mem_of_look k))
  have gk : GOk W ⟨fd.scope, vs⟩ X.d ⟨callEnv fd c.h.objs.size (W.faddr f), vs, A.deeper (callEnv fd c.h.objs.size (W.faddr f))⟩ :=
    ⟨rfl, rfl, F.kind, F.globals, F.builtins, room_deep h1 h2 h3, fun n a e z => by
      have e : (callEnv fd c.h.objs.size (W.faddr f)).cells.lookup n = some a := e
      rw [e5] at e
      rw [(one_cell e).2] at z
      have z : cc = c.h.objs.size := z
      exact hl.no (z ▸ hccl), fun n n' a e e' => by
      have e : (callEnv fd c.h.objs.size (W.faddr f)).cells.lookup n = some a := e
      have e' : (callEnv fd c.h.objs.size (W.faddr f)).cells.lookup n' = some a := e'
      rw [e5] at e e'
      exact (one_cell e).1.trans (one_cell e').1.symm, fun y i e e' => e'.elim (fun e' => absurd rfl (Y.noCell _ (mem_of_look e'))) fun e' => absurd e' (F.noFree y i e), F.inj, fun a ha => (ab a ha).back c.sim.base.alive⟩
  generalize ht : c.s.toks + (ps.zip vals).length = t0 at *
  have L0 : Later [] c (c.grow t0 kp) := later_grow kp
  have O : Fr ⟨callEnv fd c.h.objs.size (W.faddr f), vs, A.deeper (callEnv fd c.h.objs.size (W.faddr f))⟩ (bindV (.ref i :: xs)) (c.grow t0 kp) := by
    refine ⟨.mk (cm := fun _ => some (.ref W.C)) hns (fun n a e => ?_) fun y i v e1 e2 => ?_, fun a ha q => ?_⟩
    · have e : (callEnv fd c.h.objs.size (W.faddr f)).cells.lookup n = some a := e
      rw [e5] at e
      rw [(one_cell e).2]
      exact ⟨occ, kp _ _ hccl, Y.ccIs⟩
    · obtain ⟨u, hu, hy, _, _, hm⟩ := var_at F F.npar.symm hr e1 e2
      exact .mk (hu.stay kp.stay) (.loc (loc y hy) (look_rev nd (List.mem_reverse.mpr hm)))
    · rcases List.mem_cons.mp ha with z | z
      · induction c.sim.live a q with | mk e _ => exact hl.no (z ▸ e)
      · obtain ⟨p, _, z⟩ := List.mem_filterMap.mp z
        have z : (callEnv fd c.h.objs.size (W.faddr f)).cells.lookup p.1 = some a := z
        rw [e5] at z
        exact (c.sim.out a q).no (((one_cell z).2 ▸ hcc : W.B.get? a = some occ))
  have X1 := (c.grow t0 kp).X K
  have hbi := Y.bodyIs
  subst hbi
  obtain ⟨oD, hD1, hD2⟩ : ∃ oD, h₁.get? W.C = some oD ∧ oD.data = .cls cd := by
    have hD := Y.cls
    unfold clsIn at hD
    split at hD
    · rename_i ho
      exact ⟨_, X1 _ _ ho, congrArg Data.cls (Option.some.inj hD)⟩
    · exact ns hD
  obtain ⟨v0, hve, hv0⟩ := hr.get (i := 0) rfl
  have self : (ps.zip vals).reverse.lookup ar.arg = some v0 := look_rev nd (List.mem_reverse.mpr (List.mem_of_getElem? (i := 0) (by rw [List.getElem?_zip_eq_some]; exact ⟨Y.first0, hve⟩)))
  have hv0 : (c.grow t0 kp).V (.ref i) v0 := VRel.stay kp.stay hv0
  refine Cf.instE (c := c.grow t0 kp) (P := fun v => (ps.zip vals).reverse.lookup ar.arg = some v → _) hv0 eo (fun d ds n' hc0 _ I0 _ _ _ _ self => ?_) self
  have env6 : (callEnv fd c.h.objs.size (W.faddr f)).func = some (W.faddr f) := rfl
  refine ks_wpAt_execs_cons (ks_wpAt_Expr_any ?_ (by unfold interactive; rw [show (callEnv fd c.h.objs.size (W.faddr f)).scope.kind = .function from F.kind]; rfl) rfl)
  rw [arm_eval_Call]
  refine _root_.PySem.wpAt_bind (ks_wpAt_super_base (f := W.faddr f) (cc := cda) Y.kSuper Y.kClass (by decide) env6 (X1 _ _ F.at_) F.data Y.first e7 (X1 _ _ Y.cdAt) Y.cdIs Y.file2 Y.fileOk Y.noSuper ?_)
  refine ks_loadName_global F.kind Y.kSuper (Calls.loadGlobal_builtin (mg := W.mg) (mb := W.mb) (by rw [show (callEnv fd c.h.objs.size (W.faddr f)).globals = mainGlobals from F.globals]; exact K.g.keeps (c.grow t0 kp).sim.base) (mg_none_of K.X K.g (K.noBuiltin "super" (by simp))) (by rw [show (callEnv fd c.h.objs.size (W.faddr f)).builtins = builtinsNs from F.builtins]; exact K.b.keeps (c.grow t0 kp).sim.base) ((K.boots "super" (by decide)).trans boot_super) ⟨rfl, ?_⟩)
  refine wpAny_loadName_free F.kind Y.kClass (by rw [e5]; rfl) ⟨_, kp _ _ hccl, Y.ccIs⟩ ?_
  refine wpAny_loadName_local F.kind (loc _ (List.mem_of_getElem? Y.first0)) hns self ?_
  refine ks_wpAny_isType_cls hD1 hD2 ⟨rfl, ?_⟩
  refine ks_wpAny_call_super hD1 hD2 I0.at_ I0.cls (fun c e => ?_) (looks_mroIn X1 Y.sub) (fun h2 g2 k2 => ?_)
  · have := I0.no
    unfold notCls at this
    rw [e] at this
    exact Bool.noConfusion this
  have k2 : Ext h₁ h2 := k2
  have X2 := ((c.grow t0 kp).grow t0 k2).X K
  refine _root_.PySem.wpAt_of_wpAny (wpAny_bind (wpAny_standAt ?_))
  obtain ⟨of, hof, hofc⟩ : ∃ of, h2.get? (W.faddr g) = some of ∧ of.cls = .type "function" := by
    have ht' : (W.K.lookup (W.faddr g)).map (·.cls) = some (.type "function") := Y.upFn
    cases z : W.K.lookup (W.faddr g) with
    | none => rw [z] at ht'; exact ns ht'
    | some of => rw [z] at ht'; exact ⟨of, X2 _ _ z, Option.some.inj ht'⟩
  have I2 : InstAt h2 d.a (instObj W.C d.d) W.C (some (dictOf ds n')) := by
    obtain ⟨a1, a2, a3, a4⟩ := I0
    exact ⟨k2 _ _ a1, a2, a3, k2 _ _ a4⟩
  have g3 : (h2.push (methodObj (.ref (W.faddr g)) (.ref d.a))).get? h2.objs.size = some (methodObj (.ref (W.faddr g)) (.ref d.a)) := Heap.get?_push_size _ rfl
  have k3 : Ext h₁ (h2.push (methodObj (.ref (W.faddr g)) (.ref d.a))) := Ext.trans k2 (.push _ _)
  have L3 : Later [] (c.grow t0 kp) ((c.grow t0 kp).grow (t0 + 1) k3) := later_grow k3
  refine method_call (s' := ((c.grow t0 kp).grow (t0 + 1) k3).s) (f := .ref h2.objs.size) (first := []) rfl (by decide) Y.line
    (fun R pl q => ks_wpAny_getMethod_super g2 (looks_opaque X2 Y.plainWorld) (l₀ := cd.mro) (fun A Q E s k q => wpAny_bind ((looks_clsIn X2 Y.cls) A _ E s k (wpAny_pure q))) rfl X2 Y.up hof hofc (ks_ne X2 I2 Y.cls) (by decide) q) ?_
  have hv3 : ((c.grow t0 kp).grow (t0 + 1) k3).Vs [.ref i] [.ref d.a] := .one (IsRef.mk hc0)
  refine callWith_of (P := MethP W.K h2.objs.size (W.faddr g) (.ref d.a)) rfl (keeps_M Y.upIs) (evalArgs_nil3 ⟨⟨g3, ((c.grow t0 kp).grow (t0 + 1) k3).X K⟩, wpAny_call (ks_codeAny_call_bound g3 ?_)⟩)
  refine codeAny_mono (X.ok g (A.deeper (callEnv fd c.h.objs.size (W.faddr f))) [.ref i] [.ref d.a] _ ((c.grow t0 kp).grow (t0 + 1) k3) h1 (by show A.depth + 1 + 4 * X.d + 2 ≤ 900; omega) (by show A.units + 3 + 40 * X.d + 20 ≤ 9000; omega) hv3 q) fun r s' h => ?_
  rcases r with e | (_ | _ | _ | v) <;> first | exact h.elim | skip
  have h : Out ((c.grow t0 kp).grow (t0 + 1) k3) Cf.V _ v s' := h
  induction h with
  | @mk m v c4 r q L4 =>
  have LL := L3.trans L4
  have O4 := O.later LL
  show PySem.wpAt _ _ _ (execs rest _) _ _ c4.s
  refine _root_.PySem.wpAt_of_wpAny (wpAny_mono (ck X ⟨_, bindV (.ref i :: xs), c4, gk, O4⟩ (retQ Q) q) (fun fl s'' h => ?_) fun _ _ e => e.elim)
  have z := out_call (c := c) (p := ⟨_, bindV (.ref i :: xs), c.grow t0 kp, gk, O⟩) ab L0 rfl (OutS.trans (p := ⟨_, bindV (.ref i :: xs), c.grow t0 kp, gk, O⟩) (O := O4) LL.up h)
  cases fl <;> exact z
end
end Mini
end
section
namespace Mini
open PySem PySem.W PyProof.Rows PySem.SeqAt
inductive FnOk (W : Wd) (f : Nat) (fn : MFn) : Prop
  | plain {o : Obj} {fd : FuncData} {body : List Stmt} {vs : List (Str × Nat)} {ps : List Str} (F : FnAt W f fn.npar o fd body vs ps) (cl : fd.closure = []) (ck : XEs W ⟨fd.scope, vs⟩ fn.body body) (s : fn.sup = none)
  | sup {o : Obj} {fd : FuncData} {body : List Stmt} {vs : List (Str × Nat)} {ps : List Str} {g : Nat} {cc cda : Addr} {occ oc : Obj} {kvs : Array Value} {file : Str} {tf : Tok} {rest : List Stmt} {p0 p1 apos pos spos : Pos} {ar : Arg} {cd : ClassData} (F : FnAt W f fn.npar o fd body vs ps)
      (Y : FnSup W fd body ps g cc cda occ oc kvs file tf rest p0 p1 apos pos spos ar cd) (ck : XEs W ⟨fd.scope, vs⟩ fn.body rest) (s : fn.sup = some g)
theorem callOk {W : Wd} (K : WdOk W) (hf : ∀ f fn, W.P.fns[f]? = some fn → FnOk W f fn) (d : Nat) : CallOk W d (callD W.P W.script d) := by
  induction d with
  | zero => exact fun f A xs vs Q c _ _ _ _ q => q.elim
  | succ d hc =>
    intro f A xs vs Q c h1 h2 h3 r q
    induction q with
    | mk e q =>
    obtain ⟨hn, q⟩ := q
    induction hf f _ e with
    | plain F cl ck s =>
      rw [s] at q
      exact call_plain (X := ⟨d, _, K, hc⟩) (hn ▸ F) cl ck h1 h2 h3 r q
    | sup F Y ck s =>
      rw [s] at q
      cases q with
      | mk p q => exact call_super (X := ⟨d, _, K, hc⟩) (hn ▸ F) Y ck h1 h2 h3 r p q
end Mini
end
section
namespace Mini
open PySem PySem.W PyProof.Rows PySem.SeqAt
section
variable {p : Prop} {α : Type} {P : α → Prop}
noncomputable def oSome (o : Option α) (f : ∀ a, o = some a → Dec p) : Dec p := Option.rec (motive := fun o' => o = o' → Dec p) (fun _ => .no) f o rfl
noncomputable def oNone (o : Option α) (f : o = none → Dec p) : Dec p := Option.rec (motive := fun o' => o = o' → Dec p) f (fun _ _ => .no) o rfl
noncomputable def aFunc (d : Data) (f : ∀ x, d = .func x → Dec p) : Dec p := if h : d.ctorIdx = 7 then Data.func.elim (motive := fun d' => d = d' → Dec p) d h f rfl else .no
noncomputable def aCell (d : Data) (f : ∀ x, d = .cell x → Dec p) : Dec p := if h : d.ctorIdx = 6 then Data.cell.elim (motive := fun d' => d = d' → Dec p) d h f rfl else .no
noncomputable def aFields (d : Data) (f : ∀ x, d = .fields x → Dec p) : Dec p := if h : d.ctorIdx = 9 then Data.fields.elim (motive := fun d' => d = d' → Dec p) d h f rfl else .no
noncomputable def vInt (v : Value) (f : ∀ x t, v = .int x t → Dec p) : Dec p := if h : v.ctorIdx = 4 then Value.int.elim (motive := fun d' => v = d' → Dec p) v h f rfl else .no
noncomputable def vStr (v : Value) (f : ∀ x t, v = .str x t → Dec p) : Dec p := if h : v.ctorIdx = 6 then Value.str.elim (motive := fun d' => v = d' → Dec p) v h f rfl else .no
noncomputable def vRef (v : Value) (f : ∀ x, v = .ref x → Dec p) : Dec p := if h : v.ctorIdx = 10 then Value.ref.elim (motive := fun d' => v = d' → Dec p) v h f rfl else .no
noncomputable def vIs (v u : Value) (f : v = u → Dec p) : Dec p := deq v u f
noncomputable def oIs (o : Option Value) (u : Value) (f : o = some u → Dec p) : Dec p := oSome o fun v h => deq v u fun e => f (e ▸ h)
noncomputable def ooIs (o : Option (Option Value)) (u : Value) (f : o = some (some u) → Dec p) : Dec p := oSome o fun v h => oIs v u fun e => f (e ▸ h)
noncomputable def ooNo (o : Option (Option Value)) (f : o = some none → Dec p) : Dec p := oSome o fun v h => oNone v fun e => f (e ▸ h)
noncomputable def kIs (o : Option NameKind) (u : NameKind) (f : o = some u → Dec p) : Dec p := need (o == some u) fun h => f (eq_of_beq h)
noncomputable def allD (l : List α) (d : ∀ a, Dec (P a)) : Dec (∀ a ∈ l, P a) := List.rec (motive := fun l => Dec (∀ a ∈ l, P a)) (.yes fun _ h => absurd h List.not_mem_nil) (fun a _ ih => (d a).bind fun h => ih.bind fun h' => .yes (List.forall_mem_cons.mpr ⟨h, h'⟩)) l
noncomputable def atD {o : Option α} (d : ∀ a, Dec (P a)) : Dec (∀ a, o = some a → P a) := Option.rec (motive := fun o => Dec (∀ a, o = some a → P a)) .no (fun a => (d a).bind fun h => .yes fun b e => Option.some.inj e ▸ h) o
noncomputable def orD {a b : Prop} (x : Dec a) (y : Dec b) : Dec (a ∨ b) := Dec.rec (motive := fun _ => Dec (a ∨ b)) (y.bind fun h => .yes (.inr h)) (fun h => .yes (.inl h)) x
end
noncomputable def fdOf (o : Obj) : Option FuncData := if h : o.data.ctorIdx = 7 then some (Data.func.elim (motive := fun _ => FuncData) o.data h fun x => x) else none
noncomputable def bindOf (K : Frag) (a : Addr) (vals : List Value) : Sem (List (Str × Value)) := Option.elim ((K.lookup a).bind fdOf) (pure []) fun fd => bindArgs fd ⟨vals, []⟩
theorem bindOf_eq {K : Frag} {a : Addr} {vals : List Value} {o : Obj} {fd : FuncData} (h1 : K.lookup a = some o) (h2 : o.data = .func fd) : bindOf K a vals = bindArgs fd ⟨vals, []⟩ := by
  rcases o with ⟨c, d, x, s⟩
  subst h2
  unfold bindOf
  rw [h1]
  rfl
section
variable (W : Wd) {p : Prop} (f : Nat) (fn : MFn)
noncomputable def fnAtD {o : Obj} {fd : FuncData} {body : List Stmt} (vs : List (Str × Nat)) (ps : List Str) (hb : ∀ vals, vals.length = ps.length → bindOf W.K (W.faddr f) vals = pure (ps.zip vals)) (h1 : W.K.lookup (W.faddr f) = some o) (h2 : o.data = .func fd) (h3 : fd.body = .stmts body) : Dec (FnAt W f fn.npar o fd body vs ps) :=
  need (codeIn W.K fd.code fd.qualname) fun c1 => deq fd.globals mainGlobals fun c2 => deq fd.builtins builtinsNs fun c3 => need (fd.scope.kind == .function) fun c4 => deq fd.scope.isCoroutine false fun c5 => deq fd.scope.isGenerator false fun c6 =>
  deq ps.length fn.npar fun c7 => need (decide ps.Nodup) fun c8 => (allD (P := fun q => vs.lookup q.1 = some q.2) ps.zipIdx fun q => deq (vs.lookup q.1) (some q.2) .yes).bind fun c9 =>
  (allD (P := fun q => fd.scope.names.lookup q = some .local ∨ fd.scope.names.lookup q = some .cell) ps fun q => orD (kIs _ _ .yes) (kIs _ _ .yes)).bind fun c10 =>
  (allD (P := fun q => ∀ r ∈ vs, q.2 = r.2 → q.1 = r.1) vs fun q => allD vs fun r => if h : q.2 = r.2 then deq q.1 r.1 fun e => .yes fun _ => e else .yes fun e => absurd e h).bind fun c11 =>
  (allD (P := fun q => (fd.scope.names.lookup q.1 != some .free) = true) vs fun q => need _ .yes).bind fun c12 =>
  .yes ⟨h1, h2, h3, c1, c2, c3, eq_of_beq c4, c5, c6, c7, of_decide_eq_true c8, fun vals h => (bindOf_eq h1 h2).symm.trans (hb vals h), fun i q h => c9 (q, i) (List.mem_zipIdx_iff_getElem?.mpr h), c10, fun x y i a b => c11 _ (mem_of_look a) _ (mem_of_look b) rfl, fun x i a => bne_iff_ne.mp (c12 _ (mem_of_look a))⟩
noncomputable def supLine {G : Prop} (body : List Stmt) (d : ∀ p0 p1 apos pos spos rest, (apos.endLine == pos.line) = true → Dec (body = .Expr (.Call (.Attribute (.Call (.Name "super" p0) [] [] p1) "__init__" apos) [] [] pos) spos :: rest → G)) : Dec G :=
  (dCons (L := fun b => body = b → G) (l := body) fun st rest => sExpr (P := fun st => body = st :: rest → G) fun e spos => dCall (P := fun e => body = .Expr e spos :: rest → G) fun g' as ks pos => dAttr (P := fun g' => body = .Expr (.Call g' as ks pos) spos :: rest → G) fun b nm apos =>
      dCall (P := fun b => body = .Expr (.Call (.Attribute b nm apos) as ks pos) spos :: rest → G) fun sn as' ks' p1 => dNm (P := fun sn => body = .Expr (.Call (.Attribute (.Call sn as' ks' p1) nm apos) as ks pos) spos :: rest → G) fun id p0 =>
      dNil (L := fun as => body = .Expr (.Call (.Attribute (.Call (.Name id p0) as' ks' p1) nm apos) as ks pos) spos :: rest → G) <| dNil (L := fun ks => body = .Expr (.Call (.Attribute (.Call (.Name id p0) as' ks' p1) nm apos) [] ks pos) spos :: rest → G) <|
      dNil (L := fun as' => body = .Expr (.Call (.Attribute (.Call (.Name id p0) as' ks' p1) nm apos) [] [] pos) spos :: rest → G) <| dNil (L := fun ks' => body = .Expr (.Call (.Attribute (.Call (.Name id p0) [] ks' p1) nm apos) [] [] pos) spos :: rest → G) <|
      deq id "super" fun k1 => deq nm "__init__" fun k2 => need (apos.endLine == pos.line) fun k3 => k1 ▸ k2 ▸ d p0 p1 apos pos spos rest k3).bind fun h => .yes (h rfl)
noncomputable def supCk {o : Obj} {fd : FuncData} {body : List Stmt} {vs : List (Str × Nat)} {ps : List Str} {g : Nat} (F : FnAt W f fn.npar o fd body vs ps) (s : fn.sup = some g) : Dec (FnOk W f fn) :=
  (dOne (L := fun c => fd.closure = c → FnOk W f fn) (l := fd.closure) fun q => Prod.rec (motive := fun q => Dec (fd.closure = [q] → FnOk W f fn)) (fun n cc => deq n "__class__" fun h1 =>
    oSome (W.K.lookup cc) fun occ h2 => aCell occ.data fun cv h3 => oIs cv (.ref W.C) fun h3' => vRef fd.code fun cda h4 => oSome (W.K.lookup cda) fun oc h5 => aFields oc.data fun kvs h6 => oSome kvs[2]? fun fv h7 => vStr fv fun file tf h8 =>
    need ((W.prog.main.file : Str) == file) fun h9 => deq (W.prog.main.scope.names.lookup ("super" : Str)).isSome false fun h10 => oSome (fd.params.posonlyargs ++ fd.params.args).head? fun ar h11 => deq ps[0]? (some ar.arg) fun h12 =>
    kIs (fd.scope.names.lookup ("super" : Str)) .globalImplicit fun h13 => kIs (fd.scope.names.lookup ("__class__" : Str)) .free fun h14 => (allD (P := fun x => (x.2 != NameKind.cell) = true) fd.scope.names fun x => need _ .yes).bind fun h15 =>
    oSome (clsIn W.K W.C) fun cd h16 => deq (mroIn W.K W.C (.ref W.C)) (some true) fun h17 => ooIs (alongIn W.K "__init__" ((cd.mro.dropWhile (· != .ref W.C)).drop 1)) (.ref (W.faddr g)) fun h18 =>
    need (fnIn W.K (W.faddr g)) fun h19 => oIs (typeIn W.K (.ref (W.faddr g))) (.type "function") fun h20 => ooNo (nsIn W.K cStatics "thirdparty.any") fun h21 =>
    supLine body fun p0 p1 apos pos spos rest k3 => (trSs W fn.body ⟨fd.scope, vs⟩ rest).bind fun ck => .yes fun hb hc => .sup F ⟨h1 ▸ hc, h2, h3.trans (congrArg Data.cell h3'), h4, h5, h6, h8 ▸ h7, h9, h10, hb, h11, h12, h13, h14, fun x hx => bne_iff_ne.mp (h15 x hx), h16, h17, h18, k3, h19, h20, h21⟩ ck s) q).bind fun h => .yes (h rfl)
noncomputable def fnD (vs : List (Str × Nat)) (ps : List Str) (hb : ∀ vals, vals.length = ps.length → bindOf W.K (W.faddr f) vals = pure (ps.zip vals)) : Dec (FnOk W f fn) :=
  oSome (W.K.lookup (W.faddr f)) fun o h1 => aFunc o.data fun fd h2 => FuncBody.rec (motive := fun b => fd.body = b → Dec _) (fun body h3 => (fnAtD W f fn vs ps hb h1 h2 h3).bind fun F =>
    Option.rec (motive := fun s => fn.sup = s → Dec _) (fun s => deq fd.closure.isEmpty true fun cl => (trSs W fn.body ⟨fd.scope, vs⟩ body).bind fun ck => .yes (.plain F (List.isEmpty_iff.mp cl) ck s))
      (fun g s => supCk W f fn F s) fn.sup rfl) (fun _ _ => .no) fd.body rfl
end
end Mini
end
section
namespace Mini
open PySem PySem.W PyProof.Rows PySem.SeqAt
section
variable (W : Wd)
noncomputable def wdD (X : W.K.In W.B) (g : W.B.Ns mainGlobals W.mg) (b : W.B.Ns builtinsNs W.mb) (nl : W.B.NoLimit) (bo : ∀ x : Str, x ≠ "__name__" → W.mb x = bootBuiltins x) (sp : ∃ vs, W.B.IsList W.scriptAt vs.toArray ∧ IntsAre vs W.script) (sl : W.script.length ≤ lenLine) : Dec (WdOk W) :=
  deq (W.T.strTab.take 6) (["append", "extend", "pop", "count", "get", "setdefault"] : List Str) fun c1 =>
  (allD (P := fun (q : Str × Int) => ∃ t, nsIn W.K mainGlobals q.1 = some (some (.int q.2 t))) W.T.globTab fun q => oSome (nsIn W.K mainGlobals q.1) fun v h => oSome v fun v' h' => vInt v' fun i t e => deq i q.2 fun e' => .yes ⟨t, e' ▸ e ▸ h' ▸ h⟩).bind fun c2 =>
  (allD (P := fun f => ∀ x, W.T.fnTab[f]? = some x → nsIn W.K mainGlobals x = some (some (.ref (W.faddr f))) ∧ fnIn W.K (W.faddr f) = true) (List.range W.T.fnTab.length) fun f => atD fun x => ooIs (nsIn W.K mainGlobals x) (.ref (W.faddr f)) fun h => need (fnIn W.K (W.faddr f)) fun h' => .yes ⟨h, h'⟩).bind fun c3 =>
  ooIs (nsIn W.K mainGlobals W.T.cname) (.ref W.C) fun c4 => ooIs (specialIn W.K (.ref W.C) "__call__") (.builtin "type.__call__") fun c5 => need (isClsIn W.K W.C) fun c6 =>
  (allD (P := fun x => nsIn W.K mainGlobals x = some none) (["len", "abs", "list", "tuple", "dict", "max", "sorted", "range", "super", "set", "int", "enumerate"] : List Str) fun x => ooNo _ .yes).bind fun c7 =>
  (allD (P := fun (p : Nat × Nat) => ∀ x, W.T.strTab[p.1]? = some x → findIn W.K (.ref W.C) x = some (some (.ref (W.faddr p.2))) ∧ typeIn W.K (.ref (W.faddr p.2)) = some (.type "function") ∧ (∀ a ∈ W.T.attrTab, a ≠ p.1) ∧ fnIn W.K (W.faddr p.2) = true ∧
    specialIn W.K (.ref (W.faddr p.2)) "__get__" = some (some (.builtin "function.__get__")) ∧ takesIn W.K (.ref (W.faddr p.2)) = some false ∧ copiedNames.contains x = false) W.P.meths fun p => atD fun x =>
      ooIs (findIn W.K (.ref W.C) x) (.ref (W.faddr p.2)) fun h1 => oIs (typeIn W.K (.ref (W.faddr p.2))) (.type "function") fun h2 => (allD (P := fun a => a ≠ p.1) W.T.attrTab fun a => need (a != p.1) fun h => .yes (bne_iff_ne.mp h)).bind fun h3 => need (fnIn W.K (W.faddr p.2)) fun h4 =>
      ooIs (specialIn W.K (.ref (W.faddr p.2)) "__get__") (.builtin "function.__get__") fun h5 => deq (takesIn W.K (.ref (W.faddr p.2))) (some false) fun h6 => deq (copiedNames.contains x) false fun h7 => .yes ⟨h1, h2, h3, h4, h5, h6, h7⟩).bind fun c8 =>
  need (makesIn W.K W.C) fun c9 => need (keepIn W.K (.ref W.C)) fun c10 => ooIs (findIn W.K (.ref W.C) "__init__") (.ref (W.faddr W.P.init)) fun c11 => oIs (typeIn W.K (.ref (W.faddr W.P.init))) (.type "function") fun c12 =>
  need (decide W.T.strTab.Nodup) fun c13 => ooIs (findIn W.K (.ref W.C) "__getattribute__") (.builtin "object.__getattribute__") fun c14 => ooNo (findIn W.K (.ref W.C) "__getattr__") fun c15 => ooIs (findIn W.K (.ref W.C) "__setattr__") (.builtin "object.__setattr__") fun c16 =>
  need (plainOver W.K W.C) fun c17 => need (hasDictIn W.K W.C) fun c18 => (allD (P := fun (a : Nat) => ∀ x, W.T.strTab[a]? = some x → findIn W.K (.ref W.C) x = some none) W.T.attrTab fun a => atD fun x => ooNo _ .yes).bind fun c19 =>
  .yes ⟨c1, fun x i h => c2 _ (mem_of_look h), fun f x h => c3 f (List.mem_range.mpr (List.getElem?_eq_some_iff.mp h).1) x h, c4, c5, c6, c7, fun m f x h => c8 (m, f) (mem_of_look h) x, c9, c10, c11, c12, X, g, b, nl, bo, sp, sl, of_decide_eq_true c13, c14, c15, c16, c17, c18, fun a x h => c19 a h x⟩
structure FCk where
  fn : MFn
  vs : List (Str × Nat)
  ps : List Str
noncomputable def BindAll (K : Frag) (faddr : Nat → Addr) (f : Nat) (cs : List FCk) : Prop := List.rec (motive := fun _ => Nat → Prop) (fun _ => True) (fun c _ ih f => (∀ vals, vals.length = c.ps.length → bindOf K (faddr f) vals = pure (c.ps.zip vals)) ∧ ih (f + 1)) cs f
noncomputable def bindRow (K : Frag) (faddr : Nat → Addr) (vals : List Value) (f : Nat) (cs : List FCk) : List (Sem (List (Str × Value))) := List.rec (motive := fun _ => Nat → List (Sem (List (Str × Value)))) (fun _ => []) (fun c _ ih f => bindOf K (faddr f) (vals.take c.ps.length) :: ih (f + 1)) cs f
noncomputable def wantRow (vals : List Value) (cs : List FCk) : List (Sem (List (Str × Value))) := cs.map fun c => pure (c.ps.zip (vals.take c.ps.length))
theorem take4 {vals : List Value} (h : vals.length ≤ 4) : ∃ a b c d, vals = [a, b, c, d].take vals.length := by
  rcases vals with _ | ⟨a, _ | ⟨b, _ | ⟨c, _ | ⟨d, _ | ⟨e, r⟩⟩⟩⟩⟩
  · exact ⟨.none, .none, .none, .none, rfl⟩
  · exact ⟨a, .none, .none, .none, rfl⟩
  · exact ⟨a, b, .none, .none, rfl⟩
  · exact ⟨a, b, c, .none, rfl⟩
  · exact ⟨a, b, c, d, rfl⟩
  · exact absurd h (Nat.not_le.mpr (Nat.le_add_left 5 r.length))
theorem bindAll_of {K : Frag} {faddr : Nat → Addr} {cs : List FCk} (h3 : cs.all (fun c => Nat.ble c.ps.length 4) = true) (f : Nat) (h : ∀ a b c d, bindRow K faddr [a, b, c, d] f cs = wantRow [a, b, c, d] cs) : BindAll K faddr f cs := by
  induction cs generalizing f with
  | nil => exact trivial
  | cons c cs ih =>
    refine ⟨fun vals e => ?_, ih (t2 h3).2 (f + 1) fun x y z t => (List.cons.inj (h x y z t)).2⟩
    obtain ⟨x, y, z, t, q⟩ := take4 (vals := vals) (e ▸ Nat.le_of_ble_eq_true (t2 h3).1)
    rw [q, e]
    exact (List.cons.inj (h x y z t)).1
noncomputable def fnsD (cs : List FCk) : (f : Nat) → BindAll W.K W.faddr f cs → Dec (∀ i c, cs[i]? = some c → FnOk W (f + i) c.fn) :=
  List.rec (motive := fun cs => (f : Nat) → BindAll W.K W.faddr f cs → Dec (∀ i c, cs[i]? = some c → FnOk W (f + i) c.fn)) (fun _ _ => .yes fun _ _ e => ns e)
    (fun c _ ih f hb => (fnD W f c.fn c.vs c.ps hb.1).bind fun h => (ih (f + 1) hb.2).bind fun h' => .yes fun i d e => by
      rcases i with _ | i
      · exact Option.some.inj e ▸ h
      · rw [← Nat.add_assoc, Nat.add_right_comm]; exact h' i d e) cs
theorem fnOk_of {cs : List FCk} (hP : W.P.fns = cs.map FCk.fn) (h : ∀ i c, cs[i]? = some c → FnOk W (0 + i) c.fn) (f : Nat) (fn : MFn) (e : W.P.fns[f]? = some fn) : FnOk W f fn := by
  rw [hP, List.getElem?_map] at e
  obtain ⟨c, e, r⟩ := Option.map_eq_some_iff.mp e
  exact r ▸ Nat.zero_add f ▸ h f c e
end
end Mini
end
section
namespace Mini.C
open PySem Mini
noncomputable def f_ordered : MFn := ⟨1, none,
    (.cons (.assign (.var 1) .dict0)
    (.cons (.for 2 (.var 0) (.cons (.ite (.cmp .isin (.neg (.var 2)) (.var 1)) (.cons (.ret .none)
    .nil) .nil)
    (.cons (.assign (.sub (.var 1) (.var 2)) (.bool true))
    .nil)))
    (.cons (.ret (.callB .tuple (.cons (.sortAbs (.var 1)) .nil)))
    .nil)))⟩
noncomputable def v_ordered : List (Str × Nat) := [(Str.ofString "literals", 0), (Str.ofString "found", 1), (Str.ofString "one", 2)]
noncomputable def f_Values___init__ : MFn := ⟨1, none,
    (.cons (.assign (.attr (.var 0) 18) .dict0)
    (.cons (.assign (.attr (.var 0) 9) .dict0)
    (.cons (.assign (.attr (.var 0) 19) .dict0)
    (.cons (.assign (.attr (.var 0) 8) (.list .nil))
    (.cons (.assign (.attr (.var 0) 7) (.list .nil))
    (.cons (.assign (.attr (.var 0) 20) (.int 0))
    (.cons (.assign (.attr (.var 0) 21) .dict0)
    .nil)))))))⟩
noncomputable def v_Values___init__ : List (Str × Nat) := [(Str.ofString "self", 0)]
noncomputable def f_Values_says : MFn := ⟨2, none,
    (.cons (.assign (.var 2) (.callM (.attr (.var 0) 18) 4 (.cons (.callB .abs (.cons (.var 1) .nil)) .nil)))
    (.cons (.ret (.ite (.cmp .is (.var 2) .none) .none (.cmp .eq (.var 2) (.cmp .gt (.var 1) (.int 0)))))
    .nil))⟩
noncomputable def v_Values_says : List (Str × Nat) := [(Str.ofString "self", 0), (Str.ofString "literal", 1), (Str.ofString "truth", 2)]
noncomputable def f_Values_let : MFn := ⟨3, none,
    (.cons (.assign (.var 3) (.callB .abs (.cons (.var 1) .nil)))
    (.cons (.assign (.sub (.attr (.var 0) 18) (.var 3)) (.cmp .gt (.var 1) (.int 0)))
    (.cons (.assign (.sub (.attr (.var 0) 9) (.var 3)) (.callB .len (.cons (.attr (.var 0) 7) .nil)))
    (.cons (.assign (.sub (.attr (.var 0) 19) (.var 3)) (.var 2))
    (.cons (.expr (.callM (.attr (.var 0) 8) 0 (.cons (.var 1) .nil)))
    .nil)))))⟩
noncomputable def v_Values_let : List (Str × Nat) := [(Str.ofString "self", 0), (Str.ofString "literal", 1), (Str.ofString "cause", 2), (Str.ofString "v", 3)]
noncomputable def f_Values_back_to : MFn := ⟨2, none,
    (.cons (.ite (.cmp .lt (.var 1) (.callB .len (.cons (.attr (.var 0) 7) .nil))) (.cons (.while (.cmp .gt (.callB .len (.cons (.attr (.var 0) 8) .nil)) (.sub (.attr (.var 0) 7) (.var 1))) (.cons (.assign (.var 2) (.callB .abs (.cons (.callM (.attr (.var 0) 8) 2 .nil) .nil)))
    (.cons (.assign (.sub (.attr (.var 0) 21) (.var 2)) (.callM (.attr (.var 0) 18) 2 (.cons (.var 2) .nil)))
    .nil)))
    (.cons (.assign (.attr (.var 0) 7) (.sliceTo (.attr (.var 0) 7) (.var 1)))
    (.cons (.assign (.attr (.var 0) 20) (.callB .len (.cons (.attr (.var 0) 8) .nil)))
    .nil))) .nil)
    .nil)⟩
noncomputable def v_Values_back_to : List (Str × Nat) := [(Str.ofString "self", 0), (Str.ofString "height", 1), (Str.ofString "v", 2)]
noncomputable def f_Search___init__ : MFn := ⟨3, none,
    (.cons (.assign (.attr (.var 0) 22) (.list .nil))
    (.cons (.assign (.attr (.var 0) 23) .dict0)
    (.cons (.assign (.attr (.var 0) 24) (.dcomp (.var 4) (.int 0) 4 (.callB .range2 (.cons (.int 1) (.cons (.bin .add (.var 2) (.int 1)) .nil)))))
    (.cons (.assign (.attr (.var 0) 25) (.int 1))
    (.cons (.assign (.attr (.var 0) 11) (.list .nil))
    (.cons (.assign (.attr (.var 0) 13) (.bool false))
    (.cons (.assign (.attr (.var 0) 26) (.tup .nil))
    (.cons (.assign (.attr (.var 0) 10) (.int 0))
    (.cons (.assign (.attr (.var 0) 27) (.int 0))
    (.cons (.for 3 (.var 1) (.cons (.expr (.callM (.var 0) 28 (.cons (.var 3) .nil)))
    .nil))
    .nil))))))))))⟩
noncomputable def v_Search___init__ : List (Str × Nat) := [(Str.ofString "self", 0), (Str.ofString "clauses", 1), (Str.ofString "many", 2), (Str.ofString "clause", 3)]
noncomputable def f_Search_add_clause : MFn := ⟨2, none,
    (.cons (.expr (.callM (.var 0) 29 (.cons (.int 0) .nil)))
    (.cons (.assign (.var 2) (.callF 0 (.cons (.var 1) .nil)))
    (.cons (.for 3 (.var 1) (.cons (.expr (.callM (.attr (.var 0) 24) 5 (.cons (.callB .abs (.cons (.var 3) .nil)) (.cons (.int 0) .nil))))
    .nil))
    (.cons (.ite (.or (.cons (.cmp .is (.var 2) .none) (.cons (.attr (.var 0) 13) (.cons (.cmp .isin (.bool true) (.comp (.callM (.var 0) 15 (.cons (.var 5) .nil)) 5 (.var 2) .nil)) .nil)))) (.cons (.ret (.not (.attr (.var 0) 13)))
    .nil) .nil)
    (.cons (.assign (.var 4) (.comp (.var 6) 6 (.var 2) (.cons (.cmp .is (.callM (.var 0) 15 (.cons (.var 6) .nil)) .none) .nil)))
    (.cons (.ite (.cmp .eq (.callB .len (.cons (.var 4) .nil)) (.int 0)) (.cons (.expr (.callM (.var 0) 30 .nil))
    .nil) (.cons (.ite (.cmp .eq (.callB .len (.cons (.var 4) .nil)) (.int 1)) (.cons (.expr (.callM (.var 0) 17 (.cons (.sub (.var 4) (.int 0)) (.cons .none .nil))))
    .nil) (.cons (.expr (.callM (.var 0) 31 (.cons (.var 4) .nil)))
    .nil))
    .nil))
    (.cons (.ret (.not (.attr (.var 0) 13)))
    .nil)))))))⟩
noncomputable def v_Search_add_clause : List (Str × Nat) := [(Str.ofString "self", 0), (Str.ofString "literals", 1), (Str.ofString "clause", 2), (Str.ofString "one", 3), (Str.ofString "left", 4)]
noncomputable def f_Search_refute : MFn := ⟨1, none,
    (.cons (.assign (.attr (.var 0) 13) (.bool true))
    (.cons (.expr (.callM (.attr (.var 0) 11) 0 (.cons (.tup .nil) .nil)))
    .nil))⟩
noncomputable def v_Search_refute : List (Str × Nat) := [(Str.ofString "self", 0)]
noncomputable def f_Search_keep : MFn := ⟨2, none,
    (.cons (.expr (.callM (.attr (.var 0) 22) 0 (.cons (.callB .list (.cons (.var 1) .nil)) .nil)))
    (.cons (.for 2 (.sliceTo (.var 1) (.int 2)) (.cons (.expr (.callM (.callM (.attr (.var 0) 23) 5 (.cons (.var 2) (.cons (.list .nil) .nil))) 0 (.cons (.bin .sub (.callB .len (.cons (.attr (.var 0) 22) .nil)) (.int 1)) .nil)))
    .nil))
    (.cons (.ret (.bin .sub (.callB .len (.cons (.attr (.var 0) 22) .nil)) (.int 1)))
    .nil)))⟩
noncomputable def v_Search_keep : List (Str × Nat) := [(Str.ofString "self", 0), (Str.ofString "literals", 1), (Str.ofString "one", 2)]
noncomputable def f_Search_spread : MFn := ⟨1, none,
    (.cons (.while (.cmp .lt (.attr (.var 0) 20) (.callB .len (.cons (.attr (.var 0) 8) .nil))) (.cons (.assign (.var 1) (.neg (.sub (.attr (.var 0) 8) (.attr (.var 0) 20))))
    (.cons (.assign (.attr (.var 0) 20) (.bin .add (.attr (.var 0) 20) (.int 1)))
    (.cons (.assigns [(.var 2), (.var 3)] (.cons (.callM (.attr (.var 0) 23) 2 (.cons (.var 1) (.cons (.list .nil) .nil))) (.cons (.list .nil) .nil)))
    (.cons (.assign (.sub (.attr (.var 0) 23) (.var 1)) (.var 3))
    (.cons (.for 4 (.callB .range1 (.cons (.callB .len (.cons (.var 2) .nil)) .nil)) (.cons (.ite (.not (.callM (.var 0) 32 (.cons (.sub (.var 2) (.var 4)) (.cons (.var 1) .nil)))) (.cons (.expr (.callM (.var 3) 0 (.cons (.sub (.var 2) (.var 4)) .nil)))
    (.cons (.assign (.var 5) (.sub (.sub (.attr (.var 0) 22) (.sub (.var 2) (.var 4))) (.int 0)))
    (.cons (.ite (.cmp .eq (.callM (.var 0) 15 (.cons (.var 5) .nil)) (.bool false)) (.cons (.expr (.callM (.var 3) 1 (.cons (.sliceFrom (.var 2) (.bin .add (.var 4) (.int 1))) .nil)))
    (.cons (.ret (.sub (.var 2) (.var 4)))
    .nil)) .nil)
    (.cons (.ite (.cmp .is (.callM (.var 0) 15 (.cons (.var 5) .nil)) .none) (.cons (.expr (.callM (.var 0) 17 (.cons (.var 5) (.cons (.sub (.var 2) (.var 4)) .nil))))
    .nil) .nil)
    .nil)))) .nil)
    .nil))
    .nil))))))
    (.cons (.ret (.neg (.int 1)))
    .nil))⟩
noncomputable def v_Search_spread : List (Str × Nat) := [(Str.ofString "self", 0), (Str.ofString "lost", 1), (Str.ofString "numbers", 2), (Str.ofString "stay", 3), (Str.ofString "k", 4), (Str.ofString "first", 5)]
noncomputable def f_Search_has_moved : MFn := ⟨3, none,
    (.cons (.assign (.var 3) (.sub (.attr (.var 0) 22) (.var 1)))
    (.cons (.ite (.cmp .eq (.sub (.var 3) (.int 0)) (.var 2)) (.cons (.assigns [(.sub (.var 3) (.int 0)), (.sub (.var 3) (.int 1))] (.cons (.sub (.var 3) (.int 1)) (.cons (.var 2) .nil)))
    .nil) .nil)
    (.cons (.ite (.cmp .eq (.callM (.var 0) 15 (.cons (.sub (.var 3) (.int 0)) .nil)) (.bool true)) (.cons (.ret (.bool false))
    .nil) .nil)
    (.cons (.for 4 (.callB .range2 (.cons (.int 2) (.cons (.callB .len (.cons (.var 3) .nil)) .nil))) (.cons (.ite (.cmp .ne (.callM (.var 0) 15 (.cons (.sub (.var 3) (.var 4)) .nil)) (.bool false)) (.cons (.assigns [(.sub (.var 3) (.int 1)), (.sub (.var 3) (.var 4))] (.cons (.sub (.var 3) (.var 4)) (.cons (.var 2) .nil)))
    (.cons (.expr (.callM (.callM (.attr (.var 0) 23) 5 (.cons (.sub (.var 3) (.int 1)) (.cons (.list .nil) .nil))) 0 (.cons (.var 1) .nil)))
    (.cons (.ret (.bool true))
    .nil))) .nil)
    .nil))
    (.cons (.ret (.bool false))
    .nil)))))⟩
noncomputable def v_Search_has_moved : List (Str × Nat) := [(Str.ofString "self", 0), (Str.ofString "number", 1), (Str.ofString "lost", 2), (Str.ofString "some", 3), (Str.ofString "k", 4)]
end Mini.C
end
section
namespace Mini
noncomputable def Ev (L : Lg) (ρ : Vars) (h : MHeap) (e : ME) (v : MV) : Prop := ∀ (t : Bool) (Q : KV), fin t Q v h → ev L e ρ t Q h
noncomputable def EvL (L : Lg) (ρ : Vars) (h : MHeap) (e : MEs) (v : List MV) : Prop := ∀ Q : List MV → MHeap → Prop, Q v h → evL L e ρ Q h
noncomputable def seq (L : Lg) (r : MSs) (Q : KF) : KF := fun f ρ h => match f with
  | .next => exs L r Q ρ h
  | f => Q f ρ h
noncomputable def turn (Q : KF) (K : Vars → HP) : KF := fun f ρ h => match f with
  | .next => K ρ h
  | .cont => K ρ h
  | .brk => Q .next ρ h
  | .ret w => Q (.ret w) ρ h
noncomputable def forB (L : Lg) (x : Nat) (b : MSs) : MV → PS := fun v Q ρ h => exs L b Q (Vars.set ρ x v) h
section
variable {L : Lg} {ρ : Vars} {h h' : MHeap} {e o l r i k a b : ME} {es : MEs} {u v w : MV} {t : Bool} {n m : Nat} {Q : KV}
theorem fin_bool {b : Bool} (H : fin t Q (.bool b) h) : Q (.bool b) h := by
  rcases t with _ | _
  · exact H
  · generalize hv : MV.bool b = v at H
    have H : Yields (Tru v) fun b => Q (.bool b) h := H
    induction H with
    | mk r q => subst hv; cases r; exact q
theorem bool_fin {b : Bool} (H : Q (.bool b) h) : fin t Q (.bool b) h := by
  rcases t with _ | _
  · exact H
  · exact .mk (.bool b) H
theorem fin_tru {b : Bool} (T : Tru v b) (H : Q (.bool b) h) : fin true Q v h := .mk T H
theorem Ev.go (E : Ev L ρ h e v) (H : Q v h) : ev L e ρ false Q h := E false Q H
theorem Ev.tru {b : Bool} (E : Ev L ρ h e v) (T : Tru v b) (H : Q (.bool b) h) : ev L e ρ true Q h := E true Q (.mk T H)
theorem e_none : Ev L ρ h .none .none := fun _ _ H => H
theorem e_bool {b : Bool} : Ev L ρ h (.bool b) (.bool b) := fun _ _ H => H
theorem e_int {i : Int} : Ev L ρ h (.int i) (.int i) := fun _ _ H => H
theorem e_str {s : Nat} : Ev L ρ h (.str s) (.str s) := fun _ _ H => H
theorem e_glob {i : Int} : Ev L ρ h (.glob i) (.int i) := fun _ _ H => H
theorem e_var (q : ρ n = some v) : Ev L ρ h (.var n) v := fun _ _ H => .mk q H
theorem e_attr (E : Ev L ρ h e u) (q : GetA h u n w) : Ev L ρ h (.attr e n) w := fun _ _ H => E.go (.mk q H)
theorem e_ari {op : MOp} {x y z : Int} (E : Ev L ρ h l (.int x)) (E' : Ev L ρ h r (.int y)) (q : Ari op x y z) : Ev L ρ h (.bin op l r) (.int z) := fun _ _ H => E.go (E'.go (.mk (.ari q) H))
theorem e_neg {x : Int} (E : Ev L ρ h e (.int x)) : Ev L ρ h (.neg e) (.int (-x)) := fun _ _ H => E.go (.mk (.mk x) H)
theorem e_not {b : Bool} (E : Ev L ρ h e v) (q : Tru v b) : Ev L ρ h (.not e) (.bool !b) := fun t Q H => E t _ (by
  rcases t with _ | _
  · exact .mk q H
  · exact .mk q (.mk (.bool b) (fin_bool H)))
theorem e_cmp {op : MCmp} {b : Bool} (E : Ev L ρ h l v) (E' : Ev L ρ h r w) (q : Cmp h op v w b) : Ev L ρ h (.cmp op l r) (.bool b) := fun _ _ H => E.go (E'.go (.mk q (fin_bool H)))
theorem e_iteT (E : Ev L ρ h e v) (q : Tru v true) (E' : Ev L ρ h a w) : Ev L ρ h (.ite e a b) w := fun t Q H => E.tru q (.yes rfl (E' t Q H))
theorem e_iteF (E : Ev L ρ h e v) (q : Tru v false) (E' : Ev L ρ h b w) : Ev L ρ h (.ite e a b) w := fun t Q H => E.tru q (.no rfl (E' t Q H))
theorem e_sub (E : Ev L ρ h e v) (E' : Ev L ρ h i w) (q : GetI h v w u) : Ev L ρ h (.sub e i) u := fun _ _ H => E.go (E'.go (.mk q H))
theorem e_nil : EvL L ρ h .nil [] := fun _ H => H
theorem e_cons {vs : List MV} (E : Ev L ρ h e v) (E' : EvL L ρ h es vs) : EvL L ρ h (.cons e es) (v :: vs) := fun _ H => E.go (E' _ H)
theorem e_one (E : Ev L ρ h e v) : EvL L ρ h (.cons e .nil) [v] := e_cons E e_nil
theorem e_tup {vs : List MV} (E : EvL L ρ h es vs) (l : vs.length ≤ 100) (f : vs.all MV.flat = true) : Ev L ρ h (.tup es) (.tup vs) := fun _ _ H => E _ ⟨l, f, H⟩
theorem e_bui {b : MB} {vs : List MV} (E : EvL L ρ h es vs) (q : Bui h b vs u h) : Ev L ρ h (.callB b es) u := fun _ _ H => E _ (.of q H)
theorem e_len {xs : List MV} (E : Ev L ρ h e (.ref n)) (p : h.obj n = some (.list xs)) : Ev L ρ h (.callB .len (.cons e .nil)) (.int xs.length) := e_bui (e_one E) (.lenL p)
theorem e_abs {x : Int} (E : Ev L ρ h e (.int x)) : Ev L ρ h (.callB .abs (.cons e .nil)) (.int x.natAbs) := e_bui (e_one E) (.abs x)
theorem e_get {x : Int} {ds : List (Int × MV)} (E : Ev L ρ h o (.ref n)) (p : h.obj n = some (.idict ds)) (E' : Ev L ρ h k (.int x)) : Ev L ρ h (.callM o 4 (.cons k .nil)) ((kget ds x).getD .none) := fun _ _ H => E.go (.mk (.dict p (.inr (.inl rfl))) (e_one E' _ (.mk (.get x p) H)))
theorem e_meth {as : List (Nat × MV)} {f : Nat} {vs : List MV} (E : Ev L ρ h o (.ref n)) (p : h.obj n = some (.inst as)) (e : L.P.meths.lookup m = some f) (E' : EvL L ρ h es vs) (q : ∀ Q : KV, Q w h → L.call f (.ref n :: vs) Q h) : Ev L ρ h (.callM o m es) w :=
  fun _ _ H => E.go (.mk (.inst p e) (E' _ (q _ H)))
theorem e_andF (E : Ev L ρ h e (.bool false)) : Ev L ρ h (.and (.cons e (.cons i es))) (.bool false) := fun t Q H => E t _ (bool_fin (.no rfl (fin_bool H)))
theorem e_andT (E : Ev L ρ h e (.bool true)) (E' : Ev L ρ h (.and (.cons i es)) w) : Ev L ρ h (.and (.cons e (.cons i es))) w := fun t Q H => E t _ (bool_fin (.yes rfl (E' t Q H)))
theorem e_and1 (E : Ev L ρ h e w) : Ev L ρ h (.and (.cons e .nil)) w := E
theorem e_orT (E : Ev L ρ h e (.bool true)) : Ev L ρ h (.or (.cons e (.cons i es))) (.bool true) := fun t Q H => E t _ (bool_fin (.yes rfl (fin_bool H)))
theorem e_orF (E : Ev L ρ h e (.bool false)) (E' : Ev L ρ h (.or (.cons i es)) w) : Ev L ρ h (.or (.cons e (.cons i es))) w := fun t Q H => E t _ (bool_fin (.no rfl (E' t Q H)))
theorem e_or1 (E : Ev L ρ h e w) : Ev L ρ h (.or (.cons e .nil)) w := E
theorem e_and2 {x y : Bool} (E : Ev L ρ h e (.bool x)) (E' : x = true → Ev L ρ h (.and (.cons i es)) (.bool y)) : Ev L ρ h (.and (.cons e (.cons i es))) (.bool (x && y)) := by
  rcases x with _ | _
  · exact e_andF E
  · exact e_andT E (E' rfl)
theorem e_or2 {x y : Bool} (E : Ev L ρ h e (.bool x)) (E' : x = false → Ev L ρ h (.or (.cons i es)) (.bool y)) : Ev L ρ h (.or (.cons e (.cons i es))) (.bool (x || y)) := by
  rcases x with _ | _
  · exact e_orF E (E' rfl)
  · exact e_orT E
theorem c_nil {K : Bool → HP} (H : K true h) : evC L .nil ρ K h := H
theorem c_cons {x : Bool} {K : Bool → HP} (E : Ev L ρ h e (.bool x)) (T : x = true → evC L es ρ K h) (F : x = false → K false h) : evC L (.cons e es) ρ K h := E true _ (bool_fin (by
  rcases x with _ | _
  · exact .no rfl (F rfl)
  · exact .yes rfl (T rfl)))
theorem c_one {x : Bool} {K : Bool → HP} (E : Ev L ρ h e (.bool x)) (H : K x h) : evC L (.cons e .nil) ρ K h := c_cons E (fun q => c_nil (q ▸ H)) fun q => q ▸ H
end
section
variable {L : Lg} {ρ : Vars} {h h' : MHeap} {e o l i k : ME} {es : MEs} {u v w : MV} {t : Bool} {n m x : Nat} {R : KF} {r a b : MSs} {s : MS} {ts : List MT}
theorem x_nil (H : R .next ρ h) : exs L .nil R ρ h := H
theorem x_var (H : ev L e ρ false (fun v h => exs L r R (ρ.set x v) h) h) : exs L (.cons (.assign (.var x) e) r) R ρ h := H
theorem x_let (E : Ev L ρ h e v) (H : exs L r R (ρ.set x v) h) : exs L (.cons (.assign (.var x) e) r) R ρ h := x_var (E.go H)
theorem x_setA (E : Ev L ρ h e v) (O : Ev L ρ h o u) (q : SetA h n v u h') (H : exs L r R ρ h') : exs L (.cons (.assign (.attr o n) e) r) R ρ h := E.go (O.go (.mk q H))
theorem x_setI (E : Ev L ρ h e v) (O : Ev L ρ h o u) (I : Ev L ρ h i w) (q : SetI h v u w h') (H : exs L r R ρ h') : exs L (.cons (.assign (.sub o i) e) r) R ρ h := E.go (O.go (I.go (.mk q H)))
theorem x_asgs {vs : List MV} (E : EvL L ρ h es vs) (b : vs.length ≤ 100) (l : vs.length = ts.length) (H : asgL L ts vs (fun ρ h => exs L r R ρ h) ρ h) : exs L (.cons (.assigns ts es) r) R ρ h := E _ ⟨b, l, H⟩
theorem x_asgs' (H : evL L es ρ (fun vs h => vs.length ≤ 100 ∧ vs.length = ts.length ∧ asgL L ts vs (fun ρ h => exs L r R ρ h) ρ h) h) : exs L (.cons (.assigns ts es) r) R ρ h := H
theorem a_nil {K : Vars → HP} (H : K ρ h) : asgL L [] [] K ρ h := H
theorem a_var {vs : List MV} {K : Vars → HP} (H : asgL L ts vs K (ρ.set x v) h) : asgL L (.var x :: ts) (v :: vs) K ρ h := H
theorem a_sub {vs : List MV} {K : Vars → HP} (O : Ev L ρ h o u) (I : Ev L ρ h i w) (q : SetI h v u w h') (H : asgL L ts vs K ρ h') : asgL L (.sub o i :: ts) (v :: vs) K ρ h := O.go (I.go (.mk q H))
theorem x_sub (H : ev L e ρ false (fun v h => asg L (.sub o i) v (fun ρ h => exs L r R ρ h) ρ h) h) : exs L (.cons (.assign (.sub o i) e) r) R ρ h := H
theorem x_atr (H : ev L e ρ false (fun v h => asg L (.attr o n) v (fun ρ h => exs L r R ρ h) ρ h) h) : exs L (.cons (.assign (.attr o n) e) r) R ρ h := H
theorem a_setI {K : Vars → HP} (O : Ev L ρ h o u) (I : Ev L ρ h i w) (q : SetI h v u w h') (H : K ρ h') : asg L (.sub o i) v K ρ h := O.go (I.go (.mk q H))
theorem a_setA {K : Vars → HP} (O : Ev L ρ h o u) (q : SetA h n v u h') (H : K ρ h') : asg L (.attr o n) v K ρ h := O.go (.mk q H)
theorem x_expr (H : ev L e ρ false (fun _ h => exs L r R ρ h) h) : exs L (.cons (.expr e) r) R ρ h := H
theorem x_ite {c : Bool} (E : Ev L ρ h e v) (q : Tru v c) (T : c = true → exs L a (seq L r R) ρ h) (F : c = false → exs L b (seq L r R) ρ h) : exs L (.cons (.ite e a b) r) R ρ h := E.tru q (by
  rcases c with _ | _
  · exact .no rfl (F rfl)
  · exact .yes rfl (T rfl))
theorem x_ite' (H : ev L e ρ true (fun v h => If v (exs L a (seq L r R) ρ h) (exs L b (seq L r R) ρ h)) h) : exs L (.cons (.ite e a b) r) R ρ h := H
theorem x_iteT (E : Ev L ρ h e (.bool true)) (T : exs L a (seq L r R) ρ h) : exs L (.cons (.ite e a b) r) R ρ h := E.tru (.bool true) (.yes rfl T)
theorem x_iteF (E : Ev L ρ h e (.bool false)) (F : exs L b (seq L r R) ρ h) : exs L (.cons (.ite e a b) r) R ρ h := E.tru (.bool false) (.no rfl F)
theorem x_if {c : Bool} (E : Ev L ρ h e (.bool c)) (T : c = true → exs L a (seq L r R) ρ h) (F : c = false → exs L r R ρ h) : exs L (.cons (.ite e a .nil) r) R ρ h := x_ite E (.bool c) T F
theorem x_ret (E : Ev L ρ h e v) (H : R (.ret v) ρ h) : exs L (.cons (.ret e) r) R ρ h := E.go H
theorem x_retE (H : ev L e ρ false (fun v h => R (.ret v) ρ h) h) : exs L (.cons (.ret e) r) R ρ h := H
theorem x_for {xs : List MV} (E : Ev L ρ h e v) (q : Items h v xs) (H : forL (fun h => Items h v xs) (forB L x b) xs (seq L r R) ρ h) : exs L (.cons (.for x e b) r) R ρ h := E.go (.mk q H)
theorem x_for' (H : ev L e ρ false (fun s h => Yields (Items h s) fun xs => forL (fun h => Items h s xs) (forB L x b) xs (seq L r R) ρ h) h) : exs L (.cons (.for x e b) r) R ρ h := H
theorem x_while (H : ∃ n, whileN (fun ρ => ev L e ρ true) (exs L b) n (seq L r R) ρ h) : exs L (.cons (.while e b) r) R ρ h := H
theorem If.of {c : Bool} {P Q : Prop} (T : c = true → P) (F : c = false → Q) : If (.bool c) P Q := by
  rcases c with _ | _
  · exact .no rfl (F rfl)
  · exact .yes rfl (T rfl)
section
variable {Q : KV} {K : List MV → HP}
theorem m_list {vs : List MV} (E : EvL L ρ h es vs) (l : vs.length ≤ 100) (H : fin t Q (.ref h.next) (h.new (.list vs))) : ev L (.list es) ρ t Q h := E _ ⟨l, H⟩
theorem m_bui {b : MB} {vs : List MV} (E : EvL L ρ h es vs) (q : Bui h b vs u h') (H : fin t Q u h') : ev L (.callB b es) ρ t Q h := E _ (.of q H)
theorem m_to (O : Ev L ρ h o u) (I : Ev L ρ h i w) (q : SlTo L.sc h u w v h') (H : fin t Q v h') : ev L (.sliceTo o i) ρ t Q h := O.go (I.go (.mk q H))
theorem m_from (O : Ev L ρ h o u) (I : Ev L ρ h i w) (q : SlFrom h u w v h') (H : fin t Q v h') : ev L (.sliceFrom o i) ρ t Q h := O.go (I.go (.mk q H))
theorem m_sortAbs {ds : List (Int × MV)} (O : Ev L ρ h o (.ref n)) (p : h.obj n = some (.idict ds)) (l : ds.length < 64) (H : ∀ ys : List Int, ys.Perm (ds.map (·.1)) → ys.Pairwise (fun a b => a.natAbs ≤ b.natAbs) → fin t Q (.ref h.next) (h.new (.list (ys.map .int)))) : ev L (.sortAbs o) ρ t Q h := O.go (.mk p l H)
theorem m_orF (E : Ev L ρ h e (.bool false)) (H : ev L (.or (.cons i es)) ρ t Q h) : ev L (.or (.cons e (.cons i es))) ρ t Q h := E t _ (bool_fin (.no rfl H))
theorem m_orT (E : Ev L ρ h e (.bool true)) (H : Q (.bool true) h) : ev L (.or (.cons e (.cons i es))) ρ t Q h := E t _ (bool_fin (.yes rfl H))
theorem m_or1 (H : ev L e ρ t Q h) : ev L (.or (.cons e .nil)) ρ t Q h := H
theorem m_cmp {op : MCmp} (E : Ev L ρ h o u) (H : ev L i ρ false (fun w h => Yields (Cmp h op u w) fun b => Q (.bool b) h) h) : ev L (.cmp op o i) ρ t Q h := E.go H
theorem m_not (H : ev L e ρ t (fun v h => Yields (Tru v) fun b => Q (.bool (!b)) h) h) : ev L (.not e) ρ t Q h := H
theorem m_bui1 {b : MB} (H : ev L e ρ false (fun v h => DoB h (fin t Q) b [v]) h) : ev L (.callB b (.cons e .nil)) ρ t Q h := H
theorem m_call (H : ev L o ρ false (fun v h => Yields (Kind L.P h m v) fun k => evL L es ρ (fun vs h => doM L h v m vs (fin t Q) k) h) h) : ev L (.callM o m es) ρ t Q h := H
theorem l_one (H : ev L e ρ false (fun v h => K [v] h) h) : evL L (.cons e .nil) ρ K h := H
theorem m_listM {xs vs : List MV} (O : Ev L ρ h o (.ref n)) (p : h.obj n = some (.list xs)) (E : EvL L ρ h es vs) (l : m < 4) (q : Meth h .list m (.ref n) vs u h') (H : fin t Q u h') : ev L (.callM o m es) ρ t Q h := O.go (.mk (.list p l) (E _ (.mk q H)))
theorem m_dictM {ds : List (Int × MV)} {vs : List MV} (O : Ev L ρ h o (.ref n)) (p : h.obj n = some (.idict ds)) (E : EvL L ρ h es vs) (l : m = 2 ∨ m = 4 ∨ m = 5) (q : Meth h .dict m (.ref n) vs u h') (H : fin t Q u h') : ev L (.callM o m es) ρ t Q h := O.go (.mk (.dict p l) (E _ (.mk q H)))
theorem m_meth {as : List (Nat × MV)} {f : Nat} {vs : List MV} (O : Ev L ρ h o (.ref n)) (p : h.obj n = some (.inst as)) (e : L.P.meths.lookup m = some f) (E : EvL L ρ h es vs) (H : L.call f (.ref n :: vs) (fin t Q) h) : ev L (.callM o m es) ρ t Q h := O.go (.mk (.inst p e) (E _ H))
theorem m_fn {f : Nat} {vs : List MV} (E : EvL L ρ h es vs) (H : L.call f vs (fin t Q) h) : ev L (.callF f es) ρ t Q h := E _ H
theorem m_append {xs : List MV} (O : Ev L ρ h o (.ref n)) (p : h.obj n = some (.list xs)) (E : Ev L ρ h e w) (l : xs.length < lenLine) (H : fin t Q .none (h.set n (.list (xs ++ [w])))) : ev L (.callM o 0 (.cons e .nil)) ρ t Q h := m_listM O p (e_one E) (by decide) (.append p l) H
end
theorem while_rule (I : Nat → Vars → MHeap → Prop)
    (step : ∀ k ρ h (K : Vars → HP), I k ρ h → (∀ k', k' < k → ∀ ρ' h', I k' ρ' h' → K ρ' h') → ev L e ρ true (fun v h' => If v (exs L b (turn R K) ρ h') (R .next ρ h')) h) {k : Nat} {ρ : Vars} {h : MHeap} (h0 : I k ρ h) :
    ∃ n, whileN (fun ρ => ev L e ρ true) (exs L b) n R ρ h := by
  refine ⟨k + 1, ?_⟩
  have key : ∀ n k ρ h, k < n → I k ρ h → whileN (fun ρ => ev L e ρ true) (exs L b) n R ρ h := by
    intro n
    induction n with
    | zero => exact fun k ρ h hk => absurd hk (Nat.not_lt_zero _)
    | succ n ih => exact fun k ρ h hk hi => step k ρ h _ hi fun k' hk' ρ' h' hi' => ih k' ρ' h' (Nat.lt_of_lt_of_le hk' (Nat.le_of_lt_succ hk)) hi'
  exact key _ _ _ _ (Nat.lt_succ_self _) h0
theorem for_rule {chk : HP} {body : MV → PS} (I : List MV → Vars → MHeap → Prop) (hc : ∀ r ρ h, I r ρ h → chk h)
    (step : ∀ v r ρ h (K : Vars → HP), I (v :: r) ρ h → (∀ ρ' h', I r ρ' h' → K ρ' h') → body v (turn R K) ρ h)
    (fi : ∀ ρ h, I [] ρ h → R .next ρ h) {xs : List MV} {ρ : Vars} {h : MHeap} (hi : I xs ρ h) : forL chk body xs R ρ h := by
  induction xs generalizing ρ h with
  | nil => exact ⟨hc _ _ _ hi, fi _ _ hi⟩
  | cons v r ih => exact ⟨hc _ _ _ hi, step v r ρ h _ hi fun ρ' h' => ih⟩
section
variable {Q : KV} {α : Type} {emb : α → MV} {f : α → Bool} {g : α → MV} {as : List α} {cond : MEs} {it s : ME}
theorem comp_pure {chk : HP} {Q : List MV → HP} {acc : List MV} (ch : chk h) (C : ∀ a ∈ as, ∀ K : Bool → HP, K (f a) h → evC L cond (ρ.set x (emb a)) K h) (G : ∀ a ∈ as, f a = true → Ev L (ρ.set x (emb a)) h e (g a)) (l : acc.length + as.length ≤ lenLine)
    (H : Q (acc ++ (as.filter f).map g) h) : compL chk (fun v => evC L cond (Vars.set ρ x v)) (fun v => ev L e (Vars.set ρ x v) false) (as.map emb) acc Q h := by
  induction as generalizing acc with
  | nil => exact ⟨ch, by rw [List.filter_nil, List.map_nil, List.append_nil] at H; exact H⟩
  | cons a r ih =>
    have C' := fun b hb => C b (List.mem_cons_of_mem _ hb)
    have G' := fun b hb => G b (List.mem_cons_of_mem _ hb)
    rw [List.length_cons, ← Nat.add_assoc, Nat.add_right_comm] at l
    refine ⟨ch, C a List.mem_cons_self _ ?_⟩
    by_cases q : f a = true
    · rw [List.filter_cons_of_pos q, List.map_cons] at H
      rw [q]
      exact (G a List.mem_cons_self q).go ⟨Nat.lt_of_lt_of_le (Nat.lt_succ_self _) (Nat.le_trans (Nat.le_add_right _ _) l), ih C' G' (by rw [List.length_append]; exact l) (by rw [List.append_assoc]; exact H)⟩
    · rw [List.filter_cons_of_neg q] at H
      rw [Bool.eq_false_iff.mpr q]
      exact ih C' G' (Nat.le_trans (Nat.add_le_add_right (Nat.le_succ _) _) l) H
theorem m_comp (E : Ev L ρ h i v) (q : Items h v (as.map emb)) (C : ∀ a ∈ as, ∀ K : Bool → HP, K (f a) h → evC L cond (ρ.set x (emb a)) K h) (G : ∀ a ∈ as, f a = true → Ev L (ρ.set x (emb a)) h e (g a)) (l : as.length ≤ lenLine)
    (H : fin t Q (.ref h.next) (h.new (.list ((as.filter f).map g)))) : ev L (.comp e x i cond) ρ t Q h := E.go (.mk q (comp_pure q C G (by rw [List.length_nil, Nat.zero_add]; exact l) H))
theorem m_dcomp {c : α → Int} (E : Ev L ρ h i v) (q : Items h v (as.map emb)) (C : ∀ a ∈ as, Ev L (ρ.set x (emb a)) h k (.int (c a))) (G : ∀ a ∈ as, Ev L (ρ.set x (emb a)) h e (g a)) (l : as.length ≤ lenLine)
    (H : fin t Q (.ref h.next) (h.new (.idict (as.foldl (fun es a => kset es (c a) (g a)) [])))) : ev L (.dcomp k e x i) ρ t Q h := by
  refine E.go (.mk q ?_)
  have go : ∀ (bs : List α) (acc : List (Int × MV)), (∀ b ∈ bs, b ∈ as) → acc.length + bs.length ≤ lenLine → fin t Q (.ref h.next) (h.new (.idict (bs.foldl (fun es a => kset es (c a) (g a)) acc))) →
      dcompL (fun h => Items h v (as.map emb)) (fun v => ev L k (Vars.set ρ x v) false) (fun v => ev L e (Vars.set ρ x v) false) (bs.map emb) acc (fun es h => fin t Q (.ref h.next) (h.new (.idict es))) h := by
    intro bs
    induction bs with
    | nil => exact fun acc _ _ H => ⟨q, H⟩
    | cons b r ih =>
      intro acc hb l H
      rw [List.length_cons, ← Nat.add_assoc, Nat.add_right_comm] at l
      exact ⟨q, (C b (hb b List.mem_cons_self)).go ((G b (hb b List.mem_cons_self)).go (.mk (Nat.lt_of_lt_of_le (Nat.lt_succ_self _) (Nat.le_trans (Nat.le_add_right _ _) l)) (ih _ (fun a ha => hb a (List.mem_cons_of_mem _ ha)) (Nat.le_trans (Nat.add_le_add_right (kset_len _ _ _) _) l) H)))⟩
  exact go as [] (fun _ h => h) (by rw [List.length_nil, Nat.zero_add]; exact l) H
theorem keys_pure {call : Nat → List MV → PT MV} {n : Nat} {o : MV} {c : α → Int} {K : List Int → HP} (C : ∀ a ∈ as, ∀ Q : KV, Q (.int (c a)) h → call n [o, emb a] Q h) (H : K (as.map c) h) : keysL call n o (as.map emb) K h := by
  induction as generalizing K with
  | nil => exact H
  | cons a r ih => exact C a List.mem_cons_self _ (.mk rfl (ih (fun b hb => C b (List.mem_cons_of_mem _ hb)) H))
end
end
end Mini
end
section
namespace Mini.C
open Mini
noncomputable def tget {α : Type} : List (Int × α) → Int → Option α
  | [], _ => none
  | p :: r, k => if p.1 = k then some p.2 else tget r k
noncomputable def tset {α : Type} : List (Int × α) → Int → α → List (Int × α)
  | [], k, v => [(k, v)]
  | p :: r, k, v => if p.1 = k then (p.1, v) :: r else p :: tset r k v
noncomputable def tdel {α : Type} : List (Int × α) → Int → List (Int × α)
  | [], _ => []
  | p :: r, k => if p.1 = k then r else p :: tdel r k
noncomputable def mvs {α : Type} (f : α → MV) (es : List (Int × α)) : List (Int × MV) := es.map fun p => (p.1, f p.2)
section
variable {α : Type} {f : α → MV} {p : Int × α} {es r : List (Int × α)} {k k' : Int} {v : α}
theorem tget_cons : tget (p :: r) k = if p.1 = k then some p.2 else tget r k := rfl
theorem tset_cons : tset (p :: r) k v = if p.1 = k then (p.1, v) :: r else p :: tset r k v := rfl
theorem tdel_cons : tdel (p :: r) k = if p.1 = k then r else p :: tdel r k := rfl
theorem mvs_cons : mvs f (p :: r) = (p.1, f p.2) :: mvs f r := rfl
theorem kget_mvs : kget (mvs f es) k = (tget es k).map f := by
  induction es with
  | nil => rfl
  | cons p r ih =>
    rw [mvs_cons, kget_cons, tget_cons, ih]
    by_cases c : p.1 = k
    · rw [if_pos c, if_pos c]; rfl
    · rw [if_neg c, if_neg c]
theorem kset_mvs : kset (mvs f es) k (f v) = mvs f (tset es k v) := by
  induction es with
  | nil => rfl
  | cons p r ih =>
    rw [mvs_cons, kset_cons, tset_cons, ih]
    by_cases c : p.1 = k
    · rw [if_pos c, if_pos c]; rfl
    · rw [if_neg c, if_neg c]; rfl
theorem kdel_mvs : kdel (mvs f es) k = mvs f (tdel es k) := by
  induction es with
  | nil => rfl
  | cons p r ih =>
    rw [mvs_cons, kdel_cons, tdel_cons, ih]
    by_cases c : p.1 = k
    · rw [if_pos c, if_pos c]
    · rw [if_neg c, if_neg c]; rfl
theorem mvs_length : (mvs f es).length = es.length := List.length_map _
theorem mvs_append {es' : List (Int × α)} : mvs f (es ++ es') = mvs f es ++ mvs f es' := List.map_append
theorem mvs_nil : mvs f ([] : List (Int × α)) = [] := rfl
theorem mvs_keys : (mvs f es).map (·.1) = es.map (·.1) := List.map_map
theorem mvs_any : ((mvs f es).any fun e => e.1 == k) = (tget es k).isSome := by
  induction es with
  | nil => rfl
  | cons p r ih =>
    rw [mvs_cons, List.any_cons, tget_cons, ih]
    by_cases c : p.1 = k
    · rw [if_pos c, beq_iff_eq.mpr c]; rfl
    · rw [if_neg c, beq_eq_false_iff_ne.mpr c]; rfl
theorem tset_new (h : tget es k = none) : tset es k v = es ++ [(k, v)] := by
  induction es with
  | nil => rfl
  | cons p r ih =>
    rw [tget_cons] at h
    by_cases c : p.1 = k
    · rw [if_pos c] at h; exact ns h.symm
    · rw [if_neg c] at h; rw [tset_cons, if_neg c, ih h]; rfl
theorem tset_app {w : α} (e : tget es k = none) : tset (es ++ [(k, v)]) k w = es ++ [(k, w)] := by
  induction es with
  | nil => exact if_pos rfl
  | cons p r ih =>
    rw [tget_cons] at e
    by_cases c : p.1 = k
    · rw [if_pos c] at e; exact ns e.symm
    · rw [if_neg c] at e; rw [List.cons_append, tset_cons, if_neg c, ih e]; rfl
theorem tget_tset : tget (tset es k v) k' = if k = k' then some v else tget es k' := by
  induction es with
  | nil => rfl
  | cons p r ih =>
    rw [tset_cons]
    by_cases c : p.1 = k
    · rw [if_pos c, tget_cons, tget_cons, c]
      by_cases d : k = k'
      · rw [if_pos d, if_pos d]
      · rw [if_neg d, if_neg d, if_neg d]
    · rw [if_neg c, tget_cons, tget_cons, ih]
      by_cases d : p.1 = k'
      · rw [if_pos d, if_neg fun q => c (d.trans q.symm), if_pos d]
      · rw [if_neg d, if_neg d]
theorem tget_isSome : (tget es k).isSome = true ↔ k ∈ es.map (·.1) := by
  induction es with
  | nil => exact ⟨fun h => ff h, fun h => absurd h List.not_mem_nil⟩
  | cons p r ih =>
    rw [tget_cons, List.map_cons, List.mem_cons, ← ih]
    by_cases c : p.1 = k
    · rw [if_pos c]; exact ⟨fun _ => .inl c.symm, fun _ => rfl⟩
    · rw [if_neg c]; exact ⟨.inr, fun h => h.resolve_left fun q => c q.symm⟩
theorem tget_none : tget es k = none ↔ k ∉ es.map (·.1) := by rw [← tget_isSome, Option.not_isSome_iff_eq_none]
theorem keys_tset : (tset es k v).map (·.1) = if (tget es k).isSome then es.map (·.1) else es.map (·.1) ++ [k] := by
  induction es with
  | nil => rfl
  | cons p r ih =>
    rw [tset_cons, tget_cons]
    by_cases c : p.1 = k
    · rw [if_pos c, if_pos c]; rfl
    · rw [if_neg c, if_neg c, List.map_cons, ih, List.map_cons]
      by_cases d : (tget r k).isSome = true
      · rw [if_pos d, if_pos d]
      · rw [if_neg d, if_neg d]; rfl
theorem tset_len : (tset es k v).length ≤ es.length + 1 := by
  have e := congrArg List.length (keys_tset (es := es) (k := k) (v := v))
  rw [List.length_map] at e
  rw [e]
  by_cases d : (tget es k).isSome = true
  · rw [if_pos d, List.length_map]; exact Nat.le_succ _
  · rw [if_neg d, List.length_append, List.length_map]; exact Nat.le_refl _
theorem tset_mem {q : Int × α} (h : q ∈ tset es k v) : q ∈ es ∨ q = (k, v) := by
  induction es with
  | nil => exact .inr (List.mem_singleton.mp h)
  | cons p r ih =>
    rw [tset_cons] at h
    by_cases c : p.1 = k
    · rw [if_pos c, c] at h
      exact (List.mem_cons.mp h).elim .inr fun h => .inl (List.mem_cons_of_mem _ h)
    · rw [if_neg c] at h
      exact (List.mem_cons.mp h).elim (fun h => .inl (h ▸ List.mem_cons_self)) fun h => (ih h).imp (List.mem_cons_of_mem _) id
theorem tget_mem (h : tget es k = some v) : (k, v) ∈ es := by
  induction es with
  | nil => exact ns h
  | cons p r ih =>
    rw [tget_cons] at h
    by_cases c : p.1 = k
    · rw [if_pos c] at h; rw [← c, ← Option.some.inj h]; exact List.mem_cons_self
    · rw [if_neg c] at h; exact List.mem_cons_of_mem _ (ih h)
theorem keys_tdel : (tdel es k).map (·.1) = (es.map (·.1)).erase k := by
  induction es with
  | nil => rfl
  | cons p r ih =>
    rw [tdel_cons, List.map_cons]
    by_cases c : p.1 = k
    · rw [if_pos c, c, List.erase_cons_head]
    · rw [if_neg c, List.erase_cons_tail (by rw [beq_eq_false_iff_ne.mpr c]; exact Bool.false_ne_true), List.map_cons, ih]
theorem tget_tdel (hn : (es.map (·.1)).Nodup) : tget (tdel es k) k' = if k = k' then none else tget es k' := by
  induction es with
  | nil => exact (ite_self none).symm
  | cons p r ih =>
    rw [List.map_cons, List.nodup_cons] at hn
    rw [tdel_cons, tget_cons]
    by_cases c : p.1 = k
    · rw [if_pos c, c]
      by_cases d : k = k'
      · rw [if_pos d]; exact tget_none.mpr fun q => hn.1 (c ▸ d ▸ q)
      · rw [if_neg d, if_neg d]
    · rw [if_neg c, tget_cons, ih hn.2]
      by_cases d : p.1 = k'
      · rw [if_pos d, if_neg fun q => c (d.trans q.symm), if_pos d]
      · rw [if_neg d, if_neg d]
theorem tget_append : tget (es ++ [(k, v)]) k' = match tget es k' with | some w => some w | none => if k = k' then some v else none := by
  induction es with
  | nil => rfl
  | cons p r ih =>
    rw [List.cons_append, tget_cons, tget_cons]
    by_cases c : p.1 = k'
    · rw [if_pos c, if_pos c]
    · rw [if_neg c, if_neg c, ih]
end
end Mini.C
end
section
namespace Mini.C
open Mini
set_option genInjectivity false
set_option genSizeOf false
set_option genSizeOfSpec false
structure St where
  kn : List (Int × Bool)
  hh : List (Int × Nat)
  ca : List (Int × Option Nat)
  li : List (Int × Bool)
  ht : List (Int × Int)
  row : List Int
  be : List Nat
  seen : Nat
  rows : List (List Int)
  wd : List (Int × List Nat)
  gain : Int
  lg : List (List Int)
  ref : Bool
  bl : List Int
  cl : Int
  lim : Int
set_option genInjectivity true in
inductive Tag where
  | s | kn | hh | ca | li | ht | ro | be | R | w | lg
  | row (i : Nat)
  | wat (l : Int)
  deriving DecidableEq
section
variable (σ : St)
noncomputable def St.sKn (x : List (Int × Bool)) : St := { σ with kn := x }
noncomputable def St.sHh (x : List (Int × Nat)) : St := { σ with hh := x }
noncomputable def St.sCa (x : List (Int × Option Nat)) : St := { σ with ca := x }
noncomputable def St.sLi (x : List (Int × Bool)) : St := { σ with li := x }
noncomputable def St.sHt (x : List (Int × Int)) : St := { σ with ht := x }
noncomputable def St.sRow (x : List Int) : St := { σ with row := x }
noncomputable def St.sBe (x : List Nat) : St := { σ with be := x }
noncomputable def St.sSeen (x : Nat) : St := { σ with seen := x }
noncomputable def St.sRows (x : List (List Int)) : St := { σ with rows := x }
noncomputable def St.sWd (x : List (Int × List Nat)) : St := { σ with wd := x }
noncomputable def St.sGain (x : Int) : St := { σ with gain := x }
noncomputable def St.sLg (x : List (List Int)) : St := { σ with lg := x }
noncomputable def St.sRef (x : Bool) : St := { σ with ref := x }
noncomputable def St.sBl (x : List Int) : St := { σ with bl := x }
noncomputable def St.sCl (x : Int) : St := { σ with cl := x }
noncomputable def St.sLim (x : Int) : St := { σ with lim := x }
end
noncomputable abbrev iN (n : Nat) : MV := .int (n : Int)
noncomputable def iL (xs : List Int) : List MV := xs.map .int
noncomputable def nL (xs : List Nat) : List MV := xs.map iN
noncomputable def tL (xs : List (List Int)) : List MV := xs.map fun c => .tup (iL c)
noncomputable def rL (adr : Nat → Nat) (n : Nat) : List MV := (List.range n).map fun i => .ref (adr i)
noncomputable def wL (adr : Int → Nat) (wd : List (Int × List Nat)) : List (Int × MV) := wd.map fun p => (p.1, .ref (adr p.1))
section
variable {xs ys : List Int} {ns ms : List Nat} {ts us : List (List Int)} {i n : Nat} {x : Int} {adr : Nat → Nat}
theorem iL_length : (iL xs).length = xs.length := List.length_map _
theorem iL_get : (iL xs)[i]? = xs[i]?.map .int := List.getElem?_map
theorem iL_append : iL xs ++ iL ys = iL (xs ++ ys) := List.map_append.symm
theorem iL_push : iL xs ++ [.int x] = iL (xs ++ [x]) := iL_append (ys := [x])
theorem iL_take : (iL xs).take n = iL (xs.take n) := List.map_take.symm
theorem iL_drop : (iL xs).drop n = iL (xs.drop n) := List.map_drop.symm
theorem iL_set : (iL xs).set i (.int x) = iL (xs.set i x) := List.map_set.symm
theorem iL_cons : iL (x :: xs) = .int x :: iL xs := rfl
theorem iL_nil : iL [] = [] := rfl
theorem iL_at (h : xs[i]? = some x) : (iL xs)[i]? = some (.int x) := by rw [iL_get, h]; rfl
theorem nL_length : (nL ns).length = ns.length := List.length_map _
theorem nL_get : (nL ns)[i]? = ns[i]?.map iN := List.getElem?_map
theorem nL_at (h : ns[i]? = some n) : (nL ns)[i]? = some (iN n) := by rw [nL_get, h]; rfl
theorem nL_append : nL ns ++ nL ms = nL (ns ++ ms) := List.map_append.symm
theorem nL_push : nL ns ++ [.int (n : Int)] = nL (ns ++ [n]) := nL_append (ms := [n])
theorem nL_take : (nL ns).take n = nL (ns.take n) := List.map_take.symm
theorem nL_drop : (nL ns).drop n = nL (ns.drop n) := List.map_drop.symm
theorem tL_length : (tL ts).length = ts.length := List.length_map _
theorem tL_append : tL ts ++ tL us = tL (ts ++ us) := List.map_append.symm
theorem tL_push : tL ts ++ [.tup (iL xs)] = tL (ts ++ [xs]) := tL_append (us := [xs])
theorem rL_length : (rL adr n).length = n := by unfold rL; rw [List.length_map, List.length_range]
theorem rL_at (h : i < n) : (rL adr n)[i]? = some (.ref (adr i)) := by unfold rL; rw [List.getElem?_map, List.getElem?_range h]; rfl
theorem wL_length {adr : Int → Nat} {wd : List (Int × List Nat)} : (wL adr wd).length = wd.length := List.length_map _
theorem wL_get {adr : Int → Nat} {wd : List (Int × List Nat)} {l : Int} : kget (wL adr wd) l = (tget wd l).map fun _ => .ref (adr l) := by
  induction wd with
  | nil => rfl
  | cons p r ih =>
    show kget ((p.1, MV.ref (adr p.1)) :: wL adr r) l = _
    rw [kget_cons, tget_cons, ih]
    by_cases c : p.1 = l
    · rw [if_pos c, if_pos c, ← c]; rfl
    · rw [if_neg c, if_neg c]
theorem place_nat {n i : Nat} (h : i < n) : Place n (i : Int) i := .pos h
theorem clamp_nat {n i : Nat} : clamp n (i : Int) = min i n := if_pos (Int.natCast_nonneg i)
end
noncomputable def oN : Option Nat → MV
  | none => .none
  | some n => .int (n : Int)
noncomputable def oB : Option Bool → MV
  | none => .none
  | some b => .bool b
noncomputable def attrs (σ : St) (adr : Tag → Nat) : List (Nat × MV) :=
  [(18, .ref (adr .kn)), (9, .ref (adr .hh)), (19, .ref (adr .ca)), (8, .ref (adr .ro)), (7, .ref (adr .be)), (20, .int σ.seen), (21, .ref (adr .li)), (22, .ref (adr .R)), (23, .ref (adr .w)), (24, .ref (adr .ht)),
   (25, .int σ.gain), (11, .ref (adr .lg)), (13, .bool σ.ref), (26, .tup (iL σ.bl)), (10, .int σ.cl), (27, .int σ.lim)]
noncomputable def want (σ : St) (adr : Tag → Nat) : Tag → MObj
  | .s => .inst (attrs σ adr)
  | .kn => .idict (mvs .bool σ.kn)
  | .hh => .idict (mvs iN σ.hh)
  | .ca => .idict (mvs oN σ.ca)
  | .li => .idict (mvs .bool σ.li)
  | .ht => .idict (mvs .int σ.ht)
  | .ro => .list (iL σ.row)
  | .be => .list (nL σ.be)
  | .R => .list (rL (fun i => adr (.row i)) σ.rows.length)
  | .w => .idict (wL (fun l => adr (.wat l)) σ.wd)
  | .lg => .list (tL σ.lg)
  | .row i => .list (iL (σ.rows.getD i []))
  | .wat l => .list (nL ((tget σ.wd l).getD []))
noncomputable def live (σ : St) : Tag → Prop
  | .row i => i < σ.rows.length
  | .wat l => (tget σ.wd l).isSome = true
  | _ => True
noncomputable abbrev XH := Nat → Option MObj
noncomputable def XH.put (X : XH) (a : Nat) (o : MObj) : XH := fun b => if b = a then some o else X b
noncomputable def XH.cut (X : XH) (a : Nat) : XH := fun b => if b = a then none else X b
structure Apart (adr : Tag → Nat) (h : MHeap) (σ : St) (a : Nat) (o : MObj) : Prop where
  obj : h.obj a = some o
  lt : a < h.next
  ne : ∀ t, live σ t → adr t ≠ a
structure Sim (adr : Tag → Nat) (h : MHeap) (σ : St) (X : XH) : Prop where
  obj : ∀ t, live σ t → h.obj (adr t) = some (want σ adr t)
  lt : ∀ t, live σ t → adr t < h.next
  inj : ∀ t t', live σ t → live σ t' → adr t = adr t' → t = t'
  out : ∀ a o, X a = some o → Apart adr h σ a o
section
variable {adr : Tag → Nat} {h : MHeap} {σ : St} {X : XH}
theorem set_same {a : Nat} {o : MObj} : (h.set a o).obj a = some o := if_pos rfl
theorem set_ne {a b : Nat} {o : MObj} (q : b ≠ a) : (h.set a o).obj b = h.obj b := if_neg q
theorem new_same {o : MObj} : (h.new o).obj h.next = some o := if_pos rfl
theorem new_ne {b : Nat} {o : MObj} (q : b < h.next) : (h.new o).obj b = h.obj b := if_neg (Nat.ne_of_lt q)
theorem put_same {a : Nat} {o : MObj} : (X.put a o) a = some o := if_pos rfl
theorem put_ne {a b : Nat} {o : MObj} (q : b ≠ a) : (X.put a o) b = X b := if_neg q
theorem Sim.upd (S : Sim adr h σ X) {σ' : St} (t : Tag) (ht : live σ t) (hl : ∀ t', live σ' t' ↔ live σ t') (hw : ∀ t', t' ≠ t → want σ' adr t' = want σ adr t') : Sim adr (h.set (adr t) (want σ' adr t)) σ' X where
  obj t' l := by
    have l := (hl t').mp l
    by_cases e : t' = t
    · rw [e]; exact set_same
    · rw [set_ne fun q => e (S.inj _ _ l ht q), S.obj t' l, hw t' e]
  lt t' l := S.lt t' ((hl t').mp l)
  inj t t' l l' e := S.inj _ _ ((hl _).mp l) ((hl _).mp l') e
  out a o e := ⟨(set_ne fun q => (S.out a o e).ne t ht q.symm).trans (S.out a o e).obj, (S.out a o e).lt, fun t' l => (S.out a o e).ne t' ((hl _).mp l)⟩
theorem Sim.none_at (S : Sim adr h σ X) {a : Nat} (ha : h.next ≤ a) : X a = none := by
  by_cases e : X a = none
  · exact e
  · obtain ⟨o, e⟩ := Option.ne_none_iff_exists'.mp e
    exact absurd (S.out a o e).lt (Nat.not_lt.mpr ha)
theorem Sim.push (S : Sim adr h σ X) (o : MObj) : Sim adr (h.new o) σ (X.put h.next o) where
  obj t l := (new_ne (S.lt t l)).trans (S.obj t l)
  lt t l := Nat.lt_succ_of_lt (S.lt t l)
  inj := S.inj
  out a o' e := by
    by_cases c : a = h.next
    · rw [c, put_same] at e
      rw [c, ← Option.some.inj e]
      exact ⟨new_same, Nat.lt_succ_self _, fun t l => Nat.ne_of_lt (S.lt t l)⟩
    · rw [put_ne c] at e
      exact ⟨(new_ne (S.out a o' e).lt).trans (S.out a o' e).obj, Nat.lt_succ_of_lt (S.out a o' e).lt, (S.out a o' e).ne⟩
theorem Sim.poke (S : Sim adr h σ X) {a : Nat} {o : MObj} (e : X a = some o) (o' : MObj) : Sim adr (h.set a o') σ (X.put a o') where
  obj t l := (set_ne ((S.out a o e).ne t l)).trans (S.obj t l)
  lt := S.lt
  inj := S.inj
  out b p q := by
    by_cases c : b = a
    · rw [c, put_same] at q
      rw [c, ← Option.some.inj q]
      exact ⟨set_same, (S.out a o e).lt, (S.out a o e).ne⟩
    · rw [put_ne c] at q
      exact ⟨(set_ne c).trans (S.out b p q).obj, (S.out b p q).lt, (S.out b p q).ne⟩
theorem Sim.less (S : Sim adr h σ X) {X' : XH} (hx : ∀ a o, X' a = some o → X a = some o) : Sim adr h σ X' := ⟨S.obj, S.lt, S.inj, fun a o e => S.out a o (hx a o e)⟩
noncomputable def mv (adr : Tag → Nat) (t : Tag) (n : Nat) : Tag → Nat := fun t' => if t' = t then n else adr t'
theorem mv_same {t : Tag} {n : Nat} : mv adr t n t = n := if_pos rfl
theorem mv_ne {t t' : Tag} {n : Nat} (h : t' ≠ t) : mv adr t n t' = adr t' := if_neg h
theorem Sim.adopt (S : Sim adr h σ X) {σ' : St} (t0 t1 : Tag) {n : Nat} (hX : X n = some (want σ' (mv adr t1 n) t1)) (h0 : live σ t0)
    (hl : ∀ t, t ≠ t1 → live σ' t → live σ t) (hw : ∀ t, t ≠ t0 → t ≠ t1 → live σ' t → want σ' (mv adr t1 n) t = want σ adr t) :
    Sim (mv adr t1 n) (h.set (adr t0) (want σ' (mv adr t1 n) t0)) σ' (X.cut n) where
  obj t l := by
    by_cases c : t = t1
    · rw [c, mv_same, set_ne fun q => (S.out _ _ hX).ne t0 h0 q.symm, (S.out _ _ hX).obj]
    · rw [mv_ne c]
      by_cases e : t = t0
      · rw [e]; exact set_same
      · rw [set_ne fun q => e (S.inj _ _ (hl t c l) h0 q), S.obj t (hl t c l), hw t e c l]
  lt t l := by
    by_cases c : t = t1
    · rw [c, mv_same]; exact (S.out _ _ hX).lt
    · rw [mv_ne c]; exact S.lt t (hl t c l)
  inj t t' l l' e := by
    by_cases c : t = t1
    · by_cases c' : t' = t1
      · rw [c, c']
      · rw [c, mv_same, mv_ne c'] at e
        exact absurd e.symm ((S.out _ _ hX).ne t' (hl _ c' l'))
    · by_cases c' : t' = t1
      · rw [c', mv_same, mv_ne c] at e
        exact absurd e ((S.out _ _ hX).ne t (hl _ c l))
      · rw [mv_ne c, mv_ne c'] at e
        exact S.inj _ _ (hl _ c l) (hl _ c' l') e
  out a o e := by
    by_cases c : a = n
    · rw [c] at e; exact ns ((if_pos rfl).symm.trans e)
    · have e : X a = some o := (if_neg c).symm.trans e
      refine ⟨(set_ne fun q => (S.out a o e).ne t0 h0 q.symm).trans (S.out a o e).obj, (S.out a o e).lt, fun t l => ?_⟩
      by_cases c' : t = t1
      · rw [c', mv_same]; exact fun q => c q.symm
      · rw [mv_ne c']; exact (S.out a o e).ne t (hl t c' l)
theorem Sim.free (S : Sim adr h σ X) {σ' : St} (t0 t1 : Tag) (hne : t0 ≠ t1) (h0 : live σ t0) (h1 : live σ t1) (hl : ∀ t, live σ' t → live σ t) (hd : ¬ live σ' t1) (hw : ∀ t, t ≠ t0 → live σ' t → want σ' adr t = want σ adr t) :
    Sim adr (h.set (adr t0) (want σ' adr t0)) σ' (X.put (adr t1) (want σ adr t1)) where
  obj t l := by
    by_cases e : t = t0
    · rw [e]; exact set_same
    · rw [set_ne fun q => e (S.inj _ _ (hl t l) h0 q), S.obj t (hl t l), hw t e l]
  lt t l := S.lt t (hl t l)
  inj t t' l l' e := S.inj _ _ (hl _ l) (hl _ l') e
  out a o e := by
    by_cases c : a = adr t1
    · rw [c, put_same] at e
      rw [c, ← Option.some.inj e]
      exact ⟨(set_ne fun q => hne (S.inj _ _ h1 h0 q).symm).trans (S.obj t1 h1), S.lt _ h1, fun t l q => hd (S.inj _ _ (hl t l) h1 q ▸ l)⟩
    · rw [put_ne c] at e
      exact ⟨(set_ne fun q => (S.out a o e).ne t0 h0 q.symm).trans (S.out a o e).obj, (S.out a o e).lt, fun t l => (S.out a o e).ne t (hl t l)⟩
end
end Mini.C
end
section
namespace Mini.C
open Mini
set_option genInjectivity false
set_option genSizeOf false
set_option genSizeOfSpec false
structure Lib (P : MProg) where
  fSays : Nat
  fLet : Nat
  fBack : Nat
  fAdd : Nat
  fRefute : Nat
  fKeep : Nat
  fSpread : Nat
  fMoved : Nat
  fInit0 : Nat
  mSays : P.meths.lookup 15 = some fSays
  mLet : P.meths.lookup 17 = some fLet
  mBack : P.meths.lookup 29 = some fBack
  mAdd : P.meths.lookup 28 = some fAdd
  mRefute : P.meths.lookup 30 = some fRefute
  mKeep : P.meths.lookup 31 = some fKeep
  mSpread : P.meths.lookup 16 = some fSpread
  mMoved : P.meths.lookup 32 = some fMoved
  bOrdered : P.fns[0]? = some f_ordered
  bSays : P.fns[fSays]? = some f_Values_says
  bLet : P.fns[fLet]? = some f_Values_let
  bBack : P.fns[fBack]? = some f_Values_back_to
  bAdd : P.fns[fAdd]? = some f_Search_add_clause
  bRefute : P.fns[fRefute]? = some f_Search_refute
  bKeep : P.fns[fKeep]? = some f_Search_keep
  bSpread : P.fns[fSpread]? = some f_Search_spread
  bMoved : P.fns[fMoved]? = some f_Search_has_moved
  bInit : P.fns[P.init]? = some { f_Search___init__ with sup := some fInit0 }
  bInit0 : P.fns[fInit0]? = some f_Values___init__
section
variable {P : MProg} {sc : List Int} {d : Nat} {adr : Tag → Nat} {h : MHeap} {σ : St} {X : XH} {Q : KV}
theorem enter {f : Nat} {fn : MFn} {args : List MV} (hb : P.fns[f]? = some fn) (hn : fn.npar = args.length) (hs : fn.sup = none) (q : exs (lg P sc d) fn.body (retQ Q) (bindV args) h) : callD P sc (d + 1) f args Q h := .mk hb ⟨hn, by rw [hs]; exact q⟩
noncomputable def St.says (σ : St) (l : Int) : Option Bool := (tget σ.kn l.natAbs).map (· == decide (0 < l))
theorem Sim.s (S : Sim adr h σ X) : h.obj (adr .s) = some (.inst (attrs σ adr)) := S.obj .s trivial
theorem Sim.kn (S : Sim adr h σ X) : h.obj (adr .kn) = some (.idict (mvs .bool σ.kn)) := S.obj .kn trivial
theorem Sim.hh (S : Sim adr h σ X) : h.obj (adr .hh) = some (.idict (mvs iN σ.hh)) := S.obj .hh trivial
theorem Sim.ca (S : Sim adr h σ X) : h.obj (adr .ca) = some (.idict (mvs oN σ.ca)) := S.obj .ca trivial
theorem Sim.li (S : Sim adr h σ X) : h.obj (adr .li) = some (.idict (mvs .bool σ.li)) := S.obj .li trivial
theorem Sim.ht (S : Sim adr h σ X) : h.obj (adr .ht) = some (.idict (mvs .int σ.ht)) := S.obj .ht trivial
theorem Sim.ro (S : Sim adr h σ X) : h.obj (adr .ro) = some (.list (iL σ.row)) := S.obj .ro trivial
theorem Sim.be (S : Sim adr h σ X) : h.obj (adr .be) = some (.list (nL σ.be)) := S.obj .be trivial
theorem Sim.R (S : Sim adr h σ X) : h.obj (adr .R) = some (.list (rL (fun i => adr (.row i)) σ.rows.length)) := S.obj .R trivial
theorem Sim.w (S : Sim adr h σ X) : h.obj (adr .w) = some (.idict (wL (fun l => adr (.wat l)) σ.wd)) := S.obj .w trivial
theorem Sim.lg (S : Sim adr h σ X) : h.obj (adr .lg) = some (.list (tL σ.lg)) := S.obj .lg trivial
theorem Sim.set_kn (S : Sim adr h σ X) (x : List (Int × Bool)) : Sim adr (h.set (adr .kn) (.idict (mvs .bool x))) (σ.sKn x) X := S.upd (σ' := σ.sKn x) .kn trivial (fun _ => Iff.rfl) fun t n => by cases t <;> first | rfl | exact absurd rfl n
theorem Sim.set_hh (S : Sim adr h σ X) (x : List (Int × Nat)) : Sim adr (h.set (adr .hh) (.idict (mvs iN x))) (σ.sHh x) X := S.upd (σ' := σ.sHh x) .hh trivial (fun _ => Iff.rfl) fun t n => by cases t <;> first | rfl | exact absurd rfl n
theorem Sim.set_ca (S : Sim adr h σ X) (x : List (Int × Option Nat)) : Sim adr (h.set (adr .ca) (.idict (mvs oN x))) (σ.sCa x) X := S.upd (σ' := σ.sCa x) .ca trivial (fun _ => Iff.rfl) fun t n => by cases t <;> first | rfl | exact absurd rfl n
theorem Sim.set_li (S : Sim adr h σ X) (x : List (Int × Bool)) : Sim adr (h.set (adr .li) (.idict (mvs .bool x))) (σ.sLi x) X := S.upd (σ' := σ.sLi x) .li trivial (fun _ => Iff.rfl) fun t n => by cases t <;> first | rfl | exact absurd rfl n
theorem Sim.set_ht (S : Sim adr h σ X) (x : List (Int × Int)) : Sim adr (h.set (adr .ht) (.idict (mvs .int x))) (σ.sHt x) X := S.upd (σ' := σ.sHt x) .ht trivial (fun _ => Iff.rfl) fun t n => by cases t <;> first | rfl | exact absurd rfl n
theorem Sim.set_row (S : Sim adr h σ X) (x : List Int) : Sim adr (h.set (adr .ro) (.list (iL x))) (σ.sRow x) X := S.upd (σ' := σ.sRow x) .ro trivial (fun _ => Iff.rfl) fun t n => by cases t <;> first | rfl | exact absurd rfl n
theorem Sim.set_be (S : Sim adr h σ X) (x : List Nat) : Sim adr (h.set (adr .be) (.list (nL x))) (σ.sBe x) X := S.upd (σ' := σ.sBe x) .be trivial (fun _ => Iff.rfl) fun t n => by cases t <;> first | rfl | exact absurd rfl n
theorem Sim.set_lg (S : Sim adr h σ X) (x : List (List Int)) : Sim adr (h.set (adr .lg) (.list (tL x))) (σ.sLg x) X := S.upd (σ' := σ.sLg x) .lg trivial (fun _ => Iff.rfl) fun t n => by cases t <;> first | rfl | exact absurd rfl n
theorem Sim.set_at (S : Sim adr h σ X) {σ' : St} {n : Nat} {w : MV} (e : attrs σ' adr = kset (attrs σ adr) n w) (hl : ∀ t, live σ' t ↔ live σ t) (hw : ∀ t, t ≠ .s → want σ' adr t = want σ adr t) : Sim adr (h.set (adr .s) (.inst (kset (attrs σ adr) n w))) σ' X :=
  e ▸ S.upd (σ' := σ') .s trivial hl hw
theorem Sim.set_seen (S : Sim adr h σ X) (n : Nat) : Sim adr (h.set (adr .s) (.inst (kset (attrs σ adr) 20 (.int n)))) (σ.sSeen n) X := S.set_at rfl (fun _ => Iff.rfl) fun t n => by cases t <;> first | rfl | exact absurd rfl n
theorem Sim.set_gain (S : Sim adr h σ X) (i : Int) : Sim adr (h.set (adr .s) (.inst (kset (attrs σ adr) 25 (.int i)))) (σ.sGain i) X := S.set_at rfl (fun _ => Iff.rfl) fun t n => by cases t <;> first | rfl | exact absurd rfl n
theorem Sim.set_ref (S : Sim adr h σ X) (b : Bool) : Sim adr (h.set (adr .s) (.inst (kset (attrs σ adr) 13 (.bool b)))) (σ.sRef b) X := S.set_at rfl (fun _ => Iff.rfl) fun t n => by cases t <;> first | rfl | exact absurd rfl n
theorem Sim.set_cl (S : Sim adr h σ X) (i : Int) : Sim adr (h.set (adr .s) (.inst (kset (attrs σ adr) 10 (.int i)))) (σ.sCl i) X := S.set_at rfl (fun _ => Iff.rfl) fun t n => by cases t <;> first | rfl | exact absurd rfl n
end
end Mini.C
end
section
namespace Mini.C
open Mini
noncomputable abbrev fitN : Nat := 500000
noncomputable def fit (σ : St) : Bool := decide (σ.kn.length < fitN ∧ σ.hh.length < fitN ∧ σ.ca.length < fitN ∧ σ.li.length < fitN ∧ σ.ht.length < fitN ∧ σ.row.length < fitN ∧ σ.be.length < fitN ∧ σ.rows.length < fitN ∧ σ.wd.length < fitN ∧ σ.lg.length < fitN ∧ (σ.wd.map (·.1)).Nodup ∧ ∀ p ∈ σ.wd, p.2.length < fitN)
noncomputable def St.let' (σ : St) (l : Int) (c : Option Nat) : St :=
  { σ with kn := tset σ.kn l.natAbs (decide (0 < l)), hh := tset σ.hh l.natAbs σ.be.length, ca := tset σ.ca l.natAbs c, row := σ.row ++ [l] }
section
variable {P : MProg} {sc : List Int} {d : Nat} {adr : Tag → Nat} {h : MHeap} {σ : St} {X : XH} {Q : KV}
theorem fit_kn (hf : fit σ = true) : σ.kn.length < fitN := (of_decide_eq_true hf).1
theorem fit_hh (hf : fit σ = true) : σ.hh.length < fitN := (of_decide_eq_true hf).2.1
theorem fit_ca (hf : fit σ = true) : σ.ca.length < fitN := (of_decide_eq_true hf).2.2.1
theorem fit_li (hf : fit σ = true) : σ.li.length < fitN := (of_decide_eq_true hf).2.2.2.1
theorem fit_ht (hf : fit σ = true) : σ.ht.length < fitN := (of_decide_eq_true hf).2.2.2.2.1
theorem fit_row (hf : fit σ = true) : σ.row.length < fitN := (of_decide_eq_true hf).2.2.2.2.2.1
theorem fit_be (hf : fit σ = true) : σ.be.length < fitN := (of_decide_eq_true hf).2.2.2.2.2.2.1
theorem fit_rows (hf : fit σ = true) : σ.rows.length < fitN := (of_decide_eq_true hf).2.2.2.2.2.2.2.1
theorem fit_wd (hf : fit σ = true) : σ.wd.length < fitN := (of_decide_eq_true hf).2.2.2.2.2.2.2.2.1
theorem fit_lg (hf : fit σ = true) : σ.lg.length < fitN := (of_decide_eq_true hf).2.2.2.2.2.2.2.2.2.1
theorem fit_nd (hf : fit σ = true) : (σ.wd.map (·.1)).Nodup := (of_decide_eq_true hf).2.2.2.2.2.2.2.2.2.2.1
theorem fit_wat (hf : fit σ = true) : ∀ p ∈ σ.wd, p.2.length < fitN := (of_decide_eq_true hf).2.2.2.2.2.2.2.2.2.2.2
theorem eq_lt {a b c : Nat} (e : a = b) (h : b < c) : a < c := e ▸ h
theorem fit_line {n : Nat} (h : n < fitN) : n < lenLine := Nat.lt_of_lt_of_le h (Nat.le_of_ble_eq_true rfl)
theorem mvs_line {α : Type} {f : α → MV} {es : List (Int × α)} (h : es.length < fitN) : (mvs f es).length < lenLine := eq_lt mvs_length (fit_line h)
section
variable {L : Lg} {ρ : Vars} {x n : Nat} {w : MV} {e i : ME} {r : MSs} {R : KF} {k : Int} {t : Bool}
theorem Sim.at (S : Sim adr h σ X) (q : ρ x = some (.ref (adr .s))) (k : kget (attrs σ adr) n = some w) : Ev L ρ h (.attr (.var x) n) w := e_attr (e_var q) (.mk S.s k)
theorem Sim.len_be (S : Sim adr h σ X) (q : ρ x = some (.ref (adr .s))) : Ev L ρ h (.callB .len (.cons (.attr (.var x) 7) .nil)) (iN σ.be.length) := nL_length (ns := σ.be) ▸ e_len (S.at q rfl) S.be
theorem Sim.len_row (S : Sim adr h σ X) (q : ρ x = some (.ref (adr .s))) : Ev L ρ h (.callB .len (.cons (.attr (.var x) 8) .nil)) (iN σ.row.length) := iL_length (xs := σ.row) ▸ e_len (S.at q rfl) S.ro
theorem Sim.len_rows (S : Sim adr h σ X) (q : ρ x = some (.ref (adr .s))) : Ev L ρ h (.callB .len (.cons (.attr (.var x) 22) .nil)) (iN σ.rows.length) := rL_length (n := σ.rows.length) ▸ e_len (S.at q rfl) S.R
theorem Sim.row_at (S : Sim adr h σ X) (q : ρ x = some (.ref (adr .s))) {j : Nat} {l : Int} (E : Ev L ρ h i (iN j)) (e : σ.row[j]? = some l) : Ev L ρ h (.sub (.attr (.var x) 8) i) (.int l) :=
  e_sub (S.at q rfl) E (.list S.ro (.pos (iL_length.symm ▸ (List.getElem?_eq_some_iff.mp e).1)) (iL_at e))
theorem Sim.be_at (S : Sim adr h σ X) (q : ρ x = some (.ref (adr .s))) {j m : Nat} (E : Ev L ρ h i (iN j)) (e : σ.be[j]? = some m) : Ev L ρ h (.sub (.attr (.var x) 7) i) (iN m) :=
  e_sub (S.at q rfl) E (.list S.be (.pos (nL_length.symm ▸ (List.getElem?_eq_some_iff.mp e).1)) (nL_at e))
theorem kget_at {α : Type} {f : α → MV} {es : List (Int × α)} {a : α} (e : tget es k = some a) : kget (mvs f es) k = some (f a) := by rw [kget_mvs, e]; rfl
theorem x_kn (S : Sim adr h σ X) (q : ρ x = some (.ref (adr .s))) {b : Bool} (E : Ev L ρ h e (.bool b)) (I : Ev L ρ h i (.int k)) (l : σ.kn.length < fitN) (H : ∀ h', Sim adr h' (σ.sKn (tset σ.kn k b)) X → exs L r R ρ h') : exs L (.cons (.assign (.sub (.attr (.var x) 18) i) e) r) R ρ h :=
  x_setI E (S.at q rfl) I (.idict S.kn (mvs_line l)) (H _ (kset_mvs (f := .bool) ▸ S.set_kn _))
theorem x_hh (S : Sim adr h σ X) (q : ρ x = some (.ref (adr .s))) {b : Nat} (E : Ev L ρ h e (iN b)) (I : Ev L ρ h i (.int k)) (l : σ.hh.length < fitN) (H : ∀ h', Sim adr h' (σ.sHh (tset σ.hh k b)) X → exs L r R ρ h') : exs L (.cons (.assign (.sub (.attr (.var x) 9) i) e) r) R ρ h :=
  x_setI E (S.at q rfl) I (.idict S.hh (mvs_line l)) (H _ (kset_mvs (f := iN) ▸ S.set_hh _))
theorem x_ca (S : Sim adr h σ X) (q : ρ x = some (.ref (adr .s))) {b : Option Nat} (E : Ev L ρ h e (oN b)) (I : Ev L ρ h i (.int k)) (l : σ.ca.length < fitN) (H : ∀ h', Sim adr h' (σ.sCa (tset σ.ca k b)) X → exs L r R ρ h') : exs L (.cons (.assign (.sub (.attr (.var x) 19) i) e) r) R ρ h :=
  x_setI E (S.at q rfl) I (.idict S.ca (mvs_line l)) (H _ (kset_mvs (f := oN) ▸ S.set_ca _))
theorem x_ht (S : Sim adr h σ X) (q : ρ x = some (.ref (adr .s))) {b : Int} (E : Ev L ρ h e (.int b)) (I : Ev L ρ h i (.int k)) (l : σ.ht.length < fitN) (H : ∀ h', Sim adr h' (σ.sHt (tset σ.ht k b)) X → exs L r R ρ h') : exs L (.cons (.assign (.sub (.attr (.var x) 24) i) e) r) R ρ h :=
  x_setI E (S.at q rfl) I (.idict S.ht (mvs_line l)) (H _ (kset_mvs (f := .int) ▸ S.set_ht _))
theorem x_row (S : Sim adr h σ X) (q : ρ x = some (.ref (adr .s))) {b : Int} (E : Ev L ρ h e (.int b)) (l : σ.row.length < fitN) (H : ∀ h', Sim adr h' (σ.sRow (σ.row ++ [b])) X → exs L r R ρ h') : exs L (.cons (.expr (.callM (.attr (.var x) 8) 0 (.cons e .nil))) r) R ρ h :=
  m_append (S.at q rfl) S.ro E (eq_lt iL_length (fit_line l)) (H _ (iL_push ▸ S.set_row _))
theorem x_lg (S : Sim adr h σ X) (q : ρ x = some (.ref (adr .s))) {c : List Int} (E : Ev L ρ h e (.tup (iL c))) (l : σ.lg.length < fitN) (H : ∀ h', Sim adr h' (σ.sLg (σ.lg ++ [c])) X → exs L r R ρ h') : exs L (.cons (.expr (.callM (.attr (.var x) 11) 0 (.cons e .nil))) r) R ρ h :=
  m_append (S.at q rfl) S.lg E (eq_lt tL_length (fit_line l)) (H _ (tL_push ▸ S.set_lg _))
theorem x_at (S : Sim adr h σ X) (q : ρ x = some (.ref (adr .s))) (E : Ev L ρ h e w) {σ' : St} (S' : Sim adr (h.set (adr .s) (.inst (kset (attrs σ adr) n w))) σ' X) (H : ∀ h', Sim adr h' σ' X → exs L r R ρ h') : exs L (.cons (.assign (.attr (.var x) n) e) r) R ρ h :=
  x_setA E (e_var q) (.mk S.s (Nat.le_of_ble_eq_true rfl)) (H _ S')
end
theorem says_spec (L : Lib P) (S : Sim adr h σ X) (l : Int) (q : Q (oB (σ.says l)) h) : callD P sc (d + 1) L.fSays [.ref (adr .s), .int l] Q h := by
  refine enter L.bSays rfl rfl (x_let (e_get (S.at rfl rfl) S.kn (e_abs (e_var rfl))) ?_)
  rw [kget_mvs]
  revert q
  unfold St.says
  rcases tget σ.kn l.natAbs with _ | b <;> intro q
  · exact x_ret (e_iteT (e_cmp (e_var rfl) e_none (.is .nn)) (.bool _) e_none) q
  · exact x_ret (e_iteF (e_cmp (e_var rfl) e_none (.is (.bn b))) (.bool _) (e_cmp (e_var rfl) (e_cmp (e_var rfl) e_int (.gt _ _)) (.eq (.flat (.at (.bb _ _)))))) q
theorem let_spec (L : Lib P) (S : Sim adr h σ X) (hf : fit σ = true) (l : Int) (c : Option Nat) (q : ∀ h', Sim adr h' (σ.let' l c) X → Q .none h') : callD P sc (d + 1) L.fLet [.ref (adr .s), .int l, oN c] Q h :=
  enter L.bLet rfl rfl <| x_let (e_abs (e_var rfl)) <|
  x_kn S rfl (e_cmp (e_var rfl) e_int (.gt _ _)) (e_var rfl) (fit_kn hf) fun _ S =>
  x_hh S rfl (S.len_be rfl) (e_var rfl) (fit_hh (σ := σ) hf) fun _ S =>
  x_ca S rfl (e_var rfl) (e_var rfl) (fit_ca (σ := σ) hf) fun _ S =>
  x_row S rfl (e_var rfl) (fit_row (σ := σ) hf) fun _ S => q _ S
noncomputable def St.refute (σ : St) : St := { σ with ref := true, lg := σ.lg ++ [[]] }
theorem refute_spec (L : Lib P) (S : Sim adr h σ X) (hf : fit σ = true) (q : ∀ h', Sim adr h' σ.refute X → Q .none h') : callD P sc (d + 1) L.fRefute [.ref (adr .s)] Q h :=
  enter L.bRefute rfl rfl <| x_at S rfl e_bool (S.set_ref true) fun _ S =>
  x_lg (c := []) S rfl (e_tup e_nil (Nat.zero_le _) rfl) (fit_lg (σ := σ) hf) fun _ S => q _ S
end
end Mini.C
end
section
namespace Mini.C
open Mini
section
variable {P : MProg} {sc : List Int} {d : Nat} {adr : Tag → Nat} {h : MHeap} {σ : St} {X : XH} {Q : KV}
noncomputable def St.pop (σ : St) (l : Int) (b : Bool) : St := { σ with row := σ.row.dropLast, kn := tdel σ.kn l.natAbs, li := tset σ.li l.natAbs b }
noncomputable def popTo (n : Nat) : Nat → St → Option St
  | 0, σ => if σ.row.length ≤ n then some σ else none
  | k + 1, σ => if σ.row.length ≤ n then some σ else
    match σ.row.getLast? with
    | none => none
    | some l => match tget σ.kn l.natAbs with
      | none => none
      | some b => if fit σ then popTo n k (σ.pop l b) else none
noncomputable def St.back (σ : St) (H : Nat) : Option St :=
  match σ.be[H]? with
  | none => some σ
  | some n => (popTo n σ.row.length σ).map fun σ' => { σ' with be := σ.be.take H, seen := σ'.row.length }
inductive PopStep (n k : Nat) (σ σ1 : St) : Prop
  | mk (k' : Nat) (l : Int) (b : Bool) (ek : k = k' + 1) (el : σ.row.getLast? = some l) (ev : tget σ.kn l.natAbs = some b) (hf : fit σ = true) (ep : popTo n k' (σ.pop l b) = some σ1)
theorem popTo_step {n k : Nat} {σ σ1 : St} (hr : n < σ.row.length) (ep : popTo n k σ = some σ1) : PopStep n k σ σ1 := by
  rcases k with _ | k
  · exact ns ((if_neg (Nat.not_le.mpr hr)).symm.trans ep)
  · have ep := (if_neg (Nat.not_le.mpr hr)).symm.trans ep
    revert ep
    generalize el : σ.row.getLast? = ol
    rcases ol with _ | l
    · exact fun ep => ns ep
    · dsimp only
      generalize ek : tget σ.kn l.natAbs = ob
      rcases ob with _ | b
      · exact fun ep => ns ep
      · intro ep
        by_cases hf : fit σ = true
        · exact ⟨k, l, b, rfl, el, ek, hf, (if_pos hf).symm.trans ep⟩
        · exact ns ((if_neg hf).symm.trans ep)
theorem popTo_end {n k : Nat} {σ σ1 : St} (hr : σ.row.length ≤ n) (ep : popTo n k σ = some σ1) : σ = σ1 := by
  rcases k with _ | k <;> exact Option.some.inj ((if_pos hr).symm.trans ep)
theorem popTo_be {n : Nat} {k : Nat} {σ σ' : St} (e : popTo n k σ = some σ') : σ'.be = σ.be := by
  induction k generalizing σ with
  | zero =>
    by_cases c : σ.row.length ≤ n
    · rw [popTo_end c e]
    · exact ns ((if_neg c).symm.trans e)
  | succ k ih =>
    by_cases c : σ.row.length ≤ n
    · rw [popTo_end c e]
    · obtain ⟨k', l, b, ek, el, ev, hf, ep⟩ := popTo_step (Nat.lt_of_not_le c) e
      exact ih (σ := σ.pop l b) (Nat.succ.inj ek ▸ ep)
theorem last_eq {α : Type} {xs : List α} {l : α} (e : xs.getLast? = some l) : xs = xs.dropLast ++ [l] := by
  obtain ⟨ys, rfl⟩ := List.getLast?_eq_some_iff.mp e
  rw [List.dropLast_concat]
theorem Sim.put_less (S : Sim adr h σ X) {o : MObj} {adr' : Tag → Nat} {h' : MHeap} {σ' : St} (S' : Sim adr' h' σ' (X.put h.next o)) : Sim adr' h' σ' X :=
  S'.less fun a o' e => (put_ne fun q => by rw [q, S.none_at (Nat.le_refl _)] at e; exact ns e).trans e
theorem Sim.cut_less (S : Sim adr h σ X) {o : MObj} {adr' : Tag → Nat} {h' : MHeap} {σ' : St} (S' : Sim adr' h' σ' ((X.put h.next o).cut h.next)) : Sim adr' h' σ' X :=
  S'.less fun a o' e => by
    have n : a ≠ h.next := fun q => by rw [q, S.none_at (Nat.le_refl _)] at e; exact ns e
    exact (if_neg n).trans ((put_ne n).trans e)
theorem Sim.fresh (S : Sim adr h σ X) {σ' : St} {t : Tag} (ht : t ≠ .s) {n : Nat} {o : MObj} (ho : want σ' (mv adr t h.next) t = o) (e : attrs σ' (mv adr t h.next) = kset (attrs σ adr) n (.ref h.next))
    (hl : ∀ t, live σ' t → live σ t) (hw : ∀ u, u ≠ .s → u ≠ t → want σ' (mv adr t h.next) u = want σ adr u) : Sim (mv adr t h.next) ((h.new o).set (adr .s) (.inst (kset (attrs σ adr) n (.ref h.next)))) σ' X :=
  S.cut_less (o := o) (e ▸ (S.push o).adopt (σ' := σ') .s t (put_same.trans (congrArg some ho.symm)) trivial (fun u _ l => hl u l) fun u a b _ => hw u a b)
theorem Sim.new_be (S : Sim adr h σ X) (xs : List Nat) : Sim (mv adr .be h.next) ((h.new (.list (nL xs))).set (adr .s) (.inst (kset (attrs σ adr) 7 (.ref h.next)))) (σ.sBe xs) X :=
  S.fresh (t := .be) Tag.noConfusion rfl rfl (fun _ l => l) fun t n m => by cases t <;> first | rfl | exact absurd rfl n | exact absurd rfl m
theorem Sim.new_ht (S : Sim adr h σ X) (es : List (Int × Int)) : Sim (mv adr .ht h.next) ((h.new (.idict (mvs .int es))).set (adr .s) (.inst (kset (attrs σ adr) 24 (.ref h.next)))) (σ.sHt es) X :=
  S.fresh (t := .ht) Tag.noConfusion rfl rfl (fun _ l => l) fun t n m => by cases t <;> first | rfl | exact absurd rfl n | exact absurd rfl m
theorem take_min {α : Type} {xs : List α} {n : Nat} : xs.take (min n xs.length) = xs.take n := by
  rcases Nat.le_total n xs.length with q | q
  · rw [Nat.min_eq_left q]
  · rw [Nat.min_eq_right q, List.take_of_length_le q, List.take_of_length_le (Nat.le_refl _)]
theorem x_be {L : Lg} {ρ : Vars} {x H : Nat} {i : ME} {r : MSs} {R : KF} (S : Sim adr h σ X) (q : ρ x = some (.ref (adr .s))) (E : Ev L ρ h i (iN H)) (K : ∀ h', Sim (mv adr .be h.next) h' (σ.sBe (σ.be.take H)) X → exs L r R ρ h') : exs L (.cons (.assign (.attr (.var x) 7) (.sliceTo (.attr (.var x) 7) i)) r) R ρ h := by
  refine x_atr (m_to (S.at q rfl) E (.list _ S.be) ?_)
  rw [clamp_nat, nL_take, nL_length, take_min]
  exact a_setA (e_var q) (.mk (S.push _).s (Nat.le_of_ble_eq_true rfl)) (K _ (S.new_be _))
inductive BackI (adr : Tag → Nat) (X : XH) (H n : Nat) (be : List Nat) (σ1 : St) (k : Nat) (ρ : Vars) (h : MHeap) : Prop
  | mk {σ2 : St} (r0 : ρ 0 = some (.ref (adr .s))) (r1 : ρ 1 = some (iN H)) (S : Sim adr h σ2 X) (b : σ2.be = be) (e : popTo n k σ2 = some σ1) : BackI adr X H n be σ1 k ρ h
theorem dec_lt {n m : Nat} (k : decide ((n : Int) < (m : Int)) = true) : n < m := Int.ofNat_lt.mp (of_decide_eq_true k)
theorem dec_nlt {n m : Nat} (k : decide ((n : Int) < (m : Int)) = false) : m ≤ n := Nat.not_lt.mp fun q => of_decide_eq_false k (Int.ofNat_lt.mpr q)
theorem back_spec (L : Lib P) (S : Sim adr h σ X) (H : Nat) {σ' : St} (e : σ.back H = some σ') (q : ∀ h' adr', adr' .s = adr .s → Sim adr' h' σ' X → Q .none h') : callD P sc (d + 1) L.fBack [.ref (adr .s), .int (H : Int)] Q h := by
  refine enter L.bBack rfl rfl (x_if (e_cmp (e_var rfl) (S.len_be rfl) (.lt _ _)) (fun k => ?_) fun k => ?_)
  · have hH := dec_lt k
    have eb := List.getElem?_eq_getElem hH
    unfold St.back at e
    rw [eb] at e
    obtain ⟨σ1, e1, rfl⟩ := Option.map_eq_some_iff.mp e
    refine x_while (while_rule (BackI adr X H _ σ.be σ1) (fun k ρ h K I hK => ?_) (.mk rfl rfl S rfl e1))
    induction I with
    | @mk σ2 r0 r1 S b e =>
    refine (e_cmp (S.len_row r0) (S.be_at r0 (e_var r1) ((congrArg (·[H]?) b).trans eb)) (.gt _ _)) true _ (bool_fin (If.of (fun k => ?_) fun k => ?_))
    · obtain ⟨k', l, b', rfl, el, ek, hf, ep⟩ := popTo_step (dec_lt k) e
      have R : h.obj (adr .ro) = some (.list (iL σ2.row.dropLast ++ [.int l])) := by rw [iL_push, ← last_eq el]; exact S.ro
      refine x_var (m_bui1 (m_listM (S.at r0 rfl) R e_nil (Nat.le_of_ble_eq_true rfl) (.popL R) (.of (.abs l) ?_)))
      have S := S.set_row σ2.row.dropLast
      refine x_sub (m_dictM (S.at r0 rfl) S.kn (e_one (e_var rfl)) (.inl rfl) (.popD (r := []) S.kn (kget_at ek) (Nat.zero_le _)) ?_)
      rw [kdel_mvs]
      have S := S.set_kn (tdel σ2.kn l.natAbs)
      exact a_setI (S.at r0 rfl) (e_var rfl) (.idict S.li (mvs_line (fit_li (σ := σ2) hf))) (hK k' (Nat.lt_succ_self _) _ _ (.mk (σ2 := σ2.pop l b') r0 r1 (kset_mvs (f := .bool) ▸ S.set_li (tset σ2.li l.natAbs b')) b ep))
    · have e := popTo_end (dec_nlt k) e
      subst e
      exact x_be S r0 (e_var r1) fun _ S => x_at S r0 (S.len_row r0) (S.set_seen _) fun _ S => q _ (mv adr .be h.next) rfl (by rw [b] at S; exact S)
  · unfold St.back at e
    rw [List.getElem?_eq_none (dec_nlt k)] at e
    exact q _ _ rfl (Option.some.inj e ▸ S)
end
end Mini.C
end
section
namespace Mini.C
open Mini
section
variable {P : MProg} {sc : List Int} {d : Nat} {adr : Tag → Nat} {h : MHeap} {σ : St} {X : XH} {Q : KV}
inductive Seq (X : XH) (xs : List Int) : MV → Prop
  | tup : Seq X xs (.tup (iL xs))
  | list {a : Nat} (e : X a = some (.list (iL xs))) : Seq X xs (.ref a)
theorem Sim.o (S : Sim adr h σ X) {a : Nat} {o : MObj} (e : X a = some o) : h.obj a = some o := (S.out a o e).obj
theorem Seq.items {v : MV} {xs : List Int} (q : Seq X xs v) (S : Sim adr h σ X) : Items h v (iL xs) := by
  induction q with
  | tup => exact .tup _
  | list e => exact .list (S.o e)
theorem Seq.mono {v : MV} {xs : List Int} {X' : XH} (q : Seq X xs v) (hx : ∀ a o, X a = some o → X' a = some o) : Seq X' xs v := by
  induction q with
  | tup => exact .tup
  | list e => exact .list (hx _ _ e)
theorem put_put {a : Nat} {o o' : MObj} : (X.put a o).put a o' = X.put a o' := by
  funext b
  by_cases c : b = a
  · rw [c, put_same, put_same]
  · rw [put_ne c, put_ne c, put_ne c]
theorem Sim.sub_put (S : Sim adr h σ X) {o : MObj} : ∀ a o', X a = some o' → (X.put h.next o) a = some o' := fun a o' e => (put_ne fun q => by rw [q, S.none_at (Nat.le_refl _)] at e; exact ns e).trans e
structure OrdOf (xs ys : List Int) : Prop where
  sorted : ys.Pairwise (fun a b => a.natAbs ≤ b.natAbs)
  nodup : ys.Nodup
  mem : ∀ l, l ∈ ys ↔ l ∈ xs
noncomputable def Contra (xs : List Int) : Prop := ∃ l ∈ xs, -l ∈ xs
inductive OrdI (adr : Tag → Nat) (σ : St) (X : XH) (n : Nat) (xs : List Int) (r : List MV) (ρ : Vars) (h : MHeap) : Prop
  | mk {done rest : List Int} {es : List (Int × Bool)} (r1 : ρ 1 = some (.ref n)) (e1 : xs = done ++ rest) (e2 : r = iL rest) (S : Sim adr h σ (X.put n (.idict (mvs .bool es)))) (n1 : (es.map (·.1)).Nodup) (n2 : ∀ l, l ∈ es.map (·.1) ↔ l ∈ done) (n3 : es.length ≤ done.length) (n4 : ∀ l ∈ done, -l ∉ done) : OrdI adr σ X n xs r ρ h
theorem mem_push {α : Type} {xs : List α} {x y : α} : y ∈ xs ++ [x] ↔ y ∈ xs ∨ y = x := by rw [List.mem_append, List.mem_singleton]
theorem nodup_push {α : Type} {xs : List α} {x : α} (h : xs.Nodup) (n : x ∉ xs) : (xs ++ [x]).Nodup := by
  rw [List.nodup_append]
  exact ⟨h, List.nodup_cons.mpr ⟨List.not_mem_nil, List.nodup_nil⟩, fun a ha b hb q => n (List.mem_singleton.mp hb ▸ q ▸ ha)⟩
theorem keys_mem {es : List (Int × Bool)} {x l : Int} {b : Bool} : l ∈ (tset es x b).map (·.1) ↔ l ∈ es.map (·.1) ∨ l = x := by
  rw [keys_tset]
  by_cases c : (tget es x).isSome = true
  · rw [if_pos c]; exact ⟨.inl, fun q => q.elim id fun q => q ▸ tget_isSome.mp c⟩
  · rw [if_neg c, mem_push]
theorem keys_nodup {α : Type} {es : List (Int × α)} {x : Int} {b : α} (h : (es.map (·.1)).Nodup) : ((tset es x b).map (·.1)).Nodup := by
  rw [keys_tset]
  by_cases c : (tget es x).isSome = true
  · rw [if_pos c]; exact h
  · rw [if_neg c]; exact nodup_push h fun q => c (tget_isSome.mpr q)
theorem len_left {α : Type} {xs a b : List α} (e : xs = a ++ b) : a.length ≤ xs.length := by rw [e, List.length_append]; exact Nat.le_add_right _ _
theorem neg_self {x : Int} (h : -x = x) : x = 0 := by omega
theorem iL_nil_eq {rest : List Int} (e : [] = iL rest) : rest = [] := by
  rcases rest with _ | ⟨a, r⟩
  · rfl
  · exact absurd e.symm (List.cons_ne_nil _ _)
theorem iL_cons_eq {w : MV} {r : List MV} {rest : List Int} (e : w :: r = iL rest) : ∃ x s, rest = x :: s ∧ w = .int x ∧ r = iL s := by
  rcases rest with _ | ⟨x, s⟩
  · exact absurd e (List.cons_ne_nil _ _)
  · exact ⟨x, s, rfl, (List.cons.inj e).1, (List.cons.inj e).2⟩
theorem iL_flat {xs : List Int} : (iL xs).all MV.flat = true := List.all_eq_true.mpr fun v hv => by
  obtain ⟨i, _, rfl⟩ := List.mem_map.mp hv
  rfl
theorem ordered_spec (L : Lib P) (S : Sim adr h σ X) {v : MV} {xs : List Int} (hv : Seq X xs v) (h0 : (0 : Int) ∉ xs) (hl : xs.length < 64)
    (q1 : Contra xs → ∀ h', Sim adr h' σ X → Q .none h') (q2 : ¬ Contra xs → ∀ ys, OrdOf xs ys → ∀ h', Sim adr h' σ X → Q (.tup (iL ys)) h') : callD P sc (d + 1) 0 [v] Q h := by
  have S1 : Sim adr (h.new (.idict [])) σ (X.put h.next (.idict (mvs MV.bool []))) := S.push (.idict (mvs MV.bool []))
  have hX := fun a o e o' => S.sub_put (o := o') a o e
  refine enter L.bOrdered rfl rfl (x_var (x_for (xs := iL xs) (e_var rfl) ((hv.mono fun a o e => hX a o e _).items S1) (for_rule (OrdI adr σ X h.next xs) (fun r ρ h I => ?_) (fun w r ρ h' K I hK => ?_) (fun ρ h' I => ?_) (.mk (done := []) (es := []) rfl rfl rfl S1 List.nodup_nil (fun _ => Iff.rfl) (Nat.le_refl _) fun _ q => absurd q List.not_mem_nil))))
  · induction I with
    | mk _ _ _ S => exact (hv.mono fun a o e => hX a o e _).items S
  · induction I with
    | @mk done rest es r1 e1 e2 S2 n1 n2 n3 n4 =>
    obtain ⟨x, rest, rfl, rfl, rfl⟩ := iL_cons_eq e2
    have on := S2.o put_same
    have xin : x ∈ xs := e1 ▸ List.mem_append_right _ List.mem_cons_self
    have done_in : ∀ y ∈ done, y ∈ xs := fun y hy => e1 ▸ List.mem_append_left _ hy
    refine x_if (e_cmp (e_neg (e_var rfl)) (e_var r1) (.isin (.dict on))) (fun k => ?_) fun k => ?_
    · rw [mvs_any] at k
      exact x_ret e_none (q1 ⟨x, xin, done_in _ ((n2 _).mp (tget_isSome.mp k))⟩ _ (S2.less fun a o e => hX a o e _))
    · rw [mvs_any] at k
      have k : -x ∉ done := fun q => Bool.false_ne_true (k.symm.trans (tget_isSome.mpr ((n2 _).mpr q)))
      have l1 : es.length < lenLine := Nat.lt_of_le_of_lt (Nat.le_trans n3 (len_left e1)) (Nat.lt_trans hl (Nat.le_of_ble_eq_true rfl))
      refine x_setI e_bool (e_var r1) (e_var rfl) (.idict on (eq_lt mvs_length l1)) (hK _ _ (.mk (done := done ++ [x]) (es := tset es x true) r1 (by rw [e1, List.append_assoc]; rfl) rfl (kset_mvs (f := .bool) ▸ put_put (X := X) ▸ S2.poke put_same _) (keys_nodup n1) (fun l => by rw [keys_mem, n2, mem_push]) ?_ fun l q => ?_))
      · rw [List.length_append]; exact Nat.le_trans tset_len (Nat.succ_le_succ n3)
      · rw [mem_push] at q ⊢
        rintro (c | c) <;> rcases q with q | q
        · exact n4 l q c
        · exact k (q ▸ c)
        · exact k ((Int.neg_eq_comm.mp c) ▸ q)
        · exact h0 (neg_self (q ▸ c) ▸ xin)
  · induction I with
    | @mk done rest es r1 e1 e2 S2 n1 n2 n3 n4 =>
    have := iL_nil_eq e2
    subst this
    rw [List.append_nil] at e1
    subst e1
    refine x_retE (m_bui1 (m_sortAbs (e_var r1) (S2.o put_same) (eq_lt mvs_length (Nat.lt_of_le_of_lt n3 hl)) fun ys hp hs => ?_))
    rw [mvs_keys] at hp
    have S3 := S2.push (.list (iL ys))
    exact .of (.tupL (S3.o put_same) iL_flat) (q2 (fun ⟨l, a, b⟩ => n4 l a b) ys ⟨hs, hp.nodup_iff.mpr n1, fun l => hp.mem_iff.trans (n2 l)⟩ _ ((S2.put_less S3).less fun a o e => hX a o e _))
end
end Mini.C
end
section
namespace Mini.C
open Mini
section
variable {P : MProg} {sc : List Int} {d : Nat} {adr : Tag → Nat} {h : MHeap} {σ : St} {X : XH} {Q : KV}
theorem getD_at {rs : List (List Int)} {c : List Int} {i : Nat} (e : rs[i]? = some c) : rs.getD i [] = c := by unfold List.getD; rw [e]; rfl
theorem rL_succ {f : Nat → Nat} {n : Nat} : rL f (n + 1) = rL f n ++ [.ref (f n)] := by unfold rL; rw [List.range_succ, List.map_append]; rfl
theorem rL_congr {f g : Nat → Nat} {n : Nat} (e : ∀ i, i < n → f i = g i) : rL f n = rL g n := List.map_congr_left fun i hi => by rw [e i (List.mem_range.mp hi)]
theorem wL_tset {f g : Int → Nat} {wd : List (Int × List Nat)} {l : Int} (n : tget wd l = none) (e : ∀ k, k ≠ l → f k = g k) : wL g (tset wd l []) = kset (wL f wd) l (.ref (g l)) := by
  induction wd with
  | nil => rfl
  | cons p r ih =>
    rw [tget_cons] at n
    by_cases c : p.1 = l
    · rw [if_pos c] at n; exact ns n.symm
    · rw [if_neg c] at n
      rw [tset_cons, if_neg c]
      show (p.1, MV.ref (g p.1)) :: wL g (tset r l []) = kset ((p.1, MV.ref (f p.1)) :: wL f r) l _
      rw [ih n, kset_cons, if_neg c, e _ c]
theorem wL_keys {f : Int → Nat} {wd wd' : List (Int × List Nat)} (e : wd.map (·.1) = wd'.map (·.1)) : wL f wd = wL f wd' := by
  have k : ∀ wd : List (Int × List Nat), wL f wd = (wd.map (·.1)).map fun i => (i, MV.ref (f i)) := fun wd => by unfold wL; rw [List.map_map]; rfl
  rw [k, k, e]
theorem row_ne {i j : Nat} (h : i < j) : Tag.row i ≠ Tag.row j := fun q => Nat.ne_of_lt h (Tag.row.inj q)
theorem Sim.add_row (S : Sim adr h σ X) (c : List Int) : Sim (mv adr (.row σ.rows.length) h.next) ((h.new (.list (iL c))).set (adr .R) (.list (rL (fun i => adr (.row i)) σ.rows.length ++ [.ref h.next]))) (σ.sRows (σ.rows ++ [c])) X := by
  have l : (σ.rows ++ [c]).length = σ.rows.length + 1 := List.length_append
  have e : want (σ.sRows (σ.rows ++ [c])) (mv adr (.row σ.rows.length) h.next) .R = .list (rL (fun i => adr (.row i)) σ.rows.length ++ [.ref h.next]) := by
    show MObj.list (rL _ (σ.rows ++ [c]).length) = _
    rw [l, rL_succ, mv_same, rL_congr fun i hi => mv_ne (row_ne hi)]
  refine e ▸ S.cut_less ((S.push (.list (iL c))).adopt (σ' := σ.sRows (σ.rows ++ [c])) .R (.row σ.rows.length) (put_same.trans ?_) trivial (fun t n k => ?_) (fun t n m k => ?_))
  · exact congrArg (fun c => some (MObj.list (iL c))) (getD_at List.getElem?_concat_length).symm
  · cases t <;> try exact trivial
    · have k : _ < (σ.rows ++ [c]).length := k
      rw [l] at k
      exact Nat.lt_of_le_of_ne (Nat.le_of_lt_succ k) fun q => n (congrArg Tag.row q)
    · exact k
  · cases t <;> first | rfl | exact absurd rfl n | skip
    rename_i i
    have k : i < (σ.rows ++ [c]).length := k
    rw [l] at k
    exact congrArg (fun o : Option (List Int) => MObj.list (iL (o.getD []))) (List.getElem?_append_left (Nat.lt_of_le_of_ne (Nat.le_of_lt_succ k) fun q => m (congrArg Tag.row q)))
theorem Sim.adopt_wat (S : Sim adr h σ X) (l : Int) (hl : tget σ.wd l = none) {n : Nat} (hX : X n = some (.list (nL []))) :
    Sim (mv adr (.wat l) n) (h.set (adr .w) (.idict (kset (wL (fun l => adr (.wat l)) σ.wd) l (.ref n)))) (σ.sWd (tset σ.wd l [])) (X.cut n) := by
  have e : want (σ.sWd (tset σ.wd l [])) (mv adr (.wat l) n) .w = .idict (kset (wL (fun l => adr (.wat l)) σ.wd) l (.ref n)) :=
    congrArg MObj.idict ((wL_tset hl fun k q => (mv_ne fun z => q (Tag.wat.inj z)).symm).trans (congrArg (fun a => kset _ l (.ref a)) mv_same))
  refine e ▸ S.adopt (σ' := σ.sWd (tset σ.wd l [])) .w (.wat l) (hX.trans ?_) trivial (fun t n k => ?_) (fun t n m k => ?_)
  · exact congrArg (fun c : Option (List Nat) => some (MObj.list (nL (c.getD [])))) ((tget_tset (es := σ.wd) (k := l) (k' := l) (v := [])).trans (if_pos rfl)).symm
  · cases t <;> try exact trivial
    · exact k
    · rename_i i
      have k : (tget (tset σ.wd l []) i).isSome = true := k
      rw [tget_tset, if_neg fun q => n (congrArg Tag.wat q.symm)] at k
      exact k
  · cases t <;> first | rfl | exact absurd rfl n | skip
    rename_i i
    exact congrArg (fun c : Option (List Nat) => MObj.list (nL (c.getD []))) (tget_tset.trans (if_neg fun q => m (congrArg Tag.wat q.symm)))
theorem Sim.add_wat (S : Sim adr h σ X) (l : Int) (hl : tget σ.wd l = none) : Sim (mv adr (.wat l) h.next) ((h.new (.list [])).set (adr .w) (.idict (kset (wL (fun l => adr (.wat l)) σ.wd) l (.ref h.next)))) (σ.sWd (tset σ.wd l [])) X :=
  S.cut_less (o := .list []) ((S.push (.list [])).adopt_wat l hl put_same)
theorem Sim.set_wat (S : Sim adr h σ X) (l : Int) (xs : List Nat) (hl : (tget σ.wd l).isSome = true) : Sim adr (h.set (adr (.wat l)) (.list (nL xs))) (σ.sWd (tset σ.wd l xs)) X := by
  have hk : (tset σ.wd l xs).map (·.1) = σ.wd.map (·.1) := by rw [keys_tset, if_pos hl]
  have e : want (σ.sWd (tset σ.wd l xs)) adr (.wat l) = .list (nL xs) := congrArg (fun c : Option (List Nat) => MObj.list (nL (c.getD []))) (tget_tset.trans (if_pos rfl))
  refine e ▸ S.upd (σ' := σ.sWd (tset σ.wd l xs)) (.wat l) hl (fun t => ?_) (fun t n => ?_)
  · cases t <;> try exact Iff.rfl
    exact (tget_isSome.trans (hk ▸ Iff.rfl)).trans tget_isSome.symm
  · cases t <;> try rfl
    · exact congrArg MObj.idict (wL_keys hk)
    · exact congrArg (fun c : Option (List Nat) => MObj.list (nL (c.getD []))) (tget_tset.trans (if_neg fun q => n (congrArg Tag.wat q.symm)))
end
end Mini.C
end
section
namespace Mini.C
open Mini
noncomputable def addW (wd : List (Int × List Nat)) (l : Int) (k : Nat) : List (Int × List Nat) := tset wd l ((tget wd l).getD [] ++ [k])
noncomputable def St.keep (σ : St) (c : List Int) : St := { σ with rows := σ.rows ++ [c], wd := (c.take 2).foldl (fun wd l => addW wd l σ.rows.length) σ.wd }
section
variable {P : MProg} {sc : List Int} {d : Nat} {adr : Tag → Nat} {h : MHeap} {σ : St} {X : XH} {Q : KV} {L : Lg} {ρ : Vars}
theorem addW_length {wd : List (Int × List Nat)} {l : Int} {k : Nat} : (addW wd l k).length ≤ wd.length + 1 := tset_len
theorem addW_lists {wd : List (Int × List Nat)} {l : Int} {k n : Nat} (h : ∀ p ∈ wd, p.2.length < n) (hn : 0 < n) : ∀ p ∈ addW wd l k, p.2.length < n + 1 := fun p hp =>
  (tset_mem hp).elim (fun q => Nat.lt_succ_of_lt (h p q)) fun q => by
    rw [q]
    show (_ ++ [k]).length < _
    rw [List.length_append]
    refine Nat.succ_lt_succ ?_
    generalize e : tget wd l = o
    rcases o with _ | xs
    · exact hn
    · exact h _ (tget_mem e)
theorem k_append {a k : Nat} {xs : List Nat} {e : ME} {t : Bool} (o : h.obj a = some (.list (nL xs))) (E : Ev L ρ h e (iN k)) (l : xs.length < lenLine) (H : fin t Q .none (h.set a (.list (nL (xs ++ [k]))))) :
    Yields (Kind L.P h 0 (.ref a)) fun kd => evL L (.cons e .nil) ρ (fun vs h => doM L h (.ref a) 0 vs (fin t Q) kd) h :=
  .mk (.list o (Nat.le_of_ble_eq_true rfl)) (l_one (E.go (.mk (.append o (eq_lt nL_length l)) (nL_push ▸ H))))
theorem m_watch {x : Nat} {e1 e2 : ME} {l : Int} {k : Nat} (S : Sim adr h σ X) (q : ρ x = some (.ref (adr .s))) (lw : σ.wd.length < lenLine) (ll : ∀ p ∈ σ.wd, p.2.length < lenLine) (E1 : Ev L ρ h e1 (.int l))
    (E2 : ∀ adr' h' wd', adr' .s = adr .s → Sim adr' h' (σ.sWd wd') X → Ev L ρ h' e2 (iN k)) (H : ∀ adr' h', (∀ t, live σ t → adr' t = adr t) → Sim adr' h' (σ.sWd (addW σ.wd l k)) X → Q .none h') :
    ev L (.callM (.callM (.attr (.var x) 23) 5 (.cons e1 (.cons (.list .nil) .nil))) 0 (.cons e2 .nil)) ρ false Q h := by
  have Sp := S.push (.list [])
  refine m_call (m_call ((S.at q rfl).go (.mk (.dict S.w (.inr (.inr rfl))) (E1.go (l_one (m_list e_nil (Nat.zero_le _) ?_))))))
  by_cases e : (tget σ.wd l).isSome = true
  · obtain ⟨xs, e'⟩ := Option.isSome_iff_exists.mp e
    have S1 := S.put_less Sp
    refine .mk (.defS Sp.w ((wL_get).trans (congrArg (Option.map _) e'))) (k_append (xs := xs) ((S1.obj (.wat l) e).trans (congrArg (fun c : Option (List Nat) => some (MObj.list (nL (c.getD [])))) e')) (E2 adr _ σ.wd rfl S1) (ll _ (tget_mem e')) (H adr _ (fun _ _ => rfl) ?_))
    unfold addW
    rw [e']
    exact S1.set_wat l (xs ++ [k]) e
  · have e := Option.not_isSome_iff_eq_none.mp e
    have S1 := S.add_wat l e
    have live1 : live (σ.sWd (tset σ.wd l [])) (.wat l) := congrArg Option.isSome (tget_tset.trans (if_pos rfl))
    have o1 : ((h.new (.list [])).set (adr .w) (.idict (kset (wL (fun l => adr (.wat l)) σ.wd) l (.ref h.next)))).obj h.next = some (.list (nL [])) := by
      have o := S1.obj _ live1
      rw [mv_same] at o
      exact o.trans (congrArg (fun c : Option (List Nat) => some (MObj.list (nL (c.getD [])))) (tget_tset.trans (if_pos rfl)))
    refine .mk (.defN Sp.w (wL_get.trans (congrArg (Option.map _) e)) (eq_lt wL_length lw)) (k_append (xs := []) o1 (E2 (mv adr (.wat l) h.next) _ _ rfl S1) (Nat.le_of_ble_eq_true rfl) (H (mv adr (.wat l) h.next) _ (fun t ht => mv_ne fun c => ?_) ?_))
    · rw [c] at ht
      exact ff ((congrArg Option.isSome e).symm.trans ht)
    · have S2 := S1.set_wat l [k] live1
      rw [mv_same] at S2
      have a : tset (tset σ.wd l []) l [k] = addW σ.wd l k := by unfold addW; rw [e, tset_new e, tset_new e]; exact tset_app e
      exact a ▸ S2
theorem x_rows {x a : Nat} {c : List Int} {e : ME} {r : MSs} {R : KF} (S : Sim adr h σ X) (q : ρ x = some (.ref (adr .s))) (E : Ev L ρ h e (.ref a)) (p : X a = some (.list (iL c))) (l : σ.rows.length < fitN)
    (H : ∀ h', Sim (mv adr (.row σ.rows.length) h.next) h' (σ.sRows (σ.rows ++ [c])) X → exs L r R ρ h') : exs L (.cons (.expr (.callM (.attr (.var x) 22) 0 (.cons (.callB .list (.cons e .nil)) .nil))) r) R ρ h := by
  refine x_expr (m_call ((S.at q rfl).go (.mk (.list S.R (Nat.le_of_ble_eq_true rfl)) (l_one (m_bui (e_one E) (.listL (S.o p)) (.mk (.append (S.push (.list (iL c))).R (eq_lt rL_length (fit_line l))) (H _ (S.add_row c))))))))
inductive KeepI (adr : Tag → Nat) (σ : St) (X : XH) (b : Nat) (c : List Int) (r : List MV) (ρ : Vars) (h : MHeap) : Prop
  | mk {done rest : List Int} {adr' : Tag → Nat} (r0 : ρ 0 = some (.ref (adr .s))) (e1 : c.take 2 = done ++ rest) (e2 : r = iL rest) (s : adr' .s = adr .s) (S : Sim adr' h ((σ.sRows (σ.rows ++ [c])).sWd (done.foldl (fun wd l => addW wd l σ.rows.length) σ.wd)) (X.put b (.list (iL (c.take 2)))))
    (l1 : (done.foldl (fun wd l => addW wd l σ.rows.length) σ.wd).length < fitN + done.length) (l2 : ∀ p ∈ done.foldl (fun wd l => addW wd l σ.rows.length) σ.wd, p.2.length < fitN + done.length) : KeepI adr σ X b c r ρ h
theorem e_last {x : Nat} {c : List Int} {rs : List (List Int)} (S : Sim adr h σ X) (q : ρ x = some (.ref (adr .s))) (e : σ.rows = rs ++ [c]) : Ev L ρ h (.bin .sub (.callB .len (.cons (.attr (.var x) 22) .nil)) (.int 1)) (iN rs.length) := by
  have k : (σ.rows.length : Int) - 1 = rs.length := by rw [e, List.length_append]; exact Int.add_sub_cancel (rs.length : Int) 1
  have E := e_ari (S.len_rows (L := L) q) e_int (.sub _ 1)
  rw [k] at E
  exact E
theorem keep_spec (L : Lib P) (S : Sim adr h σ X) (hf : fit σ = true) {a : Nat} {c : List Int} (ha : X a = some (.list (iL c))) (q : ∀ h' adr', adr' .s = adr .s → Sim adr' h' (σ.keep c) X → Q (.int (σ.rows.length : Int)) h') : callD P sc (d + 1) L.fKeep [.ref (adr .s), .ref a] Q h := by
  refine enter L.bKeep rfl rfl (x_rows S rfl (e_var rfl) ha (fit_rows hf) fun h1 S1 => x_for' (m_to (e_var rfl) e_int (.list 2 (S1.o ha)) ?_))
  rw [iL_length, iL_take, show clamp c.length 2 = min 2 c.length from rfl, take_min]
  have S2 := S1.push (.list (iL (c.take 2)))
  have hX := S1.sub_put (o := .list (iL (c.take 2)))
  refine .mk (.list (S2.o put_same)) (for_rule (KeepI adr σ X h1.next c) (fun r ρ h I => ?_) (fun w r ρ h K I hK => ?_) (fun ρ h I => ?_) (.mk (done := []) (adr' := mv adr (.row σ.rows.length) h.next) rfl rfl rfl rfl S2 (fit_wd hf) (fit_wat hf)))
  · induction I with
    | mk _ _ _ _ S _ _ => exact .list (S.o put_same)
  · induction I with
    | @mk done rest adr' r0 e1 e2 s S l1 l2 =>
    obtain ⟨x, rest, rfl, rfl, rfl⟩ := iL_cons_eq e2
    have r1 : ρ 0 = some (.ref (adr' .s)) := s ▸ r0
    have hd : done.length ≤ 2 := Nat.le_trans (len_left e1) (List.length_take_le 2 c)
    have ln : fitN + done.length ≤ lenLine := Nat.le_trans (Nat.add_le_add_left hd _) (Nat.le_of_ble_eq_true rfl)
    refine x_expr (m_watch (l := x) (k := σ.rows.length) S r1 (Nat.lt_of_lt_of_le l1 ln) (fun p hp => Nat.lt_of_lt_of_le (l2 p hp) ln) (e_var rfl) (fun a2 h2 w2 s2 S2 => e_last S2 (s2 ▸ r1) rfl) fun a2 h2 k2 S2 => hK _ _ (.mk (done := done ++ [x]) (adr' := a2) r0 (by rw [e1, List.append_assoc]; rfl) rfl ((k2 .s trivial).trans s) ?_ ?_ ?_))
    · rw [List.foldl_append]; exact S2
    · rw [List.foldl_append, List.length_append]; exact Nat.lt_of_le_of_lt addW_length (Nat.succ_lt_succ l1)
    · rw [List.foldl_append, List.length_append]; exact addW_lists l2 (Nat.lt_of_lt_of_le (Nat.le_of_ble_eq_true rfl : 0 < fitN) (Nat.le_add_right _ _))
  · induction I with
    | @mk done rest adr' r0 e1 e2 s S l1 l2 =>
    have := iL_nil_eq e2
    subst this
    rw [List.append_nil] at e1
    refine x_ret (e_last S (s ▸ r0) rfl) (q _ adr' s ?_)
    rw [← e1] at S
    exact S.less hX
end
end Mini.C
end
section
namespace Mini.C
open Mini
noncomputable def defHeats (ht : List (Int × Int)) (xs : List Int) : List (Int × Int) := xs.foldl (fun ht (l : Int) => if (tget ht (l.natAbs : Int)).isSome then ht else ht ++ [((l.natAbs : Int), 0)]) ht
noncomputable def St.addTo (σ : St) (ys : List Int) : St :=
  if σ.ref = true ∨ some true ∈ ys.map σ.says then σ
  else match ys.filter (fun l => σ.says l == none) with
   | [] => σ.refute
   | [l] => σ.let' l none
   | left => σ.keep left
section
variable {P : MProg} {sc : List Int} {d : Nat} {adr : Tag → Nat} {h : MHeap} {σ : St} {X : XH} {Q : KV} {ρ : Vars}
theorem is_oB {o : Option Bool} : IsV (oB o) .none (o == none) := by
  rcases o with _ | b
  · exact .nn
  · exact .bn b
theorem aeq_oB {o : Option Bool} {b : Bool} : AEq (oB o) (.bool b) (o == some b) := by
  rcases o with _ | c
  · exact .nb b
  · exact .bb c b
theorem inL_oB {f : Int → Option Bool} {ys : List Int} : InL (.bool true) (ys.map fun y => oB (f y)) (ys.any fun y => f y == some true) := by
  induction ys with
  | nil => exact .nil
  | cons y r ih => exact .cons aeq_oB ih
theorem any_says {f : Int → Option Bool} {ys : List Int} : (ys.any fun y => f y == some true) = true ↔ some true ∈ ys.map f := by
  rw [List.any_eq_true, List.mem_map]
  exact ⟨fun ⟨y, h, e⟩ => ⟨y, h, eq_of_beq e⟩, fun ⟨y, h, e⟩ => ⟨y, h, beq_iff_eq.mpr e⟩⟩
theorem Sim.says_ev (L : Lib P) {x : Nat} {e : ME} {l : Int} (S : Sim adr h σ X) (q : ρ x = some (.ref (adr .s))) (E : Ev (Mini.lg P sc (d + 1)) ρ h e (.int l)) : Ev (Mini.lg P sc (d + 1)) ρ h (.callM (.var x) 15 (.cons e .nil)) (oB (σ.says l)) :=
  e_meth (e_var q) S.s L.mSays (e_one E) fun Q H => says_spec L S l H
theorem defHeats_push {ht : List (Int × Int)} {xs : List Int} {x : Int} : defHeats ht (xs ++ [x]) = if (tget (defHeats ht xs) (x.natAbs : Int)).isSome then defHeats ht xs else defHeats ht xs ++ [((x.natAbs : Int), 0)] := by
  unfold defHeats
  rw [List.foldl_append]
  rfl
theorem defHeats_len {xs : List Int} {ht : List (Int × Int)} : (defHeats ht xs).length ≤ ht.length + xs.length := by
  induction xs generalizing ht with
  | nil => exact Nat.le_refl _
  | cons x r ih =>
    refine Nat.le_trans ih ?_
    rw [List.length_cons, ← Nat.add_assoc, Nat.add_right_comm]
    refine Nat.add_le_add_right ?_ _
    dsimp only
    by_cases c : (tget ht (x.natAbs : Int)).isSome = true
    · rw [if_pos c]; exact Nat.le_succ _
    · rw [if_neg c, List.length_append]; exact Nat.le_refl _
theorem nodup_le {xs ys : List Int} (hn : ys.Nodup) (h : ∀ l ∈ ys, l ∈ xs) : ys.length ≤ xs.length := by
  induction xs generalizing ys with
  | nil =>
    rcases ys with _ | ⟨y, r⟩
    · exact Nat.le_refl _
    · exact absurd (h y List.mem_cons_self) List.not_mem_nil
  | cons x xs ih =>
    have h1 := ih (hn.erase x) fun l hl => (List.mem_cons.mp (h l (List.mem_of_mem_erase hl))).resolve_left fun q => (hn.mem_erase_iff.mp hl).1 q
    rw [List.length_erase] at h1
    by_cases c : x ∈ ys
    · rw [if_pos c] at h1; exact Nat.le_succ_of_pred_le h1
    · rw [if_neg c] at h1; exact Nat.le_succ_of_le h1
inductive AddI (adr : Tag → Nat) (σ : St) (X : XH) (xs : List Int) (v w : MV) (r : List MV) (ρ : Vars) (h : MHeap) : Prop
  | mk {done rest : List Int} (r0 : ρ 0 = some (.ref (adr .s))) (r1 : ρ 1 = some v) (r2 : ρ 2 = some w) (e1 : xs = done ++ rest) (e2 : r = iL rest) (S : Sim adr h (σ.sHt (defHeats σ.ht done)) X) : AddI adr σ X xs v w r ρ h
theorem add_loop {L : Lg} {R : KF} {r : MSs} {v w : MV} {xs : List Int} (S : Sim adr h σ X) (hv : Seq X xs v) (hl : xs.length < 64) (hh : σ.ht.length < fitN) (r0 : ρ 0 = some (.ref (adr .s))) (r1 : ρ 1 = some v) (r2 : ρ 2 = some w)
    (H : ∀ ρ h, ρ 0 = some (.ref (adr .s)) → ρ 2 = some w → Sim adr h (σ.sHt (defHeats σ.ht xs)) X → exs L r R ρ h) :
    exs L (.cons (.for 3 (.var 1) (.cons (.expr (.callM (.attr (.var 0) 24) 5 (.cons (.callB .abs (.cons (.var 3) .nil)) (.cons (.int 0) .nil)))) .nil)) r) R ρ h := by
  refine x_for (e_var r1) (hv.items S) (for_rule (AddI adr σ X xs v w) (fun r ρ h I => ?_) (fun u r ρ h K I hK => ?_) (fun ρ h I => ?_) (.mk (done := []) r0 r1 r2 rfl rfl S))
  · induction I with
    | mk _ _ _ _ _ S => exact hv.items S
  · induction I with
    | @mk done rest r0 r1 r2 e1 e2 S =>
    obtain ⟨x, rest, rfl, rfl, rfl⟩ := iL_cons_eq e2
    have go := fun h S => hK (Vars.set ρ 3 (.int x)) h (.mk (done := done ++ [x]) r0 r1 r2 (by rw [e1, List.append_assoc]; rfl) rfl S)
    rw [defHeats_push] at go
    by_cases c : (tget (defHeats σ.ht done) (x.natAbs : Int)).isSome = true
    · rw [if_pos c] at go
      obtain ⟨y, c⟩ := Option.isSome_iff_exists.mp c
      exact x_expr (m_dictM (S.at r0 rfl) S.ht (e_cons (e_abs (e_var rfl)) (e_one e_int)) (.inr (.inr rfl)) (.defS S.ht (kget_at c)) (go _ S))
    · rw [if_neg c] at go
      have c := Option.not_isSome_iff_eq_none.mp c
      have bl : (defHeats σ.ht done).length < lenLine := Nat.lt_of_le_of_lt defHeats_len (Nat.lt_of_lt_of_le (Nat.add_lt_add hh (Nat.lt_of_le_of_lt (len_left e1) hl)) (Nat.le_of_ble_eq_true rfl))
      refine x_expr (m_dictM (S.at r0 rfl) S.ht (e_cons (e_abs (e_var rfl)) (e_one e_int)) (.inr (.inr rfl)) (.defN S.ht (kget_mvs.trans (congrArg (Option.map _) c)) (eq_lt mvs_length bl)) (go _ ?_))
      have S := S.set_ht (tset (defHeats σ.ht done) x.natAbs 0)
      rw [← kset_mvs, tset_new c] at S
      exact S
  · induction I with
    | @mk done rest r0 r1 r2 e1 e2 S =>
    have := iL_nil_eq e2
    subst this
    rw [List.append_nil] at e1
    exact H _ _ r0 r2 (e1 ▸ S)
end
end Mini.C
end
section
namespace Mini.C
open Mini
noncomputable def MSs.tl : MSs → MSs
  | .cons _ r => r
  | .nil => .nil
section
variable {P : MProg} {sc : List Int} {d : Nat} {adr : Tag → Nat} {h : MHeap} {σ : St} {X : XH} {Q : KV} {ρ : Vars}
theorem add_rest (L : Lib P) {R : KF} {ys : List Int} (S : Sim adr h σ X) (r0 : ρ 0 = some (.ref (adr .s))) (r2 : ρ 2 = some (.tup (iL ys))) (yl : ys.length ≤ lenLine) (hf : fit σ = true)
    (H : ∀ ρ h' adr', adr' .s = adr .s → Sim adr' h' (σ.addTo ys) X → R (.ret (.bool (!(σ.addTo ys).ref))) ρ h') : exs (lg P sc (d + 1)) (MSs.tl (MSs.tl (MSs.tl f_Search_add_clause.body))) R ρ h := by
  have E1 : Ev (lg P sc (d + 1)) ρ h (.cmp .is (.var 2) .none) (.bool false) := e_cmp (e_var r2) e_none (.is (.tn _))
  by_cases hr : σ.ref = true
  · have ea : σ.addTo ys = σ := if_pos (.inl hr)
    rw [ea] at H
    exact x_iteT (e_orF E1 (e_orT (hr ▸ S.at r0 rfl))) (x_ret (e_not (S.at r0 rfl) (.bool _)) (H _ _ _ rfl S))
  · refine x_ite' (m_orF E1 (m_orF (Bool.eq_false_iff.mpr hr ▸ S.at r0 rfl) (m_or1 (m_cmp e_bool (m_comp (f := fun _ => true) (e_var r2) (.tup _) (fun a _ K H => H) (fun a ha _ => S.says_ev L r0 (e_var rfl)) yl ?_)))))
    rw [List.filter_eq_self.mpr fun _ _ => rfl]
    have Sp := S.push (.list (ys.map fun a => oB (σ.says a)))
    refine .mk (.isin (.list (Sp.o put_same) inL_oB)) (If.of (fun k => ?_) fun k => ?_)
    · have ea : σ.addTo ys = σ := if_pos (.inr (any_says.mp k))
      rw [ea] at H
      have S := S.put_less Sp
      exact x_ret (e_not (S.at r0 rfl) (.bool _)) (H _ _ _ rfl S)
    · have ea : σ.addTo ys = _ := if_neg fun q => q.elim hr fun q => Bool.false_ne_true (k.symm.trans (any_says.mpr q))
      rw [ea] at H
      clear ea k
      have S := S.put_less Sp
      refine x_var (m_comp (f := fun l => σ.says l == none) (g := .int) (e_var r2) (.tup _) (fun a _ K H => c_one (e_cmp (S.says_ev L r0 (e_var rfl)) e_none (.is is_oB)) H) (fun a ha _ => e_var rfl) yl ?_)
      revert H
      generalize ys.filter (fun l => σ.says l == none) = left
      intro H
      have S8 := S.push (.list (iL left))
      have o8 := S8.o put_same
      have hX := S.sub_put (o := .list (iL left))
      have last := fun (adr' : Tag → Nat) (h' : MHeap) (σ' : St) (ρ : Vars) (s : adr' .s = adr .s) (S' : Sim adr' h' σ' X) (r0 : ρ 0 = some (.ref (adr .s))) (q : R (.ret (.bool (!σ'.ref))) ρ h') => x_ret (r := .nil) (R := R) (L := lg P sc (d + 1)) (e_not (S'.at (n := 13) (s ▸ r0) rfl) (.bool _)) q
      rcases left with _ | ⟨l, _ | ⟨l', rest⟩⟩
      · exact x_iteT (e_cmp (e_len (e_var rfl) o8) e_int (.eq (.flat (.at (.ii _ _))))) (x_expr (m_meth (e_var r0) S8.s L.mRefute e_nil (refute_spec L S8 hf fun h9 S9 => last _ _ _ _ rfl (S9.less hX) r0 (H _ _ _ rfl (S9.less hX)))))
      · refine x_iteF (e_cmp (e_len (e_var rfl) o8) e_int (.eq (.flat (.at (.ii _ _))))) (x_iteT (e_cmp (e_len (e_var rfl) o8) e_int (.eq (.flat (.at (.ii _ _))))) (x_expr (m_meth (e_var r0) S8.s L.mLet (e_cons (e_sub (e_var rfl) e_int (.list o8 (.pos (j := 0) (Nat.zero_lt_one)) rfl)) (e_one e_none)) (let_spec L S8 hf l none fun h9 S9 => last _ _ _ _ rfl (S9.less hX) r0 (H _ _ _ rfl (S9.less hX))))))
      · refine x_iteF (e_cmp (e_len (e_var rfl) o8) e_int (.eq (.flat (.at (.ii _ _))))) (x_iteF (e_cmp (e_len (e_var rfl) o8) e_int (.eq (.flat (.at (.ii _ _))))) (x_expr (m_meth (e_var r0) S8.s L.mKeep (e_one (e_var rfl)) (keep_spec L S8 hf put_same fun h9 a9 s9 S9 => last _ _ _ _ s9 (S9.less hX) r0 (H _ _ _ s9 (S9.less hX))))))
theorem add_spec (L : Lib P) (S : Sim adr h σ X) {v : MV} {xs : List Int} (hv : Seq X xs v) (h0 : (0 : Int) ∉ xs) (hl : xs.length < 64) {σ1 : St} (e : σ.back 0 = some σ1) {σ2 : St} (e2 : { σ1 with ht := defHeats σ1.ht xs } = σ2) (hh : σ1.ht.length < fitN) (hf : fit σ2 = true)
    (q1 : Contra xs → ∀ h' adr', adr' .s = adr .s → Sim adr' h' σ2 X → Q (.bool (!σ2.ref)) h')
    (q2 : ¬ Contra xs → ∀ ys, OrdOf xs ys → ∀ h' adr', adr' .s = adr .s → Sim adr' h' (σ2.addTo ys) X → Q (.bool (!(σ2.addTo ys).ref)) h') :
    callD P sc (d + 2) L.fAdd [.ref (adr .s), v] Q h :=
  enter L.bAdd rfl rfl <| x_expr <| m_meth (e_var rfl) S.s L.mBack (e_one e_int) <| back_spec L S 0 e fun h1 a1 s1 S1 => x_var <| m_fn (e_one (e_var rfl)) <| ordered_spec L S1 hv h0 hl
    (fun hc h2 S2 => add_loop S2 hv hl hh (s1 ▸ rfl) rfl rfl fun ρ h r0 r2 S3 => x_iteT (e_orT (e_cmp (e_var r2) e_none (.is .nn))) (x_ret (e_not ((e2 ▸ S3 : Sim a1 h σ2 X).at r0 rfl) (.bool _)) (q1 hc _ _ s1 (e2 ▸ S3))))
    (fun hc ys ho h2 S2 => add_loop S2 hv hl hh (s1 ▸ rfl) rfl rfl fun ρ h r0 r2 S3 => add_rest L (e2 ▸ S3 : Sim a1 h σ2 X) r0 r2 (Nat.le_trans (nodup_le ho.nodup fun l hl => (ho.mem l).mp hl) (Nat.le_trans (Nat.le_of_lt hl) (Nat.le_of_ble_eq_true rfl))) hf fun ρ h' a' s' S' => q2 hc ys ho h' a' (s'.trans s1) S')
end
end Mini.C
end
section
namespace Mini.C
open Mini
noncomputable def nth (c : List Int) (i : Nat) : Int := c.getD i 0
noncomputable def St.setW (σ : St) (wd : List (Int × List Nat)) : St := { σ with wd := wd }
noncomputable def St.setR (σ : St) (n : Nat) (c : List Int) : St := { σ with rows := σ.rows.set n c }
noncomputable def swap0 (c : List Int) (lost : Int) : List Int := if nth c 0 = lost then (c.set 0 (nth c 1)).set 1 lost else c
noncomputable def notF (σ : St) (c : List Int) (k : Nat) : Bool := σ.says (nth c k) != some false
noncomputable def St.moved (σ : St) (n : Nat) (lost : Int) : Option (Bool × St) :=
  match σ.rows[n]? with
  | none => none
  | some c => if c.length < 2 ∨ fitN < c.length then none else
    let c1 := swap0 c lost
    let σ1 := σ.setR n c1
    if σ.says (nth c1 0) = some true then some (false, σ1)
    else match (List.range' 2 (c.length - 2)).find? (notF σ c1) with
      | none => some (false, σ1)
      | some k => if fit σ then some (true, (σ.setR n ((c1.set 1 (nth c1 k)).set k lost)).setW (addW σ.wd (nth c1 k) n)) else none
section
variable {P : MProg} {sc : List Int} {d : Nat} {adr : Tag → Nat} {h : MHeap} {σ : St} {X : XH} {Q : KV} {ρ : Vars}
theorem rngL_nat {a b : Nat} (h : a ≤ b) : rngL (a : Int) (b : Int) = nL (List.range' a (b - a)) := by
  unfold rngL nL
  rw [List.range'_eq_map_range, List.map_map, ← Int.ofNat_sub h, Int.toNat_natCast]
  rfl
theorem getD_get {c : List Int} {i : Nat} (h : i < c.length) : c[i]? = some (nth c i) := by unfold nth List.getD; rw [List.getElem?_eq_getElem h]; rfl
theorem nL_cons {n : Nat} {ns : List Nat} : nL (n :: ns) = .int (n : Int) :: nL ns := rfl
theorem nL_nil : nL [] = [] := rfl
theorem nL_nil_eq {rest : List Nat} (e : [] = nL rest) : rest = [] := by
  rcases rest with _ | ⟨a, r⟩
  · rfl
  · exact absurd e.symm (List.cons_ne_nil _ _)
theorem nL_cons_eq {w : MV} {r : List MV} {rest : List Nat} (e : w :: r = nL rest) : ∃ x s, rest = x :: s ∧ w = iN x ∧ r = nL s := by
  rcases rest with _ | ⟨x, s⟩
  · exact absurd e (List.cons_ne_nil _ _)
  · exact ⟨x, s, rfl, (List.cons.inj e).1, (List.cons.inj e).2⟩
theorem says_setR {n : Nat} {c : List Int} {l : Int} : (σ.setR n c).says l = σ.says l := rfl
theorem setR_self {n : Nat} {c : List Int} (e : σ.rows[n]? = some c) : σ.setR n c = σ := by
  obtain ⟨hn, e⟩ := List.getElem?_eq_some_iff.mp e
  exact congrArg σ.sRows (e ▸ List.set_getElem_self hn)
theorem setR_setR {n : Nat} {c c' : List Int} : (σ.setR n c).setR n c' = σ.setR n c' := congrArg σ.sRows (List.set_set c)
theorem swap0_length {c : List Int} {lost : Int} : (swap0 c lost).length = c.length := by
  unfold swap0
  by_cases q : nth c 0 = lost
  · rw [if_pos q, List.length_set, List.length_set]
  · rw [if_neg q]
theorem Sim.set_rw (S : Sim adr h σ X) (i : Nat) (c : List Int) (hi : i < σ.rows.length) : Sim adr (h.set (adr (.row i)) (.list (iL c))) (σ.setR i c) X := by
  have l : (σ.rows.set i c).length = σ.rows.length := List.length_set
  have e : want (σ.setR i c) adr (.row i) = .list (iL c) := congrArg (fun c => MObj.list (iL c)) (getD_at (List.getElem?_set_self hi))
  refine e ▸ S.upd (σ' := σ.setR i c) (.row i) hi (fun t => ?_) (fun t n => ?_)
  · cases t <;> try exact Iff.rfl
    show _ < (σ.rows.set i c).length ↔ _
    rw [l]
    exact Iff.rfl
  · cases t <;> try rfl
    · exact congrArg (fun n => MObj.list (rL _ n)) l
    · exact congrArg (fun o : Option (List Int) => MObj.list (iL (o.getD []))) (List.getElem?_set_ne fun q => n (congrArg Tag.row q.symm))
theorem Sim.row_obj {n : Nat} {c : List Int} (S : Sim adr h (σ.setR n c) X) (hn : n < σ.rows.length) : h.obj (adr (.row n)) = some (.list (iL c)) :=
  (S.obj (.row n) ((List.length_set (as := σ.rows) (i := n) (a := c)).symm ▸ hn : n < (σ.rows.set n c).length)).trans (congrArg (fun c => some (MObj.list (iL c))) (getD_at (List.getElem?_set_self hn)))
section
variable {L : Lg} {i i1 i2 : ME} {j j1 j2 n x : Nat} {c : List Int} {lost : Int} {r : MSs} {R : KF}
theorem e_row {a : Nat} (q : ρ x = some (.ref a)) (o : h.obj a = some (.list (iL c))) (I : Ev L ρ h i (iN j)) (hj : j < c.length) : Ev L ρ h (.sub (.var x) i) (.int (nth c j)) :=
  e_sub (e_var q) I (.list o (.pos (iL_length.symm ▸ hj)) (iL_at (getD_get hj)))
theorem x_swap (S : Sim adr h (σ.setR n c) X) (hn : n < σ.rows.length) (r3 : ρ 3 = some (.ref (adr (.row n)))) (r2 : ρ 2 = some (.int lost)) (h1 : j1 < c.length) (h2 : j2 < c.length) (I1 : ∀ h, Ev L ρ h i1 (iN j1)) (I2 : ∀ h, Ev L ρ h i2 (iN j2))
    (H : ∀ h', Sim adr h' (σ.setR n ((c.set j1 (nth c j2)).set j2 lost)) X → exs L r R ρ h') : exs L (.cons (.assigns [.sub (.var 3) i1, .sub (.var 3) i2] (.cons (.sub (.var 3) i2) (.cons (.var 2) .nil))) r) R ρ h := by
  have hn' : n < (σ.setR n c).rows.length := (List.length_set (as := σ.rows) (i := n) (a := c)).symm ▸ hn
  have o := S.row_obj hn
  have S1 : Sim adr _ (σ.setR n (c.set j1 (nth c j2))) X := setR_setR (σ := σ) ▸ S.set_rw n (c.set j1 (nth c j2)) hn'
  rw [← iL_set] at S1
  have S2 : Sim adr _ (σ.setR n ((c.set j1 (nth c j2)).set j2 lost)) X := setR_setR (σ := σ) ▸ S1.set_rw n ((c.set j1 (nth c j2)).set j2 lost) ((List.length_set (as := σ.rows) (i := n) (a := c.set j1 (nth c j2))).symm ▸ hn)
  rw [← iL_set] at S2
  exact x_asgs (e_cons (e_row r3 o (I2 _) h2) (e_one (e_var r2))) (Nat.le_of_ble_eq_true rfl) rfl (a_sub (e_var r3) (I1 _) (.list o (iL_length.symm ▸ h1)) (a_sub (e_var r3) (I2 _) (.list (S1.row_obj hn) (by rw [iL_length, List.length_set]; exact h2)) (a_nil (H _ S2))))
end
end
end Mini.C
end
section
namespace Mini.C
open Mini
section
variable {P : MProg} {sc : List Int} {d : Nat} {adr : Tag → Nat} {h : MHeap} {σ : St} {X : XH} {Q : KV} {ρ : Vars}
theorem small_nat {n : Nat} (h : n ≤ lenLine) : small n := ⟨Int.lt_of_lt_of_le (by decide) (Int.natCast_nonneg n), Int.lt_of_le_of_lt (Int.ofNat_le.mpr h) (by decide)⟩
theorem live_setR {n : Nat} {c : List Int} {t : Tag} (l : live σ t) : live (σ.setR n c) t := by
  cases t <;> first | exact l | skip
  show _ < (σ.rows.set n c).length
  rw [List.length_set]
  exact l
theorem nth_swap {c : List Int} {k : Nat} {a b : Int} (h1 : 1 < c.length) (h2 : 2 ≤ k) : nth ((c.set 1 a).set k b) 1 = a := by
  unfold nth List.getD
  rw [List.getElem?_set_ne (Nat.ne_of_gt h2), List.getElem?_set_self h1]
  rfl
inductive MovI (adr : Tag → Nat) (σ : St) (X : XH) (n : Nat) (c : List Int) (lost : Int) (r : List MV) (ρ : Vars) (h : MHeap) : Prop
  | mk {rest : List Nat} (r0 : ρ 0 = some (.ref (adr .s))) (r1 : ρ 1 = some (iN n)) (r2 : ρ 2 = some (.int lost)) (r3 : ρ 3 = some (.ref (adr (.row n)))) (S : Sim adr h (σ.setR n c) X) (er : r = nL rest) (hb : ∀ k ∈ rest, 2 ≤ k ∧ k < c.length)
    (hf : (List.range' 2 (c.length - 2)).find? (notF σ c) = rest.find? (notF σ c)) : MovI adr σ X n c lost r ρ h
theorem moved_loop (L : Lib P) {R : KF} {n : Nat} {c : List Int} {lost : Int} {b : Bool} {σ' : St} (S : Sim adr h (σ.setR n c) X) (hn : n < σ.rows.length) (r0 : ρ 0 = some (.ref (adr .s))) (r1 : ρ 1 = some (iN n)) (r2 : ρ 2 = some (.int lost)) (r3 : ρ 3 = some (.ref (adr (.row n)))) (h2 : 2 ≤ c.length) (h3 : c.length ≤ fitN)
    (e : (match (List.range' 2 (c.length - 2)).find? (notF σ c) with | none => some (false, σ.setR n c) | some k => if fit σ then some (true, (σ.setR n ((c.set 1 (nth c k)).set k lost)).setW (addW σ.wd (nth c k) n)) else none) = some (b, σ'))
    (H : ∀ ρ h' adr', (∀ t, live σ t → adr' t = adr t) → Sim adr' h' σ' X → R (.ret (.bool b)) ρ h') : exs (lg P sc (d + 1)) (MSs.tl (MSs.tl (MSs.tl f_Search_has_moved.body))) R ρ h := by
  have lc : c.length ≤ lenLine := Nat.le_trans h3 (Nat.le_of_ble_eq_true rfl)
  have it : ∀ h, Items h (.rng 2 (iL c).length) (nL (List.range' 2 (c.length - 2))) := fun h => by
    have := Items.rng (h := h) ((2 : Nat) : Int) (c.length : Int)
    rw [rngL_nat h2, ← iL_length] at this
    rw [← iL_length] 
    exact this
  refine x_for (e_bui (e_cons e_int (e_one (e_len (e_var r3) (S.row_obj hn)))) (.range2 (small_nat (n := 2) (Nat.le_of_ble_eq_true rfl)) (small_nat (iL_length ▸ lc)))) (it h) (for_rule (MovI adr σ X n c lost) (fun _ _ h _ => it h) (fun w r ρ h K I hK => ?_) (fun ρ h I => ?_) (.mk r0 r1 r2 r3 S rfl (fun k hk => ?_) rfl))
  · induction I with
    | @mk rest r0 r1 r2 r3 S er hb hf =>
    obtain ⟨k, rest, rfl, rfl, rfl⟩ := nL_cons_eq er
    obtain ⟨k2, kl⟩ := hb k List.mem_cons_self
    refine x_if (e_cmp (S.says_ev L r0 (e_row r3 (S.row_obj hn) (e_var rfl) kl)) e_bool (.ne (.flat (.at aeq_oB)))) (fun q => ?_) fun q => ?_
    · have q : notF σ c k = true := q
      rw [hf, List.find?_cons_of_pos q] at e
      by_cases hfit : fit σ = true
      · obtain ⟨rfl, rfl⟩ := Prod.mk.inj (Option.some.inj ((if_pos hfit).symm.trans e))
        exact x_swap S hn r3 r2 h2 kl (fun _ => e_int) (fun _ => e_var rfl) fun h S => x_expr (m_watch (l := nth c k) (k := n) S r0 (fit_line (fit_wd (σ := σ) hfit)) (fun p hp => fit_line (fit_wat (σ := σ) hfit p hp)) (nth_swap (c := c) (k := k) (a := nth c k) (b := lost) h2 k2 ▸ e_row (j := 1) r3 (S.row_obj hn) e_int (by rw [List.length_set, List.length_set]; exact h2)) (fun _ _ _ _ _ => e_var r1) fun a2 h2 k2 S => x_ret e_bool (H _ _ a2 (fun t l => k2 t (live_setR l)) S))
      · exact ns ((if_neg hfit).symm.trans e)
    · have q : notF σ c k = false := q
      rw [List.find?_cons_of_neg (Bool.eq_false_iff.mp q)] at hf
      exact hK _ _ (.mk r0 r1 r2 r3 S rfl (fun k hk => hb k (List.mem_cons_of_mem _ hk)) hf)
  · induction I with
    | @mk rest r0 r1 r2 r3 S er hb hf =>
    have := nL_nil_eq er
    subst this
    rw [hf] at e
    obtain ⟨rfl, rfl⟩ := Prod.mk.inj (Option.some.inj e)
    exact x_ret e_bool (H _ _ adr (fun _ _ => rfl) S)
  · obtain ⟨a, b⟩ := List.mem_range'_1.mp hk
    exact ⟨a, Nat.add_sub_cancel' h2 ▸ b⟩
theorem moved_mid (L : Lib P) {R : KF} {n : Nat} {c : List Int} {lost : Int} {b : Bool} {σ' : St} (S : Sim adr h (σ.setR n c) X) (hn : n < σ.rows.length) (r0 : ρ 0 = some (.ref (adr .s))) (r1 : ρ 1 = some (iN n)) (r2 : ρ 2 = some (.int lost)) (r3 : ρ 3 = some (.ref (adr (.row n)))) (h2 : 2 ≤ c.length) (h3 : c.length ≤ fitN)
    (e : (if σ.says (nth c 0) = some true then some (false, σ.setR n c) else match (List.range' 2 (c.length - 2)).find? (notF σ c) with | none => some (false, σ.setR n c) | some k => if fit σ then some (true, (σ.setR n ((c.set 1 (nth c k)).set k lost)).setW (addW σ.wd (nth c k) n)) else none) = some (b, σ'))
    (H : ∀ ρ h' adr', (∀ t, live σ t → adr' t = adr t) → Sim adr' h' σ' X → R (.ret (.bool b)) ρ h') : exs (lg P sc (d + 1)) (MSs.tl (MSs.tl f_Search_has_moved.body)) R ρ h := by
  refine x_if (e_cmp (S.says_ev L r0 (e_row (j := 0) r3 (S.row_obj hn) e_int (Nat.lt_of_lt_of_le Nat.zero_lt_two h2))) e_bool (.eq (.flat (.at aeq_oB)))) (fun k => ?_) fun k => ?_
  · obtain ⟨rfl, rfl⟩ := Prod.mk.inj (Option.some.inj ((if_pos (eq_of_beq k)).symm.trans e))
    exact x_ret e_bool (H _ _ adr (fun _ _ => rfl) S)
  · exact moved_loop L S hn r0 r1 r2 r3 h2 h3 ((if_neg (ne_of_beq_false k)).symm.trans e) H
theorem moved_spec (L : Lib P) (S : Sim adr h σ X) {n : Nat} {lost : Int} {b : Bool} {σ' : St} (e : σ.moved n lost = some (b, σ')) (q : ∀ h' adr', (∀ t, live σ t → adr' t = adr t) → Sim adr' h' σ' X → Q (.bool b) h') :
    callD P sc (d + 2) L.fMoved [.ref (adr .s), .int (n : Int), .int lost] Q h := by
  unfold St.moved at e
  revert e
  generalize ec : σ.rows[n]? = oc
  rcases oc with _ | c
  · exact fun e => ns e
  intro e
  by_cases hc : c.length < 2 ∨ fitN < c.length
  · exact ns ((if_pos hc).symm.trans e)
  have e := (if_neg hc).symm.trans e
  have h2 : 2 ≤ c.length := Nat.not_lt.mp fun q => hc (.inl q)
  have h3 : c.length ≤ fitN := Nat.not_lt.mp fun q => hc (.inr q)
  have hn := (List.getElem?_eq_some_iff.mp ec).1
  rw [← swap0_length (c := c) (lost := lost)] at e h2 h3
  have o : h.obj (adr (.row n)) = some (.list (iL c)) := by rw [← setR_self ec] at S; exact S.row_obj hn
  refine enter L.bMoved rfl rfl (x_let (e_sub (S.at rfl rfl) (e_var rfl) (.list S.R (.pos (rL_length.symm ▸ hn)) (rL_at hn))) ?_)
  have l0 : 2 ≤ c.length := swap0_length (c := c) ▸ h2
  have mid := fun h S => moved_mid (R := retQ Q) (ρ := Vars.set (bindV [.ref (adr .s), iN n, .int lost]) 3 (.ref (adr (.row n)))) (h := h) (sc := sc) (d := d) L (c := swap0 c lost) S hn rfl rfl rfl rfl h2 h3 e fun ρ h' a' k S => q h' a' k S
  refine x_if (e_cmp (e_row (j := 0) rfl o e_int (Nat.lt_of_lt_of_le Nat.zero_lt_two l0)) (e_var rfl) (.eq (.flat (.at (.ii _ _))))) (fun k => ?_) fun k => ?_
  · have z : swap0 c lost = _ := if_pos (eq_of_beq k)
    rw [z] at mid
    exact x_swap (c := c) ((setR_self ec).symm ▸ S) hn rfl rfl (Nat.lt_of_lt_of_le Nat.zero_lt_two l0) l0 (fun _ => e_int) (fun _ => e_int) mid
  · have z : swap0 c lost = _ := if_neg (ne_of_beq_false k)
    rw [z, setR_self ec] at mid
    exact mid _ S
end
end Mini.C
end
section
namespace Mini.C
open Mini
noncomputable def St.stay (σ : St) (lost : Int) (xs : List Nat) : St := σ.setW (tset σ.wd lost ((tget σ.wd lost).getD [] ++ xs))
noncomputable def spreadIn (lost : Int) : List Nat → St → Option (Option Nat × St)
  | [], σ => some (none, σ)
  | n :: r, σ => match σ.moved n lost with
    | none => none
    | some (true, σ1) => spreadIn lost r σ1
    | some (false, σ1) => if fit σ1 = false then none else
      match σ1.rows[n]? with
      | none => none
      | some c => if c.length = 0 then none else
        match σ1.says (nth c 0) with
        | some false => some (some n, (σ1.stay lost [n]).stay lost r)
        | some true => spreadIn lost r (σ1.stay lost [n])
        | none => if fit (σ1.stay lost [n]) then spreadIn lost r ((σ1.stay lost [n]).let' (nth c 0) (some n)) else none
noncomputable def St.round (σ : St) (lost : Int) : St := { σ with seen := σ.seen + 1, wd := tdel σ.wd lost ++ [(lost, [])] }
noncomputable def spreadF : Nat → St → Option (Int × St)
  | 0, σ => if σ.row.length ≤ σ.seen then some (-1, σ) else none
  | f + 1, σ => if σ.row.length ≤ σ.seen then some (-1, σ) else
    if fit σ = false then none else
    match spreadIn (-(nth σ.row σ.seen)) ((tget σ.wd (-(nth σ.row σ.seen))).getD []) (σ.round (-(nth σ.row σ.seen))) with
    | none => none
    | some (some n, σ') => some ((n : Int), σ')
    | some (none, σ') => spreadF f σ'
section
variable {P : MProg} {sc : List Int} {d : Nat} {adr : Tag → Nat} {h : MHeap} {σ : St} {X : XH} {Q : KV} {ρ : Vars}
theorem tdel_none {α : Type} {es : List (Int × α)} {l : Int} (e : tget es l = none) : tdel es l = es := by
  induction es with
  | nil => rfl
  | cons p r ih =>
    rw [tget_cons] at e
    by_cases c : p.1 = l
    · rw [if_pos c] at e; exact ns e.symm
    · rw [if_neg c] at e; rw [tdel_cons, if_neg c, ih e]
theorem wL_del {adr : Int → Nat} {wd : List (Int × List Nat)} {l : Int} : kdel (wL adr wd) l = wL adr (tdel wd l) := by
  induction wd with
  | nil => rfl
  | cons p r ih =>
    show kdel ((p.1, MV.ref (adr p.1)) :: wL adr r) l = _
    rw [kdel_cons, tdel_cons, ih]
    by_cases c : p.1 = l
    · rw [if_pos c, if_pos c]
    · rw [if_neg c, if_neg c]; rfl
theorem live_tset {l : Int} {xs : List Nat} {t : Tag} (k : live σ t) : live (σ.setW (tset σ.wd l xs)) t := by
  cases t <;> first | exact k | skip
  rename_i i
  show (tget (tset σ.wd l xs) i).isSome = true
  rw [tget_tset]
  by_cases q : l = i
  · rw [if_pos q]; rfl
  · rw [if_neg q]; exact k
theorem stay_live {lost : Int} {xs : List Nat} (t : Tag) (k : live σ t) : live (σ.stay lost xs) t := live_tset k
theorem moved_live {n : Nat} {lost : Int} {b : Bool} {σ' : St} (e : σ.moved n lost = some (b, σ')) (t : Tag) (k : live σ t) : live σ' t := by
  unfold St.moved at e
  revert e
  generalize σ.rows[n]? = oc
  rcases oc with _ | c
  · exact fun e => ns e
  intro e
  by_cases hc : c.length < 2 ∨ fitN < c.length
  · exact ns ((if_pos hc).symm.trans e)
  have e := (if_neg hc).symm.trans e
  by_cases ht : σ.says (nth (swap0 c lost) 0) = some true
  · obtain ⟨_, rfl⟩ := Prod.mk.inj (Option.some.inj ((if_pos ht).symm.trans e))
    exact live_setR k
  have e := (if_neg ht).symm.trans e
  revert e
  generalize (List.range' 2 (c.length - 2)).find? (notF σ (swap0 c lost)) = o
  rcases o with _ | j
  · intro e
    obtain ⟨_, rfl⟩ := Prod.mk.inj (Option.some.inj e)
    exact live_setR k
  · intro e
    by_cases hf : fit σ = true
    · obtain ⟨_, rfl⟩ := Prod.mk.inj (Option.some.inj ((if_pos hf).symm.trans e))
      exact live_tset (σ := σ.setR n _) (live_setR k)
    · exact ns ((if_neg hf).symm.trans e)
end
end Mini.C
end
section
namespace Mini.C
open Mini
inductive SpStep (lost : Int) (n : Nat) (r : List Nat) (σ : St) (res : Option Nat × St) : Prop
  | moved {σ1 : St} (em : σ.moved n lost = some (true, σ1)) (e : spreadIn lost r σ1 = some res)
  | clash {σ1 : St} {c : List Int} (em : σ.moved n lost = some (false, σ1)) (hf : fit σ1 = true) (ec : σ1.rows[n]? = some c) (hc : 0 < c.length) (hs : σ1.says (nth c 0) = some false) (e : res = (some n, (σ1.stay lost [n]).stay lost r))
  | yes {σ1 : St} {c : List Int} (em : σ.moved n lost = some (false, σ1)) (hf : fit σ1 = true) (ec : σ1.rows[n]? = some c) (hc : 0 < c.length) (hs : σ1.says (nth c 0) = some true) (e : spreadIn lost r (σ1.stay lost [n]) = some res)
  | unit {σ1 : St} {c : List Int} (em : σ.moved n lost = some (false, σ1)) (hf : fit σ1 = true) (ec : σ1.rows[n]? = some c) (hc : 0 < c.length) (hs : σ1.says (nth c 0) = none) (hf2 : fit (σ1.stay lost [n]) = true) (e : spreadIn lost r ((σ1.stay lost [n]).let' (nth c 0) (some n)) = some res)
theorem spreadIn_step {lost : Int} {n : Nat} {r : List Nat} {σ : St} {res : Option Nat × St} (e : spreadIn lost (n :: r) σ = some res) : SpStep lost n r σ res := by
  rw [spreadIn] at e
  revert e
  generalize em : σ.moved n lost = om
  rcases om with _ | ⟨b, σ1⟩
  · exact fun e => ns e
  rcases b with _ | _
  · intro e
    by_cases hf : fit σ1 = true
    · have e := (if_neg fun q => Bool.false_ne_true (q.symm.trans hf)).symm.trans e
      revert e
      generalize ec : σ1.rows[n]? = oc
      rcases oc with _ | c
      · exact fun e => ns e
      intro e
      by_cases hc : c.length = 0
      · exact ns ((if_pos hc).symm.trans e)
      have e := (if_neg hc).symm.trans e
      have hc := Nat.pos_of_ne_zero hc
      revert e
      generalize hs : σ1.says (nth c 0) = os
      rcases os with _ | b
      · intro e
        by_cases hf2 : fit (σ1.stay lost [n]) = true
        · exact .unit em hf ec hc hs hf2 ((if_pos hf2).symm.trans e)
        · exact ns ((if_neg hf2).symm.trans e)
      · rcases b with _ | _ <;> intro e
        · exact .clash em hf ec hc hs (Option.some.inj e).symm
        · exact .yes em hf ec hc hs e
    · exact ns ((if_pos (Bool.eq_false_iff.mpr hf)).symm.trans e)
  · exact fun e => .moved em e
section
variable {P : MProg} {sc : List Int} {d : Nat} {adr : Tag → Nat} {h : MHeap} {σ : St} {X : XH} {Q : KV} {ρ : Vars}
inductive SpI (s : Nat) (X : XH) (lost : Int) (nb st : Nat) (ns : List Nat) (res : Option Nat × St) (r : List MV) (ρ : Vars) (h : MHeap) : Prop
  | mk {adr : Tag → Nat} {σ : St} {j m : Nat} (r0 : ρ 0 = some (.ref s)) (r1 : ρ 1 = some (.int lost)) (r2 : ρ 2 = some (.ref nb)) (r3 : ρ 3 = some (.ref st)) (a0 : adr .s = s) (a1 : adr (.wat lost) = st) (S : Sim adr h σ X) (hl : (tget σ.wd lost).isSome = true)
    (hm : ns.length = j + m) (er : r = nL (List.range' j m)) (e : spreadIn lost (ns.drop j) σ = some res) : SpI s X lost nb st ns res r ρ h
theorem e_nat {L : Lg} {i : ME} {x a j n : Nat} {ns : List Nat} (q : ρ x = some (.ref a)) (o : h.obj a = some (.list (nL ns))) (I : Ev L ρ h i (iN j)) (e : ns[j]? = some n) : Ev L ρ h (.sub (.var x) i) (iN n) :=
  e_sub (e_var q) I (.list o (.pos (nL_length.symm ▸ (List.getElem?_eq_some_iff.mp e).1)) (nL_at e))
theorem Sim.wat_obj {l : Int} {xs : List Nat} (S : Sim adr h σ X) (e : tget σ.wd l = some xs) : h.obj (adr (.wat l)) = some (.list (nL xs)) :=
  (S.obj (.wat l) (congrArg Option.isSome e)).trans (congrArg (fun c : Option (List Nat) => some (MObj.list (nL (c.getD [])))) e)
theorem Sim.row_obj' {n : Nat} {c : List Int} (S : Sim adr h σ X) (e : σ.rows[n]? = some c) : h.obj (adr (.row n)) = some (.list (iL c)) :=
  (S.obj (.row n) (List.getElem?_eq_some_iff.mp e).1).trans (congrArg (fun c => some (MObj.list (iL c))) (getD_at e))
theorem Sim.stay_wat {l : Int} {xs ys : List Nat} (S : Sim adr h σ X) (e : tget σ.wd l = some xs) : Sim adr (h.set (adr (.wat l)) (.list (nL xs ++ nL ys))) (σ.stay l ys) X := by
  have z := S.set_wat l (xs ++ ys) (congrArg Option.isSome e)
  unfold St.stay
  rw [e, nL_append]
  exact z
end
end Mini.C
end
section
namespace Mini.C
open Mini
noncomputable def MSs.hd : MSs → MS
  | .cons s _ => s
  | .nil => .bad
noncomputable def MS.bd : MS → MSs
  | .ite _ a _ => a
  | .while _ b => b
  | .for _ _ b => b
  | _ => .nil
noncomputable def spBody : MSs := MS.bd (MSs.hd (MSs.tl (MSs.tl (MSs.tl (MSs.tl (MS.bd (MSs.hd f_Search_spread.body)))))))
section
variable {P : MProg} {sc : List Int} {d : Nat} {adr : Tag → Nat} {h : MHeap} {σ : St} {X : XH} {Q : KV} {ρ : Vars}
theorem sp_append {L : Lg} {R : KF} {r : MSs} {lost : Int} {nb st n j : Nat} {ns xs : List Nat} {c : List Int} (S : Sim adr h σ X) (r0 : ρ 0 = some (.ref (adr .s))) (r2 : ρ 2 = some (.ref nb)) (r3 : ρ 3 = some (.ref st)) (r4 : ρ 4 = some (iN j)) (a1 : adr (.wat lost) = st)
    (gx : tget σ.wd lost = some xs) (lx : xs.length < fitN) (hX : X nb = some (.list (nL ns))) (en : ns[j]? = some n) (ec : σ.rows[n]? = some c) (hc : 0 < c.length) (H : ∀ h', Sim adr h' (σ.stay lost [n]) X → exs L r R (ρ.set 5 (.int (nth c 0))) h') :
    exs L (.cons (.expr (.callM (.var 3) 0 (.cons (.sub (.var 2) (.var 4)) .nil))) (.cons (.assign (.var 5) (.sub (.sub (.attr (.var 0) 22) (.sub (.var 2) (.var 4))) (.int 0))) r)) R ρ h := by
  have S2 := S.stay_wat (ys := [n]) gx
  subst a1
  have hn := (List.getElem?_eq_some_iff.mp ec).1
  exact x_expr (m_append (e_var r3) (S.wat_obj gx) (e_nat r2 (S.o hX) (e_var r4) en) (eq_lt nL_length (fit_line lx)) (x_let (e_sub (e_sub (S2.at r0 rfl) (e_nat r2 (S2.o hX) (e_var r4) en) (.list S2.R (.pos (rL_length.symm ▸ hn)) (rL_at hn))) e_int (.list (S2.row_obj' (σ := σ.stay lost [n]) ec) (.pos (j := 0) (iL_length.symm ▸ hc)) (iL_at (getD_get hc)))) (H _ S2)))
theorem m_callL {L : Lg} {o : ME} {n m : Nat} {es : MEs} {t : Bool} {xs : List MV} (O : Ev L ρ h o (.ref n)) (p : h.obj n = some (.list xs)) (l : m < 4) (H : evL L es ρ (fun vs h => doM L h (.ref n) m vs (fin t Q) .list) h) : ev L (.callM o m es) ρ t Q h := O.go (.mk (.list p l) H)
theorem stay_get {l : Int} {xs ys : List Nat} (e : tget σ.wd l = some xs) : tget (σ.stay l ys).wd l = some (xs ++ ys) := by
  show tget (tset σ.wd l _) l = _
  rw [tget_tset, if_pos rfl, e]
  rfl
theorem drop_min {α : Type} {xs : List α} {n : Nat} : xs.drop (min n xs.length) = xs.drop n := by
  rcases Nat.le_total n xs.length with q | q
  · rw [Nat.min_eq_left q]
  · rw [Nat.min_eq_right q, List.drop_of_length_le q, List.drop_of_length_le (Nat.le_refl _)]
theorem spreadIn_spec (L : Lib P) {R : KF} {lost : Int} {ns : List Nat} {nb st s : Nat} (hX : X nb = some (.list (nL ns))) (hns : ns.length < fitN) {res : Option Nat × St}
    (hq1 : ∀ n σ', res = (some n, σ') → ∀ ρ h' adr', adr' .s = s → Sim adr' h' σ' X → R (.ret (iN n)) ρ h')
    (hq2 : ∀ σ', res = (none, σ') → ∀ ρ h' adr', ρ 0 = some (.ref s) → adr' .s = s → Sim adr' h' σ' X → R .next ρ h')
    {chk : HP} (hchk : ∀ h, chk h) (I : SpI s X lost nb st ns res (nL (List.range' 0 ns.length)) ρ h) : forL chk (forB (lg P sc (d + 2)) 4 spBody) (nL (List.range' 0 ns.length)) R ρ h := by
  refine for_rule (SpI s X lost nb st ns res) (fun _ _ h _ => hchk h) (fun w r ρ h K I hK => ?_) (fun ρ h I => ?_) I
  · induction I with
    | @mk adr σ j m r0 r1 r2 r3 a0 a1 S hl hm er e =>
    rcases m with _ | m
    · exact absurd er (List.cons_ne_nil _ _)
    rw [List.range'_succ, nL_cons] at er
    obtain ⟨rfl, rfl⟩ := List.cons.inj er
    have hj : j < ns.length := hm ▸ Nat.lt_add_of_pos_right (Nat.succ_pos m)
    have hm' : ns.length = j + 1 + m := hm.trans (by rw [Nat.add_assoc, Nat.add_comm 1 m])
    have en := List.getElem?_eq_getElem hj
    rw [List.drop_eq_getElem_cons hj] at e
    subst a0
    have go := fun {b : Bool} {σ1 : St} (em : σ.moved ns[j] lost = some (b, σ1)) (H : ∀ h1 adr1, adr1 .s = adr .s → adr1 (.wat lost) = st → Sim adr1 h1 σ1 X → (tget σ1.wd lost).isSome = true → If (.bool (!b)) (exs (lg P sc (d + 2)) (MS.bd (MSs.hd spBody)) (seq (lg P sc (d + 2)) .nil (turn R K)) (ρ.set 4 (iN j)) h1) (K (ρ.set 4 (iN j)) h1)) =>
      (x_ite' (m_not (m_meth (e_var r0) S.s L.mMoved (e_cons (e_nat r2 (S.o hX) (e_var rfl) en) (e_one (e_var r1))) (moved_spec L S em fun h1 a1' k1 S1 => bool_fin (.mk (.bool _) (H h1 a1' (k1 .s trivial) ((k1 (.wat lost) hl).trans a1) S1 (moved_live em (.wat lost) hl)))))) : exs (lg P sc (d + 2)) spBody (turn R K) (ρ.set 4 (iN j)) h)
    induction spreadIn_step e with
    | moved em e => exact go em fun h1 adr1 s1 w1 S1 hl1 => .no rfl (hK _ _ (.mk (j := j + 1) r0 r1 r2 r3 s1 w1 S1 hl1 hm' rfl e))
    | @clash σ1 c em hf ec hc hs e =>
      refine go em fun h1 adr1 s1 w1 S1 hl1 => .yes rfl ?_
      obtain ⟨xs, gx⟩ := Option.isSome_iff_exists.mp hl1
      refine sp_append S1 (s1.symm ▸ r0) r2 r3 rfl w1 gx (fit_wat hf _ (tget_mem gx)) hX en ec hc fun h2 S2 => ?_
      have E : Ev (lg P sc (d + 2)) ((ρ.set 4 (iN j)).set 5 (.int (nth c 0))) h2 (.callM (.var 0) 15 (.cons (.var 5) .nil)) (oB (σ1.says (nth c 0))) := S2.says_ev (x := 0) (d := d + 1) (sc := sc) L (s1.symm ▸ r0) (e_var rfl)
      rw [hs] at E
      refine x_iteT (e_cmp E e_bool (.eq (.flat (.at (.bb _ _))))) (x_expr (m_callL (e_var r3) (w1 ▸ S2.wat_obj (stay_get gx)) (Nat.le_of_ble_eq_true rfl) (l_one (m_from (e_var r2) (e_ari (e_var rfl) e_int (.add _ 1)) (.list _ (S2.o hX)) ?_))))
      rw [show clamp (nL ns).length ((j : Int) + 1) = min (j + 1) (nL ns).length from clamp_nat (i := j + 1), nL_length, nL_drop, drop_min]
      have S3 := S2.push (.list (nL (ns.drop (j + 1))))
      have S4 := (S2.put_less S3).stay_wat (ys := ns.drop (j + 1)) (stay_get gx)
      have o4 := S3.wat_obj (stay_get gx)
      rw [w1] at S4 o4
      exact .mk (.extend o4 (S3.o put_same) (by rw [nL_length, nL_length, List.length_append]; exact Nat.le_trans (Nat.add_le_add (fit_wat hf _ (tget_mem gx)) (Nat.le_of_lt (Nat.lt_of_le_of_lt (by rw [List.length_drop]; exact Nat.sub_le _ _) hns))) (Nat.le_of_ble_eq_true rfl))) (x_ret (e_nat r2 (S4.o hX) (e_var rfl) en) (hq1 _ _ e _ _ adr1 s1 S4))
    | @yes σ1 c em hf ec hc hs e =>
      refine go em fun h1 adr1 s1 w1 S1 hl1 => .yes rfl ?_
      obtain ⟨xs, gx⟩ := Option.isSome_iff_exists.mp hl1
      refine sp_append S1 (s1.symm ▸ r0) r2 r3 rfl w1 gx (fit_wat hf _ (tget_mem gx)) hX en ec hc fun h2 S2 => ?_
      have E : Ev (lg P sc (d + 2)) ((ρ.set 4 (iN j)).set 5 (.int (nth c 0))) h2 (.callM (.var 0) 15 (.cons (.var 5) .nil)) (oB (σ1.says (nth c 0))) := S2.says_ev (x := 0) (d := d + 1) (sc := sc) L (s1.symm ▸ r0) (e_var rfl)
      rw [hs] at E
      exact x_iteF (e_cmp E e_bool (.eq (.flat (.at (.bb _ _))))) (x_iteF (e_cmp E e_none (.is (.bn _))) (hK _ _ (.mk (j := j + 1) r0 r1 r2 r3 s1 w1 S2 (stay_live (.wat lost) hl1) hm' rfl e)))
    | @unit σ1 c em hf ec hc hs hf2 e =>
      refine go em fun h1 adr1 s1 w1 S1 hl1 => .yes rfl ?_
      obtain ⟨xs, gx⟩ := Option.isSome_iff_exists.mp hl1
      refine sp_append S1 (s1.symm ▸ r0) r2 r3 rfl w1 gx (fit_wat hf _ (tget_mem gx)) hX en ec hc fun h2 S2 => ?_
      have E : Ev (lg P sc (d + 2)) ((ρ.set 4 (iN j)).set 5 (.int (nth c 0))) h2 (.callM (.var 0) 15 (.cons (.var 5) .nil)) (oB (σ1.says (nth c 0))) := S2.says_ev (x := 0) (d := d + 1) (sc := sc) L (s1.symm ▸ r0) (e_var rfl)
      rw [hs] at E
      exact x_iteF (e_cmp E e_bool (.eq (.flat (.at (.nb _))))) (x_iteT (e_cmp E e_none (.is .nn)) (x_expr (m_meth (e_var (s1.symm ▸ r0)) S2.s L.mLet (e_cons (e_var rfl) (e_one (e_nat r2 (S2.o hX) (e_var rfl) en))) (let_spec L S2 hf2 (nth c 0) (some _) fun h3 S3 => hK _ _ (.mk (j := j + 1) r0 r1 r2 r3 s1 w1 S3 (stay_live (.wat lost) hl1) hm' rfl e)))))
  · induction I with
    | @mk adr σ j m r0 r1 r2 r3 a0 a1 S hl hm er e =>
    rcases m with _ | m
    · have hm : ns.length = j := hm
      rw [List.drop_of_length_le (Nat.le_of_eq hm)] at e
      exact hq2 σ (Option.some.inj e).symm _ _ adr r0 a0 S
    · exact absurd er.symm (List.cons_ne_nil _ _)
end
end Mini.C
end
section
namespace Mini.C
open Mini
section
variable {P : MProg} {sc : List Int} {d : Nat} {adr : Tag → Nat} {h : MHeap} {σ : St} {X : XH} {Q : KV} {ρ : Vars}
theorem Sim.pop_wat (S : Sim adr h σ X) (l : Int) {xs : List Nat} (hl : tget σ.wd l = some xs) (hn : (σ.wd.map (·.1)).Nodup) :
    Sim adr (h.set (adr .w) (.idict (kdel (wL (fun l => adr (.wat l)) σ.wd) l))) (σ.sWd (tdel σ.wd l)) (X.put (adr (.wat l)) (.list (nL xs))) := by
  have e : want (σ.sWd (tdel σ.wd l)) adr .w = .idict (kdel (wL (fun l => adr (.wat l)) σ.wd) l) := congrArg MObj.idict wL_del.symm
  have e2 : want σ adr (.wat l) = .list (nL xs) := congrArg (fun c : Option (List Nat) => MObj.list (nL (c.getD []))) hl
  have ne : ∀ i, (tget (tdel σ.wd l) i).isSome = true → l ≠ i := fun i k q => by rw [tget_tdel hn, if_pos q] at k; exact ff k
  refine e ▸ e2 ▸ S.free (σ' := σ.sWd (tdel σ.wd l)) .w (.wat l) Tag.noConfusion trivial (congrArg Option.isSome hl) (fun t k => ?_) (fun k => ne l k rfl) (fun t n k => ?_)
  · cases t <;> first | exact k | skip
    rename_i i
    have q := ne i k
    have k : (tget (tdel σ.wd l) i).isSome = true := k
    rw [tget_tdel hn, if_neg q] at k
    exact k
  · cases t <;> first | rfl | exact absurd rfl n | skip
    rename_i i
    exact congrArg (fun c : Option (List Nat) => MObj.list (nL (c.getD []))) ((tget_tdel hn).trans (if_neg (ne i k)))
inductive SpRound (k : Nat) (σ : St) (lost : Int) (r : Int) (σ' : St) : Prop
  | clash {n : Nat} (hf : fit σ = true) (er : spreadIn lost ((tget σ.wd lost).getD []) (σ.round lost) = some (some n, σ')) (e : r = n) : SpRound k σ lost r σ'
  | go {k' : Nat} {σ1 : St} (ek : k = k' + 1) (hf : fit σ = true) (er : spreadIn lost ((tget σ.wd lost).getD []) (σ.round lost) = some (none, σ1)) (e : spreadF k' σ1 = some (r, σ')) : SpRound k σ lost r σ'
theorem spreadF_step {k : Nat} {r : Int} {σ' : St} (hs : σ.seen < σ.row.length) (e : spreadF k σ = some (r, σ')) : SpRound k σ (-(nth σ.row σ.seen)) r σ' := by
  rcases k with _ | k
  · exact ns ((if_neg (Nat.not_le.mpr hs)).symm.trans e)
  have e := (if_neg (Nat.not_le.mpr hs)).symm.trans e
  by_cases hf : fit σ = true
  · have e := (if_neg fun q => Bool.false_ne_true (q.symm.trans hf)).symm.trans e
    revert e
    generalize er : spreadIn (-(nth σ.row σ.seen)) ((tget σ.wd (-(nth σ.row σ.seen))).getD []) (σ.round (-(nth σ.row σ.seen))) = o
    rcases o with _ | ⟨_ | n, σ1⟩
    · exact fun e => ns e
    · exact fun e => .go rfl hf er e
    · intro e
      obtain ⟨rfl, rfl⟩ := Prod.mk.inj (Option.some.inj e)
      exact .clash hf er rfl
  · exact ns ((if_pos (Bool.eq_false_iff.mpr hf)).symm.trans e)
theorem spreadF_end {k : Nat} {r : Int} {σ' : St} (hs : σ.row.length ≤ σ.seen) (e : spreadF k σ = some (r, σ')) : r = -1 ∧ σ' = σ := by
  rcases k with _ | k <;> exact Prod.mk.inj (Option.some.inj ((if_pos hs).symm.trans e)).symm |>.imp Eq.symm Eq.symm |>.imp Eq.symm Eq.symm
end
end Mini.C
end
section
namespace Mini.C
open Mini
section
variable {P : MProg} {sc : List Int} {d : Nat} {adr : Tag → Nat} {h : MHeap} {σ : St} {X : XH} {Q : KV} {ρ : Vars}
theorem m_tup {L : Lg} {es : MEs} {t : Bool} (H : evL L es ρ (fun vs h => vs.length ≤ 100 ∧ vs.all MV.flat = true ∧ fin t Q (.tup vs) h) h) : ev L (.tup es) ρ t Q h := H
theorem m_callD {L : Lg} {o : ME} {n m : Nat} {es : MEs} {t : Bool} {ds : List (Int × MV)} (O : Ev L ρ h o (.ref n)) (p : h.obj n = some (.idict ds)) (l : m = 2 ∨ m = 4 ∨ m = 5) (H : evL L es ρ (fun vs h => doM L h (.ref n) m vs (fin t Q) .dict) h) : ev L (.callM o m es) ρ t Q h := O.go (.mk (.dict p l) H)
theorem l_cons {L : Lg} {e : ME} {es : MEs} {K : List MV → HP} (H : ev L e ρ false (fun v h => evL L es ρ (fun vs h => K (v :: vs) h) h) h) : evL L (.cons e es) ρ K h := H
theorem round_walk (L : Lib P) {R : KF} {lost : Int} {nb st s : Nat} {ns : List Nat} {res : Option Nat × St} (a0 : adr .s = s) (r0 : ρ 0 = some (.ref s)) (r1 : ρ 1 = some (.int lost)) (r2 : ρ 2 = some (.ref nb)) (r3 : ρ 3 = some (.ref st)) (hX : X nb = some (.list (nL ns))) (hst : X st = none) (hns : ns.length < fitN) (lw : σ.wd.length < fitN)
    (hn : tget σ.wd lost = none) (S : Sim adr h σ (X.put st (.list (nL [])))) (e : spreadIn lost ns (σ.sWd (tset σ.wd lost [])) = some res)
    (hq1 : ∀ n σ', res = (some n, σ') → ∀ ρ h' adr', adr' .s = s → Sim adr' h' σ' X → R (.ret (iN n)) ρ h')
    (hq2 : ∀ σ', res = (none, σ') → ∀ ρ h' adr', ρ 0 = some (.ref s) → adr' .s = s → Sim adr' h' σ' X → R .next ρ h') :
    exs (lg P sc (d + 2)) (MSs.tl (MSs.tl (MSs.tl (MS.bd (MSs.hd f_Search_spread.body))))) R ρ h := by
  subst a0
  have S6 := (S.adopt_wat lost hn put_same).less (X' := X) fun a o e => by
    have n : a ≠ st := fun q => by rw [q, hst] at e; exact Mini.ns e
    exact (if_neg n).trans ((put_ne n).trans e)
  have hl : (tget (tset σ.wd lost []) lost).isSome = true := congrArg Option.isSome (tget_tset.trans (if_pos rfl))
  refine x_setI (e_var r3) (S.at r0 rfl) (e_var r1) (.idict S.w (eq_lt wL_length (fit_line lw))) ?_
  have it : ∀ h, Items h (.rng 0 ((nL ns).length : Nat)) (nL (List.range' 0 ns.length)) := fun h => by
    rw [nL_length]
    exact (rngL_nat (a := 0) (Nat.zero_le ns.length)) ▸ Items.rng (h := h) ((0 : Nat) : Int) (ns.length : Int)
  exact x_for (e_bui (e_one (e_len (e_var r2) (S6.o hX))) (.range1 (small_nat (by rw [nL_length]; exact Nat.le_of_lt (fit_line hns))))) (it _) (spreadIn_spec (sc := sc) (d := d) (R := seq (lg P sc (d + 2)) .nil R) L (st := st) (s := adr .s) (res := res) hX hns hq1 hq2 it (.mk (adr := mv adr (.wat lost) st) (j := 0) r0 r1 r2 r3 rfl mv_same S6 hl (Nat.zero_add _).symm rfl e))
inductive SprI (s : Nat) (X : XH) (r : Int) (σ' : St) (k : Nat) (ρ : Vars) (h : MHeap) : Prop
  | mk {adr : Tag → Nat} {σ : St} (r0 : ρ 0 = some (.ref s)) (a : adr .s = s) (S : Sim adr h σ X) (e : spreadF k σ = some (r, σ')) : SprI s X r σ' k ρ h
theorem f_in {v : MV} (H : Q v h) : fin false Q v h := H
theorem tdel_len {α : Type} {es : List (Int × α)} {l : Int} : (tdel es l).length ≤ es.length := by
  induction es with
  | nil => exact Nat.le_refl _
  | cons p r ih =>
    rw [tdel_cons]
    by_cases c : p.1 = l
    · rw [if_pos c]; exact Nat.le_succ _
    · rw [if_neg c]; exact Nat.succ_le_succ ih
theorem round_eq {lost : Int} (hn : tget (tdel σ.wd lost) lost = none) : St.sWd { σ with seen := σ.seen + 1, wd := tdel σ.wd lost } (tset (tdel σ.wd lost) lost []) = σ.round lost := congrArg (fun w => { σ with seen := σ.seen + 1, wd := w }) (tset_new hn)
theorem spread_round (L : Lib P) {R : KF} {lost r : Int} {nb k : Nat} {ns : List Nat} {X' : XH} {σ' : St} (hX : X' nb = some (.list (nL ns))) (hXX : ∀ a o, X a = some o → X' a = some o) (ens : (tget σ.wd lost).getD [] = ns) (hns : ns.length < fitN)
    (S : Sim adr h { σ with seen := σ.seen + 1, wd := tdel σ.wd lost } X') (step : SpRound k σ lost r σ') (r0 : ρ 0 = some (.ref (adr .s))) (r1 : ρ 1 = some (.int lost)) (r2 : ρ 2 = some (.ref nb)) (r3 : ρ 3 = some (.ref h.next))
    (hQ : ∀ ρ h' adr', adr' .s = adr .s → Sim adr' h' σ' X → R (.ret (.int r)) ρ h') (hK : ∀ k', k' < k → ∀ ρ h, SprI (adr .s) X r σ' k' ρ h → R .next ρ h) :
    exs (lg P sc (d + 2)) (MSs.tl (MSs.tl (MSs.tl (MS.bd (MSs.hd f_Search_spread.body))))) R ρ (h.new (.list [])) := by
  have hf : fit σ = true := by induction step <;> assumption
  have hn : tget (tdel σ.wd lost) lost = none := (tget_tdel (fit_nd hf)).trans (if_pos rfl)
  have go := fun {res : Option Nat × St} (e : spreadIn lost ((tget σ.wd lost).getD []) (σ.round lost) = some res) => round_walk (sc := sc) (d := d) (R := R) (res := res) L rfl r0 r1 r2 r3 hX (S.none_at (Nat.le_refl _)) hns (Nat.lt_of_le_of_lt tdel_len (fit_wd hf)) hn (S.push (.list (nL []))) (by rw [← ens, round_eq hn]; exact e)
  induction step with
  | clash hf er e =>
    subst e
    exact go er (fun n σ' e ρ h' a2 s2 S2 => by obtain ⟨e1, rfl⟩ := Prod.mk.inj e; rw [← Option.some.inj e1]; exact hQ _ _ _ s2 (S2.less hXX)) fun σ' e => Mini.ns (Prod.mk.inj e).1.symm
  | go ek hf er e =>
    exact go er (fun n σ' e => Mini.ns (Prod.mk.inj e).1) fun σ' q ρ h' a2 r0 s2 S2 => hK _ (ek ▸ Nat.lt_succ_self _) _ _ (.mk r0 s2 (S2.less hXX) ((Prod.mk.inj q).2 ▸ e))
theorem spread_spec (L : Lib P) {f : Nat} {r : Int} {σ' : St} (S : Sim adr h σ X) (e : spreadF f σ = some (r, σ')) (q : ∀ h' adr', adr' .s = adr .s → Sim adr' h' σ' X → Q (.int r) h') : callD P sc (d + 3) L.fSpread [.ref (adr .s)] Q h := by
  refine enter L.bSpread rfl rfl (x_while (while_rule (SprI (adr .s) X r σ') (fun k ρ h K I hK => ?_) (.mk rfl rfl S e)))
  induction I with
  | @mk a2 σ r0 a S e =>
  have r0' : ρ 0 = some (.ref (a2 .s)) := a.symm ▸ r0
  refine (e_cmp (S.at r0' rfl) (S.len_row r0') (.lt _ _)) true _ (bool_fin (If.of (fun k => ?_) fun k => ?_))
  · have hs := dec_lt k
    refine x_let (e_neg (S.row_at r0' (S.at r0' rfl) (getD_get hs))) (x_at S r0' (e_ari (S.at r0' rfl) e_int (.add _ 1)) (S.set_seen (σ.seen + 1)) fun h3 S3 => x_asgs' (l_cons (m_callD (S3.at r0' rfl) S3.w (.inl rfl) (l_cons ((e_var rfl).go (l_one (m_list e_nil (Nat.zero_le _) ?_)))))))
    have Sp := S3.push (.list [])
    generalize hl : -(nth σ.row σ.seen) = lost
    have step := hl ▸ spreadF_step hs e
    have hf : fit σ = true := by induction step <;> assumption
    by_cases eg : (tget σ.wd lost).isSome = true
    · obtain ⟨xs, eg⟩ := Option.isSome_iff_exists.mp eg
      have S4 := (S3.put_less Sp).pop_wat lost eg (fit_nd hf)
      refine .mk (.popD (r := [_]) Sp.w (wL_get.trans (congrArg (Option.map _) eg)) (Nat.le_refl _)) ?_
      refine f_in (l_one (m_list e_nil (Nat.zero_le _) (f_in ?_)))
      exact ⟨Nat.le_of_ble_eq_true rfl, rfl, (a_var (a_var (a_nil (spread_round L (σ := σ) put_same (fun b o e => (put_ne fun q => (S3.out _ _ e).ne (.wat lost) (congrArg Option.isSome eg) q.symm).trans e) (congrArg (·.getD []) eg) (fit_wat hf _ (tget_mem eg)) S4 step r0' rfl rfl rfl (fun _ h' a' s' S' => q h' a' (s'.trans a) S') fun k' l ρ h I => hK k' l ρ h (a ▸ I)))))⟩
    · have eg := Option.not_isSome_iff_eq_none.mp eg
      refine .mk (.popN Sp.w (wL_get.trans (congrArg (Option.map _) eg))) ?_
      refine f_in (l_one (m_list e_nil (Nat.zero_le _) (f_in ?_)))
      exact ⟨Nat.le_of_ble_eq_true rfl, rfl, (a_var (a_var (a_nil (spread_round L (σ := σ) put_same S3.sub_put (congrArg (·.getD []) eg) (Nat.le_of_ble_eq_true rfl) ((congrArg (fun w => { σ with seen := σ.seen + 1, wd := w }) (tdel_none eg)).symm ▸ Sp) step r0' rfl rfl rfl (fun _ h' a' s' S' => q h' a' (s'.trans a) S') fun k' l ρ h I => hK k' l ρ h (a ▸ I)))))⟩
  · obtain ⟨rfl, rfl⟩ := spreadF_end (dec_nlt k) e
    exact x_ret (e_neg e_int) (q _ a2 a S)
end
end Mini.C
end
section
namespace Mini.C
open Mini
set_option genInjectivity false
set_option genSizeOf false
set_option genSizeOfSpec false
inductive SeqL (X : XH) : List (List Int) → List MV → Prop
  | nil : SeqL X [] []
  | cons {c : List Int} {v : MV} {cs : List (List Int)} {vs : List MV} (s : Seq X c v) (r : SeqL X cs vs) : SeqL X (c :: cs) (v :: vs)
inductive Rows (X : XH) (a : Nat) (cls : List (List Int)) : Prop
  | mk {cv : List MV} (e : X a = some (.list cv)) (s : SeqL X cls cv) : Rows X a cls
structure There (h : MHeap) (a : Nat) (o : MObj) : Prop where
  obj : h.obj a = some o
  lt : a < h.next
noncomputable def Out0 (h : MHeap) (X : XH) : Prop := ∀ a o, X a = some o → There h a o
structure Lay (h0 h : MHeap) (os : List MObj) : Prop where
  next : h.next = h0.next + os.length
  obj : ∀ i o, os[i]? = some o → h.obj (h0.next + i) = some o
  old : ∀ b, b < h0.next → h.obj b = h0.obj b
noncomputable def heats0 (many : Nat) : List (Int × Int) := (List.range' 1 many).foldl (fun es (k : Nat) => tset es (k : Int) 0) []
noncomputable def St.zero (many : Nat) : St := { kn := [], hh := [], ca := [], li := [], ht := heats0 many, row := [], be := [], seen := 0, rows := [], wd := [], gain := 1, lg := [], ref := false, bl := [], cl := 0, lim := 0 }
noncomputable def Tag.code : Tag → Nat
  | .s => 0 | .kn => 1 | .hh => 2 | .ca => 3 | .ro => 4 | .be => 5 | .li => 6 | .R => 7 | .w => 8 | .ht => 9 | .lg => 10
  | .row _ => 0 | .wat _ => 0
noncomputable def Tag.decode (n : Nat) : Tag := [Tag.s, .kn, .hh, .ca, .ro, .be, .li, .R, .w, .ht, .lg].getD n .s
inductive AddTo (J : St → Prop) (σ : St) (xs : List Int) : Prop
  | mk {σ1 σ2 : St} (e : σ.back 0 = some σ1) (e2 : { σ1 with ht := defHeats σ1.ht xs } = σ2) (hh : σ1.ht.length < fitN) (hf : fit σ2 = true) (h0 : (0 : Int) ∉ xs) (hl : xs.length < 64) (q1 : Contra xs → J σ2) (q2 : ¬ Contra xs → ∀ ys, OrdOf xs ys → J (σ2.addTo ys)) : AddTo J σ xs
inductive SeqUn (X : XH) (w : MV) (r : List MV) (cs : List (List Int)) : Prop
  | mk {c : List Int} {cs' : List (List Int)} (e : cs = c :: cs') (s : Seq X c w) (t : SeqL X cs' r) : SeqUn X w r cs
theorem SeqL.uncons {X : XH} {cs : List (List Int)} {w : MV} {r : List MV} (h : SeqL X cs (w :: r)) : SeqUn X w r cs := by
  cases h with
  | cons s t => exact .mk rfl s t
theorem SeqL.unnil {X : XH} {cs : List (List Int)} (h : SeqL X cs []) : cs = [] := by
  cases h
  rfl
section
variable {P : MProg} {sc : List Int} {d : Nat} {adr : Tag → Nat} {h h0 : MHeap} {σ : St} {X : XH} {Q : KV} {ρ : Vars} {os : List MObj}
theorem Lay.new (y : Lay h0 h os) (o : MObj) : Lay h0 (h.new o) (os ++ [o]) where
  next := (congrArg Nat.succ y.next).trans (by rw [List.length_append]; rfl)
  obj i o' e := by
    by_cases c : i < os.length
    · rw [List.getElem?_append_left c] at e
      exact (new_ne (y.next ▸ Nat.add_lt_add_left c _)).trans (y.obj i o' e)
    · have c := Nat.not_lt.mp c
      rw [List.getElem?_append_right c] at e
      have k := (List.getElem?_eq_some_iff.mp e).1
      have k : i = os.length := Nat.le_antisymm (Nat.le_of_sub_eq_zero (Nat.lt_one_iff.mp k)) c
      rw [k, Nat.sub_self] at e
      rw [k, ← y.next, ← Option.some.inj e]
      exact new_same
  old b l := (new_ne (y.next ▸ Nat.lt_of_lt_of_le l (Nat.le_add_right _ _))).trans (y.old b l)
theorem Lay.set {o1 : MObj} (y : Lay h0 h (o1 :: os)) (o : MObj) : Lay h0 (h.set h0.next o) (o :: os) where
  next := y.next
  obj i o' e := by
    rcases i with _ | i
    · rw [← Option.some.inj e]; exact set_same
    · exact (set_ne (Nat.ne_of_gt (Nat.lt_add_of_pos_right (Nat.succ_pos i)))).trans (y.obj (i + 1) o' e)
  old b l := (set_ne (Nat.ne_of_lt l)).trans (y.old b l)
section
variable {L : Lg} {r : MSs} {R : KF} {a : Nat} {e : ME} {o : MObj} {v : MV} {as as' : List (Nat × MV)}
theorem lay_new (y : Lay h0 h (.inst as :: os)) (r0 : ρ 0 = some (.ref h0.next)) (E : ∀ Q : KV, Q (.ref h.next) (h.new o) → ev L e ρ false Q h) (l : as.length < 100) (k : kset as a (.ref (h0.next + (os.length + 1))) = as') (H : ∀ h', Lay h0 h' (.inst as' :: (os ++ [o])) → exs L r R ρ h') : exs L (.cons (.assign (.attr (.var 0) a) e) r) R ρ h := by
  have n : h.next = h0.next + (os.length + 1) := y.next
  subst k
  rw [← n] at H
  exact x_atr (E _ (a_setA (e_var r0) (.mk ((y.new o).obj 0 _ rfl) l) (H _ ((y.new o).set _))))
theorem lay_val (y : Lay h0 h (.inst as :: os)) (r0 : ρ 0 = some (.ref h0.next)) (E : Ev L ρ h e v) (l : as.length < 100) (k : kset as a v = as') (H : ∀ h', Lay h0 h' (.inst as' :: os) → exs L r R ρ h') : exs L (.cons (.assign (.attr (.var 0) a) e) r) R ρ h := by
  subst k
  exact x_setA E (e_var r0) (.mk (y.obj 0 _ rfl) l) (H _ (y.set _))
end
noncomputable abbrev at0 (n : Nat) : List (Nat × MV) := [(18, .ref (n + 1)), (9, .ref (n + 2)), (19, .ref (n + 3)), (8, .ref (n + 4)), (7, .ref (n + 5)), (20, .int 0), (21, .ref (n + 6))]
theorem init0_spec (L : Lib P) (y : Lay h0 h [.inst []]) (q : ∀ h', Lay h0 h' [.inst (at0 h0.next), .idict [], .idict [], .idict [], .list [], .list [], .idict []] → Q .none h') : callD P sc (d + 1) L.fInit0 [.ref h0.next] Q h :=
  enter L.bInit0 rfl rfl <|
  lay_new y rfl (fun _ H => H) (Nat.le_of_ble_eq_true rfl) rfl fun _ y => lay_new y rfl (fun _ H => H) (Nat.le_of_ble_eq_true rfl) rfl fun _ y => lay_new y rfl (fun _ H => H) (Nat.le_of_ble_eq_true rfl) rfl fun _ y =>
  lay_new y rfl (fun _ H => m_list e_nil (Nat.zero_le _) H) (Nat.le_of_ble_eq_true rfl) rfl fun _ y => lay_new y rfl (fun _ H => m_list e_nil (Nat.zero_le _) H) (Nat.le_of_ble_eq_true rfl) rfl fun _ y =>
  lay_val y rfl e_int (Nat.le_of_ble_eq_true rfl) rfl fun _ y => lay_new y rfl (fun _ H => H) (Nat.le_of_ble_eq_true rfl) rfl fun _ y => q _ y
theorem foldl_kset {ks : List Nat} {acc : List (Int × Int)} : ks.foldl (fun es (k : Nat) => kset es (k : Int) (.int 0)) (mvs .int acc) = mvs .int (ks.foldl (fun es (k : Nat) => tset es (k : Int) 0) acc) := by
  induction ks generalizing acc with
  | nil => rfl
  | cons k r ih => exact (congrArg (fun z => r.foldl (fun es (k : Nat) => kset es (k : Int) (.int 0)) z) kset_mvs).trans ih
theorem dict_heats {L : Lg} {many : Nat} {t : Bool} (r2 : ρ 2 = some (.int (many : Int))) (hb : many < 1000) (q : fin t Q (.ref h.next) (h.new (.idict (mvs .int (heats0 many))))) :
    ev L (.dcomp (.var 4) (.int 0) 4 (.callB .range2 (.cons (.int 1) (.cons (.bin .add (.var 2) (.int 1)) .nil)))) ρ t Q h := by
  have hb : many + 1 ≤ lenLine := Nat.le_trans hb (Nat.le_of_ble_eq_true rfl)
  refine m_dcomp (emb := iN) (c := fun k : Nat => (k : Int)) (g := fun _ => .int 0) (as := List.range' 1 many) (e_bui (e_cons e_int (e_one (e_ari (e_var r2) e_int (.add _ 1)))) (.range2 (small_nat (n := 1) (Nat.le_of_ble_eq_true rfl)) (small_nat (n := many + 1) hb))) ?_ (fun a _ => e_var rfl) (fun a _ => e_int) (by rw [List.length_range']; exact Nat.le_of_lt hb) ?_
  · have z := Items.rng (h := h) ((1 : Nat) : Int) ((many + 1 : Nat) : Int)
    rw [rngL_nat (Nat.succ_le_succ (Nat.zero_le many))] at z
    exact z
  · rw [show (List.range' 1 many).foldl (fun es (k : Nat) => kset es (k : Int) (.int 0)) [] = mvs .int (heats0 many) from foldl_kset (acc := [])]
    exact q
theorem live_code {many : Nat} {t : Tag} (l : live (St.zero many) t) : Tag.decode t.code = t := by
  cases t <;> first | rfl | exact absurd l (Nat.not_lt_zero _) | exact ff l
noncomputable abbrev at1 (n : Nat) : List (Nat × MV) := [(18, .ref (n + 1)), (9, .ref (n + 2)), (19, .ref (n + 3)), (8, .ref (n + 4)), (7, .ref (n + 5)), (20, .int 0), (21, .ref (n + 6)), (22, .ref (n + 7)), (23, .ref (n + 8)), (24, .ref (n + 9)), (25, .int 1), (11, .ref (n + 10)), (13, .bool false), (26, .tup []), (10, .int 0), (27, .int 0)]
theorem sim_zero {many : Nat} (O : Out0 h0 X) (y : Lay h0 h [.inst (at1 h0.next), .idict [], .idict [], .idict [], .list [], .list [], .idict [], .list [], .idict [], .idict (mvs .int (heats0 many)), .list []]) : Sim (fun t => h0.next + t.code) h (St.zero many) X where
  obj t l := by cases t <;> first | exact y.obj 0 _ rfl | exact y.obj 1 _ rfl | exact y.obj 2 _ rfl | exact y.obj 3 _ rfl | exact y.obj 4 _ rfl | exact y.obj 5 _ rfl | exact y.obj 6 _ rfl | exact y.obj 7 _ rfl | exact y.obj 8 _ rfl | exact y.obj 9 _ rfl | exact y.obj 10 _ rfl | exact absurd l (Nat.not_lt_zero _) | exact ff l
  lt t l := y.next ▸ Nat.add_lt_add_left (by cases t <;> exact Nat.le_of_ble_eq_true rfl) _
  inj t t' l l' e := (live_code l).symm.trans ((congrArg Tag.decode (Nat.add_left_cancel e)).trans (live_code l'))
  out a o e := ⟨(y.old a (O a o e).lt).trans (O a o e).obj, y.next ▸ Nat.lt_of_lt_of_le (O a o e).lt (Nat.le_add_right _ _), fun t _ q => Nat.lt_irrefl a (Nat.lt_of_lt_of_le (O a o e).lt (q ▸ Nat.le_add_right _ _))⟩
inductive InI (s : Nat) (X : XH) (cls : List (List Int)) (J : List (List Int) → St → Prop) (r : List MV) (ρ : Vars) (h : MHeap) : Prop
  | mk {done rest : List (List Int)} {σ : St} {adr : Tag → Nat} (r0 : ρ 0 = some (.ref s)) (e : cls = done ++ rest) (sl : SeqL X rest r) (a : adr .s = s) (j : J done σ) (S : Sim adr h σ X) : InI s X cls J r ρ h
theorem init_spec (L : Lib P) {many : Nat} (O : Out0 h0 X) (hb : many < 1000) {a : Nat} {cls : List (List Int)} (hr : Rows X a cls) (J : List (List Int) → St → Prop) (j0 : J [] (St.zero many))
    (step : ∀ done xs rest σ, cls = done ++ xs :: rest → J done σ → AddTo (J (done ++ [xs])) σ xs)
    (q : ∀ h' adr σ, adr .s = h0.next → J cls σ → Sim adr h' σ X → Q .none h') : callD P sc (d + 3) P.init [.ref h0.next, .ref a, .int (many : Int)] Q (h0.new (.inst [])) := by
  induction hr with
  | @mk cv ha sl =>
  have y : Lay h0 (h0.new (.inst [])) [.inst []] := ⟨rfl, fun i o e => by
    rcases i with _ | i
    · exact new_same.trans e
    · exact ns e, fun b l => new_ne l⟩
  refine .mk L.bInit ⟨rfl, .mk (y.obj 0 _ rfl) (init0_spec L y fun h1 y => ?_)⟩
  refine lay_new y rfl (fun _ H => m_list e_nil (Nat.zero_le _) H) (Nat.le_of_ble_eq_true rfl) rfl fun _ y => lay_new y rfl (fun _ H => H) (Nat.le_of_ble_eq_true rfl) rfl fun _ y =>
    lay_new y rfl (fun _ H => dict_heats rfl hb H) (Nat.le_of_ble_eq_true rfl) rfl fun _ y => lay_val y rfl e_int (Nat.le_of_ble_eq_true rfl) rfl fun _ y =>
    lay_new y rfl (fun _ H => m_list e_nil (Nat.zero_le _) H) (Nat.le_of_ble_eq_true rfl) rfl fun _ y => lay_val y rfl e_bool (Nat.le_of_ble_eq_true rfl) rfl fun _ y =>
    lay_val y rfl (e_tup e_nil (Nat.zero_le _) rfl) (Nat.le_of_ble_eq_true rfl) rfl fun _ y => lay_val y rfl e_int (Nat.le_of_ble_eq_true rfl) rfl fun _ y => lay_val y rfl e_int (Nat.le_of_ble_eq_true rfl) rfl fun h2 y => ?_
  have S : Sim (fun t => h0.next + t.code) h2 (St.zero many) X := sim_zero O y
  refine x_for (e_var rfl) (.list (S.o ha)) (for_rule (InI h0.next X cls J) (fun r ρ h I => ?_) (fun w r ρ h K I hK => ?_) (fun ρ h I => ?_) (.mk (done := []) rfl rfl sl rfl j0 S))
  · induction I with
    | mk _ _ _ _ _ S => exact .list (S.o ha)
  · induction I with
    | @mk done rest σ adr r0 e sl a j S =>
    induction sl.uncons with
    | @mk xs rest' e2 s1 sl' =>
    subst e2
    have r0' : ρ 0 = some (.ref (adr .s)) := a.symm ▸ r0
    induction step _ _ _ _ e j with
    | mk b1 b2 b3 b4 h0 hl q1 q2 =>
    have go := fun (h' : MHeap) (adr' : Tag → Nat) (σ' : St) (s : adr' .s = adr .s) (j : J (done ++ [xs]) σ') (S : Sim adr' h' σ' X) => hK (Vars.set ρ 3 w) h' (.mk (done := done ++ [xs]) r0 (e.trans (by rw [List.append_assoc]; rfl)) sl' (s.trans a) j S)
    exact x_expr (m_meth (e_var (n := 0) r0') S.s L.mAdd (e_one (e_var rfl)) (add_spec L S s1 h0 hl b1 b2 b3 b4 (fun c h' a' s S => go _ _ _ s (q1 c) S) fun c ys ho h' a' s S => go _ _ _ s (q2 c ys ho) S))
  · induction I with
    | @mk done rest σ adr r0 e sl a j S =>
    have e2 := sl.unnil
    subst e2
    rw [List.append_nil] at e
    exact q _ adr σ a (e ▸ j) S
end
end Mini.C
end
section
namespace Mini.C
open Mini
noncomputable def Shut (U : Int → Prop) (C : List Int) : Prop := (∃ l ∈ C, ¬ U (-l)) ∧ ∀ p ∈ C, (∀ l ∈ C, l ≠ p → U (-l)) → U p
noncomputable def Shuts (U : Int → Prop) (B : List (List Int)) : Prop := ∀ C ∈ B, Shut U C
noncomputable def Forced (B : List (List Int)) (l : Int) : Prop := ∀ U : Int → Prop, Shuts U B → U l
noncomputable def Dead (B : List (List Int)) : Prop := ∀ U : Int → Prop, ¬ Shuts U B
theorem Forced.more {B B' : List (List Int)} {l : Int} (h : Forced B l) (hb : ∀ C ∈ B, C ∈ B') : Forced B' l := fun U s => h U fun C hC => s C (hb C hC)
structure Keyed {α : Type} (N : Nat) (es : List (Int × α)) : Prop where
  nodup : (es.map (·.1)).Nodup
  rng : ∀ k ∈ es.map (·.1), k.natAbs ≤ N
theorem Keyed.nil {α : Type} {N : Nat} : Keyed N ([] : List (Int × α)) := ⟨by simp, by simp⟩
theorem Keyed.set {α : Type} {N : Nat} {es : List (Int × α)} (h : Keyed N es) {k : Int} (v : α) (hk : k.natAbs ≤ N) : Keyed N (tset es k v) := by
  have e := keys_tset (es := es) (k := k) (v := v)
  by_cases c : (tget es k).isSome = true
  · rw [if_pos c] at e
    exact ⟨by rw [e]; exact h.nodup, by rw [e]; exact h.rng⟩
  · rw [if_neg c] at e
    have c' := mt tget_isSome.mpr c
    refine ⟨by rw [e, List.nodup_append]; exact ⟨h.nodup, by simp, fun a ha b hb => by rw [List.mem_singleton.mp hb]; exact fun q => c' (q ▸ ha)⟩, by rw [e]; intro j hj; rcases List.mem_append.mp hj with q | q; exact h.rng j q; rw [List.mem_singleton.mp q]; exact hk⟩
theorem Keyed.del {α : Type} {N : Nat} {es : List (Int × α)} (h : Keyed N es) {k : Int} : Keyed N (tdel es k) :=
  ⟨by rw [keys_tdel]; exact h.nodup.erase _, by rw [keys_tdel]; exact fun j hj => h.rng j (List.mem_of_mem_erase hj)⟩
theorem Keyed.push {α : Type} {N : Nat} {es : List (Int × α)} (h : Keyed N es) {k : Int} {v : α} (hk : k.natAbs ≤ N) (e : tget es k = none) : Keyed N (es ++ [(k, v)]) := by
  rw [← tset_new e]; exact h.set v hk
noncomputable def keyRange (N : Nat) : List Int := (List.range (2 * N + 1)).map fun i : Nat => (i : Int) - N
theorem Keyed.len {α : Type} {N : Nat} {es : List (Int × α)} (h : Keyed N es) : es.length ≤ 2 * N + 1 := by
  have : (es.map (·.1)).length ≤ (keyRange N).length := nodup_le h.nodup fun k hk => by
    have := h.rng k hk
    simp only [keyRange, List.mem_map, List.mem_range]
    exact ⟨(k + N).toNat, by omega, by omega⟩
  simpa [keyRange] using this
structure Room' (N B : Nat) (σ : St) : Prop where
  kn : Keyed N σ.kn
  hh : Keyed N σ.hh
  ca : Keyed N σ.ca
  li : Keyed N σ.li
  ht : Keyed N σ.ht
  wd : Keyed N σ.wd
  row : σ.row.length ≤ N
  be : σ.be.length ≤ B
  rows : σ.rows.length ≤ B
  lg : σ.lg.length ≤ B
  wl : ∀ p ∈ σ.wd, p.2.length ≤ B + 1
theorem Room'.fit {N B : Nat} {σ : St} (h : Room' N B σ) (hN : N ≤ 100) (hB : B ≤ 1000) : fit σ = true := by
  unfold Mini.C.fit fitN
  have := h.kn.len; have := h.hh.len; have := h.ca.len; have := h.li.len; have := h.ht.len; have := h.wd.len
  have := h.row; have := h.be; have := h.rows; have := h.lg
  exact decide_eq_true ⟨by omega, by omega, by omega, by omega, by omega, by omega, by omega, by omega, by omega, by omega, h.wd.nodup, fun p hp => by have := h.wl p hp; omega⟩
theorem nodup_nat {N : Nat} {xs : List Int} (h : (xs.map Int.natAbs).Nodup) (hr : ∀ l ∈ xs, 1 ≤ l.natAbs ∧ l.natAbs ≤ N) : xs.length ≤ N := by
  have key : ∀ {as bs : List Nat}, as.Nodup → (∀ l ∈ as, l ∈ bs) → as.length ≤ bs.length := by
    intro as bs ha hs
    have h1 : (as.map fun n : Nat => (n : Int)).Nodup := by
      refine List.Pairwise.map _ (fun a b hab => ?_) ha
      omega
    have := nodup_le (xs := bs.map fun n : Nat => (n : Int)) h1 (fun l hl => by
      obtain ⟨n, hn, rfl⟩ := List.mem_map.mp hl
      exact List.mem_map.mpr ⟨n, hs n hn, rfl⟩)
    simpa using this
  have := key (bs := (List.range N).map (· + 1)) h (fun l hl => by
    obtain ⟨x, hx, rfl⟩ := List.mem_map.mp hl
    have := hr x hx
    simp only [List.mem_map, List.mem_range]
    exact ⟨x.natAbs - 1, by omega, by omega⟩)
  simpa using this
structure Known (N : Nat) (row : List Int) (kn : List (Int × Bool)) : Prop where
  vars : (row.map Int.natAbs).Nodup
  rng : ∀ l ∈ row, 1 ≤ l.natAbs ∧ l.natAbs ≤ N
  kn : ∀ l : Int, l ≠ 0 → (l ∈ row ↔ tget kn l.natAbs = some (decide (0 < l)))
theorem Known.says {N : Nat} {σ : St} (h : Known N σ.row σ.kn) {l : Int} (hl : l ≠ 0) : (σ.says l = some true ↔ l ∈ σ.row) ∧ (σ.says l = some false ↔ -l ∈ σ.row) := by
  have h1 := h.kn l hl
  have h2 := h.kn (-l) (by omega)
  rw [Int.natAbs_neg] at h2
  unfold St.says
  rw [h1, h2]
  cases tget σ.kn l.natAbs with
  | none => simp
  | some b =>
    have : decide (0 < -l) = !decide (0 < l) := by
      by_cases c : 0 < l
      · simp [c]; omega
      · simp [c]; omega
    rw [this]
    cases b <;> cases decide (0 < l) <;> simp
theorem Known.says_none {N : Nat} {σ : St} (h : Known N σ.row σ.kn) {l : Int} (hl : l ≠ 0) : σ.says l = none ↔ l ∉ σ.row ∧ -l ∉ σ.row := by
  obtain ⟨h1, h2⟩ := h.says hl
  rw [← h1, ← h2]
  cases σ.says l with
  | none => simp
  | some b => cases b <;> simp
theorem Known.not_both {N : Nat} {row : List Int} {kn : List (Int × Bool)} (h : Known N row kn) {l : Int} (h1 : l ∈ row) (h2 : -l ∈ row) : False := by
  have l0 : l ≠ 0 := by have := h.rng l h1; omega
  have a := (h.kn l l0).mp h1
  have b := (h.kn (-l) (by omega)).mp h2
  rw [Int.natAbs_neg, a] at b
  simp at b
  omega
theorem Known.push {N : Nat} {row : List Int} {kn : List (Int × Bool)} (h : Known N row kn) {l : Int} (hl : 1 ≤ l.natAbs ∧ l.natAbs ≤ N) (h1 : l ∉ row) (h2 : -l ∉ row) : Known N (row ++ [l]) (tset kn l.natAbs (decide (0 < l))) where
  vars := by
    rw [List.map_append, List.nodup_append]
    refine ⟨h.vars, by simp, fun a ha b hb => ?_⟩
    simp at hb
    obtain ⟨x, hx, rfl⟩ := List.mem_map.mp ha
    subst hb
    intro q
    have : x = l ∨ x = -l := by omega
    rcases this with rfl | rfl
    · exact h1 hx
    · exact h2 hx
  rng := fun x hx => by
    rcases List.mem_append.mp hx with q | q
    · exact h.rng x q
    · rw [List.mem_singleton.mp q]; exact hl
  kn := fun x hx => by
    rw [tget_tset, List.mem_append, List.mem_singleton, h.kn x hx]
    by_cases c : (l.natAbs : Int) = x.natAbs
    · rw [if_pos c]
      have hx' : x = l ∨ x = -l := by omega
      rcases hx' with rfl | rfl
      · simp
      · have : ¬ tget kn ((-l).natAbs : Int) = some (decide (0 < -l)) := fun q => h2 ((h.kn (-l) hx).mpr q)
        constructor
        · rintro (q | q)
          · exact absurd q this
          · omega
        · intro q
          simp at q
          omega
    · rw [if_neg c]
      constructor
      · rintro (q | q)
        · exact q
        · subst q; exact absurd rfl c
      · exact .inl
theorem Known.pop {N : Nat} {row : List Int} {kn : List (Int × Bool)} {l : Int} (h : Known N (row ++ [l]) kn) (hn : (kn.map (·.1)).Nodup) : Known N row (tdel kn l.natAbs) where
  vars := by
    have := h.vars
    rw [List.map_append, List.nodup_append] at this
    exact this.1
  rng := fun x hx => h.rng x (List.mem_append.mpr (.inl hx))
  kn := fun x hx => by
    rw [tget_tdel hn]
    have hk := h.kn x hx
    rw [List.mem_append, List.mem_singleton] at hk
    have hv := h.vars
    rw [List.map_append, List.nodup_append] at hv
    by_cases c : (l.natAbs : Int) = x.natAbs
    · rw [if_pos c]
      constructor
      · intro q
        have := hv.2.2 x.natAbs (List.mem_map.mpr ⟨x, q, rfl⟩) l.natAbs (by simp)
        omega
      · intro q; cases q
    · rw [if_neg c]
      rw [← hk]
      constructor
      · exact .inl
      · rintro (q | q)
        · exact q
        · subst q; exact absurd rfl c
theorem popTo_ok {N B n : Nat} (hN : N ≤ 100) (hB : B ≤ 1000) : ∀ {k : Nat} {σ : St}, σ.row.length ≤ n + k → n ≤ σ.row.length → Known N σ.row σ.kn → Room' N B σ → ∃ kn li, popTo n k σ = some { σ with row := σ.row.take n, kn := kn, li := li } ∧ Known N (σ.row.take n) kn ∧ Keyed N kn ∧ Keyed N li ∧
    (∀ v : Int, tget li v = if ∃ l ∈ σ.row.drop n, (l.natAbs : Int) = v then tget σ.kn v else tget σ.li v)
  | 0, σ, h1, h2, hk, hr => by
    have e : σ.row.length = n := by omega
    refine ⟨σ.kn, σ.li, ?_, ?_, hr.kn, hr.li, fun v => ?_⟩
    · unfold popTo
      rw [if_pos (by omega), List.take_of_length_le (by omega)]
    · rw [List.take_of_length_le (by omega)]; exact hk
    · rw [List.drop_of_length_le (by omega)]; simp
  | k + 1, σ, h1, h2, hk, hr => by
    by_cases hc : σ.row.length ≤ n
    · refine ⟨σ.kn, σ.li, ?_, ?_, hr.kn, hr.li, fun v => ?_⟩
      · unfold popTo
        rw [if_pos hc, List.take_of_length_le hc]
      · rw [List.take_of_length_le hc]; exact hk
      · rw [List.drop_of_length_le hc]; simp
    · have hne : σ.row ≠ [] := fun q => by rw [q] at hc; simp at hc
      obtain ⟨row, l, e⟩ : ∃ row l, σ.row = row ++ [l] := ⟨_, _, (List.dropLast_concat_getLast hne).symm⟩
      have el : σ.row.getLast? = some l := by rw [e]; simp
      have l0 : l ≠ 0 := by have := hk.rng l (by rw [e]; simp); omega
      have ek := (hk.kn l l0).mp (by rw [e]; simp)
      have hf := hr.fit hN hB
      have hl : l.natAbs ≤ N := (hk.rng l (by rw [e]; simp)).2
      have ed : σ.row.dropLast = row := by rw [e]; simp
      have hlen : σ.row.length = row.length + 1 := by rw [e]; simp
      have hk' : Known N (σ.pop l (decide (0 < l))).row (σ.pop l (decide (0 < l))).kn := by
        show Known N σ.row.dropLast (tdel σ.kn l.natAbs)
        rw [ed]
        rw [e] at hk
        exact hk.pop hr.kn.nodup
      have hr' : Room' N B (σ.pop l (decide (0 < l))) := { hr with
        kn := hr.kn.del
        li := hr.li.set _ (by simpa using hl)
        row := by show σ.row.dropLast.length ≤ N; rw [ed]; have := hr.row; omega }
      obtain ⟨kn, li, e1, e2, e3, e4, e5⟩ := popTo_ok (n := n) (k := k) (σ := σ.pop l (decide (0 < l))) hN hB (by show σ.row.dropLast.length ≤ _; rw [ed]; omega) (by show n ≤ σ.row.dropLast.length; rw [ed]; omega) hk' hr'
      have et : (σ.pop l (decide (0 < l))).row.take n = σ.row.take n := by
        show σ.row.dropLast.take n = _
        rw [ed, e, List.take_append_of_le_length (by omega)]
      refine ⟨kn, li, ?_, by rw [← et]; exact e2, e3, e4, fun v => ?_⟩
      · unfold popTo
        rw [if_neg hc, el]
        simp only [ek, hf, if_true]
        rw [e1, et]
        rfl
      · rw [e5 v]
        have ed2 : (σ.pop l (decide (0 < l))).row.drop n = row.drop n := by show σ.row.dropLast.drop n = _; rw [ed]
        have ed3 : σ.row.drop n = row.drop n ++ [l] := by rw [e, List.drop_append_of_le_length (by omega)]
        rw [ed2, ed3]
        have hv := hk.vars
        rw [e, List.map_append, List.nodup_append] at hv
        show (if ∃ m ∈ row.drop n, (m.natAbs : Int) = v then tget (tdel σ.kn l.natAbs) v else tget (tset σ.li l.natAbs (decide (0 < l))) v) = _
        rw [tget_tdel hr.kn.nodup, tget_tset]
        by_cases c : (l.natAbs : Int) = v
        · have no : ¬ ∃ m ∈ row.drop n, (m.natAbs : Int) = v := by
            rintro ⟨m, hm, q⟩
            have := hv.2.2 m.natAbs (List.mem_map.mpr ⟨m, List.mem_of_mem_drop hm, rfl⟩) l.natAbs (by simp)
            omega
          rw [if_neg no, if_pos c, if_pos ⟨l, by simp, c⟩, ← c, ek]
        · rw [if_neg c, if_neg c]
          have : (∃ m ∈ row.drop n ++ [l], (m.natAbs : Int) = v) ↔ ∃ m ∈ row.drop n, (m.natAbs : Int) = v := by
            constructor
            · rintro ⟨m, hm, q⟩
              rcases List.mem_append.mp hm with hm | hm
              · exact ⟨m, hm, q⟩
              · rw [List.mem_singleton.mp hm] at q; exact absurd q c
            · rintro ⟨m, hm, q⟩; exact ⟨m, List.mem_append.mpr (.inl hm), q⟩
          by_cases c2 : ∃ m ∈ row.drop n, (m.natAbs : Int) = v
          · rw [if_pos c2, if_pos (this.mpr c2)]
          · rw [if_neg c2, if_neg (mt this.mp c2)]
end Mini.C
end
section
namespace Mini.C
open Mini
structure GoodC (N : Nat) (c : List Int) : Prop where
  two : 2 ≤ c.length
  nodup : c.Nodup
  rng : ∀ l ∈ c, 1 ≤ l.natAbs ∧ l.natAbs ≤ N
  nocon : ∀ l ∈ c, -l ∉ c
theorem GoodC.perm {N : Nat} {c c' : List Int} (h : GoodC N c) (p : c'.Perm c) : GoodC N c' :=
  ⟨by rw [p.length_eq]; exact h.two, p.nodup_iff.mpr h.nodup, fun l hl => h.rng l (p.mem_iff.mp hl), fun l hl q => h.nocon l (p.mem_iff.mp hl) (p.mem_iff.mp q)⟩
theorem GoodC.len {N : Nat} {c : List Int} (h : GoodC N c) : c.length ≤ 2 * N + 1 := by
  have : c.length ≤ (keyRange N).length := nodup_le h.nodup fun k hk => by
    have := h.rng k hk
    simp only [keyRange, List.mem_map, List.mem_range]
    exact ⟨(k + N).toNat, by omega, by omega⟩
  simpa [keyRange] using this
theorem nth_eq {c : List Int} {i : Nat} (h : i < c.length) : nth c i = c[i] := by simp [nth, List.getD, h]
theorem nth_mem {c : List Int} {i : Nat} (h : i < c.length) : nth c i ∈ c := by rw [nth_eq h]; exact List.getElem_mem h
theorem mem_nth {c : List Int} {m : Int} (h : m ∈ c) : ∃ i, i < c.length ∧ nth c i = m := by
  obtain ⟨i, hi, e⟩ := List.mem_iff_getElem.mp h
  exact ⟨i, hi, by rw [nth_eq hi, e]⟩
theorem nth_inj {c : List Int} (hn : c.Nodup) {i j : Nat} (hi : i < c.length) (hj : j < c.length) (e : nth c i = nth c j) : i = j := by
  rw [nth_eq hi, nth_eq hj] at e
  exact (List.getElem_inj hn).mp e
theorem moved_ok {σ : St} {n : Nat} {lost : Int} {c : List Int} (hr : σ.rows[n]? = some c) (h2 : 2 ≤ c.length) (hl : c.length ≤ fitN) (nd : c.Nodup) (hw : nth c 0 = lost ∨ nth c 1 = lost) (hfit : fit σ = true) :
    ∃ c' : List Int, c'.Perm c ∧ (nth c' 0 = nth c 0 ∨ nth c' 0 = nth c 1) ∧ nth c' 0 ≠ lost ∧
      ((σ.moved n lost = some (false, σ.setR n c') ∧ nth c' 1 = lost ∧ (σ.says (nth c' 0) = some true ∨ ∀ m ∈ c', m ≠ nth c' 0 → m ≠ lost → σ.says m = some false)) ∨
       (σ.moved n lost = some (true, (σ.setR n c').setW (addW σ.wd (nth c' 1) n)) ∧ nth c' 1 ≠ lost ∧ nth c' 1 ≠ nth c' 0 ∧ σ.says (nth c' 0) ≠ some true ∧ σ.says (nth c' 1) ≠ some false)) := by
  have n01 : nth c 0 ≠ nth c 1 := fun q => by have := nth_inj nd (by omega) (by omega) q; omega
  have hs : (swap0 c lost).Perm c ∧ (nth (swap0 c lost) 0 = nth c 0 ∨ nth (swap0 c lost) 0 = nth c 1) ∧ nth (swap0 c lost) 0 ≠ lost ∧ nth (swap0 c lost) 1 = lost := by
    unfold swap0
    by_cases c0 : nth c 0 = lost
    · rw [if_pos c0]
      have p := List.set_set_perm (as := c) (i := 0) (j := 1) (by omega) (by omega)
      rw [← nth_eq (by omega), ← nth_eq (by omega), c0] at p
      refine ⟨p, ?_, ?_, ?_⟩
      · right
        simp [nth, List.getD, show 0 < c.length by omega, List.getElem?_set]
      · have : nth ((c.set 0 (nth c 1)).set 1 lost) 0 = nth c 1 := by simp [nth, List.getD, show 0 < c.length by omega, List.getElem?_set]
        rw [this, ← c0]; exact Ne.symm n01
      · simp [nth, List.getD, show 1 < c.length by omega, List.getElem?_set]
    · rw [if_neg c0]
      exact ⟨.refl _, .inl rfl, c0, hw.resolve_left c0⟩
  obtain ⟨p1, f1, f2, f3⟩ := hs
  have hlen : (swap0 c lost).length = c.length := swap0_length
  have nd1 := p1.nodup_iff.mpr nd
  unfold St.moved
  rw [hr]
  simp only
  rw [if_neg (by omega)]
  generalize swap0 c lost = c1 at *
  by_cases ht : σ.says (nth c1 0) = some true
  · refine ⟨c1, p1, f1, f2, .inl ⟨?_, f3, .inl ht⟩⟩
    rw [if_pos ht]
  · rw [if_neg ht]
    cases ef : (List.range' 2 (c.length - 2)).find? (notF σ c1) with
    | none =>
      refine ⟨c1, p1, f1, f2, .inl ⟨rfl, f3, .inr fun m hm m0 ml => ?_⟩⟩
      obtain ⟨i, hi, e⟩ := mem_nth hm
      have i2 : 2 ≤ i := by
        rcases i with _ | _ | i
        · exact absurd e.symm m0
        · rw [f3] at e; exact absurd e.symm ml
        · omega
      have := List.find?_eq_none.mp ef i (by simp; omega)
      rw [← e]
      simpa [notF] using this
    | some k =>
      have hk := List.mem_of_find?_eq_some ef
      have hp := List.find?_some ef
      simp at hk
      have hk1 : k < c1.length := by omega
      have p := List.set_set_perm (as := c1) (i := 1) (j := k) (by omega) hk1
      rw [← nth_eq (show 1 < c1.length by omega), ← nth_eq hk1, f3] at p
      have e0 : nth ((c1.set 1 (nth c1 k)).set k lost) 0 = nth c1 0 := by
        simp only [nth, List.getD]
        rw [List.getElem?_set_ne (by omega), List.getElem?_set_ne (by omega)]
      have e1 : nth ((c1.set 1 (nth c1 k)).set k lost) 1 = nth c1 k := by
        have : ((c1.set 1 (nth c1 k)).set k lost)[1]? = some (nth c1 k) := by
          rw [List.getElem?_set_ne (by omega), List.getElem?_set_self (by omega)]
        show ((c1.set 1 (nth c1 k)).set k lost).getD 1 0 = nth c1 k
        rw [List.getD_eq_getElem?_getD, this]
        rfl
      refine ⟨_, p.trans p1, by rw [e0]; exact f1, by rw [e0]; exact f2, .inr ⟨?_, ?_, ?_, by rw [e0]; exact ht, ?_⟩⟩
      · simp only [hfit, if_true, e1]
      · rw [e1, ← f3]
        exact fun q => by have := nth_inj nd1 hk1 (by omega) q; omega
      · rw [e1, e0]
        exact fun q => by have := nth_inj nd1 hk1 (by omega) q; omega
      · rw [e1]
        simpa [notF] using hp
noncomputable def lvl (be : List Nat) (i : Nat) : Nat := be.countP (fun b => decide (b ≤ i))
theorem lvl_all {be : List Nat} {i : Nat} (h : ∀ b ∈ be, b ≤ i) : lvl be i = be.length := by
  unfold lvl; rw [List.countP_eq_length]; exact fun b hb => decide_eq_true (h b hb)
theorem lvl_le {be : List Nat} {i : Nat} : lvl be i ≤ be.length := List.countP_le_length
noncomputable def Wat (rows : List (List Int)) (n : Nat) (l : Int) : Prop := ∃ c, rows[n]? = some c ∧ (nth c 0 = l ∨ nth c 1 = l)
noncomputable def WatOk (rows : List (List Int)) (wd : List (Int × List Nat)) : Prop := ∀ l ns, tget wd l = some ns → ns.Nodup ∧ ∀ n ∈ ns, Wat rows n l
structure Inv (N B : Nat) (cls : List (List Int)) (σ : St) : Prop where
  room : Room' N B σ
  known : Known N σ.row σ.kn
  bes : σ.be.Pairwise (· ≤ ·)
  ber : ∀ b ∈ σ.be, b ≤ σ.row.length
  bse : ∀ b ∈ σ.be, b ≤ σ.seen
  seen : σ.seen ≤ σ.row.length
  hh : ∀ i l, σ.row[i]? = some l → tget σ.hh l.natAbs = some (lvl σ.be i)
  rows : ∀ c ∈ σ.rows, GoodC N c
  wat : WatOk σ.rows σ.wd
  org : ∀ c ∈ σ.rows, ∃ C ∈ cls ++ σ.lg, (∀ l ∈ c, l ∈ C) ∧ ∀ l ∈ C, l ∈ c ∨ Forced (cls ++ σ.lg) (-l)
  low : ∀ i l, σ.row[i]? = some l → lvl σ.be i = 0 → Forced (cls ++ σ.lg) l
  cause : ∀ i l, σ.row[i]? = some l → 0 < lvl σ.be i → i ∉ σ.be → ∃ k c, tget σ.ca l.natAbs = some (some k) ∧ σ.rows[k]? = some c ∧ l ∈ c ∧ ∀ m ∈ c, m ≠ l → -m ∈ σ.row.take i
  why : ∀ i l, σ.row[i]? = some l → tget σ.ca l.natAbs = some none ∨ ∃ k c, tget σ.ca l.natAbs = some (some k) ∧ σ.rows[k]? = some c ∧ l ∈ c ∧ ∀ m ∈ c, m ≠ l → -m ∈ σ.row.take i
theorem wl_of {rows : List (List Int)} {wd : List (Int × List Nat)} {B : Nat} (h : WatOk rows wd) (hb : rows.length ≤ B) (hn : (wd.map (·.1)).Nodup) : ∀ p ∈ wd, p.2.length ≤ B + 1 := by
  intro p hp
  have e : tget wd p.1 = some p.2 := by
    clear h hb
    induction wd with
    | nil => cases hp
    | cons q r ih =>
      obtain ⟨a, w⟩ := q
      simp only [List.map_cons, List.nodup_cons] at hn
      simp only [tget]
      rcases List.mem_cons.mp hp with c | c
      · rw [c]; simp
      · rw [if_neg (fun q => hn.1 (List.mem_map.mpr ⟨p, c, q.symm⟩)), ih hn.2 c]
  obtain ⟨h1, h2⟩ := h _ _ e
  have h3 : ∀ n ∈ p.2, n < rows.length := fun n hn => by
    obtain ⟨c, hc, _⟩ := h2 n hn
    exact (List.getElem?_eq_some_iff.mp hc).1
  have h4 : (p.2.map fun n : Nat => (n : Int)).Nodup := by
    refine List.Pairwise.map _ (fun a b hab => ?_) h1
    omega
  have := nodup_le (xs := (List.range rows.length).map fun n : Nat => (n : Int)) h4 (fun l hl => by
    obtain ⟨n, hn, rfl⟩ := List.mem_map.mp hl
    exact List.mem_map.mpr ⟨n, List.mem_range.mpr (h3 n hn), rfl⟩)
  simp at this
  omega
section
variable {N B : Nat} {cls : List (List Int)} {σ : St}
theorem Inv.fit (h : Inv N B cls σ) (hN : N ≤ 100) (hB : B ≤ 1000) : Mini.C.fit σ = true := h.room.fit hN hB
theorem let_ok (h : Inv N B cls σ) {l : Int} {o : Option Nat} (hl : 1 ≤ l.natAbs ∧ l.natAbs ≤ N) (h1 : l ∉ σ.row) (h2 : -l ∉ σ.row) (hlow : σ.be = [] → Forced (cls ++ σ.lg) l)
    (hc : σ.be ≠ [] → σ.row.length ∉ σ.be → ∃ k c, o = some k ∧ σ.rows[k]? = some c ∧ l ∈ c ∧ ∀ m ∈ c, m ≠ l → -m ∈ σ.row)
    (hw : o = none ∨ ∃ k c, o = some k ∧ σ.rows[k]? = some c ∧ l ∈ c ∧ ∀ m ∈ c, m ≠ l → -m ∈ σ.row) : Inv N B cls (σ.let' l o) := by
  have hk := h.known.push hl h1 h2
  have old : ∀ i x, (σ.row ++ [l])[i]? = some x → (i < σ.row.length ∧ σ.row[i]? = some x ∧ (l.natAbs : Int) ≠ x.natAbs) ∨ (i = σ.row.length ∧ x = l) := by
    intro i x e
    by_cases c : i < σ.row.length
    · rw [List.getElem?_append_left c] at e
      refine .inl ⟨c, e, fun q => ?_⟩
      have hx := List.mem_of_getElem? e
      have : x = l ∨ x = -l := by omega
      rcases this with rfl | rfl
      · exact h1 hx
      · exact h2 hx
    · have : i < (σ.row ++ [l]).length := (List.getElem?_eq_some_iff.mp e).1
      have : i = σ.row.length := by simp at this; omega
      subst this
      simp at e
      exact .inr ⟨rfl, e.symm⟩
  exact {
    room := { h.room with
      kn := h.room.kn.set _ (by simpa using hl.2)
      hh := h.room.hh.set _ (by simpa using hl.2)
      ca := h.room.ca.set _ (by simpa using hl.2)
      row := nodup_nat hk.vars hk.rng }
    known := hk
    bes := h.bes
    ber := fun b hb => by show b ≤ (σ.row ++ [l]).length; have := h.ber b hb; simp; omega
    bse := h.bse
    seen := by show σ.seen ≤ (σ.row ++ [l]).length; have := h.seen; simp; omega
    hh := fun i x e => by
      show tget (tset σ.hh l.natAbs σ.be.length) x.natAbs = some (lvl σ.be i)
      rw [tget_tset]
      rcases old i x e with ⟨c, e', ne⟩ | ⟨rfl, rfl⟩
      · rw [if_neg ne]; exact h.hh i x e'
      · rw [if_pos rfl, lvl_all h.ber]
    rows := h.rows
    wat := h.wat
    org := h.org
    low := fun i x e h0 => by
      rcases old i x e with ⟨c, e', ne⟩ | ⟨rfl, rfl⟩
      · exact h.low i x e' h0
      · have h0 : lvl σ.be σ.row.length = 0 := h0
        rw [lvl_all h.ber] at h0
        exact hlow (List.eq_nil_of_length_eq_zero h0)
    cause := fun i x e h0 hb => by
      show ∃ k c, tget (tset σ.ca l.natAbs o) x.natAbs = some (some k) ∧ σ.rows[k]? = some c ∧ x ∈ c ∧ ∀ m ∈ c, m ≠ x → -m ∈ (σ.row ++ [l]).take i
      rw [tget_tset]
      rcases old i x e with ⟨c, e', ne⟩ | ⟨rfl, rfl⟩
      · rw [if_neg ne, List.take_append_of_le_length (Nat.le_of_lt c)]; exact h.cause i x e' h0 hb
      · rw [if_pos rfl]
        have hb0 : σ.be ≠ [] := fun q => by rw [show (σ.let' x o).be = σ.be from rfl, q] at h0; simp [lvl] at h0
        obtain ⟨k, c, rfl, k1, k2, k3⟩ := hc hb0 hb
        refine ⟨k, c, rfl, k1, k2, fun m hm ne => ?_⟩
        rw [List.take_left]
        exact k3 m hm ne
    why := fun i x e => by
      show tget (tset σ.ca l.natAbs o) x.natAbs = some none ∨ ∃ k c, tget (tset σ.ca l.natAbs o) x.natAbs = some (some k) ∧ σ.rows[k]? = some c ∧ x ∈ c ∧ ∀ m ∈ c, m ≠ x → -m ∈ (σ.row ++ [l]).take i
      rw [tget_tset]
      rcases old i x e with ⟨c, e', ne⟩ | ⟨rfl, rfl⟩
      · rw [if_neg ne, List.take_append_of_le_length (Nat.le_of_lt c)]; exact h.why i x e'
      · rw [if_pos rfl]
        rcases hw with rfl | ⟨k, c, rfl, k1, k2, k3⟩
        · exact .inl rfl
        · exact .inr ⟨k, c, rfl, k1, k2, fun m hm ne => by rw [List.take_left]; exact k3 m hm ne⟩ }
end
end Mini.C
end
section
namespace Mini.C
open Mini
inductive Pair (c : List Int) : Int → Int → Prop
  | one : Pair c (nth c 0) (nth c 1)
  | two : Pair c (nth c 1) (nth c 0)
noncomputable def Att (rows : List (List Int)) (wd : List (Int × List Nat)) (lost : Int) (r : List Nat) : Prop := ∀ (n : Nat) (c : List Int) (w w' : Int), rows[n]? = some c → Pair c w w' → n ∈ (tget wd w).getD [] ∨ (w = lost ∧ n ∈ r)
noncomputable def Wch (rows : List (List Int)) (be : List Nat) (row : List Int) (s : Nat) : Prop := ∀ (n : Nat) (c : List Int) (w w' : Int), rows[n]? = some c → Pair c w w' → ∀ i : Nat, i < s → row[i]? = some (-w) → ∃ j : Nat, row[j]? = some w' ∧ lvl be j ≤ lvl be i
structure Wt (σ : St) (lost : Int) (r q : List Nat) (s : Nat) : Prop where
  att : Att σ.rows σ.wd lost r
  wch : Wch σ.rows σ.be σ.row s
  done : ∀ (n : Nat) (c : List Int) (w' : Int), σ.rows[n]? = some c → Pair c lost w' → n ∈ q ∨ w' ∈ σ.row
section
variable {σ : St} {lost : Int} {r q : List Nat} {s n : Nat} {c c' : List Int}
theorem set_pair {rows : List (List Int)} {n' : Nat} {d : List Int} {w w' : Int} (hr : rows[n]? = some c) (hp : ∀ w w', Pair c' w w' → Pair c w w') (e : (rows.set n c')[n']? = some d) (p : Pair d w w') : ∃ d0, rows[n']? = some d0 ∧ Pair d0 w w' := by
  by_cases z : n = n'
  · subst z
    rw [List.getElem?_set_self (List.getElem?_eq_some_iff.mp hr).1] at e
    cases e
    exact ⟨c, hr, hp _ _ p⟩
  · rw [List.getElem?_set_ne z] at e
    exact ⟨d, e, p⟩
theorem Wt.stay {xs : List Nat} (h : Wt σ lost (n :: r) q s) (hr : σ.rows[n]? = some c) (hp : ∀ w w', Pair c' w w' → Pair c w w') (hx : tget σ.wd lost = some xs) : Wt ((σ.setR n c').setW (tset σ.wd lost (xs ++ [n]))) lost r q s where
  att := fun n' d w w' e p => by
    obtain ⟨d0, e0, p0⟩ := set_pair hr hp e p
    show n' ∈ (tget (tset σ.wd lost (xs ++ [n])) w).getD [] ∨ _
    rw [tget_tset]
    by_cases z : lost = w
    · subst z
      rw [if_pos rfl]
      rcases h.att _ _ _ _ e0 p0 with m | ⟨_, m⟩
      · rw [hx] at m; exact .inl (List.mem_append.mpr (.inl m))
      · rcases List.mem_cons.mp m with rfl | m
        · exact .inl (List.mem_append.mpr (.inr (List.mem_singleton_self _)))
        · exact .inr ⟨rfl, m⟩
    · rw [if_neg z]
      exact .inl ((h.att _ _ _ _ e0 p0).resolve_right fun k => z k.1.symm)
  wch := fun n' d w w' e p => by
    obtain ⟨d0, e0, p0⟩ := set_pair hr hp e p
    exact h.wch _ _ _ _ e0 p0
  done := fun n' d w' e p => by
    obtain ⟨d0, e0, p0⟩ := set_pair hr hp e p
    exact h.done _ _ _ e0 p0
theorem Wt.drop (h : Wt σ lost r (n :: q) s) (hr : σ.rows[n]? = some c) (hd : ∀ w', Pair c lost w' → w' ∈ σ.row) : Wt σ lost r q s :=
  ⟨h.att, h.wch, fun n' d w' e p => by
      rcases h.done _ _ _ e p with m | m
      · rcases List.mem_cons.mp m with rfl | m
        · rw [hr] at e; cases e; exact .inr (hd _ p)
        · exact .inl m
      · exact .inr m⟩
theorem Wt.let' {l : Int} {o : Option Nat} (h : Wt σ lost r q s) (hs : s ≤ σ.row.length) : Wt (σ.let' l o) lost r q s where
  att := h.att
  wch := fun n' d w w' e p i hi ei => by
    have ei : (σ.row ++ [l])[i]? = some (-w) := ei
    rw [List.getElem?_append_left (Nat.lt_of_lt_of_le hi hs)] at ei
    obtain ⟨j, ej, l⟩ := h.wch _ _ _ _ e p i hi ei
    exact ⟨j, by show (σ.row ++ _)[j]? = _; rw [List.getElem?_append_left (List.getElem?_eq_some_iff.mp ej).1]; exact ej, l⟩
  done := fun n' d w' e p => (h.done _ _ _ e p).imp id fun m => List.mem_append.mpr (.inl m)
theorem Wt.move (h : Wt σ lost (n :: r) (n :: r) s) (hr : σ.rows[n]? = some c) (p0 : Pair c (nth c' 0) lost) (n0 : nth c' 0 ≠ lost) (n1 : nth c' 1 ≠ lost) (n01 : nth c' 1 ≠ nth c' 0) (hl : lost ∉ σ.row) (h1 : -(nth c' 1) ∉ σ.row) :
    Wt ((σ.setR n c').setW (addW σ.wd (nth c' 1) n)) lost r r s where
  att := fun n' d w w' e p => by
    have e : (σ.rows.set n c')[n']? = some d := e
    show n' ∈ (tget (tset σ.wd (nth c' 1) ((tget σ.wd (nth c' 1)).getD [] ++ [n])) w).getD [] ∨ _
    rw [tget_tset]
    by_cases z : n = n'
    · subst z
      rw [List.getElem?_set_self (List.getElem?_eq_some_iff.mp hr).1] at e
      cases e
      cases p with
      | one =>
        rw [if_neg n01]
        exact .inl ((h.att _ _ _ _ hr p0).resolve_right fun k => n0 k.1)
      | two => rw [if_pos rfl]; exact .inl (List.mem_append.mpr (.inr (List.mem_singleton_self _)))
    · rw [List.getElem?_set_ne z] at e
      rcases h.att _ _ _ _ e p with m | ⟨k, m⟩
      · by_cases y : nth c' 1 = w
        · subst y; rw [if_pos rfl]; exact .inl (List.mem_append.mpr (.inl m))
        · rw [if_neg y]; exact .inl m
      · exact .inr ⟨k, (List.mem_cons.mp m).resolve_left fun q => z q.symm⟩
  wch := fun n' d w w' e p i hi ei => by
    have e : (σ.rows.set n c')[n']? = some d := e
    by_cases z : n = n'
    · subst z
      rw [List.getElem?_set_self (List.getElem?_eq_some_iff.mp hr).1] at e
      cases e
      cases p with
      | one =>
        obtain ⟨j, ej, _⟩ := h.wch _ _ _ _ hr p0 i hi ei
        exact absurd (List.mem_of_getElem? ej) hl
      | two => exact absurd (List.mem_of_getElem? ei) h1
    · rw [List.getElem?_set_ne z] at e
      exact h.wch _ _ _ _ e p i hi ei
  done := fun n' d w' e p => by
    have e : (σ.rows.set n c')[n']? = some d := e
    by_cases z : n = n'
    · subst z
      rw [List.getElem?_set_self (List.getElem?_eq_some_iff.mp hr).1] at e
      cases e
      generalize hlo : lost = lo at p
      cases p with
      | one => exact absurd hlo.symm n0
      | two => exact absurd hlo.symm n1
    · rw [List.getElem?_set_ne z] at e
      exact (h.done _ _ _ e p).imp (fun m => (List.mem_cons.mp m).resolve_left fun q => z q.symm) id
theorem Wt.back {q' : List Nat} {xs : List Nat} (h : Wt σ lost r q s) (hx : tget σ.wd lost = some xs) (ha : q' = xs ++ r) : Wt (σ.setW (tset σ.wd lost q')) lost [] q s :=
  ⟨fun n' d w w' e p => by
      show n' ∈ (tget (tset σ.wd lost q') w).getD [] ∨ _
      rw [tget_tset, ha]
      rcases h.att _ _ _ _ e p with m | ⟨k, m⟩
      · by_cases y : lost = w
        · subst y; rw [hx] at m; rw [if_pos rfl]; exact .inl (List.mem_append.mpr (.inl m))
        · rw [if_neg y]; exact .inl m
      · subst k; rw [if_pos rfl]; exact .inl (List.mem_append.mpr (.inr m)), h.wch, h.done⟩
structure Full (σ : St) (s : Nat) : Prop where
  att : ∀ lost, Att σ.rows σ.wd lost []
  wch : Wch σ.rows σ.be σ.row s
theorem Wt.full {σ : St} (h : Wt σ lost [] q s) : Full σ s := ⟨fun l n c w w' e p => .inl ((h.att n c w w' e p).resolve_right fun k => absurd k.2 List.not_mem_nil), h.wch⟩
theorem Wt.more {σ : St} (h : Wt σ lost [] [] s) (hl : σ.row[s]? = some (-lost)) (hb : ∀ b ∈ σ.be, b ≤ s) : Full σ (s + 1) := by
  refine ⟨h.full.att, fun n c w w' e p i hi ei => ?_⟩
  rcases Nat.lt_or_ge i s with z | z
  · exact h.wch n c w w' e p i z ei
  · obtain rfl : i = s := Nat.le_antisymm (Nat.le_of_lt_succ hi) z
    have ew : w = lost := Int.neg_inj.mp (Option.some.inj (ei.symm.trans hl))
    subst ew
    obtain ⟨j, ej⟩ := List.mem_iff_getElem?.mp ((h.done n c w' e p).resolve_left List.not_mem_nil)
    exact ⟨j, ej, by rw [lvl_all hb]; exact lvl_le⟩
end
end Mini.C
end
section
namespace Mini.C
open Mini
section
variable {N B : Nat} {cls : List (List Int)} {σ : St}
theorem Wat.set {rows : List (List Int)} {n n' : Nat} {c' : List Int} {l : Int} (h : Wat rows n' l) (hne : n' ≠ n) : Wat (rows.set n c') n' l := by
  obtain ⟨c, e, q⟩ := h
  exact ⟨c, by rw [List.getElem?_set_ne (Ne.symm hne)]; exact e, q⟩
theorem Wat.here {rows : List (List Int)} {n : Nat} {c c' : List Int} {l : Int} (e : rows[n]? = some c) (q : nth c' 0 = l ∨ nth c' 1 = l) : Wat (rows.set n c') n l :=
  ⟨c', List.getElem?_set_self (List.getElem?_eq_some_iff.mp e).1, q⟩
theorem rows_ok (h : Inv N B cls σ) {n : Nat} {c c' : List Int} (hr : σ.rows[n]? = some c) (p : c'.Perm c) {wd : List (Int × List Nat)} (hw : WatOk (σ.rows.set n c') wd) (hk : Keyed N wd) : Inv N B cls ((σ.setR n c').setW wd) := by
  have hn := (List.getElem?_eq_some_iff.mp hr).1
  have hmem : c ∈ σ.rows := List.mem_of_getElem? hr
  have hlen : (σ.rows.set n c').length ≤ B := by rw [List.length_set]; exact h.room.rows
  have hset : ∀ x ∈ σ.rows.set n c', x = c' ∨ x ∈ σ.rows := fun x hx => (List.mem_or_eq_of_mem_set hx).symm
  exact {
    room := { h.room with
      wd := hk
      rows := hlen
      wl := wl_of hw hlen hk.nodup }
    known := h.known
    bes := h.bes
    ber := h.ber
    bse := h.bse
    seen := h.seen
    hh := h.hh
    rows := fun x hx => by
      rcases hset x hx with rfl | q
      · exact (h.rows c hmem).perm p
      · exact h.rows x q
    wat := hw
    org := fun x hx => by
      rcases hset x hx with rfl | q
      · obtain ⟨C, hC, a, b⟩ := h.org c hmem
        exact ⟨C, hC, fun l hl => a l (p.mem_iff.mp hl), fun l hl => (b l hl).imp (fun q => p.mem_iff.mpr q) id⟩
      · exact h.org x q
    low := h.low
    cause := fun i l e h0 hb => by
      obtain ⟨k, d, k1, k2, k3, k4⟩ := h.cause i l e h0 hb
      show ∃ k c, tget σ.ca l.natAbs = some (some k) ∧ (σ.rows.set n c')[k]? = some c ∧ l ∈ c ∧ ∀ m ∈ c, m ≠ l → -m ∈ σ.row.take i
      by_cases q : n = k
      · subst q
        rw [hr] at k2
        cases k2
        exact ⟨n, c', k1, List.getElem?_set_self hn, p.mem_iff.mpr k3, fun m hm => k4 m (p.mem_iff.mp hm)⟩
      · exact ⟨k, d, k1, by rw [List.getElem?_set_ne q]; exact k2, k3, k4⟩
    why := fun i l e => by
      refine (h.why i l e).imp id fun ⟨k, d, k1, k2, k3, k4⟩ => ?_
      show ∃ k c, tget σ.ca l.natAbs = some (some k) ∧ (σ.rows.set n c')[k]? = some c ∧ l ∈ c ∧ ∀ m ∈ c, m ≠ l → -m ∈ σ.row.take i
      by_cases q : n = k
      · subst q
        rw [hr] at k2
        cases k2
        exact ⟨n, c', k1, List.getElem?_set_self hn, p.mem_iff.mpr k3, fun m hm => k4 m (p.mem_iff.mp hm)⟩
      · exact ⟨k, d, k1, by rw [List.getElem?_set_ne q]; exact k2, k3, k4⟩ }
theorem wd_ok (h : Inv N B cls σ) {wd : List (Int × List Nat)} (hw : WatOk σ.rows wd) (hk : Keyed N wd) : Inv N B cls (σ.setW wd) :=
  { h with
    room := { h.room with
      wd := hk
      wl := wl_of hw h.room.rows hk.nodup }
    wat := hw }
structure Kin (σ σ' : St) : Prop where
  be : σ'.be = σ.be
  lg : σ'.lg = σ.lg
  ht : σ'.ht = σ.ht
  gain : σ'.gain = σ.gain
  ref : σ'.ref = σ.ref
  bl : σ'.bl = σ.bl
  cl : σ'.cl = σ.cl
  lim : σ'.lim = σ.lim
  li : σ'.li = σ.li
  row : ∃ ext, σ'.row = σ.row ++ ext
  rows : σ'.rows.length = σ.rows.length
  prm : ∀ (n : Nat) (c : List Int), σ.rows[n]? = some c → ∃ c', σ'.rows[n]? = some c' ∧ c'.Perm c
theorem Kin.refl : Kin σ σ := ⟨rfl, rfl, rfl, rfl, rfl, rfl, rfl, rfl, rfl, ⟨[], by simp⟩, rfl, fun n c e => ⟨c, e, .refl _⟩⟩
theorem set_prm {rows : List (List Int)} {n : Nat} {c c' : List Int} (hc : rows[n]? = some c) (p : c'.Perm c) (m : Nat) (d : List Int) (e : rows[m]? = some d) : ∃ d', (rows.set n c')[m]? = some d' ∧ d'.Perm d := by
  by_cases q : n = m
  · subst q
    rw [hc] at e
    cases e
    exact ⟨c', List.getElem?_set_self (List.getElem?_eq_some_iff.mp hc).1, p⟩
  · exact ⟨d, by rw [List.getElem?_set_ne q]; exact e, .refl _⟩
theorem Kin.trans {σ σ' σ'' : St} (a : Kin σ σ') (b : Kin σ' σ'') : Kin σ σ'' := by
  obtain ⟨x, hx⟩ := a.row
  obtain ⟨y, hy⟩ := b.row
  exact ⟨b.be.trans a.be, b.lg.trans a.lg, b.ht.trans a.ht, b.gain.trans a.gain, b.ref.trans a.ref, b.bl.trans a.bl, b.cl.trans a.cl, b.lim.trans a.lim, b.li.trans a.li, ⟨x ++ y, by rw [hy, hx, List.append_assoc]⟩, b.rows.trans a.rows, fun n c e => by
    obtain ⟨c1, e1, p1⟩ := a.prm n c e
    obtain ⟨c2, e2, p2⟩ := b.prm n c1 e1
    exact ⟨c2, e2, p2.trans p1⟩⟩
structure Mid (N B : Nat) (cls : List (List Int)) (σ : St) (lost : Int) (r : List Nat) (s : Nat) : Prop where
  inv : Inv N B cls σ
  neg : -lost ∈ σ.row
  held : ∃ xs, tget σ.wd lost = some xs ∧ ∀ n ∈ r, n ∉ xs
  nd : r.Nodup
  wat : ∀ n ∈ r, Wat σ.rows n lost
  wt : Wt σ lost r r s
  sle : s ≤ σ.row.length
theorem spreadIn_ok (hN : N ≤ 100) (hB : B ≤ 1000) {lost : Int} : ∀ {s : Nat} {r : List Nat} {σ : St}, Mid N B cls σ lost r s → ∃ res σ', spreadIn lost r σ = some (res, σ') ∧ Inv N B cls σ' ∧ Kin σ σ' ∧ σ'.seen = σ.seen ∧
    (∀ n, res = some n → ∃ c, σ'.rows[n]? = some c ∧ lost ∈ c ∧ ∀ m ∈ c, -m ∈ σ'.row) ∧ ∃ q, Wt σ' lost [] q s ∧ (res = none → q = [])
  | s, [], σ, M => ⟨none, σ, rfl, M.inv, .refl, rfl, nofun, [], M.wt, fun _ => rfl⟩
  | s, n :: r, σ, M => by
    have I := M.inv
    obtain ⟨xs, hxs, hdis⟩ := M.held
    obtain ⟨c, hc, hw⟩ := M.wat n (.head _)
    have hn := (List.getElem?_eq_some_iff.mp hc).1
    have G := I.rows c (List.mem_of_getElem? hc)
    have hnd := M.nd
    simp only [List.nodup_cons] at hnd
    have hnx := hdis n (.head _)
    obtain ⟨c', p, f0, f1, f2⟩ := moved_ok (σ := σ) hc G.two (by have := G.len; unfold fitN; omega) G.nodup hw (I.fit hN hB)
    have G' := G.perm p
    have l2 : 2 ≤ c'.length := G'.two
    have W := M.wt
    have noLost : lost ∉ σ.row := fun m => I.known.not_both m M.neg
    have pairs0 : nth c' 1 = lost → ∀ w w', Pair c' w w' → Pair c w w' := fun f3 w w' p => by
      have n1 : nth c' 1 ≠ nth c' 0 := fun q => f1 (q.symm.trans f3)
      have key : (nth c' 0 = nth c 0 ∧ nth c' 1 = nth c 1) ∨ (nth c' 0 = nth c 1 ∧ nth c' 1 = nth c 0) := by
        rcases hw with a | a <;> rcases f0 with b | b
        · exact absurd (b.trans a) f1
        · exact .inr ⟨b, f3.trans a.symm⟩
        · exact .inl ⟨b, f3.trans a.symm⟩
        · exact absurd (b.trans a) f1
      rcases key with ⟨a, b⟩ | ⟨a, b⟩
      · cases p with
        | one => rw [a, b]; exact .one
        | two => rw [a, b]; exact .two
      · cases p with
        | one => rw [a, b]; exact .two
        | two => rw [a, b]; exact .one
    have pairO : Pair c (nth c' 0) lost := by
      rcases hw with a | a <;> rcases f0 with b | b
      · exact absurd (b.trans a) f1
      · rw [b, ← a]; exact .two
      · rw [b, ← a]; exact .one
      · exact absurd (b.trans a) f1
    have stays : ∀ l ns, tget σ.wd l = some ns → l ≠ lost → n ∈ ns → nth c' 0 = l := by
      intro l ns e ne hmem
      obtain ⟨c2, e2, q⟩ := (I.wat l ns e).2 n hmem
      rw [hc] at e2; cases e2
      rcases hw with a | a <;> rcases f0 with b | b <;> rcases q with d | d
      · exact absurd (d.symm.trans a) ne
      · exact absurd (b.trans a) f1
      · exact absurd (d.symm.trans a) ne
      · exact b.trans d
      · exact b.trans d
      · exact absurd (d.symm.trans a) ne
      · exact absurd (b.trans a) f1
      · exact absurd (d.symm.trans a) ne
    have old : ∀ l ns, tget σ.wd l = some ns → l ≠ lost → ∀ n' ∈ ns, Wat (σ.rows.set n c') n' l := by
      intro l ns e ne n' hn'
      by_cases q : n' = n
      · subst q; exact .here hc (.inl (stays l ns e ne hn'))
      · exact ((I.wat l ns e).2 n' hn').set q
    have oldx : ∀ n' ∈ xs, Wat (σ.rows.set n c') n' lost := fun n' hn' => ((I.wat lost xs hxs).2 n' hn').set (fun q => hnx (q ▸ hn'))
    have rest : ∀ n' ∈ r, Wat (σ.rows.set n c') n' lost := fun n' hn' => (M.wat n' (.tail _ hn')).set (n := n) (fun q => hnd.1 (q ▸ hn'))
    rcases f2 with ⟨em, f3, f4⟩ | ⟨em, f3, f4, f5, f6⟩
    · -- it stays
      have hW : WatOk (σ.rows.set n c') (tset σ.wd lost (xs ++ [n])) := by
        intro l ns e
        rw [tget_tset] at e
        split at e
        · rename_i q; subst q; cases e
          refine ⟨?_, fun n' hn' => ?_⟩
          · rw [List.nodup_append]
            exact ⟨(I.wat _ _ hxs).1, by simp, fun a ha b hb => by rw [List.mem_singleton.mp hb]; exact fun q => hnx (q ▸ ha)⟩
          · rcases List.mem_append.mp hn' with q | q
            · exact oldx n' q
            · rw [List.mem_singleton.mp q]; exact .here hc (.inr f3)
        · rename_i q
          exact ⟨(I.wat _ _ e).1, old l ns e (Ne.symm q)⟩
      have hlost : lost.natAbs ≤ N := by have := (I.known.rng _ M.neg).2; simpa using this
      have hK : Keyed N (tset σ.wd lost (xs ++ [n])) := I.room.wd.set _ hlost
      have I2 := rows_ok I hc p hW hK
      have hW1 : WatOk (σ.rows.set n c') σ.wd := by
        intro l ns e
        by_cases q : l = lost
        · subst q
          rw [hxs] at e; cases e
          exact ⟨(I.wat _ _ hxs).1, oldx⟩
        · exact ⟨(I.wat _ _ e).1, old l ns e q⟩
      have I1 := rows_ok I hc p hW1 I.room.wd
      have ef1 : Mini.C.fit (σ.setR n c') = true := I1.fit hN hB
      have es : (σ.setR n c').stay lost [n] = (σ.setR n c').setW (tset σ.wd lost (xs ++ [n])) := by
        unfold St.stay
        show (σ.setR n c').setW (tset σ.wd lost ((tget σ.wd lost).getD [] ++ [n])) = _
        rw [hxs]; rfl
      have er : (σ.setR n c').rows[n]? = some c' := List.getElem?_set_self hn
      have ey : (σ.setR n c').says (nth c' 0) = σ.says (nth c' 0) := rfl
      have g0 := nth_mem (c := c') (i := 0) (by omega)
      have z0 : nth c' 0 ≠ 0 := by have := G'.rng _ g0; omega
      have lmem : lost ∈ c' := by rw [← f3]; exact nth_mem (by omega)
      simp only [spreadIn, em, ef1, er, ey, es]
      rw [if_neg (by simp), if_neg (by omega)]
      have W2 : Wt ((σ.setR n c').setW (tset σ.wd lost (xs ++ [n]))) lost r (n :: r) s := W.stay hc (pairs0 f3) hxs
      have dis2 : ∃ ys, tget ((σ.setR n c').setW (tset σ.wd lost (xs ++ [n]))).wd lost = some ys ∧ ∀ n' ∈ r, n' ∉ ys := by
        refine ⟨xs ++ [n], by show tget (tset _ _ _) _ = _; rw [tget_tset, if_pos rfl], fun n' hn' q => ?_⟩
        rcases List.mem_append.mp q with q | q
        · exact hdis n' (.tail _ hn') q
        · rw [List.mem_singleton.mp q] at hn'; exact hnd.1 hn'
      have other : ∀ {row : List Int}, nth c' 0 ∈ row → ∀ w', Pair c' lost w' → w' ∈ row := fun {row} m w' p => by
        generalize hlo : lost = lo at p
        cases p with
        | one => exact absurd hlo.symm f1
        | two => exact m
      have kin2 : Kin σ ((σ.setR n c').setW (tset σ.wd lost (xs ++ [n]))) := ⟨rfl, rfl, rfl, rfl, rfl, rfl, rfl, rfl, rfl, ⟨[], by simp [St.setW, St.setR]⟩, by simp [St.setW, St.setR], set_prm hc p⟩
      cases eo : σ.says (nth c' 0) with
      | some b =>
        cases b with
        | true =>
          simp only
          have mid2 : Mid N B cls ((σ.setR n c').setW (tset σ.wd lost (xs ++ [n]))) lost r s := ⟨I2, M.neg, dis2, hnd.2, rest, W2.drop (c := c') er (other ((I.known.says z0).1.mp eo)), M.sle⟩
          obtain ⟨res, σ', e1, e2, e3, e4, e5⟩ := spreadIn_ok hN hB mid2
          exact ⟨res, σ', e1, e2, kin2.trans e3, e4, e5⟩
        | false =>
          simp only
          refine ⟨_, _, rfl, ?_, ?_, rfl, ?_, n :: r, ?_, nofun⟩
          · unfold St.stay
            have eget : (tget ((σ.setR n c').setW (tset σ.wd lost (xs ++ [n]))).wd lost).getD [] = xs ++ [n] := by
              show (tget (tset σ.wd lost (xs ++ [n])) lost).getD [] = _
              rw [tget_tset, if_pos rfl]; rfl
            rw [eget]
            refine wd_ok I2 (fun l ns e => ?_) (hK.set _ hlost)
            replace e : tget (tset (tset σ.wd lost (xs ++ [n])) lost (xs ++ [n] ++ r)) l = some ns := e
            rw [tget_tset] at e
            split at e
            · rename_i q; subst q
              cases e
              refine ⟨?_, fun n' hn' => ?_⟩
              · rw [List.nodup_append]
                exact ⟨(hW lost _ (by rw [tget_tset, if_pos rfl])).1, hnd.2, fun a ha b hb q => by
                  subst q
                  rcases List.mem_append.mp ha with q | q
                  · exact hdis a (.tail _ hb) q
                  · rw [List.mem_singleton.mp q] at hb; exact hnd.1 hb⟩
              · rcases List.mem_append.mp hn' with q | q
                · exact (hW lost _ (by rw [tget_tset, if_pos rfl])).2 n' q
                · exact rest n' q
            · exact hW l ns e
          · exact kin2.trans ⟨rfl, rfl, rfl, rfl, rfl, rfl, rfl, rfl, rfl, ⟨[], by simp [St.stay, St.setW, St.setR]⟩, by simp [St.stay, St.setW, St.setR], fun n c e => ⟨c, e, .refl _⟩⟩
          · intro n' e
            cases e
            refine ⟨c', er, lmem, fun m hm => ?_⟩
            show -m ∈ σ.row
            have m0 : m ≠ 0 := by have := G'.rng _ hm; omega
            by_cases q0 : m = nth c' 0
            · rw [q0]; exact (I.known.says z0).2.mp eo
            · by_cases q1 : m = lost
              · rw [q1]; exact M.neg
              · rcases f4 with q | q
                · rw [eo] at q; cases q
                · exact (I.known.says m0).2.mp (q m hm q0 q1)
          · unfold St.stay
            refine Wt.back W2 (xs := xs ++ [n]) (by show tget (tset _ _ _) _ = _; rw [tget_tset, if_pos rfl]) ?_
            show (tget (tset σ.wd lost (xs ++ [n])) lost).getD [] ++ r = _
            rw [tget_tset, if_pos rfl]; rfl
      | none =>
        simp only
        have I2f : Mini.C.fit ((σ.setR n c').setW (tset σ.wd lost (xs ++ [n]))) = true := I2.fit hN hB
        rw [if_pos I2f]
        obtain ⟨u1, u2⟩ := (I.known.says_none z0).mp eo
        have others : ∀ m ∈ c', m ≠ nth c' 0 → -m ∈ σ.row := fun m hm q0 => by
          have m0 : m ≠ 0 := by have := G'.rng _ hm; omega
          by_cases q1 : m = lost
          · rw [q1]; exact M.neg
          · rcases f4 with q | q
            · rw [eo] at q; cases q
            · exact (I.known.says m0).2.mp (q m hm q0 q1)
        have I3 := let_ok I2 (l := nth c' 0) (o := some n) (G'.rng _ g0) u1 u2 (fun hb => by
          have hb : σ.be = [] := hb
          obtain ⟨C, hC, a, b⟩ := I2.org c' (List.mem_of_getElem? er)
          intro U s
          refine (s C hC).2 _ (a _ g0) fun l hl ne => ?_
          rcases b l hl with q | q
          · obtain ⟨i, hi⟩ := List.mem_iff_getElem?.mp (others l q ne)
            exact I.low i _ hi (by rw [hb]; rfl) U s
          · exact q U s) (fun _ _ => ⟨n, c', rfl, er, g0, others⟩) (.inr ⟨n, c', rfl, er, g0, others⟩)
        have mid3 : Mid N B cls (((σ.setR n c').setW (tset σ.wd lost (xs ++ [n]))).let' (nth c' 0) (some n)) lost r s :=
          ⟨I3, List.mem_append.mpr (.inl M.neg), dis2, hnd.2, rest, (W2.let' M.sle).drop (c := c') er (other (List.mem_append.mpr (.inr (List.mem_singleton_self _)))), by show s ≤ (σ.row ++ _).length; rw [List.length_append]; exact Nat.le_trans M.sle (Nat.le_add_right ..)⟩
        obtain ⟨res, σ', e1, e2, e3, e4, e5⟩ := spreadIn_ok hN hB mid3
        have kin3 : Kin ((σ.setR n c').setW (tset σ.wd lost (xs ++ [n]))) (((σ.setR n c').setW (tset σ.wd lost (xs ++ [n]))).let' (nth c' 0) (some n)) := ⟨rfl, rfl, rfl, rfl, rfl, rfl, rfl, rfl, rfl, ⟨[nth c' 0], rfl⟩, rfl, fun n c e => ⟨c, e, .refl _⟩⟩
        exact ⟨res, σ', e1, e2, kin2.trans (kin3.trans e3), e4, e5⟩
    · -- it goes to another list
      have hw2 : (nth c' 1).natAbs ≤ N := (G'.rng _ (nth_mem (by omega))).2
      have noold : ∀ ns, tget σ.wd (nth c' 1) = some ns → n ∉ ns := fun ns e q => f4 (stays _ ns e f3 q).symm
      have hW : WatOk (σ.rows.set n c') (addW σ.wd (nth c' 1) n) := by
        intro l ns e
        unfold addW at e
        rw [tget_tset] at e
        split at e
        · rename_i q
          cases e
          rw [← q]
          cases eg : tget σ.wd (nth c' 1) with
          | none =>
            simp only [Option.getD_none, List.nil_append]
            exact ⟨by simp, fun n' hn' => by rw [List.mem_singleton.mp hn']; exact .here hc (.inr rfl)⟩
          | some ys =>
            simp only [Option.getD_some]
            refine ⟨?_, fun n' hn' => ?_⟩
            · rw [List.nodup_append]
              exact ⟨(I.wat _ _ eg).1, by simp, fun a ha b hb => by rw [List.mem_singleton.mp hb]; exact fun q => noold ys eg (q ▸ ha)⟩
            · rcases List.mem_append.mp hn' with q | q
              · exact old _ _ eg f3 n' q
              · rw [List.mem_singleton.mp q]; exact .here hc (.inr rfl)
        · rename_i q
          by_cases ql : l = lost
          · subst ql
            rw [hxs] at e; cases e
            exact ⟨(I.wat _ _ hxs).1, oldx⟩
          · exact ⟨(I.wat _ _ e).1, old l ns e ql⟩
      have hK : Keyed N (addW σ.wd (nth c' 1) n) := I.room.wd.set _ hw2
      have I2 := rows_ok I hc p hW hK
      have z1 : nth c' 1 ≠ 0 := by have := G'.rng _ (nth_mem (c := c') (i := 1) (by omega)); omega
      have mid2 : Mid N B cls ((σ.setR n c').setW (addW σ.wd (nth c' 1) n)) lost r s := by
        refine ⟨I2, M.neg, ⟨xs, ?_, fun n' hn' => hdis n' (.tail _ hn')⟩, hnd.2, rest, W.move hc pairO f1 f3 f4 noLost (fun m => f6 ((I.known.says z1).2.mpr m)), M.sle⟩
        show tget (addW σ.wd (nth c' 1) n) lost = some xs
        unfold addW
        rw [tget_tset, if_neg f3, hxs]
      obtain ⟨res, σ', e1, e2, e3, e4, e5⟩ := spreadIn_ok hN hB mid2
      have kin2 : Kin σ ((σ.setR n c').setW (addW σ.wd (nth c' 1) n)) := ⟨rfl, rfl, rfl, rfl, rfl, rfl, rfl, rfl, rfl, ⟨[], by simp [St.setW, St.setR]⟩, by simp [St.setW, St.setR], set_prm hc p⟩
      refine ⟨res, σ', ?_, e2, kin2.trans e3, e4, e5⟩
      simp only [spreadIn, em]
      exact e1
theorem round_ok (h : Inv N B cls σ) (F : Full σ σ.seen) (hs : σ.seen < σ.row.length) : Mid N B cls (σ.round (-(nth σ.row σ.seen))) (-(nth σ.row σ.seen)) ((tget σ.wd (-(nth σ.row σ.seen))).getD []) σ.seen := by
  have hmem := nth_mem hs
  generalize hl : -(nth σ.row σ.seen) = lost
  have hm : -lost ∈ σ.row := by rw [← hl]; simpa using hmem
  have hlost : lost.natAbs ≤ N := by have := (h.known.rng _ hm).2; simpa using this
  have hnone : tget (tdel σ.wd lost) lost = none := by rw [tget_tdel h.room.wd.nodup, if_pos rfl]
  have hK : Keyed N (tdel σ.wd lost ++ [(lost, ([] : List Nat))]) := h.room.wd.del.push hlost hnone
  have hget : ∀ l, tget (tdel σ.wd lost ++ [(lost, ([] : List Nat))]) l = if lost = l then some [] else tget σ.wd l := by
    intro l
    rw [tget_append, tget_tdel h.room.wd.nodup]
    by_cases c : lost = l
    · simp [c]
    · simp only [if_neg c]
      cases tget σ.wd l <;> rfl
  have hW : WatOk σ.rows (tdel σ.wd lost ++ [(lost, ([] : List Nat))]) := by
    intro l ns e
    rw [hget] at e
    split at e
    · cases e; exact ⟨by simp, by simp⟩
    · exact h.wat l ns e
  have I2 := wd_ok h hW hK
  have I3 : Inv N B cls (σ.round lost) := { I2 with
    room := ⟨I2.room.kn, I2.room.hh, I2.room.ca, I2.room.li, I2.room.ht, I2.room.wd, I2.room.row, I2.room.be, I2.room.rows, I2.room.lg, I2.room.wl⟩
    bse := fun b hb => Nat.le_succ_of_le (h.bse b hb)
    seen := hs }
  refine ⟨I3, hm, ⟨[], by show tget (tdel σ.wd lost ++ [(lost, [])]) lost = _; rw [hget, if_pos rfl], by simp⟩, ?_, ?_, ⟨fun n c w w' e p => ?_, F.wch, fun n c w' e p => .inl ((F.att lost n c _ _ e p).resolve_right fun k => absurd k.2 List.not_mem_nil)⟩, h.seen⟩
  · cases e : tget σ.wd lost with
    | none => simp
    | some ns => exact (h.wat _ _ e).1
  · cases e : tget σ.wd lost with
    | none => simp
    | some ns => exact (h.wat _ _ e).2
  · have m := (F.att lost n c w w' e p).resolve_right fun k => absurd k.2 List.not_mem_nil
    show n ∈ (tget (tdel σ.wd lost ++ [(lost, ([] : List Nat))]) w).getD [] ∨ _
    rw [hget]
    by_cases z : lost = w
    · subst z; exact .inr ⟨rfl, m⟩
    · rw [if_neg z]; exact .inl m
theorem spreadF_ok (hN : N ≤ 100) (hB : B ≤ 1000) : ∀ {k : Nat} {σ : St}, Inv N B cls σ → Full σ σ.seen → N ≤ k + σ.seen → ∃ r σ', spreadF k σ = some (r, σ') ∧ Inv N B cls σ' ∧ Kin σ σ' ∧ (∃ s, Full σ' s ∧ (∀ b ∈ σ'.be, b ≤ s) ∧ (r = -1 → s = σ'.seen)) ∧
    ((r = -1 ∧ σ'.seen = σ'.row.length) ∨ ∃ n : Nat, r = n ∧ ∃ c, σ'.rows[n]? = some c ∧ (∀ m ∈ c, -m ∈ σ'.row) ∧ ∃ m ∈ c, ∃ i, σ'.row[i]? = some (-m) ∧ ∀ b ∈ σ'.be, b ≤ i)
  | 0, σ, I, F, hk => by
    have := I.room.row
    have := I.seen
    exact ⟨-1, σ, by unfold spreadF; rw [if_pos (by omega)], I, .refl, ⟨_, F, I.bse, fun _ => rfl⟩, .inl ⟨rfl, by omega⟩⟩
  | k + 1, σ, I, F, hk => by
    by_cases hs : σ.row.length ≤ σ.seen
    · have := I.seen
      exact ⟨-1, σ, by unfold spreadF; rw [if_pos hs], I, .refl, ⟨_, F, I.bse, fun _ => rfl⟩, .inl ⟨rfl, by omega⟩⟩
    · have hs' : σ.seen < σ.row.length := by omega
      have M := round_ok I F hs'
      obtain ⟨res, σ1, e1, e2, e3, e4, e5, q, W, eq⟩ := spreadIn_ok hN hB M
      have kin1 : Kin σ σ1 := Kin.trans (σ' := σ.round (-(nth σ.row σ.seen))) ⟨rfl, rfl, rfl, rfl, rfl, rfl, rfl, rfl, rfl, ⟨[], by simp [St.round]⟩, rfl, fun n c e => ⟨c, e, .refl _⟩⟩ e3
      unfold spreadF
      rw [if_neg hs, if_neg (by rw [I.fit hN hB]; simp), e1]
      cases res with
      | some n =>
        refine ⟨n, σ1, rfl, e2, kin1, ⟨σ.seen, W.full, fun b hb => by rw [kin1.be] at hb; exact I.bse b hb, fun q => by omega⟩, .inr ⟨n, rfl, ?_⟩⟩
        obtain ⟨c, c1, c2, c3⟩ := e5 n rfl
        refine ⟨c, c1, c3, _, c2, σ.seen, ?_, fun b hb => ?_⟩
        · obtain ⟨ext, hx⟩ := kin1.row
          rw [hx, List.getElem?_append_left hs', getD_get hs']
          simp
        · rw [kin1.be] at hb
          exact I.bse b hb
      | none =>
        have F1 : Full σ1 (σ.seen + 1) := by
          rw [eq rfl] at W
          refine W.more ?_ fun b hb => by rw [kin1.be] at hb; exact I.bse b hb
          obtain ⟨ext, hx⟩ := kin1.row
          rw [hx, List.getElem?_append_left hs', getD_get hs']
          simp
        obtain ⟨r, σ', g1, g2, g3, g4⟩ := spreadF_ok hN hB (k := k) (σ := σ1) e2 (by rw [e4]; exact F1) (by rw [e4]; show N ≤ k + (σ.seen + 1); omega)
        exact ⟨r, σ', g1, g2, kin1.trans g3, g4⟩
end
end Mini.C
end
section
namespace Mini.C
open Mini
section
variable {N B : Nat} {cls : List (List Int)} {σ : St} {H : Int}
theorem Inv.more (h : Inv N B cls σ) {cls' : List (List Int)} (hc : ∀ C ∈ cls, C ∈ cls') : Inv N B cls' σ := by
  have hb : ∀ C ∈ cls ++ σ.lg, C ∈ cls' ++ σ.lg := fun C hC => by
    rcases List.mem_append.mp hC with q | q
    · exact List.mem_append.mpr (.inl (hc C q))
    · exact List.mem_append.mpr (.inr q)
  exact { h with
    org := fun c hm => by
      obtain ⟨C, hC, a, b⟩ := h.org c hm
      exact ⟨C, hb C hC, a, fun l hl => (b l hl).imp id fun q => q.more hb⟩
    low := fun i l e h0 => (h.low i l e h0).more hb }
theorem ht_ok (h : Inv N B cls σ) {ht : List (Int × Int)} (hk : Keyed N ht) : Inv N B cls { σ with ht := ht } :=
  { h with room := { h.room with ht := hk } }
theorem lvl_cut {be : List Nat} {H n i : Nat} (hs : be.Pairwise (· ≤ ·)) (hH : be[H]? = some n) (hi : i < n) : lvl (be.take H) i = lvl be i := by
  have e : be = be.take H ++ be.drop H := (List.take_append_drop H be).symm
  have hl := (List.getElem?_eq_some_iff.mp hH).1
  have hd : be.drop H = n :: be.drop (H + 1) := by
    rw [List.drop_eq_getElem_cons hl]
    have := (List.getElem?_eq_some_iff.mp hH).2
    rw [this]
  have hz : (be.drop H).countP (fun b => decide (b ≤ i)) = 0 := by
    rw [List.countP_eq_zero]
    intro b hb
    rw [e, List.pairwise_append] at hs
    rw [hd] at hb
    have h2 := hs.2.1
    rw [hd] at h2
    rcases List.mem_cons.mp hb with q | q
    · simp; omega
    · have := (List.pairwise_cons.mp h2).1 b q
      simp; omega
  unfold lvl
  conv => rhs; rw [e, List.countP_append, hz]
  omega
theorem lvl_ge {be : List Nat} {H n i : Nat} (hs : be.Pairwise (· ≤ ·)) (hH : be[H]? = some n) (hi : n ≤ i) : H < lvl be i := by
  have hl := (List.getElem?_eq_some_iff.mp hH).1
  have e : be = be.take (H + 1) ++ be.drop (H + 1) := (List.take_append_drop (H + 1) be).symm
  have h1 : lvl (be.take (H + 1)) i = H + 1 := by
    rw [lvl_all, List.length_take]
    · omega
    · intro b hb
      obtain ⟨j, hj, ej⟩ := List.mem_iff_getElem.mp hb
      rw [List.length_take] at hj
      rw [List.getElem_take] at ej
      have en := (List.getElem?_eq_some_iff.mp hH).2
      rcases Nat.lt_or_ge j H with q | q
      · have := List.pairwise_iff_getElem.mp hs j H (by omega) hl q
        omega
      · have : j = H := by omega
        subst this
        omega
  have : lvl be i = lvl (be.take (H + 1)) i + lvl (be.drop (H + 1)) i := by
    unfold lvl
    rw [← List.countP_append, ← e]
  omega
theorem back_ok (hN : N ≤ 100) (hB : B ≤ 1000) (h : Inv N B cls σ) {H n : Nat} (hH : σ.be[H]? = some n) : ∃ kn li, σ.back H = some { σ with row := σ.row.take n, kn := kn, li := li, be := σ.be.take H, seen := n } ∧
    Inv N B cls { σ with row := σ.row.take n, kn := kn, li := li, be := σ.be.take H, seen := n } ∧ n ≤ σ.row.length ∧
    (∀ v : Int, tget li v = if ∃ l ∈ σ.row.drop n, (l.natAbs : Int) = v then tget σ.kn v else tget σ.li v) := by
  have hn : n ≤ σ.row.length := h.ber n (List.mem_of_getElem? hH)
  obtain ⟨kn, li, e1, e2, e3, e4, e5⟩ := popTo_ok (n := n) (k := σ.row.length) hN hB (by omega) hn h.known h.room
  have ln : (σ.row.take n).length = n := by rw [List.length_take]; omega
  have sub : ∀ b ∈ σ.be.take H, b ∈ σ.be := fun b hb => List.mem_of_mem_take hb
  have hl := (List.getElem?_eq_some_iff.mp hH).1
  have low : ∀ b ∈ σ.be.take H, b ≤ n := fun b hb => by
    obtain ⟨j, hj, ej⟩ := List.mem_iff_getElem.mp hb
    rw [List.length_take] at hj
    rw [List.getElem_take] at ej
    have en := (List.getElem?_eq_some_iff.mp hH).2
    have := List.pairwise_iff_getElem.mp h.bes j H (by omega) hl (by omega)
    omega
  have old : ∀ i l, (σ.row.take n)[i]? = some l → i < n ∧ σ.row[i]? = some l := fun i l e => by
    rw [List.getElem?_take] at e
    split at e
    · rename_i q; exact ⟨q, e⟩
    · cases e
  refine ⟨kn, li, ?_, ?_, hn, e5⟩
  · unfold St.back
    rw [hH]
    simp only
    rw [e1]
    simp only [Option.map_some, ln]
  · exact {
      room := { h.room with
        kn := e3
        li := e4
        row := by show (σ.row.take n).length ≤ N; rw [ln]; have := h.room.row; omega
        be := by show (σ.be.take H).length ≤ B; rw [List.length_take]; have := h.room.be; omega }
      known := e2
      bes := h.bes.sublist (List.take_sublist _ _)
      ber := fun b hb => by show b ≤ (σ.row.take n).length; rw [ln]; exact low b hb
      bse := low
      seen := by show n ≤ (σ.row.take n).length; omega
      hh := fun i l e => by
        obtain ⟨q, e⟩ := old i l e
        show tget σ.hh l.natAbs = some (lvl (σ.be.take H) i)
        rw [lvl_cut h.bes hH q]; exact h.hh i l e
      rows := h.rows
      wat := h.wat
      org := h.org
      low := fun i l e h0 => by
        obtain ⟨q, e⟩ := old i l e
        have h0 : lvl (σ.be.take H) i = 0 := h0
        rw [lvl_cut h.bes hH q] at h0
        exact h.low i l e h0
      cause := fun i l e h0 hb => by
        obtain ⟨q, e⟩ := old i l e
        have h0 : 0 < lvl (σ.be.take H) i := h0
        rw [lvl_cut h.bes hH q] at h0
        have hb : i ∉ σ.be.take H := hb
        have nb : i ∉ σ.be := fun z => by
          rw [← List.take_append_drop H σ.be] at z
          rcases List.mem_append.mp z with z | z
          · exact hb z
          · have hs := h.bes
            rw [← List.take_append_drop H σ.be, List.pairwise_append] at hs
            have hd : σ.be.drop H = n :: σ.be.drop (H + 1) := by
              rw [List.drop_eq_getElem_cons hl]
              rw [(List.getElem?_eq_some_iff.mp hH).2]
            have h2 := hs.2.1
            rw [hd] at z h2
            rcases List.mem_cons.mp z with w | w
            · omega
            · have := (List.pairwise_cons.mp h2).1 i w
              omega
        obtain ⟨k, c, k1, k2, k3, k4⟩ := h.cause i l e h0 nb
        refine ⟨k, c, k1, k2, k3, fun m hm ne => ?_⟩
        show -m ∈ (σ.row.take n).take i
        rw [List.take_take, Nat.min_eq_left (Nat.le_of_lt q)]
        exact k4 m hm ne
      why := fun i l e => by
        obtain ⟨q, e⟩ := old i l e
        refine (h.why i l e).imp id fun ⟨k, c, k1, k2, k3, k4⟩ => ⟨k, c, k1, k2, k3, fun m hm ne => ?_⟩
        show -m ∈ (σ.row.take n).take i
        rw [List.take_take, Nat.min_eq_left (Nat.le_of_lt q)]
        exact k4 m hm ne }
theorem back_none {H : Nat} (hH : σ.be.length ≤ H) : σ.back H = some σ := by
  unfold St.back
  rw [List.getElem?_eq_none hH]
theorem keep_ok (h : Inv N B cls σ) {c : List Int} (G : GoodC N c) (hr : σ.rows.length < B) (ho : ∃ C ∈ cls ++ σ.lg, (∀ l ∈ c, l ∈ C) ∧ ∀ l ∈ C, l ∈ c ∨ Forced (cls ++ σ.lg) (-l)) : Inv N B cls (σ.keep c) := by
  obtain ⟨a, b, r, rfl⟩ : ∃ a b r, c = a :: b :: r := by
    match c, G.two with
    | a :: b :: r, _ => exact ⟨a, b, r, rfl⟩
  have hab : a ≠ b := by have := G.nodup; simp at this; exact this.1.1
  have hwd : (σ.keep (a :: b :: r)).wd = addW (addW σ.wd a σ.rows.length) b σ.rows.length := rfl
  have hold : ∀ l ns, tget σ.wd l = some ns → ∀ n ∈ ns, n < σ.rows.length := fun l ns e n hn => by
    obtain ⟨c, hc, _⟩ := (h.wat l ns e).2 n hn
    exact (List.getElem?_eq_some_iff.mp hc).1
  have hrow : ∀ n l, Wat σ.rows n l → Wat (σ.rows ++ [a :: b :: r]) n l := fun n l ⟨c, e, q⟩ =>
    ⟨c, by rw [List.getElem?_append_left (List.getElem?_eq_some_iff.mp e).1]; exact e, q⟩
  have hnew : (σ.rows ++ [a :: b :: r])[σ.rows.length]? = some (a :: b :: r) := by simp
  have hW : WatOk (σ.rows ++ [a :: b :: r]) (addW (addW σ.wd a σ.rows.length) b σ.rows.length) := by
    have h1 : ∀ l ns, tget (addW σ.wd a σ.rows.length) l = some ns → ns.Nodup ∧ (∀ n ∈ ns, Wat (σ.rows ++ [a :: b :: r]) n l) ∧ (l ≠ a → ∀ n ∈ ns, n < σ.rows.length) := by
      intro l ns e
      unfold addW at e
      rw [tget_tset] at e
      split at e
      · rename_i q
        subst q
        cases e
        cases eg : tget σ.wd a with
        | none => simp only [Option.getD_none, List.nil_append]; exact ⟨by simp, fun n hn => by rw [List.mem_singleton.mp hn]; exact ⟨_, hnew, .inl rfl⟩, fun q => absurd rfl q⟩
        | some ys =>
          simp only [Option.getD_some]
          refine ⟨?_, fun n hn => ?_, fun q => absurd rfl q⟩
          · rw [List.nodup_append]
            exact ⟨(h.wat _ _ eg).1, by simp, fun x hx y hy => by rw [List.mem_singleton.mp hy]; have := hold _ _ eg x hx; omega⟩
          · rcases List.mem_append.mp hn with q | q
            · exact hrow _ _ ((h.wat _ _ eg).2 n q)
            · rw [List.mem_singleton.mp q]; exact ⟨_, hnew, .inl rfl⟩
      · exact ⟨(h.wat _ _ e).1, fun n hn => hrow _ _ ((h.wat _ _ e).2 n hn), fun _ => hold _ _ e⟩
    intro l ns e
    unfold addW at e
    rw [tget_tset] at e
    split at e
    · rename_i q
      subst q
      cases e
      have e2 : tget (tset σ.wd a ((tget σ.wd a).getD [] ++ [σ.rows.length])) b = tget σ.wd b := by rw [tget_tset, if_neg hab]
      rw [e2]
      cases eg : tget σ.wd b with
      | none => simp only [Option.getD_none, List.nil_append]; exact ⟨by simp, fun n hn => by rw [List.mem_singleton.mp hn]; exact ⟨_, hnew, .inr rfl⟩⟩
      | some ys =>
        simp only [Option.getD_some]
        refine ⟨?_, fun n hn => ?_⟩
        · rw [List.nodup_append]
          exact ⟨(h.wat _ _ eg).1, by simp, fun x hx y hy => by rw [List.mem_singleton.mp hy]; have := hold _ _ eg x hx; omega⟩
        · rcases List.mem_append.mp hn with q | q
          · exact hrow _ _ ((h.wat _ _ eg).2 n q)
          · rw [List.mem_singleton.mp q]; exact ⟨_, hnew, .inr rfl⟩
    · obtain ⟨x, y, _⟩ := h1 l ns e
      exact ⟨x, y⟩
  have ra := (G.rng a (by simp)).2
  have rb := (G.rng b (by simp)).2
  have hK : Keyed N (addW (addW σ.wd a σ.rows.length) b σ.rows.length) := (h.room.wd.set _ ra).set _ rb
  have hlen : (σ.rows ++ [a :: b :: r]).length ≤ B := by simp; omega
  exact { h with
    room := { h.room with
      wd := hK
      rows := hlen
      wl := wl_of hW hlen hK.nodup }
    rows := fun x hx => by
      rcases List.mem_append.mp hx with q | q
      · exact h.rows x q
      · rw [List.mem_singleton.mp q]; exact G
    wat := hW
    org := fun x hx => by
      rcases List.mem_append.mp hx with q | q
      · exact h.org x q
      · rw [List.mem_singleton.mp q]; exact ho
    cause := fun i l e h0 hb => by
      obtain ⟨k, c, k1, k2, k3, k4⟩ := h.cause i l e h0 hb
      exact ⟨k, c, k1, by show (σ.rows ++ _)[k]? = _; rw [List.getElem?_append_left (List.getElem?_eq_some_iff.mp k2).1]; exact k2, k3, k4⟩
    why := fun i l e => (h.why i l e).imp id fun ⟨k, c, k1, k2, k3, k4⟩ => ⟨k, c, k1, by show (σ.rows ++ _)[k]? = _; rw [List.getElem?_append_left (List.getElem?_eq_some_iff.mp k2).1]; exact k2, k3, k4⟩ }
noncomputable def St.level (σ : St) : St := { σ with be := σ.be ++ [σ.row.length] }
theorem level_ok (h : Inv N B cls σ) (hs : σ.seen = σ.row.length) (hb : σ.be.length < B) : Inv N B cls σ.level := by
  have hl : ∀ i, i < σ.row.length → lvl (σ.be ++ [σ.row.length]) i = lvl σ.be i := fun i hi => by
    unfold lvl
    rw [List.countP_append]
    simp
    omega
  have lt : ∀ i l, σ.row[i]? = some l → i < σ.row.length := fun i l e => (List.getElem?_eq_some_iff.mp e).1
  exact { h with
    room := { h.room with be := by show (σ.be ++ [_]).length ≤ B; simp; omega }
    bes := by
      show (σ.be ++ [σ.row.length]).Pairwise (· ≤ ·)
      rw [List.pairwise_append]
      exact ⟨h.bes, by simp, fun a ha b hb => by rw [List.mem_singleton.mp hb]; exact h.ber a ha⟩
    ber := fun b hb => by
      rcases List.mem_append.mp hb with q | q
      · exact h.ber b q
      · rw [List.mem_singleton.mp q]; exact Nat.le_refl _
    bse := fun b hb => by
      rcases List.mem_append.mp hb with q | q
      · exact h.bse b q
      · rw [List.mem_singleton.mp q, ← hs]; exact Nat.le_refl _
    hh := fun i l e => by
      show tget σ.hh l.natAbs = some (lvl (σ.be ++ [σ.row.length]) i)
      rw [hl i (lt i l e)]; exact h.hh i l e
    low := fun i l e h0 => by
      have h0 : lvl (σ.be ++ [σ.row.length]) i = 0 := h0
      rw [hl i (lt i l e)] at h0
      exact h.low i l e h0
    cause := fun i l e h0 hb => by
      have h0 : 0 < lvl (σ.be ++ [σ.row.length]) i := h0
      rw [hl i (lt i l e)] at h0
      exact h.cause i l e h0 fun q => hb (List.mem_append.mpr (.inl q)) }
end
end Mini.C
end
section
namespace Mini.C
open Mini
section
variable {N B : Nat} {cls : List (List Int)} {σ : St} {H : Int}
theorem foldl_heats {ks : List Nat} : ∀ {acc : List (Int × Int)}, (∀ k ∈ ks, k ≤ N) → Keyed N acc → Keyed N (ks.foldl (fun es (k : Nat) => tset es (k : Int) 0) acc) ∧
    ∀ v : Int, tget (ks.foldl (fun es (k : Nat) => tset es (k : Int) 0) acc) v = if ∃ k ∈ ks, (k : Int) = v then some 0 else tget acc v := by
  induction ks with
  | nil => intro acc _ h; exact ⟨h, fun v => by simp⟩
  | cons k ks ih =>
    intro acc hk h
    obtain ⟨a, b⟩ := ih (acc := tset acc (k : Int) 0) (fun j hj => hk j (.tail _ hj)) (h.set _ (by simpa using hk k (.head _)))
    refine ⟨a, fun v => ?_⟩
    show tget (ks.foldl (fun es (k : Nat) => tset es (k : Int) 0) (tset acc (k : Int) 0)) v = _
    rw [b v, tget_tset]
    by_cases c : ∃ j ∈ ks, (j : Int) = v
    · rw [if_pos c, if_pos (by obtain ⟨j, hj, e⟩ := c; exact ⟨j, .tail _ hj, e⟩)]
    · rw [if_neg c]
      by_cases c2 : (k : Int) = v
      · rw [if_pos c2, if_pos ⟨k, .head _, c2⟩]
      · rw [if_neg c2, if_neg]
        rintro ⟨j, hj, e⟩
        rcases List.mem_cons.mp hj with q | q
        · rw [q] at e; exact c2 e
        · exact c ⟨j, q, e⟩
theorem heats0_ok : Keyed N (heats0 N) ∧ ∀ v : Int, 1 ≤ v → v ≤ N → tget (heats0 N) v = some 0 := by
  obtain ⟨a, b⟩ := foldl_heats (N := N) (ks := List.range' 1 N) (acc := []) (fun k hk => by simp at hk; omega) .nil
  refine ⟨a, fun v h1 h2 => ?_⟩
  unfold heats0
  rw [b v, if_pos]
  exact ⟨v.toNat, by simp; omega, by omega⟩
theorem defHeats_same {ht : List (Int × Int)} : ∀ {xs : List Int}, (∀ l ∈ xs, (tget ht l.natAbs).isSome = true) → defHeats ht xs = ht
  | [], _ => rfl
  | x :: xs, h => by
    have : defHeats ht (x :: xs) = defHeats ht xs := by
      unfold defHeats
      rw [List.foldl_cons, if_pos (h x (.head _))]
    rw [this]
    exact defHeats_same fun l hl => h l (.tail _ hl)
noncomputable def Low (σ : St) (l : Int) : Prop := ∃ i, σ.row[i]? = some l ∧ lvl σ.be i = 0
inductive Cov (σ : St) (C : List Int) : Prop
  | con (c : Contra C)
  | low {l : Int} (m : l ∈ C) (h : Low σ l)
  | row {n : Nat} {c : List Int} (e : σ.rows[n]? = some c) (s : ∀ l ∈ c, l ∈ C) (r : ∀ l ∈ C, l ∈ c ∨ Low σ (-l))
noncomputable def Cover (cls : List (List Int)) (σ : St) : Prop := ∀ C ∈ cls, Cov σ C
theorem Cov.to {σ' : St} {C : List Int} (h : Cov σ C) (hl : ∀ l, Low σ l → Low σ' l) (hr : ∀ (n : Nat) (c : List Int), σ.rows[n]? = some c → ∃ c', σ'.rows[n]? = some c' ∧ c'.Perm c) : Cov σ' C := by
  induction h with
  | con c => exact .con c
  | low m h => exact .low m (hl _ h)
  | row e s r =>
    obtain ⟨c', e', p⟩ := hr _ _ e
    exact .row e' (fun l hl => s l (p.mem_iff.mp hl)) fun l m => (r l m).imp (fun q => p.mem_iff.mpr q) (hl _)
theorem keep_full {s : Nat} (h : Full σ s) {c : List Int} (h2 : 2 ≤ c.length) (n0 : ∀ l ∈ c, -l ∉ σ.row) : Full (σ.keep c) s := by
  obtain ⟨a, b, r, rfl⟩ : ∃ a b r, c = a :: b :: r := by
    match c, h2 with
    | a :: b :: r, _ => exact ⟨a, b, r, rfl⟩
  have grow : ∀ {wd : List (Int × List Nat)} {x w : Int} {k n : Nat}, n ∈ (tget wd w).getD [] → n ∈ (tget (addW wd x k) w).getD [] := fun {wd x w k n} m => by
    unfold addW
    rw [tget_tset]
    by_cases z : x = w
    · subst z; rw [if_pos rfl]; exact List.mem_append.mpr (.inl m)
    · rw [if_neg z]; exact m
  have here : ∀ {wd : List (Int × List Nat)} {x : Int} {k : Nat}, k ∈ (tget (addW wd x k) x).getD [] := fun {wd x k} => by
    unfold addW
    rw [tget_tset, if_pos rfl]
    exact List.mem_append.mpr (.inr (List.mem_singleton_self _))
  have cases2 : ∀ {n : Nat} {d : List Int}, (σ.rows ++ [a :: b :: r])[n]? = some d → σ.rows[n]? = some d ∨ (n = σ.rows.length ∧ d = a :: b :: r) := fun {n d} e => by
    rcases Nat.lt_or_ge n σ.rows.length with z | z
    · rw [List.getElem?_append_left z] at e; exact .inl e
    · have l := (List.getElem?_eq_some_iff.mp e).1
      rw [List.length_append] at l
      have z : n = σ.rows.length := Nat.le_antisymm (Nat.le_of_lt_succ l) z
      subst z
      rw [List.getElem?_append_right (Nat.le_refl _), Nat.sub_self] at e
      exact .inr ⟨rfl, (Option.some.inj e).symm⟩
  refine ⟨fun lost n d w w' e p => .inl ?_, fun n d w w' e p i hi ei => ?_⟩
  · show n ∈ (tget (addW (addW σ.wd a σ.rows.length) b σ.rows.length) w).getD []
    rcases cases2 e with e | ⟨rfl, rfl⟩
    · exact grow (grow ((h.att lost n d w w' e p).resolve_right fun k => absurd k.2 List.not_mem_nil))
    · cases p with
      | one => exact grow here
      | two => exact here
  · rcases cases2 e with e | ⟨rfl, rfl⟩
    · exact h.wch n d w w' e p i hi ei
    · have m : w ∈ a :: b :: r := by
        cases p with
        | one => exact .head _
        | two => exact .tail _ (.head _)
      exact absurd (List.mem_of_getElem? ei) (n0 w m)
structure Built (N B : Nat) (done : List (List Int)) (σ : St) : Prop where
  room : Room' N B σ
  be : σ.be = []
  ht : σ.ht = heats0 N
  gain : σ.gain = 1
  cl : σ.cl = 0
  rows : σ.rows.length ≤ done.length
  seen : σ.seen = 0
  li : σ.li = []
  way : σ.ref = false ∧ σ.lg = [] ∧ Inv N B done σ ∧ Cover done σ ∧ Full σ 0 ∨ σ.ref = true ∧ σ.lg = [[]] ∧ Dead done
theorem zero_ok : Built N B [] (St.zero N) := by
  have hr : Room' N B (St.zero N) := ⟨.nil, .nil, .nil, .nil, heats0_ok.1, .nil, Nat.zero_le _, Nat.zero_le _, Nat.zero_le _, Nat.zero_le _, by simp [St.zero]⟩
  refine ⟨hr, rfl, rfl, rfl, rfl, Nat.le_refl _, rfl, rfl, .inl ⟨rfl, rfl, ?_, (fun C h => absurd h List.not_mem_nil), ⟨fun lost n c w w' e => ns (List.getElem?_nil.symm.trans e), fun n c w w' e => ns (List.getElem?_nil.symm.trans e)⟩⟩⟩
  exact {
    room := hr
    known := ⟨by simp [St.zero], by simp [St.zero], by simp [St.zero, tget]⟩
    bes := by simp [St.zero]
    ber := by simp [St.zero]
    bse := by simp [St.zero]
    seen := Nat.le_refl _
    hh := by simp [St.zero]
    rows := by simp [St.zero]
    wat := fun l ns e => by simp [St.zero, tget] at e
    org := by simp [St.zero]
    low := by simp [St.zero]
    cause := by simp [St.zero]
    why := by simp [St.zero] }
theorem Dead.more {C C' : List (List Int)} (h : Dead C) (hs : ∀ x ∈ C, x ∈ C') : Dead C' := fun U s => h U fun x hx => s x (hs x hx)
theorem add_ok (hN : N ≤ 100) (hB : B ≤ 1000) {done : List (List Int)} (h : Built N B done σ) (hb : done.length < B) {xs : List Int} (hx : ∀ l ∈ xs, 1 ≤ l.natAbs ∧ l.natAbs ≤ N) :
    σ.back 0 = some σ ∧ ({ σ with ht := defHeats σ.ht xs } : St) = σ ∧ fit σ = true ∧ (Contra xs → Built N B (done ++ [xs]) σ) ∧ (¬ Contra xs → ∀ ys, OrdOf xs ys → Built N B (done ++ [xs]) (σ.addTo ys)) := by
  have sub : ∀ C ∈ done, C ∈ done ++ [xs] := fun C hC => List.mem_append.mpr (.inl hC)
  have len : done.length ≤ (done ++ [xs]).length := by simp
  have cov1 : ∀ {σ' : St}, Cover done σ' → Cov σ' xs → Cover (done ++ [xs]) σ' := fun {σ'} c d C hC => (List.mem_append.mp hC).elim (c C) fun q => List.mem_singleton.mp q ▸ d
  have keepB : (σ.ref = false → Inv N B done σ → Cov σ xs) → Built N B (done ++ [xs]) σ := fun cv => { h with
    rows := Nat.le_trans h.rows len
    way := h.way.imp (fun ⟨a, b, c, d, e⟩ => ⟨a, b, c.more sub, cov1 d (cv a c), e⟩) fun ⟨a, b, c⟩ => ⟨a, b, c.more sub⟩ }
  refine ⟨back_none (by rw [h.be]; exact Nat.zero_le _), ?_, h.room.fit hN hB, fun q => keepB fun _ _ => .con q, fun nc ys ho => ?_⟩
  · rw [defHeats_same]
    intro l hl
    rw [h.ht, heats0_ok.2 l.natAbs (by have := hx l hl; omega) (by have := hx l hl; omega)]
    rfl
  · unfold St.addTo
    by_cases c : σ.ref = true ∨ some true ∈ ys.map σ.says
    · rw [if_pos c]
      refine keepB fun hf I => ?_
      rcases c with c | c
      · exact ff (hf.symm.trans c)
      · obtain ⟨l, hl, el⟩ := List.mem_map.mp c
        have hx' := (ho.mem l).mp hl
        have l0 : l ≠ 0 := by have := hx l hx'; omega
        obtain ⟨i, hi⟩ := List.mem_iff_getElem?.mp ((I.known.says l0).1.mp el)
        exact .low hx' ⟨i, hi, by rw [h.be]; rfl⟩
    · rw [if_neg c]
      have cr : σ.ref = false := by cases q : σ.ref <;> simp_all
      have ct : some true ∉ ys.map σ.says := fun q => c (.inr q)
      rcases h.way with ⟨a1, a2, I, cv, F⟩ | ⟨a1, _⟩
      rotate_left
      · rw [cr] at a1; cases a1
      have I' : Inv N B (done ++ [xs]) σ := I.more sub
      have xsB : xs ∈ (done ++ [xs]) ++ σ.lg := by simp
      have z : ∀ l ∈ xs, l ≠ 0 := fun l hl => by have := hx l hl; omega
      have lows : ∀ l, -l ∈ σ.row → Forced ((done ++ [xs]) ++ σ.lg) (-l) := fun l hl => by
        obtain ⟨i, hi⟩ := List.mem_iff_getElem?.mp hl
        exact I'.low i _ hi (by rw [h.be]; rfl)
      have cases3 : ∀ l ∈ xs, l ∈ ys.filter (fun l => σ.says l == none) ∨ -l ∈ σ.row := fun l hl => by
        have hy := (ho.mem l).mpr hl
        cases q : σ.says l with
        | none => exact .inl (List.mem_filter.mpr ⟨hy, by simp [q]⟩)
        | some b =>
          cases b with
          | true => exact absurd (List.mem_map.mpr ⟨l, hy, q⟩) ct
          | false => exact .inr ((I.known.says (z l hl)).2.mp q)
      have fsub : ∀ l ∈ ys.filter (fun l => σ.says l == none), l ∈ xs ∧ l ∉ σ.row ∧ -l ∉ σ.row := fun l hl => by
        obtain ⟨a, b⟩ := List.mem_filter.mp hl
        have hl := (ho.mem l).mp a
        have := (I.known.says_none (z l hl)).mp (by simpa using b)
        exact ⟨hl, this.1, this.2⟩
      have fnd : (ys.filter (fun l => σ.says l == none)).Nodup := ho.nodup.sublist List.filter_sublist
      generalize ys.filter (fun l => σ.says l == none) = left at cases3 fsub fnd
      match left, cases3, fsub, fnd with
      | [], cases3, _, _ =>
        refine { h with
          rows := Nat.le_trans h.rows len
          room := { h.room with lg := by show (σ.lg ++ [[]]).length ≤ B; rw [a2]; simp; omega }
          way := .inr ⟨rfl, by show σ.lg ++ [[]] = [[]]; rw [a2]; rfl, fun U s => ?_⟩ }
        obtain ⟨l, hl, nl⟩ := (s xs (by simp)).1
        refine nl (lows l ((cases3 l hl).resolve_left (by simp)) U ?_)
        rw [a2, List.append_nil]; exact s
      | [l], cases3, fsub, _ =>
        obtain ⟨f1, f2, f3⟩ := fsub l (.head _)
        have I2 := let_ok I' (l := l) (o := none) (hx l f1) f2 f3 (fun _ U s => (s xs xsB).2 l f1 fun m hm ne => lows m ((cases3 m hm).resolve_left (by simp [ne])) U s) (fun q => absurd h.be q) (.inl rfl)
        have lowT : ∀ x, Low σ x → Low (σ.let' l none) x := fun x ⟨i, ei, li⟩ => ⟨i, by show (σ.row ++ [l])[i]? = _; rw [List.getElem?_append_left (List.getElem?_eq_some_iff.mp ei).1]; exact ei, li⟩
        exact { h with
          rows := Nat.le_trans h.rows len
          room := I2.room
          way := .inl ⟨a1, a2, I2, cov1 (fun C hC => (cv C hC).to lowT fun n c e => ⟨c, e, .refl _⟩) (.low f1 ⟨σ.row.length, by show (σ.row ++ [l])[_]? = _; rw [List.getElem?_append_right (Nat.le_refl _), Nat.sub_self]; rfl, by show lvl σ.be _ = 0; rw [h.be]; rfl⟩), F.att, fun n c w w' e p i hi => absurd hi (Nat.not_lt_zero _)⟩ }
      | a :: b :: r, cases3, fsub, fnd =>
        have G : GoodC N (a :: b :: r) := ⟨by simp, fnd, fun l hl => hx l (fsub l hl).1, fun l hl q => nc ⟨l, (fsub l hl).1, (fsub _ q).1⟩⟩
        have I2 := keep_ok I' G (by have := h.rows; omega) ⟨xs, xsB, fun l hl => (fsub l hl).1, fun l hl => (cases3 l hl).imp id fun q => lows l q⟩
        exact { h with
          room := I2.room
          rows := by show (σ.rows ++ [_]).length ≤ (done ++ [xs]).length; have := h.rows; simp; omega
          way := .inl ⟨a1, a2, I2, cov1 (fun C hC => (cv C hC).to (fun _ q => q) fun n c e => ⟨c, by show (σ.rows ++ _)[n]? = _; rw [List.getElem?_append_left (List.getElem?_eq_some_iff.mp e).1]; exact e, .refl _⟩) (.row (n := σ.rows.length) (c := a :: b :: r) (by show (σ.rows ++ _)[_]? = _; rw [List.getElem?_append_right (Nat.le_refl _), Nat.sub_self]; rfl) (fun l hl => (fsub l hl).1) fun l hl => (cases3 l hl).imp id fun q => by
            obtain ⟨i, hi⟩ := List.mem_iff_getElem?.mp q
            exact ⟨i, hi, by show lvl σ.be _ = 0; rw [h.be]; rfl⟩), keep_full F G.two fun l hl => (fsub l hl).2.2⟩ }
end
end Mini.C
end
section
namespace Mini.C
open Mini
inductive CloseR (cls : List (List Int)) (held : Int → Prop) : Option (List Int) → Prop
  | none (h : ∀ U : Int → Prop, (∀ l, held l → U l) → ¬ Shuts U cls) : CloseR cls held none
  | some {F : List Int} (nd : F.Nodup) (m : ∀ l, held l → l ∈ F) (s : Shuts (fun l => l ∈ F) cls) (u : ∀ U : Int → Prop, (∀ l, held l → U l) → Shuts U cls → ∀ l ∈ F, U l) : CloseR cls held (some F)
noncomputable def AtMost (σ : St) (k : Nat) (l : Int) : Prop := ∃ i, σ.row[i]? = some l ∧ lvl σ.be i ≤ k
section
variable {B : Nat} {cls : List (List Int)} {σ : St} {Fs : List (List Int)} {s : Nat} {N : Nat}
theorem sound (I : Inv N B cls σ) (hlg : σ.lg = []) {U : Int → Prop} (hs : Shuts U cls) (hd : ∀ i ∈ σ.be, ∀ l, σ.row[i]? = some l → U l) (i : Nat) : ∀ l, σ.row[i]? = some l → U l := by
  have hs' : Shuts U (cls ++ σ.lg) := by rw [hlg, List.append_nil]; exact hs
  induction i using Nat.strongRecOn with
  | ind i ih =>
    intro l e
    rcases Nat.eq_zero_or_pos (lvl σ.be i) with z | z
    · exact I.low i l e z U hs'
    · by_cases q : i ∈ σ.be
      · exact hd i q l e
      · obtain ⟨k, c, _, k2, k3, k4⟩ := I.cause i l e z q
        obtain ⟨C, hC, a, b⟩ := I.org c (List.mem_of_getElem? k2)
        refine (hs' C hC).2 l (a l k3) fun m hm ne => ?_
        rcases b m hm with w | w
        · obtain ⟨j, hj⟩ := List.mem_iff_getElem?.mp (k4 m w ne)
          rw [List.getElem?_take] at hj
          by_cases z : j < i
          · rw [if_pos z] at hj; exact ih j z _ hj
          · rw [if_neg z] at hj; exact ns hj
        · exact w U hs'
theorem row_shut (I : Inv N B cls σ) (F : Full σ σ.row.length) {n : Nat} {c : List Int} (e : σ.rows[n]? = some c) : Shut (fun l => l ∈ σ.row) c := by
  have G := I.rows c (List.mem_of_getElem? e)
  have h2 := G.two
  have m0 : nth c 0 ∈ c := nth_mem (by omega)
  have m1 : nth c 1 ∈ c := nth_mem (by omega)
  have n01 : nth c 0 ≠ nth c 1 := fun q => by have := nth_inj G.nodup (by omega) (by omega) q; omega
  have look : ∀ {w w'}, Pair c w w' → -w ∈ σ.row → w' ∈ σ.row := fun {w w'} p m => by
    obtain ⟨i, hi⟩ := List.mem_iff_getElem?.mp m
    obtain ⟨j, ej, _⟩ := F.wch n c w w' e p i (List.getElem?_eq_some_iff.mp hi).1 hi
    exact List.mem_of_getElem? ej
  refine ⟨?_, fun p hp ha => ?_⟩
  · by_cases q : -(nth c 0) ∈ σ.row
    · exact ⟨_, m1, fun m => I.known.not_both (look .one q) m⟩
    · exact ⟨_, m0, q⟩
  · by_cases q : nth c 0 = p
    · have z := look .two (ha _ m1 (q ▸ Ne.symm n01))
      exact q ▸ z
    · have z := look .one (ha _ m0 q)
      by_cases q1 : nth c 1 = p
      · exact q1 ▸ z
      · exact absurd (ha _ m1 q1) fun m => I.known.not_both z m
theorem closed (hz : ∀ C ∈ cls, ∀ l ∈ C, l ≠ 0) (I : Inv N B cls σ) (cv : Cover cls σ) (F : Full σ σ.row.length) : Shuts (fun l => l ∈ σ.row) cls := fun C hC => by
  have K := I.known
  have low : ∀ {l}, Low σ l → l ∈ σ.row := fun ⟨i, e, _⟩ => List.mem_of_getElem? e
  induction cv C hC with
  | con q =>
    obtain ⟨l, m, m'⟩ := q
    refine ⟨?_, fun p hp ha => ?_⟩
    · by_cases q : -l ∈ σ.row
      · exact ⟨_, m', fun z => by rw [Int.neg_neg] at z; exact K.not_both z q⟩
      · exact ⟨_, m, q⟩
    · by_cases q : l = p
      · subst q
        have z := ha _ m' fun q' => hz C hC l m (by omega)
        rw [Int.neg_neg] at z
        exact z
      · have z := ha l m q
        by_cases q' : -l = p
        · exact q' ▸ z
        · have z' := ha _ m' q'
          rw [Int.neg_neg] at z'
          exact absurd z fun z => K.not_both z' z
  | @low l m h =>
    have h := low h
    refine ⟨⟨_, m, fun z => K.not_both h z⟩, fun p hp ha => ?_⟩
    by_cases q : l = p
    · exact q ▸ h
    · exact absurd (ha l m q) fun z => K.not_both h z
  | @row n c e a r =>
    have S := row_shut I F e
    refine ⟨let ⟨l, m, n⟩ := S.1; ⟨l, a l m, n⟩, fun p hp ha => ?_⟩
    by_cases q : p ∈ c
    · exact S.2 p q fun l m ne => ha l (a l m) ne
    · obtain ⟨l, m, nl⟩ := S.1
      exact absurd (ha l (a l m) fun z => q (z ▸ m)) nl
structure Stand (B : Nat) (cls : List (List Int)) (σ : St) (Fs : List (List Int)) (s : Nat) : Prop where
  inv : Inv 6 B cls σ
  lg : σ.lg = []
  cov : Cover cls σ
  full : Full σ s
  top : ∀ b ∈ σ.be, b ≤ s
  lev : ∀ (k : Nat) (F : List Int), Fs[k]? = some F → F.Nodup ∧ ∀ l, l ∈ F ↔ AtMost σ k l
structure Quiet (B : Nat) (cls : List (List Int)) (σ : St) (Fs : List (List Int)) : Prop where
  st : Stand B cls σ Fs σ.row.length
  seen : σ.seen = σ.row.length
  len : Fs.length = σ.be.length + 1
theorem atMost_all {k : Nat} {l : Int} (hk : σ.be.length ≤ k) : AtMost σ k l ↔ l ∈ σ.row :=
  ⟨fun ⟨i, e, _⟩ => List.mem_of_getElem? e, fun m => let ⟨i, e⟩ := List.mem_iff_getElem?.mp m; ⟨i, e, Nat.le_trans lvl_le hk⟩⟩
theorem Quiet.last (q : Quiet B cls σ Fs) {F : List Int} (e : Fs[σ.be.length]? = some F) {l : Int} : l ∈ F ↔ l ∈ σ.row := ((q.st.lev _ F e).2 l).trans (atMost_all (Nat.le_refl _))
theorem lvl_push {be : List Nat} {n i : Nat} (h : i < n) : lvl (be ++ [n]) i = lvl be i := by
  unfold lvl
  rw [List.countP_append, List.countP_singleton, if_neg (by rw [decide_eq_true_iff]; exact Nat.not_le.mpr h), Nat.add_zero]
theorem full_to {σ' : St} (h : Full σ s) (hr : σ'.rows = σ.rows) (hw : σ'.wd = σ.wd) (hl : ∀ (i : Nat), i < s → ∀ j l, σ.row[j]? = some l → lvl σ.be j ≤ lvl σ.be i → σ'.row[j]? = some l ∧ lvl σ'.be j ≤ lvl σ'.be i) (he : ∀ (i : Nat) l, i < s → σ'.row[i]? = some l → σ.row[i]? = some l) : Full σ' s :=
  ⟨fun lost => by rw [hr, hw]; exact h.att lost, fun n c w w' e p i hi ei => by
    rw [hr] at e
    obtain ⟨j, ej, lj⟩ := h.wch n c w w' e p i hi (he i _ hi ei)
    exact ⟨j, hl i hi j _ ej lj⟩⟩
theorem Stand.back (hB : B ≤ 1000) (S : Stand B cls σ Fs s) {H n : Nat} (hH : σ.be[H]? = some n) (hF : H < Fs.length) : ∃ kn li, σ.back H = some { σ with row := σ.row.take n, kn := kn, li := li, be := σ.be.take H, seen := n } ∧
    Quiet B cls { σ with row := σ.row.take n, kn := kn, li := li, be := σ.be.take H, seen := n } (Fs.take (H + 1)) ∧ n ≤ σ.row.length ∧ (∀ v : Int, tget li v = if ∃ l ∈ σ.row.drop n, (l.natAbs : Int) = v then tget σ.kn v else tget σ.li v) := by
  obtain ⟨kn, li, e1, I, hn, e2⟩ := back_ok (by decide) hB S.inv hH
  have ln : (σ.row.take n).length = n := by rw [List.length_take]; exact Nat.min_eq_left hn
  have hlen := (List.getElem?_eq_some_iff.mp hH).1
  have old : ∀ (i : Nat) l, (σ.row.take n)[i]? = some l ↔ i < n ∧ σ.row[i]? = some l := fun i l => by
    rw [List.getElem?_take]
    by_cases q : i < n
    · rw [if_pos q]; exact ⟨fun e => ⟨q, e⟩, fun e => e.2⟩
    · rw [if_neg q]; exact ⟨ns, fun e => absurd e.1 q⟩
  have cut : ∀ {i}, i < n → lvl (σ.be.take H) i = lvl σ.be i := fun h => lvl_cut S.inv.bes hH h
  have keep : ∀ {i k : Nat}, lvl σ.be i ≤ k → k ≤ H → i < n := fun {i k} h hk => Nat.not_le.mp fun q => absurd (lvl_ge S.inv.bes hH q) (Nat.not_lt.mpr (Nat.le_trans h hk))
  have le_H : ∀ {i : Nat}, i < n → lvl σ.be i ≤ H := fun h => by
    rw [← cut h]
    exact Nat.le_trans lvl_le (by rw [List.length_take]; exact Nat.min_le_left ..)
  refine ⟨kn, li, e1, ⟨⟨I, S.lg, fun C hC => (S.cov C hC).to (fun l ⟨i, ei, li⟩ => ?_) fun n c e => ⟨c, e, .refl _⟩, ?_, I.ber, fun k F e => ?_⟩, ln.symm, ?_⟩, hn, e2⟩
  · have hi := keep (Nat.le_of_eq li) (Nat.zero_le _)
    exact ⟨i, (old i l).mpr ⟨hi, ei⟩, by show lvl (σ.be.take H) i = 0; rw [cut hi]; exact li⟩
  · show Full _ (σ.row.take n).length
    rw [ln]
    have F := S.full
    have ns' : n ≤ s := S.top n (List.mem_of_getElem? hH)
    refine full_to (σ := σ) ⟨F.att, fun n c w w' e p i hi => F.wch n c w w' e p i (Nat.lt_of_lt_of_le hi ns')⟩ rfl rfl (fun i hi j l ej lj => ?_) fun i l hi e => ((old i l).mp e).2
    have hj := keep lj (le_H hi)
    exact ⟨(old j l).mpr ⟨hj, ej⟩, by show lvl (σ.be.take H) j ≤ lvl (σ.be.take H) i; rw [cut hi, cut hj]; exact lj⟩
  · rw [List.getElem?_take] at e
    by_cases q : k < H + 1
    · rw [if_pos q] at e
      obtain ⟨nd, m⟩ := S.lev k F e
      refine ⟨nd, fun l => (m l).trans ⟨fun ⟨i, ei, li⟩ => ?_, fun ⟨i, ei, li⟩ => ?_⟩⟩
      · have hi := keep li (Nat.le_of_lt_succ q)
        exact ⟨i, (old i l).mpr ⟨hi, ei⟩, by show lvl (σ.be.take H) i ≤ k; rw [cut hi]; exact li⟩
      · obtain ⟨hi, ei⟩ := (old i l).mp ei
        have li : lvl (σ.be.take H) i ≤ k := li
        rw [cut hi] at li
        exact ⟨i, ei, li⟩
    · rw [if_neg q] at e; exact ns e
  · show (Fs.take (H + 1)).length = (σ.be.take H).length + 1
    rw [List.length_take, List.length_take, Nat.min_eq_left hF, Nat.min_eq_left (Nat.le_of_lt hlen)]
end
end Mini.C
end
section
namespace Mini.C
open Mini
section
variable {B : Nat} {cls : List (List Int)} {σ : St} {Fs : List (List Int)} {s : Nat} {N : Nat}
inductive Begun (B : Nat) (cls : List (List Int)) (Fs : List (List Int)) (r : Int) (σ' : St) : Option (List Int) → Prop
  | well {F : List Int} (e : r = -1) (q : Quiet B cls σ' (Fs ++ [F])) : Begun B cls Fs r σ' (some F)
  | clash {n s : Nat} {c : List Int} (e : r = (n : Int)) (hr : σ'.rows[n]? = some c) (hf : ∀ m ∈ c, -m ∈ σ'.row) (st : Stand B cls σ' Fs s) (len : σ'.be.length = Fs.length) : Begun B cls Fs r σ' none
theorem low_kin {σ' : St} (k : Kin σ σ') (l : Int) (h : Low σ l) : Low σ' l := by
  obtain ⟨i, e, z⟩ := h
  obtain ⟨ext, hx⟩ := k.row
  exact ⟨i, by rw [hx, List.getElem?_append_left (List.getElem?_eq_some_iff.mp e).1]; exact e, by rw [k.be]; exact z⟩
theorem no_shut (I : Inv N B cls σ) (hlg : σ.lg = []) {n : Nat} {c : List Int} (hr : σ.rows[n]? = some c) (hf : ∀ m ∈ c, -m ∈ σ.row) {U : Int → Prop} (hs : Shuts U cls) (sub : ∀ l ∈ σ.row, U l) : False := by
  obtain ⟨C, hC, a, b⟩ := I.org c (List.mem_of_getElem? hr)
  have hs' : Shuts U (cls ++ σ.lg) := by rw [hlg, List.append_nil]; exact hs
  obtain ⟨l, hl, nl⟩ := (hs' C hC).1
  exact (b l hl).elim (fun q => nl (sub _ (hf l q))) fun q => nl (q U hs')
theorem Quiet.begin (hB : B ≤ 1000) (hz : ∀ C ∈ cls, ∀ l ∈ C, l ≠ 0) (q : Quiet B cls σ Fs) (hb : σ.be.length < B) {F0 : List Int} (e0 : Fs[σ.be.length]? = some F0) {l : Int} (hl : 1 ≤ l.natAbs ∧ l.natAbs ≤ 6) (h1 : l ∉ σ.row) (h2 : -l ∉ σ.row) : ∃ r σ', spreadF 6 (σ.level.let' l none) = some (r, σ') ∧ σ'.li = σ.li ∧ Inv 6 B cls (σ.level.let' l none) ∧ σ'.be.length = σ.be.length + 1 ∧ ∀ due, CloseR cls (fun x => x ∈ F0 ∨ x = l) due → Begun B cls Fs r σ' due := by
  have I := q.st.inv
  have I1 := level_ok I q.seen hb
  have I2 := let_ok I1 (l := l) (o := none) hl h1 h2 (fun z => absurd z (List.append_ne_nil_of_right_ne_nil _ (List.cons_ne_nil _ _))) (fun _ z => absurd (List.mem_append.mpr (.inr (List.mem_singleton_self _))) z) (.inl rfl)
  have lvp : ∀ {i}, i < σ.row.length → lvl (σ.be ++ [σ.row.length]) i = lvl σ.be i := fun h => lvl_push h
  have F1 : Full (σ.level.let' l none) (σ.level.let' l none).seen := by
    show Full (σ.level.let' l none) σ.seen
    rw [q.seen]
    refine full_to q.st.full rfl rfl (fun i hi j x ej lj => ?_) fun i x hi e => ?_
    · have hj := (List.getElem?_eq_some_iff.mp ej).1
      exact ⟨by show (σ.row ++ [l])[j]? = _; rw [List.getElem?_append_left hj]; exact ej, by show lvl (σ.be ++ [σ.row.length]) j ≤ lvl (σ.be ++ [σ.row.length]) i; rw [lvp hj, lvp hi]; exact lj⟩
    · have e : (σ.row ++ [l])[i]? = some x := e
      rwa [List.getElem?_append_left hi] at e
  obtain ⟨r, σ', e1, I', kin, ⟨s, Fu, top, hs⟩, alt⟩ := spreadF_ok (by decide) hB (k := 6) I2 F1 (Nat.le_add_right _ _)
  have hbe : σ'.be = σ.be ++ [σ.row.length] := kin.be
  obtain ⟨ext, hx⟩ := kin.row
  have hrow : σ'.row = σ.row ++ l :: ext := by rw [hx]; show σ.row ++ [l] ++ ext = _; rw [List.append_assoc]; rfl
  have hlg : σ'.lg = [] := kin.lg.trans q.st.lg
  have at_old : ∀ {i}, i < σ.row.length → σ'.row[i]? = σ.row[i]? := fun h => by rw [hrow, List.getElem?_append_left h]
  have at_l : σ'.row[σ.row.length]? = some l := by rw [hrow, List.getElem?_append_right (Nat.le_refl _), Nat.sub_self]; rfl
  have hlen : σ'.be.length = σ.be.length + 1 := by rw [hbe, List.length_append]; rfl
  have same : ∀ k, k ≤ σ.be.length → ∀ x, AtMost σ k x ↔ AtMost σ' k x := fun k hk x => by
    refine ⟨fun ⟨i, ei, li⟩ => ?_, fun ⟨i, ei, li⟩ => ?_⟩
    · have hi := (List.getElem?_eq_some_iff.mp ei).1
      exact ⟨i, (at_old hi).trans ei, by rw [hbe, lvp hi]; exact li⟩
    · rw [hbe] at li
      by_cases hi : i < σ.row.length
      · rw [lvp hi] at li
        exact ⟨i, (at_old hi).symm.trans ei, li⟩
      · have : lvl (σ.be ++ [σ.row.length]) i = (σ.be ++ [σ.row.length]).length := lvl_all fun b hb => Nat.le_trans ((List.mem_append.mp hb).elim (I.ber b) fun z => Nat.le_of_eq (List.mem_singleton.mp z)) (Nat.not_lt.mp hi)
        rw [this, List.length_append] at li
        exact absurd hk (Nat.not_le.mpr li)
  have cov : Cover cls σ' := fun C hC => by
    have c1 : Cov (σ.level.let' l none) C := (q.st.cov C hC).to (fun x ⟨i, ei, li⟩ => by
      have hi := (List.getElem?_eq_some_iff.mp ei).1
      exact ⟨i, by show (σ.row ++ [l])[i]? = _; rw [List.getElem?_append_left hi]; exact ei, by show lvl (σ.be ++ [σ.row.length]) i = 0; rw [lvp hi]; exact li⟩) fun n c e => ⟨c, e, .refl _⟩
    exact c1.to (low_kin kin) kin.prm
  have lev : ∀ (k : Nat) (F : List Int), Fs[k]? = some F → F.Nodup ∧ ∀ x, x ∈ F ↔ AtMost σ' k x := fun k F e => by
    have hk : k ≤ σ.be.length := Nat.le_of_lt_succ (Nat.lt_of_lt_of_le (List.getElem?_eq_some_iff.mp e).1 (Nat.le_of_eq q.len))
    exact ⟨(q.st.lev k F e).1, fun x => ((q.st.lev k F e).2 x).trans (same k hk x)⟩
  have st : Stand B cls σ' Fs s := ⟨I', hlg, cov, Fu, top, lev⟩
  have down : ∀ {U : Int → Prop}, (∀ x, x ∈ F0 ∨ x = l → U x) → Shuts U cls → ∀ x ∈ σ'.row, U x := fun {U} hU hs x m => by
    obtain ⟨i, hi⟩ := List.mem_iff_getElem?.mp m
    refine sound I' hlg hs (fun j hj y ey => ?_) i x hi
    rw [hbe] at hj
    have hjl : j ≤ σ.row.length := (List.mem_append.mp hj).elim (I.ber j) fun z => Nat.le_of_eq (List.mem_singleton.mp z)
    rcases Nat.lt_or_ge j σ.row.length with z | z
    · rw [at_old z] at ey
      exact hU y (.inl ((q.last e0).mpr (List.mem_of_getElem? ey)))
    · obtain rfl := Nat.le_antisymm hjl z
      exact hU y (.inr (Option.some.inj (ey.symm.trans at_l)))
  have up : ∀ x, x ∈ F0 ∨ x = l → x ∈ σ'.row := fun x hx => by
    rw [hrow]
    exact hx.elim (fun m => List.mem_append.mpr (.inl ((q.last e0).mp m))) fun e => List.mem_append.mpr (.inr (e ▸ List.mem_cons_self))
  refine ⟨r, σ', e1, kin.li, I2, hlen, fun due hc => ?_⟩
  rcases alt with ⟨er, es⟩ | ⟨n, er, c, hr, hf, _⟩
  · have hs := hs er
    have Fu' : Full σ' σ'.row.length := by rw [← es, ← hs]; exact Fu
    have shut := closed hz I' cov Fu'
    cases hc with
    | none h => exact absurd shut (h _ up)
    | @some F nd m sh u =>
      refine .well er ⟨⟨I', hlg, cov, Fu', I'.ber, fun k G e => ?_⟩, es, by rw [List.length_append, hlen, q.len]; rfl⟩
      rcases Nat.lt_or_ge k Fs.length with z | z
      · rw [List.getElem?_append_left z] at e; exact lev k G e
      · rw [List.getElem?_append_right z] at e
        have z0 : k - Fs.length = 0 := Nat.lt_one_iff.mp (List.getElem?_eq_some_iff.mp e).1
        rw [z0] at e
        obtain rfl := Option.some.inj e
        have hk : σ'.be.length ≤ k := by rw [hlen, ← q.len]; exact z
        exact ⟨nd, fun x => Iff.trans ⟨fun mx => u _ up shut x mx, fun mx => down (fun y hy => m y hy) sh x mx⟩ (atMost_all hk).symm⟩
  · cases hc with
    | none h => exact .clash er hr hf st (by rw [hlen, q.len])
    | @some F nd m sh u => exact (no_shut I' hlg hr hf sh (down (fun y hy => m y hy) sh)).elim
theorem Quiet.none (q : Quiet B cls σ Fs) (hb : σ.be.length < B) {F0 : List Int} (e0 : Fs[σ.be.length]? = some F0) : Quiet B cls σ.level (Fs ++ [F0]) := by
  have I := q.st.inv
  have lvp : ∀ {i}, i < σ.row.length → lvl (σ.be ++ [σ.row.length]) i = lvl σ.be i := fun h => lvl_push h
  have lt : ∀ {i l}, σ.row[i]? = some l → i < σ.row.length := fun e => (List.getElem?_eq_some_iff.mp e).1
  have I1 := level_ok I q.seen hb
  refine ⟨⟨I1, q.st.lg, fun C hC => (q.st.cov C hC).to (fun x ⟨i, ei, li⟩ => ⟨i, ei, by show lvl (σ.be ++ [σ.row.length]) i = 0; rw [lvp (lt ei)]; exact li⟩) fun n c e => ⟨c, e, .refl _⟩, ?_, I1.ber, fun k G e => ?_⟩, q.seen, by rw [List.length_append, q.len]; show _ = (σ.be ++ [_]).length + 1; rw [List.length_append]; rfl⟩
  · exact full_to q.st.full rfl rfl (fun i hi j x ej lj => ⟨ej, by show lvl (σ.be ++ [σ.row.length]) j ≤ lvl (σ.be ++ [σ.row.length]) i; rw [lvp (lt ej), lvp hi]; exact lj⟩) fun i x hi e => e
  · have same : ∀ k x, AtMost σ k x ↔ AtMost σ.level k x := fun k x => ⟨fun ⟨i, ei, li⟩ => ⟨i, ei, by show lvl (σ.be ++ [σ.row.length]) i ≤ k; rw [lvp (lt ei)]; exact li⟩, fun ⟨i, ei, li⟩ => ⟨i, ei, by have li : lvl (σ.be ++ [σ.row.length]) i ≤ k := li; rw [lvp (lt ei)] at li; exact li⟩⟩
    rcases Nat.lt_or_ge k Fs.length with z | z
    · rw [List.getElem?_append_left z] at e
      exact ⟨(q.st.lev k G e).1, fun x => ((q.st.lev k G e).2 x).trans (same k x)⟩
    · rw [List.getElem?_append_right z] at e
      have z0 : k - Fs.length = 0 := Nat.lt_one_iff.mp (List.getElem?_eq_some_iff.mp e).1
      rw [z0] at e
      obtain rfl := Option.some.inj e
      have hk : σ.level.be.length ≤ k := by show (σ.be ++ [_]).length ≤ k; rw [List.length_append, show σ.be.length + [σ.row.length].length = Fs.length from q.len.symm]; exact z
      exact ⟨(q.st.lev _ F0 e0).1, fun x => (q.last e0).trans (atMost_all hk).symm⟩
theorem bottom (hB : B ≤ 1000) (hz : ∀ C ∈ cls, ∀ l ∈ C, l ≠ 0) (h : Built 6 B cls σ) {due : Option (List Int)} (hc : CloseR cls (fun _ => False) due) : (σ.ref = true → due = none) ∧
    (σ.ref = false → ∃ r σ', spreadF 6 σ = some (r, σ') ∧ σ'.li = [] ∧ Begun B cls [] r σ' due) := by
  have inc : Dead cls → due = none := fun d => by
    cases hc with
    | none h => rfl
    | some nd m sh u => exact (d _ sh).elim
  rcases h.way with ⟨a1, a2, I, cv, F⟩ | ⟨a1, a2, d⟩
  · refine ⟨fun z => ff (a1.symm.trans z), fun _ => ?_⟩
    obtain ⟨r, σ', e1, I', kin, ⟨s, Fu, top, hs⟩, alt⟩ := spreadF_ok (by decide) hB (k := 6) I (by rw [h.seen]; exact F) (Nat.le_add_right _ _)
    have hbe : σ'.be = [] := kin.be.trans h.be
    have hlg : σ'.lg = [] := kin.lg.trans a2
    have cov : Cover cls σ' := fun C hC => (cv C hC).to (low_kin kin) kin.prm
    have down : ∀ {U : Int → Prop}, Shuts U cls → ∀ x ∈ σ'.row, U x := fun {U} hs x m => by
      obtain ⟨i, hi⟩ := List.mem_iff_getElem?.mp m
      exact sound I' hlg hs (fun j hj => by rw [hbe] at hj; exact absurd hj List.not_mem_nil) i x hi
    refine ⟨r, σ', e1, kin.li.trans h.li, ?_⟩
    rcases alt with ⟨er, es⟩ | ⟨n, er, c, hr, hf, _⟩
    · have hs := hs er
      have Fu' : Full σ' σ'.row.length := by rw [← es, ← hs]; exact Fu
      have shut := closed hz I' cov Fu'
      cases hc with
      | none h => exact absurd shut (h _ fun _ => False.elim)
      | @some F nd m sh u =>
        refine .well er ⟨⟨I', hlg, cov, Fu', I'.ber, fun k G e => ?_⟩, es, by rw [hbe]; rfl⟩
        rcases k with _ | k
        · obtain rfl := Option.some.inj e
          exact ⟨nd, fun x => Iff.trans ⟨fun mx => u _ (fun _ => False.elim) shut x mx, fun mx => down sh x mx⟩ (atMost_all (by rw [hbe]; exact Nat.le_refl _)).symm⟩
        · exact nomatch (show ([] : List (List Int))[k]? = some G from e)
    · cases hc with
      | none h => exact .clash er hr hf ⟨I', hlg, cov, Fu, top, fun k F e => ns (List.getElem?_nil.symm.trans e)⟩ (by rw [hbe]; rfl)
      | @some F nd m sh u => exact (no_shut I' hlg hr hf sh (down sh)).elim
  · exact ⟨fun _ => inc d, fun z => ff (z.symm.trans a1)⟩
end
end Mini.C
end
section
namespace Mini.T01
open PySem Mini
noncomputable def f__law_draw : MFn := ⟨2, none,
    (.cons (.assign (.var 2) (.sub (.var 0) (.str 35)))
    (.cons (.assign (.sub (.var 0) (.str 35)) (.bin .add (.var 2) (.int 1)))
    (.cons (.ite (.cmp .lt (.var 2) (.callB .len (.cons (.sub (.var 0) (.str 6)) .nil))) (.cons (.ret (.bin .mod (.sub (.sub (.var 0) (.str 6)) (.var 2)) (.var 1)))
    .nil) .nil)
    (.cons (.ret (.bin .mod (.bin .mod (.bin .add (.bin .add (.bin .mul (.bin .mul (.int 3) (.var 2)) (.var 2)) (.bin .mul (.int 13) (.var 2))) (.int 5)) (.int 71)) (.var 1)))
    .nil))))⟩
noncomputable def v__law_draw : List (Str × Nat) := [(Str.ofString "feed", 0), (Str.ofString "wide", 1), (Str.ofString "turn", 2)]
noncomputable def f__law_clauses : MFn := ⟨1, none,
    (.cons (.assign (.var 1) (.list .nil))
    (.cons (.for 2 (.callB .range1 (.cons (.bin .add (.int 3) (.callF 1 (.cons (.var 0) (.cons (.int 5) .nil)))) .nil)) (.cons (.assign (.var 3) (.list .nil))
    (.cons (.for 4 (.callB .range1 (.cons (.sub (.tup (.cons (.int 2) (.cons (.int 2) (.cons (.int 3) (.cons (.int 1) .nil))))) (.callF 1 (.cons (.var 0) (.cons (.int 4) .nil)))) .nil)) (.cons (.assign (.var 5) (.bin .add (.int 1) (.callF 1 (.cons (.var 0) (.cons (.int 6) .nil)))))
    (.cons (.expr (.callM (.var 3) 0 (.cons (.ite (.cmp .eq (.callF 1 (.cons (.var 0) (.cons (.int 2) .nil))) (.int 0)) (.var 5) (.bin .sub (.int 0) (.var 5))) .nil)))
    .nil)))
    (.cons (.expr (.callM (.var 1) 0 (.cons (.callB .tuple (.cons (.var 3) .nil)) .nil)))
    .nil))))
    (.cons (.ret (.var 1))
    .nil)))⟩
noncomputable def v__law_clauses : List (Str × Nat) := [(Str.ofString "feed", 0), (Str.ofString "found", 1), (Str.ofString "lap", 2), (Str.ofString "some", 3), (Str.ofString "place", 4), (Str.ofString "v", 5)]
noncomputable def f__law_closed : MFn := ⟨2, none,
    (.cons (.assigns [(.var 2), (.var 3)] (.cons (.callB .set (.cons (.var 1) .nil)) (.cons (.bool true) .nil)))
    (.cons (.while (.var 3) (.cons (.assign (.var 3) (.bool false))
    (.cons (.for 4 (.var 0) (.cons (.assign (.var 5) (.callB .set (.cons (.comp (.var 6) 6 (.var 4) (.cons (.cmp .notin (.neg (.var 6)) (.var 2)) .nil)) .nil)))
    (.cons (.ite (.cmp .eq (.var 5) (.callB .set .nil)) (.cons (.ret .none)
    .nil) .nil)
    (.cons (.ite (.and (.cons (.cmp .eq (.callB .len (.cons (.var 5) .nil)) (.int 1)) (.cons (.not (.cmp .le (.var 5) (.var 2))) (.cons (.cmp .notin (.neg (.callB .max (.cons (.var 5) .nil))) (.var 4)) .nil)))) (.cons (.assigns [(.var 2), (.var 3)] (.cons (.bin .bor (.var 2) (.var 5)) (.cons (.bool true) .nil)))
    .nil) .nil)
    .nil))))
    .nil)))
    (.cons (.ret (.var 2))
    .nil)))⟩
noncomputable def v__law_closed : List (Str × Nat) := [(Str.ofString "clauses", 0), (Str.ofString "held", 1), (Str.ofString "found", 2), (Str.ofString "is_more", 3), (Str.ofString "clause", 4), (Str.ofString "left", 5)]
noncomputable def f__law_is_cause : MFn := ⟨2, none,
    (.cons (.assigns [(.var 2), (.var 3)] (.cons (.sub (.attr (.var 0) 8) (.var 1)) (.cons (.sliceTo (.attr (.var 0) 8) (.var 1)) .nil)))
    (.cons (.assign (.var 4) (.sub (.attr (.var 0) 19) (.callB .abs (.cons (.var 2) .nil))))
    (.cons (.ite (.cmp .is (.var 4) .none) (.cons (.ret (.bool true))
    .nil) .nil)
    (.cons (.assign (.var 5) (.sub (.attr (.var 0) 22) (.var 4)))
    (.cons (.ret (.and (.cons (.cmp .isin (.var 2) (.var 5)) (.cons (.cmp .eq (.comp (.var 6) 6 (.var 5) (.cons (.and (.cons (.cmp .ne (.var 6) (.var 2)) (.cons (.cmp .notin (.neg (.var 6)) (.var 3)) .nil))) .nil)) (.list .nil)) .nil))))
    .nil)))))⟩
noncomputable def v__law_is_cause : List (Str × Nat) := [(Str.ofString "search", 0), (Str.ofString "place", 1), (Str.ofString "literal", 2), (Str.ofString "ahead_row", 3), (Str.ofString "number", 4), (Str.ofString "some", 5)]
noncomputable def f__law_is_right : MFn := ⟨2, none,
    (.cons (.assigns [(.var 2), (.var 3)] (.cons (.sub (.var 1) (.str 36)) (.cons (.attr (.var 0) 8) .nil)))
    (.cons (.assign (.var 4) (.bin .cat (.callB .list (.cons (.attr (.var 0) 7) .nil)) (.list (.cons (.callB .len (.cons (.var 3) .nil)) .nil))))
    (.cons (.ite (.or (.cons (.cmp .ne (.callB .len (.cons (.var 4) .nil)) (.callB .len (.cons (.var 2) .nil))) (.cons (.cmp .ne (.attr (.var 0) 20) (.callB .len (.cons (.var 3) .nil))) (.cons (.cmp .ne (.attr (.var 0) 21) (.sub (.var 1) (.str 21))) .nil)))) (.cons (.ret (.bool false))
    .nil) .nil)
    (.cons (.assigns [(.var 5), (.var 6)] (.cons (.int 0) (.cons (.callB .set .nil) .nil)))
    (.cons (.forE 7 8 (.var 2) (.cons (.assign (.var 9) (.slice (.var 3) (.var 5) (.sub (.var 4) (.var 7))))
    (.cons (.ite (.or (.cons (.cmp .ne (.callB .set (.cons (.var 9) .nil)) (.bin .diff (.var 8) (.var 6))) (.cons (.cmp .ne (.callB .len (.cons (.var 9) .nil)) (.callB .len (.cons (.callB .set (.cons (.var 9) .nil)) .nil))) .nil))) (.cons (.ret (.bool false))
    .nil) .nil)
    (.cons (.ite (.cmp .ne (.comp (.var 12) 12 (.var 9) (.cons (.cmp .ne (.sub (.attr (.var 0) 9) (.callB .abs (.cons (.var 12) .nil))) (.var 7)) .nil)) (.list .nil)) (.cons (.ret (.bool false))
    .nil) .nil)
    (.cons (.assigns [(.var 5), (.var 6)] (.cons (.sub (.var 4) (.var 7)) (.cons (.var 8) .nil)))
    .nil)))))
    (.cons (.for 10 (.callB .range2 (.cons (.int 1) (.cons (.int 7) .nil))) (.cons (.assign (.var 11) (.ite (.cmp .isin (.var 10) (.var 6)) (.bool true) (.ite (.cmp .isin (.neg (.var 10)) (.var 6)) (.bool false) .none)))
    (.cons (.ite (.or (.cons (.cmp .isnot (.callM (.var 0) 15 (.cons (.var 10) .nil)) (.var 11)) (.cons (.cmp .isnot (.callM (.var 0) 15 (.cons (.neg (.var 10)) .nil)) (.ite (.cmp .is (.var 11) .none) .none (.not (.var 11)))) .nil))) (.cons (.ret (.bool false))
    .nil) .nil)
    .nil)))
    (.cons (.ret (.cmp .eq (.comp (.var 13) 13 (.callB .range1 (.cons (.callB .len (.cons (.var 3) .nil)) .nil)) (.cons (.not (.callF 4 (.cons (.var 0) (.cons (.var 13) .nil)))) .nil)) (.list .nil)))
    .nil)))))))⟩
noncomputable def v__law_is_right : List (Str × Nat) := [(Str.ofString "search", 0), (Str.ofString "world", 1), (Str.ofString "levels", 2), (Str.ofString "row", 3), (Str.ofString "ends", 4), (Str.ofString "begin", 5), (Str.ofString "elder", 6), (Str.ofString "height", 7), (Str.ofString "some", 8), (Str.ofString "lot", 9), (Str.ofString "v", 10), (Str.ofString "due", 11)]
noncomputable def f__law_back : MFn := ⟨3, none,
    (.cons (.assigns [(.var 3), (.var 4)] (.cons (.bin .sub (.callB .len (.cons (.sub (.var 1) (.str 36)) .nil)) (.int 1)) (.cons (.callB .list (.cons (.attr (.var 0) 8) .nil)) .nil)))
    (.cons (.assign (.var 5) (.callB .list (.cons (.attr (.var 0) 7) .nil)))
    (.cons (.expr (.callM (.var 0) 29 (.cons (.var 2) .nil)))
    (.cons (.ite (.cmp .lt (.var 2) (.var 3)) (.cons (.for 6 (.sliceFrom (.var 4) (.sub (.var 5) (.var 2))) (.cons (.assign (.sub (.sub (.var 1) (.str 21)) (.callB .abs (.cons (.var 6) .nil))) (.cmp .gt (.var 6) (.int 0)))
    .nil))
    (.cons (.assign (.sub (.var 1) (.str 36)) (.sliceTo (.sub (.var 1) (.str 36)) (.bin .add (.var 2) (.int 1))))
    .nil)) .nil)
    (.cons (.ret (.and (.cons (.callF 5 (.cons (.var 0) (.cons (.var 1) .nil))) (.cons (.cmp .eq (.callM (.var 0) 16 .nil) (.neg (.int 1))) (.cons (.callF 5 (.cons (.var 0) (.cons (.var 1) .nil))) .nil)))))
    .nil)))))⟩
noncomputable def v__law_back : List (Str × Nat) := [(Str.ofString "search", 0), (Str.ofString "world", 1), (Str.ofString "height", 2), (Str.ofString "last", 3), (Str.ofString "row", 4), (Str.ofString "begins", 5), (Str.ofString "literal", 6)]
noncomputable def f__law_begin : MFn := ⟨4, none,
    (.cons (.assign (.var 4) (.sub (.sub (.var 2) (.str 36)) (.neg (.int 1))))
    (.cons (.assign (.var 5) (.comp (.var 10) 10 (.callB .range2 (.cons (.int 1) (.cons (.int 7) .nil))) (.cons (.and (.cons (.cmp .notin (.var 10) (.var 4)) (.cons (.cmp .notin (.neg (.var 10)) (.var 4)) .nil))) .nil)))
    (.cons (.ite (.cmp .eq (.var 5) (.list .nil)) (.cons (.ret (.bool true))
    .nil) .nil)
    (.cons (.assign (.var 6) (.sub (.var 5) (.callF 1 (.cons (.var 0) (.cons (.callB .len (.cons (.var 5) .nil)) .nil)))))
    (.cons (.assign (.var 7) (.ite (.cmp .eq (.callF 1 (.cons (.var 0) (.cons (.int 2) .nil))) (.int 0)) (.var 6) (.bin .sub (.int 0) (.var 6))))
    (.cons (.expr (.callM (.attr (.var 1) 7) 0 (.cons (.callB .len (.cons (.attr (.var 1) 8) .nil)) .nil)))
    (.cons (.expr (.callM (.var 1) 17 (.cons (.var 7) (.cons .none .nil))))
    (.cons (.assigns [(.var 8), (.var 9)] (.cons (.callM (.var 1) 16 .nil) (.cons (.callF 3 (.cons (.var 3) (.cons (.bin .bor (.var 4) (.callB .set (.cons (.list (.cons (.var 7) .nil)) .nil))) .nil))) .nil)))
    (.cons (.ite (.cmp .isnot (.var 9) .none) (.cons (.expr (.callM (.sub (.var 2) (.str 36)) 0 (.cons (.var 9) .nil)))
    (.cons (.ret (.and (.cons (.cmp .eq (.var 8) (.neg (.int 1))) (.cons (.callF 5 (.cons (.var 1) (.cons (.var 2) .nil))) .nil))))
    .nil)) .nil)
    (.cons (.ite (.or (.cons (.cmp .lt (.var 8) (.int 0)) (.cons (.cmp .ne (.comp (.var 11) 11 (.sub (.attr (.var 1) 22) (.var 8)) (.cons (.cmp .isnot (.callM (.var 1) 15 (.cons (.var 11) .nil)) (.bool false)) .nil)) (.list .nil)) .nil))) (.cons (.ret (.bool false))
    .nil) .nil)
    (.cons (.expr (.callM (.sub (.var 2) (.str 36)) 0 (.cons .none .nil)))
    (.cons (.ret (.callF 6 (.cons (.var 1) (.cons (.var 2) (.cons (.callF 1 (.cons (.var 0) (.cons (.bin .sub (.callB .len (.cons (.sub (.var 2) (.str 36)) .nil)) (.int 1)) .nil))) .nil)))))
    .nil))))))))))))⟩
noncomputable def v__law_begin : List (Str × Nat) := [(Str.ofString "feed", 0), (Str.ofString "search", 1), (Str.ofString "world", 2), (Str.ofString "clauses", 3), (Str.ofString "elder", 4), (Str.ofString "some", 5), (Str.ofString "v", 6), (Str.ofString "literal", 7), (Str.ofString "number", 8), (Str.ofString "due", 9)]
noncomputable def f__law_deed : MFn := ⟨4, none,
    (.cons (.assigns [(.var 4), (.var 5)] (.cons (.callF 1 (.cons (.var 0) (.cons (.int 5) .nil))) (.cons (.bin .sub (.callB .len (.cons (.sub (.var 2) (.str 36)) .nil)) (.int 1)) .nil)))
    (.cons (.ite (.cmp .lt (.var 4) (.int 3)) (.cons (.ret (.callF 7 (.cons (.var 0) (.cons (.var 1) (.cons (.var 2) (.cons (.var 3) .nil))))))
    .nil) .nil)
    (.cons (.ite (.cmp .eq (.var 4) (.int 3)) (.cons (.assign (.var 6) (.sub (.tup (.cons (.int 0) (.cons (.bin .sub (.var 5) (.int 1)) (.cons (.bin .sub (.var 5) (.int 2)) (.cons (.var 5) (.cons (.bin .add (.var 5) (.int 1)) (.cons (.callF 1 (.cons (.var 0) (.cons (.int 9) .nil))) .nil))))))) (.callF 1 (.cons (.var 0) (.cons (.int 6) .nil)))))
    (.cons (.ret (.callF 6 (.cons (.var 1) (.cons (.var 2) (.cons (.callB .max (.cons (.var 6) (.cons (.int 0) .nil))) .nil)))))
    .nil)) .nil)
    (.cons (.expr (.callM (.attr (.var 1) 7) 0 (.cons (.callB .len (.cons (.attr (.var 1) 8) .nil)) .nil)))
    (.cons (.expr (.callM (.sub (.var 2) (.str 36)) 0 (.cons (.sub (.sub (.var 2) (.str 36)) (.neg (.int 1))) .nil)))
    (.cons (.ret (.and (.cons (.cmp .eq (.callM (.var 1) 16 .nil) (.neg (.int 1))) (.cons (.callF 5 (.cons (.var 1) (.cons (.var 2) .nil))) .nil))))
    .nil))))))⟩
noncomputable def v__law_deed : List (Str × Nat) := [(Str.ofString "feed", 0), (Str.ofString "search", 1), (Str.ofString "world", 2), (Str.ofString "clauses", 3), (Str.ofString "way", 4), (Str.ofString "last", 5), (Str.ofString "height", 6)]
noncomputable def f_law : MFn := ⟨1, none,
    (.cons (.assign (.var 1) (.dict2 6 (.comp (.bin .mod (.callB .int (.cons (.var 7) .nil)) (.int 1000003)) 7 (.sliceTo (.var 0) (.int 60)) .nil) 35 (.int 0)))
    (.cons (.assign (.var 2) (.callF 2 (.cons (.var 1) .nil)))
    (.cons (.assigns [(.var 3), (.var 4)] (.cons (.new (.cons (.var 2) (.cons (.int 6) .nil))) (.cons (.callF 3 (.cons (.var 2) (.cons (.list .nil) .nil))) .nil)))
    (.cons (.ite (.or (.cons (.cmp .is (.var 4) .none) (.cons (.attr (.var 3) 13) .nil))) (.cons (.ret (.and (.cons (.cmp .is (.var 4) .none) (.cons (.or (.cons (.attr (.var 3) 13) (.cons (.cmp .ge (.callM (.var 3) 16 .nil) (.int 0)) .nil))) .nil))))
    .nil) .nil)
    (.cons (.assign (.var 5) (.dict2 36 (.list (.cons (.var 4) .nil)) 21 .dict0))
    (.cons (.ite (.or (.cons (.cmp .ne (.callM (.var 3) 16 .nil) (.neg (.int 1))) (.cons (.not (.callF 5 (.cons (.var 3) (.cons (.var 5) .nil)))) .nil))) (.cons (.ret (.bool false))
    .nil) .nil)
    (.cons (.for 6 (.callB .range1 (.cons (.bin .add (.int 10) (.callF 1 (.cons (.var 1) (.cons (.int 7) .nil)))) .nil)) (.cons (.ite (.not (.callF 8 (.cons (.var 1) (.cons (.var 3) (.cons (.var 5) (.cons (.var 2) .nil)))))) (.cons (.ret (.bool false))
    .nil) .nil)
    .nil))
    (.cons (.ret (.and (.cons (.callF 6 (.cons (.var 3) (.cons (.var 5) (.cons (.int 0) .nil)))) (.cons (.cmp .eq (.callB .set (.cons (.attr (.var 3) 8) .nil)) (.var 4)) (.cons (.cmp .eq (.attr (.var 3) 7) (.list .nil)) .nil)))))
    .nil))))))))⟩
noncomputable def v_law : List (Str × Nat) := [(Str.ofString "script", 0), (Str.ofString "feed", 1), (Str.ofString "clauses", 2), (Str.ofString "search", 3), (Str.ofString "due", 4), (Str.ofString "world", 5), (Str.ofString "lap", 6)]
noncomputable def strTab : List Str := [Str.ofString "append", Str.ofString "extend", Str.ofString "pop", Str.ofString "count", Str.ofString "get", Str.ofString "setdefault", Str.ofString "cells", Str.ofString "begins", Str.ofString "row", Str.ofString "heights", Str.ofString "clashes", Str.ofString "log", Str.ofString "learn", Str.ofString "is_refuted", Str.ofString "height_of", Str.ofString "says", Str.ofString "spread", Str.ofString "let", Str.ofString "known", Str.ofString "causes", Str.ofString "seen", Str.ofString "liked", Str.ofString "rows", Str.ofString "watching", Str.ofString "heats", Str.ofString "gain", Str.ofString "blamed", Str.ofString "conflict_limit", Str.ofString "add_clause", Str.ofString "back_to", Str.ofString "refute", Str.ofString "keep", Str.ofString "has_moved", Str.ofString "warm", Str.ofString "lesson", Str.ofString "turn", Str.ofString "levels"]
noncomputable def fnTab : List Str := [Str.ofString "ordered", Str.ofString "_law_draw", Str.ofString "_law_clauses", Str.ofString "_law_closed", Str.ofString "_law_is_cause", Str.ofString "_law_is_right", Str.ofString "_law_back", Str.ofString "_law_begin", Str.ofString "_law_deed", Str.ofString "law"]
noncomputable def globTab : List (Str × Int) := []
noncomputable def attrTab : List Nat := [8, 19, 22, 7, 21, 20, 9, 13, 18, 23, 24, 25, 11, 26, 10, 27]
noncomputable def tab : Tab := ⟨strTab, fnTab, globTab, attrTab, Str.ofString "Search"⟩
noncomputable def prog : MProg := ⟨[C.f_ordered, f__law_draw, f__law_clauses, f__law_closed, f__law_is_cause, f__law_is_right, f__law_back, f__law_begin, f__law_deed, f_law, C.f_Values___init__, C.f_Values_says, C.f_Values_let, C.f_Values_back_to, { C.f_Search___init__ with sup := some 10 }, C.f_Search_add_clause, C.f_Search_refute, C.f_Search_keep, C.f_Search_spread, C.f_Search_has_moved], [(15, 11), (17, 12), (29, 13), (28, 15), (30, 16), (31, 17), (16, 18), (32, 19)], 14⟩
end Mini.T01
end
section
set_option maxHeartbeats 8000000
open PySem PySem.W PyProof.Rows Mini
namespace Mini.T01
noncomputable def faddr (f : Nat) : Addr := ([28, 199, 206, 211, 216, 221, 228, 233, 240, 245, 42, 49, 56, 63, 84, 89, 96, 103, 110, 117] : List Nat).getD f 0
noncomputable def cks : List FCk := [⟨C.f_ordered, C.v_ordered, ["literals"]⟩, ⟨f__law_draw, v__law_draw, ["feed","wide"]⟩, ⟨f__law_clauses, v__law_clauses, ["feed"]⟩, ⟨f__law_closed, v__law_closed, ["clauses","held"]⟩, ⟨f__law_is_cause, v__law_is_cause, ["search","place"]⟩, ⟨f__law_is_right, v__law_is_right, ["search","world"]⟩, ⟨f__law_back, v__law_back, ["search","world","height"]⟩, ⟨f__law_begin, v__law_begin, ["feed","search","world","clauses"]⟩, ⟨f__law_deed, v__law_deed, ["feed","search","world","clauses"]⟩, ⟨f_law, v_law, ["script"]⟩, ⟨C.f_Values___init__, C.v_Values___init__, ["self"]⟩, ⟨C.f_Values_says, C.v_Values_says, ["self","literal"]⟩, ⟨C.f_Values_let, C.v_Values_let, ["self","literal","cause"]⟩, ⟨C.f_Values_back_to, C.v_Values_back_to, ["self","height"]⟩, ⟨{ C.f_Search___init__ with sup := some 10 }, C.v_Search___init__, ["self","clauses","many"]⟩, ⟨C.f_Search_add_clause, C.v_Search_add_clause, ["self","literals"]⟩, ⟨C.f_Search_refute, C.v_Search_refute, ["self"]⟩, ⟨C.f_Search_keep, C.v_Search_keep, ["self","literals"]⟩, ⟨C.f_Search_spread, C.v_Search_spread, ["self"]⟩, ⟨C.f_Search_has_moved, C.v_Search_has_moved, ["self","number","lost"]⟩]
noncomputable abbrev wd (K : Frag) (p : Program) (w : World) (B : Heap) (script : List Int) (at_ : Addr) (mg mb : Str → Option Value) : Wd :=
  ⟨p, w, B, K, tab, prog, script, at_, 190, faddr, mg, mb⟩
theorem heap0 {W : Wd} : SimC W [] ⟨0, fun _ => none⟩ W.B := ⟨fun a o e => e, rfl, fun i o e => ns e, List.nodup_nil, fun a h => absurd h List.not_mem_nil, fun a h => absurd h List.not_mem_nil⟩
noncomputable def Holds : Prop := ∀ script : List Int, script.length ≤ 63 → callD prog script 20 9 [.script] (fun v _ => v = .bool true) ⟨0, fun _ => none⟩
theorem core {K : Frag} {p : Program} {w : World} {script : List Int} {at_ : Addr} {mg mb : Str → Option Value} {s : Shared} (KO : WdOk (wd K p w s.heap script at_ mg mb)) (h3 : ∀ i c, cks[i]? = some c → FnOk (wd K p w s.heap script at_ mg mb) (0 + i) c.fn) (hl : script.length ≤ 63) (law : Holds) :
    codeAny (model p w) callerA (.call (.ref 245) ⟨[.ref at_], []⟩) (fun r s' => match r with | .ok (.ret v) => v = .bool true ∧ (∀ b o, s.heap.get? b = some o → s'.heap.get? b = some o) ∧ s'.gens = s.gens ∧ s'.os = s.os | _ => False) s := by
  refine codeAny_mono (callOk KO (fnOk_of _ rfl h3) 20 9 callerA [.script] [.ref at_] (fun v _ => v = .bool true) ⟨[], ⟨0, fun _ => none⟩, s, heap0⟩ rfl (by decide) (by decide) (.one rfl) (law _ hl)) fun r s' h => ?_
  rcases r with e | (_ | _ | _ | v) <;> first | exact h.elim | skip
  have h : Out _ Cf.V _ v s' := h
  induction h with
  | mk r q l => exact ⟨by rw [q] at r; exact r, fun b o e => l.keep b o e List.not_mem_nil List.not_mem_nil, l.rest.1, l.rest.2⟩
end Mini.T01
end
section
namespace Mini.C
open Mini
set_option genInjectivity false
set_option genSizeOf false
set_option genSizeOfSpec false
section
variable {P : MProg} {sc : List Int} {d : Nat} {adr : Tag → Nat} {h : MHeap} {σ : St} {X : XH} {Q : KV} {ρ : Vars}
theorem eq_step {x y : Int} {xs ys : List Int} : (x == y && decide (xs = ys)) = decide (x :: xs = y :: ys) := by
  by_cases c : x = y
  · by_cases e : xs = ys
    · rw [decide_eq_true e, decide_eq_true (congr (congrArg List.cons c) e), beq_iff_eq.mpr c]; rfl
    · rw [decide_eq_false e, decide_eq_false fun q => e (List.cons.inj q).2, Bool.and_false]
  · rw [beq_eq_false_iff_ne.mpr c, decide_eq_false fun q => c (List.cons.inj q).1]; rfl
theorem eqL_iL {R : MV → MV → Bool → Prop} (hR : ∀ a b : Int, R (.int a) (.int b) (a == b)) {xs ys : List Int} : EqL R (iL xs) (iL ys) (decide (xs = ys)) := by
  induction xs generalizing ys with
  | nil =>
    rcases ys with _ | ⟨y, s⟩
    · exact .nil
    · exact .right _ _
  | cons x r ih =>
    rcases ys with _ | ⟨y, s⟩
    · exact .left _ _
    · exact eq_step ▸ .cons (hR x y) ih
theorem feq_ii (a b : Int) : FEq (.int a) (.int b) (a == b) := .at (.ii a b)
theorem eqv_iL {a b : Nat} {xs ys : List Int} (ha : h.obj a = some (.list (iL xs))) (hb : h.obj b = some (.list (iL ys))) : Eqv h (.ref a) (.ref b) (decide (xs = ys)) := .list ha hb (eqL_iL feq_ii)
theorem feq_tup {xs ys : List Int} : FEq (.tup (iL xs)) (.tup (iL ys)) (decide (xs = ys)) := .tt (eqL_iL .ii)
theorem eqv_nil {a b : Nat} {xs : List MV} (ha : h.obj a = some (.list xs)) (hb : h.obj b = some (.list [])) : Eqv h (.ref a) (.ref b) xs.isEmpty := by
  rcases xs with _ | ⟨x, r⟩
  · exact .list ha hb .nil
  · exact .list ha hb (.left _ _)
theorem inL_iL {l : Int} {xs : List Int} : InL (.int l) (iL xs) (decide (l ∈ xs)) := by
  induction xs with
  | nil => exact .nil
  | cons x r ih =>
    have e : (x == l || decide (l ∈ r)) = decide (l ∈ x :: r) := by
      by_cases c : x = l
      · rw [beq_iff_eq.mpr c, decide_eq_true (List.mem_cons.mpr (.inl c.symm))]; rfl
      · by_cases q : l ∈ r
        · rw [decide_eq_true q, decide_eq_true (List.mem_cons_of_mem _ q), Bool.or_true]
        · rw [decide_eq_false q, beq_eq_false_iff_ne.mpr c, decide_eq_false fun z => (List.mem_cons.mp z).elim (fun z => c z.symm) q]; rfl
    exact e ▸ .cons (.ii x l) ih
section
variable {L : Lg} {e i l r o k : ME} {es : MEs} {t : Bool} {op : MCmp} {n : Nat}
theorem m_cmpL (H : ev L l ρ false (fun v h => ev L r ρ false (fun w h => Yields (Cmp h op v w) fun b => Q (.bool b) h) h) h) : ev L (.cmp op l r) ρ t Q h := H
theorem m_and (H : ev L e ρ t (fun v h => If v (ev L (.and (.cons i es)) ρ t Q h) (Q (.bool false) h)) h) : ev L (.and (.cons e (.cons i es))) ρ t Q h := H
theorem m_and1 (H : ev L e ρ t Q h) : ev L (.and (.cons e .nil)) ρ t Q h := H
theorem m_or (H : ev L e ρ t (fun v h => If v (Q (.bool true) h) (ev L (.or (.cons i es)) ρ t Q h)) h) : ev L (.or (.cons e (.cons i es))) ρ t Q h := H
theorem e_isin {x : Int} {xs : List Int} (E : Ev L ρ h l (.int x)) (E' : Ev L ρ h r (.ref n)) (o : h.obj n = some (.list (iL xs))) : Ev L ρ h (.cmp .isin l r) (.bool (decide (x ∈ xs))) := e_cmp E E' (.isin (.list o inL_iL))
theorem e_notin {x : Int} {xs : List Int} (E : Ev L ρ h l (.int x)) (E' : Ev L ρ h r (.ref n)) (o : h.obj n = some (.list (iL xs))) : Ev L ρ h (.cmp .notin l r) (.bool (!decide (x ∈ xs))) := e_cmp E E' (.notin (.list o inL_iL))
theorem e_count {x : Int} {xs : List Int} (O : Ev L ρ h o (.ref n)) (p : h.obj n = some (.list (iL xs))) (E : Ev L ρ h k (.int x)) : Ev L ρ h (.callM o 3 (.cons k .nil)) (iN (xs.count x)) := fun _ _ H => O.go (.mk (.list p (Nat.le_of_ble_eq_true rfl)) (e_one E _ (.mk (.count x p) H)))
theorem Sim.nil_eq {Q : Bool → HP} {ys : List MV} (S : Sim adr h σ X) (H : ∀ h', Sim adr h' σ X → Q ys.isEmpty h') :
    fin false (fun v h => ev L (.list .nil) ρ false (fun w h => Yields (Cmp h .eq v w) fun b => Q b h) h) (.ref h.next) (h.new (.list ys)) := by
  have S1 := S.push (.list ys)
  have S2 := S1.push (.list [])
  exact m_list e_nil (Nat.zero_le _) (f_in (.mk (.eq (eqv_nil (S2.o (S1.sub_put _ _ put_same)) (S2.o put_same))) (H _ (S.put_less (S1.put_less S2)))))
theorem Sim.nil_ne {Q : Bool → HP} {ys : List MV} (S : Sim adr h σ X) (H : ∀ h', Sim adr h' σ X → Q (!ys.isEmpty) h') :
    fin false (fun v h => ev L (.list .nil) ρ false (fun w h => Yields (Cmp h .ne v w) fun b => Q b h) h) (.ref h.next) (h.new (.list ys)) := by
  have S1 := S.push (.list ys)
  have S2 := S1.push (.list [])
  exact m_list e_nil (Nat.zero_le _) (f_in (.mk (.ne (eqv_nil (S2.o (S1.sub_put _ _ put_same)) (S2.o put_same))) (H _ (S.put_less (S1.put_less S2)))))
end
theorem Seq.mono' {v : MV} {xs : List Int} {n : Nat} {o : MObj} (q : Seq X xs v) (hn : X n = none) : Seq (X.put n o) xs v := q.mono fun a o' e => (put_ne fun z => by rw [z, hn] at e; exact ns e).trans e
theorem empty_filter {xs : List Int} {f : Int → Bool} : ((xs.filter f).map MV.int).isEmpty = !xs.any f := by
  induction xs with
  | nil => rfl
  | cons x r ih =>
    by_cases c : f x = true
    · rw [List.filter_cons_of_pos c, List.any_cons, c]; rfl
    · rw [List.filter_cons_of_neg c, List.any_cons, Bool.eq_false_iff.mpr c]; exact ih
structure Feed (X : XH) (f c : Nat) (cs : List Int) (k : Nat) : Prop where
  feed : X f = some (.sdict [(6, .ref c), (35, .int (k : Int))])
  cells : X c = some (.list (iL cs))
noncomputable abbrev feedO (c k : Nat) : MObj := .sdict [(6, .ref c), (35, .int (k : Int))]
end
section
variable {h : MHeap} {X : XH}
theorem m_arR {L : Lg} {ρ : Vars} {l r : ME} {v : MV} {op : MOp} {t : Bool} {Q : KV} (E : Ev L ρ h l v) (H : ev L r ρ false (fun w h => Via (Bin h op v w) (fin t Q)) h) : ev L (.bin op l r) ρ t Q h := E.go H
theorem Out0.push (O : Out0 h X) (o : MObj) : Out0 (h.new o) (X.put h.next o) := fun a o' e => by
  by_cases c : a = h.next
  · rw [c, put_same] at e
    rw [c, ← Option.some.inj e]
    exact ⟨new_same, Nat.lt_succ_self _⟩
  · rw [put_ne c] at e
    exact ⟨(new_ne (O a o' e).lt).trans (O a o' e).obj, Nat.lt_succ_of_lt (O a o' e).lt⟩
theorem Out0.poke (O : Out0 h X) {a : Nat} {o : MObj} (e : X a = some o) (o' : MObj) : Out0 (h.set a o') (X.put a o') := fun b p q => by
  by_cases c : b = a
  · rw [c, put_same] at q
    rw [c, ← Option.some.inj q]
    exact ⟨set_same, (O a o e).lt⟩
  · rw [put_ne c] at q
    exact ⟨(set_ne c).trans (O b p q).obj, (O b p q).lt⟩
theorem Out0.none_at (O : Out0 h X) : X h.next = none := by
  by_cases e : X h.next = none
  · exact e
  · obtain ⟨o, e⟩ := Option.ne_none_iff_exists'.mp e
    exact absurd (O _ o e).lt (Nat.lt_irrefl _)
noncomputable def Sub (Z X : XH) : Prop := ∀ a o, Z a = some o → X a = some o
theorem Sub.put {Z X : XH} (s : Sub Z X) {a : Nat} (o : MObj) (z : Z a = none) : Sub Z (X.put a o) := fun b p e => (put_ne fun q => by rw [q, z] at e; exact ns e).trans (s b p e)
theorem Sub.both {Z X : XH} (s : Sub Z X) {a : Nat} {o : MObj} (x : X a = some o) : Sub (Z.put a o) X := fun b p e => by
  by_cases c : b = a
  · rw [c, put_same] at e
    rw [c, x, e]
  · rw [put_ne c] at e
    exact s b p e
theorem Sub.none {Z X : XH} (s : Sub Z X) {a : Nat} (x : X a = none) : Z a = none := by
  by_cases e : Z a = Option.none
  · exact e
  · obtain ⟨o, e⟩ := Option.ne_none_iff_exists'.mp e
    exact ns (x.symm.trans (s _ _ e))
theorem ne_obj {a b : Nat} {o p : MObj} (x : X a = some o) (y : X b = some p) (n : o ≠ p) : a ≠ b := fun q => n (Option.some.inj (x.symm.trans (q ▸ y)))
end
section
variable {L : Lg} {ρ : Vars} {h : MHeap} {e i a b c : ME} {v : MV} {t : Bool} {Q : KV} {r : MSs} {R : KF} {es : MEs} {vs : List MV}
theorem x_brk (H : R .brk ρ h) : exs L (.cons .brk r) R ρ h := H
theorem x_cont (H : R .cont ρ h) : exs L (.cons .cont r) R ρ h := H
theorem m_subR (E : Ev L ρ h e v) (H : ev L i ρ false (fun w h => Yields (GetI h v w) fun u => fin t Q u h) h) : ev L (.sub e i) ρ t Q h := E.go H
theorem m_ite (H : ev L c ρ true (fun v h => If v (ev L a ρ t Q h) (ev L b ρ t Q h)) h) : ev L (.ite c a b) ρ t Q h := H
theorem m_new (E : EvL L ρ h es vs) (H : L.call L.P.init (.ref h.next :: vs) (fun r h' => r = .none ∧ fin t Q (.ref h.next) h') (h.new (.inst []))) : ev L (.new es) ρ t Q h := E _ H
theorem m_dict2 {k k' : Nat} {e' : ME} (H : ev L e ρ false (fun v h => ev L e' ρ false (fun w h => fin t Q (.ref h.next) (h.new (.sdict [(k, v), (k', w)]))) h) h) : ev L (.dict2 k e k' e') ρ t Q h := H
theorem m_bui1' {b : MB} {a' : ME} (H : ev L e ρ false (fun v h => DoB h (fin t Q) b [v]) h) : ev L (.callB b (.cons e .nil)) ρ t Q h := H
end
noncomputable def dropS : Nat → MSs → MSs
  | 0, m => m
  | n + 1, m => dropS n (MSs.tl m)
theorem SeqL.mono {X X' : XH} {cs : List (List Int)} {cv : List MV} (h : SeqL X cs cv) (hx : ∀ a o, X a = some o → X' a = some o) : SeqL X' cs cv := by
  induction h with
  | nil => exact .nil
  | cons s _ ih => exact .cons (s.mono hx) ih
theorem Rows.mono {X X' : XH} {a : Nat} {cls : List (List Int)} (h : Rows X a cls) (hx : ∀ a o, X a = some o → X' a = some o) : Rows X' a cls := by
  induction h with
  | mk e s => exact .mk (hx _ _ e) (SeqL.mono s hx)
theorem place_m1 {n : Nat} : Place (n + 1) (-1) n := by
  have z := Place.neg (Nat.lt_succ_self n)
  rw [show (n : Int) - ((n + 1 : Nat) : Int) = -1 by omega] at z
  exact z
theorem m_callI {L : Lg} {ρ : Vars} {h : MHeap} {Q : KV} {t : Bool} {o : ME} {n m f : Nat} {es : MEs} {as : List (Nat × MV)} (O : Ev L ρ h o (.ref n)) (p : h.obj n = some (.inst as)) (e : L.P.meths.lookup m = some f) (H : evL L es ρ (fun vs h => L.call f (.ref n :: vs) (fin t Q) h) h) : ev L (.callM o m es) ρ t Q h := O.go (.mk (.inst p e) H)
theorem m_fn' {L : Lg} {ρ : Vars} {h : MHeap} {Q : KV} {f : Nat} {es : MEs} {t : Bool} (H : evL L es ρ (fun vs h => L.call f vs (fin t Q) h) h) : ev L (.callF f es) ρ t Q h := H
theorem feed_ne {c k : Nat} {xs : List MV} : feedO c k ≠ .list xs := fun q => MObj.noConfusion q
theorem same_nil {xs : List Int} : same xs [] = xs.isEmpty := by
  rcases xs with _ | ⟨x, r⟩ <;> rfl
theorem ins_mem' {xs : List Int} {k j : Int} : j ∈ ins xs k ↔ j ∈ xs ∨ j = k := by
  unfold ins
  by_cases c : k ∈ xs
  · rw [if_pos c]; exact ⟨.inl, fun q => q.elim (fun q => q) fun q => q ▸ c⟩
  · rw [if_neg c, List.mem_append, List.mem_singleton]
theorem ins_nodup' {xs : List Int} {k : Int} (h : xs.Nodup) : (ins xs k).Nodup := by
  unfold ins
  by_cases c : k ∈ xs
  · rw [if_pos c]; exact h
  · rw [if_neg c, List.nodup_append]
    exact ⟨h, List.nodup_cons.mpr ⟨List.not_mem_nil, List.nodup_nil⟩, fun a ha b hb q => c (List.mem_singleton.mp hb ▸ q ▸ ha)⟩
theorem uni_mem' {xs ys : List Int} {k : Int} : k ∈ uni xs ys ↔ k ∈ xs ∨ k ∈ ys := by
  induction ys generalizing xs with
  | nil => exact ⟨.inl, fun q => q.elim (fun q => q) fun q => absurd q List.not_mem_nil⟩
  | cons y r ih => exact (ih (xs := ins xs y)).trans (by rw [ins_mem', List.mem_cons, or_assoc])
theorem uni_nodup' {xs ys : List Int} (h : xs.Nodup) : (uni xs ys).Nodup := by
  induction ys generalizing xs with
  | nil => exact h
  | cons y r ih => exact ih (xs := ins xs y) (ins_nodup' h)
theorem dedup_mem {xs : List Int} {k : Int} : k ∈ dedup xs ↔ k ∈ xs := (uni_mem' (xs := [])).trans ⟨fun q => q.resolve_left List.not_mem_nil, .inr⟩
theorem dedup_nodup {xs : List Int} : (dedup xs).Nodup := uni_nodup' List.nodup_nil
theorem subs_mem' {xs ys : List Int} : subs xs ys = true ↔ ∀ k ∈ xs, k ∈ ys := List.all_eq_true.trans ⟨fun z k hk => List.contains_iff_mem.mp (z k hk), fun z k hk => List.contains_iff_mem.mpr (z k hk)⟩
theorem same_of {xs ys : List Int} (nx : xs.Nodup) (ny : ys.Nodup) (h : ∀ k, k ∈ xs ↔ k ∈ ys) : same xs ys = true := by
  unfold same
  rw [beq_iff_eq.mpr ((List.perm_ext_iff_of_nodup nx ny).mpr h).length_eq, Bool.true_and]
  exact subs_mem'.mpr fun k hk => (h k).mp hk
theorem dedup_self {xs : List Int} (h : xs.Nodup) : (dedup xs).length = xs.length := ((List.perm_ext_iff_of_nodup dedup_nodup h).mpr fun k => dedup_mem).length_eq
end Mini.C
end
section
namespace Mini.T01
open Mini Mini.C
set_option genInjectivity false
set_option genSizeOf false
set_option genSizeOfSpec false
noncomputable def lib : Lib prog where
  fSays := 11
  fLet := 12
  fBack := 13
  fAdd := 15
  fRefute := 16
  fKeep := 17
  fSpread := 18
  fMoved := 19
  fInit0 := 10
  mSays := rfl
  mLet := rfl
  mBack := rfl
  mAdd := rfl
  mRefute := rfl
  mKeep := rfl
  mSpread := rfl
  mMoved := rfl
  bOrdered := rfl
  bSays := rfl
  bLet := rfl
  bBack := rfl
  bAdd := rfl
  bRefute := rfl
  bKeep := rfl
  bSpread := rfl
  bMoved := rfl
  bInit := rfl
  bInit0 := rfl
section
variable {sc : List Int} {d : Nat} {adr : Tag → Nat} {h : MHeap} {σ : St} {X : XH} {Q : KV} {ρ : Vars}
theorem draw_wp {f c k : Nat} {cs : List Int} {m : Int} (hf : h.obj f = some (feedO c k)) (hc : h.obj c = some (.list (iL cs))) (hm : 0 < m) (hk : k < fitN)
    (q : ∀ r : Int, 0 ≤ r → r < m → Q (.int r) (h.set f (feedO c (k + 1)))) : callD prog sc (d + 1) 1 [.ref f, .int m] Q h := by
  have hne : c ≠ f := fun z => by rw [z, hf] at hc; exact MObj.noConfusion (Option.some.inj hc)
  have o2 : (h.set f (feedO c (k + 1))).obj c = some (.list (iL cs)) := (set_ne hne).trans hc
  have fin := fun a : Int => q (a.fmod m) (Int.fmod_nonneg_of_pos _ hm) (Int.fmod_lt_of_pos _ hm)
  have m0 := Int.ne_of_gt hm
  have sk : small k := Mini.C.small_nat (Nat.le_of_lt (fit_line hk))
  refine enter (fn := f__law_draw) rfl rfl rfl (x_let (e_sub (e_var rfl) e_str (.sdict hf rfl)) (x_setI (e_ari (e_var rfl) e_int (.add _ 1)) (e_var rfl) e_str (.sdict hf (Nat.le_of_ble_eq_true rfl)) (x_if (e_cmp (e_var rfl) (e_len (e_sub (e_var rfl) e_str (.sdict set_same rfl)) o2) (.lt _ _)) (fun z => ?_) fun _ => ?_)))
  · have hlt : k < cs.length := iL_length (xs := cs) ▸ dec_lt z
    exact x_ret (e_ari (e_sub (e_sub (e_var rfl) e_str (.sdict set_same rfl)) (e_var rfl) (.list o2 (.pos (iL_length.symm ▸ hlt)) (iL_at (getD_get hlt)))) (e_var rfl) (.mod m0)) (fin _)
  · exact x_ret (e_ari (e_ari (e_ari (e_ari (e_ari (e_ari e_int (e_var rfl) (.mul (.inr sk))) (e_var rfl) (.mul (.inr sk))) (e_ari e_int (e_var rfl) (.mul (.inr sk))) (.add _ _)) e_int (.add _ _)) e_int (.mod (by decide))) (e_var rfl) (.mod m0)) (fin _)
theorem draw1 {f c k : Nat} {cs : List Int} (S : Sim adr h σ X) (F : Feed X f c cs k) {m : Int} (hm : 0 < m) (hk : k < fitN) (q : ∀ r : Int, 0 ≤ r → r < m → ∀ h', Sim adr h' σ (X.put f (feedO c (k + 1))) → Q (.int r) h') : callD prog sc (d + 1) 1 [.ref f, .int m] Q h :=
  draw_wp (S.o F.feed) (S.o F.cells) hm hk fun r h0 h1 => q r h0 h1 _ (S.poke F.feed _)
theorem draw0 {f c k : Nat} {cs : List Int} (O : Out0 h X) (xf : X f = some (feedO c k)) (xc : X c = some (.list (iL cs))) {m : Int} (hm : 0 < m) (hk : k < fitN) (q : ∀ r : Int, 0 ≤ r → r < m → ∀ h', Out0 h' (X.put f (feedO c (k + 1))) → Q (.int r) h') : callD prog sc (d + 1) 1 [.ref f, .int m] Q h :=
  draw_wp (O _ _ xf).obj (O _ _ xc).obj hm hk fun r h0 h1 => q r h0 h1 _ (O.poke xf _)
end
end Mini.T01
end
section
namespace Mini.C
open Mini
theorem put_sub {X : XH} {a b : Nat} {o p : MObj} (h : X a = none) (c : Nat) (w : MObj) (e : (X.put b p) c = some w) : ((X.put a o).put b p) c = some w := by
  by_cases z : c = b
  · rw [z, put_same] at e; rw [z, put_same]; exact e
  · rw [put_ne z] at e
    rw [put_ne z]
    exact (put_ne fun y => by rw [y, h] at e; exact ns e).trans e
theorem put_keep {X : XH} {m : Nat} {o : MObj} (hm : X m = none) (a : Nat) (o' : MObj) (e : X a = some o') : (X.put m o) a = some o' := (put_ne fun q => by rw [q, hm] at e; exact ns e).trans e
theorem Seq.inV {h : MHeap} {adr : Tag → Nat} {σ : St} {X : XH} {xs : List Int} {v : MV} {l : Int} (q : Seq X xs v) (S : Sim adr h σ X) : InV h (.int l) v (decide (l ∈ xs)) := by
  induction q with
  | tup => exact .tup inL_iL
  | list e => exact .list (S.o e) inL_iL
noncomputable def rng6 (l : Int) : Prop := 1 ≤ l.natAbs ∧ l.natAbs ≤ 6
theorem few {xs : List Int} (nd : xs.Nodup) (h : ∀ l ∈ xs, rng6 l) : xs.length ≤ 13 := by
  have : xs.length ≤ (keyRange 6).length := nodup_le nd fun k hk => by
    have := h k hk
    unfold rng6 at this
    simp only [keyRange, List.mem_map, List.mem_range]
    exact ⟨(k + 6).toNat, by omega, by omega⟩
  exact Nat.le_trans this (by decide)
end Mini.C
namespace Mini.T01
open Mini Mini.C
set_option genInjectivity false
set_option genSizeOf false
set_option genSizeOfSpec false
noncomputable def lefts (hs C : List Int) : List Int := dedup (C.filter fun l => !hs.contains (-l))
theorem not_has {hs : List Int} {l : Int} : (!hs.contains l) = true ↔ l ∉ hs := by
  rw [Bool.not_eq_true', ← Bool.not_eq_true, List.contains_iff_mem]
theorem mem_lefts {hs C : List Int} {l : Int} : l ∈ lefts hs C ↔ l ∈ C ∧ -l ∉ hs := dedup_mem.trans (List.mem_filter.trans (and_congr_right fun _ => not_has))
noncomputable def fires (hs C : List Int) : Bool := ((lefts hs C).length : Int) == 1 && ((!subs (lefts hs C) hs) && !decide (-(nth (lefts hs C) 0) ∈ C))
theorem one_of {L : List Int} (h : ((L.length : Int) == 1) = true) : ∃ x, L = [x] := List.length_eq_one_iff.mp (Int.ofNat_inj.mp (eq_of_beq h))
theorem shut_of {hs C : List Int} (hz : ∀ l ∈ C, l ≠ 0) (h1 : lefts hs C ≠ []) (h2 : fires hs C = false) : Shut (fun l => l ∈ hs) C := by
  have hpos : 0 < (lefts hs C).length := List.length_pos_iff.mpr h1
  refine ⟨⟨_, mem_lefts.mp (nth_mem hpos)⟩, fun p hp hq => Classical.byContradiction fun np => ?_⟩
  have all : ∀ l ∈ lefts hs C, l = p := fun l hl => Classical.byContradiction fun ne => (mem_lefts.mp hl).2 (hq l (mem_lefts.mp hl).1 ne)
  have e : lefts hs C = [p] := by
    have m := all _ (nth_mem hpos)
    rcases hL : lefts hs C with _ | ⟨a, _ | ⟨b, r⟩⟩
    · exact absurd hL h1
    · rw [hL] at all; rw [all a List.mem_cons_self]
    · have nd : (lefts hs C).Nodup := dedup_nodup
      rw [hL] at all nd
      exact absurd ((all a List.mem_cons_self).trans (all b (List.mem_cons_of_mem _ List.mem_cons_self)).symm) fun z => (List.nodup_cons.mp nd).1 (z ▸ List.mem_cons_self)
  have nm : -p ∉ C := fun m => np (by
    have z := hq _ m fun z => hz p hp (by omega)
    rwa [Int.neg_neg] at z)
  unfold fires at h2
  rw [e] at h2
  have s0 : subs [p] hs = false := Bool.eq_false_iff.mpr fun z => np (subs_mem'.mp z p List.mem_cons_self)
  rw [s0, show nth [p] 0 = p from rfl, decide_eq_false nm] at h2
  exact ff h2.symm
inductive Fires (hs C : List Int) : Prop
  | mk {x : Int} (e : lefts hs C = [x]) (n : x ∉ hs) (m : x ∈ C) : Fires hs C
theorem fires_of {hs C : List Int} (h : fires hs C = true) : Fires hs C := by
  obtain ⟨h1, h2⟩ := (Bool.and_eq_true _ _).mp h
  obtain ⟨x, e⟩ := one_of h1
  have h3 := (Bool.and_eq_true _ _ |>.mp h2).1
  rw [e] at h3
  have m : x ∈ lefts hs C := e ▸ List.mem_cons_self
  refine .mk e (fun z => ?_) (mem_lefts.mp m).1
  rw [subs_mem'.mpr fun k hk => List.mem_singleton.mp hk ▸ z] at h3
  exact ff h3
noncomputable def meas (cls : List (List Int)) (hs : List Int) : Nat := cls.flatten.countP fun l => !hs.contains l
theorem count_le {L hs hs' : List Int} (h : ∀ l ∈ hs, l ∈ hs') : L.countP (fun l => !hs'.contains l) ≤ L.countP fun l => !hs.contains l := List.countP_mono_left fun l _ hl => not_has.mpr fun q => not_has.mp hl (h l q)
theorem meas_lt {cls : List (List Int)} {hs hs' : List Int} {p : Int} {C : List Int} (hC : C ∈ cls) (hp : p ∈ C) (np : p ∉ hs) (sub : ∀ l ∈ hs, l ∈ hs') (mp : p ∈ hs') : meas cls hs' + 1 ≤ meas cls hs := by
  have hm : p ∈ cls.flatten := List.mem_flatten.mpr ⟨C, hC, hp⟩
  unfold meas
  revert hm
  generalize cls.flatten = L
  intro hm
  induction L with
  | nil => exact absurd hm List.not_mem_nil
  | cons x r ih =>
    rw [List.countP_cons, List.countP_cons]
    rcases List.mem_cons.mp hm with q | q
    · subst q
      rw [if_neg fun z => not_has.mp z mp, if_pos (not_has.mpr np)]
      exact Nat.succ_le_succ (count_le sub)
    · rw [Nat.add_right_comm]
      refine Nat.add_le_add (ih q) ?_
      by_cases c : x ∈ hs
      · rw [if_neg fun z => not_has.mp z (sub _ c)]; exact Nat.zero_le _
      · rw [if_pos (not_has.mpr c)]
        by_cases c' : (!hs'.contains x) = true
        · rw [if_pos c']; exact Nat.le_refl _
        · rw [if_neg c']; exact Nat.zero_le _
noncomputable def flag (b : Bool) : Nat := if b then 1 else 0
structure Grown (cls : List (List Int)) (hs hs' : List Int) : Prop where
  nd : hs'.Nodup
  rng : ∀ l ∈ hs', rng6 l
  sub : ∀ l ∈ hs, l ∈ hs'
  low : ∀ U : Int → Prop, (∀ l ∈ hs, U l) → Shuts U cls → ∀ l ∈ hs', U l
theorem Grown.fire {cls : List (List Int)} {hs hs' C : List Int} (g : Grown cls hs hs') (hC : C ∈ cls) (hr : ∀ l ∈ C, rng6 l) (f : Fires hs' C) : Grown cls hs (uni hs' (lefts hs' C)) := by
  induction f with
  | @mk x e n m =>
  refine ⟨uni_nodup' g.nd, fun l hl => (uni_mem'.mp hl).elim (g.rng l) fun q => hr l (mem_lefts.mp q).1, fun l hl => uni_mem'.mpr (.inl (g.sub l hl)), fun U hU s l hl => (uni_mem'.mp hl).elim (g.low U hU s l) fun q => ?_⟩
  rw [e] at q
  rw [List.mem_singleton.mp q]
  refine (s C hC).2 x m fun y hy ne => g.low U hU s _ (Classical.byContradiction fun z => ne ?_)
  have y' : y ∈ lefts hs' C := mem_lefts.mpr ⟨hy, z⟩
  rw [e] at y'
  exact List.mem_singleton.mp y'
theorem Grown.none {cls : List (List Int)} {hs hs' C : List Int} (g : Grown cls hs hs') (hC : C ∈ cls) (e : lefts hs' C = []) : CloseR cls (fun l => l ∈ hs) none := .none fun U hU s => by
  obtain ⟨l, m, n⟩ := (s C hC).1
  refine n (g.low U hU s _ (Classical.byContradiction fun z => ?_))
  have y : l ∈ lefts hs' C := mem_lefts.mpr ⟨m, z⟩
  rw [e] at y
  exact List.not_mem_nil y
inductive HeldV (X : XH) : List Int → MV → Prop
  | nil {b : Nat} (e : X b = some (.list [])) : HeldV X [] (.ref b)
  | set {b : Nat} {hs : List Int} (e : X b = some (.set hs)) : HeldV X hs (.ref b)
inductive ClW (adr : Tag → Nat) (σ : St) (X : XH) (a : Nat) (cls : List (List Int)) (hs : List Int) (k : Nat) (ρ : Vars) (h : MHeap) : Prop
  | mk {n : Nat} {hs' : List Int} {b : Bool} (r0 : ρ 0 = some (.ref a)) (r2 : ρ 2 = some (.ref n)) (r3 : ρ 3 = some (.bool b)) (g : Grown cls hs hs') (hn : X n = none) (S : Sim adr h σ (X.put n (.set hs'))) (hk : meas cls hs' + flag b ≤ k) (hb : b = false → Shuts (fun l => l ∈ hs') cls) : ClW adr σ X a cls hs k ρ h
inductive ClF (adr : Tag → Nat) (σ : St) (X : XH) (a : Nat) (cls : List (List Int)) (hs hs1 : List Int) (r : List MV) (ρ : Vars) (h : MHeap) : Prop
  | mk {n : Nat} {hs' : List Int} {b : Bool} {done rest : List (List Int)} (r0 : ρ 0 = some (.ref a)) (r2 : ρ 2 = some (.ref n)) (r3 : ρ 3 = some (.bool b)) (e : cls = done ++ rest) (sl : SeqL X rest r) (g : Grown cls hs hs') (hn : X n = none) (S : Sim adr h σ (X.put n (.set hs')))
     (yes : b = true → meas cls hs' + 1 ≤ meas cls hs1) (no : b = false → hs' = hs1 ∧ ∀ C ∈ done, Shut (fun l => l ∈ hs1) C) (sub : ∀ l ∈ hs1, l ∈ hs') : ClF adr σ X a cls hs hs1 r ρ h
section
variable {sc : List Int} {d : Nat} {adr : Tag → Nat} {h : MHeap} {σ : St} {X : XH} {Q : KV} {ρ : Vars}
noncomputable def clIf : MS := MSs.hd (MSs.tl (MSs.tl (MS.bd (MSs.hd (MSs.tl (MS.bd (MSs.hd (MSs.tl f__law_closed.body))))))))
theorem fire_step {cls : List (List Int)} {hs hs2 C : List Int} {w : MV} {n m : Nat} {R : KF} (S7 : Sim adr h σ ((X.put n (.set hs2)).put m (.set (lefts hs2 C)))) (hn : X n = none) (hm : (X.put n (.set hs2)) m = none) (s1 : Seq (X.put n (.set hs2)) C w) (g : Grown cls hs hs2) (hC : C ∈ cls) (hr : ∀ l ∈ C, rng6 l)
    (r2 : ρ 2 = some (.ref n)) (r4 : ρ 4 = some w) (r5 : ρ 5 = some (.ref m)) (T : fires hs2 C = true → ∀ h' n', X n' = none → Sim adr h' σ (X.put n' (.set (uni hs2 (lefts hs2 C)))) → R .next ((ρ.set 2 (.ref n')).set 3 (.bool true)) h') (F : fires hs2 C = false → ∀ h', Sim adr h' σ (X.put n (.set hs2)) → R .next ρ h') :
    exs (lg prog sc d) (.cons clIf .nil) R ρ h := by
  have oL := S7.o put_same
  have oH := S7.o (put_keep hm _ _ put_same)
  have E3 : (((lefts hs2 C).length : Int) == 1) = true → Ev (Mini.lg prog sc d) ρ h (.cmp .notin (.neg (.callB .max (.cons (.var 5) .nil))) (.var 4)) (.bool (!decide (-(nth (lefts hs2 C) 0) ∈ C))) := fun z => by
    obtain ⟨x, e⟩ := one_of z
    rw [e] at oL ⊢
    exact e_cmp (e_neg (e_bui (e_one (e_var r5)) (.maxS oL))) (e_var r4) (.notin ((s1.mono (put_keep hm)).inV S7))
  refine x_ite' (e_and2 (e_cmp (e_bui (e_one (e_var r5)) (.lenS oL)) e_int (.eq (.flat (.at (.ii _ _))))) (fun z => e_and2 (e_not (e_cmp (e_var r5) (e_var r2) (.leS oL oH)) (.bool _)) fun _ => e_and1 (E3 z)) true _ (bool_fin (If.of (fun z => ?_) fun z => F z _ (S7.less (put_keep hm)))))
  have l40 : hs2.length + (lefts hs2 C).length ≤ 40 := by
    have a1 := few g.nd g.rng
    have a2 := few (dedup_nodup (xs := C.filter fun l => !hs2.contains (-l))) fun l hl => hr l (mem_lefts.mp hl).1
    exact Nat.le_trans (Nat.add_le_add a1 a2) (by decide)
  have nn : n ≠ m := fun q => by
    rw [← q, put_same] at hm
    exact ns hm.symm
  have S9 := S7.push (.set (uni hs2 (lefts hs2 C)))
  have n9 := S7.none_at (Nat.le_refl _)
  have n' : X h.next = none := by
    by_cases q : X h.next = none
    · exact q
    · obtain ⟨o, e⟩ := Option.ne_none_iff_exists'.mp q
      exact ns (n9.symm.trans (put_keep hm _ _ (put_keep hn _ _ e)))
  refine x_asgs' (l_cons (m_arR (e_var r2) ((e_var r5).go (.mk (.bor oH oL nn l40) (f_in (e_one e_bool _ ⟨Nat.le_of_ble_eq_true rfl, rfl, a_var (a_var (a_nil (T z _ _ n' (S9.less fun c o q => ?_))))⟩))))))
  by_cases z : c = h.next
  · rw [z, put_same] at q; rw [z, put_same]; exact q
  · rw [put_ne z] at q
    rw [put_ne z]
    exact put_keep hm _ _ (put_keep hn _ _ q)
theorem closed_spec (S : Sim adr h σ X) {a : Nat} {v : MV} {cls : List (List Int)} {hs : List Int} (hr : Rows X a cls) (hlen : ∀ C ∈ cls, C.length ≤ 3) (hrng : ∀ C ∈ cls, ∀ l ∈ C, rng6 l) (hv : HeldV X hs v) (nd : hs.Nodup) (hsr : ∀ l ∈ hs, rng6 l)
    (qn : ∀ h', CloseR cls (fun l => l ∈ hs) none → Sim adr h' σ X → Q .none h') (qs : ∀ h' n F, CloseR cls (fun l => l ∈ hs) (some F) → X n = none → Sim adr h' σ (X.put n (.set F)) → Q (.ref n) h') : callD prog sc (d + 1) 3 [.ref a, v] Q h := by
  induction hr with
  | @mk cv ha sl =>
  have S1 := S.push (.set hs)
  have hn : X h.next = none := S.none_at (Nat.le_refl _)
  have start : Bui h .set [v] (.ref h.next) (h.new (.set hs)) := by
    induction hv with
    | nil e => exact .setL (is := []) (S.o e) (by decide)
    | set e => exact .setS (S.o e)
  refine enter (fn := f__law_closed) rfl rfl rfl (x_asgs' (l_cons (m_bui (e_one (e_var rfl)) start (f_in ?_))))
  refine e_one e_bool _ ⟨Nat.le_of_ble_eq_true rfl, rfl, (a_var (a_var (a_nil (x_while (while_rule (ClW adr σ X a cls hs) (fun k ρ h2 K I hK => ?_) (.mk (b := true) rfl rfl rfl ⟨nd, hsr, fun l q => q, fun U hU _ => hU⟩ hn S1 (Nat.le_refl _) fun q => ff q.symm))))))⟩
  clear S S1 hn start
  induction I with
  | @mk n hs' b' r0 r2 r3 g hn S2 hk hsh =>
  refine e_var r3 true _ (bool_fin (If.of (fun z => ?_) fun z => ?_))
  rotate_left
  · exact x_ret (e_var r2) (qs _ n hs' (.some g.nd g.sub (hsh z) g.low) hn S2)
  subst z
  have hX : ∀ {m : Nat} {o : MObj}, X m = none → ∀ a' o', X a' = some o' → (X.put m o) a' = some o' := fun hm a' o' e => (put_ne fun q => by rw [q, hm] at e; exact ns e).trans e
  refine x_let e_bool (x_for (e_var r0) (.list (S2.o (hX hn _ _ ha))) (for_rule (ClF adr σ X a cls hs hs') (fun r ρ h I => ?_) (fun w r ρ h3 K3 I hK3 => ?_) (fun ρ h3 I => ?_) (.mk (done := []) (b := false) r0 r2 rfl rfl sl g hn S2 (fun q => ff q) (fun _ => ⟨rfl, fun C q => absurd q List.not_mem_nil⟩) fun l q => q)))
  · induction I with
    | mk _ _ _ _ _ _ hn S => exact .list (S.o (hX hn _ _ ha))
  · clear r0 r2 r3 g hn S2
    induction I with
    | @mk n hs2 b2 done rest r0 r2 r3 e sl g hn S3 yes no sub =>
    induction sl.uncons with
    | @mk C rest' e2 s1 sl' =>
    subst e2
    have hC : C ∈ cls := e ▸ List.mem_append_right _ List.mem_cons_self
    have l3 := hlen C hC
    have lf : (C.filter fun l => !hs2.contains (-l)).length ≤ 40 := Nat.le_trans (List.length_filter_le _ _) (Nat.le_trans l3 (by decide))
    have x1 := S3.none_at (Nat.le_refl _)
    have S4 := S3.push (.list (iL (C.filter fun l => !hs2.contains (-l))))
    have S5 := S4.push (.set (lefts hs2 C))
    have S5' : Sim adr _ σ ((X.put n (.set hs2)).put (h3.next + 1) (.set (lefts hs2 C))) := S5.less (put_sub x1)
    refine x_var (m_bui1 (m_comp (emb := .int) (f := fun l => !hs2.contains (-l)) (g := .int) (e_var rfl) ((s1.mono (hX hn)).items S3) (fun a _ K H => c_one (e_cmp (e_neg (e_var rfl)) (e_var r2) (.notin (.set (S3.o put_same)))) H) (fun _ _ _ => e_var rfl) (Nat.le_trans l3 (Nat.le_of_ble_eq_true rfl)) (f_in (.of (.setL new_same lf) (f_in ?_)))))
    have S6 := S5'.push (.set [])
    have nL := S5'.none_at (Nat.le_refl _)
    have oL := S6.o (S5'.sub_put _ _ put_same)
    refine x_ite' (m_cmpL ((e_var rfl).go (m_bui e_nil .set0 (f_in (.mk (.eq (.set oL (S6.o put_same))) (If.of (fun z => ?_) fun z => ?_))))))
    · rw [same_nil, List.isEmpty_iff] at z
      exact x_ret e_none (qn _ (g.none hC z) (S6.less fun a o e => S5'.sub_put _ _ (put_keep (S3.none_at (Nat.le_succ _)) _ _ (put_keep hn _ _ e))))
    have c0 : lefts hs2 C ≠ [] := fun q => by rw [q] at z; exact ff z.symm
    refine fire_step (n := n) (m := h3.next + 1) (S5'.put_less S6) hn (S3.none_at (Nat.le_succ _)) (s1.mono (hX hn)) g hC (hrng C hC) r2 rfl rfl (fun f h' n' hn' S' => ?_) fun f h' S' => ?_
    · have ml : meas cls (uni hs2 (lefts hs2 C)) + 1 ≤ meas cls hs2 := by
        induction fires_of f with
        | mk e nx mx => exact meas_lt hC mx nx (fun l hl => uni_mem'.mpr (.inl hl)) (uni_mem'.mpr (.inr (e ▸ List.mem_cons_self)))
      exact hK3 _ _ (.mk (done := done ++ [C]) r0 rfl rfl (e.trans (by rw [List.append_assoc]; rfl)) sl' (g.fire hC (hrng C hC) (fires_of f)) hn' S' (fun _ => Nat.le_trans ml (count_le sub)) (fun q => ff q.symm) fun l hl => uni_mem'.mpr (.inl (sub l hl)))
    · have nz : ∀ l ∈ C, l ≠ 0 := fun l hl => by have := hrng C hC l hl; unfold rng6 at this; omega
      exact hK3 _ _ (.mk (done := done ++ [C]) r0 r2 r3 (e.trans (by rw [List.append_assoc]; rfl)) sl' g hn S' yes (fun z' => ⟨(no z').1, fun D hD => (mem_push.mp hD).elim ((no z').2 D) fun q => q ▸ (no z').1 ▸ shut_of nz c0 f⟩) sub)
  · induction I with
    | @mk n hs2 b2 done rest r0 r2 r3 e sl g hn S3 yes no sub =>
    have := sl.unnil
    subst this
    rw [List.append_nil] at e
    subst e
    refine hK (meas cls hs2 + flag b2) ?_ ρ h3 (.mk r0 r2 r3 g hn S3 (Nat.le_refl _) fun z C hC => (no z).1 ▸ (no z).2 C hC)
    rcases b2 with _ | _
    · exact Nat.lt_of_lt_of_le ((no rfl).1 ▸ Nat.lt_succ_self _) hk
    · exact Nat.lt_of_lt_of_le (Nat.succ_lt_succ (yes rfl)) hk
end
end Mini.T01
end
section
namespace Mini.C
open Mini
theorem tuples {X : XH} {ts : List (List Int)} : SeqL X ts (tL ts) := by
  induction ts with
  | nil => exact .nil
  | cons t r ih => exact .cons .tup ih
theorem rngL_len {n : Int} {m : Nat} (h : n ≤ m) : (rngL 0 n).length ≤ m := by
  unfold rngL
  rw [List.length_map, List.length_range, Int.sub_zero]
  exact Int.toNat_le.mpr h
theorem Feed.put {X : XH} {f c k a : Nat} {cs : List Int} {o : MObj} (F : Feed X f c cs k) (n : X a = none) : Feed (X.put a o) f c cs k := ⟨put_keep n _ _ F.feed, put_keep n _ _ F.cells⟩
theorem Feed.next {X : XH} {f c k : Nat} {cs : List Int} (F : Feed X f c cs k) : Feed (X.put f (feedO c (k + 1))) f c cs (k + 1) := ⟨put_same, (put_ne (ne_obj F.cells F.feed fun q => MObj.noConfusion q)).trans F.cells⟩
theorem Feed.poke {X : XH} {f c k a : Nat} {cs : List Int} {xs : List MV} {o : MObj} (F : Feed X f c cs k) (e : X a = some (.list xs)) (n : a ≠ c) : Feed (X.put a o) f c cs k := ⟨(put_ne (ne_obj F.feed e feed_ne)).trans F.feed, (put_ne n.symm).trans F.cells⟩
end Mini.C
namespace Mini.T01
open Mini Mini.C
set_option genInjectivity false
set_option genSizeOf false
set_option genSizeOfSpec false
theorem widths : ∀ j, j < 4 → 0 ≤ nth [2, 2, 3, 1] j ∧ nth [2, 2, 3, 1] j ≤ ((3 : Nat) : Int) := by decide
section
variable {sc : List Int} {d : Nat} {h : MHeap} {X : XH} {Q : KV} {ρ : Vars} {R : KF} {f c a b k : Nat} {cs : List Int}
structure Drawn (X : XH) (h : MHeap) (f c a k : Nat) (cs : List Int) (cls : List (List Int)) : Prop where
  out : Out0 h X
  feed : Feed X f c cs k
  xa : X a = some (.list (tL cls))
  nac : a ≠ c
structure GoodL (cls : List (List Int)) : Prop where
  len : ∀ C ∈ cls, C.length ≤ 3
  rng : ∀ C ∈ cls, ∀ l ∈ C, rng6 l
inductive CwI (f c a b k0 : Nat) (cs : List Int) (cls : List (List Int)) (r : List MV) (ρ : Vars) (h : MHeap) : Prop
  | mk {X : XH} {k : Nat} {row : List Int} (r0 : ρ 0 = some (.ref f)) (r1 : ρ 1 = some (.ref a)) (r3 : ρ 3 = some (.ref b)) (D : Drawn X h f c a k cs cls) (xb : X b = some (.list (iL row))) (nab : a ≠ b) (nbc : b ≠ c) (hk : k + 2 * r.length ≤ k0) (hl : row.length + r.length ≤ 3) (rng : ∀ l ∈ row, rng6 l) : CwI f c a b k0 cs cls r ρ h
inductive CsI (f c a k0 : Nat) (cs : List Int) (r : List MV) (ρ : Vars) (h : MHeap) : Prop
  | mk {X : XH} {k : Nat} {cls : List (List Int)} (r0 : ρ 0 = some (.ref f)) (r1 : ρ 1 = some (.ref a)) (D : Drawn X h f c a k cs cls) (hk : k + 7 * r.length ≤ k0) (hl : cls.length + r.length ≤ 7) (G : GoodL cls) : CsI f c a k0 cs r ρ h
noncomputable def csBody : MSs := MS.bd (MSs.hd (MSs.tl f__law_clauses.body))
noncomputable def cwBody : MSs := MS.bd (MSs.hd (MSs.tl csBody))
theorem clause_loop {cls : List (List Int)} {k0 : Nat} {xs : List MV} {chk : HP} (hchk : ∀ h, chk h) (hk0 : k0 < fitN) (I : CwI f c a b k0 cs cls xs ρ h) (q : ∀ ρ h, CwI f c a b k0 cs cls [] ρ h → R .next ρ h) :
    forL chk (forB (lg prog sc (d + 1)) 4 cwBody) xs R ρ h := by
  refine for_rule (CwI f c a b k0 cs cls) (fun _ _ _ _ => hchk _) (fun w r ρ h K I hK => ?_) q I
  induction I with
  | @mk X k row r0 r1 r3 D xb nab nbc hk hl rng =>
  have hk' : k + 1 + 1 + 2 * r.length ≤ k0 := Nat.le_trans (Nat.le_of_eq (by rw [List.length_cons, Nat.mul_succ]; omega)) hk
  have k1 : k + 1 < fitN := Nat.lt_of_le_of_lt (Nat.le_trans (Nat.le_trans (Nat.le_succ _) (Nat.le_add_right _ _)) hk') hk0
  refine x_var (m_arR e_int (m_fn (e_cons (e_var r0) (e_one e_int)) (draw0 D.out D.feed.feed D.feed.cells (by decide) (Nat.lt_of_succ_lt k1) fun x z0 z1 h1 O1 => f_in (.mk (.ari (.add _ _)) (f_in ?_)))))
  have F1 := D.feed.next
  have nbf := (ne_obj D.feed.feed xb feed_ne).symm
  have naf := (ne_obj D.feed.feed D.xa feed_ne).symm
  have xb1 := (put_ne (o := feedO c (k + 1)) nbf).trans xb
  have lr : row.length < lenLine := Nat.lt_of_le_of_lt (Nat.le_trans (Nat.le_add_right _ _) hl) (Nat.le_of_ble_eq_true rfl)
  refine x_expr (m_callL (e_var r3) (O1 _ _ xb1).obj (by decide) (l_one (m_ite (m_cmpL (m_fn (e_cons (e_var r0) (e_one e_int)) (draw0 O1 F1.feed F1.cells (by decide) k1 fun y y0 y1 h2 O2 => f_in (e_int.go (.mk (.eq (.flat (.at (.ii _ _)))) ?_))))))))
  have F2 := F1.next
  have xb2 := (put_ne (o := feedO c (k + 1 + 1)) nbf).trans xb1
  have fin := fun (l : Int) (hl' : rng6 l) => hK ((ρ.set 4 w).set 5 (.int (1 + x))) _ (.mk (row := row ++ [l]) r0 r1 r3 ⟨O2.poke xb2 _, F2.poke xb2 nbc, (put_ne nab).trans ((put_ne naf).trans ((put_ne naf).trans D.xa)), D.nac⟩ (put_same.trans (congrArg (fun x => some (MObj.list x)) iL_push)) nab nbc hk' (by rw [List.length_append, List.length_singleton, Nat.add_right_comm]; exact hl) fun m hm => (mem_push.mp hm).elim (rng m) fun w => w ▸ hl')
  refine If.of (fun z => (e_var rfl).go (.mk (.append (O2 _ _ xb2).obj (eq_lt iL_length lr)) (f_in (fin (1 + x) ?_)))) fun z => (e_ari e_int (e_var rfl) (.sub _ _)).go (.mk (.append (O2 _ _ xb2).obj (eq_lt iL_length lr)) (f_in (fin (0 - (1 + x)) ?_)))
  · unfold rng6; omega
  · unfold rng6; omega
theorem clauses_loop {k0 : Nat} {xs : List MV} {chk : HP} (hchk : ∀ h, chk h) (hk0 : k0 < fitN) (I : CsI f c a k0 cs xs ρ h) (q : ∀ ρ h, CsI f c a k0 cs [] ρ h → R .next ρ h) :
    forL chk (forB (lg prog sc (d + 1)) 2 csBody) xs R ρ h := by
  refine for_rule (CsI f c a k0 cs) (fun _ _ _ _ => hchk _) (fun w r ρ h K I hK => ?_) q I
  induction I with
  | @mk X k cls r0 r1 D hk hl G =>
  have O1 := D.out.push (.list (iL []))
  have xb := D.out.none_at
  have F1 := D.feed.put (o := .list (iL [])) xb
  have nab : a ≠ h.next := fun z => ns (xb.symm.trans (z ▸ D.xa))
  have nbc : h.next ≠ c := fun z => ns (xb.symm.trans (z ▸ D.feed.cells))
  have hk' : k + 7 + 7 * r.length ≤ k0 := Nat.le_trans (Nat.le_of_eq (by rw [List.length_cons, Nat.mul_succ]; omega)) hk
  have k1 : k + 7 < fitN := Nat.lt_of_le_of_lt (Nat.le_trans (Nat.le_add_right _ _) hk') hk0
  refine x_var (m_list e_nil (Nat.zero_le _) (f_in (x_for' (m_bui1 (m_subR (e_tup (vs := iL [2, 2, 3, 1]) (e_cons e_int (e_cons e_int (e_cons e_int (e_one e_int)))) (by decide) rfl) ?_)))))
  refine m_fn (e_cons (e_var r0) (e_one e_int)) (draw0 O1 F1.feed F1.cells (by decide) (Nat.lt_of_le_of_lt (Nat.le_add_right _ _) k1) fun x z0 z1 h2 O2 => f_in ?_)
  obtain ⟨j, rfl⟩ := Int.eq_ofNat_of_zero_le z0
  have hj : j < 4 := Int.ofNat_lt.mp z1
  obtain ⟨w0, w3⟩ := widths j hj
  refine .mk (.tup (.pos (j := j) hj) (iL_at (getD_get hj))) (f_in (.of (.range1 ⟨Int.lt_of_lt_of_le (by decide) w0, Int.lt_of_le_of_lt w3 (by decide)⟩) (f_in (.mk (.rng _ _) ?_))))
  have rl := rngL_len w3
  have naf := (ne_obj D.feed.feed D.xa feed_ne).symm
  have nbf : h.next ≠ f := fun z => ns (xb.symm.trans (z ▸ D.feed.feed))
  refine clause_loop (b := h.next) (cls := cls) (k0 := k + 7) (fun _ => .rng _ _) k1 (.mk (X := (X.put h.next (.list (iL []))).put f (feedO c (k + 1))) (k := k + 1) (row := []) r0 r1 rfl ⟨O2, F1.next, (put_ne naf).trans ((put_ne nab).trans D.xa), D.nac⟩ ((put_ne nbf).trans put_same) nab nbc (by omega) (Nat.zero_add _ ▸ rl) fun l hl => absurd hl List.not_mem_nil) fun ρ3 h3 I => ?_
  induction I with
  | @mk X3 k3 row r0 r1 r3 D3 xb3 nab3 nbc3 hk3 hl3 rng3 =>
  have lc : cls.length < lenLine := Nat.lt_of_le_of_lt (Nat.le_trans (Nat.le_add_right _ _) hl) (Nat.le_of_ble_eq_true rfl)
  refine x_expr (m_append (e_var r1) (D3.out _ _ D3.xa).obj (e_bui (e_one (e_var r3)) (.tupL (D3.out _ _ xb3).obj iL_flat)) (eq_lt tL_length lc) (hK _ _ (.mk (cls := cls ++ [row]) r0 r1 ⟨D3.out.poke D3.xa _, D3.feed.poke D3.xa D3.nac, put_same.trans (congrArg (fun x => some (MObj.list x)) tL_push), D3.nac⟩ (Nat.le_trans (Nat.add_le_add_right hk3 _) hk') (by rw [List.length_append, List.length_singleton, Nat.add_right_comm]; exact hl) ⟨fun C hC => (mem_push.mp hC).elim (G.len C) fun w => w ▸ hl3, fun C hC => (mem_push.mp hC).elim (G.rng C) fun w => w ▸ rng3⟩)))
theorem clauses_spec (O : Out0 h X) (F : Feed X f c cs k) (hk : k + 50 < fitN)
    (q : ∀ (h' : MHeap) (X' : XH) (a k' : Nat) (cls : List (List Int)), Out0 h' X' → Feed X' f c cs k' → k' ≤ k + 50 → X' a = some (.list (tL cls)) → a ≠ c → cls.length ≤ 7 → GoodL cls → Q (.ref a) h') : callD prog sc (d + 2) 2 [.ref f] Q h := by
  have O1 := O.push (.list (tL []))
  have xa := O.none_at
  have F1 := F.put (o := .list (tL [])) xa
  have nac : h.next ≠ c := fun z => ns (xa.symm.trans (z ▸ F.cells))
  have naf : h.next ≠ f := fun z => ns (xa.symm.trans (z ▸ F.feed))
  refine enter (fn := f__law_clauses) rfl rfl rfl (x_var (m_list e_nil (Nat.zero_le _) (f_in (x_for' (m_bui1 (m_arR e_int ?_))))))
  refine m_fn (e_cons (e_var rfl) (e_one e_int)) (draw0 O1 F1.feed F1.cells (by decide) (Nat.lt_of_le_of_lt (Nat.le_add_right _ _) hk) fun x z0 z1 h2 O2 => f_in ?_)
  have x7 : 3 + x ≤ ((7 : Nat) : Int) := Int.add_le_add_left (Int.le_of_lt_add_one (b := 4) z1) 3
  refine .mk (.ari (.add _ _)) (f_in (.of (.range1 ⟨Int.lt_of_lt_of_le (by decide) (Int.add_nonneg (by decide) z0), Int.lt_of_le_of_lt x7 (by decide)⟩) (f_in (.mk (.rng _ _) ?_))))
  have rl := rngL_len x7
  refine clauses_loop (k0 := k + 50) (fun _ => .rng _ _) hk (.mk (X := (X.put h.next (.list (tL []))).put f (feedO c (k + 1))) (k := k + 1) (cls := []) rfl rfl ⟨O2, F1.next, (put_ne naf).trans put_same, nac⟩ (by omega) (Nat.zero_add _ ▸ rl) ⟨fun C hC => absurd hC List.not_mem_nil, fun C hC => absurd hC List.not_mem_nil⟩) fun ρ h I => ?_
  induction I with
  | @mk X k cls r0 r1 D hk hl G => exact x_ret (e_var r1) (q _ X _ k cls D.out D.feed hk D.xa D.nac hl G)
end
end Mini.T01
end
section
namespace Mini.C
open Mini
section
variable {L : Lg} {ρ : Vars} {h : MHeap} {e : ME} {v : MV} {b r : MSs} {R : KF} {x y : Nat} {xs : List MV}
theorem x_forE (E : Ev L ρ h e v) (q : ItemsL h v xs) (H : forL (fun h => ItemsL h v xs) (fun v Q ρ h => exs L b Q (Vars.two ρ x y v) h) (enumL 0 xs) (seq L r R) ρ h) : exs L (.cons (.forE x y e b) r) R ρ h := E.go (.mk q H)
theorem comp_none {chk : HP} {cond : MV → PT Bool} {elt : MV → PT MV} {Q : List MV → HP} (J : HP) (hc : ∀ h, J h → chk h) (C : ∀ v ∈ xs, ∀ (h : MHeap) (K : Bool → HP), J h → (∀ h', J h' → K false h') → cond v K h) (H : ∀ h', J h' → Q [] h') (j : J h) : compL chk cond elt xs [] Q h := by
  induction xs generalizing h with
  | nil => exact ⟨hc _ j, H _ j⟩
  | cons v r ih => exact ⟨hc _ j, C v List.mem_cons_self h _ j fun h' j' => ih (fun w hw => C w (List.mem_cons_of_mem _ hw)) j'⟩
end
end Mini.C
namespace Mini.T01
open Mini Mini.C
set_option genInjectivity false
set_option genSizeOf false
set_option genSizeOfSpec false
section
variable {sc : List Int} {d : Nat} {adr : Tag → Nat} {h : MHeap} {σ : St} {X : XH} {Q : KV} {ρ : Vars} {N B : Nat} {cls : List (List Int)}
theorem cause_spec (S : Sim adr h σ X) (I : Inv 6 B cls σ) {i : Nat} {l : Int} (e : σ.row[i]? = some l) (q : ∀ h', Sim adr h' σ X → Q (.bool true) h') : callD prog sc (d + 1) 4 [.ref (adr .s), iN i] Q h := by
  have hi := (List.getElem?_eq_some_iff.mp e).1
  have S1 := S.push (.list (iL (σ.row.take i)))
  have sl := SlTo.list (sc := sc) (i : Int) S.ro
  rw [iL_length, clamp_nat, iL_take, take_min] at sl
  refine enter (fn := f__law_is_cause) rfl rfl rfl (x_asgs' (l_cons ((e_sub (S.at rfl rfl) (e_var rfl) (.list S.ro (.pos (iL_length.symm ▸ hi)) (iL_at e))).go (l_one (m_to (S.at rfl rfl) (e_var rfl) sl (f_in ⟨Nat.le_of_ble_eq_true rfl, rfl, a_var (a_var (a_nil ?_))⟩))))))
  have oT := S1.o (put_same (X := X) (a := h.next))
  rcases I.why i l e with w | ⟨k, c, w, k2, k3, k4⟩
  · refine x_let (e_sub (S1.at rfl rfl) (e_abs (e_var rfl)) (.idict S1.ca (kget_mvs.trans (congrArg (Option.map oN) w)))) (x_iteT (e_cmp (e_var rfl) e_none (.is .nn)) (x_ret e_bool (q _ (S.put_less S1))))
  · refine x_let (e_sub (S1.at rfl rfl) (e_abs (e_var rfl)) (.idict S1.ca (kget_mvs.trans (congrArg (Option.map oN) w)))) (x_iteF (e_cmp (e_var rfl) e_none (.is (.int _))) ?_)
    have hk := (List.getElem?_eq_some_iff.mp k2).1
    refine x_let (e_sub (S1.at rfl rfl) (e_var rfl) (.list S1.R (.pos (rL_length.symm ▸ hk)) (rL_at hk))) ?_
    have oc := S1.row_obj' k2
    have E1 := fun (ρ : Vars) (r2 : ρ 2 = some (.int l)) (r5 : ρ 5 = some (.ref (adr (.row k)))) => decide_eq_true k3 ▸ e_isin (L := lg prog sc d) (ρ := ρ) (e_var r2) (e_var r5) oc
    refine x_retE (m_and ((E1 _ rfl rfl).go (.yes rfl (m_and1 (m_cmpL (m_comp (emb := .int) (f := fun a => !(a == l) && !decide (-a ∈ σ.row.take i)) (g := .int) (e_var rfl) (.list oc) (fun a _ K H => c_one (e_and2 (e_cmp (e_var rfl) (e_var rfl) (.ne (.flat (.at (.ii _ _))))) fun _ => e_and1 (e_notin (e_neg (e_var rfl)) (e_var rfl) oT)) H) (fun _ _ _ => e_var rfl) ?_ (S1.nil_eq fun h' S' => ?_)))))))
    · exact Nat.le_trans (I.rows c (List.mem_of_getElem? k2)).len (Nat.le_of_ble_eq_true rfl)
    · have z := q h' (S.put_less S')
      have n : c.any (fun a => !(a == l) && !decide (-a ∈ σ.row.take i)) = false := List.any_eq_false.mpr fun m hm w => by
        obtain ⟨w1, w2⟩ := (Bool.and_eq_true _ _).mp w
        rw [decide_eq_true (k4 m hm fun y => by rw [beq_iff_eq.mpr y] at w1; exact ff w1)] at w2
        exact ff w2
      rw [empty_filter, n]
      exact z
end
end Mini.T01
end
section
namespace Mini.C
open Mini
noncomputable def ends (σ : St) : List Nat := σ.be ++ [σ.row.length]
section
variable {B : Nat} {cls : List (List Int)} {σ : St} {Fs : List (List Int)} {N : Nat}
theorem ends_len : (ends σ).length = σ.be.length + 1 := List.length_append
theorem ends_le (I : Inv N B cls σ) {k e : Nat} (h : (ends σ)[k]? = some e) : e ≤ σ.row.length := by
  rcases List.mem_append.mp (List.mem_of_getElem? h) with m | m
  · exact I.ber e m
  · exact Nat.le_of_eq (List.mem_singleton.mp m)
theorem ends_lvl (I : Inv N B cls σ) {k e i : Nat} (h : (ends σ)[k]? = some e) (hi : i < σ.row.length) : lvl σ.be i ≤ k ↔ i < e := by
  unfold ends at h
  rcases Nat.lt_or_ge k σ.be.length with z | z
  · rw [List.getElem?_append_left z] at h
    refine ⟨fun q => Nat.not_le.mp fun w => absurd (lvl_ge I.bes h w) (Nat.not_lt.mpr q), fun q => ?_⟩
    rw [← lvl_cut I.bes h q]
    exact Nat.le_trans lvl_le (by rw [List.length_take]; exact Nat.min_le_left ..)
  · rw [List.getElem?_append_right z] at h
    have z0 : k - σ.be.length = 0 := Nat.lt_one_iff.mp (List.getElem?_eq_some_iff.mp h).1
    rw [z0] at h
    obtain rfl := Option.some.inj h
    exact ⟨fun _ => hi, fun _ => Nat.le_trans lvl_le z⟩
theorem ends_mono (I : Inv N B cls σ) {k e e' : Nat} (h : (ends σ)[k]? = some e) (h' : (ends σ)[k + 1]? = some e') : e ≤ e' := by
  have p : (ends σ).Pairwise (· ≤ ·) := by
    unfold ends
    rw [List.pairwise_append]
    exact ⟨I.bes, List.pairwise_singleton .., fun a ha b hb => by rw [List.mem_singleton.mp hb]; exact I.ber a ha⟩
  obtain ⟨l, rfl⟩ := List.getElem?_eq_some_iff.mp h
  obtain ⟨l', rfl⟩ := List.getElem?_eq_some_iff.mp h'
  exact List.pairwise_iff_getElem.mp p k (k + 1) l l' (Nat.lt_succ_self _)
theorem take_mem {xs : List Int} {e : Nat} {x : Int} : x ∈ xs.take e ↔ ∃ i, i < e ∧ xs[i]? = some x := by
  refine ⟨fun m => ?_, fun ⟨i, hi, ei⟩ => List.mem_iff_getElem?.mpr ⟨i, by rw [List.getElem?_take, if_pos hi]; exact ei⟩⟩
  obtain ⟨i, ei⟩ := List.mem_iff_getElem?.mp m
  rw [List.getElem?_take] at ei
  by_cases q : i < e
  · rw [if_pos q] at ei; exact ⟨i, q, ei⟩
  · rw [if_neg q] at ei; exact ns ei
theorem lot_mem {xs : List Int} {b e : Nat} {x : Int} : x ∈ (xs.drop b).take (e - b) ↔ ∃ i, b ≤ i ∧ i < e ∧ xs[i]? = some x := by
  rw [take_mem]
  refine ⟨fun ⟨i, hi, ei⟩ => ⟨b + i, Nat.le_add_right _ _, by omega, by rw [List.getElem?_drop] at ei; exact ei⟩, fun ⟨i, h1, h2, ei⟩ => ⟨i - b, by omega, by rw [List.getElem?_drop, Nat.add_sub_cancel' h1]; exact ei⟩⟩
theorem row_nodup (I : Inv N B cls σ) : σ.row.Nodup := List.Pairwise.of_map _ (fun a b h q => h (congrArg _ q)) I.known.vars
theorem row_at (I : Inv N B cls σ) {i j : Nat} {x : Int} (h : σ.row[i]? = some x) (h' : σ.row[j]? = some x) : i = j := by
  obtain ⟨l, e⟩ := List.getElem?_eq_some_iff.mp h
  obtain ⟨l', e'⟩ := List.getElem?_eq_some_iff.mp h'
  exact (List.getElem_inj (row_nodup I)).mp (e.trans e'.symm)
theorem level_take (q : Quiet B cls σ Fs) {k e : Nat} {F : List Int} (hF : Fs[k]? = some F) (he : (ends σ)[k]? = some e) {x : Int} : x ∈ F ↔ x ∈ σ.row.take e := by
  rw [(q.st.lev k F hF).2 x, take_mem]
  exact ⟨fun ⟨i, ei, li⟩ => ⟨i, (ends_lvl q.st.inv he (List.getElem?_eq_some_iff.mp ei).1).mp li, ei⟩, fun ⟨i, hi, ei⟩ => ⟨i, ei, (ends_lvl q.st.inv he (List.getElem?_eq_some_iff.mp ei).1).mpr hi⟩⟩
theorem lot_nodup (I : Inv N B cls σ) {b e : Nat} : ((σ.row.drop b).take (e - b)).Nodup := ((row_nodup I).sublist (List.drop_sublist _ _)).sublist (List.take_sublist _ _)
theorem lot_diff (I : Inv N B cls σ) {b e : Nat} (hbe : b ≤ e) {F G : List Int} (hF : ∀ x, x ∈ F ↔ x ∈ σ.row.take e) (hG : ∀ x, x ∈ G ↔ x ∈ σ.row.take b) (ndF : F.Nodup) : same (dedup ((σ.row.drop b).take (e - b))) (F.filter fun k => !G.contains k) = true := by
  refine same_of dedup_nodup (ndF.filter _) fun x => dedup_mem.trans (lot_mem.trans ?_)
  rw [List.mem_filter, hF, take_mem]
  have ng : ((!G.contains x) = true) ↔ x ∉ σ.row.take b := by rw [Bool.not_eq_true', ← Bool.not_eq_true, List.contains_iff_mem, hG]
  rw [ng, take_mem]
  constructor
  · rintro ⟨i, h1, h2, ei⟩
    exact ⟨⟨i, h2, ei⟩, fun ⟨j, hj, ej⟩ => absurd (row_at I ei ej ▸ hj) (Nat.not_lt.mpr h1)⟩
  · rintro ⟨⟨i, h2, ei⟩, n⟩
    exact ⟨i, Nat.not_lt.mp fun z => n ⟨i, z, ei⟩, h2, ei⟩
inductive SetAt (X : XH) (F : List Int) : MV → Prop
  | mk {n : Nat} (e : X n = some (.set F)) : SetAt X F (.ref n)
noncomputable abbrev LevL (X : XH) : List (List Int) → List MV → Prop := All2 (SetAt X)
theorem LevL.mono {X X' : XH} {vs : List MV} (h : LevL X Fs vs) (hx : ∀ a o, X a = some o → X' a = some o) : LevL X' Fs vs := h.imp fun _ _ q => by
  induction q with | mk e => exact .mk (hx _ _ e)
end
end Mini.C
end
section
namespace Mini.C
open Mini
set_option genInjectivity false
set_option genSizeOf false
set_option genSizeOfSpec false
section
variable {L : Lg} {ρ : Vars} {h : MHeap} {e l r i j : ME} {v w u : MV} {t : Bool} {Q : KV} {op : MOp}
theorem m_bin (H : ev L l ρ false (fun v h => ev L r ρ false (fun w h => Via (Bin h op v w) (fin t Q)) h) h) : ev L (.bin op l r) ρ t Q h := H
theorem m_slice {h' : MHeap} {x : MV} (E : Ev L ρ h e v) (E1 : Ev L ρ h i w) (E2 : Ev L ρ h j u) (q : Sl h v w u x h') (H : fin t Q x h') : ev L (.slice e i j) ρ t Q h := E.go (E1.go (E2.go (.mk q H)))
theorem e_neF {a b : Int} (E : Ev L ρ h l (.int a)) (E' : Ev L ρ h r (.int b)) (e : a = b) : Ev L ρ h (.cmp .ne l r) (.bool false) := by
  have z := e_cmp E E' (.ne (.flat (.at (.ii a b))))
  rwa [beq_iff_eq.mpr e] at z
theorem put_sub' {X Y : XH} {b : Nat} {p : MObj} (hs : ∀ c w, X c = some w → Y c = some w) (c : Nat) (w : MObj) (e : (X.put b p) c = some w) : (Y.put b p) c = some w := by
  by_cases z : c = b
  · rw [z, put_same] at e; rw [z, put_same]; exact e
  · rw [put_ne z] at e; rw [put_ne z]; exact hs c w e
structure Like (li wl : List (Int × Bool)) : Prop where
  nl : (li.map (·.1)).Nodup
  nw : (wl.map (·.1)).Nodup
  eq : ∀ k, tget li k = tget wl k
theorem tget_of {α : Type} {es : List (Int × α)} (nd : (es.map (·.1)).Nodup) {p : Int × α} (m : p ∈ es) : tget es p.1 = some p.2 := by
  induction es with
  | nil => exact absurd m List.not_mem_nil
  | cons q r ih =>
    rw [List.map_cons, List.nodup_cons] at nd
    rw [tget_cons]
    rcases List.mem_cons.mp m with rfl | m
    · exact if_pos rfl
    · rw [if_neg fun z : q.1 = p.1 => nd.1 (by rw [z]; exact List.mem_map.mpr ⟨p, m, rfl⟩)]
      exact ih nd.2 m
theorem Like.len {li wl : List (Int × Bool)} (h : Like li wl) : li.length = wl.length := by
  have p := (List.perm_ext_iff_of_nodup h.nl h.nw).mpr fun k => by rw [← tget_isSome, ← tget_isSome, h.eq k]
  have z := p.length_eq
  rwa [List.length_map, List.length_map] at z
theorem Like.eqD {li wl : List (Int × Bool)} (h : Like li wl) : EqD (mvs .bool wl) (mvs .bool li) true := by
  have go : ∀ sub : List (Int × Bool), (∀ p ∈ sub, tget wl p.1 = some p.2) → EqD (mvs .bool wl) (mvs .bool sub) true := fun sub => by
    induction sub with
    | nil => exact fun _ => .nil
    | cons p r ih =>
      intro hs
      have z := EqD.hit (kget_at (f := MV.bool) (hs p List.mem_cons_self)) (.bb p.2 p.2) (ih fun q hq => hs q (List.mem_cons_of_mem _ hq))
      rw [beq_self_eq_true, Bool.and_true] at z
      exact z
  exact go li fun p m => (h.eq p.1).symm.trans (tget_of h.nl m)
structure WorldR (X : XH) (w lv lk : Nat) (Fs : List (List Int)) (vs : List MV) (wl : List (Int × Bool)) : Prop where
  ww : X w = some (.sdict [(36, .ref lv), (21, .ref lk)])
  xl : X lv = some (.list vs)
  lev : LevL X Fs vs
  wk : X lk = some (.idict (mvs .bool wl))
theorem enum_step {k : Nat} {vs : List MV} {v : MV} {r : List MV} (h : v :: r = enumL k (vs.drop k)) : ∃ u, vs[k]? = some u ∧ v = .tup [.int (k : Int), u] ∧ r = enumL (k + 1) (vs.drop (k + 1)) := by
  rcases hd : vs.drop k with _ | ⟨u, s⟩
  · rw [hd] at h; exact absurd h (List.cons_ne_nil _ _)
  · rw [hd] at h
    obtain ⟨h1, h2⟩ := List.cons.inj h
    have l : k < vs.length := by
      refine Nat.not_le.mp fun z => ?_
      rw [List.drop_eq_nil_of_le z] at hd
      exact absurd hd.symm (List.cons_ne_nil _ _)
    rw [List.drop_eq_getElem_cons l] at hd
    obtain ⟨e1, e2⟩ := List.cons.inj hd
    exact ⟨u, by rw [List.getElem?_eq_getElem l, e1], h1, by rw [h2, e2]⟩
theorem enum_end {k : Nat} {vs : List MV} (h : [] = enumL k (vs.drop k)) : vs.length ≤ k := by
  rcases hd : vs.drop k with _ | ⟨u, s⟩
  · exact List.drop_eq_nil_iff.mp hd
  · rw [hd] at h; exact absurd h (List.cons_ne_nil _ _).symm
end
end Mini.C
namespace Mini.T01
open Mini Mini.C
set_option genInjectivity false
set_option genSizeOf false
set_option genSizeOfSpec false
end Mini.T01
end
section
namespace Mini.T01
open Mini Mini.C
set_option genInjectivity false
set_option genSizeOf false
set_option genSizeOfSpec false
noncomputable def MS.bdE : MS → MSs
  | .forE _ _ _ b => b
  | _ => .nil
noncomputable def lvBody : MSs := MS.bdE (MSs.hd (dropS 4 f__law_is_right.body))
section
variable {sc : List Int} {d : Nat} {adr : Tag → Nat} {h : MHeap} {σ : St} {X : XH} {Q : KV} {ρ : Vars} {R : KF} {B : Nat} {cls : List (List Int)} {Fs : List (List Int)}
structure Vr (ρ : Vars) (s w lv ro e : Nat) : Prop where
  r0 : ρ 0 = some (.ref s)
  r1 : ρ 1 = some (.ref w)
  r2 : ρ 2 = some (.ref lv)
  r3 : ρ 3 = some (.ref ro)
  r4 : ρ 4 = some (.ref e)
theorem Vr.set {s w lv ro e x : Nat} {v : MV} (V : Vr ρ s w lv ro e) (hx : 5 ≤ x) : Vr (ρ.set x v) s w lv ro e :=
  have k : ∀ y, y < 5 → ρ.set x v y = ρ y := fun y hy => if_neg (Nat.ne_of_lt (Nat.lt_of_lt_of_le hy hx))
  ⟨(k 0 (by decide)).trans V.r0, (k 1 (by decide)).trans V.r1, (k 2 (by decide)).trans V.r2, (k 3 (by decide)).trans V.r3, (k 4 (by decide)).trans V.r4⟩
inductive LvI (adr : Tag → Nat) (σ : St) (X : XH) (w lv e : Nat) (vs : List MV) (r : List MV) (ρ : Vars) (h : MHeap) : Prop
  | mk {k b g : Nat} {G : List Int} {X' : XH} (er : r = enumL k (vs.drop k)) (V : Vr ρ (adr .s) w lv (adr .ro) e) (r5 : ρ 5 = some (iN b)) (r6 : ρ 6 = some (.ref g)) (sub : ∀ a o, X a = some o → X' a = some o) (S : Sim adr h σ X') (xg : X' g = some (.set G))
     (hb : (k = 0 ∧ b = 0) ∨ ∃ k', k = k' + 1 ∧ (ends σ)[k']? = some b) (hG : ∀ x, x ∈ G ↔ x ∈ σ.row.take b) (hk : k ≤ vs.length) : LvI adr σ X w lv e vs r ρ h
theorem level_step (q : Quiet B cls σ Fs) {w lv e n k b g : Nat} {G F : List Int} {K : Vars → HP} (S : Sim adr h σ X) (V : Vr ρ (adr .s) w lv (adr .ro) e) (r5 : ρ 5 = some (iN b)) (r6 : ρ 6 = some (.ref g)) (r7 : ρ 7 = some (iN k)) (r8 : ρ 8 = some (.ref n))
    (xe : X e = some (.list (nL (ends σ)))) (xg : X g = some (.set G)) (xn : X n = some (.set F)) (hF : Fs[k]? = some F) (hb : (k = 0 ∧ b = 0) ∨ ∃ k', k = k' + 1 ∧ (ends σ)[k']? = some b) (hG : ∀ x, x ∈ G ↔ x ∈ σ.row.take b)
    (H : ∀ h' X' ee ρ', (∀ a o, X a = some o → X' a = some o) → Sim adr h' σ X' → (ends σ)[k]? = some ee → (∀ x, x ∈ F ↔ x ∈ σ.row.take ee) → Vr ρ' (adr .s) w lv (adr .ro) e → ρ' 5 = some (iN ee) → ρ' 6 = some (.ref n) → K ρ' h') :
    exs (lg prog sc d) lvBody (turn R K) ρ h := by
  have I := q.st.inv
  have kl : k < (ends σ).length := by rw [ends_len, ← q.len]; exact (List.getElem?_eq_some_iff.mp hF).1
  obtain ⟨ee, he⟩ : ∃ ee, (ends σ)[k]? = some ee := ⟨_, List.getElem?_eq_getElem kl⟩
  have hmem : ∀ x, x ∈ F ↔ x ∈ σ.row.take ee := fun x => level_take q hF he
  have eer := ends_le I he
  have ndF := (q.st.lev k F hF).1
  have bee : b ≤ ee := by
    rcases hb with ⟨_, rfl⟩ | ⟨k', rfl, hb⟩
    · exact Nat.zero_le _
    · exact ends_mono I hb he
  have rl : σ.row.length ≤ 6 := I.room.row
  have Fl : F.length < 8 := Nat.lt_of_le_of_lt (nodup_le ndF fun l hl => List.mem_of_mem_take ((hmem l).mp hl)) (Nat.lt_of_le_of_lt rl (by decide))
  have Ee := fun (ρ : Vars) (h' : MHeap) (r4 : ρ 4 = some (.ref e)) (r7 : ρ 7 = some (iN k)) (oe : h'.obj e = some (.list (nL (ends σ)))) => show Ev (lg prog sc d) ρ h' (.sub (.var 4) (.var 7)) (iN ee) from e_sub (e_var r4) (e_var r7) (.list oe (.pos (nL_length.symm ▸ kl)) (nL_at he))
  have sl := Sl.list (j := b) (k := ee) S.ro bee (iL_length.symm ▸ eer)
  rw [iL_drop, iL_take] at sl
  have lotl : ((σ.row.drop b).take (ee - b)).length ≤ 6 := Nat.le_trans (List.length_take_le' ..) (Nat.le_trans (by rw [List.length_drop]; exact Nat.sub_le ..) rl)
  have nd := lot_nodup I (b := b) (e := ee)
  have hd := lot_diff I bee hmem hG ndF
  have hl9 : ∀ x ∈ (σ.row.drop b).take (ee - b), tget σ.hh x.natAbs = some k := fun x hx => by
    obtain ⟨i, h1, h2, ei⟩ := lot_mem.mp hx
    have hi := (List.getElem?_eq_some_iff.mp ei).1
    have le := (ends_lvl I he hi).mpr h2
    have ge : k ≤ lvl σ.be i := by
      rcases hb with ⟨rfl, _⟩ | ⟨k', rfl, hb⟩
      · exact Nat.zero_le _
      · exact Nat.not_le.mp fun z => absurd ((ends_lvl I hb hi).mp z) (Nat.not_lt.mpr h1)
    rw [I.hh i x ei, Nat.le_antisymm le ge]
  refine x_var (m_slice (e_var V.r3) (e_var r5) (Ee _ _ V.r4 r7 (S.o xe)) sl (f_in ?_))
  generalize (σ.row.drop b).take (ee - b) = lot at lotl nd hd hl9 ⊢
  have V1 := V.set (x := 9) (v := .ref h.next) (by decide)
  have r6' : (ρ.set 9 (.ref h.next)) 6 = some (.ref g) := r6
  have r7' : (ρ.set 9 (.ref h.next)) 7 = some (iN k) := r7
  have r8' : (ρ.set 9 (.ref h.next)) 8 = some (.ref n) := r8
  have S1 := S.push (.list (iL lot))
  have S2 := S1.push (.set (dedup lot))
  have o1 := S1.o (put_same (X := X) (a := h.next))
  have x1 := fun a o e => S1.sub_put (o := .set (dedup lot)) a o (S.sub_put (o := .list (iL lot)) a o e)
  refine x_ite' (m_or (m_cmpL (m_bui (e_one (e_var rfl)) (.setL o1 (Nat.le_trans lotl (by decide))) (f_in (m_bin ((e_var r8').go ((e_var r6').go (.mk (.diff (S2.o (x1 _ _ xn)) (S2.o (x1 _ _ xg)) Fl) (f_in ?_)))))))))
  have S3 := S2.push (.set (F.filter fun k => !G.contains k))
  refine .mk (.ne (.set (S3.o (S2.sub_put _ _ put_same)) (S3.o put_same))) (.no (by rw [hd]; rfl) ?_)
  have S4 := S2.put_less S3
  have S5 := S4.push (.set (dedup lot))
  refine m_or1 (m_cmpL ((e_len (e_var rfl) (S4.o (S1.sub_put _ _ put_same))).go (m_bui1 (m_bui (e_one (e_var rfl)) (.setL (S4.o (S1.sub_put _ _ put_same)) (Nat.le_trans lotl (by decide))) (f_in (.of (.lenS (S5.o put_same)) (f_in (.mk (.ne (.flat (.at (.ii _ _)))) (.no (by rw [iL_length, dedup_self nd, beq_self_eq_true]; rfl) ?_)))))))))
  have S6 := S1.put_less (S4.put_less S5)
  refine x_ite' (m_cmpL (m_comp (emb := .int) (f := fun _ => false) (g := .int) (e_var rfl) (.list (S6.o put_same)) (fun a ha _ H => c_one (e_neF (e_sub (S6.at V1.r0 rfl) (e_abs (e_var rfl)) (.idict S6.hh (kget_at (hl9 a ha)))) (e_var r7') rfl) H) (fun _ _ _ => e_var rfl) (Nat.le_trans lotl (Nat.le_of_ble_eq_true rfl)) (S6.nil_ne fun h7 S7 => ?_)))
  refine .no (by rw [empty_filter, List.any_eq_false.mpr fun _ _ => Bool.false_ne_true]; rfl) (x_asgs (e_cons (Ee _ _ V1.r4 r7' (S7.o ((S.sub_put _ _ xe)))) (e_one (e_var r8'))) (Nat.le_of_ble_eq_true rfl) rfl (a_var (a_var (a_nil (H _ _ ee _ S.sub_put S7 he hmem ((V1.set (by decide)).set (by decide)) rfl rfl)))))
end
end Mini.T01
end
section
namespace Mini.T01
open Mini Mini.C
set_option genInjectivity false
set_option genSizeOf false
set_option genSizeOfSpec false
theorem c_raw {L : Lg} {ρ : Vars} {h : MHeap} {e : ME} {es : MEs} {K : Bool → HP} (H : ev L e ρ true (fun v h => If v (evC L es ρ K h) (K false h)) h) : evC L (.cons e es) ρ K h := H
theorem m_comp0 {L : Lg} {ρ : Vars} {h : MHeap} {e i : ME} {x : Nat} {cond : MEs} {t : Bool} {Q : KV} (H : ev L i ρ false (fun s h => Yields (Items h s) fun xs => compL (fun h => Items h s xs) (fun v => evC L cond (ρ.set x v)) (fun v => ev L e (ρ.set x v) false) xs [] (fun ys h => fin t Q (.ref h.next) (h.new (.list ys))) h) h) : ev L (.comp e x i cond) ρ t Q h := H
section
variable {sc : List Int} {d : Nat} {adr : Tag → Nat} {h : MHeap} {σ : St} {X : XH} {Q : KV} {ρ : Vars} {R : KF} {B : Nat} {cls : List (List Int)} {Fs : List (List Int)}
noncomputable def dueOf (F : List Int) (v : Int) : Option Bool := if v ∈ F then some true else if -v ∈ F then some false else none
theorem is_oBB {a : Option Bool} : IsV (oB a) (oB a) true := by
  rcases a with _ | b
  · exact .nn
  · have z := IsV.bb b b
    rwa [beq_self_eq_true] at z
theorem has_dec {F : List Int} {v : Int} {b : Bool} (h : decide (v ∈ F) = b) : F.contains v = b := by rw [← h, Bool.eq_iff_iff, List.contains_iff_mem, decide_eq_true_iff]
theorem e_isnotF {L : Lg} {l r : ME} {a : Option Bool} {b : Option Bool} (E : Ev L ρ h l (oB a)) (E' : Ev L ρ h r (oB b)) (e : a = b) : Ev L ρ h (.cmp .isnot l r) (.bool false) := by
  subst e
  exact e_cmp E E' (.isnot is_oBB)
inductive ValI (adr : Tag → Nat) (σ : St) (X : XH) (w lv e g : Nat) (ρ : Vars) (h : MHeap) : Prop
  | mk (V : Vr ρ (adr .s) w lv (adr .ro) e) (r6 : ρ 6 = some (.ref g)) (S : Sim adr h σ X) : ValI adr σ X w lv e g ρ h
theorem says_due (I : Inv 6 B cls σ) {F : List Int} (hF : ∀ x, x ∈ F ↔ x ∈ σ.row) {v : Int} (v0 : v ≠ 0) : σ.says v = dueOf F v ∧ σ.says (-v) = (dueOf F v).map (!·) := by
  have K := I.known
  have v0' : -v ≠ 0 := by omega
  unfold dueOf
  by_cases c : v ∈ F
  · rw [if_pos c]
    exact ⟨(K.says v0).1.mpr ((hF v).mp c), (K.says v0').2.mpr (by rw [Int.neg_neg]; exact (hF v).mp c)⟩
  · rw [if_neg c]
    by_cases c' : -v ∈ F
    · rw [if_pos c']
      exact ⟨(K.says v0).2.mpr ((hF _).mp c'), (K.says v0').1.mpr ((hF _).mp c')⟩
    · rw [if_neg c']
      have n1 := mt (hF v).mpr c
      have n2 := mt (hF _).mpr c'
      exact ⟨(K.says_none v0).mpr ⟨n1, n2⟩, (K.says_none v0').mpr ⟨n2, by rw [Int.neg_neg]; exact n1⟩⟩
theorem right_spec (S : Sim adr h σ X) (q : Quiet B cls σ Fs) {w lv lk : Nat} {vs : List MV} {wl : List (Int × Bool)} (W : WorldR X w lv lk Fs vs wl) (Lk : Like σ.li wl) (hB : B ≤ 1000) (K : ∀ h', Sim adr h' σ X → Q (.bool true) h') : callD prog sc (d + 2) 5 [.ref (adr .s), .ref w] Q h := by
  have I := q.st.inv
  have vl : vs.length = σ.be.length + 1 := W.lev.length.trans q.len
  have bl : σ.be.length ≤ B := I.room.be
  refine enter (fn := f__law_is_right) rfl rfl rfl (x_asgs (e_cons (e_sub (e_var rfl) e_str (.sdict (S.o W.ww) rfl)) (e_one (S.at rfl rfl))) (Nat.le_of_ble_eq_true rfl) rfl (a_var (a_var (a_nil ?_))))
  have S1 := S.push (.list (nL σ.be))
  have S2 := S1.push (.list [.int (iL σ.row).length])
  have lb : (nL σ.be).length + 1 ≤ lenLine := by rw [nL_length]; exact Nat.le_trans (Nat.succ_le_succ (Nat.le_trans bl hB)) (Nat.le_of_ble_eq_true rfl)
  refine x_var (m_bin (m_bui (e_one (S.at rfl rfl)) (.listL S.be) (f_in (m_list (e_one (e_len (e_var rfl) S1.ro)) (Nat.le_of_ble_eq_true rfl) (f_in (.mk (.cat (S2.o (S1.sub_put _ _ put_same)) (S2.o put_same) lb) (f_in ?_)))))))
  rw [iL_length] at S2 ⊢
  rw [show nL σ.be ++ [MV.int ((σ.row.length : Nat) : Int)] = nL (ends σ) from nL_push]
  have S3 := S2.push (.list (nL (ends σ)))
  have xS : ∀ a o, X a = some o → ((X.put h.next (.list (nL σ.be))).put (h.next + 1) (.list [.int σ.row.length])) a = some o := fun a o e => S1.sub_put _ _ (S.sub_put _ _ e)
  have S4 : Sim adr _ σ (X.put (h.next + 1 + 1) (.list (nL (ends σ)))) := S3.less (put_sub' xS)
  have ne : X (h.next + 1 + 1) = none := S.none_at (Nat.le_trans (Nat.le_succ _) (Nat.le_succ _))
  refine (fun (key : ∀ (h4 : MHeap) (e : Nat) (ρ : Vars), X e = none → Sim adr h4 σ (X.put e (.list (nL (ends σ)))) → Vr ρ (adr .s) w lv (adr .ro) e → exs (lg prog sc (d + 1)) (dropS 2 f__law_is_right.body) (retQ Q) ρ h4) => key _ (h.next + 1 + 1) _ ne S4 ⟨rfl, rfl, rfl, rfl, rfl⟩) fun h4 e ρ ne S4 V => ?_
  have xe := put_keep (o := MObj.list (nL (ends σ))) ne
  have E3 := e_cmp (L := lg prog sc (d + 1)) (S4.at V.r0 (n := 21) rfl) (e_sub (e_var V.r1) (e_str (s := 21)) (.sdict (S4.o (xe _ _ W.ww)) rfl)) (.ne (.dict S4.li (S4.o (xe _ _ W.wk)) Lk.eqD))
  rw [show (!((mvs MV.bool σ.li).length == (mvs MV.bool wl).length && true)) = false by rw [mvs_length, mvs_length, Lk.len, beq_self_eq_true]; rfl] at E3
  refine x_iteF (e_orF (e_neF (e_len (e_var V.r4) (S4.o put_same)) (e_len (e_var V.r2) (S4.o (xe _ _ W.xl))) (by rw [nL_length, ends_len, vl])) (e_orF (e_neF (S4.at V.r0 rfl) (e_len (e_var V.r3) S4.ro) (by rw [iL_length, q.seen])) (e_or1 E3))) ?_
  have S5 := S4.push (.set [])
  have V5 := (V.set (x := 5) (v := .int 0) (by decide)).set (x := 6) (v := .ref h4.next) (by decide)
  refine x_asgs' (l_cons (e_int.go (l_one (m_bui e_nil .set0 (f_in ⟨Nat.le_of_ble_eq_true rfl, rfl, a_var (a_var (a_nil ?_))⟩)))))
  refine x_forE (e_var V5.r2) (.list (S5.o (S4.sub_put _ _ (xe _ _ W.xl)))) (for_rule (LvI adr σ (X.put e (.list (nL (ends σ)))) w lv e vs) (fun r ρ h I => ?_) (fun v r ρ h K I hK => ?_) (fun ρ h I => ?_) (.mk (k := 0) (b := 0) (G := []) rfl V5 rfl rfl S4.sub_put S5 put_same (.inl ⟨rfl, rfl⟩) (fun x => ⟨fun m => absurd m List.not_mem_nil, fun m => by rw [List.take_zero] at m; exact m⟩) (Nat.zero_le _)))
  · induction I with
    | mk er V r5 r6 sub S xg hb hG hk => exact .list (S.o (sub _ _ (xe _ _ W.xl)))
  · induction I with
    | @mk k b g G X' er V r5 r6 sub S xg hb hG hk =>
    obtain ⟨u, e1, rfl, e3⟩ := enum_step er
    have kl := (List.getElem?_eq_some_iff.mp e1).1
    have fl : k < Fs.length := W.lev.length ▸ kl
    obtain ⟨u', e4, st⟩ := W.lev.get (List.getElem?_eq_getElem fl)
    obtain rfl := Option.some.inj (e1.symm.trans e4)
    induction st with
    | @mk n xn =>
    refine level_step q S ((V.set (by decide)).set (by decide)) r5 r6 rfl rfl (sub _ _ put_same) xg (sub _ _ (xe _ _ xn)) (List.getElem?_eq_getElem fl) hb hG fun h' X2 ee ρ' s2 S2 he hm V2 p5 p6 => ?_
    exact hK ρ' h' (.mk (k := k + 1) e3 V2 p5 p6 (fun a o e => s2 _ _ (sub _ _ e)) S2 (s2 _ _ (sub _ _ (xe _ _ xn))) (.inr ⟨k, rfl, he⟩) hm kl)
  · clear V5 S5 E3 V
    induction I with
    | @mk k b g G X' er V r5 r6 sub S xg hb hG hk =>
    have hk' := Nat.le_antisymm hk (enum_end er)
    have hG : ∀ x, x ∈ G ↔ x ∈ σ.row := fun x => by
      rcases hb with ⟨rfl, _⟩ | ⟨k', rfl, hb⟩
      · rw [vl] at hk'; exact absurd hk'.symm (Nat.succ_ne_zero _)
      · have ek : k' = σ.be.length := Nat.succ.inj (hk'.trans vl)
        rw [ek] at hb
        unfold ends at hb
        rw [List.getElem?_append_right (Nat.le_refl _), Nat.sub_self] at hb
        obtain rfl := Option.some.inj hb
        rw [hG, List.take_length]
    have subX : ∀ a o, X a = some o → X' a = some o := fun a o e => sub _ _ (xe _ _ e)
    clear hb er hk hk'
    refine x_for (e_bui (e_cons e_int (e_one e_int)) (.range2 (Mini.C.small_nat (n := 1) (Nat.le_of_ble_eq_true rfl)) (Mini.C.small_nat (n := 7) (Nat.le_of_ble_eq_true rfl)))) (.rng 1 7) (for_rule (fun r ρ h => (∀ v ∈ r, ∃ i : Int, v = .int i ∧ i ≠ 0) ∧ ValI adr σ X' w lv e g ρ h) (fun r ρ h I => .rng _ _) (fun v r ρ h K I hK => ?_) (fun ρ h I => ?_) ⟨fun v hv => ?_, .mk V r6 S⟩)
    · obtain ⟨hr, I'⟩ := I
      obtain ⟨i, rfl, i0⟩ := hr v List.mem_cons_self
      induction I' with
      | mk V r6 S =>
      obtain ⟨s1, s2⟩ := says_due I hG i0
      have V1 := V.set (x := 10) (v := .int i) (by decide)
      have r6' : (ρ.set 10 (.int i)) 6 = some (.ref g) := r6
      have og := S.o xg
      have Ed : Ev (lg prog sc (d + 1)) (ρ.set 10 (.int i)) h (.ite (.cmp .isin (.var 10) (.var 6)) (.bool true) (.ite (.cmp .isin (.neg (.var 10)) (.var 6)) (.bool false) .none)) (oB (dueOf G i)) := by
        have A := e_cmp (L := lg prog sc (d + 1)) (e_var (ρ := ρ.set 10 (.int i)) (n := 10) rfl) (e_var r6') (.isin (.set og))
        have A' := e_cmp (L := lg prog sc (d + 1)) (e_neg (e_var (ρ := ρ.set 10 (.int i)) (n := 10) rfl)) (e_var r6') (.isin (.set og))
        unfold dueOf
        by_cases c : i ∈ G
        · rw [if_pos c]
          rw [List.contains_iff_mem.mpr c] at A
          exact e_iteT A (.bool true) e_bool
        · rw [if_neg c]
          rw [Bool.eq_false_iff.mpr fun z => c (List.contains_iff_mem.mp z)] at A
          refine e_iteF A (.bool false) ?_
          by_cases c' : -i ∈ G
          · rw [if_pos c']
            rw [List.contains_iff_mem.mpr c'] at A'
            exact e_iteT A' (.bool true) e_bool
          · rw [if_neg c']
            rw [Bool.eq_false_iff.mpr fun z => c' (List.contains_iff_mem.mp z)] at A'
            exact e_iteF A' (.bool false) e_none
      refine x_let Ed ?_
      have V2 := V1.set (x := 11) (v := oB (dueOf G i)) (by decide)
      have r11 : ((ρ.set 10 (.int i)).set 11 (oB (dueOf G i))) 11 = some (oB (dueOf G i)) := rfl
      have r10 : ((ρ.set 10 (.int i)).set 11 (oB (dueOf G i))) 10 = some (.int i) := rfl
      have En : Ev (lg prog sc (d + 1)) ((ρ.set 10 (.int i)).set 11 (oB (dueOf G i))) h (.ite (.cmp .is (.var 11) .none) .none (.not (.var 11))) (oB ((dueOf G i).map (!·))) := by
        have A := e_cmp (L := lg prog sc (d + 1)) (h := h) (e_var r11) e_none (.is is_oB)
        generalize dueOf G i = D at A r11 ⊢
        rcases D with _ | b
        · exact e_iteT A (.bool true) e_none
        · exact e_iteF A (.bool false) (e_not (e_var r11) (.bool b))
      exact x_iteF (e_orF (e_isnotF (S.says_ev lib V2.r0 (e_var r10)) (e_var r11) s1) (e_or1 (e_isnotF (S.says_ev lib V2.r0 (e_neg (e_var r10))) En s2))) (hK _ _ ⟨fun v hv => hr v (List.mem_cons_of_mem _ hv), .mk V2 r6 S⟩)
    · obtain ⟨_, I'⟩ := I
      clear S V
      induction I' with
      | mk V r6 S =>
      have rl : σ.row.length ≤ 6 := I.room.row
      have Er := e_bui (L := lg prog sc (d + 1)) (e_one (e_len (e_var V.r3) S.ro)) (.range1 (Mini.C.small_nat (Nat.le_trans (iL_length (xs := σ.row) ▸ rl) (Nat.le_of_ble_eq_true rfl))))
      refine x_retE (m_cmpL (m_comp0 (Er.go (.mk (.rng _ _) (comp_none (fun h => Sim adr h σ X') (fun h _ => .rng _ _) (fun v hv h K S kk => ?_) (fun h' S' => S'.nil_eq fun h' S' => K h' (S'.less subX)) S)))))
      rw [iL_length] at hv
      have e0 := rngL_nat (Nat.zero_le σ.row.length)
      rw [show ((0 : Nat) : Int) = 0 from rfl] at e0
      rw [e0, Nat.sub_zero] at hv
      obtain ⟨i, hi, rfl⟩ := List.mem_map.mp hv
      have hi := (List.mem_range'_1.mp hi).2
      rw [Nat.zero_add] at hi
      exact c_raw (L := lg prog sc (d + 1)) (m_not (m_fn (e_cons (e_var V.r0) (e_one (e_var rfl))) (cause_spec S I (List.getElem?_eq_getElem hi) fun h' S' => .mk (.bool true) (.mk (.bool true) (.no rfl (kk h' S'))))))
    · have e0 := rngL_nat (show 1 ≤ 7 by decide)
      rw [show ((1 : Nat) : Int) = 1 from rfl, show ((7 : Nat) : Int) = 7 from rfl] at e0
      rw [e0] at hv
      obtain ⟨i, hi, rfl⟩ := List.mem_map.mp hv
      exact ⟨(i : Int), rfl, by have := (List.mem_range'_1.mp hi).1; omega⟩
end
end Mini.T01
end
section
namespace Mini.C
open Mini
set_option genInjectivity false
set_option genSizeOf false
set_option genSizeOfSpec false
noncomputable def liked (wl : List (Int × Bool)) (xs : List Int) : List (Int × Bool) := xs.foldl (fun es l => tset es l.natAbs (decide (0 < l))) wl
theorem liked_get {wl : List (Int × Bool)} {xs : List Int} {f : Int → Option Bool} (hf : ∀ l ∈ xs, f l.natAbs = some (decide (0 < l))) (v : Int) : tget (liked wl xs) v = if ∃ l ∈ xs, (l.natAbs : Int) = v then f v else tget wl v := by
  induction xs generalizing wl with
  | nil => rw [if_neg fun ⟨l, m, _⟩ => absurd m List.not_mem_nil]; rfl
  | cons x r ih =>
    have z := ih (wl := tset wl x.natAbs (decide (0 < x))) fun l hl => hf l (List.mem_cons_of_mem _ hl)
    show tget (liked (tset wl x.natAbs (decide (0 < x))) r) v = _
    rw [z, tget_tset]
    by_cases c : ∃ l ∈ r, (l.natAbs : Int) = v
    · obtain ⟨l, m, e⟩ := c
      rw [if_pos ⟨l, m, e⟩, if_pos ⟨l, List.mem_cons_of_mem _ m, e⟩]
    · rw [if_neg c]
      by_cases c' : (x.natAbs : Int) = v
      · rw [if_pos c', if_pos ⟨x, List.mem_cons_self, c'⟩, ← c', hf x List.mem_cons_self]
      · rw [if_neg c', if_neg fun ⟨l, m, e⟩ => (List.mem_cons.mp m).elim (fun q => c' (q ▸ e)) fun m => c ⟨l, m, e⟩]
theorem liked_keyed {wl : List (Int × Bool)} {xs : List Int} (k : Keyed 6 wl) (h : ∀ l ∈ xs, l.natAbs ≤ 6) : Keyed 6 (liked wl xs) := by
  induction xs generalizing wl with
  | nil => exact k
  | cons x r ih => exact ih (wl := tset wl x.natAbs (decide (0 < x))) (k.set _ (by rw [Int.natAbs_natCast]; exact h x List.mem_cons_self)) fun l hl => h l (List.mem_cons_of_mem _ hl)
theorem liked_push {wl : List (Int × Bool)} {xs : List Int} {x : Int} : liked wl (xs ++ [x]) = tset (liked wl xs) x.natAbs (decide (0 < x)) := by unfold liked; rw [List.foldl_append]; rfl
structure World (σ : St) (X : XH) (w lv lk : Nat) (Fs : List (List Int)) (us tail : List MV) (wl : List (Int × Bool)) : Prop where
  ww : X w = some (.sdict [(36, .ref lv), (21, .ref lk)])
  xl : X lv = some (.list (us ++ tail))
  lev : LevL X Fs us
  wk : X lk = some (.idict (mvs .bool wl))
  kw : Keyed 6 wl
  eq : ∀ k, tget σ.li k = tget wl k
theorem World.plain {σ : St} {X : XH} {w lv lk : Nat} {Fs : List (List Int)} {us : List MV} {wl : List (Int × Bool)} (W : World σ X w lv lk Fs us [] wl) : WorldR X w lv lk Fs us wl := ⟨W.ww, by rw [W.xl, List.append_nil], W.lev, W.wk⟩
theorem World.like {σ : St} {X : XH} {w lv lk B : Nat} {cls : List (List Int)} {Fs : List (List Int)} {us tail : List MV} {wl : List (Int × Bool)} (W : World σ X w lv lk Fs us tail wl) (I : Inv 6 B cls σ) : Like σ.li wl := ⟨I.room.li.nodup, W.kw.nodup, W.eq⟩
noncomputable def Held (X X' : XH) (w lk : Nat) : Prop := ∀ a o, X a = some o → a ≠ w → a ≠ lk → X' a = some o
theorem Held.trans {X X' X'' : XH} {w lk : Nat} (a : Held X X' w lk) (b : Held X' X'' w lk) : Held X X'' w lk := fun c o e n1 n2 => b c o (a c o e n1 n2) n1 n2
end Mini.C
namespace Mini.T01
open Mini Mini.C
set_option genInjectivity false
set_option genSizeOf false
set_option genSizeOfSpec false
section
variable {sc : List Int} {d : Nat} {adr : Tag → Nat} {h : MHeap} {σ : St} {X : XH} {Q : KV} {ρ : Vars} {R : KF} {B : Nat} {cls : List (List Int)} {Fs : List (List Int)} {w lv lk : Nat} {us tail : List MV} {wl : List (Int × Bool)}
theorem thrice (hB : B ≤ 1000) (S : Sim adr h σ X) (q : Quiet B cls σ Fs) (W : World σ X w lv lk Fs us [] wl) (r0 : ρ 0 = some (.ref (adr .s))) (r1 : ρ 1 = some (.ref w)) (K : ∀ h' adr', adr' .s = adr .s → Sim adr' h' σ X → Q (.bool true) h') :
    ev (lg prog sc (d + 3)) (.and (.cons (.callF 5 (.cons (.var 0) (.cons (.var 1) .nil))) (.cons (.cmp .eq (.callM (.var 0) 16 .nil) (.neg (.int 1))) (.cons (.callF 5 (.cons (.var 0) (.cons (.var 1) .nil))) .nil)))) ρ false Q h := by
  have I := q.st.inv
  have es : spreadF 0 σ = some (-1, σ) := if_pos (Nat.le_of_eq q.seen.symm)
  refine m_and (m_fn (e_cons (e_var r0) (e_one (e_var r1))) (right_spec (d := d + 1) S q W.plain (W.like I) hB fun h1 S1 => f_in (.yes rfl (m_and (m_cmpL (m_meth (e_var r0) S1.s lib.mSpread e_nil (spread_spec lib S1 es fun h2 adr2 a2 S2 => f_in ((e_neg e_int).go (.mk (.eq (.flat (.at (.ii _ _)))) (.yes rfl ?_))))))))))
  exact m_and1 (m_fn (e_cons (e_var r0) (e_one (e_var r1))) (a2 ▸ right_spec (d := d + 1) S2 q W.plain (W.like I) hB fun h3 S3 => f_in (K _ _ a2 S3)))
end
end Mini.T01
end
section
namespace Mini.C
open Mini
theorem put_id {X : XH} {a : Nat} {o : MObj} (h : X a = some o) : X.put a o = X := funext fun b => by
  by_cases c : b = a
  · rw [c, put_same, h]
  · rw [put_ne c]
end Mini.C
namespace Mini.T01
open Mini Mini.C
set_option genInjectivity false
set_option genSizeOf false
set_option genSizeOfSpec false
structure Vb (ρ : Vars) (s w H : Nat) : Prop where
  r0 : ρ 0 = some (.ref s)
  r1 : ρ 1 = some (.ref w)
  r2 : ρ 2 = some (iN H)
theorem Vb.set {ρ : Vars} {s w H x : Nat} {v : MV} (V : Vb ρ s w H) (hx : 3 ≤ x) : Vb (ρ.set x v) s w H :=
  have k : ∀ y, y < 3 → ρ.set x v y = ρ y := fun y hy => if_neg (Nat.ne_of_lt (Nat.lt_of_lt_of_le hy hx))
  ⟨(k 0 (by decide)).trans V.r0, (k 1 (by decide)).trans V.r1, (k 2 (by decide)).trans V.r2⟩
noncomputable def bkBody : MSs := MS.bd (MSs.hd (MS.bd (MSs.hd (dropS 3 f__law_back.body))))
section
variable {sc : List Int} {d : Nat} {adr : Tag → Nat} {h : MHeap} {σ : St} {X : XH} {Q : KV} {ρ : Vars} {R : KF} {B s : Nat} {cls : List (List Int)} {Fs : List (List Int)} {w lv lk : Nat} {us tail : List MV} {wl : List (Int × Bool)}
inductive BkI (adr : Tag → Nat) (σ : St) (X : XH) (w lv lk H : Nat) (wl : List (Int × Bool)) (xs : List Int) (r : List MV) (ρ : Vars) (h : MHeap) : Prop
  | mk {done rest : List Int} (e : xs = done ++ rest) (er : r = iL rest) (V : Vb ρ (adr .s) w H) (S : Sim adr h σ (X.put lk (.idict (mvs .bool (liked wl done))))) : BkI adr σ X w lv lk H wl xs r ρ h
theorem liked_loop {H a : Nat} {xs : List Int} (xl : xs.length ≤ 6) (wll : wl.length ≤ 13) (S : Sim adr h σ X) (V : Vb ρ (adr .s) w H) (ww : X w = some (.sdict [(36, .ref lv), (21, .ref lk)])) (wk : X lk = some (.idict (mvs .bool wl))) (xa : X a = some (.list (iL xs)))
    (K : ∀ ρ' h', Vb ρ' (adr .s) w H → Sim adr h' σ (X.put lk (.idict (mvs .bool (liked wl xs)))) → R .next ρ' h') : forL (fun h => Items h (.ref a) (iL xs)) (forB (lg prog sc d) 6 bkBody) (iL xs) R ρ h := by
  have nwk : w ≠ lk := ne_obj ww wk fun q => MObj.noConfusion q
  have nak : a ≠ lk := ne_obj xa wk fun q => MObj.noConfusion q
  refine for_rule (BkI adr σ X w lv lk H wl xs) (fun r ρ h I => ?_) (fun v r ρ h K I hK => ?_) (fun ρ h I => ?_) (.mk (done := []) rfl rfl V (by rw [show liked wl [] = wl from rfl, put_id wk]; exact S))
  · induction I with
    | mk e er V S => exact .list (S.o ((put_ne nak).trans xa))
  · induction I with
    | @mk done rest e er V S =>
    rcases rest with _ | ⟨l, rest⟩
    · exact absurd er (List.cons_ne_nil _ _)
    obtain ⟨rfl, rfl⟩ := List.cons.inj er
    have dl : done.length + 1 ≤ 6 := by
      rw [e, List.length_append, List.length_cons] at xl
      omega
    have ll : (liked wl done).length ≤ 19 := by
      have go : ∀ (xs : List Int) (es : List (Int × Bool)), (liked es xs).length ≤ es.length + xs.length := fun xs => by
        induction xs with
        | nil => exact fun es => Nat.le_refl _
        | cons x r ih => exact fun es => Nat.le_trans (ih (tset es x.natAbs (decide (0 < x)))) (by have := tset_len (es := es) (k := (x.natAbs : Int)) (v := decide (0 < x)); rw [List.length_cons]; omega)
      have := go done wl
      omega
    have V1 := V.set (x := 6) (v := .int l) (by decide)
    have S1 := S.poke put_same (.idict (mvs .bool (liked wl (done ++ [l]))))
    rw [put_put] at S1
    refine x_setI (e_cmp (e_var rfl) e_int (.gt _ _)) (e_sub (e_var V1.r1) (e_str (s := 21)) (.sdict (S.o ((put_ne nwk).trans ww)) rfl)) (e_abs (e_var rfl)) (.idict (S.o put_same) (by rw [mvs_length]; exact Nat.lt_of_le_of_lt ll (Nat.lt_of_lt_of_le (by decide : 19 < 20) (Nat.le_of_ble_eq_true rfl)))) (hK _ _ (.mk (done := done ++ [l]) (e.trans (by rw [List.append_assoc]; rfl)) rfl V1 ?_))
    rw [kset_mvs]
    rw [liked_push] at S1 ⊢
    exact S1
  · induction I with
    | @mk done rest e er V S =>
    rcases rest with _ | ⟨l, rest⟩
    · rw [List.append_nil] at e
      subst e
      exact K ρ h V S
    · exact absurd er (List.cons_ne_nil _ _).symm
theorem LevL.held {X' : XH} {Gs : List (List Int)} {vs : List MV} {m : List (Nat × MV)} {es : List (Int × MV)} (h : LevL X Gs vs) (held : Held X X' w lk) (ww : X w = some (.sdict m)) (wk : X lk = some (.idict es)) : LevL X' Gs vs := h.imp fun _ _ q => by
  induction q with
  | mk e => exact .mk (held _ _ e (ne_obj e ww fun q => MObj.noConfusion q) (ne_obj e wk fun q => MObj.noConfusion q))
theorem _root_.Mini.C.World.back {X7 : XH} {H n lv' : Nat} {kn li : List (Int × Bool)} (W : World σ X w lv lk Fs us tail wl) (I : Inv 6 B cls σ) (hli : ∀ v : Int, tget li v = if ∃ l ∈ σ.row.drop n, (l.natAbs : Int) = v then tget σ.kn v else tget σ.li v)
    (h1 : X7 w = some (.sdict [(36, .ref lv'), (21, .ref lk)])) (h2 : X7 lv' = some (.list (us.take (H + 1)))) (h3 : X7 lk = some (.idict (mvs .bool (liked wl (σ.row.drop n))))) (held : Held X X7 w lk) :
    World { σ with row := σ.row.take n, kn := kn, li := li, be := σ.be.take H, seen := n } X7 w lv' lk (Fs.take (H + 1)) (us.take (H + 1)) [] (liked wl (σ.row.drop n)) := by
  have dm : ∀ l ∈ σ.row.drop n, l ∈ σ.row := fun l hl => List.mem_of_mem_drop hl
  refine ⟨h1, by rw [List.append_nil]; exact h2, LevL.held (All2.take (H + 1) W.lev) held W.ww W.wk, h3, liked_keyed W.kw fun l hl => (I.known.rng l (dm l hl)).2, fun v => ?_⟩
  refine (hli v).trans ?_
  rw [liked_get (f := fun v => tget σ.kn v) (fun l hl => (I.known.kn l (by have := I.known.rng l (dm l hl); omega)).mp (dm l hl)) v, W.eq v]
theorem back_walk (hB : B ≤ 1000) (S : Sim adr h σ X) (st : Stand B cls σ Fs s) (W : World σ X w lv lk Fs us tail wl) (len : us.length + tail.length = σ.be.length + 1) (H : Nat) (hF : H < σ.be.length → H < Fs.length) (hq : σ.be.length ≤ H → Quiet B cls σ Fs ∧ tail = [])
    (K : ∀ h' adr' σ' X' lv' Fs' us' wl', adr' .s = adr .s → Quiet B cls σ' Fs' → World σ' X' w lv' lk Fs' us' [] wl' → Held X X' w lk → σ'.be.length ≤ σ.be.length → (H = 0 → σ'.be = []) → (∀ F, Fs[0]? = some F → Fs'[0]? = some F) → (∀ b o, X b = some o → b ≠ lv → b ≠ lv') → Sim adr' h' σ' X' → Q (.bool true) h') : callD prog sc (d + 4) 6 [.ref (adr .s), .ref w, iN H] Q h := by
  have I := st.inv
  refine enter (fn := f__law_back) rfl rfl rfl (x_asgs' (l_cons ((e_ari (e_len (e_sub (e_var rfl) e_str (.sdict (S.o W.ww) rfl)) (S.o W.xl)) e_int (.sub _ _)).go (l_one (m_bui (e_one (S.at rfl rfl)) (.listL S.ro) (f_in ⟨Nat.le_of_ble_eq_true rfl, rfl, a_var (a_var (a_nil ?_))⟩))))))
  have lenI : ((us ++ tail).length : Int) - 1 = (σ.be.length : Int) := by rw [List.length_append, len]; omega
  rw [lenI]
  have S1 := S.push (.list (iL σ.row))
  refine x_var (m_bui (e_one (S1.at rfl rfl)) (.listL S1.be) (f_in ?_))
  have S2 := S1.push (.list (nL σ.be))
  have sub2 : ∀ a o, X a = some o → ((X.put h.next (.list (iL σ.row))).put (h.next + 1) (.list (nL σ.be))) a = some o := fun a o e => S1.sub_put _ _ (S.sub_put _ _ e)
  have xr := S1.sub_put (o := .list (nL σ.be)) _ _ (put_same (X := X) (a := h.next) (o := .list (iL σ.row)))
  have xb := put_same (X := X.put h.next (.list (iL σ.row))) (a := h.next + 1) (o := .list (nL σ.be))
  rcases Nat.lt_or_ge H σ.be.length with hlt | hge
  · have hH : σ.be[H]? = some σ.be[H] := List.getElem?_eq_getElem hlt
    generalize σ.be[H] = n at hH
    have hF := hF hlt
    obtain ⟨kn, li, e1, q', hn, hli⟩ := st.back hB hH hF
    refine x_expr (m_meth (e_var rfl) S2.s lib.mBack (e_one (e_var rfl)) (back_spec lib S2 H e1 fun h3 adr3 a3 S3 => f_in ?_))
    have rl : σ.row.length ≤ 6 := I.room.row
    have dl : (σ.row.drop n).length ≤ 6 := Nat.le_trans (by rw [List.length_drop]; exact Nat.sub_le ..) rl
    have wll : wl.length ≤ 13 := W.kw.len
    refine (fun (key : ∀ ρ : Vars, Vb ρ (adr3 .s) w H → ρ 3 = some (iN σ.be.length) → ρ 4 = some (.ref h.next) → ρ 5 = some (.ref (h.next + 1)) → exs (lg prog sc (d + 3)) (dropS 3 f__law_back.body) (retQ Q) ρ h3) => key _ ⟨a3 ▸ rfl, rfl, rfl⟩ rfl rfl rfl) fun ρ V r3 r4 r5 => ?_
    have Ec := e_cmp (L := lg prog sc (d + 3)) (h := h3) (e_var V.r2) (e_var r3) (.lt _ _)
    rw [decide_eq_true (Int.ofNat_lt.mpr hlt)] at Ec
    have sf := SlFrom.list (n : Int) (S3.o xr)
    rw [iL_length, clamp_nat, iL_drop, drop_min] at sf
    have S4 := S3.push (.list (iL (σ.row.drop n)))
    have sub4 : ∀ a o, X a = some o → _ := fun a o e => S3.sub_put (o := .list (iL (σ.row.drop n))) a o (sub2 a o e)
    refine x_iteT Ec (x_for' (m_from (e_var r4) (e_sub (e_var r5) (e_var V.r2) (.list (S3.o xb) (.pos (nL_length.symm ▸ hlt)) (nL_at hH))) sf (f_in (.mk (.list (S4.o put_same)) (liked_loop dl wll S4 V (sub4 _ _ W.ww) (sub4 _ _ W.wk) put_same fun ρ5 h5 V5 S5 => ?_)))))
    have nwk : w ≠ lk := ne_obj W.ww W.wk fun q => MObj.noConfusion q
    have nvk : lv ≠ lk := ne_obj W.xl W.wk fun q => MObj.noConfusion q
    have ww5 := (put_ne (o := .idict (mvs .bool (liked wl (σ.row.drop n)))) nwk).trans (sub4 _ _ W.ww)
    have xl5 := (put_ne (o := .idict (mvs .bool (liked wl (σ.row.drop n)))) nvk).trans (sub4 _ _ W.xl)
    have ul : us.length = Fs.length := W.lev.length
    have st' := SlTo.list (sc := sc) ((H + 1 : Nat) : Int) (S5.o xl5)
    rw [clamp_nat, Nat.min_eq_left (by rw [List.length_append, ul]; exact Nat.le_trans hF (Nat.le_add_right _ _)), List.take_append_of_le_length (by rw [ul]; exact hF)] at st'
    have S6 := S5.push (.list (us.take (H + 1)))
    have ww6 := S5.sub_put (o := .list (us.take (H + 1))) _ _ ww5
    have S7 := S6.poke ww6 (.sdict [(36, .ref h5.next), (21, .ref lk)])
    refine x_sub (m_to (e_sub (e_var V5.r1) (e_str (s := 36)) (.sdict (S5.o ww5) rfl)) (e_ari (e_var V5.r2) e_int (.add _ 1)) st' (f_in (a_setI (e_var V5.r1) e_str (.sdict (S6.o ww6) (Nat.le_of_ble_eq_true rfl)) ?_)))
    have held : ∀ a o, X a = some o → a ≠ w → a ≠ lk → (((((((X.put h.next (.list (iL σ.row))).put (h.next + 1) (.list (nL σ.be))).put h3.next (.list (iL (σ.row.drop n)))).put lk (.idict (mvs .bool (liked wl (σ.row.drop n))))).put h5.next (.list (us.take (H + 1)))).put w (.sdict [(36, .ref h5.next), (21, .ref lk)])) a = some o) := fun a o e n1 n2 => (put_ne n1).trans (S5.sub_put _ _ ((put_ne n2).trans (sub4 _ _ e)))
    have n5w : h5.next ≠ w := fun z => ns ((S5.none_at (Nat.le_refl _)).symm.trans (z ▸ ww5))
    have W' := W.back (H := H) (n := n) (kn := kn) (li := li) (lv' := h5.next) I hli put_same ((put_ne n5w).trans put_same) ((put_ne nwk.symm).trans (S5.sub_put _ _ put_same)) held
    exact x_retE (r := .nil) (thrice hB S7 q' W' V5.r0 V5.r1 fun h8 adr8 a8 S8 => K h8 adr8 _ _ h5.next (Fs.take (H + 1)) (us.take (H + 1)) (liked wl (σ.row.drop n)) (a8.trans a3) q' W' held (by rw [List.length_take]; exact Nat.min_le_right ..) (fun z => by rw [z]; rfl) (fun F e => by rw [List.getElem?_take, if_pos (Nat.succ_pos H)]; exact e) (fun b o e n z => by
      have nn := S5.none_at (Nat.le_refl _)
      rw [← z] at nn
      by_cases y : b = lk
      · rw [y, put_same] at nn; exact ns nn.symm
      · rw [put_ne y, sub4 _ _ e] at nn; exact ns nn.symm) S8)
  · obtain ⟨q, rfl⟩ := hq hge
    refine x_expr (m_meth (e_var rfl) S2.s lib.mBack (e_one (e_var rfl)) (back_spec lib S2 H (back_none hge) fun h3 adr3 a3 S3 => f_in ?_))
    refine x_iteF (by
      have E := e_cmp (L := lg prog sc (d + 3)) (h := h3) (e_var (ρ := (((bindV [.ref (adr .s), .ref w, iN H]).set 3 (iN σ.be.length)).set 4 (.ref h.next)).set 5 (.ref (h.next + 1))) (n := 2) rfl) (e_var (n := 3) rfl) (.lt _ _)
      rw [decide_eq_false fun z => absurd (Int.ofNat_lt.mp z) (Nat.not_lt.mpr hge)] at E
      exact E) ?_
    exact x_retE (r := .nil) (thrice hB (S3.less sub2) q W (a3 ▸ rfl) rfl fun h4 adr4 a4 S4 => K h4 adr4 σ X lv Fs us wl (a4.trans a3) q W (fun a o e _ _ => e) (Nat.le_refl _) (fun z => by rw [z] at hge; exact List.eq_nil_of_length_eq_zero (Nat.le_zero.mp hge)) (fun F e => e) (fun b o _ n => n) S4)
end
end Mini.T01
end
section
namespace Mini.T01
open Mini Mini.C
set_option genInjectivity false
set_option genSizeOf false
set_option genSizeOfSpec false
structure Keep (cls : List (List Int)) (cs : List Int) (f c a n0 : Nat) (F0 : List Int) (X : XH) (k : Nat) : Prop where
  F : Feed X f c cs k
  R : X a = some (.list (tL cls))
  x0 : X n0 = some (.set F0)
structure Turn (B : Nat) (cls : List (List Int)) (cs : List Int) (f c a w lk n0 : Nat) (F0 : List Int) (σ : St) (X : XH) (k lv : Nat) (Fs : List (List Int)) (us : List MV) (wl : List (Int × Bool)) : Prop where
  q : Quiet B cls σ Fs
  W : World σ X w lv lk Fs us [] wl
  K : Keep cls cs f c a n0 F0 X k
  z0 : Fs[0]? = some F0
  na : a ≠ lv
  nc : c ≠ lv
inductive TurnE (B : Nat) (cls : List (List Int)) (cs : List Int) (f c a w lk n0 : Nat) (F0 : List Int) (s m k0 : Nat) (h : MHeap) : Prop
  | mk {adr : Tag → Nat} {σ : St} {X : XH} {k lv : Nat} {Fs : List (List Int)} {us : List MV} {wl : List (Int × Bool)} (e : adr .s = s) (T : Turn B cls cs f c a w lk n0 F0 σ X k lv Fs us wl) (S : Sim adr h σ X) (hb : σ.be.length ≤ m) (hk : k ≤ k0) : TurnE B cls cs f c a w lk n0 F0 s m k0 h
section
variable {sc : List Int} {d : Nat} {adr : Tag → Nat} {h : MHeap} {σ : St} {X X' : XH} {Q : KV} {ρ : Vars} {R : KF} {B s k m k0 : Nat} {cls : List (List Int)} {Fs : List (List Int)} {f c a w lv lk n0 : Nat} {us : List MV} {wl : List (Int × Bool)} {cs F0 : List Int}
theorem TurnE.up {m' k' : Nat} (T : TurnE B cls cs f c a w lk n0 F0 s m k0 h) (h1 : m ≤ m') (h2 : k0 ≤ k') : TurnE B cls cs f c a w lk n0 F0 s m' k' h := by
  induction T with
  | mk e T S hb hk => exact .mk e T S (Nat.le_trans hb h1) (Nat.le_trans hk h2)
theorem Keep.sub (K : Keep cls cs f c a n0 F0 X k) (hx : ∀ a o, X a = some o → X' a = some o) : Keep cls cs f c a n0 F0 X' k := ⟨⟨hx _ _ K.F.feed, hx _ _ K.F.cells⟩, hx _ _ K.R, hx _ _ K.x0⟩
theorem Keep.draw (K : Keep cls cs f c a n0 F0 X k) : Keep cls cs f c a n0 F0 (X.put f (feedO c (k + 1))) (k + 1) :=
  ⟨K.F.next, (put_ne (ne_obj K.R K.F.feed fun q => MObj.noConfusion q)).trans K.R, (put_ne (ne_obj K.x0 K.F.feed fun q => MObj.noConfusion q)).trans K.x0⟩
theorem feed_w {l k : Nat} {m : List (Nat × MV)} : feedO c k ≠ .sdict ((36, .ref l) :: m) := fun q => by
  have z := MObj.sdict.inj q
  exact absurd (Prod.mk.inj (List.cons.inj z).1).1 (by decide)
theorem Keep.held (K : Keep cls cs f c a n0 F0 X k) {tail : List MV} (held : Held X X' w lk) (W : World σ X w lv lk Fs us tail wl) : Keep cls cs f c a n0 F0 X' k :=
  ⟨⟨held _ _ K.F.feed (ne_obj K.F.feed W.ww feed_w) (ne_obj K.F.feed W.wk fun q => MObj.noConfusion q), held _ _ K.F.cells (ne_obj K.F.cells W.ww fun q => MObj.noConfusion q) (ne_obj K.F.cells W.wk fun q => MObj.noConfusion q)⟩,
   held _ _ K.R (ne_obj K.R W.ww fun q => MObj.noConfusion q) (ne_obj K.R W.wk fun q => MObj.noConfusion q), held _ _ K.x0 (ne_obj K.x0 W.ww fun q => MObj.noConfusion q) (ne_obj K.x0 W.wk fun q => MObj.noConfusion q)⟩
theorem Keep.atLv (K : Keep cls cs f c a n0 F0 X k) {xs ys : List MV} (xl : X lv = some (.list xs)) (na : a ≠ lv) (nc : c ≠ lv) : Keep cls cs f c a n0 F0 (X.put lv (.list ys)) k :=
  ⟨⟨(put_ne (ne_obj K.F.feed xl fun q => MObj.noConfusion q)).trans K.F.feed, (put_ne nc).trans K.F.cells⟩, (put_ne na).trans K.R, (put_ne (ne_obj K.x0 xl fun q => MObj.noConfusion q)).trans K.x0⟩
theorem LevL.sub {Gs : List (List Int)} {vs : List MV} (h : LevL X Gs vs) (hx : ∀ a o, X a = some o → X' a = some o) : LevL X' Gs vs := h.imp fun _ _ q => by
  induction q with | mk e => exact .mk (hx _ _ e)
theorem LevL.put {xs : List MV} {o : MObj} {Gs : List (List Int)} {vs : List MV} (h : LevL X Gs vs) (xl : X lv = some (.list xs)) : LevL (X.put lv o) Gs vs := h.imp fun _ _ q => by
  induction q with | mk e => exact .mk ((put_ne (ne_obj e xl fun q => MObj.noConfusion q)).trans e)
theorem _root_.Mini.C.World.sub {tail : List MV} (W : World σ X w lv lk Fs us tail wl) (hx : ∀ a o, X a = some o → X' a = some o) : World σ X' w lv lk Fs us tail wl := ⟨hx _ _ W.ww, hx _ _ W.xl, LevL.sub W.lev hx, hx _ _ W.wk, W.kw, W.eq⟩
theorem _root_.Mini.C.World.draw {tail : List MV} (W : World σ X w lv lk Fs us tail wl) (F : Feed X f c cs k) : World σ (X.put f (feedO c (k + 1))) w lv lk Fs us tail wl :=
  ⟨(put_ne (ne_obj F.feed W.ww feed_w).symm).trans W.ww, (put_ne (ne_obj W.xl F.feed fun q => MObj.noConfusion q)).trans W.xl, W.lev.imp fun _ _ q => by
    induction q with | mk e => exact .mk ((put_ne (ne_obj e F.feed fun q => MObj.noConfusion q)).trans e), (put_ne (ne_obj W.wk F.feed fun q => MObj.noConfusion q)).trans W.wk, W.kw, W.eq⟩
theorem _root_.Mini.C.World.push {σ' : St} {Gs : List (List Int)} {vs tail' : List MV} (W : World σ X w lv lk Fs us [] wl) (eli : σ'.li = σ.li) (L : LevL X Gs vs) : World σ' (X.put lv (.list (vs ++ tail'))) w lv lk Gs vs tail' wl :=
  ⟨(put_ne (ne_obj W.ww W.xl fun q => MObj.noConfusion q)).trans W.ww, put_same, LevL.put L W.xl, (put_ne (ne_obj W.wk W.xl fun q => MObj.noConfusion q)).trans W.wk, W.kw, fun k => (congrArg (fun l => tget l k) eli).trans (W.eq k)⟩
end
end Mini.T01
end
section
namespace Mini.T01
open Mini Mini.C
set_option genInjectivity false
set_option genSizeOf false
set_option genSizeOfSpec false
structure Vg (ρ : Vars) (f s w a nF : Nat) : Prop where
  r0 : ρ 0 = some (.ref f)
  r1 : ρ 1 = some (.ref s)
  r2 : ρ 2 = some (.ref w)
  r3 : ρ 3 = some (.ref a)
  r4 : ρ 4 = some (.ref nF)
theorem Vg.set {ρ : Vars} {f s w a nF x : Nat} {v : MV} (V : Vg ρ f s w a nF) (hx : 5 ≤ x) : Vg (ρ.set x v) f s w a nF :=
  have k : ∀ y, y < 5 → ρ.set x v y = ρ y := fun y hy => if_neg (Nat.ne_of_lt (Nat.lt_of_lt_of_le hy hx))
  ⟨(k 0 (by decide)).trans V.r0, (k 1 (by decide)).trans V.r1, (k 2 (by decide)).trans V.r2, (k 3 (by decide)).trans V.r3, (k 4 (by decide)).trans V.r4⟩
section
variable {sc : List Int} {d : Nat} {adr : Tag → Nat} {h : MHeap} {σ : St} {X X' : XH} {Q : KV} {ρ : Vars} {R : KF} {B s k m k0 : Nat} {cls : List (List Int)} {Fs : List (List Int)} {f c a w lv lk n0 nF : Nat} {us : List MV} {wl : List (Int × Bool)} {cs F0 F : List Int} {l : Int}
theorem closeR_congr {P P' : Int → Prop} {due : Option (List Int)} (h : CloseR cls P due) (e : ∀ x, P x ↔ P' x) : CloseR cls P' due := by
  induction h with
  | none h => exact .none fun U hU => h U fun l q => hU l ((e l).mp q)
  | some nd m s u => exact .some nd (fun l q => m l ((e l).mpr q)) s fun U hU => u U fun l q => hU l ((e l).mp q)
theorem well_walk (hB : B ≤ 1000) {σ' : St} {n : Nat} {r : Int} {G : List Int} (S : Sim adr h σ' X) (V : Vg ρ f (adr .s) w a nF) (r8 : ρ 8 = some (.int r)) (r9 : ρ 9 = some (.ref n)) (er : r = -1) (q : Quiet B cls σ' (Fs ++ [G])) (W : World σ X w lv lk Fs us [] wl) (eli : σ'.li = σ.li) (xn : X n = some (.set G))
    (Kp : Keep cls cs f c a n0 F0 X k) (na : a ≠ lv) (nc : c ≠ lv) (z0 : Fs[0]? = some F0) (ul : us.length ≤ 1000) (K : ∀ h', TurnE B cls cs f c a w lk n0 F0 (adr .s) σ'.be.length k h' → Q (.bool true) h') :
    exs (lg prog sc (d + 4)) (dropS 8 f__law_begin.body) (retQ Q) ρ h := by
  subst er
  have xl : X lv = some (.list us) := by rw [W.xl, List.append_nil]
  have S1 := S.poke xl (.list (us ++ [.ref n] ++ []))
  have W1 := W.push (σ' := σ') (Gs := Fs ++ [G]) (vs := us ++ [.ref n]) (tail' := []) eli (All2.append (All2.one (SetAt.mk xn)) W.lev)
  have K1 := Kp.atLv (ys := us ++ [.ref n] ++ []) xl na nc
  have Ei := e_cmp (L := lg prog sc (d + 4)) (h := h) (e_var r9) e_none (.isnot (.rn n))
  refine x_iteT Ei (x_expr (m_append (e_sub (e_var V.r2) e_str (.sdict (S.o W.ww) rfl)) (S.o xl) (e_var r9) (Nat.lt_of_le_of_lt ul (Nat.lt_of_lt_of_le (by decide : 1000 < 1001) (Nat.le_of_ble_eq_true rfl))) (f_in ?_)))
  rw [List.append_nil] at S1
  refine x_retE (r := .nil) (m_and ((e_cmp (e_var r8) (e_neg e_int) (.eq (.flat (.at (.ii _ _))))).go (.yes rfl (m_and1 (m_fn (e_cons (e_var V.r1) (e_one (e_var V.r2))) (right_spec (d := d + 2) S1 q (by rw [List.append_nil] at W1; exact W1.plain) (by rw [List.append_nil] at W1; exact W1.like q.st.inv) hB fun h2 S2 => f_in (K _ (.mk rfl ⟨q, W1, K1, ?_, na, nc⟩ (by rw [List.append_nil]; exact S2) (Nat.le_refl _) (Nat.le_refl _)))))))))
  rw [List.getElem?_append_left (List.getElem?_eq_some_iff.mp z0).1]
  exact z0
theorem clash_walk (hB : B ≤ 1000) {σ' : St} {num : Nat} {cl : List Int} (S : Sim adr h σ' X) (V : Vg ρ f (adr .s) w a nF) (r8 : ρ 8 = some (iN num)) (r9 : ρ 9 = some .none) (hr : σ'.rows[num]? = some cl) (hf : ∀ m ∈ cl, -m ∈ σ'.row) (st : Stand B cls σ' Fs s) (len : σ'.be.length = Fs.length) (hp : 0 < Fs.length)
    (W : World σ X w lv lk Fs us [] wl) (eli : σ'.li = σ.li) (Kp : Keep cls cs f c a n0 F0 X k) (na : a ≠ lv) (nc : c ≠ lv) (z0 : Fs[0]? = some F0) (ul : us.length ≤ 1000) (hk : k < fitN) (K : ∀ h', TurnE B cls cs f c a w lk n0 F0 (adr .s) σ'.be.length (k + 1) h' → Q (.bool true) h') :
    exs (lg prog sc (d + 4)) (dropS 8 f__law_begin.body) (retQ Q) ρ h := by
  have xl : X lv = some (.list us) := by rw [W.xl, List.append_nil]
  have I := st.inv
  have G := I.rows cl (List.mem_of_getElem? hr)
  have hkr := (List.getElem?_eq_some_iff.mp hr).1
  have El := e_cmp (L := lg prog sc (d + 4)) (h := h) (e_var r8) (e_int (i := 0)) (.lt _ _)
  rw [decide_eq_false fun z => absurd (Int.natCast_nonneg num) (Int.not_le.mpr z)] at El
  refine x_iteF (e_cmp (e_var r9) e_none (.isnot .nn)) (x_ite' (m_orF El (m_or1 (m_cmpL (m_comp (emb := .int) (f := fun _ => false) (g := .int) (e_sub (S.at V.r1 rfl) (e_var r8) (.list S.R (.pos (rL_length.symm ▸ hkr)) (rL_at hkr))) (.list (S.row_obj' hr)) (fun m hm _ H => c_one (e_isnotF (b := some false) (S.says_ev lib V.r1 (e_var rfl)) e_bool ((I.known.says (by have := G.rng m hm; omega)).2.mpr (hf m hm))) H) (fun _ _ _ => e_var rfl) (Nat.le_trans G.len (Nat.le_of_ble_eq_true rfl)) (S.nil_ne fun h1 S1 => .no (by rw [empty_filter, List.any_eq_false.mpr fun _ _ => Bool.false_ne_true]; rfl) ?_))))))
  have S2 := S1.poke xl (.list (us ++ [.none]))
  have W2 := W.push (σ' := σ') (tail' := [.none]) eli W.lev
  have K2 := Kp.atLv (ys := us ++ [.none]) xl na nc
  have ul2 : us.length = Fs.length := W.lev.length
  have lenI : ((us ++ [MV.none]).length : Int) - 1 = (us.length : Int) := by rw [List.length_append]; show ((us.length + 1 : Nat) : Int) - 1 = _; omega
  refine x_expr (m_append (e_sub (e_var V.r2) e_str (.sdict (S1.o W.ww) rfl)) (S1.o xl) e_none (Nat.lt_of_le_of_lt ul (Nat.lt_of_lt_of_le (by decide : 1000 < 1001) (Nat.le_of_ble_eq_true rfl))) (f_in ?_))
  have Ed := e_ari (L := lg prog sc (d + 4)) (e_len (e_sub (e_var V.r2) (e_str (s := 36)) (.sdict (S2.o W2.ww) rfl)) (S2.o W2.xl)) (e_int (i := 1)) (.sub _ _)
  rw [lenI] at Ed
  refine x_retE (r := .nil) (m_fn' (l_cons ((e_var V.r1).go (l_cons ((e_var V.r2).go (l_one (m_fn (e_cons (e_var V.r0) (e_one Ed)) (draw1 S2 K2.F (Int.ofNat_lt.mpr (ul2 ▸ hp)) hk fun r y0 y1 h5 S5 => f_in ?_))))))))
  obtain ⟨H, rfl⟩ := Int.eq_ofNat_of_zero_le y0
  have hH : H < us.length := Int.ofNat_lt.mp y1
  have W5 := W2.draw K2.F
  have K5 := K2.draw
  refine back_walk hB S5 st W5 (by rw [ul2, len]; rfl) H (fun _ => ul2 ▸ hH) (fun z => absurd (ul2 ▸ hH) (Nat.not_lt.mpr (len ▸ z))) fun h6 adr6 σ6 X6 lv6 Fs6 us6 wl6 e6 q6 W6 held hle _ hz hlv S6 => f_in (K h6 (.mk e6 ⟨q6, W6, K5.held held W5, hz _ z0, hlv _ _ K5.R na, hlv _ _ K5.F.cells nc⟩ S6 hle (Nat.le_refl _)))
end
end Mini.T01
end
section
namespace Mini.T01
open Mini Mini.C
set_option genInjectivity false
set_option genSizeOf false
set_option genSizeOfSpec false
section
variable {sc : List Int} {d : Nat} {adr : Tag → Nat} {h : MHeap} {σ : St} {X X' : XH} {Q : KV} {ρ : Vars} {R : KF} {B s k m k0 : Nat} {cls : List (List Int)} {Fs : List (List Int)} {f c a w lv lk n0 nF : Nat} {us : List MV} {wl : List (Int × Bool)} {cs F0 F : List Int} {l : Int}
theorem goodL_nz (G : GoodL cls) : ∀ C ∈ cls, ∀ l ∈ C, l ≠ 0 := fun C hC l hl => by have := G.rng C hC l hl; unfold rng6 at this; omega
theorem tail_walk (hB : B ≤ 1000) (G : GoodL cls) (q : Quiet B cls σ Fs) (hb : σ.be.length < B) (S : Sim adr h (σ.level.let' l none) X) (V : Vg ρ f (adr .s) w a nF) (r7 : ρ 7 = some (.int l)) (hl : rng6 l) (h1 : l ∉ σ.row) (h2 : -l ∉ σ.row) (e0 : Fs[σ.be.length]? = some F) (xF : X nF = some (.set F))
    (W : World σ X w lv lk Fs us [] wl) (Kp : Keep cls cs f c a n0 F0 X k) (na : a ≠ lv) (nc : c ≠ lv) (z0 : Fs[0]? = some F0) (hk : k < fitN) (K : ∀ h', TurnE B cls cs f c a w lk n0 F0 (adr .s) (σ.be.length + 1) (k + 1) h' → Q (.bool true) h') :
    exs (lg prog sc (d + 4)) (dropS 7 f__law_begin.body) (retQ Q) ρ h := by
  obtain ⟨r, σ', es, eli, I2, blen, hdue⟩ := q.begin hB (goodL_nz G) hb e0 hl h1 h2
  have ndF := (q.st.lev _ F e0).1
  have mF : ∀ x, x ∈ F ↔ x ∈ σ.row := fun x => q.last e0
  have ul : us.length ≤ 1000 := by rw [W.lev.length, q.len]; exact Nat.le_trans hb hB
  have hp : 0 < Fs.length := by rw [q.len]; exact Nat.succ_pos _
  have rF : ∀ x ∈ F, rng6 x := fun x hx => q.st.inv.known.rng x ((mF x).mp hx)
  refine x_asgs' (l_cons (m_meth (e_var V.r1) S.s lib.mSpread e_nil (spread_spec lib S es fun h1 adr1 a1 S1 => f_in (l_one (m_fn' (l_cons ((e_var V.r3).go (l_one (m_bin ((e_var V.r4).go (m_bui1 (m_list (e_one (e_var r7)) (Nat.le_of_ble_eq_true rfl) (f_in (.of (.setL (is := [l]) new_same (Nat.le_of_ble_eq_true rfl)) (f_in ?_)))))))))))))) )
  have S2 := S1.push (.list [.int l])
  have S3 := S2.push (.set [l])
  have sub3 : ∀ b o, X b = some o → ((X.put h1.next (.list [.int l])).put (h1.next + 1) (.set [l])) b = some o := fun b o e => S2.sub_put _ _ (S1.sub_put _ _ e)
  have nn : nF ≠ h1.next + 1 := fun z => ns ((S1.none_at (Nat.le_succ _)).symm.trans (z ▸ xF))
  have l6 := few ndF rF
  refine .mk (.bor (S3.o (sub3 _ _ xF)) (S3.o put_same) nn (Nat.le_trans (Nat.add_le_add_right l6 1) (by decide))) (f_in ?_)
  have S4 := S3.push (.set (uni F [l]))
  have sub4 : ∀ b o, X b = some o → (((X.put h1.next (.list [.int l])).put (h1.next + 1) (.set [l])).put (h1.next + 1 + 1) (.set (uni F [l]))) b = some o := fun b o e => S3.sub_put _ _ (sub3 b o e)
  have cong : ∀ x, x ∈ uni F [l] ↔ (x ∈ F ∨ x = l) := fun x => uni_mem'.trans (by rw [List.mem_singleton])
  have V1 : Vg ρ f (adr1 .s) w a nF := ⟨V.r0, a1.symm ▸ V.r1, V.r2, V.r3, V.r4⟩
  have up := fun (h' : MHeap) (T : TurnE B cls cs f c a w lk n0 F0 (adr1 .s) σ'.be.length (k + 1) h') => K h' (a1 ▸ T.up (Nat.le_of_eq blen) (Nat.le_refl _))
  refine closed_spec (d := d + 3) S4 (.mk (sub4 _ _ Kp.R) tuples) G.len G.rng (.set put_same) (uni_nodup' ndF) (fun x hx => ((cong x).mp hx).elim (rF x) fun e => e ▸ hl) (fun h5 hc S5 => f_in ?_) (fun h5 n Fn hc hn S5 => f_in ?_)
  · have b := hdue none (closeR_congr hc cong)
    have S6 := S5.less sub4
    refine ⟨Nat.le_of_ble_eq_true rfl, rfl, a_var (a_var (a_nil ?_))⟩
    cases b with
    | clash e hr hf st len =>
      subst e
      exact clash_walk hB S6 ((V1.set (by decide)).set (by decide)) rfl rfl hr hf st len hp W eli Kp na nc z0 ul hk up
  · have b := hdue (some Fn) (closeR_congr hc cong)
    have sub5 : ∀ b o, X b = some o → _ := fun b o e => put_keep (o := .set Fn) hn b o (sub4 b o e)
    refine ⟨Nat.le_of_ble_eq_true rfl, rfl, a_var (a_var (a_nil ?_))⟩
    cases b with
    | well e q' =>
      exact well_walk hB S5 ((V1.set (by decide)).set (by decide)) rfl rfl e q' (W.sub sub5) eli put_same (Kp.sub sub5) na nc z0 ul fun h' T => up h' (T.up (Nat.le_refl _) (Nat.le_succ _))
end
end Mini.T01
end
section
namespace Mini.T01
open Mini Mini.C
set_option genInjectivity false
set_option genSizeOf false
set_option genSizeOfSpec false
section
variable {sc : List Int} {d : Nat} {adr : Tag → Nat} {h : MHeap} {σ : St} {X X' : XH} {Q : KV} {ρ : Vars} {R : KF} {B s k m k0 : Nat} {cls : List (List Int)} {Fs : List (List Int)} {f c a w lv lk n0 nF : Nat} {us : List MV} {wl : List (Int × Bool)} {cs F0 F : List Int} {l : Int}
theorem begin_spec (hB : B ≤ 1000) (G : GoodL cls) (T : Turn B cls cs f c a w lk n0 F0 σ X k lv Fs us wl) (S : Sim adr h σ X) (hb : σ.be.length < B) (hk : k + 3 < fitN) (K : ∀ h', TurnE B cls cs f c a w lk n0 F0 (adr .s) (σ.be.length + 1) (k + 3) h' → Q (.bool true) h') : callD prog sc (d + 5) 7 [.ref f, .ref (adr .s), .ref w, .ref a] Q h := by
  have q := T.q
  have I := q.st.inv
  have W := T.W
  have xl : X lv = some (.list us) := by rw [W.xl, List.append_nil]
  have ul : us.length = σ.be.length + 1 := W.lev.length.trans q.len
  have fl : σ.be.length < Fs.length := by rw [q.len]; exact Nat.lt_succ_self _
  have e0 := List.getElem?_eq_getElem fl
  generalize Fs[σ.be.length] = F at e0
  obtain ⟨u, eu, sa⟩ := W.lev.get e0
  have mF : ∀ x, x ∈ F ↔ x ∈ σ.row := fun x => q.last e0
  induction sa with
  | @mk nF xF =>
  refine enter (fn := f__law_begin) rfl rfl rfl (x_let (e_sub (e_sub (e_var rfl) (e_str (s := 36)) (.sdict (S.o W.ww) rfl)) (e_neg e_int) (.list (S.o xl) (ul ▸ place_m1) eu)) ?_)
  refine (fun (key : ∀ ρ, Vg ρ f (adr .s) w a nF → exs (lg prog sc (d + 4)) (dropS 1 f__law_begin.body) (retQ Q) ρ h) => key _ ⟨rfl, rfl, rfl, rfl, rfl⟩) fun ρ V => ?_
  have oF := S.o xF
  refine x_var (m_comp (emb := iN) (f := fun v : Nat => !F.contains (v : Int) && !F.contains (-(v : Int))) (g := iN) (as := List.range' 1 6) (e_bui (e_cons e_int (e_one e_int)) (.range2 (Mini.C.small_nat (n := 1) (Nat.le_of_ble_eq_true rfl)) (Mini.C.small_nat (n := 7) (Nat.le_of_ble_eq_true rfl)))) ?_ (fun v _ _ H => c_one (e_and2 (e_cmp (e_var rfl) (e_var V.r4) (.notin (.set oF))) fun _ => e_and1 (e_cmp (e_neg (e_var rfl)) (e_var V.r4) (.notin (.set oF)))) H) (fun _ _ _ => e_var rfl) (Nat.le_of_ble_eq_true rfl) (f_in ?_))
  · have z := Items.rng (h := h) ((1 : Nat) : Int) ((7 : Nat) : Int)
    rw [rngL_nat (by decide)] at z
    exact z
  have hun : ∀ x ∈ (List.range' 1 6).filter (fun v : Nat => !F.contains (v : Int) && !F.contains (-(v : Int))), (1 ≤ x ∧ x ≤ 6) ∧ (x : Int) ∉ σ.row ∧ -(x : Int) ∉ σ.row := fun x hx => by
    obtain ⟨b1, b2⟩ := List.mem_filter.mp hx
    obtain ⟨b3, b4⟩ := List.mem_range'_1.mp b1
    obtain ⟨b5, b6⟩ := (Bool.and_eq_true _ _).mp b2
    exact ⟨⟨b3, Nat.le_of_lt_succ b4⟩, fun z => not_has.mp b5 ((mF _).mpr z), fun z => not_has.mp b6 ((mF _).mpr z)⟩
  generalize (List.range' 1 6).filter (fun v : Nat => !F.contains (v : Int) && !F.contains (-(v : Int))) = un at hun ⊢
  have S3 := S.push (.list (nL un))
  have S4 := S3.push (.list [])
  have x3 := S.sub_put (o := .list (nL un))
  have S5 := S3.put_less S4
  have V2 := V.set (x := 5) (v := .ref h.next) (by decide)
  refine x_ite' (m_cmpL ((e_var rfl).go (m_list e_nil (Nat.zero_le _) (f_in (.mk (.eq (eqv_nil (S4.o (S3.sub_put _ _ put_same)) (S4.o put_same))) (If.of (fun z => x_ret e_bool (K _ (.mk rfl T (S.put_less S5) (Nat.le_succ _) (Nat.le_add_right _ _)))) fun z => ?_))))))
  have upos : 0 < un.length := by
    rcases un with _ | _
    · exact ff z.symm
    · exact Nat.succ_pos _
  have K5 := T.K.sub x3
  have W5 := W.sub x3
  refine x_var (m_subR (e_var rfl) (m_fn (e_cons (e_var V2.r0) (e_one (e_len (e_var rfl) (S5.o put_same)))) (draw1 S5 K5.F (nL_length (ns := un) ▸ Int.ofNat_lt.mpr upos) (Nat.lt_of_le_of_lt (Nat.le_add_right _ _) hk) fun r0 y0 y1 h6 S6 => f_in ?_)))
  obtain ⟨i, rfl⟩ := Int.eq_ofNat_of_zero_le y0
  have hi : i < un.length := nL_length (ns := un) ▸ Int.ofNat_lt.mp y1
  have o6 := S6.o ((put_ne (ne_obj K5.F.feed (put_same (X := X)) feed_ne).symm).trans put_same)
  have K6 := K5.draw
  have W6 := W5.draw K5.F
  have xF6 := (put_ne (o := feedO c (k + 1)) (ne_obj (x3 _ _ xF) K5.F.feed fun q => MObj.noConfusion q)).trans (x3 _ _ xF)
  obtain ⟨⟨u1, u2⟩, n1, n2⟩ := hun _ (List.getElem_mem hi)
  refine .mk (.list o6 (.pos (nL_length.symm ▸ hi)) (nL_at (List.getElem?_eq_getElem hi))) (f_in ?_)
  generalize un[i] = v at u1 u2 n1 n2
  have V3 := V2.set (x := 6) (v := iN v) (by decide)
  refine x_var (m_ite (m_cmpL (m_fn (e_cons (e_var V3.r0) (e_one e_int)) (draw1 S6 K6.F (by decide) (Nat.lt_of_succ_lt (Nat.lt_of_succ_lt hk)) fun r1 w0 w1 h8 S8 => f_in (e_int.go (.mk (.eq (.flat (.at (.ii _ _)))) ?_))))))
  have K8 := K6.draw
  have W8 := W6.draw K6.F
  have xF8 := (put_ne (o := feedO c (k + 1 + 1)) (ne_obj xF6 K6.F.feed fun q => MObj.noConfusion q)).trans xF6
  have fb : σ.be.length < lenLine := Nat.lt_of_lt_of_le hb (Nat.le_trans hB (Nat.le_of_ble_eq_true rfl))
  have I1 := level_ok I q.seen hb
  have S9 : Sim adr _ σ.level _ := nL_push ▸ S8.set_be (σ.be ++ [σ.row.length])
  have go := fun (l : Int) (hl : rng6 l) (l2 : l ∉ σ.row) (l3 : -l ∉ σ.row) => show exs (lg prog sc (d + 4)) (dropS 5 f__law_begin.body) (retQ Q) (((ρ.set 5 (.ref h.next)).set 6 (iN v)).set 7 (.int l)) h8 from
    have V4 := V3.set (x := 7) (v := .int l) (by decide)
    x_expr (m_append (S8.at V4.r1 rfl) S8.be (S8.len_row V4.r1) (eq_lt nL_length fb) (f_in (x_expr (m_meth (e_var V4.r1) S9.s lib.mLet (e_cons (e_var rfl) (e_one e_none)) (let_spec lib (d := d + 3) S9 (I1.fit (by decide) hB) l none fun h10 S10 => f_in (tail_walk hB G q hb S10 V4 rfl hl l2 l3 e0 xF8 W8 K8 T.na T.nc T.z0 (Nat.lt_of_succ_lt hk) K))))))
  refine If.of (fun z => (e_var rfl).go (go v ?_ n1 n2)) fun z => (e_ari e_int (e_var rfl) (.sub _ _)).go (go (0 - v) ?_ ?_ ?_)
  · unfold rng6; omega
  · unfold rng6; omega
  · rw [Int.zero_sub]; exact n2
  · rw [Int.zero_sub, Int.neg_neg]; exact n1
end
end Mini.T01
end
section
namespace Mini.T01
open Mini Mini.C
set_option genInjectivity false
set_option genSizeOf false
set_option genSizeOfSpec false
section
variable {sc : List Int} {d : Nat} {adr : Tag → Nat} {h : MHeap} {σ : St} {X X' : XH} {Q : KV} {ρ : Vars} {R : KF} {B s k m k0 : Nat} {cls : List (List Int)} {Fs : List (List Int)} {f c a w lv lk n0 nF : Nat} {us : List MV} {wl : List (Int × Bool)} {cs F0 F : List Int} {l : Int}
theorem m_sub0 {L : Lg} {e i : ME} {t : Bool} (H : ev L e ρ false (fun v h => ev L i ρ false (fun w h => Yields (GetI h v w) fun u => fin t Q u h) h) h) : ev L (.sub e i) ρ t Q h := H
theorem Turn.draw (T : Turn B cls cs f c a w lk n0 F0 σ X k lv Fs us wl) : Turn B cls cs f c a w lk n0 F0 σ (X.put f (feedO c (k + 1))) (k + 1) lv Fs us wl := ⟨T.q, T.W.draw T.K.F, T.K.draw, T.z0, T.na, T.nc⟩
theorem max_nat (x : Int) : (if (0 : Int) > x then (0 : Int) else x) = (x.toNat : Int) := by
  by_cases c : (0 : Int) > x
  · rw [if_pos c, Int.toNat_of_nonpos (Int.le_of_lt c)]; rfl
  · rw [if_neg c, Int.toNat_of_nonneg (Int.not_lt.mp c)]
theorem back_turn (hB : B ≤ 1000) (T : Turn B cls cs f c a w lk n0 F0 σ X k lv Fs us wl) (S : Sim adr h σ X) (H : Nat) (K : ∀ h' σ', (H = 0 → σ'.be = []) → ∀ X' lv' Fs' us' wl', Turn B cls cs f c a w lk n0 F0 σ' X' k lv' Fs' us' wl' → σ'.be.length ≤ σ.be.length → ∀ adr', adr' .s = adr .s → Sim adr' h' σ' X' → Q (.bool true) h') : callD prog sc (d + 4) 6 [.ref (adr .s), .ref w, iN H] Q h := by
  have q := T.q
  refine back_walk hB S q.st T.W (T.W.lev.length.trans q.len) H (fun z => by rw [q.len]; exact Nat.lt_succ_of_lt z) (fun _ => ⟨q, rfl⟩) fun h6 adr6 σ6 X6 lv6 Fs6 us6 wl6 e6 q6 W6 held hle h0 hz hlv S6 => K h6 σ6 h0 X6 lv6 Fs6 us6 wl6 ⟨q6, W6, T.K.held held T.W, hz _ T.z0, hlv _ _ T.K.R T.na, hlv _ _ T.K.F.cells T.nc⟩ hle adr6 e6 S6
theorem deed_spec (hB : B ≤ 1000) (G : GoodL cls) (T : Turn B cls cs f c a w lk n0 F0 σ X k lv Fs us wl) (S : Sim adr h σ X) (hb : σ.be.length < B) (hk : k + 6 < fitN) (K : ∀ h', TurnE B cls cs f c a w lk n0 F0 (adr .s) (σ.be.length + 1) (k + 6) h' → Q (.bool true) h') : callD prog sc (d + 6) 8 [.ref f, .ref (adr .s), .ref w, .ref a] Q h := by
  have q := T.q
  have ul : us.length = σ.be.length + 1 := T.W.lev.length.trans q.len
  have xl : X lv = some (.list us) := by rw [T.W.xl, List.append_nil]
  have T1 := T.draw
  have xl1 : (X.put f (feedO c (k + 1))) lv = some (.list us) := by rw [T1.W.xl, List.append_nil]
  refine enter (fn := f__law_deed) rfl rfl rfl (x_asgs' (l_cons (m_fn (e_cons (e_var rfl) (e_one e_int)) (draw1 S T.K.F (by decide) (Nat.lt_of_le_of_lt (Nat.le_add_right _ _) hk) fun r y0 y1 h1 S1 => f_in (e_one (e_ari (e_len (e_sub (e_var rfl) (e_str (s := 36)) (.sdict (S1.o T1.W.ww) rfl)) (S1.o xl1)) e_int (.sub _ _)) _ ⟨Nat.le_of_ble_eq_true rfl, rfl, a_var (a_var (a_nil ?_))⟩)))))
  rw [show ((us.length : Nat) : Int) - 1 = (σ.be.length : Int) by rw [ul]; omega]
  refine (fun (key : ∀ ρ : Vars, ρ 0 = some (.ref f) → ρ 1 = some (.ref (adr .s)) → ρ 2 = some (.ref w) → ρ 3 = some (.ref a) → ρ 4 = some (.int r) → ρ 5 = some (iN σ.be.length) → exs (lg prog sc (d + 5)) (dropS 1 f__law_deed.body) (retQ Q) ρ h1) => key _ rfl rfl rfl rfl rfl rfl) fun ρ r0 r1 r2 r3 r4 r5 => ?_
  refine x_if (e_cmp (e_var r4) e_int (.lt _ _)) (fun _ => x_retE (m_fn (e_cons (e_var r0) (e_cons (e_var r1) (e_cons (e_var r2) (e_one (e_var r3))))) (begin_spec hB G T1 S1 hb (Nat.lt_of_le_of_lt (by omega) hk) fun h2 TE => f_in (K h2 (TE.up (Nat.le_refl _) (by omega)))))) fun _ => ?_
  refine x_if (e_cmp (e_var r4) e_int (.eq (.flat (.at (.ii _ _))))) (fun _ => ?_) fun _ => ?_
  · refine x_var (m_sub0 (m_tup (l_cons (e_int.go (l_cons ((e_ari (e_var r5) e_int (.sub _ _)).go (l_cons ((e_ari (e_var r5) e_int (.sub _ _)).go (l_cons ((e_var r5).go (l_cons ((e_ari (e_var r5) e_int (.add _ _)).go (l_one (m_fn (e_cons (e_var r0) (e_one e_int)) (draw1 S1 T1.K.F (by decide) (Nat.lt_of_le_of_lt (by omega) hk) fun x y0 y1 h2 S2 => f_in ⟨Nat.le_of_ble_eq_true rfl, rfl, f_in ?_⟩)))))))))))))))
    have T2 := T1.draw
    refine m_fn (e_cons (e_var r0) (e_one e_int)) (draw1 S2 T2.K.F (by decide) (Nat.lt_of_le_of_lt (by omega) hk) fun y z0 z1 h3 S3 => f_in ?_)
    have T3 := T2.draw
    obtain ⟨j, rfl⟩ := Int.eq_ofNat_of_zero_le z0
    have hj : j < 6 := Int.ofNat_lt.mp z1
    refine .mk (.tup (xs := iL [0, (σ.be.length : Int) - 1, (σ.be.length : Int) - 2, (σ.be.length : Int), (σ.be.length : Int) + 1, x]) (.pos (j := j) hj) (iL_at (getD_get hj))) (f_in ?_)
    generalize nth [0, (σ.be.length : Int) - 1, (σ.be.length : Int) - 2, (σ.be.length : Int), (σ.be.length : Int) + 1, x] j = z
    have Em := e_bui (L := lg prog sc (d + 5)) (h := h3) (e_cons (e_var (ρ := ρ.set 6 (.int z)) (n := 6) rfl) (e_one (e_int (i := 0)))) (.max2 z 0)
    rw [max_nat] at Em
    exact x_retE (r := .nil) (m_fn (e_cons (e_var r1) (e_cons (e_var r2) (e_one Em))) (back_turn (d := d + 1) hB T3 S3 z.toNat fun h4 σ4 _ X4 lv4 Fs4 us4 wl4 T4 hle adr4 a4 S4 => f_in (K h4 (.mk a4 T4 S4 (Nat.le_succ_of_le hle) (by omega)))))
  · have fl : σ.be.length < Fs.length := by rw [q.len]; exact Nat.lt_succ_self _
    have e0 := List.getElem?_eq_getElem fl
    generalize Fs[σ.be.length] = F at e0
    obtain ⟨u, eu, sa⟩ := T1.W.lev.get e0
    have fb : σ.be.length < lenLine := Nat.lt_of_lt_of_le hb (Nat.le_trans hB (Nat.le_of_ble_eq_true rfl))
    have S2 : Sim adr _ σ.level _ := nL_push ▸ S1.set_be (σ.be ++ [σ.row.length])
    have q2 := q.none hb e0
    have S3 := S2.poke xl1 (.list (us ++ [u] ++ []))
    have W3 := T1.W.push (σ' := σ.level) (Gs := Fs ++ [F]) (vs := us ++ [u]) (tail' := []) rfl (All2.append (All2.one sa) T1.W.lev)
    have K3 := T1.K.atLv (ys := us ++ [u] ++ []) xl1 T.na T.nc
    have T3 : Turn B cls cs f c a w lk n0 F0 σ.level _ (k + 1) lv (Fs ++ [F]) (us ++ [u]) wl := ⟨q2, W3, K3, by rw [List.getElem?_append_left (List.getElem?_eq_some_iff.mp T.z0).1]; exact T.z0, T.na, T.nc⟩
    refine x_expr (m_append (S1.at r1 rfl) S1.be (S1.len_row r1) (eq_lt nL_length fb) (f_in (x_expr (m_append (e_sub (e_var r2) (e_str (s := 36)) (.sdict (S2.o T1.W.ww) rfl)) (S2.o xl1) (e_sub (e_sub (e_var r2) (e_str (s := 36)) (.sdict (S2.o T1.W.ww) rfl)) (e_neg e_int) (.list (S2.o xl1) (ul ▸ place_m1) eu)) (by rw [ul]; exact Nat.lt_of_le_of_lt hb (Nat.lt_of_le_of_lt hB (Nat.lt_of_lt_of_le (by decide : 1000 < 1001) (Nat.le_of_ble_eq_true rfl)))) (f_in ?_)))))
    have es : spreadF 0 σ.level = some (-1, σ.level) := if_pos (Nat.le_of_eq q2.seen.symm)
    rw [show us ++ [u] = us ++ [u] ++ [] from (List.append_nil _).symm]
    refine x_retE (r := .nil) (m_and (m_cmpL (m_meth (e_var r1) S3.s lib.mSpread e_nil (spread_spec (d := d + 2) lib S3 es fun h4 adr4 a4 S4 => f_in ((e_neg e_int).go (.mk (.eq (.flat (.at (.ii _ _)))) (.yes rfl ?_)))))))
    exact m_and1 (m_fn (e_cons (e_var r1) (e_one (e_var r2))) (a4 ▸ right_spec (d := d + 3) S4 q2 T3.W.plain (T3.W.like q2.st.inv) hB fun h5 S5 => f_in (K _ (.mk a4 T3 S5 (by show (σ.be ++ [_]).length ≤ _; rw [List.length_append]; exact Nat.le_refl _) (by omega)))))
end
end Mini.T01
end
section
namespace Mini.T01
open Mini Mini.C
set_option genInjectivity false
set_option genSizeOf false
set_option genSizeOfSpec false
structure Vl (ρ : Vars) (f a s n0 w : Nat) : Prop where
  r1 : ρ 1 = some (.ref f)
  r2 : ρ 2 = some (.ref a)
  r3 : ρ 3 = some (.ref s)
  r4 : ρ 4 = some (.ref n0)
  r5 : ρ 5 = some (.ref w)
theorem Vl.set {ρ : Vars} {f a s n0 w x : Nat} {v : MV} (V : Vl ρ f a s n0 w) (hx : 6 ≤ x) : Vl (ρ.set x v) f a s n0 w :=
  have k : ∀ y, y < 6 → ρ.set x v y = ρ y := fun y hy => if_neg (Nat.ne_of_lt (Nat.lt_of_lt_of_le hy hx))
  ⟨(k 1 (by decide)).trans V.r1, (k 2 (by decide)).trans V.r2, (k 3 (by decide)).trans V.r3, (k 4 (by decide)).trans V.r4, (k 5 (by decide)).trans V.r5⟩
inductive LawI (cls : List (List Int)) (cs : List Int) (f c a w lk n0 : Nat) (F0 : List Int) (s : Nat) (r : List MV) (ρ : Vars) (h : MHeap) : Prop
  | mk {m k0 : Nat} (V : Vl ρ f a s n0 w) (T : TurnE 100 cls cs f c a w lk n0 F0 s m k0 h) (hm : m + r.length ≤ 20) (hk : k0 + 6 * r.length ≤ 300) : LawI cls cs f c a w lk n0 F0 s r ρ h
section
variable {sc : List Int} {d : Nat} {adr : Tag → Nat} {h : MHeap} {σ : St} {X X' : XH} {Q : KV} {ρ : Vars} {R : KF} {B s k m k0 : Nat} {cls : List (List Int)} {Fs : List (List Int)} {f c a w lv lk n0 nF : Nat} {us : List MV} {wl : List (Int × Bool)} {cs F0 F : List Int} {l : Int}
theorem last_walk (V : Vl ρ f a s n0 w) (T : TurnE 100 cls cs f c a w lk n0 F0 s m k0 h) (K : ∀ h', Q (.bool true) h') : exs (lg prog sc (d + 6)) (dropS 7 f_law.body) (retQ Q) ρ h := by
  induction T with
  | @mk adr σ X k lv Fs us wl e T S hb hk =>
  subst e
  refine x_retE (r := .nil) (m_and (m_fn (e_cons (e_var V.r3) (e_cons (e_var V.r5) (e_one e_int))) (back_turn (d := d + 2) (by decide) T S 0 fun h1 σ1 h0 X1 lv1 Fs1 us1 wl1 T1 hle adr1 a1 S1 => f_in (.yes rfl ?_))))
  have q := T1.q
  have I := q.st.inv
  have b0 := h0 rfl
  have z0 : Fs1[σ1.be.length]? = some F0 := by rw [b0]; exact T1.z0
  have r3 : ρ 3 = some (.ref (adr1 .s)) := a1.symm ▸ V.r3
  have rl : σ1.row.length ≤ 6 := I.room.row
  have S2 := S1.push (.set (dedup σ1.row))
  have se : same (dedup σ1.row) F0 = true := same_of dedup_nodup (q.st.lev _ _ z0).1 fun x => dedup_mem.trans (q.last z0).symm
  refine m_and (m_cmpL (m_bui (e_one (S1.at r3 rfl)) (.setL S1.ro (Nat.le_trans rl (by decide))) (f_in ((e_var V.r4).go (.mk (.eq (.set (S2.o put_same) (S2.o (S1.sub_put _ _ T1.K.x0)))) (.yes (by rw [se]) (m_and1 (m_cmpL ((S2.at r3 rfl).go (m_list e_nil (Nat.zero_le _) (f_in ?_)))))))))))
  have S3 := S2.push (.list [])
  have z := S3.be
  rw [b0] at z
  exact .mk (.eq (eqv_nil z (S3.o put_same))) (K _)
theorem deeds_loop {xs : List MV} {chk : HP} (hchk : ∀ h, chk h) (G : GoodL cls) (I : LawI cls cs f c a w lk n0 F0 s xs ρ h) (K : ∀ h', Q (.bool true) h') :
    forL chk (forB (lg prog sc (d + 6)) 6 (MS.bd (MSs.hd (dropS 6 f_law.body)))) xs (seq (lg prog sc (d + 6)) (dropS 7 f_law.body) (retQ Q)) ρ h := by
  refine for_rule (LawI cls cs f c a w lk n0 F0 s) (fun _ _ _ _ => hchk _) (fun v r ρ h K' I hK => ?_) (fun ρ h I => ?_) I
  · induction I with
    | @mk m k0 V T hm hk =>
    have V1 := V.set (x := 6) (v := v) (by decide)
    induction T with
    | @mk adr σ X k lv Fs us wl e T S hb hk' =>
    subst e
    rw [List.length_cons] at hm hk
    refine x_ite' (m_not (m_fn (e_cons (e_var V1.r1) (e_cons (e_var V1.r3) (e_cons (e_var V1.r5) (e_one (e_var V1.r2))))) (deed_spec (d := d) (by decide) G T S (by omega) (Nat.lt_of_le_of_lt (m := 306) (by omega) (by decide)) fun h1 T1 => .mk (.bool true) (.mk (.bool true) (.no rfl (hK _ _ (.mk (m := m + 1) (k0 := k0 + 6) V1 (T1.up (by omega) (by omega)) (by omega) (by omega))))))))
  · induction I with
    | mk V T hm hk => exact last_walk V T K
end
end Mini.T01
end
section
namespace Mini.T01
open Mini Mini.C
set_option genInjectivity false
set_option genSizeOf false
set_option genSizeOfSpec false
section
variable {sc : List Int} {d : Nat} {adr : Tag → Nat} {h : MHeap} {σ : St} {X X' : XH} {Q : KV} {ρ : Vars} {R : KF} {B s k m k0 : Nat} {cls : List (List Int)} {Fs : List (List Int)} {f c a w lv lk n0 nF : Nat} {us : List MV} {wl : List (Int × Bool)} {cs F0 F : List Int} {l : Int}
theorem nothing {X : XH} (e : X = fun _ => none) {h : MHeap} : Out0 h X := fun a o q => ns ((congrFun e a).symm.trans q)
theorem len_left {α : Type} {cls done rest : List α} {xs : α} (e : cls = done ++ xs :: rest) : done.length + 1 ≤ cls.length := by rw [e, List.length_append, List.length_cons]; omega
theorem add_to (G : GoodL cls) (l7 : cls.length ≤ 7) {done rest : List (List Int)} {xs : List Int} (e : cls = done ++ xs :: rest) (Bt : Built 6 100 done σ) : AddTo (Built 6 100 (done ++ [xs])) σ xs := by
  have hm : xs ∈ cls := e ▸ List.mem_append_right _ List.mem_cons_self
  have dl : done.length < 100 := Nat.lt_of_lt_of_le (len_left e) (Nat.le_trans l7 (by decide))
  obtain ⟨y1, y2, y3, y4, y5⟩   := Mini.C.add_ok (by decide) (by decide) Bt dl (G.rng xs hm)
  exact .mk y1 y2 (Nat.lt_of_le_of_lt Bt.room.ht.len (by decide)) y3 (fun z => absurd (G.rng xs hm 0 z).1 (by decide)) (Nat.lt_of_le_of_lt (G.len xs hm) (by decide)) y4 y5
theorem main_walk (G : GoodL cls) (S : Sim adr h σ X) (V : Vl ρ f a (adr .s) n0 w) (T : Turn 100 cls cs f c a w lk n0 F0 σ X k lv [F0] us wl) (hb : σ.be = []) (hk : k ≤ 100) (K : ∀ h', Q (.bool true) h') : exs (lg prog sc (d + 6)) (dropS 6 f_law.body) (retQ Q) ρ h := by
  refine x_for' (m_bui1 (m_arR e_int (m_fn (e_cons (e_var V.r1) (e_one e_int)) (draw1 S T.K.F (by decide) (Nat.lt_of_le_of_lt hk (by decide)) fun r y0 y1 h1 S1 => f_in ?_))))
  have x16 : 10 + r ≤ ((16 : Nat) : Int) := Int.add_le_add_left (Int.le_of_lt_add_one (b := 6) y1) 10
  refine .mk (.ari (.add _ _)) (f_in (.of (.range1 ⟨Int.lt_of_lt_of_le (by decide) (Int.add_nonneg (by decide) y0), Int.lt_of_le_of_lt x16 (by decide)⟩) (f_in (.mk (.rng _ _) ?_))))
  have rl := rngL_len x16
  exact deeds_loop (fun _ => .rng _ _) G (.mk (m := 0) (k0 := 101) V (.mk rfl T.draw S1 (by rw [hb]; exact Nat.le_refl _) (Nat.succ_le_succ hk)) (by omega) (by omega)) K
theorem law_holds (script : List Int) : callD prog script 20 9 [.script] (fun v _ => v = .bool true) ⟨0, fun _ => none⟩ := by
  have O1 := (nothing (X := fun _ => none) rfl (h := ⟨0, fun _ => none⟩)).push (.list (iL (script.take (clamp script.length 60))))
  have tl : (script.take (clamp script.length 60)).length ≤ lenLine := Nat.le_trans (List.length_take_le ..) (Nat.le_trans (show clamp script.length ((60 : Nat) : Int) ≤ 60 by rw [clamp_nat]; exact Nat.min_le_left ..) (Nat.le_of_ble_eq_true rfl))
  refine enter (fn := f_law) rfl rfl rfl (x_var (m_dict2 (m_comp0 (m_to (e_var rfl) e_int (.script 60) (f_in (.mk (.list (O1 _ _ put_same).obj) (comp_pure (emb := .int) (f := fun _ => true) (g := fun i => .int (i.fmod 1000003)) (.list (O1 _ _ put_same).obj) (fun _ _ _ H => c_nil H) (fun _ _ _ => e_ari (e_bui (e_one (e_var rfl)) (.int _)) e_int (.mod (by decide))) (by rw [List.length_nil, Nat.zero_add]; exact tl) (f_in (e_int.go (f_in ?_))))))))))
  rw [List.nil_append, show ((script.take (clamp script.length 60)).filter fun _ => true).map (fun i => MV.int (i.fmod 1000003)) = iL (((script.take (clamp script.length 60)).filter fun _ => true).map (fun i => i.fmod 1000003)) from (List.map_map ..).symm]
  have O2 := O1.push (.list (iL (((script.take (clamp script.length 60)).filter fun _ => true).map (fun i => i.fmod 1000003))))
  have O3 := O2.push (feedO 1 0)
  generalize ((script.take (clamp script.length 60)).filter fun _ => true).map (fun i => i.fmod 1000003) = cs at O2 O3 ⊢
  have F3 : Feed ((((XH.put (fun _ => none) 0 (.list (iL (script.take (clamp script.length 60))))).put 1 (.list (iL cs)))).put 2 (feedO 1 0)) 2 1 cs 0 := ⟨put_same, (put_ne (by decide)).trans put_same⟩
  refine x_var (m_fn (e_one (e_var rfl)) (clauses_spec O3 F3 (by decide) fun h4 X4 a k4 cls O4 F4 hk4 xa nac l7 G => f_in ?_))
  refine x_asgs' (l_cons (m_new (e_cons (e_var rfl) (e_one e_int)) (init_spec lib O4 (many := 6) (by decide) (.mk xa tuples) (fun done σ => Built 6 100 done σ) zero_ok (fun done xs rest σ e Bt => add_to G l7 e Bt) fun h5 adr σ e Bt S => ⟨rfl, f_in ?_⟩)))
  rw [← e]
  have S5 := S.push (.list [])
  have nz := goodL_nz G
  have rest := fun (due : Option (List Int)) (hc : CloseR cls (fun l => l ∈ ([] : List Int)) due) => bottom (B := 100) (by decide) nz Bt (closeR_congr hc fun x => ⟨fun m => absurd m List.not_mem_nil, False.elim⟩)
  refine l_one (m_fn' (l_cons ((e_var rfl).go (l_one (m_list e_nil (Nat.zero_le _) (f_in (closed_spec (d := 18) S5 (.mk (S.sub_put _ _ xa) tuples) G.len G.rng (.nil put_same) List.nodup_nil (fun x hx => absurd hx List.not_mem_nil) (fun h6 hc S6 => f_in ?_) (fun h6 n0 F0 hc hn S6 => f_in ?_))))))))
  · obtain ⟨_, hs⟩ := rest none hc
    have S7 := S6.less S.sub_put
    refine ⟨Nat.le_of_ble_eq_true rfl, rfl, a_var (a_var (a_nil (x_iteT (e_orT (e_cmp (e_var rfl) e_none (.is .nn))) (x_retE (m_and ((e_cmp (e_var rfl) e_none (.is .nn)).go (.yes rfl (m_and1 (m_or ((S7.at rfl rfl).go (If.of (fun z => rfl) fun z => ?_)))))))))))⟩
    obtain ⟨r, σ', es, eli, Bg⟩ := hs z
    refine m_or1 (m_cmpL (m_meth (e_var rfl) S7.s lib.mSpread e_nil (spread_spec (d := 16) lib S7 es fun h8 adr8 a8 S8 => f_in (e_int.go (.mk (.ge _ _) ?_)))))
    cases Bg with
    | clash e hr hf st len =>
      subst e
      exact congrArg MV.bool (decide_eq_true (Int.natCast_nonneg _))
  · obtain ⟨h0, hs⟩ := rest (some F0) hc
    have hrf : σ.ref = false := Bool.eq_false_iff.mpr fun z => ns (h0 z).symm
    obtain ⟨r, σ', es, eli, Bg⟩ := hs hrf
    cases Bg with
    | well er q =>
    subst er
    have Er := S6.at (L := lg prog script 19) (ρ := ((((bindV [.script]).set 1 (.ref 2)).set 2 (.ref a)).set 3 (.ref (adr .s))).set 4 (.ref n0)) (x := 3) (n := 13) rfl rfl
    rw [hrf] at Er
    have S7 := S6.push (.list [.ref n0])
    have S8 := S7.push (.idict [])
    have S9 := S8.push (.sdict [(36, .ref h6.next), (21, .ref (h6.next + 1))])
    refine ⟨Nat.le_of_ble_eq_true rfl, rfl, a_var (a_var (a_nil (x_iteF (e_orF (e_cmp (e_var rfl) e_none (.is (.rn _))) (e_or1 Er)) (x_var (m_dict2 (m_list (e_one (e_var rfl)) (Nat.le_of_ble_eq_true rfl) (f_in (f_in (f_in ?_)))))))))⟩
    refine (fun (key : ∀ (h9 : MHeap) (ρ : Vars), Vl ρ 2 a (adr .s) n0 (h6.next + 1 + 1) → Sim adr h9 σ (((((X4.put h5.next (.list [])).put n0 (.set F0)).put h6.next (.list [.ref n0])).put (h6.next + 1) (.idict [])).put (h6.next + 1 + 1) (.sdict [(36, .ref h6.next), (21, .ref (h6.next + 1))])) → exs (lg prog script 19) (dropS 5 f_law.body) (retQ fun v _ => v = .bool true) ρ h9) => key _ _ ⟨rfl, rfl, rfl, rfl, rfl⟩ S9) fun h9 ρ V S9 => ?_
    have sub7 : ∀ b o, X4 b = some o → ((X4.put h5.next (.list [])).put n0 (.set F0)) b = some o := fun b o e => put_keep hn _ _ (S.sub_put _ _ e)
    have sub9 : ∀ b o, ((X4.put h5.next (.list [])).put n0 (.set F0)) b = some o → (((((X4.put h5.next (.list [])).put n0 (.set F0)).put h6.next (.list [.ref n0])).put (h6.next + 1) (.idict [])).put (h6.next + 1 + 1) (.sdict [(36, .ref h6.next), (21, .ref (h6.next + 1))])) b = some o := fun b o e => S8.sub_put _ _ (S7.sub_put _ _ (S6.sub_put _ _ e))
    have new6 : ∀ b o, X4 b = some o → b ≠ h6.next := fun b o e z => ns ((S6.none_at (Nat.le_refl _)).symm.trans (z ▸ sub7 b o e))
    have T : Turn 100 cls cs 2 1 a (h6.next + 1 + 1) (h6.next + 1) n0 F0 σ' (((((X4.put h5.next (.list [])).put n0 (.set F0)).put h6.next (.list [.ref n0])).put (h6.next + 1) (.idict [])).put (h6.next + 1 + 1) (.sdict [(36, .ref h6.next), (21, .ref (h6.next + 1))])) k4 h6.next [F0] [.ref n0] [] :=
      ⟨q, ⟨put_same, S8.sub_put _ _ (S7.sub_put _ _ put_same), All2.one (.mk (sub9 _ _ put_same)), S8.sub_put _ _ put_same, .nil, fun k => by rw [eli]⟩, ⟨⟨sub9 _ _ (sub7 _ _ F4.feed), sub9 _ _ (sub7 _ _ F4.cells)⟩, sub9 _ _ (sub7 _ _ xa), sub9 _ _ put_same⟩, rfl, new6 _ _ xa, new6 _ _ F4.cells⟩
    have kin0 : σ'.be = [] := List.eq_nil_of_length_eq_zero (Nat.succ.inj q.len).symm
    refine x_ite' (m_or (m_cmpL (m_meth (e_var V.r3) S9.s lib.mSpread e_nil (spread_spec (d := 16) lib S9 es fun h10 adr2 a2 S10 => f_in ((e_neg e_int).go (.mk (.ne (.flat (.at (.ii _ _)))) (.no rfl ?_)))))))
    have V2 : Vl ρ 2 a (adr2 .s) n0 (h6.next + 1 + 1) := ⟨V.r1, V.r2, a2.symm ▸ V.r3, V.r4, V.r5⟩
    exact m_or1 (m_not (m_fn (e_cons (e_var V2.r3) (e_one (e_var V2.r5))) (right_spec (d := 17) S10 q T.W.plain (T.W.like q.st.inv) (by decide) fun h11 S11 => .mk (.bool true) (.mk (.bool true) (.no rfl (main_walk (d := 13) G S11 V2 T kin0 (Nat.le_trans hk4 (by decide)) fun _ => rfl))))))
end
end Mini.T01
end
section
set_option maxHeartbeats 80000000
open PySem PySem.W PyProof.Rows Mini
noncomputable def Mini.T01.fin.tw14483950658920617411 : Unit := ()
noncomputable def Mini.T01.fin.tw7739478514512342951 : Unit := ()
noncomputable def Mini.T01.fin.tw16036914721884851176 : Unit := ()
noncomputable def Mini.T01.fin.tw5276864028425552781 : Unit := ()
noncomputable def Mini.T01.fin.tw15221741230525858819 : Unit := ()
noncomputable def Mini.T01.fin.tw14700894713992284603 : Unit := ()
noncomputable def Mini.T01.fin.tw2272471785280670535 : Unit := ()
noncomputable def Mini.T01.fin.tw8739264275977311656 : Unit := ()
noncomputable def Mini.T01.fin.tw204052588523676769 : Unit := ()
noncomputable def Mini.T01.fin.tw12976982698447467092 : Unit := ()
noncomputable def Mini.T01.fin.tw9761859507218139886 : Unit := ()
noncomputable def Mini.T01.fin.tw15304341882925225097 : Unit := ()
noncomputable def Mini.T01.fin.tw3328860879634875334 : Unit := ()
noncomputable def Mini.T01.fin.tw5632789858525618018 : Unit := ()
noncomputable def Mini.T01.fin.tw8464363256011623189 : Unit := ()
noncomputable def Mini.T01.fin.tw16238959916961876820 : Unit := ()
noncomputable def Mini.T01.fin.tw14348798356686403521 : Unit := ()
noncomputable def Mini.T01.fin.tw10863585657708265829 : Unit := ()
noncomputable def Mini.T01.fin.tw14832006497316993247 : Unit := ()
noncomputable def Mini.T01.fin.tw9742299680667865845 : Unit := ()
noncomputable def Mini.T01.fin.tw10374975969777585140 : Unit := ()
noncomputable def Mini.T01.fin.tw2939950502001196939 : Unit := ()
noncomputable def Mini.T01.fin.tw8662680340317218747 : Unit := ()
noncomputable def Mini.T01.fin.tw15547505330504440617 : Unit := ()
noncomputable def Mini.T01.fin.tw5109725589474315378 : Unit := ()
noncomputable def Mini.T01.fin.tw14659939816321208319 : Unit := ()
noncomputable def Mini.T01.fin.tw8696452262333851255 : Unit := ()
noncomputable def Mini.T01.fin.tw15402778937050671432 : Unit := ()
noncomputable def Mini.T01.fin.tw16090407067496302819 : Unit := ()
noncomputable def Mini.T01.fin.tw15839905136924775947 : Unit := ()
noncomputable def Mini.T01.fin.tw10847628080956216251 : Unit := ()
noncomputable def Mini.T01.fin.tw895482039117249934 : Unit := ()
noncomputable def Mini.T01.fin.tw15954406025730438031 : Unit := ()
noncomputable def Mini.T01.fin.tw9034831902027060132 : Unit := ()
noncomputable def Mini.T01.fin.tw5360734048275300210 : Unit := ()
noncomputable def Mini.T01.fin.tw11842767090832506715 : Unit := ()
noncomputable def Mini.T01.fin.tw16006472646055189031 : Unit := ()
noncomputable def Mini.T01.fin.tw4540400038824875287 : Unit := ()
noncomputable def Mini.T01.fin.tw2597512751176861506 : Unit := ()
noncomputable def Mini.T01.fin.tw5228005337459182504 : Unit := ()
noncomputable def Mini.T01.fin.tw8355048552592154432 : Unit := ()
noncomputable def Mini.T01.fin.tw1362120419666848743 : Unit := ()
noncomputable def Mini.T01.fin.tw5856421647589835628 : Unit := ()
noncomputable def Mini.T01.fin.tw3241203865264008229 : Unit := ()
noncomputable def Mini.T01.fin.tw15477288040254693108 : Unit := ()
noncomputable def Mini.T01.fin.tw6305237238746880816 : Unit := ()
noncomputable def Mini.T01.fin.tw535134559944160265 : Unit := ()
noncomputable def Mini.T01.fin.tw6834602089917053955 : Unit := ()
noncomputable def Mini.T01.fin.tw9541294805700150630 : Unit := ()
noncomputable def Mini.T01.fin.tw9532383048394478580 : Unit := ()
noncomputable def Mini.T01.fin.tw5555287921177610365 : Unit := ()
noncomputable def Mini.T01.fin.tw12112282950140462646 : Unit := ()
noncomputable def Mini.T01.fin.tw11557409398275111864 : Unit := ()
noncomputable def Mini.T01.fin.tw14509794165345101455 : Unit := ()
noncomputable def Mini.T01.fin.tw4090461194450926476 : Unit := ()
noncomputable def Mini.T01.fin.tw10325800821949086788 : Unit := ()
noncomputable def Mini.T01.fin.tw9401116848570330883 : Unit := ()
noncomputable def Mini.T01.fin.tw12718549429337013657 : Unit := ()
noncomputable def Mini.T01.fin.tw11586498153983445734 : Unit := ()
noncomputable def Mini.T01.fin.tw9923428187105718208 : Unit := ()
noncomputable def Mini.T01.fin.tw2580509182483693296 : Unit := ()
noncomputable def Mini.T01.fin.tw8745015121213360618 : Unit := ()
noncomputable def Mini.T01.fin.tw3231505851061556104 : Unit := ()
noncomputable def Mini.T01.fin.tw6708408966849060495 : Unit := ()
noncomputable def Mini.T01.fin.tw16694044063363943128 : Unit := ()
noncomputable def Mini.T01.fin.tw8090833984424672394 : Unit := ()
noncomputable def Mini.T01.fin.tw13601145244564334281 : Unit := ()
set_option Elab.async true in
theorem Mini.T01.fin : PySem.Challenge.rw_rr0091_01.Holds := by
  w_on; o_law; k_head; (case hw => w_witness2)
  k_fill
  intro w s₀ s₁ mg mb G Y fa o pm cd doc dV kV ho hdd hcd hD hmg hg args vals as hpre hlay hrd hwl hlo
  have KX := kIn_of Y
  refine Ground.open G ?_
  intro T B D TE TW
  wrow_args hpre hlay hrd hwl hlo
  all_goals first | refine callC_kw (enter_call ?_) | refine enter_call ?_ | refine callC_kw (enter_callW ?_) | refine enter_callW ?_
  clear hdd hcd hD
  rename_i xs hs hlay0 hL1 hr1 hl2 w4 w3 at_ vs w0 hL ra w1 r0 hI hr hcond1 hcond2
  refine codeAny_mono ?_ (fun _ _ g => GoodW.toG g)
  have hl : xs.length ≤ 63 := by
    have : ¬ (63 : Int) < (xs.length : Int) := by simpa using hcond1
    exact Nat.le_of_not_lt fun q => this (Int.ofNat_lt.mpr q)
  have hfa : fa = 245 := by
    have h1 := mg_of KX T.g (n := "law") (v := .ref 245) (by kernel_rfl)
    have h2 : mg "law" = some (.ref fa) := hmg
    rw [h1] at h2
    cases h2; rfl
  subst hfa
  refine codeAny_mono (Mini.T01.core (at_ := at_) (Dec.get (d := wdD _ KX T.g T.b T.nolimit T.builtins ⟨_, hL, hI⟩ (Nat.le_trans hl (by decide))) (by kernel_rfl)) (Dec.get (d := fnsD _ Mini.T01.cks 0 (bindAll_of rfl 0 fun a b c d => by kernel_rfl)) (by kernel_rfl)) hl fun s _ => Mini.T01.law_holds s) fun r s' h => ?_
  rcases r with e | (_ | _ | _ | v) <;> first | exact h.elim | skip
  obtain ⟨rfl, h1, h2, h3⟩ := h
  exact ⟨.inl ⟨_, .bool true, [], rfl, fun _ => rfl, .bool _, by kernel_rfl, fun _ => ⟨List.nodup_nil, fun a h => by cases h⟩⟩, h1, h3, h2.trans hg⟩
end
theorem PySem.Challenge.cw_rr0091_01_holds : PySem.Challenge.rw_rr0091_01.Holds :=
  Mini.T01.fin
