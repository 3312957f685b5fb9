import PyProof.Rows.All
import PyProof.P3Statements
import PyProof.EqLayable
import KE.KeyNested
import Wide.All
import OpenK.AllK
import Wide.FinOn
import HandS.ForMost
import HandS.Wide
import HandS.Gcd
import HandS.IsInst
import HandS.Deep
import HandS.Conv
import HandS.TupAny
import HandS.TupMul
import HandS.Zip
import HandS.Walk
import HandS.More
import HandS.Star
import HandS.Style
import KE.DataEq
import HandS.HeadHook1
import HandS.ClsMeth
import HandS.NoneIn
import HandS.Dict
import HandS.Iter
import KE.KDictKeyed
import HandS.IterVal
import KE.KOwnIter
import KE.GoesMore
import KE.GoesEnum
import PyProof.Rows.TupDisplay
import HandS.Head0
import HandS.Head1
import HandS.Head2
import HandS.Head3
import HandS.HeadEnd
import HandS.HeadHook2
import HandS.HeadNt
import PySem.Challenge.RW_weighedgrids_k19_weights_of_moved_and_le
set_option Elab.async false
set_option linter.all false
set_option maxRecDepth 100000
set_option maxHeartbeats 0
set_option exponentiation.threshold 1000
/-! A pure reading of a part of Python: data without a heap, a small syntax, its interpreter. -/
namespace PyD
open PySem

inductive D where
  | non | bl (b : Bool) | int (i : Int) | str (x : Str)
  | tup (xs : List D) | lst (xs : List D)
  /-- a list that is walked only (the script) -/
  | ro (xs : List D)
  /-- a dict with tuples of ints as keys; lk: it is not changed any more -/
  | dic (lk : Bool) (kvs : List (List Int × D))
  | obj (c : Str) (fs : List (Str × D))
  /-- a tuple of the module's own -/
  | cst (xs : List D)
  /-- a dict with nested tuples of ints as keys -/
  | ndic (kvs : List (NestedKey × D))

mutual
/-- the data that == compares; what has dicts or objects within is no such data -/
def D.py : D → PyData
  | .non => .none | .bl b => .bool b | .int i => .int i | .str x => .str x
  | .tup xs => .tuple (pyL xs) | .lst xs => .list (pyL xs)
  | .ro _ => .dict [] | .dic _ _ => .dict [] | .obj _ _ => .dict [] | .cst _ => .dict [] | .ndic _ => .dict []
def pyL : List D → List PyData
  | [] => []
  | x :: xs => x.py :: pyL xs
end
mutual
/-- no list, no dict, no object within -/
def D.flat : D → Bool
  | .non => true | .bl _ => true | .int _ => true | .str _ => true
  | .tup xs => flatL xs
  | .lst _ => false | .ro _ => false | .dic _ _ => false | .obj _ _ => false | .cst _ => false | .ndic _ => false
def flatL : List D → Bool
  | [] => true
  | x :: xs => x.flat && flatL xs
end
mutual
/-- no object within -/
def D.nob : D → Bool
  | .non => true | .bl _ => true | .int _ => true | .str _ => true
  | .tup xs => nobL xs | .lst xs => nobL xs | .ro xs => nobL xs | .dic _ kvs => nobD kvs
  | .obj _ _ => false | .cst xs => nobL xs | .ndic _ => false
def nobL : List D → Bool
  | [] => true
  | x :: xs => x.nob && nobL xs
def nobD : List (List Int × D) → Bool
  | [] => true
  | x :: xs => x.2.nob && nobD xs
end
theorem pyL_map {xs : List D} : pyL xs = xs.map D.py := by
  induction xs with
  | nil => rfl
  | cons x xs ih => simp only [pyL, List.map_cons, ih]
theorem flatL_all {xs : List D} : flatL xs = xs.all D.flat := by
  induction xs with
  | nil => rfl
  | cons x xs ih => simp only [flatL, List.all_cons, ih]

abbrev LIM : Nat := 1000000
/-- the shape asked of what is compared -/
def okEq (d : D) : Bool := SeqAt.shaped d.py
def eqD (d e : D) : Option Bool := if okEq d && okEq e then some (PyData.eqv d.py e.py) else none

inductive Op | add | sub | mul | fdiv | mod | pow | eq | ne | lt | le | gt | ge | isin | notin
  deriving DecidableEq

def mulOk (i j : Int) : Bool := decide (i.natAbs < 18446744073709551616) || decide (j.natAbs < 18446744073709551616) || decide (i.natAbs.log2 + j.natAbs.log2 < 1000000)
def divOk (j : Int) : Bool := (decide (0 < j) && decide (j.natAbs.log2 < 9000)) || (decide (j ≠ 0) && decide (j.natAbs < 1073741824))

/-- lists multiplied -/
def repL (xs : List D) (k : Int) : List D := (List.replicate k.toNat xs).flatten

/-- a key of a dict -/
def intsOf : List D → Option (List Int)
  | [] => some []
  | .int i :: xs => (intsOf xs).map (i :: ·)
  | _ :: _ => none
def keyOf : D → Option (List Int)
  | .tup xs => intsOf xs
  | _ => none
def lookD : List (List Int × D) → List Int → Option D
  | [], _ => none
  | (k, d) :: r, q => if k = q then some d else lookD r q
def putKD (kvs : List (List Int × D)) (q : List Int) (v : D) : List (List Int × D) :=
  if kvs.any (fun kv => decide (kv.1 = q)) then kvs.map (fun kv => if kv.1 = q then (kv.1, v) else kv) else kvs ++ [(q, v)]
def keysD (kvs : List (List Int × D)) : List D := kvs.map fun p => .tup (p.1.map .int)
def flatD (kvs : List (List Int × D)) : Bool := kvs.all fun p => p.2.flat
/-! nested keys -/
mutual
def nkOf : D → Option NestedKey
  | .int i => some (.num i)
  | .tup xs => (nkL xs).map .tup
  | _ => none
def nkL : List D → Option (List NestedKey)
  | [] => some []
  | x :: xs => (nkOf x).bind fun k => (nkL xs).map (k :: ·)
end
def nkey : D → Option NestedKey
  | .tup xs => (nkOf (.tup xs)).bind fun k => if k.depth ≤ 8 then some k else none
  | _ => none
def lookN {α : Type} : List (NestedKey × α) → NestedKey → Option α
  | [], _ => none
  | (k, d) :: r, q => if k = q then some d else lookN r q
def putN {α : Type} (kvs : List (NestedKey × α)) (q : NestedKey) (v : α) : List (NestedKey × α) :=
  if kvs.any (fun kv => decide (kv.1 = q)) then kvs.map (fun kv => if kv.1 = q then (kv.1, v) else kv) else kvs ++ [(q, v)]
/-- a value of one's own -/
def isL : D → Bool
  | .lst _ => true
  | .dic false _ => true
  | .ndic _ => true
  | _ => false
/-- .. with flat items -/
def flatO : D → Bool
  | .lst xs => flatL xs
  | .dic false kvs => flatD kvs
  | .ndic kvs => kvs.all fun p => p.2.flat
  | _ => false
def lkD : D → D
  | .dic _ kvs => .dic true kvs
  | d => d

def asSeq : D → Option (List D)
  | .lst xs => some xs
  | .tup xs => some xs
  | .ro xs => some xs
  | .dic true kvs => some (keysD kvs)
  | _ => none

/-- a list, a tuple -/
def seqOf : D → Option (List D)
  | .lst xs => some xs
  | .tup xs => some xs
  | _ => none

def binD : Op → D → D → Option D
  | .add, .int i, .int j => some (.int (i + j))
  | .add, .lst xs, .lst ys => if xs.length + ys.length ≤ LIM then some (.lst (xs ++ ys)) else none
  | .add, .tup xs, .tup ys => if xs.length + ys.length ≤ LIM then some (.tup (xs ++ ys)) else none
  | .sub, .int i, .int j => some (.int (i - j))
  | .mul, .int i, .int j => if mulOk i j then some (.int (i * j)) else none
  | .mul, .lst xs, .int k => if decide (-1000000 ≤ k) && decide (k ≤ 1000000) && decide (xs.length * k.toNat ≤ LIM) then some (.lst (repL xs k)) else none
  | .mul, .tup xs, .int k => if decide (-1000 ≤ k) && decide (k ≤ 1000) && decide (xs.length ≤ 1000) then some (.tup (repL xs k)) else none
  | .fdiv, .int i, .int j => if divOk j then some (.int (i.fdiv j)) else none
  | .mod, .int i, .int j => if 0 < j then some (.int (i % j)) else none
  | .pow, .int i, .int j => if decide (0 ≤ j) && decide (j ≤ 1000) && decide (i.natAbs < 18446744073709551616) then some (.int (i ^ j.toNat)) else none
  | _, _, _ => none

def inSeq (x : D) (ys : List D) : Option Bool := if okEq x && okEq (.lst ys) then some (ys.any fun y => PyData.eqv y.py x.py) else none

def cmpD : Op → D → D → Option Bool
  | .eq, d, e => eqD d e
  | .ne, d, e => (eqD d e).map (!·)
  | .lt, .int i, .int j => some (decide (i < j))
  | .le, .int i, .int j => some (decide (i ≤ j))
  | .gt, .int i, .int j => some (decide (j < i))
  | .ge, .int i, .int j => some (decide (j ≤ i))
  | .isin, x, .lst ys => inSeq x ys
  | .isin, x, .tup ys => inSeq x ys
  | .isin, x, .cst ys => inSeq x ys
  | .isin, x, .dic _ kvs => (keyOf x).map fun q => (lookD kvs q).isSome
  | .notin, x, .lst ys => (inSeq x ys).map (!·)
  | .notin, x, .cst ys => (inSeq x ys).map (!·)
  | .notin, x, .dic _ kvs => (keyOf x).map fun q => !(lookD kvs q).isSome
  | .notin, x, .tup ys => (inSeq x ys).map (!·)
  | _, _, _ => none

def ixN (n : Nat) (i : Int) : Option Nat := if 0 ≤ i then (if i < n then some i.toNat else none) else if -(n : Int) ≤ i then some (i + n).toNat else none
def idxL {α : Type} (xs : List α) (i : Int) : Option α := (ixN xs.length i).bind fun j => xs[j]?
def idxD : D → D → Option D
  | .lst xs, .int i => idxL xs i
  | .tup xs, .int i => idxL xs i
  | .dic _ kvs, k => (keyOf k).bind (lookD kvs)
  | .ndic kvs, k => (nkey k).bind (lookN kvs)
  | _, _ => none

def sIx (n d : Nat) : Option Int → Nat
  | none => d
  | some v => if v < 0 then (v + (n : Int)).toNat else min v.toNat n
def cutL {α : Type} (xs : List α) (lo hi : Option Int) : List α := (xs.drop (sIx xs.length 0 lo)).take (sIx xs.length xs.length hi - sIx xs.length 0 lo)
def intPart : D → Option (Option Int)
  | .int i => some (some i)
  | _ => none
def cutD (d : D) (lo hi : Option Int) : Option D := match d with
  | .lst xs => some (.lst (cutL xs lo hi))
  | .tup xs => some (.tup (cutL xs lo hi))
  | _ => none

def isNonD : D → Bool
  | .non => true
  | _ => false
inductive Ty | int | bool | str | tuple | list | dict
  deriving DecidableEq
def tyOf : D → Option Ty
  | .bl _ => some .bool | .int _ => some .int | .str _ => some .str | .tup _ => some .tuple | .lst _ => some .list
  | _ => none
/-- isinstance -/
def isiD (d : D) (t : Ty) : Option Bool := match d with
  | .non => some false
  | d => (tyOf d).map fun u => decide (u = t) || (decide (u = .bool) && decide (t = .int))

inductive Bi | len | abs | int | min2 | max2 | sum | list | tuple | gcd
  deriving DecidableEq
def biD : Bi → List D → Option D
  | .len, [.lst xs] => some (.int xs.length)
  | .len, [.tup xs] => some (.int xs.length)
  | .abs, [.int i] => some (.int (if i < 0 then -i else i))
  | .int, [.int i] => some (.int i)
  | .int, [.bl b] => some (.int (if b then 1 else 0))
  | .min2, [.int i, .int j] => some (.int (if j < i then j else i))
  | .max2, [.int i, .int j] => some (.int (if j > i then j else i))
  | .sum, [.lst xs] => (intsOf xs).map fun ns => .int ns.sum
  | .sum, [.tup xs] => (intsOf xs).map fun ns => .int ns.sum
  | .list, [.lst xs] => some (.lst xs)
  | .list, [.tup xs] => some (.lst xs)
  | .tuple, [.lst xs] => some (.tup xs)
  | .tuple, [.tup xs] => some (.tup xs)
  | .gcd, [.int a, .int b] => some (.int ((Nat.gcd a.natAbs b.natAbs : Nat) : Int))
  | _, _ => none

/-- range as data -/
def rangeD (a b : Int) : List D := (List.range (b - a).toNat).map fun i => .int (a + (i : Nat))
def rgOk (a : Int) : Bool := decide (-1000000000 ≤ a) && decide (a ≤ 1000000000)
/-- range as a list, a tuple -/
def rgOkL (a b : Int) : Bool := rgOk a && rgOk b && decide ((b - a).toNat ≤ 16777216)
def enumD : Nat → List D → List D
  | _, [] => []
  | n, x :: xs => .tup [.int n, x] :: enumD (n + 1) xs
def zipD3 : List D → List D → List D → List D
  | x :: xs, y :: ys, z :: zs => .tup [x, y, z] :: zipD3 xs ys zs
  | _, _, _ => []
def zipD : List D → List D → List D
  | x :: xs, y :: ys => .tup [x, y] :: zipD xs ys
  | _, _ => []

/-- a target -/
inductive T | nm (i : Nat) | tp (is : List Nat)

inductive E where
  | var (i : Nat) | int (n : Int) | bl (b : Bool) | non | str (s : Str)
  | neg (a : E) | bin (o : Op) (a b : E) | cmp (o : Op) (a b : E) | chain (o o' : Op) (a b c : E)
  | isN (a : E) | notN (a : E)
  | and (a b : E) | or (a b : E) | one (a : E) | not (a : E) | ite (c a b : E)
  | nil | cons (a as : E)
  | tup (as : E) | lst (as : E)
  | call (f : Nat) (as : E) | bi (b : Bi) (as : E) | isi (a : E) (t : Ty)
  | idx (a i : E) | sl (a lo hi : E)
  | lc (t : T) (it c e : E)
  | lc2 (t : T) (it c : E) (t' : T) (it' c' e : E)
  | rng1 (a : E) | rng2 (a b : E) | enu (a : E) | zip (a b : E)
  | lrng (r : E) | trng (r : E)
  /-- e.f of an instance of one of the classes; a constant of the module; of a class; a new instance; xs.index(x) -/
  | attr (cs : List Str) (a : E) (f : Str) | glb (x : Str) (ns : List Int) | con (c f : Str) (n : Int) | new (f : Nat) (as : E) | index (a b : E)
  /-- {}; a dict that is locked now; d.get(k, x); d.get(k); {k: x} -/
  | dnew | lk (a : E) | getd (a k d : E) | get1 (a k : E) | disp (k v : E)
  /-- {} for nested keys; zip of three; an own object that is walked by its __iter__: class, tuple -/
  | nnew | zip3 (a b c : E) | oit (c f : Str) (a : E)

def E.isNil : E → Bool
  | .nil => true
  | _ => false
abbrev Env := List (Option D)
def setAll : List Nat → List D → Env → Option Env
  | [], [], env => some env
  | i :: is, d :: ds, env => setAll is ds (env.set i (some d))
  | _, _, _ => none
def bindT : T → D → Env → Option Env
  | .nm i, d, env => some (env.set i (some d))
  | .tp is, .tup ds, env => setAll is ds env
  | .tp _, _, _ => none

def T.slots : T → List Nat
  | .nm i => [i]
  | .tp is => is
def wipeE (env : Env) : List Nat → Env
  | [] => env
  | i :: is => (wipeE env is).set i none
/-- the items that a comprehension keeps -/
def lcGo (bnd : D → Option Env) (c : Env → Option D) (e : Env → Option (List D)) : List D → Option (List D)
  | [] => some []
  | x :: xs => (bnd x).bind fun env => match c env with
    | some (.bl true) => (e env).bind fun ys => (lcGo bnd c e xs).map (ys ++ ·)
    | some (.bl false) => lcGo bnd c e xs
    | _ => none
def limL (xs : List D) : Option D := if xs.length ≤ LIM then some (.lst xs) else none

def getD' (x y z : D) : Option D := match x with
  | .dic _ kvs => (keyOf y).map fun q => (lookD kvs q).getD z
  | _ => none
/-- e.f of an instance of one of the classes cs -/
def attrD (cs : List Str) (f : Str) : D → Option D
  | .obj c fs => if c ∈ cs then fs.lookup f else none
  | _ => none
abbrev Fns := Nat → List D → Option D

def ev (Φ : Fns) : E → Env → Option D
  | .var i, env => (env[i]?).join
  | .int n, _ => some (.int n)
  | .bl b, _ => some (.bl b)
  | .non, _ => some .non
  | .str s, _ => some (.str s)
  | .neg a, env => (ev Φ a env).bind fun d => match d with
    | .int i => some (.int (-i))
    | _ => none
  | .bin o a b, env => (ev Φ a env).bind fun x => (ev Φ b env).bind fun y => binD o x y
  | .cmp o a b, env => (ev Φ a env).bind fun x => (ev Φ b env).bind fun y => (cmpD o x y).map .bl
  | .chain o o' a b c, env => (ev Φ a env).bind fun x => (ev Φ b env).bind fun y => (cmpD o x y).bind fun k =>
      if k then (ev Φ c env).bind fun z => (cmpD o' y z).map .bl else some (.bl false)
  | .isN a, env => (ev Φ a env).map fun d => .bl (isNonD d)
  | .notN a, env => (ev Φ a env).map fun d => .bl (!isNonD d)
  | .and a b, env => (ev Φ a env).bind fun d => match d with
    | .bl true => ev Φ b env
    | .bl false => some (.bl false)
    | _ => none
  | .or a b, env => (ev Φ a env).bind fun d => match d with
    | .bl true => some (.bl true)
    | .bl false => ev Φ b env
    | _ => none
  | .one a, env => ev Φ a env
  | .not a, env => (ev Φ a env).bind fun d => match d with
    | .bl b => some (.bl (!b))
    | _ => none
  | .ite c a b, env => (ev Φ c env).bind fun d => match d with
    | .bl true => ev Φ a env
    | .bl false => ev Φ b env
    | _ => none
  | .nil, _ => some (.tup [])
  | .cons a as, env => (ev Φ a env).bind fun d => (ev Φ as env).bind fun r => match r with
    | .tup ds => some (.tup (d :: ds))
    | _ => none
  | .tup as, env => ev Φ as env
  | .lst as, env => (ev Φ as env).bind fun r => match r with
    | .tup ds => some (.lst ds)
    | _ => none
  | .call f as, env => (ev Φ as env).bind fun r => match r with
    | .tup ds => Φ f ds
    | _ => none
  | .bi b as, env => (ev Φ as env).bind fun r => match r with
    | .tup ds => biD b ds
    | _ => none
  | .isi a t, env => (ev Φ a env).bind fun d => (isiD d t).map .bl
  | .idx a i, env => (ev Φ a env).bind fun x => (ev Φ i env).bind fun y => idxD x y
  | .sl a lo hi, env => (ev Φ a env).bind fun x => (if lo.isNil then some none else (ev Φ lo env).bind intPart).bind fun l => (if hi.isNil then some none else (ev Φ hi env).bind intPart).bind fun h => cutD x l h
  | .lc t it c e, env => ((ev Φ it env).bind asSeq).bind fun xs =>
      (lcGo (fun x => bindT t x (wipeE env t.slots)) (fun env => ev Φ c env) (fun env => (ev Φ e env).map fun y => [y]) xs).bind limL
  | .lc2 t it c t' it' c' e, env => ((ev Φ it env).bind asSeq).bind fun xs =>
      (lcGo (fun x => bindT t x (wipeE env (t.slots ++ t'.slots))) (fun env => ev Φ c env) (fun env => ((ev Φ it' env).bind asSeq).bind fun ys =>
        lcGo (fun x => bindT t' x (wipeE env t'.slots)) (fun env => ev Φ c' env) (fun env => (ev Φ e env).map fun y => [y]) ys) xs).bind limL
  | .rng1 a, env => (ev Φ a env).bind fun d => match d with
    | .int n => if rgOk n then some (.lst (rangeD 0 n)) else none
    | _ => none
  | .rng2 a b, env => (ev Φ a env).bind fun d => (ev Φ b env).bind fun d' => match d, d' with
    | .int m, .int n => if rgOk m && rgOk n then some (.lst (rangeD m n)) else none
    | _, _ => none
  | .enu a, env => (ev Φ a env).bind fun d => match d with
    | .lst xs => some (.lst (enumD 0 xs))
    | .tup xs => some (.lst (enumD 0 xs))
    | _ => none
  | .zip a b, env => (ev Φ a env).bind fun d => (ev Φ b env).bind fun d' => match d, d' with
    | .lst xs, .lst ys => some (.lst (zipD xs ys))
    | .tup xs, .tup ys => some (.lst (zipD xs ys))
    | .lst xs, .tup ys => some (.lst (zipD xs ys))
    | .tup xs, .lst ys => some (.lst (zipD xs ys))
    | _, _ => none
  | .lrng r, env => (ev Φ r env).bind fun d => match d with
    | .lst xs => limL xs
    | _ => none
  | .trng r, env => (ev Φ r env).bind fun d => match d with
    | .lst xs => if xs.length ≤ LIM then some (.tup xs) else none
    | _ => none

  | .attr cs a f, env => (ev Φ a env).bind (attrD cs f)
  | .glb _ ns, _ => some (.cst (ns.map .int))
  | .con _ _ n, _ => some (.int n)
  | .new f as, env => (ev Φ as env).bind fun r => match r with
    | .tup ds => Φ f ds
    | _ => none
  | .index a b, env => (ev Φ a env).bind fun x => (ev Φ b env).bind fun y => match x with
    | .lst xs => if okEq y && okEq (.lst xs) then (xs.findIdx? fun z => PyData.eqv z.py y.py).map fun (j : Nat) => D.int (j : Int) else none
    | _ => none
  | .dnew, _ => some (.dic false [])
  | .nnew, _ => some (.ndic [])
  | .zip3 a b c, env => (ev Φ a env).bind fun x => (ev Φ b env).bind fun y => (ev Φ c env).bind fun z =>
      (seqOf x).bind fun xs => (seqOf y).bind fun ys => (seqOf z).map fun zs => .lst (zipD3 xs ys zs)
  | .oit c f a, env => (ev Φ a env).bind fun d => match d with
    | .obj c' fs => if c' = c then (match fs.lookup f with
      | some (.tup xs) => some (.tup xs)
      | _ => none) else none
    | _ => none
  | .lk a, env => (ev Φ a env).bind fun d => if isL d then some (lkD d) else none
  | .getd a k d, env => (ev Φ a env).bind fun x => (ev Φ k env).bind fun y => (ev Φ d env).bind fun z => getD' x y z
  | .get1 a k, env => (ev Φ a env).bind fun x => (ev Φ k env).bind fun y => getD' x y .non
  | .disp k v, env => (ev Φ k env).bind fun y => (ev Φ v env).bind fun z => (keyOf y).map fun q => .dic false [(q, z)]

/-! ### statements -/
/-- how a value is read and kept: own: a list of one's own that may be changed; sh: the own lists are looked into, so the value must not hold on to them -/
structure Md where
  own : Bool := false
  sh : Bool := false
  so : Bool := false

inductive S where
  | skip | doc | never | brk | cnt | retN
  | seq (a b : S)
  | asg (i : Nat) (e : E) (m : Md)
  | asgT (is : List Nat) (e : E)
  | par (i j : Nat) (a b : E) (m m' : Md)
  | app (i : Nat) (e : E) (m : Md)
  | appPop (i j : Nat) (e : E)
  | setI (i : Nat) (k e : E) (m : Md)
  | aug (i : Nat) (o : Op) (e : E)
  | ex (e : E)
  | fld (c f : Str) (e : E) (m : Md)
  | par3 (i j k : Nat) (a b c : E) (m m' m'' : Md)
  | asgL (is : List Nat) (e : E)
  | rev (i : Nat)
  | iff (c : E) (a b : S)
  | for_ (t : T) (it : E) (b : S)
  | while_ (c : E) (b : S)
  | ret (e : E) (m : Md)
  | retv (i : Nat)
  | frz (is : List Nat) (s : S)

abbrev FEnv := List (Option (Bool × D))
def shw (env : FEnv) : Env := env.map (·.map (·.2))
def hid1 : Option (Bool × D) → Option D
  | some (false, d) => some d
  | _ => none
def hid (env : FEnv) : Env := env.map hid1
/-- the own lists seen, the own object not; the other way -/
def shl1 : Option (Bool × D) → Option D
  | some (true, .obj _ _) => none
  | some (_, d) => some d
  | none => none
def shl (env : FEnv) : Env := env.map shl1
def sho1 : Option (Bool × D) → Option D
  | some (true, .obj c fs) => some (.obj c fs)
  | some (false, d) => some d
  | _ => none
def sho (env : FEnv) : Env := env.map sho1
def seen (m : Md) (env : FEnv) : Env := match m.sh, m.so with
  | false, false => hid env
  | true, false => shl env
  | false, true => sho env
  | true, true => shw env
def putD (f : Str) (v : D) : List (Str × D) → List (Str × D)
  | [] => [(f, v)]
  | (g, x) :: r => if g = f then (g, v) :: r else (g, x) :: putD f v r
def frz1 (env : FEnv) (i : Nat) : FEnv := match (env[i]?).join with
  | some (true, d) => env.set i (some (false, lkD d))
  | _ => env
def frzAll (env : FEnv) (is : List Nat) : FEnv := is.foldl frz1 env

inductive Out | nx (env : FEnv) | bk (env : FEnv) | ct (env : FEnv) | rt (own : Bool) (d : D)

/-- a value that is kept in the mode m -/
def keepD (m : Md) (d : D) : Bool := (match m.own, m.sh with
  | false, false => true
  | false, true => d.flat
  | true, false => isL d
  | true, true => flatO d) && (!m.so || d.nob)
def evM (Φ : Fns) (e : E) (m : Md) (env : FEnv) : Option D :=
  (ev Φ e (seen m env)).bind fun d => if keepD m d then some d else none

def bindF : T → D → FEnv → Option FEnv
  | .nm i, d, env => some (env.set i (some (false, d)))
  | .tp is, .tup ds, env => setAllF is ds env
  | .tp _, _, _ => none
where
  setAllF : List Nat → List D → FEnv → Option FEnv
    | [], [], env => some env
    | i :: is, d :: ds, env => setAllF is ds (env.set i (some (false, d)))
    | _, _, _ => none

def forGo (bnd : D → FEnv → Option FEnv) (body : FEnv → Option Out) : List D → FEnv → Option Out
  | [], env => some (.nx env)
  | x :: xs, env => (bnd x env).bind fun env1 => match body env1 with
    | some (.nx e) => forGo bnd body xs e
    | some (.ct e) => forGo bnd body xs e
    | some (.bk e) => some (.nx e)
    | some (.rt o d) => some (.rt o d)
    | none => none
def whGo (c : FEnv → Option D) (body : FEnv → Option Out) : Nat → FEnv → Option Out
  | 0, _ => none
  | n + 1, env => match c env with
    | some (.bl true) => (match body env with
      | some (.nx e) => whGo c body n e
      | some (.ct e) => whGo c body n e
      | some (.bk e) => some (.nx e)
      | some (.rt o d) => some (.rt o d)
      | none => none)
    | some (.bl false) => some (.nx env)
    | _ => none
open Classical in
noncomputable def whAll (c : FEnv → Option D) (body : FEnv → Option Out) (env : FEnv) : Option Out :=
  if h : ∃ n, (whGo c body n env).isSome = true then whGo c body (choose h) env else none
theorem whGo_mono {c : FEnv → Option D} {body : FEnv → Option Out} : ∀ {n m : Nat} {env : FEnv} {o : Out}, whGo c body n env = some o → n ≤ m → whGo c body m env = some o
  | 0, _, _, _, h, _ => by simp [whGo] at h
  | n + 1, 0, _, _, _, l => by omega
  | n + 1, m + 1, env, o, h, l => by
    unfold whGo at h ⊢
    have hl : n ≤ m := by omega
    revert h
    cases hc : c env with
    | none => intro h; exact h
    | some d =>
      cases d <;> try (intro h; exact h)
      rename_i b
      cases b with
      | false => intro h; exact h
      | true =>
        dsimp only
        cases hb : body env with
        | none => intro h; exact h
        | some u =>
          cases u with
          | nx e => intro h; exact whGo_mono h hl
          | ct e => intro h; exact whGo_mono h hl
          | bk e => intro h; exact h
          | rt o d => intro h; exact h
theorem whAll_of {c : FEnv → Option D} {body : FEnv → Option Out} {n : Nat} {env : FEnv} {o : Out} (h : whGo c body n env = some o) : whAll c body env = some o := by
  have hx : ∃ n, (whGo c body n env).isSome = true := ⟨n, by rw [h]; rfl⟩
  unfold whAll
  rw [dif_pos hx]
  have h2 := Classical.choose_spec hx
  obtain ⟨o2, e2⟩ := Option.isSome_iff_exists.mp h2
  rcases Nat.le_total n (Classical.choose hx) with l | l
  · exact whGo_mono h l
  · have := whGo_mono e2 l
    rw [e2, ← this, h]
theorem whAll_ex {c : FEnv → Option D} {body : FEnv → Option Out} {env : FEnv} {o : Out} (h : whAll c body env = some o) : ∃ n, whGo c body n env = some o := by
  unfold whAll at h
  split at h
  · exact ⟨_, h⟩
  · cases h

noncomputable def evS (Φ : Fns) : S → FEnv → Option Out
  | .skip, env => some (.nx env)
  | .doc, env => some (.nx env)
  | .never, _ => none
  | .brk, env => some (.bk env)
  | .cnt, env => some (.ct env)
  | .retN, _ => some (.rt false .non)
  | .seq a b, env => (evS Φ a env).bind fun o => match o with
    | .nx e => evS Φ b e
    | o => some o
  | .asg i e m, env => (evM Φ e m env).map fun d => .nx (env.set i (some (m.own, d)))
  | .asgT is e, env => (ev Φ e (hid env)).bind fun d => (bindF (.tp is) d env).map .nx
  | .par i j a b m m', env => (evM Φ a m env).bind fun d => (evM Φ b m' env).map fun d' => .nx ((env.set i (some (m.own, d))).set j (some (m'.own, d')))
  | .app i e m, env => match (env[i]?).join with
    | some (true, .lst xs) => (evM Φ e m env).bind fun d => if xs.length < LIM then some (.nx (env.set i (some (true, .lst (xs ++ [d]))))) else none
    | _ => none
  | .appPop i j e, env => match (env[i]?).join, (env[j]?).join with
    | some (true, .lst xs), some (true, .lst ys) => (evM Φ e { sh := true } env).bind fun d => match d with
      | .int k => (ixN ys.length k).bind fun n => (ys[n]?).bind fun y =>
          if xs.length < LIM ∧ ys.length ≤ LIM ∧ i ≠ j then some (.nx ((env.set j (some (true, .lst (ys.eraseIdx n)))).set i (some (true, .lst (xs ++ [y]))))) else none
      | _ => none
    | _, _ => none
  | .setI i k e m, env => match (env[i]?).join with
    | some (true, .lst xs) => (evM Φ e m env).bind fun d => (evM Φ k { sh := true } env).bind fun q => match q with
      | .int z => (ixN xs.length z).map fun n => .nx (env.set i (some (true, .lst (xs.set n d))))
      | _ => none
    | some (true, .dic false kvs) => (evM Φ e m env).bind fun d => (evM Φ k { sh := true } env).bind fun q => (keyOf q).bind fun z =>
        if kvs.length < LIM then some (.nx (env.set i (some (true, .dic false (putKD kvs z d))))) else none
    | some (true, .ndic kvs) => (evM Φ e m env).bind fun d => (evM Φ k { sh := true } env).bind fun q => (nkey q).bind fun z =>
        if kvs.length < LIM then some (.nx (env.set i (some (true, .ndic (putN kvs z d))))) else none
    | _ => none
  | .aug i o e, env => match (env[i]?).join with
    | some (false, .int z) => (evM Φ e { sh := true } env).bind fun d => match d with
      | .int y => (binD o (.int z) (.int y)).map fun w => .nx (env.set i (some (false, w)))
      | _ => none
    | _ => none
  | .ex e, env => (ev Φ e (shw env)).map fun _ => .nx env
  | .fld c f e m, env => match ((env[0]?).join : Option (Bool × D)) with
    | some (true, .obj c' fs) => if c' = c ∧ fs.length < 1000 then (evM Φ e m env).map fun d => .nx (env.set 0 (some (true, .obj c (putD f d fs)))) else none
    | _ => none
  | .par3 i j k a b c m m' m'', env => (evM Φ a m env).bind fun d => (evM Φ b m' env).bind fun d' => (evM Φ c m'' env).map fun d'' => .nx (((env.set i (some (m.own, d))).set j (some (m'.own, d'))).set k (some (m''.own, d'')))
  | .asgL is e, env => (ev Φ e (hid env)).bind fun d => match d with
    | .lst xs => (bindF (.tp is) (.tup xs) env).map .nx
    | _ => none
  | .rev i, env => match (env[i]?).join with
    | some (true, .lst xs) => some (.nx (env.set i (some (true, .lst xs.reverse))))
    | _ => none
  | .iff c a b, env => match ev Φ c (shw env) with
    | some (.bl true) => evS Φ a env
    | some (.bl false) => evS Φ b env
    | _ => none
  | .for_ t it b, env => match it with
    | .rng1 _ => ((ev Φ it (shw env)).bind asSeq).bind fun xs => forGo (fun x env => bindF t x env) (fun env => evS Φ b env) xs env
    | .rng2 _ _ => ((ev Φ it (shw env)).bind asSeq).bind fun xs => forGo (fun x env => bindF t x env) (fun env => evS Φ b env) xs env
    | _ => ((ev Φ it (hid env)).bind asSeq).bind fun xs => forGo (fun x env => bindF t x env) (fun env => evS Φ b env) xs env
  | .while_ c b, env => whAll (fun env => ev Φ c (shw env)) (fun env => evS Φ b env) env
  | .ret e m, env => (evM Φ e m env).map fun d => .rt m.own d
  | .retv i, env => match (env[i]?).join with
    | some (true, .lst xs) => some (.rt true (.lst xs))
    | some (true, .dic false kvs) => some (.rt true (.dic false kvs))
    | _ => none
  | .frz is s, env => evS Φ s (frzAll env is)

/-- a def: how many names, its body -/
structure Fn where
  name : Str
  ps : List Str
  names : List Str
  body : S
  fr : Bool := false
  star : Bool := false
  init : Option Str := none
/-- the parameters' data -/
def argsOf (fn : Fn) (ds : List D) : Option (List D) :=
  if fn.star then (if fn.ps.length - 1 ≤ ds.length ∧ ds.length ≤ LIM then some (ds.take (fn.ps.length - 1) ++ [.tup (ds.drop (fn.ps.length - 1))]) else none)
  else if ds.length = fn.ps.length then some ds else none
def startF (fn : Fn) (ds : List D) : FEnv := ds.map (fun d => some (false, d)) ++ List.replicate (fn.names.length - ds.length) none
def outD (fr : Bool) : Option Out → Option D
  | some (.rt o d) => if fr && !o then none else some d
  | some (.nx _) => if fr then none else some .non
  | _ => none
/-- an __init__: its first slot holds the object -/
def startI (fn : Fn) (c : Str) (ds : List D) : FEnv := some (true, .obj c []) :: (ds.map (fun d => some (false, d)) ++ List.replicate (fn.names.length - (ds.length + 1)) none)
def outI (c : Str) : Option Out → Option D
  | some (.nx env) => match ((env[0]?).join : Option (Bool × D)) with
    | some (true, .obj c' fs) => if c' = c then some (.obj c fs) else none
    | _ => none
  | _ => none
noncomputable def runFn (Φ : Fns) (fn : Fn) (ds : List D) : Option D := match fn.init with
  | none => (argsOf fn ds).bind fun ds => outD fn.fr (evS Φ fn.body (startF fn ds))
  | some c => if ds.length + 1 = fn.ps.length then outI c (evS Φ fn.body (startI fn c ds)) else none
/-- the table, to a depth -/
noncomputable def fns (tb : List Fn) : Nat → Fns
  | 0, _, _ => none
  | 1, f, ds => match tb[f]? with
    | some fn => if fn.init.isSome then none else runFn (fun _ _ => none) fn ds
    | none => none
  | n + 2, f, ds => match tb[f]? with
    | some fn => if fn.init.isSome then runFn (fns tb n) fn ds else runFn (fns tb (n + 1)) fn ds
    | none => none
end PyD

/-! Data in the heap, and how it stays. -/
namespace PyD
open PySem L2

/-! ### dicts with nested keys -/
mutual
theorem hash_plain (w w' : World) : ∀ (d : D) (k : NestedKey), nkOf d = some k → k.hash w = k.hash w'
  | .int i, k, h => by
    have e : NestedKey.num i = k := Option.some.inj h
    subst e; rfl
  | .tup xs, k, h => by
    simp only [nkOf, Option.map_eq_some_iff] at h
    obtain ⟨ks, h1, rfl⟩ := h
    simp only [NestedKey.hash]
    rw [hashes_plain w w' xs ks h1]
  | .non, _, h => nomatch h
  | .bl _, _, h => nomatch h
  | .str _, _, h => nomatch h
  | .lst _, _, h => nomatch h
  | .ro _, _, h => nomatch h
  | .dic _ _, _, h => nomatch h
  | .obj _ _, _, h => nomatch h
  | .cst _, _, h => nomatch h
  | .ndic _, _, h => nomatch h
theorem hashes_plain (w w' : World) : ∀ (xs : List D) (ks : List NestedKey), nkL xs = some ks → NestedKey.hashes w ks = NestedKey.hashes w' ks
  | [], ks, h => by
    have e : [] = ks := Option.some.inj h
    subst e; rfl
  | x :: xs, ks, h => by
    simp only [nkL, Option.bind_eq_some_iff, Option.map_eq_some_iff] at h
    obtain ⟨k, h1, ks', h2, rfl⟩ := h
    simp only [NestedKey.hashes]
    rw [hash_plain w w' x k h1, hashes_plain w w' xs ks' h2]
end
theorem nkey_of {d : D} {k : NestedKey} (h : nkey d = some k) : nkOf d = some k ∧ k.depth ≤ 8 ∧ ∃ xs, d = .tup xs := by
  unfold nkey at h
  split at h
  · obtain ⟨k', h1, h2⟩ := Option.bind_eq_some_iff.mp h
    split at h2
    · cases h2
      exact ⟨h1, by assumption, _, rfl⟩
    · cases h2
  · cases h
def entN (w : World) (x : NestedKey × Addr × Value) : DictEntry := ⟨x.1.hash w, .ref x.2.1, x.2.2⟩
structure NdAt (h : Heap) (a : Addr) (xs : List (NestedKey × Addr × Value)) : Prop where
  len : xs.length ≤ sizeLine
  ob : ∃ o es ep, h.get? a = some o ∧ o.ExactDict ∧ o.data = .dict es ep ∧ ∀ w, es.toList = xs.map (entN w)
  nd : (xs.map (·.1)).Nodup
def NdO (a : Addr) (ws : List (NestedKey × Addr × V)) : HO := .ext fun h => ∃ xs, Paired (fun (p : NestedKey × Addr × V) (q : NestedKey × Addr × Value) => p.1 = q.1 ∧ p.2.1 = q.2.1 ∧ RelV p.2.2 q.2.2) ws xs ∧ NdAt h a xs
mutual
inductive Dat (K : PySem.W.Frag) (M : Hp) : V → D → Prop
  | non : Dat K M .non .non
  | bl (b : Bool) : Dat K M (.bl b) (.bl b)
  | int (i : Int) : Dat K M (.int i) (.int i)
  | str (x : Str) : Dat K M (.str x) (.str x)
  | tup {a : Addr} {vs : List V} {ds : List D} : M a = some (.tup vs) → DatL K M vs ds → Dat K M (.ref a) (.tup ds)
  | cst {a : Addr} {vs : List V} {ds : List D} : SqT K M a vs → DatL K M vs ds → Dat K M (.ref a) (.cst ds)
  | lst {a : Addr} {vs : List V} {ds : List D} : M a = some (.lst vs) → DatL K M vs ds → Dat K M (.ref a) (.lst ds)
  | ro {a : Addr} {vs : List V} {ds : List D} : SqL K M a vs → DatL K M vs ds → Dat K M (.ref a) (.ro ds)
  | dic {a : Addr} {o : Obj} {ws : List (List L2.Key × V)} {kvs : List (List Int × D)} : M a = some (.frz o (.dT ws)) → DatD K M ws kvs → Dat K M (.ref a) (.dic true kvs)
  | dpl {a : Addr} {ws : List (List L2.Key × V)} {kvs : List (List Int × D)} : M a = some (.dT ws) → DatD K M ws kvs → Dat K M (.ref a) (.dic false kvs)
  | ndic {a : Addr} {ws : List (NestedKey × Addr × V)} {kvs : List (NestedKey × D)} : M a = some (NdO a ws) → DatN K M ws kvs → Dat K M (.ref a) (.ndic kvs)
  | obj {a dx : Addr} {c : Str} {ws : List (Str × V)} {fs : List (Str × D)} : M a = some (.ins (He.ga K c) dx ws) → DatF K M ws fs → Dat K M (.ref a) (.obj c fs)
inductive DatD (K : PySem.W.Frag) (M : Hp) : List (List L2.Key × V) → List (List Int × D) → Prop
  | nil : DatD K M [] []
  | cons (k : List Int) {v : V} {ws : List (List L2.Key × V)} {d : D} {kvs : List (List Int × D)} : Dat K M v d → DatD K M ws kvs → DatD K M ((k.map .inl, v) :: ws) ((k, d) :: kvs)
inductive DatN (K : PySem.W.Frag) (M : Hp) : List (NestedKey × Addr × V) → List (NestedKey × D) → Prop
  | nil : DatN K M [] []
  | cons {k : NestedKey} {b : Addr} {dk : D} {v : V} {ws : List (NestedKey × Addr × V)} {d : D} {kvs : List (NestedKey × D)} : Dat K M (.ref b) dk → nkey dk = some k → Dat K M v d → DatN K M ws kvs → DatN K M ((k, b, v) :: ws) ((k, d) :: kvs)
inductive DatF (K : PySem.W.Frag) (M : Hp) : List (Str × V) → List (Str × D) → Prop
  | nil : DatF K M [] []
  | cons (f : Str) {v : V} {ws : List (Str × V)} {d : D} {fs : List (Str × D)} : Dat K M v d → DatF K M ws fs → DatF K M ((f, v) :: ws) ((f, d) :: fs)
inductive DatL (K : PySem.W.Frag) (M : Hp) : List V → List D → Prop
  | nil : DatL K M [] []
  | cons {v : V} {vs : List V} {d : D} {ds : List D} : Dat K M v d → DatL K M vs ds → DatL K M (v :: vs) (d :: ds)
end

theorem same_rd {H H' : Hp} {a : Addr} {u : HO} (e : Same H H') (h : Rd H a u) : Rd H' a u := by
  rcases h with h | ⟨o, h⟩
  · exact Or.inl (e a _ h)
  · exact Or.inr ⟨o, e a _ h⟩
theorem same_t {K : PySem.W.Frag} {H H' : Hp} {a : Addr} {xs : List V} (e : Same H H') (h : SqT K H a xs) : SqT K H' a xs := by
  rcases h with h | h
  · exact Or.inl (same_rd e h)
  · exact Or.inr h
section
variable {K : PySem.W.Frag} {M M' H H' H2 : Hp}
mutual
theorem Dat.mono (e : Same M M') : ∀ {v : V} {d : D}, Dat K M v d → Dat K M' v d
  | _, _, .non => .non
  | _, _, .bl b => .bl b
  | _, _, .int i => .int i
  | _, _, .str x => .str x
  | _, _, .tup h r => .tup (e _ _ h) (DatL.mono e r)
  | _, _, .cst h r => .cst (same_t e h) (DatL.mono e r)
  | _, _, .lst h r => .lst (e _ _ h) (DatL.mono e r)
  | _, _, .ro h r => .ro (Same.seq e h) (DatL.mono e r)
  | _, _, .dic h r => .dic (e _ _ h) (DatD.mono e r)
  | _, _, .dpl h r => .dpl (e _ _ h) (DatD.mono e r)
  | _, _, .obj h r => .obj (e _ _ h) (DatF.mono e r)
  | _, _, .ndic h r => .ndic (e _ _ h) (DatN.mono e r)
theorem DatD.mono (e : Same M M') : ∀ {ws : List (List L2.Key × V)} {kvs : List (List Int × D)}, DatD K M ws kvs → DatD K M' ws kvs
  | _, _, .nil => .nil
  | _, _, .cons k h r => .cons k (Dat.mono e h) (DatD.mono e r)
theorem DatN.mono (e : Same M M') : ∀ {ws : List (NestedKey × Addr × V)} {kvs : List (NestedKey × D)}, DatN K M ws kvs → DatN K M' ws kvs
  | _, _, .nil => .nil
  | _, _, .cons hk e1 h r => .cons (Dat.mono e hk) e1 (Dat.mono e h) (DatN.mono e r)
theorem DatF.mono (e : Same M M') : ∀ {ws : List (Str × V)} {fs : List (Str × D)}, DatF K M ws fs → DatF K M' ws fs
  | _, _, .nil => .nil
  | _, _, .cons f h r => .cons f (Dat.mono e h) (DatF.mono e r)
theorem DatL.mono (e : Same M M') : ∀ {vs : List V} {ds : List D}, DatL K M vs ds → DatL K M' vs ds
  | _, _, .nil => .nil
  | _, _, .cons h r => .cons (Dat.mono e h) (DatL.mono e r)
end
/-! what is flat leans on tuples alone -/
mutual
theorem Dat.flatly (e : ∀ a xs, M a = some (.tup xs) → M' a = some (.tup xs)) : ∀ {v : V} {d : D}, Dat K M v d → d.flat = true → Dat K M' v d
  | _, _, .non, _ => .non
  | _, _, .bl b, _ => .bl b
  | _, _, .int i, _ => .int i
  | _, _, .str x, _ => .str x
  | _, _, .tup h r, f => .tup (e _ _ h) (DatL.flatly e r f)
  | _, _, .lst _ _, f => nomatch f
  | _, _, .ro _ _, f => nomatch f
  | _, _, .dic _ _, f => nomatch f
  | _, _, .dpl _ _, f => nomatch f
  | _, _, .obj _ _, f => nomatch f
  | _, _, .ndic _ _, f => nomatch f
  | _, _, .cst _ _, f => nomatch f
theorem DatL.flatly (e : ∀ a xs, M a = some (.tup xs) → M' a = some (.tup xs)) : ∀ {vs : List V} {ds : List D}, DatL K M vs ds → flatL ds = true → DatL K M' vs ds
  | _, _, .nil, _ => .nil
  | _, _, .cons h r, f => by
    have f' := Bool.and_eq_true_iff.mp f
    exact .cons (Dat.flatly e h f'.1) (DatL.flatly e r f'.2)
end
/-- no instance -/
def isIns : HO → Bool
  | .ins _ _ _ => true
  | _ => false
/-! what has no object within leans on no instance -/
mutual
theorem Dat.nobly (e : ∀ a u, M a = some u → isIns u = false → M' a = some u) : ∀ {v : V} {d : D}, Dat K M v d → d.nob = true → Dat K M' v d
  | _, _, .non, _ => .non
  | _, _, .bl b, _ => .bl b
  | _, _, .int i, _ => .int i
  | _, _, .str x, _ => .str x
  | _, _, .tup h r, f => .tup (e _ _ h rfl) (DatL.nobly e r f)
  | _, _, .cst h r, f => .cst (by
      rcases h with (h | ⟨o, h⟩) | h
      · exact .inl (.inl (e _ _ h rfl))
      · exact .inl (.inr ⟨o, e _ _ h rfl⟩)
      · exact .inr h) (DatL.nobly e r f)
  | _, _, .lst h r, f => .lst (e _ _ h rfl) (DatL.nobly e r f)
  | _, _, .ro h r, f => .ro (by
      rcases h with (h | ⟨o, h⟩) | h
      · exact .inl (.inl (e _ _ h rfl))
      · exact .inl (.inr ⟨o, e _ _ h rfl⟩)
      · exact .inr h) (DatL.nobly e r f)
  | _, _, .dic h r, f => .dic (e _ _ h rfl) (DatD.nobly e r f)
  | _, _, .dpl h r, f => .dpl (e _ _ h rfl) (DatD.nobly e r f)
  | _, _, .obj _ _, f => nomatch f
  | _, _, .ndic _ _, f => nomatch f
theorem DatD.nobly (e : ∀ a u, M a = some u → isIns u = false → M' a = some u) : ∀ {ws : List (List L2.Key × V)} {kvs : List (List Int × D)}, DatD K M ws kvs → nobD kvs = true → DatD K M' ws kvs
  | _, _, .nil, _ => .nil
  | _, _, .cons k h r, f => by
    have f' := Bool.and_eq_true_iff.mp f
    exact .cons k (Dat.nobly e h f'.1) (DatD.nobly e r f'.2)
theorem DatL.nobly (e : ∀ a u, M a = some u → isIns u = false → M' a = some u) : ∀ {vs : List V} {ds : List D}, DatL K M vs ds → nobL ds = true → DatL K M' vs ds
  | _, _, .nil, _ => .nil
  | _, _, .cons h r, f => by
    have f' := Bool.and_eq_true_iff.mp f
    exact .cons (Dat.nobly e h f'.1) (DatL.nobly e r f'.2)
end
theorem DatD.flatly (e : ∀ a xs, M a = some (.tup xs) → M' a = some (.tup xs)) : ∀ {ws : List (List L2.Key × V)} {kvs : List (List Int × D)}, DatD K M ws kvs → flatD kvs = true → DatD K M' ws kvs
  | _, _, .nil, _ => .nil
  | _, _, .cons k h r, f => by
    have f' := Bool.and_eq_true_iff.mp f
    exact .cons k (Dat.flatly e h f'.1) (DatD.flatly e r f'.2)
mutual
theorem nk_flat : ∀ (d : D) (k : NestedKey), nkOf d = some k → d.flat = true
  | .int _, _, _ => rfl
  | .tup xs, k, h => by
    simp only [nkOf, Option.map_eq_some_iff] at h
    obtain ⟨ks, h1, _⟩ := h
    exact nkL_flat xs ks h1
  | .non, _, h => nomatch h
  | .bl _, _, h => nomatch h
  | .str _, _, h => nomatch h
  | .lst _, _, h => nomatch h
  | .ro _, _, h => nomatch h
  | .dic _ _, _, h => nomatch h
  | .obj _ _, _, h => nomatch h
  | .cst _, _, h => nomatch h
  | .ndic _, _, h => nomatch h
theorem nkL_flat : ∀ (xs : List D) (ks : List NestedKey), nkL xs = some ks → flatL xs = true
  | [], _, _ => rfl
  | x :: xs, ks, h => by
    simp only [nkL, Option.bind_eq_some_iff, Option.map_eq_some_iff] at h
    obtain ⟨k, h1, ks', h2, _⟩ := h
    simp only [flatL, nk_flat x k h1, nkL_flat xs ks' h2, Bool.and_self]
end
theorem DatN.flatly (e : ∀ a xs, M a = some (.tup xs) → M' a = some (.tup xs)) : ∀ {ws : List (NestedKey × Addr × V)} {kvs : List (NestedKey × D)}, DatN K M ws kvs → (kvs.all fun p => p.2.flat) = true → DatN K M' ws kvs
  | _, _, .nil, _ => .nil
  | _, _, .cons hk e1 h r, f => by
    have f' := Bool.and_eq_true_iff.mp f
    exact .cons (Dat.flatly e hk (nk_flat _ _ (nkey_of e1).1)) e1 (Dat.flatly e h f'.1) (DatN.flatly e r f'.2)
def lookW (ws : List (NestedKey × Addr × V)) (q : NestedKey) : Option (Addr × V) := (ws.find? fun x => decide (x.1 = q)).map (·.2)
def putW (ws : List (NestedKey × Addr × V)) (q : NestedKey) (b : Addr) (v : V) : List (NestedKey × Addr × V) := if (lookW ws q).isSome then ws.map (fun x => if x.1 = q then (x.1, x.2.1, v) else x) else ws ++ [(q, b, v)]
theorem DatN.length : ∀ {ws : List (NestedKey × Addr × V)} {kvs : List (NestedKey × D)}, DatN K M ws kvs → ws.length = kvs.length
  | _, _, .nil => rfl
  | _, _, .cons _ _ _ r => by simp [DatN.length r]
theorem DatN.look (q : NestedKey) : ∀ {ws : List (NestedKey × Addr × V)} {kvs : List (NestedKey × D)}, DatN K M ws kvs → ∀ {d : D}, lookN kvs q = some d → ∃ b v, lookW ws q = some (b, v) ∧ Dat K M v d
  | _, _, .nil, d, h => nomatch h
  | _, _, .cons (k := k) (b := b) (v := v) hk e1 h r, d, e => by
    unfold lookN at e
    unfold lookW
    rw [List.find?_cons]
    by_cases c : k = q
    · rw [if_pos c] at e
      cases e
      exact ⟨b, v, by simp [c], h⟩
    · rw [if_neg c] at e
      obtain ⟨b', v', e2, h2⟩ := DatN.look q r e
      exact ⟨b', v', by simpa [c, lookW] using e2, h2⟩
theorem DatN.any (q : NestedKey) : ∀ {ws : List (NestedKey × Addr × V)} {kvs : List (NestedKey × D)}, DatN K M ws kvs → (lookW ws q).isSome = kvs.any fun kv => decide (kv.1 = q)
  | _, _, .nil => rfl
  | _, _, .cons (k := k) hk e1 h r => by
    rw [List.any_cons, ← DatN.any q r]
    unfold lookW
    rw [List.find?_cons]
    by_cases c : k = q <;> simp [c]
theorem DatN.repl {q : NestedKey} {v : V} {d : D} (hv : Dat K M v d) : ∀ {ws : List (NestedKey × Addr × V)} {kvs : List (NestedKey × D)}, DatN K M ws kvs → DatN K M (ws.map fun x => if x.1 = q then (x.1, x.2.1, v) else x) (kvs.map fun kv => if kv.1 = q then (kv.1, d) else kv)
  | _, _, .nil => .nil
  | _, _, .cons (k := k) hk e1 h r => by
    rw [List.map_cons, List.map_cons]
    by_cases c : k = q
    · rw [if_pos c, if_pos c]
      exact .cons hk e1 hv (DatN.repl hv r)
    · rw [if_neg c, if_neg c]
      exact .cons hk e1 h (DatN.repl hv r)
theorem DatN.app : ∀ {ws ws' : List (NestedKey × Addr × V)} {kvs kvs' : List (NestedKey × D)}, DatN K M ws kvs → DatN K M ws' kvs' → DatN K M (ws ++ ws') (kvs ++ kvs')
  | _, _, _, _, .nil, s => s
  | _, _, _, _, .cons hk e1 h r, s => .cons hk e1 h (DatN.app r s)
theorem DatN.put {ws : List (NestedKey × Addr × V)} {kvs : List (NestedKey × D)} {q : NestedKey} {b : Addr} {dk : D} {v : V} {d : D} (h : DatN K M ws kvs) (hk : Dat K M (.ref b) dk) (e : nkey dk = some q) (hv : Dat K M v d) : DatN K M (putW ws q b v) (putN kvs q d) := by
  unfold putW putN
  rw [h.any q]
  split
  · exact h.repl hv
  · exact h.app (.cons hk e hv .nil)
theorem inl_inj {k q : List Int} : k.map (Sum.inl (β := Str)) = q.map Sum.inl ↔ k = q := by
  constructor
  · intro h
    have := congrArg (List.map (fun x : Int ⊕ Str => match x with | .inl i => i | .inr _ => 0)) h
    simpa [List.map_map, Function.comp_def] using this
  · rintro rfl; rfl
theorem DatD.length : ∀ {ws : List (List L2.Key × V)} {kvs : List (List Int × D)}, DatD K M ws kvs → ws.length = kvs.length
  | _, _, .nil => rfl
  | _, _, .cons _ _ r => by simp [DatD.length r]
theorem DatD.look : ∀ {ws : List (List L2.Key × V)} {kvs : List (List Int × D)} (q : List Int), DatD K M ws kvs → (∀ d, lookD kvs q = some d → ∃ v, L2.valV ws (q.map Sum.inl) = some v ∧ Dat K M v d) ∧ (lookD kvs q = none → L2.valV ws (q.map Sum.inl) = none)
  | _, _, q, .nil => ⟨fun d h => (nomatch h), fun _ => rfl⟩
  | _, _, q, .cons k (v := v) (ws := ws) h r => by
    obtain ⟨i1, i2⟩ := DatD.look q r
    have e : L2.valV ((k.map Sum.inl, v) :: ws) (q.map Sum.inl) = if k = q then some v else L2.valV ws (q.map Sum.inl) := by
      unfold L2.valV
      rw [List.find?_cons]
      by_cases c : k = q
      · subst c; simp
      · have c' : ¬ (k.map (Sum.inl (β := Str)) = q.map Sum.inl) := fun z => c (inl_inj.mp z)
        simp [c, c']
    rw [e]
    unfold lookD
    by_cases c : k = q
    · rw [if_pos c, if_pos c]
      exact ⟨fun d hd => ⟨v, rfl, (by cases hd; exact h)⟩, fun hd => nomatch hd⟩
    · rw [if_neg c, if_neg c]
      exact ⟨i1, i2⟩
theorem DatD.app : ∀ {ws ws' : List (List L2.Key × V)} {kvs kvs' : List (List Int × D)}, DatD K M ws kvs → DatD K M ws' kvs' → DatD K M (ws ++ ws') (kvs ++ kvs')
  | _, _, _, _, .nil, s => s
  | _, _, _, _, .cons k h r, s => .cons k h (DatD.app r s)
theorem DatD.any (q : List Int) : ∀ {ws : List (List L2.Key × V)} {kvs : List (List Int × D)}, DatD K M ws kvs → ws.any (fun kv => decide (kv.1 = q.map Sum.inl)) = kvs.any (fun kv => decide (kv.1 = q))
  | _, _, .nil => rfl
  | _, _, .cons k h r => by
    rw [List.any_cons, List.any_cons, DatD.any q r]
    congr 1
    exact decide_eq_decide.mpr inl_inj
theorem DatD.repl {q : List Int} {v : V} {d : D} (hv : Dat K M v d) : ∀ {ws : List (List L2.Key × V)} {kvs : List (List Int × D)}, DatD K M ws kvs → DatD K M (ws.map fun kv => if kv.1 = q.map Sum.inl then (kv.1, v) else kv) (kvs.map fun kv => if kv.1 = q then (kv.1, d) else kv)
  | _, _, .nil => .nil
  | _, _, .cons k h r => by
    rw [List.map_cons, List.map_cons]
    by_cases c : k = q
    · subst c
      rw [if_pos rfl, if_pos rfl]
      exact .cons _ hv (DatD.repl hv r)
    · rw [if_neg c, if_neg (fun z => c (inl_inj.mp z))]
      exact .cons _ h (DatD.repl hv r)
theorem DatD.put {ws : List (List L2.Key × V)} {kvs : List (List Int × D)} {q : List Int} {v : V} {d : D} (h : DatD K M ws kvs) (hv : Dat K M v d) : DatD K M (L2.putK ws (q.map Sum.inl) v) (putKD kvs q d) := by
  unfold L2.putK putKD
  rw [h.any q]
  split
  · exact h.repl hv
  · exact h.app (.cons q hv .nil)
theorem DatD.getI : ∀ {ws : List (List L2.Key × V)} {kvs : List (List Int × D)}, DatD K M ws kvs → ∀ {i : Nat} {k : List L2.Key} {v : V}, ws[i]? = some (k, v) → ∃ q d, kvs[i]? = some (q, d) ∧ k = q.map Sum.inl
  | _, _, .nil, i, k, v, h => by simp at h
  | _, _, .cons q h r, 0, k, v, e => by cases e; exact ⟨q, _, rfl, rfl⟩
  | _, _, .cons q h r, i + 1, k, v, e => DatD.getI r (by simpa using e)
/-- what an own cell holds -/
def Own (K : PySem.W.Frag) (M : Hp) (a : Addr) (o : HO) : D → Prop
  | .lst ds => ∃ vs, o = .lst vs ∧ DatL K M vs ds
  | .dic false kvs => ∃ ws, o = .dT ws ∧ DatD K M ws kvs
  | .obj c fs => ∃ dx ws, o = .ins (He.ga K c) dx ws ∧ DatF K M ws fs
  | .ndic kvs => ∃ ws, o = NdO a ws ∧ DatN K M ws kvs
  | _ => False
theorem Own.cases {a : Addr} {o : HO} {d : D} {P : Prop} (h : Own K M a o d) (h1 : ∀ ds vs, d = .lst ds → o = .lst vs → DatL K M vs ds → P) (h2 : ∀ kvs ws, d = .dic false kvs → o = .dT ws → DatD K M ws kvs → P) (h3 : ∀ c fs dx ws, d = .obj c fs → o = .ins (He.ga K c) dx ws → DatF K M ws fs → P) (h4 : ∀ kvs ws, d = .ndic kvs → o = NdO a ws → DatN K M ws kvs → P) : P := by
  cases d with
  | lst ds => obtain ⟨vs, e, r⟩ := h; exact h1 _ vs rfl e r
  | dic lk kvs =>
    cases lk with
    | true => exact h.elim
    | false => obtain ⟨ws, e, r⟩ := h; exact h2 _ ws rfl e r
  | obj c fs => obtain ⟨dx, ws, e, r⟩ := h; exact h3 _ _ dx ws rfl e r
  | ndic kvs => obtain ⟨ws, e, r⟩ := h; exact h4 _ ws rfl e r
  | _ => exact h.elim
theorem Own.mono {a : Addr} {o : HO} {d : D} (e : Same M M') (h : Own K M a o d) : Own K M' a o d := by
  refine h.cases (fun ds vs e1 e2 r => ?_) (fun kvs ws e1 e2 r => ?_) (fun c fs dx ws e1 e2 r => ?_) fun kvs ws e1 e2 r => ?_
  · subst e1; exact ⟨vs, e2, r.mono e⟩
  · subst e1; exact ⟨ws, e2, r.mono e⟩
  · subst e1; exact ⟨dx, ws, e2, r.mono e⟩
  · subst e1; exact ⟨ws, e2, r.mono e⟩
/-- an own cell that is shown -/
theorem Own.dat {o : HO} {d : D} {a : Addr} (h : Own K M a o d) (ha : M a = some o) : Dat K M (.ref a) d := by
  refine h.cases (fun ds vs e1 e2 r => ?_) (fun kvs ws e1 e2 r => ?_) (fun c fs dx ws e1 e2 r => ?_) fun kvs ws e1 e2 r => ?_
  · subst e1 e2; exact .lst ha r
  · subst e1 e2; exact .dpl ha r
  · subst e1 e2; exact .obj ha r
  · subst e1 e2; exact .ndic ha r
/-- a cell that may be own -/
def isOwn : HO → Bool
  | .lst _ => true
  | .dT _ => true
  | .ins _ _ _ => true
  | .ext _ => true
  | _ => false
theorem Own.is {a : Addr} {o : HO} {d : D} (h : Own K M a o d) : isOwn o = true := by
  refine h.cases (fun ds vs e1 e2 r => ?_) (fun kvs ws e1 e2 r => ?_) (fun c fs dx ws e1 e2 r => ?_) fun kvs ws e1 e2 r => ?_ <;> (subst e2; rfl)
theorem DatF.put {v : V} {d : D} (f : Str) (h : Dat K M v d) : ∀ {ws : List (Str × V)} {fs : List (Str × D)}, DatF K M ws fs → DatF K M (putF f v ws) (putD f d fs)
  | _, _, .nil => .cons f h .nil
  | _, _, .cons g q r => by
    unfold putF putD
    split
    · exact .cons g h r
    · exact .cons g q (DatF.put f h r)
theorem DatF.length : ∀ {ws : List (Str × V)} {fs : List (Str × D)}, DatF K M ws fs → ws.length = fs.length
  | _, _, .nil => rfl
  | _, _, .cons _ _ r => by simp [DatF.length r]
theorem DatF.get {f : Str} {d : D} : ∀ {ws : List (Str × V)} {fs : List (Str × D)}, DatF K M ws fs → fs.lookup f = some d → ∃ v, ws.lookup f = some v ∧ Dat K M v d
  | _, _, .nil, h => by cases h
  | _, _, .cons g q r, h => by
    rw [List.lookup_cons] at h ⊢
    split at h
    · cases h
      exact ⟨_, rfl, q⟩
    · exact DatF.get r h
theorem DatL.length : ∀ {vs : List V} {ds : List D}, DatL K M vs ds → vs.length = ds.length
  | _, _, .nil => rfl
  | _, _, .cons _ r => by simp [DatL.length r]
theorem DatL.get : ∀ {vs : List V} {ds : List D}, DatL K M vs ds → ∀ {i : Nat} {d : D}, ds[i]? = some d → ∃ v, vs[i]? = some v ∧ Dat K M v d
  | _, _, .nil, i, d, h => by simp at h
  | _, _, .cons h r, 0, d, e => by
    have e' : _ = d := Option.some.inj e
    subst e'
    exact ⟨_, rfl, h⟩
  | _, _, .cons h r, i + 1, d, e => DatL.get r (by simpa using e)
theorem DatL.get' : ∀ {vs : List V} {ds : List D}, DatL K M vs ds → ∀ {i : Nat} {v : V}, vs[i]? = some v → ∃ d, ds[i]? = some d ∧ Dat K M v d
  | _, _, .nil, i, d, h => by simp at h
  | _, _, .cons h r, 0, d, e => by
    have e' : _ = d := Option.some.inj e
    subst e'
    exact ⟨_, rfl, h⟩
  | _, _, .cons h r, i + 1, d, e => DatL.get' r (by simpa using e)
theorem DatL.append : ∀ {vs ws : List V} {ds es : List D}, DatL K M vs ds → DatL K M ws es → DatL K M (vs ++ ws) (ds ++ es)
  | _, _, _, _, .nil, s => s
  | _, _, _, _, .cons h r, s => .cons h (DatL.append r s)
theorem DatL.reverse : ∀ {vs : List V} {ds : List D}, DatL K M vs ds → DatL K M vs.reverse ds.reverse
  | _, _, .nil => .nil
  | _, _, .cons h r => by
    rw [List.reverse_cons, List.reverse_cons]
    exact (DatL.reverse r).append (.cons h .nil)
theorem DatL.take : ∀ {vs : List V} {ds : List D} (n : Nat), DatL K M vs ds → DatL K M (vs.take n) (ds.take n)
  | _, _, 0, _ => .nil
  | _, _, _ + 1, .nil => .nil
  | _, _, n + 1, .cons h r => .cons h (DatL.take n r)
theorem DatL.drop : ∀ {vs : List V} {ds : List D} (n : Nat), DatL K M vs ds → DatL K M (vs.drop n) (ds.drop n)
  | _, _, 0, r => r
  | _, _, _ + 1, .nil => .nil
  | _, _, n + 1, .cons _ r => DatL.drop n r
theorem DatL.set {v : V} {d : D} (h : Dat K M v d) : ∀ {vs : List V} {ds : List D} (n : Nat), DatL K M vs ds → DatL K M (vs.set n v) (ds.set n d)
  | _, _, _, .nil => .nil
  | _, _, 0, .cons _ r => .cons h r
  | _, _, n + 1, .cons q r => .cons q (DatL.set h n r)
theorem DatL.erase : ∀ {vs : List V} {ds : List D} (n : Nat), DatL K M vs ds → DatL K M (vs.eraseIdx n) (ds.eraseIdx n)
  | _, _, _, .nil => .nil
  | _, _, 0, .cons _ r => r
  | _, _, n + 1, .cons q r => .cons q (DatL.erase n r)
theorem DatL.rep {vs : List V} {ds : List D} (h : DatL K M vs ds) : ∀ k : Nat, DatL K M (List.replicate k vs).flatten (List.replicate k ds).flatten
  | 0 => .nil
  | k + 1 => by
    rw [List.replicate_succ, List.replicate_succ, List.flatten_cons, List.flatten_cons]
    exact h.append (DatL.rep h k)
theorem DatL.intsOf : ∀ {ns : List Int}, DatL K M (ns.map V.int) (ns.map D.int)
  | [] => .nil
  | _ :: _ => .cons (.int _) DatL.intsOf
theorem DatL.of_ints : ∀ {ns : List Int} {vs : List V} {ds : List D}, DatL K M vs ds → PyD.intsOf ds = some ns → vs = ns.map V.int
  | ns, _, _, .nil, h => by
    have e : [] = ns := Option.some.inj h
    subst e
    rfl
  | ns, _, _, .cons q r, h => by
    cases q with
    | int i =>
      simp only [PyD.intsOf, Option.map_eq_some_iff] at h
      obtain ⟨ms, h1, rfl⟩ := h
      rw [DatL.of_ints r h1]
      rfl
    | _ => simp [PyD.intsOf] at h

/-! as the data that == reads -/
mutual
theorem Dat.dp (e : Same M H) : ∀ {v : V} {d : D}, Dat K M v d → d.py.canLay0 = true → Dp K H v d.py
  | _, _, .non, _ => .non
  | _, _, .bl b, _ => .bl b
  | _, _, .int i, _ => .int i
  | _, _, .str x, _ => .str x
  | _, _, .tup h r, f => .tup (SqT.of (e _ _ h)) (DatL.dp e r (by simpa [D.py, PyData.canLay0] using f))
  | _, _, .cst _ _, f => nomatch f
  | _, _, .lst h r, f => .lst (SqL.of (e _ _ h)) (DatL.dp e r (by simpa [D.py, PyData.canLay0] using f))
  | _, _, .ro _ _, f => nomatch f
  | _, _, .dic _ _, f => nomatch f
  | _, _, .dpl _ _, f => nomatch f
  | _, _, .obj _ _, f => nomatch f
  | _, _, .ndic _ _, f => nomatch f
theorem DatL.dp (e : Same M H) : ∀ {vs : List V} {ds : List D}, DatL K M vs ds → PyData.canLayAll0 (pyL ds) = true → DpAll K H vs (pyL ds)
  | _, _, .nil, _ => .nil
  | _, _, .cons h r, f => by
    simp only [pyL, PyData.canLayAll0, Bool.and_eq_true] at f
    exact .cons (Dat.dp e h f.1) (DatL.dp e r f.2)
end
end

/-! ### the frozen part and what is new -/
/-- no own cell: new, or a tuple -/
def Nw (H : Hp) (a : Addr) : Prop := H a = none ∨ ∃ xs, H a = some (.tup xs)
theorem Nw.back {H H' : Hp} {a : Addr} (s : Same H H') (h : Nw H' a) : Nw H a := by
  rcases h with h | ⟨xs, h⟩
  · exact .inl (s.free h)
  · cases e : H a with
    | none => exact .inl e
    | some u =>
      have := s a u e
      rw [h] at this
      cases this
      exact .inr ⟨xs, e⟩
theorem Nw.no {H : Hp} {a : Addr} {u : HO} (h : Nw H a) (e : H a = some u) (ht : ∀ xs, u ≠ .tup xs) : False := by
  rcases h with h | ⟨xs, h⟩
  · rw [e] at h; cases h
  · rw [e] at h; cases h; exact ht xs rfl
structure Xt (M M' H H' : Hp) : Prop where
  m : Same M M'
  h : Same H H'
  s : Same M' H'
  f : ∀ a, M' a ≠ none → M a ≠ none ∨ Nw H a
section
variable {K : PySem.W.Frag} {M M1 M' H H1 H' : Hp}
theorem Xt.refl (s : Same M H) : Xt M M H H := ⟨Same.refl M, Same.refl H, s, fun _ h => .inl h⟩
theorem Xt.trans (a : Xt M M1 H H1) (b : Xt M1 M' H1 H') : Xt M M' H H' :=
  ⟨a.m.trans b.m, a.h.trans b.h, b.s, fun c h => (b.f c h).elim (a.f c) fun q => .inr (q.back a.h)⟩
theorem same_new {H : Hp} {p : Addr} {o : HO} (h : H p = none) : Same H (upd H p o) := fun a u e => by
  rw [upd_ne (ne_of_none e h)]
  exact e
/-- a new object, kept for good -/
theorem Xt.new {p : Addr} {o : HO} (s : Same M H) (hp : H p = none) : Xt M (upd M p o) H (upd H p o) := by
  have mp : M p = none := s.free hp
  refine ⟨same_new mp, same_new hp, fun a u e => ?_, fun a h => ?_⟩
  · by_cases q : a = p
    · subst q
      rw [upd_same] at e ⊢
      exact e
    · rw [upd_ne q] at e ⊢
      exact s a u e
  · by_cases q : a = p
    · subst q
      exact .inr (.inl hp)
    · rw [upd_ne q] at h
      exact .inl h
/-- a new object, not kept -/
theorem Xt.newH {p : Addr} {o : HO} (s : Same M H) (hp : H p = none) : Xt M M H (upd H p o) :=
  ⟨Same.refl M, same_new hp, s.trans (same_new hp), fun _ h => .inl h⟩
/-- an object that is new since H is kept from now on -/
theorem Xt.keep {p : Addr} {o : HO} (x : Xt M M' H H') (hp : H p = none) (mp : M' p = none) (ho : H' p = some o) : Xt M (upd M' p o) H H' := by
  refine ⟨x.m.trans (same_new mp), x.h, fun a u e => ?_, fun a h => ?_⟩
  · by_cases q : a = p
    · subst q
      rw [upd_same] at e
      rw [← e]
      exact ho
    · rw [upd_ne q] at e
      exact x.s a u e
  · by_cases q : a = p
    · subst q
      exact .inr (.inl hp)
    · rw [upd_ne q] at h
      exact x.f a h

/-- a value that was made: fr: a new list or dict, not kept yet, its items kept -/
def Res (K : PySem.W.Frag) (M' H H' : Hp) : Bool → V → D → Prop
  | false, v, d => Dat K M' v d
  | true, v, d => ∃ l o, v = .ref l ∧ isL d = true ∧ H l = none ∧ H' l = some o ∧ M' l = none ∧ Own K M' l o d
theorem Own.ntup {K : PySem.W.Frag} {M : Hp} {a : Addr} {o : HO} {d : D} (h : Own K M a o d) : ∀ xs, o ≠ .tup xs := fun xs e => by
  have := h.is
  rw [e] at this
  cases this
/-- the new list is kept -/
theorem Res.keep {fr : Bool} {v : V} {d : D} (x : Xt M M' H H') (r : Res K M' H H' fr v d) : ∃ M2, Xt M M2 H H' ∧ Dat K M2 v d := by
  cases fr with
  | false => exact ⟨M', x, r⟩
  | true =>
    obtain ⟨l, o, rfl, il, hl, h', ml, r⟩ := r
    exact ⟨upd M' l o, x.keep hl ml h', (r.mono (same_new ml)).dat upd_same⟩

/-- the slots' data -/
structure Rd0 (K : PySem.W.Frag) (M : Hp) (σ : L2.St) (env : Env) : Prop where
  len : σ.length = env.length
  ix : ∀ (i : Nat) (d : D), env[i]? = some (some d) → ∃ v, σ[i]? = some (some v) ∧ Dat K M v d
theorem Rd0.mono {σ : L2.St} {env : Env} (e : Same M M') (r : Rd0 K M σ env) : Rd0 K M' σ env := ⟨r.len, fun i d h =>
  let ⟨v, h1, h2⟩ := r.ix i d h
  ⟨v, h1, h2.mono e⟩⟩
theorem Rd0.set {σ : L2.St} {env : Env} {i : Nat} {v : V} {d : D} (r : Rd0 K M σ env) (h : Dat K M v d) : Rd0 K M (σ.set i (some v)) (env.set i (some d)) := ⟨by simp [r.len], fun j e q => by
  have hl := r.len
  by_cases hj : i = j
  · subst hj
    have hi : i < env.length := by
      by_cases hi : i < env.length
      · exact hi
      · rw [List.getElem?_eq_none (by rw [List.length_set]; omega)] at q
        cases q
    rw [List.getElem?_set_self hi] at q
    cases q
    exact ⟨v, by rw [List.getElem?_set_self (by omega)], h⟩
  · rw [List.getElem?_set_ne hj] at q ⊢
    exact r.ix j e q⟩
theorem Rd0.wipe {σ : L2.St} {env : Env} (r : Rd0 K M σ env) : ∀ vs : List Nat, Rd0 K M (L2.wipe σ vs) (wipeE env vs)
  | [] => r
  | v :: vs => by
    have ih := Rd0.wipe r vs
    refine ⟨by unfold L2.wipe wipeE; simp [ih.len], fun j e q => ?_⟩
    unfold wipeE at q
    unfold L2.wipe
    by_cases hj : v = j
    · subst hj
      exfalso
      by_cases hi : v < (wipeE env vs).length
      · rw [List.getElem?_set_self hi] at q; cases q
      · rw [List.getElem?_eq_none (by rw [List.length_set]; omega)] at q; cases q
    · rw [List.getElem?_set_ne hj] at q ⊢
      exact ih.ix j e q
end
end PyD

/-! Dicts with nested keys in the heap: made, asked, written. -/
namespace PyD
open PySem PySem.Spec PyProof.Rows L2
/-- the value .ref b is the key k -/
def KeyAt (P : Program) (w : World) (H : Hp) (k : NestedKey) (b : Addr) : Prop := ∀ h, HOk P w H h → (nestedKind P w).is h k b
mutual
theorem nested_is {P : Program} {w : World} {K : PySem.W.Frag} {M H : Hp} {h : Heap} (sm : Same M H) (ok : HOk P w H h) : ∀ {v : V} {d : D}, Dat K M v d → ∀ {k : NestedKey} {u : Value}, nkOf d = some k → RelV v u → NestedIs h k u
  | _, _, .int i, k, u, e, r => by
    have e' : NestedKey.num i = k := Option.some.inj e
    subst e'
    obtain ⟨t, rfl⟩ := r
    exact .int i t
  | _, _, .tup (a := a) (vs := vs) hm hd, k, u, e, r => by
    simp only [nkOf, Option.map_eq_some_iff] at e
    obtain ⟨ks, e1, rfl⟩ := e
    have r' : u = Value.ref a := r
    subst r'
    obtain ⟨_, its, rv, o, ho, hc, n, hdt⟩ := (show ObjOk P w H h a (.tup vs) from ok a _ (sm _ _ hm))
    exact .tup ho hc hdt (by simpa using nested_all sm ok hd e1 rv)
  | _, _, .non, _, _, e, _ => nomatch e
  | _, _, .bl _, _, _, e, _ => nomatch e
  | _, _, .str _, _, _, e, _ => nomatch e
  | _, _, .cst _ _, _, _, e, _ => nomatch e
  | _, _, .lst _ _, _, _, e, _ => nomatch e
  | _, _, .ro _ _, _, _, e, _ => nomatch e
  | _, _, .dic _ _, _, _, e, _ => nomatch e
  | _, _, .dpl _ _, _, _, e, _ => nomatch e
  | _, _, .obj _ _, _, _, e, _ => nomatch e
  | _, _, .ndic _ _, _, _, e, _ => nomatch e
theorem nested_all {P : Program} {w : World} {K : PySem.W.Frag} {M H : Hp} {h : Heap} (sm : Same M H) (ok : HOk P w H h) : ∀ {vs : List V} {ds : List D}, DatL K M vs ds → ∀ {ks : List NestedKey} {us : List Value}, nkL ds = some ks → Vals vs us → NestedAll h ks us
  | _, _, .nil, ks, us, e, r => by
    have e' : [] = ks := Option.some.inj e
    subst e'
    cases r
    exact .nil
  | _, _, .cons hd hds, ks, us, e, r => by
    simp only [nkL, Option.bind_eq_some_iff, Option.map_eq_some_iff] at e
    obtain ⟨k, e1, ks', e2, rfl⟩ := e
    cases r with
    | cons r1 r2 => exact .cons (nested_is sm ok hd e1 r1) (nested_all sm ok hds e2 r2)
end
theorem keyAt_of {P : Program} {w : World} {K : PySem.W.Frag} {M H : Hp} {b : Addr} {d : D} {k : NestedKey} (sm : Same M H) (h : Dat K M (.ref b) d) (e : nkey d = some k) : KeyAt P w H k b := fun _ ok => ⟨nested_is sm ok h (nkey_of e).1 rfl, (nkey_of e).2.1⟩
theorem keysAt_of {P : Program} {w : World} {K : PySem.W.Frag} {M H : Hp} (sm : Same M H) : ∀ {ws : List (NestedKey × Addr × V)} {kvs : List (NestedKey × D)}, DatN K M ws kvs → ∀ x ∈ ws, KeyAt P w H x.1 x.2.1
  | _, _, .nil, x, hx => by simp at hx
  | _, _, .cons hk e _ r, x, hx => by
    rcases List.mem_cons.mp hx with rfl | hx
    · exact keyAt_of sm hk e
    · exact keysAt_of sm r x hx
/-- plain: ints and tuples of such -/
def Plain (k : NestedKey) : Prop := ∀ w w' : World, k.hash w = k.hash w'
theorem plain_of {d : D} {k : NestedKey} (e : nkey d = some k) : Plain k := fun w w' => hash_plain w w' d k (nkey_of e).1
abbrev WR : NestedKey × Addr × V → NestedKey × Addr × Value → Prop := fun p q => p.1 = q.1 ∧ p.2.1 = q.2.1 ∧ RelV p.2.2 q.2.2
theorem paired_len {α β : Type} {R : α → β → Prop} : ∀ {l : List α} {m : List β}, Paired R l m → l.length = m.length
  | _, _, .nil => rfl
  | _, _, .cons _ t => by simp [paired_len t]
theorem paired_mem {α β : Type} {R : α → β → Prop} : ∀ {l : List α} {m : List β}, Paired R l m → ∀ y ∈ m, ∃ x ∈ l, R x y
  | _, _, .nil, y, hy => by simp at hy
  | _, _, .cons (a := a) h t, y, hy => by
    rcases List.mem_cons.mp hy with rfl | hy
    · exact ⟨_, List.mem_cons_self .., h⟩
    · obtain ⟨x, hx, r⟩ := paired_mem t y hy
      exact ⟨x, List.mem_cons_of_mem _ hx, r⟩
theorem paired_app {α β : Type} {R : α → β → Prop} : ∀ {l l' : List α} {m m' : List β}, Paired R l m → Paired R l' m' → Paired R (l ++ l') (m ++ m')
  | _, _, _, _, .nil, s => s
  | _, _, _, _, .cons h t, s => .cons h (paired_app t s)
theorem wr_at (q : NestedKey) : ∀ {ws : List (NestedKey × Addr × V)} {xs : List (NestedKey × Addr × Value)}, Paired WR ws xs → (∀ p, lookW ws q = some p → ∃ u, atKey xs q = some (p.1, u) ∧ RelV p.2 u) ∧ (lookW ws q = none → atKey xs q = none)
  | _, _, .nil => ⟨fun p h => (nomatch h), fun _ => rfl⟩
  | _, _, .cons (a := x) (b := y) ⟨h1, h2, h3⟩ t => by
    obtain ⟨i1, i2⟩ := wr_at q t
    unfold lookW atKey
    rw [List.find?_cons, List.find?_cons, ← h1]
    by_cases c : x.1 = q
    · simp only [c, decide_true, Option.map_some]
      exact ⟨fun p hp => by cases hp; exact ⟨y.2.2, by rw [h2], h3⟩, fun hp => nomatch hp⟩
    · simp only [c, decide_false]
      exact ⟨i1, i2⟩
theorem wr_repl {q : NestedKey} {v : V} {u : Value} (r : RelV v u) : ∀ {ws : List (NestedKey × Addr × V)} {xs : List (NestedKey × Addr × Value)}, Paired WR ws xs → Paired WR (ws.map fun x => if x.1 = q then (x.1, x.2.1, v) else x) (xs.map (putAt q u))
  | _, _, .nil => .nil
  | _, _, .cons (a := x) (b := y) ⟨h1, h2, h3⟩ t => by
    rw [List.map_cons, List.map_cons]
    refine .cons ?_ (wr_repl r t)
    unfold putAt
    rw [← h1]
    by_cases c : x.1 = q
    · rw [if_pos c, if_pos c]; exact ⟨rfl, h2, r⟩
    · rw [if_neg c, if_neg c]; exact ⟨h1, h2, h3⟩
theorem wr_put {q : NestedKey} {b : Addr} {v : V} {u : Value} (r : RelV v u) {ws : List (NestedKey × Addr × V)} {xs : List (NestedKey × Addr × Value)} (h : Paired WR ws xs) : Paired WR (putW ws q b v) (storedH xs q b u) := by
  unfold putW storedH
  have w := wr_at q h
  cases e : lookW ws q with
  | none => rw [w.2 e]; exact paired_app h (.cons ⟨rfl, rfl, r⟩ .nil)
  | some p =>
    obtain ⟨u', e', _⟩ := w.1 p e
    rw [e']
    exact wr_repl r h
section
variable {X : Cx} {pins : List (Addr × Obj)} {σ : L2.St} {H : Hp} {s : Shared}
theorem nd_dict {a : Addr} {ws : List (NestedKey × Addr × V)} (I : Inv X pins σ H s) (h : H a = some (NdO a ws)) (hk : ∀ x ∈ ws, KeyAt X.prog X.w H x.1 x.2.1) :
    ∃ xs, Paired WR ws xs ∧ NdAt s.heap a xs ∧ s.heap.DictOfH (nestedKind X.prog X.w) a xs := by
  obtain ⟨⟨xs, pr, n⟩, _⟩ := (show ObjOk X.prog X.w H s.heap a (NdO a ws) from I.hok a _ h)
  obtain ⟨o, es, ep, ho, hx, hd, he⟩ := n.ob
  refine ⟨xs, pr, n, o, es, ep, ho, hx, hd, he X.w, fun y hy => ?_, n.nd⟩
  obtain ⟨x, hxm, h1, h2, _⟩ := paired_mem pr y hy
  rw [← h1, ← h2]
  exact hk x hxm _ I.hok
def rGetN (P : Program) (w : World) : V → V → Hp → VK → Prop := fun o i H Q => ∃ a ws b k b' v, o = .ref a ∧ i = .ref b ∧ H a = some (NdO a ws) ∧ (∀ x ∈ ws, KeyAt P w H x.1 x.2.1) ∧ KeyAt P w H k b ∧ lookW ws k = some (b', v) ∧ Q v H
theorem get_nd (hu : X.A.units + 65 < cLine) : PGet X (rGetN X.prog X.w) := by
  intro pins s σ H o i ov iv Q I ro ri h
  obtain ⟨a, ws, b, k, b', v, rfl, rfl, ha, hk, hb, hl, q⟩ := h
  obtain rfl : ov = Value.ref a := ro
  obtain rfl : iv = Value.ref b := ri
  obtain ⟨xs, pr, n, hm⟩ := nd_dict I ha hk
  obtain ⟨u, e, r⟩ := (wr_at k pr).1 _ hl
  refine wpAny_getItem_heap (knd := nestedKind X.prog X.w) (by show X.A.units + 1 + 8 < cLine; omega) (hb _ I.hok) hm e ?_
  exact ⟨v, H, I.tok _, r, q⟩
theorem ndAt_stay {a : Addr} {xs : List (NestedKey × Addr × Value)} {h h' : Heap} (n : NdAt h a xs) (k : ∀ o, h.get? a = some o → h'.get? a = some o) : NdAt h' a xs :=
  let ⟨o, es, ep, ho, r⟩ := n.ob
  ⟨n.len, ⟨o, es, ep, k o ho, r⟩, n.nd⟩
theorem ndO_ok {P : Program} {w : World} {H : Hp} {h : Heap} {a : Addr} {ws : List (NestedKey × Addr × V)} {xs : List (NestedKey × Addr × Value)} (pr : Paired WR ws xs) (n : NdAt h a xs) : ObjOk P w H h a (NdO a ws) :=
  ⟨⟨xs, pr, n⟩, (let ⟨o, _, _, ho, _⟩ := n.ob; ⟨o, ho⟩), fun _ _ ⟨ys, p, m⟩ k => ⟨ys, p, ndAt_stay m k⟩⟩
theorem storedH_mem {xs : List (NestedKey × Addr × Value)} {k : NestedKey} {b : Addr} {u : Value} : ∀ y ∈ storedH xs k b u, (∃ x ∈ xs, x.1 = y.1) ∨ y.1 = k := fun y hy => by
  unfold storedH at hy
  split at hy
  · obtain ⟨x, hx, rfl⟩ := List.mem_map.mp hy
    left
    refine ⟨x, hx, ?_⟩
    unfold putAt
    split <;> rfl
  · rcases List.mem_append.mp hy with hy | hy
    · exact .inl ⟨y, hy, rfl⟩
    · right
      rw [List.mem_singleton.mp hy]
theorem ent_plain : ∀ {xs : List (NestedKey × Addr × Value)} {w w' : World}, xs.map (entN w) = xs.map (entN w') → ∀ x ∈ xs, x.1.hash w = x.1.hash w'
  | [], _, _, _, x, hx => by simp at hx
  | y :: ys, w, w', h, x, hx => by
    rw [List.map_cons, List.map_cons, List.cons.injEq] at h
    rcases List.mem_cons.mp hx with rfl | hx
    · exact congrArg DictEntry.hash h.1
    · exact ent_plain h.2 x hx
theorem storedH_len {xs : List (NestedKey × Addr × Value)} {k : NestedKey} {b : Addr} {u : Value} : (storedH xs k b u).length ≤ xs.length + 1 := by
  unfold storedH
  split <;> simp
def rSetN (P : Program) (w : World) : V → V → V → Hp → (Hp → Prop) → Prop := fun o i v H Q => ∃ a ws b k, o = .ref a ∧ i = .ref b ∧ H a = some (NdO a ws) ∧ (∀ x ∈ ws, KeyAt P w H x.1 x.2.1) ∧ KeyAt P w H k b ∧ Plain k ∧ ws.length < sizeLine ∧ Q (upd H a (NdO a (putW ws k b v)))
theorem set_nd (hu : X.A.units + 65 < cLine) : PSet X (rSetN X.prog X.w) := by
  intro pins s σ H o i v ov iv u Q I ro ri rv h
  obtain ⟨a, ws, b, k, rfl, rfl, ha, hk, hb, hp, hl, q⟩ := h
  obtain rfl : ov = Value.ref a := ro
  obtain rfl : iv = Value.ref b := ri
  obtain ⟨xs, pr, n, hm⟩ := nd_dict I ha hk
  have xl := paired_len pr
  refine wpAny_setItem_heap (knd := nestedKind X.prog X.w) (hsz := n.len) (by show X.A.units + 1 + 8 < cLine; omega) (hb _ I.hok) hm fun h' dd hs => ?_
  obtain ⟨o, es, ep, ho, h2, h3, h4, h5, h6⟩ := dd
  have n2 : NdAt h' a (storedH xs k b u) := by
    have := storedH_len (xs := xs) (k := k) (b := b) (u := u)
    refine ⟨by omega, ⟨o, es, ep, ho, h2, h3, fun w => ?_⟩, h6⟩
    rw [h4]
    refine List.map_congr_left fun y hy => ?_
    have e : y.1.hash X.w = y.1.hash w := by
      rcases storedH_mem y hy with ⟨x, hx, e⟩ | e
      · rw [← e]
        obtain ⟨_, es0, _, _, _, _, he⟩ := n.ob
        exact ent_plain ((he X.w).symm.trans (he w)) x hx
      · rw [e]; exact hp _ _
    show (⟨y.1.hash X.w, .ref y.2.1, y.2.2⟩ : DictEntry) = ⟨y.1.hash w, .ref y.2.1, y.2.2⟩
    rw [e]
  exact ⟨_, I.write (x := a) (e := a) (by rw [ha]; exact True.intro) (.inl rfl) (fun c w hc e => (hs.2 c hc).trans e) ⟨o, ho⟩ (ndO_ok (wr_put rv pr) n2), q⟩
/-- {} -/
theorem pe_nnew {pos : Pos} (h : PE X (.Dict [] [] pos) fun σ H Q => ∀ p, H p = none → Q (.ref p) (upd H p (.dT []))) : PE X (.Dict [] [] pos) fun σ H Q => ∀ p, H p = none → Q (.ref p) (upd H p (NdO p [])) := ⟨fun pins s σ H Q I q => by
  have k := h.run pins s σ H (fun v H' => ∃ p, v = .ref p ∧ H p = none ∧ H' = upd H p (.dT []) ∧ Q (.ref p) (upd H p (NdO p []))) I (fun p hp => ⟨p, rfl, hp, rfl, q p hp⟩)
  refine thn k fun u s1 ⟨v, H1, I1, rv, p, ev, hp, eh, q1⟩ => ?_
  subst ev eh
  obtain ⟨_, _, xs, pr, o, es, ep, ho, hx, hd, he, _⟩ := (show ObjOk X.prog X.w _ s1.heap p (.dT []) from I1.hok p _ upd_same)
  cases pr
  have n : NdAt s1.heap p [] := ⟨Nat.zero_le _, ⟨o, es, ep, ho, hx, hd, fun w => he⟩, List.nodup_nil⟩
  have I2 := I1.write (x := p) (e := p) (t' := s1.toks) (o := NdO p []) (by rw [upd_same]; exact True.intro) (.inl rfl) (fun c w hc e => e) ⟨o, ho⟩ (ndO_ok .nil n)
  rw [upd_upd] at I2
  exact ⟨.ref p, _, I2, rv, q1⟩⟩
end
end PyD

namespace PyD
open PySem PySem.Spec PyProof.Rows L2
theorem tuple_mul1 (l : Addr) (items : Array Value) (n : Nat) (dd : Option Addr) (sl : Array (Option Value)) (x : Int) (u : Tok) (c0 : (decide (x < -(2 ^ 63)) || decide (x ≥ 2 ^ 63)) = false) (c1 : (items.isEmpty || x == 1) = true) :
    Meets (Builtin.«tuple.__mul__» ⟨[.ref l, .int x u], []⟩) (fun _ R s => s.heap.get? l = some { cls := .type "tuple", dict := dd, data := .seq items n, slots := sl } ∧ R (.ok (.ret (Value.ref l))) s) :=
  .of_wp fun prog w A R s h => by
    obtain ⟨hp, g, d, tk, os⟩ := s
    obtain ⟨hl, h⟩ := h
    have f1 := AutoSeq1.idx_int
    wp_walk using wpAny_loadPart' hl
    repeat (first
      | (refine wpAny_ite_false (decide_eq_false (by rw [c0]; exact Bool.false_ne_true)) ?_; wp_walk using wpAny_loadPart' hl)
      | (refine wpAny_ite_true (decide_eq_true c1) ?_; wp_walk using wpAny_loadPart' hl))
    exact ⟨_, rfl, h⟩
theorem tuple_mul0 (l : Addr) (items : Array Value) (n : Nat) (dd : Option Addr) (sl : Array (Option Value)) (x : Int) (u : Tok) (c0 : (decide (x < -(2 ^ 63)) || decide (x ≥ 2 ^ 63)) = false) (c1 : (items.isEmpty || x == 1) = false) (c2 : (decide (x ≤ 0) || items.isEmpty) = true) :
    Meets (Builtin.«tuple.__mul__» ⟨[.ref l, .int x u], []⟩) (fun _ R s => s.heap.get? l = some { cls := .type "tuple", dict := dd, data := .seq items n, slots := sl } ∧
      R (.ok (.ret (Value.ref s.heap.objs.size))) { s with heap := s.heap.push { cls := Value.type "tuple", data := Data.seq #[] }, toks := s.toks }) :=
  .of_wp fun prog w A R s h => by
    obtain ⟨hp, g, d, tk, os⟩ := s
    obtain ⟨hl, h⟩ := h
    have f1 := AutoSeq1.idx_int
    wp_walk using wpAny_loadPart' hl
    repeat (first
      | (refine wpAny_ite_false (decide_eq_false (by rw [c0]; exact Bool.false_ne_true)) ?_; wp_walk using wpAny_loadPart' hl)
      | (refine wpAny_ite_false (decide_eq_false (by rw [c1]; exact Bool.false_ne_true)) ?_; wp_walk using wpAny_loadPart' hl)
      | (refine wpAny_ite_true (decide_eq_true c2) ?_; wp_walk using wpAny_loadPart' hl))
    exact ⟨_, rfl, h⟩
def rRepA (K : PySem.W.Frag) : R2 := fun x y H Q => ∃ l k xs, x = .ref l ∧ y = .int k ∧ SqT K H l xs ∧ -1000 ≤ k ∧ k ≤ 1000 ∧ xs.length ≤ 1000 ∧ ((xs = [] ∨ k = 1) → Q (.ref l) H) ∧ (¬ (xs = [] ∨ k = 1) → ∀ p, H p = none → Q (.ref p) (upd H p (.tup (List.replicate k.toNat xs).flatten)))
theorem op_repA {X : Cx} : OpR X (binaryOp .Mult) (rRepA X.K) := by
  intro pins s σ H x y v u Q I rx ry h
  obtain ⟨l, k, xs, rfl, rfl, hT, h1, h2, hz, q1, q2⟩ := h
  by_cases c : xs = [] ∨ k = 1
  · have q := q1 c
    cases rx
    obtain ⟨t, rfl⟩ := ry
    obtain ⟨its, r, ⟨⟨cls, dd, data, sl⟩, ho, hc, n, hd⟩, hs⟩ := I.tuple hT
    simp only at hc hd
    subst hc hd
    have hle : its.length = xs.length := r.length.symm
    have c0 : (decide (k < -(2 ^ 63)) || decide (k ≥ 2 ^ 63)) = false := by
      rw [decide_eq_false (by omega), decide_eq_false (by omega)] <;> rfl
    have c1 : (its.toArray.isEmpty || k == 1) = true := by
      rcases c with c | c
      · have : its = [] := List.eq_nil_of_length_eq_zero (by rw [hle, c]; rfl)
        rw [this]; rfl
      · rw [c]; simp
    exact wpAny_binaryOp_repeat_ref (T := "tuple") (U := "int") (by decide) ⟨_, ho, rfl⟩ (fun s' => typeIs_int s' k t) noFill_tuple_mul F.fills_int_mul F.slot_int_rmul repeat_tuple F.slot_int_index.lookup
      (call_meets F.slot_int_rmul (typeIs_int s k t) F.entry_int_rmul (F.args_int_rmul_2 _ _) (int_rmul_tuple k t l its.toArray n dd sl)
        ⟨ho, rfl, ⟨_, ho, rfl⟩, call_meets F.slot_tuple_mul ⟨_, ho, rfl⟩ F.entry_tuple_mul (F.args_tuple_mul_2 _ _) (tuple_mul1 l its.toArray n dd sl k t c0 c1) ⟨ho, ⟨.ref l, H, I, rfl, q⟩⟩⟩)
  · by_cases c' : 2 ≤ k
    · exact op_repT pins s σ H _ _ v u Q I rx ry ⟨l, k, xs, rfl, rfl, hT, fun e => c (.inl e), c', h2, hz, q2 c⟩
    · have q := q2 c
      have ke : k.toNat = 0 := by
        have : k ≠ 1 := fun e => c (.inr e)
        omega
      have k0 : k ≤ 0 := by
        have : k ≠ 1 := fun e => c (.inr e)
        omega
      rw [ke] at q
      cases rx
      obtain ⟨t, rfl⟩ := ry
      obtain ⟨its, r, ⟨⟨cls, dd, data, sl⟩, ho, hc, n, hd⟩, hs⟩ := I.tuple hT
      simp only at hc hd
      subst hc hd
      have hle : its.length = xs.length := r.length.symm
      have hn : its ≠ [] := fun e => c (.inl (List.eq_nil_of_length_eq_zero (by rw [← hle, e]; rfl)))
      have hi : its.toArray.isEmpty = false := by
        cases its with
        | nil => exact absurd rfl hn
        | cons a b => rfl
      have c0 : (decide (k < -(2 ^ 63)) || decide (k ≥ 2 ^ 63)) = false := by
        rw [decide_eq_false (by omega), decide_eq_false (by omega)] <;> rfl
      have c1 : (its.toArray.isEmpty || k == 1) = false := by
        rw [hi, Bool.false_or]
        exact beq_eq_false_iff_ne.mpr (by omega)
      have c2 : (decide (k ≤ 0) || its.toArray.isEmpty) = true := by
        rw [decide_eq_true k0]; rfl
      refine wpAny_binaryOp_repeat_ref (T := "tuple") (U := "int") (by decide) ⟨_, ho, rfl⟩ (fun s' => typeIs_int s' k t) noFill_tuple_mul F.fills_int_mul F.slot_int_rmul repeat_tuple F.slot_int_index.lookup
        (call_meets F.slot_int_rmul (typeIs_int s k t) F.entry_int_rmul (F.args_int_rmul_2 _ _) (int_rmul_tuple k t l its.toArray n dd sl)
          ⟨ho, rfl, ⟨_, ho, rfl⟩, call_meets F.slot_tuple_mul ⟨_, ho, rfl⟩ F.entry_tuple_mul (F.args_tuple_mul_2 _ _) (tuple_mul0 l its.toArray n dd sl k t c0 c1 c2) ⟨ho, ?_⟩⟩)
      refine ⟨.ref s.heap.objs.size, _, I.laid (t' := s.toks) (o := .tup []) (fun b ob q => Heap.get?_push_of_some _ q) (Nat.le_refl _) ?_, rfl, q _ (I.hok.fresh (Nat.le_refl _))⟩
      exact ⟨Nat.zero_le _, [], .nil, IsTup.new _ _⟩
end PyD

/-! An own object that is walked by its own __iter__, which hands out the iterator of one of its tuples. -/
namespace PyD
open PySem PySem.Spec PyProof.Rows L2 RZ StX ItX
/-- a tuple's iterator, unused -/
def TIo (p it : Addr) : HO := .ext fun h => h.IsTupleIter it p 0
theorem tio_ok {P : Program} {w : World} {H : Hp} {h : Heap} {p it : Addr} (x : h.IsTupleIter it p 0) : ObjOk P w H h it (TIo p it) :=
  ⟨x, (let ⟨o, e, _⟩ := x; ⟨o, e⟩), fun _ _ y k => y.at k⟩
def rIterT (K : PySem.W.Frag) (n : Nat) : List V → Hp → VK → Prop := fun xs H Q => ∃ (p : Addr) (ys : List V), xs = [.ref p] ∧ SqT K H p ys ∧ ∀ it, H it = none → n ≤ it → Q (.ref it) (upd H it (TIo p it))
section
variable {prog : Program} {w : World} {A : Around} {E : Value → Shared → Prop} {s : Shared}
theorem call_iterTup {p : Addr} {items : Array Value} {Q : Value → Shared → Prop} (hl : s.heap.IsTuple p items) (h : Q (.ref s.heap.objs.size) { s with heap := s.heap.push { cls := .type "tuple_iterator", data := .fields #[.ref p, .int 0 0] } }) :
    wpAny (model prog w) A (call (.builtin "iter") [.ref p]) Q E s := by
  refine Calls.call_function_entry (by decide +kernel) (by decide +kernel) PySem.W.kdk_entry_iter (PySem.W.kdk_args_iter _) ?_
  unfold Builtin.«iter»
  refine wpAny_bind (m := someArgs "iter" 1 2 _) (wpAny_of_eq (a := [Value.ref p]) (by first | rfl | kernel_rfl!) ?_)
  show wpAny _ _ (pyIter (.ref p) >>= _) _ _ _
  refine wpAny_bind (wpAny_pyIter_tuple hl ?_)
  exact wpAny_pure ⟨_, rfl, h⟩
end
section
variable {X : Cx}
theorem call_iterT : CallR X (.builtin "iter") (rIterT X.K X.s_0.heap.objs.size) := by
  intro pins s σ H xs us Q I r h
  obtain ⟨p, ys, rfl, hq, q⟩ := h
  rw [Vals.ref1 r]
  obtain ⟨its, rv, pl, hz⟩ := I.tuple hq
  refine call_iterTup (show s.heap.IsTuple p its.toArray from pl) ?_
  exact ⟨.ref s.heap.objs.size, _, I.laid (t' := s.toks) (fun b u e => Heap.get?_push_of_some _ e) (Nat.le_refl _) (tio_ok ⟨_, Heap.get?_push_size _ rfl, rfl, rfl⟩), rfl, q _ (I.hok.fresh (Nat.le_refl _)) I.sz⟩
end
/-- a def that is called in a state that is known -/
theorem run_at {CX : CXT} {P : Program} {w : World} {K : PySem.W.Frag} {mg : Str → Option Value} {base : Heap} {k : Nat} {f : Addr} {name qual : Str} {params : Arguments} {body : List Stmt} {scope : Scope} {dV kV doc pm cdv ct oc : Value} {an od : Option Addr}
    {osl : Array (Option Value)} {N ps : List Str} (lk : K.lookup f = some ⟨oc, od, .func (PySem.W.fnOf name qual params body scope dV kV doc pm an cdv ct), osl⟩) (hcd : PySem.W.codeIn K cdv qual = true) (S : FnScope N ps scope)
    {A : Around} {outer : List PySem.Env} {s : Shared} {H : Hp} {args : Args} {us : List Value} {vs : List V} {Q : VK} {E : XK} (hr : Room (k + 1) A) (e0 : Env0 P w K mg base A outer s H) (hb : BindsTo s (PySem.W.fnOf name qual params body scope dV kV doc pm an cdv ct) args (ps.zip us)) (r : Vals vs us) (hl : vs.length = ps.length)
    {t : TS} (ht : PSs (cxOf CX P w K mg base N qual scope f cdv A outer s H E) body t) (hq : t { nx := fun _ H' => Q .non H', rt := Q } (start N vs) H) :
    codeAny (model P w) A (.call (.ref f) args) (CR CX outer P w H s Q E) s := by
  have KX : K.In s.heap := e0.mod.kin.keeps fun b o e => (e0.bs b o e).1
  have lim : s.heap.NoLimit := e0.mod.nolimit.keeps fun b o e => (e0.bs b o e).1
  have hkind : ∀ y ∈ ps.zip us, scope.names.lookup y.1 = some .local ∨ (scope.names.lookup y.1 = some .cell ∧ ((cellsFrom (s.heap.objs.size + 1) scope.names []).lookup y.1).isSome = true) := fun ⟨n, v⟩ hy =>
    (S.par n (List.of_mem_zip hy).1).elim .inl fun q => .inr ⟨q, PySem.W.cellsFrom_some _ _ _ (.inl q)⟩
  refine codeAny_call_function hr.depth (KX _ _ lk) rfl S.co S.gen rfl (PySem.W.codeRec_of KX hcd) (hb _ _ _ _ ?_)
  refine wpAny_newFunctionEnv_cells S.kind hkind fun env he s1 x => ?_
  subst he
  refine ⟨lim.keeps x.toInCall.keep, codeAny_func ?_⟩
  refine wpAny_mono (ht.run [] s1 (start N vs) H _ (inv_start S hr.hd e0 hl r x) hq) (fun fl s' hs => ?_) fun e s' hs => hs
  cases fl with
  | ret u =>
    obtain ⟨v, σ', H', J, rv, q⟩ := hs
    exact ⟨v, H', J.os, J.bare, J.base, J.hok, rv, q⟩
  | next =>
    obtain ⟨σ', H', J, q⟩ := hs
    exact ⟨.non, H', J.os, J.bare, J.base, J.hok, rfl, q⟩
  | brk =>
    obtain ⟨_, _, _, q⟩ := hs
    exact q.elim
  | cont =>
    obtain ⟨_, _, _, q⟩ := hs
    exact q.elim
/-- the body of such an __iter__ -/
def isIterBody (F : Str) : List Stmt → Bool
  | [.Return (some (.Call (.Name n _) [.Attribute (.Name sf _) g _] [] _)) _] => decide (n = "iter") && (decide (sf = "self") && decide (g = F))
  | _ => false
theorem isIterBody_ex {F : Str} {b : List Stmt} (h : isIterBody F b = true) : ∃ p2 p3 p4 p5 p6, b = [.Return (some (.Call (.Name "iter" p2) [.Attribute (.Name "self" p3) F p4] [] p5)) p6] := by
  unfold isIterBody at h
  split at h
  · simp only [Bool.and_eq_true, decide_eq_true_eq] at h
    obtain ⟨rfl, rfl, rfl⟩ := h
    exact ⟨_, _, _, _, _, rfl⟩
  · cases h
/-- a class whose instances are walked so -/
structure OwnIt (K : PySem.W.Frag) (mg : Str → Option Value) (C : Addr) (F : Str) : Prop where
  ex : ∃ (f : Addr) (qual : Str) (st : Stmt) (fd : FuncData), Meth K C "__iter__" f ∧ Fun K "__iter__" qual st f fd ∧ FnScope ["self"] ["self"] (defScope st) ∧ isIterBody F (defBody st) = true ∧ (defScope st).names.lookup ("iter" : Str) = some NameKind.globalImplicit ∧
    (∀ (kV doc pm : Value) (an : Option Addr) (cdv ct : Value) (us : List Value), us.length = 1 → bindArgs (PySem.W.fnOf "__iter__" qual (defArgs st) (defBody st) (defScope st) .none kV doc pm an cdv ct) ⟨us, []⟩ = pure ((["self"] : List Str).zip us))
  cls : Cls K C
  noat : NoAttr K C F
  gl : mg "iter" = none
def attX : Expr → Bool
  | .Call _ _ _ _ => false
  | _ => true
theorem base_of {x : Expr} {f : Str} {env : PySem.Env} (h : attX x = true) : attributeBase x f env (eval x env) = eval x env := by
  cases x <;> first | rfl | cases h
section
variable {X : Cx} {x tg : Expr} {pos : Pos}
/-- o, walked: C, F: its class, the tuple's name -/
def iOwn (K : PySem.W.Frag) (C : Addr) (F : Str) (te : TE) : TI := fun σ H R => te σ H fun v H1 => ∃ a dx fs p xs, v = .ref a ∧ H1 a = some (.ins C dx fs) ∧ fs.lookup F = some (.ref p) ∧ SqT K H1 p xs ∧ R (Itt K p) H1
theorem pi_own {n : Nat} {C : Addr} {F : Str} {te : TE} (O : OwnIt X.K X.mg C F) (hr : Room (n + 1) X.A) (hx : X.xe = fun _ _ => False) (he : PE X x te) : PI X tg x (iOwn X.K C F te) := by
  refine ⟨fun pins s σ H R I h => ?_⟩
  refine thn (he.run pins s σ H _ I h) fun v s1 ⟨x, H1, I1, r1, a, dx, fs, p, xs, ev, ha, hl, hq, hR⟩ => ?_
  subst ev
  cases r1
  obtain ⟨f, qual, st, fd, mt, F1, S, hbody, hgi, hb⟩ := O.ex
  obtain ⟨mA, J, _⟩ := ins_get I1.hok ha
  obtain ⟨od, J, _⟩ := J.look
  obtain ⟨m, hF⟩ := I1.fr
  refine PySem.W.owit_iter hF I1.ok.mod.kin J mt.at_ mt.fn ?_
  obtain ⟨p2, p3, p4, p5, p6, eb⟩ := isIterBody_ex hbody
  obtain ⟨oc, od', kV, doc, pm, an, cdv, ct, osl, rfl, lk, hcd⟩ := F1.ex
  have bt : BindsTo s1 (PySem.W.fnOf "__iter__" qual (defArgs st) (defBody st) (defScope st) .none kV doc pm an cdv ct) ⟨[.ref a], []⟩ ((["self"] : List Str).zip [Value.ref a]) := .of_eq (hb kV doc pm an cdv ct [.ref a] rfl)
  have r2 : Vals [V.ref a] [Value.ref a] := .cons rfl .nil
  have body := fun (X' : Cx) (hN : X'.N = (["self"] : List Str)) (hs : X'.env.scope = defScope st) (hm : X'.mg = X.mg) (hK : X'.K = X.K) =>
    pss_cons (X := X') (ps_ret (pos := p6) (pe_callB (pos := p5) (p := p2) call_iterT (by show X'.env.kindOf "iter" = _; unfold PySem.Env.kindOf; rw [hs]; exact hgi) (by rw [hm]; exact O.gl) boot_iter
      (pa_cons (pe_fld (pos := p4) (f := F) (pe_var (pos := p3) (i := 0) (x := "self") (by rw [hN]; rfl) (by rw [hs]; exact S.par "self" (List.mem_singleton.mpr rfl) |>.elim .inl fun z => .inr (.inl z)) (by decide) (by decide)) (base_of rfl)) pa_nil rfl))) pss_nil
  refine wpAny_call (codeAny_mono (run_at (k := n) lk hcd S (Q := fun v H' => ∃ it, v = .ref it ∧ H1 it = none ∧ s1.heap.objs.size ≤ it ∧ H' = upd H1 it (TIo p it)) (E := fun _ _ _ => False) (args := ⟨[.ref a], []⟩) (us := [.ref a]) (vs := [.ref a]) (CX := CX0) hr I1.env0 bt r2 rfl (by rw [eb]; exact body _ rfl rfl rfl rfl) ?_) fun r s' hq' => ?_)
  · exact ⟨_, rfl, _, _, dx, _, _, rfl, ha, O.cls, O.noat, hl, p, xs, rfl, hq, fun it h1 h2 => ⟨it, rfl, h1, h2, rfl⟩⟩
  · cases r with
    | error e => exact False.elim hq'
    | ok fl =>
      cases fl with
      | ret u =>
        obtain ⟨v, H2, I2, rv, it, rfl, hn, hz, rfl⟩ := I1.after hq'
        cases rv
        have ti : s'.heap.IsTupleIter it p 0 := (I2.hok it _ upd_same).1
        have I3 := inv_drop I2 upd_same
        rw [dropH_upd hn] at I3
        have fp := inv_fp I2 (a := it) upd_same (Nat.le_trans I1.sz hz)
        rw [dropH_upd hn] at fp
        unfold PySem.W.OwitIt
        refine wpAny_specialOf (name := Str.ofString "__next__") ti.typeIs slot_tupleiter_next.lookup ?_
        exact ⟨it, [it], _, Itt X.K p, H1, rfl, I3, turn_tuple p it, ti, fun b hb => by rw [List.mem_singleton.mp hb]; exact fp, hR⟩
      | next => exact hq'.elim
      | brk => exact hq'.elim
      | cont => exact hq'.elim
end
end PyD

/-! Expressions: the interpreter's reading is a reading of the layer. -/
namespace PyD
open PySem L2

/-- what a def promises: on data on which the table's function has a value, it hands back that value -/
def spOf (K : PySem.W.Frag) (Φ : Fns) (fr : Bool) (f : Nat) : Sp := fun vs H Q _ => ∃ M ds d, Same M H ∧ DatL K M vs ds ∧ Φ f ds = some d ∧ ∀ v M' H', Xt M M' H H' → Res K M' H H' fr v d → Q v H'

def biNames : List Str := ["len", "abs", "int", "min", "max", "sum", "list", "tuple", "isinstance", "bool", "str", "dict", "range", "enumerate", "zip", "reversed", "sorted", "all", "any"]

/-- a heap without the cell a -/
def rmH (H : Hp) (a : Addr) : Hp := fun b => if b = a then none else H b
/-- what an __init__ promises -/
def spI (K : PySem.W.Frag) (Φ : Fns) (c : Str) (f : Nat) : Sp := fun vs H Q _ => ∃ M a dx ws ds d, vs = .ref a :: ws ∧ H a = some (.ins (He.ga K c) dx []) ∧ M a = none ∧ Same M H ∧ DatL K M ws ds ∧ Φ f ds = some d ∧
  ∀ fs M' H' dx' vfs, d = .obj c fs → Xt M M' (rmH H a) H' → M' a = none → H' a = some (.ins (He.ga K c) dx' vfs) → DatF K M' vfs fs → Q .non H'

structure Ck where
  tb : List Fn
  N : List Str
  gcd : Bool
  /-- the module's constants; attributes of instances; classes' constants -/
  gl : List (Str × List Int) := []
  ats : List (Str × Str) := []
  its : List (Str × Str) := []
  cns : List (Str × Str × Int) := []
structure Gd (C : Ck) (n : Nat) (sc : Scope) (fnb : Str → Bool) (X : Cx) : Prop where
  hN : X.N = C.N
  nd : C.N.Nodup
  kind : sc.kind = .function
  sc : X.env.scope = sc
  calm : X.calm = true
  room : Room (n + 1) X.A
  bi : ∀ nm ∈ biNames, X.mg nm = none
  gcd : C.gcd = true → X.mg "gcd" = some (.builtin "math.gcd")
  fn : ∀ (f : Nat) (fn : Fn), C.tb[f]? = some fn → fn.init = none → ∃ a, X.mg fn.name = some (.ref a) ∧ PySem.W.keepIn X.K (.ref a) = true ∧ FnR X.prog X.w X.K X.mg X.base CX0 (n + 1) a (spOf X.K (fns C.tb n) fn.fr f)
  ini : ∀ (f : Nat) (fn : Fn) (c : Str), C.tb[f]? = some fn → fn.init = some c → X.mg c = some (.ref (He.ga X.K c)) ∧ ∃ a, Mk X.K (He.ga X.K c) a ∧ ∀ m, n = m + 1 → FnR X.prog X.w X.K X.mg X.base CX0 (m + 1) a (spI X.K (fns C.tb n) c f)
  gl : ∀ p ∈ C.gl, ∃ a, X.mg p.1 = some (.ref a) ∧ ∀ H, SqT X.K H a (p.2.map V.int)
  ats : ∀ p ∈ C.ats, Cls X.K (He.ga X.K p.1) ∧ NoAttr X.K (He.ga X.K p.1) p.2
  cns : ∀ q ∈ C.cns, X.mg q.1 = some (.ref (He.ga X.K q.1)) ∧ ∃ mc u, ClX.CRead X.K (He.ga X.K q.1) mc ∧ ClX.CVal X.K (He.ga X.K q.1) mc q.2.1 (.int q.2.2) u
  its : ∀ p ∈ C.its, OwnIt X.K X.mg (He.ga X.K p.1) p.2
  xe : X.xe = fun _ _ => False
  fnb : ∀ x, fnb x = true → X.fn x = true

theorem Gd.hu {C : Ck} {n : Nat} {sc : Scope} {fnb : Str → Bool} {X : Cx} (G : Gd C n sc fnb X) : X.A.units + 65 < cLine := by
  have := G.room.un
  omega

/-! ### readings -/
def tE (K : PySem.W.Frag) (Φ : Fns) (fr : Bool) (e : E) : TE := fun σ H Q => ∃ M env d, (fr = true → isL d = true) ∧ Same M H ∧ Rd0 K M σ env ∧ ev Φ e env = some d ∧ ∀ v M' H', Xt M M' H H' → Res K M' H H' fr v d → Q v H'
def tA (K : PySem.W.Frag) (Φ : Fns) (e : E) : TA := fun σ H Q => ∃ M env ds, Same M H ∧ Rd0 K M σ env ∧ ev Φ e env = some (.tup ds) ∧ ∀ vs M' H', Xt M M' H H' → DatL K M' vs ds → Q vs H'
def tT (K : PySem.W.Frag) (Φ : Fns) (e : E) : TT := fun σ H Q => ∃ M env b, Same M H ∧ Rd0 K M σ env ∧ ev Φ e env = some (.bl b) ∧ ∀ M' H', Xt M M' H H' → Q b H'
def evP (Φ : Fns) (e : E) (env : Env) : Option (Option Int) := if e.isNil then some none else (ev Φ e env).bind intPart
def tP (K : PySem.W.Frag) (Φ : Fns) (e : E) : TO := fun σ H Q => ∃ M env o, Same M H ∧ Rd0 K M σ env ∧ evP Φ e env = some o ∧ ∀ M' H', Xt M M' H H' → Q o H'

section
variable {X : Cx} {x y : Expr} {xs : List Expr} {Φ : Fns} {a b c e : E} {pos : Pos}
theorem pe_imp {t t' : TE} (h : PE X x t) (i : ∀ σ H Q, t' σ H Q → t σ H Q) : PE X x t' := ⟨fun pins s σ H Q I q => h.run pins s σ H Q I (i σ H Q q)⟩
theorem pa_imp {t t' : TA} (h : PA X xs t) (i : ∀ σ H Q, t' σ H Q → t σ H Q) : PA X xs t' := ⟨fun pos pins s σ H Q I q => h.run pos pins s σ H Q I (i σ H Q q)⟩
theorem pt_imp {t t' : TT} (h : PT X x t) (i : ∀ σ H Q, t' σ H Q → t σ H Q) : PT X x t' := ⟨fun pins s σ H Q I q => h.run pins s σ H Q I (i σ H Q q)⟩
theorem pw_imp {t t' : TT} (h : PW X x t) (i : ∀ σ H Q, t' σ H Q → t σ H Q) : PW X x t' := ⟨fun wh pins s σ H Q I q => h.run wh pins s σ H Q I (i σ H Q q)⟩
theorem po_imp {t t' : TO} {x : Option Expr} (h : PO X x t) (i : ∀ σ H Q, t' σ H Q → t σ H Q) : PO X x t' := by
  obtain ⟨h⟩ := h
  constructor
  intro pins s σ H Q I q
  exact h pins s σ H Q I (i σ H Q q)

/-- a new list, kept at once -/
theorem pe_keep (h : PE X x (tE X.K Φ true e)) (hl : ∀ env d, ev Φ e env = some d → isL d = true) : PE X x (tE X.K Φ false e) := pe_imp h fun σ H Q ⟨M, env, d, _, sm, rd, q, k⟩ => ⟨M, env, d, fun _ => hl env d q, sm, rd, q, fun v M' H' xt r => by
  obtain ⟨M2, x2, r2⟩ := Res.keep xt r
  exact k v M2 H' x2 r2⟩

theorem s_var {i : Nat} (h : PE X x (tVar i)) : PE X x (tE X.K Φ false (.var i)) := pe_imp h fun σ H Q ⟨M, env, d, _, sm, rd, q, k⟩ => by
  simp only [ev] at q
  have q' : env[i]? = some (some d) := by
    cases e : env[i]? with
    | none => rw [e] at q; cases q
    | some o => rw [e] at q; exact congrArg some q
  obtain ⟨v, h1, h2⟩ := rd.ix i d q'
  exact ⟨v, h1, k v M H (Xt.refl sm) h2⟩
theorem s_cst {v : V} {d : D} (h : PE X x (tC v)) (hd : ∀ M, Dat X.K M v d) (he : ∀ env, ev Φ e env = some d) : PE X x (tE X.K Φ false e) := pe_imp h fun σ H Q ⟨M, env, d', _, sm, rd, q, k⟩ => by
  rw [he] at q
  cases q
  exact k v M H (Xt.refl sm) (hd M)

/-- what is made behind an extension -/
theorem Res.back {K : PySem.W.Frag} {M' H H1 H' : Hp} {fr : Bool} {v : V} {d : D} (s : Same H H1) (r : Res K M' H1 H' fr v d) : Res K M' H H' fr v d := by
  cases fr with
  | false => exact r
  | true =>
    obtain ⟨l, o, e1, e2, hl, h'⟩ := r
    exact ⟨l, o, e1, e2, s.free hl, h'⟩
/-- a new list at p -/
theorem Res.new {K : PySem.W.Frag} {M H : Hp} {fr : Bool} {p : Addr} {vs : List V} {ds : List D} {Q : VK} (sm : Same M H) (hp : H p = none) (r : DatL K M vs ds)
    (k : ∀ v M' H', Xt M M' H H' → Res K M' H H' fr v (.lst ds) → Q v H') : Q (.ref p) (upd H p (.lst vs)) := by
  cases fr with
  | false => exact k _ _ _ (Xt.new sm hp) (.lst upd_same (r.mono (same_new (sm.free hp))))
  | true => exact k _ _ _ (Xt.newH sm hp) ⟨p, _, rfl, rfl, hp, upd_same, sm.free hp, vs, rfl, r⟩
/-- a new tuple at p -/
theorem Res.newT {K : PySem.W.Frag} {M H : Hp} {p : Addr} {vs : List V} {ds : List D} {Q : VK} (sm : Same M H) (hp : H p = none) (r : DatL K M vs ds)
    (k : ∀ v M' H', Xt M M' H H' → Dat K M' v (.tup ds) → Q v H') : Q (.ref p) (upd H p (.tup vs)) :=
  k _ _ _ (Xt.new sm hp) (.tup upd_same (r.mono (same_new (sm.free hp))))

/-- two operands -/
theorem two {fr : Bool} {f : D → D → Option D} {r : R2} (hb : ∀ env, ev Φ e env = (ev Φ a env).bind fun x => (ev Φ b env).bind fun y => f x y)
    (op : ∀ M H v w dx dy d Q, (fr = true → isL d = true) → Same M H → Dat X.K M v dx → Dat X.K M w dy → f dx dy = some d → (∀ z M' H', Xt M M' H H' → Res X.K M' H H' fr z d → Q z H') → r v w H Q)
    {σ : L2.St} {H : Hp} {Q : VK} (h : tE X.K Φ fr e σ H Q) : tOp r (tE X.K Φ false a) (tE X.K Φ false b) σ H Q := by
  obtain ⟨M, env, d, il, sm, rd, q, k⟩ := h
  rw [hb] at q
  obtain ⟨dx, q1, q⟩ := Option.bind_eq_some_iff.mp q
  obtain ⟨dy, q2, q3⟩ := Option.bind_eq_some_iff.mp q
  refine ⟨M, env, dx, (fun z => nomatch z), sm, rd, q1, fun v M1 H1 x1 r1 => ⟨M1, env, dy, (fun z => nomatch z), x1.s, rd.mono x1.m, q2, fun w M2 H2 x2 r2 => ?_⟩⟩
  exact op M2 H2 v w dx dy d Q il x2.s (Dat.mono x2.m r1) r2 q3 fun z M' H' x3 r3 => k z M' H' ((x1.trans x2).trans x3) (r3.back (x1.trans x2).h)
/-- one operand -/
theorem one1 {fr : Bool} {f : D → Option D} {r : V → Hp → VK → Prop} (hb : ∀ env, ev Φ e env = (ev Φ a env).bind f)
    (op : ∀ M H v dx d Q, (fr = true → isL d = true) → Same M H → Dat X.K M v dx → f dx = some d → (∀ z M' H', Xt M M' H H' → Res X.K M' H H' fr z d → Q z H') → r v H Q)
    {σ : L2.St} {H : Hp} {Q : VK} (h : tE X.K Φ fr e σ H Q) : tE X.K Φ false a σ H fun v H1 => r v H1 Q := by
  obtain ⟨M, env, d, il, sm, rd, q, k⟩ := h
  rw [hb] at q
  obtain ⟨dx, q1, q2⟩ := Option.bind_eq_some_iff.mp q
  refine ⟨M, env, dx, (fun z => nomatch z), sm, rd, q1, fun v M1 H1 x1 r1 => ?_⟩
  exact op M1 H1 v dx d Q il x1.s r1 q2 fun z M' H' x3 r3 => k z M' H' (x1.trans x3) (r3.back x1.h)

theorem mulOk_of {i j : Int} (h : mulOk i j = true) : IntMulOk i j := by
  unfold mulOk at h
  simp only [Bool.or_eq_true, decide_eq_true_eq] at h
  rcases h with (h | h) | h
  · exact CMul.ok (.inl ⟨by omega, by omega⟩)
  · exact CMul.ok (.inr ⟨by omega, by omega⟩)
  · exact CMulW.ok h
theorem op_mulO : OpR X (binaryOp .Mult) (rI (fun i j => mulOk i j = true) fun i j => .int (i * j)) := opI fun _ _ _ _ _ _ _ hc q => PyProof.Rows.mul_int q (mulOk_of hc)
theorem op_fdivO : OpR X (binaryOp .FloorDiv) (rI (fun _ j => divOk j = true) fun i j => .int (i.fdiv j)) := by
  intro pins s σ H x y v u Q I rx ry h
  obtain ⟨i, j, e1, e2, hc, q⟩ := h
  unfold divOk at hc
  simp only [Bool.or_eq_true, Bool.and_eq_true, decide_eq_true_eq] at hc
  rcases hc with hc | hc
  · refine op_fdivW pins s σ H x y v u Q I rx ry ⟨i, j, e1, e2, hc, ?_⟩
    have e : i.fdiv j = i / j := Int.fdiv_eq_ediv_of_nonneg i (by omega)
    have q' : Q (V.int (i.fdiv j)) H := q
    rw [e] at q'
    exact q'
  · exact op_fdivN pins s σ H x y v u Q I rx ry ⟨i, j, e1, e2, hc, q⟩

theorem LIM_le {n : Nat} (h : n ≤ LIM) : n ≤ sizeLine := Nat.le_trans h (by decide)
theorem LIM_lt {n : Nat} (h : n < LIM) : n < sizeLine := Nat.lt_of_lt_of_le h (by decide)
theorem nofr {fr : Bool} {d : D} (il : fr = true → isL d = true) (h : isL d = false) : fr = false := by
  cases fr with
  | false => rfl
  | true => rw [il rfl] at h; cases h

/-- + of intsOf, lists, tuples -/
theorem s_add {fr : Bool} (ha : PE X x (tE X.K Φ false a)) (hb : PE X y (tE X.K Φ false b)) : PE X (.BinOp x .Add y pos) (tE X.K Φ fr (.bin .add a b)) := by
  refine pe_imp (pe_op (op_add.or (op_cat.or op_catA)) ha hb) fun σ H Q h => two (fun _ => rfl) (fun M H v w dx dy d Q il sm hx hy q k => ?_) h
  cases hx with
  | int i =>
    cases hy with
    | int j =>
      cases q
      cases nofr il rfl
      exact .inl ⟨i, j, rfl, rfl, k _ M H (Xt.refl sm) (.int _)⟩
    | _ => cases q
  | lst h1 r1 =>
    cases hy with
    | lst h2 r2 =>
      simp only [binD] at q
      split at q
      · rename_i hl
        cases q
        refine .inr (.inl ⟨_, _, _, _, rfl, rfl, sm _ _ h1, sm _ _ h2, LIM_le (by rw [r1.length, r2.length]; exact hl), fun p hp => ?_⟩)
        exact Res.new sm hp (r1.append r2) k
      · cases q
    | _ => cases q
  | tup h1 r1 =>
    cases hy with
    | tup h2 r2 =>
      simp only [binD] at q
      split at q
      · rename_i hl
        cases q
        cases nofr il rfl
        refine .inr (.inr ⟨_, _, _, _, rfl, rfl, SqT.of (sm _ _ h1), SqT.of (sm _ _ h2), LIM_le (by rw [r1.length, r2.length]; exact hl), fun e => ?_, fun e1 e2 => ?_, fun e1 e2 p hp => ?_⟩)
        · subst e
          cases r1
          exact k _ M H (Xt.refl sm) (.tup h2 r2)
        · subst e2
          cases r2
          rw [List.append_nil] at k
          exact k _ M H (Xt.refl sm) (.tup h1 r1)
        · exact Res.newT sm hp (r1.append r2) k
      · cases q
    | _ => cases q
  | _ => cases q
theorem s_sub (ha : PE X x (tE X.K Φ false a)) (hb : PE X y (tE X.K Φ false b)) : PE X (.BinOp x .Sub y pos) (tE X.K Φ false (.bin .sub a b)) := by
  refine pe_imp (pe_op op_sub ha hb) fun σ H Q h => two (fun _ => rfl) (fun M H v w dx dy d Q il sm hx hy q k => ?_) h
  cases hx with
  | int i =>
    cases hy with
    | int j =>
      cases q
      exact ⟨i, j, rfl, rfl, k _ M H (Xt.refl sm) (.int _)⟩
    | _ => cases q
  | _ => cases q
theorem rep_same {α : Type} {xs : List α} {z : Int} (e : xs = [] ∨ z = 1) : (List.replicate z.toNat xs).flatten = xs := by
  rcases e with rfl | rfl
  · generalize z.toNat = n
    induction n with
    | zero => rfl
    | succ n ih => rw [List.replicate_succ, List.flatten_cons, ih]; rfl
  · simp
/-- a key -/
theorem dat_key {K : PySem.W.Frag} {M : Hp} {v : V} {d : D} {q : List Int} (h : Dat K M v d) (e : keyOf d = some q) : ∃ b, v = .ref b ∧ M b = some (.tup ((q.map Sum.inl).map kV)) := by
  cases h with
  | tup h r =>
    have e2 := r.of_ints e
    subst e2
    refine ⟨_, rfl, ?_⟩
    rw [h, List.map_map]
    rfl
  | _ => cases e
/-- a dict that is read -/
theorem dat_dic {K : PySem.W.Frag} {M H : Hp} {v : V} {lk : Bool} {kvs : List (List Int × D)} (sm : Same M H) (h : Dat K M v (.dic lk kvs)) : ∃ a ws, v = .ref a ∧ Rd H a (.dT ws) ∧ DatD K M ws kvs := by
  cases h with
  | dic h r => exact ⟨_, _, rfl, .inr ⟨_, sm _ _ h⟩, r⟩
  | dpl h r => exact ⟨_, _, rfl, .inl (sm _ _ h), r⟩
theorem dat_get {K : PySem.W.Frag} {M H : Hp} {v w : V} {lk : Bool} {kvs : List (List Int × D)} {dk : D} {q : List Int} (sm : Same M H) (h : Dat K M v (.dic lk kvs)) (hk : Dat K M w dk) (e : keyOf dk = some q) :
    ∃ a o, v = .ref a ∧ DGet H a w o ∧ (∀ d, lookD kvs q = some d → ∃ u, o = some u ∧ Dat K M u d) ∧ (lookD kvs q = none → o = none) := by
  obtain ⟨a, ws, rfl, hr, r⟩ := dat_dic sm h
  obtain ⟨b, rfl, hb⟩ := dat_key hk e
  obtain ⟨h1, h2⟩ := r.look q
  exact ⟨a, _, rfl, .inr ⟨ws, q.map Sum.inl, b, hr, rfl, sm _ _ hb, rfl⟩, h1, h2⟩
theorem s_mul {fr : Bool} (ha : PE X x (tE X.K Φ false a)) (hb : PE X y (tE X.K Φ false b)) : PE X (.BinOp x .Mult y pos) (tE X.K Φ fr (.bin .mul a b)) := by
  refine pe_imp (pe_op (op_mulO.or (op_rep.or op_repA)) ha hb) fun σ H Q h => two (fun _ => rfl) (fun M H v w dx dy d Q il sm hx hy q k => ?_) h
  cases hx with
  | int i =>
    cases hy with
    | int j =>
      simp only [binD] at q
      split at q
      · rename_i hl
        cases q
        cases nofr il rfl
        exact .inl ⟨i, j, rfl, rfl, hl, k _ M H (Xt.refl sm) (.int _)⟩
      · cases q
    | _ => cases q
  | lst h1 r1 =>
    cases hy with
    | int z =>
      simp only [binD] at q
      split at q
      · rename_i hl
        simp only [Bool.and_eq_true, decide_eq_true_eq] at hl
        cases q
        refine .inr (.inl ⟨_, _, _, rfl, rfl, sm _ _ h1, by omega, by omega, LIM_le (by rw [r1.length]; exact hl.2), fun p hp => ?_⟩)
        exact Res.new sm hp (r1.rep _) k
      · cases q
    | _ => cases q
  | tup h1 r1 =>
    cases hy with
    | int z =>
      simp only [binD] at q
      split at q
      · rename_i hl
        simp only [Bool.and_eq_true, decide_eq_true_eq] at hl
        cases q
        cases nofr il rfl
        refine .inr (.inr ⟨_, _, _, rfl, rfl, SqT.of (sm _ _ h1), by omega, by omega, by rw [r1.length]; omega, fun e => ?_, fun _ p hp => ?_⟩)
        · have w := r1.rep z.toNat
          rw [rep_same e] at w
          exact k _ M H (Xt.refl sm) (.tup h1 w)
        · exact Res.newT sm hp (r1.rep _) k
      · cases q
    | _ => cases q
  | _ => cases q
theorem s_fdiv (ha : PE X x (tE X.K Φ false a)) (hb : PE X y (tE X.K Φ false b)) : PE X (.BinOp x .FloorDiv y pos) (tE X.K Φ false (.bin .fdiv a b)) := by
  refine pe_imp (pe_op op_fdivO ha hb) fun σ H Q h => two (fun _ => rfl) (fun M H v w dx dy d Q il sm hx hy q k => ?_) h
  cases hx with
  | int i =>
    cases hy with
    | int j =>
      simp only [binD] at q
      split at q
      · rename_i hl
        cases q
        exact ⟨i, j, rfl, rfl, hl, k _ M H (Xt.refl sm) (.int _)⟩
      · cases q
    | _ => cases q
  | _ => cases q
theorem s_mod (ha : PE X x (tE X.K Φ false a)) (hb : PE X y (tE X.K Φ false b)) : PE X (.BinOp x .Mod y pos) (tE X.K Φ false (.bin .mod a b)) := by
  refine pe_imp (pe_op op_mod ha hb) fun σ H Q h => two (fun _ => rfl) (fun M H v w dx dy d Q il sm hx hy q k => ?_) h
  cases hx with
  | int i =>
    cases hy with
    | int j =>
      simp only [binD] at q
      split at q
      · rename_i hl
        cases q
        exact ⟨i, j, rfl, rfl, hl, k _ M H (Xt.refl sm) (.int _)⟩
      · cases q
    | _ => cases q
  | _ => cases q
theorem s_pow (ha : PE X x (tE X.K Φ false a)) (hb : PE X y (tE X.K Φ false b)) : PE X (.BinOp x .Pow y pos) (tE X.K Φ false (.bin .pow a b)) := by
  refine pe_imp (pe_op op_pow ha hb) fun σ H Q h => two (fun _ => rfl) (fun M H v w dx dy d Q il sm hx hy q k => ?_) h
  cases hx with
  | int i =>
    cases hy with
    | int j =>
      simp only [binD] at q
      split at q
      · rename_i hl
        simp only [Bool.and_eq_true, decide_eq_true_eq] at hl
        cases q
        exact ⟨i, j, rfl, rfl, ⟨hl.1.1, by omega, by omega⟩, k _ M H (Xt.refl sm) (.int _)⟩
      · cases q
    | _ => cases q
  | _ => cases q
theorem s_neg (ha : PE X x (tE X.K Φ false a)) : PE X (.UnaryOp .USub x pos) (tE X.K Φ false (.neg a)) := by
  refine pe_imp (pe_un un_neg ha) fun σ H Q h => one1 (fun _ => rfl) (fun M H v dx d Q il sm hx q k => ?_) h
  cases hx with
  | int i =>
    cases q
    exact ⟨i, rfl, k _ M H (Xt.refl sm) (.int _)⟩
  | _ => cases q

/-! comparisons -/
theorem okEq_lay {d : D} (h : okEq d = true) : SeqAt.shaped d.py = true := h
theorem lay_of {d : D} (h : okEq d = true) : d.py.canLay0 = true := SeqAt.canLay_of_shaped h
theorem eqD_of {d e : D} {k : Bool} (h : eqD d e = some k) : okEq d = true ∧ okEq e = true ∧ k = PyData.eqv d.py e.py := by
  unfold eqD at h
  split at h
  · rename_i q
    cases h
    exact ⟨(Bool.and_eq_true_iff.mp q).1, (Bool.and_eq_true_iff.mp q).2, rfl⟩
  · cases h
/-- x in, x not in a tuple of data -/
def rInT (K : PySem.W.Frag) (neg : Bool) : R2 := fun x y H Q => ∃ d ds, Dp K H x d ∧ Dp K H y (.tuple ds) ∧ SeqAt.shaped d = true ∧ SeqAt.shaped (.list ds) = true ∧ Q (.bl (if neg then !ds.any fun z => PyData.eqv z d else ds.any fun z => PyData.eqv z d)) H
theorem canT {ds : List PyData} (h : SeqAt.shaped (.list ds) = true) : PyData.canLayAll0 ds = true := by
  have := SeqAt.canLay_of_shaped h
  simpa [PyData.canLay0] using this
theorem op_inT (hu : X.A.units + 65 < cLine) : OpR X (compareOp .In) (rInT X.K false) := by
  intro pins s σ H x y v u Q I rx ry h
  obtain ⟨d, ds, hd, he, sd, se, q⟩ := h
  obtain ⟨as, r1⟩ := Dp.reads I d x v hd rx
  obtain ⟨bs, r2⟩ := Dp.reads I (.tuple ds) y u he ry
  exact SeqAt.in_tuple_reads r2 r1 (canT se) (SeqAt.canLay_of_shaped sd) (PyProof.Rows.room_in_shaped sd hu) ⟨.bl _, H, I, rfl, q⟩
theorem op_notInT (hu : X.A.units + 65 < cLine) : OpR X (compareOp .NotIn) (rInT X.K true) := by
  intro pins s σ H x y v u Q I rx ry h
  obtain ⟨d, ds, hd, he, sd, se, q⟩ := h
  obtain ⟨as, r1⟩ := Dp.reads I d x v hd rx
  obtain ⟨bs, r2⟩ := Dp.reads I (.tuple ds) y u he ry
  exact SeqAt.notIn_tuple_reads r2 r1 (canT se) (SeqAt.canLay_of_shaped sd) (PyProof.Rows.room_in_shaped sd hu) ⟨.bl _, H, I, rfl, q⟩

/-- k in d, k not in d -/
def rInD (neg : Bool) : R2 := fun x y H Q => ∃ a o, y = .ref a ∧ DGet H a x o ∧ Q (.bl (if neg then !o.isSome else o.isSome)) H
theorem op_inDic (hu : X.A.units + 65 < cLine) : OpR X (compareOp .In) (rInD false) := by
  intro pins s σ H x y v u Q I rx ry h
  obtain ⟨a, o, rfl, g, q⟩ := h
  cases ry
  exact d_in (by omega) I g rx fun s' I' => ⟨.bl _, H, I', rfl, q⟩
theorem op_notInDic (hu : X.A.units + 65 < cLine) : OpR X (compareOp .NotIn) (rInD true) := by
  intro pins s σ H x y v u Q I rx ry h
  obtain ⟨a, o, rfl, g, q⟩ := h
  cases ry
  exact d_notIn (by omega) I g rx fun s' I' => ⟨.bl _, H, I', rfl, q⟩
theorem dat_in {K : PySem.W.Frag} {M H : Hp} {v w : V} {lk : Bool} {kvs : List (List Int × D)} {dk : D} {k : Bool} {Q : VK} (sm : Same M H) (h : Dat K M w (.dic lk kvs)) (hk : Dat K M v dk) (e : (keyOf dk).map (fun q => (lookD kvs q).isSome) = some k) (neg : Bool) (z : Q (.bl (if neg then !k else k)) H) : rInD neg v w H Q := by
  obtain ⟨q, e1, rfl⟩ := Option.map_eq_some_iff.mp e
  obtain ⟨a, o, rfl, g, h1, h2⟩ := dat_get sm h hk e1
  refine ⟨a, o, rfl, g, ?_⟩
  have eo : o.isSome = (lookD kvs q).isSome := by
    cases hl : lookD kvs q with
    | none => rw [h2 hl]; rfl
    | some d => obtain ⟨u, e, _⟩ := h1 d hl; rw [e]; rfl
  rw [eo]
  exact z
/-- a comparison of values: op has the reading r, which cmpD o tells -/
structure CmpR (X : Cx) (o : Op) (op : CmpOp) (r : R2) : Prop where
  ok : OpR X (compareOp op) r
  rd : ∀ M H v w dx dy k (Q : VK), Same M H → Dat X.K M v dx → Dat X.K M w dy → cmpD o dx dy = some k → Q (.bl k) H → r v w H Q
theorem inSeq_of {x : D} {ys : List D} {k : Bool} (h : inSeq x ys = some k) : okEq x = true ∧ okEq (.lst ys) = true ∧ k = ys.any fun y => PyData.eqv y.py x.py := by
  unfold inSeq at h
  split at h
  · rename_i q
    cases h
    exact ⟨(Bool.and_eq_true_iff.mp q).1, (Bool.and_eq_true_iff.mp q).2, rfl⟩
  · cases h
theorem any_py (ys : List D) (x : PyData) : ((pyL ys).any fun z => PyData.eqv z x) = ys.any fun y => PyData.eqv y.py x := by
  induction ys with
  | nil => rfl
  | cons y ys ih => simp only [pyL, List.any_cons, ih]
def cmpOf : Op → Option CmpOp
  | .eq => some .Eq | .ne => some .NotEq | .lt => some .Lt | .le => some .LtE | .gt => some .Gt | .ge => some .GtE | .isin => some .In | .notin => some .NotIn
  | _ => none
theorem cmp_all (hu : X.A.units + 65 < cLine) {o : Op} {op : CmpOp} (h : cmpOf o = some op) : ∃ r, CmpR X o op r := by
  cases o <;> cases h
  · refine ⟨_, op_eqD (by omega), fun M H v w dx dy k Q sm hx hy q z => ?_⟩
    obtain ⟨h1, h2, rfl⟩ := eqD_of q
    exact ⟨_, _, hx.dp sm (lay_of h1), hy.dp sm (lay_of h2), h1, h2, z⟩
  · refine ⟨_, op_neD (by omega), fun M H v w dx dy k Q sm hx hy q z => ?_⟩
    obtain ⟨k', q', rfl⟩ := Option.map_eq_some_iff.mp q
    obtain ⟨h1, h2, rfl⟩ := eqD_of q'
    exact ⟨_, _, hx.dp sm (lay_of h1), hy.dp sm (lay_of h2), h1, h2, z⟩
  · exact ⟨_, op_lt, fun M H v w dx dy k Q sm hx hy q z => by cases hx <;> cases hy <;> cases q <;> exact ⟨_, _, rfl, rfl, z⟩⟩
  · exact ⟨_, op_le, fun M H v w dx dy k Q sm hx hy q z => by cases hx <;> cases hy <;> cases q <;> exact ⟨_, _, rfl, rfl, z⟩⟩
  · exact ⟨_, op_gt, fun M H v w dx dy k Q sm hx hy q z => by cases hx <;> cases hy <;> cases q <;> exact ⟨_, _, rfl, rfl, z⟩⟩
  · exact ⟨_, op_ge, fun M H v w dx dy k Q sm hx hy q z => by cases hx <;> cases hy <;> cases q <;> exact ⟨_, _, rfl, rfl, z⟩⟩
  · refine ⟨_, ((op_inD hu).or (op_inT hu)).or (op_inDic hu), fun M H v w dx dy k Q sm hx hy q z => ?_⟩
    cases hy with
    | lst h r =>
      obtain ⟨h1, h2, rfl⟩ := inSeq_of q
      exact .inl <| .inl ⟨_, _, hx.dp sm (lay_of h1), (Dat.lst h r : Dat X.K M _ _).dp sm (lay_of h2), h1, h2, by rw [any_py]; exact z⟩
    | tup h r =>
      obtain ⟨h1, h2, rfl⟩ := inSeq_of q
      exact .inl <| .inr ⟨_, _, hx.dp sm (lay_of h1), (Dat.tup h r : Dat X.K M _ _).dp sm (by have := lay_of h2; simpa [D.py, PyData.canLay0] using this), h1, h2, by rw [any_py]; exact z⟩
    | cst h r =>
      obtain ⟨h1, h2, rfl⟩ := inSeq_of q
      exact .inl <| .inr ⟨_, _, hx.dp sm (lay_of h1), .tup (same_t sm h) (r.dp sm (canT h2)), h1, h2, by rw [any_py]; exact z⟩
    | dic h r => exact .inr (dat_in sm (.dic h r) hx q false z)
    | dpl h r => exact .inr (dat_in sm (.dpl h r) hx q false z)
    | _ => cases q
  · refine ⟨_, ((op_notInD hu).or (op_notInT hu)).or (op_notInDic hu), fun M H v w dx dy k Q sm hx hy q z => ?_⟩
    cases hy with
    | lst h r =>
      obtain ⟨k', q', rfl⟩ := Option.map_eq_some_iff.mp q
      obtain ⟨h1, h2, rfl⟩ := inSeq_of q'
      exact .inl <| .inl ⟨_, _, hx.dp sm (lay_of h1), (Dat.lst h r : Dat X.K M _ _).dp sm (lay_of h2), h1, h2, by rw [any_py]; exact z⟩
    | tup h r =>
      obtain ⟨k', q', rfl⟩ := Option.map_eq_some_iff.mp q
      obtain ⟨h1, h2, rfl⟩ := inSeq_of q'
      exact .inl <| .inr ⟨_, _, hx.dp sm (lay_of h1), (Dat.tup h r : Dat X.K M _ _).dp sm (by have := lay_of h2; simpa [D.py, PyData.canLay0] using this), h1, h2, by rw [any_py]; exact z⟩
    | cst h r =>
      obtain ⟨k', q', rfl⟩ := Option.map_eq_some_iff.mp q
      obtain ⟨h1, h2, rfl⟩ := inSeq_of q'
      exact .inl <| .inr ⟨_, _, hx.dp sm (lay_of h1), .tup (same_t sm h) (r.dp sm (canT h2)), h1, h2, by rw [any_py]; exact z⟩
    | dic h r =>
      obtain ⟨q', e1, rfl⟩ := Option.map_eq_some_iff.mp q
      exact .inr (dat_in sm (.dic h r) hx (Option.map_eq_some_iff.mpr ⟨q', e1, rfl⟩) true z)
    | dpl h r =>
      obtain ⟨q', e1, rfl⟩ := Option.map_eq_some_iff.mp q
      exact .inr (dat_in sm (.dpl h r) hx (Option.map_eq_some_iff.mpr ⟨q', e1, rfl⟩) true z)
    | _ => cases q
end
end PyD

/-! More expressions: comparisons, truth, displays, calls, subscripts. -/
namespace PyD
open PySem L2

section
variable {X : Cx} {x y z : Expr} {xs : List Expr} {Φ : Fns} {a b c e : E} {pos : Pos}

/-- a value that is a truth value, as a test -/
theorem pt_of (h : PE X x (tE X.K Φ false e)) (hs : ∀ whole, isTrue x X.env whole = (do let v ← whole; standAt x.pos; holding [v] (truthy v))) : PT X x (tT X.K Φ e) :=
  pt_imp (pt_val h hs) fun σ H Q ⟨M, env, b, sm, rd, q, k⟩ => ⟨M, env, .bl b, (fun z => nomatch z), sm, rd, q, fun v M' H' xt r => by cases r; exact ⟨b, rfl, k M' H' xt⟩⟩

/-! ### comparisons -/
theorem s_cmp {o : Op} {op : CmpOp} {r : R2} (c : CmpR X o op r) (ha : PE X x (tE X.K Φ false a)) (hb : PE X y (tE X.K Φ false b)) (hm : behindInMarks op y = false) :
    PE X (.Compare x [op] [y] pos) (tE X.K Φ false (.cmp o a b)) ∧ PT X (.Compare x [op] [y] pos) (tT X.K Φ (.cmp o a b)) := by
  have e1 : ∀ env, ev Φ (.cmp o a b) env = (ev Φ a env).bind fun x => (ev Φ b env).bind fun y => (cmpD o x y).map .bl := fun _ => rfl
  refine ⟨pe_imp (pe_cmpR c.ok ha hb hm) fun σ H Q h => two e1 (fun M H v w dx dy d Q il sm hx hy q k => ?_) h, pt_imp (pt_cmpR c.ok ha hb hm) fun σ H Q ⟨M, env, b', sm, rd, q, k⟩ => ?_⟩
  · obtain ⟨k', q', rfl⟩ := Option.map_eq_some_iff.mp q
    exact c.rd M H v w dx dy k' Q sm hx hy q' (k _ M H (Xt.refl sm) (.bl _))
  · refine two (fr := false) e1 (fun M H v w dx dy d Q il sm hx hy q k => ?_) ⟨M, env, .bl b', (fun z => nomatch z), sm, rd, q, fun v M' H' xt r => ?_⟩
    · obtain ⟨k', q', rfl⟩ := Option.map_eq_some_iff.mp q
      exact c.rd M H v w dx dy k' Q sm hx hy q' (k _ M H (Xt.refl sm) (.bl _))
    · cases r
      exact ⟨b', rfl, k M' H' xt⟩
theorem chainW {o o' : Op} {op op' : CmpOp} {r r' : R2} (co : CmpR X o op r) (co' : CmpR X o' op' r') {σ : L2.St} {H : Hp} {Q : VK} (h : tE X.K Φ false (.chain o o' a b c) σ H Q) :
    tChain r r' (tE X.K Φ false a) (tE X.K Φ false b) (tE X.K Φ false c) σ H Q := by
  obtain ⟨M, env, d, il, sm, rd, q, k⟩ := h
  simp only [ev] at q
  obtain ⟨dx, q1, q⟩ := Option.bind_eq_some_iff.mp q
  obtain ⟨dy, q2, q⟩ := Option.bind_eq_some_iff.mp q
  obtain ⟨k1, q3, q⟩ := Option.bind_eq_some_iff.mp q
  refine ⟨M, env, dx, (fun z => nomatch z), sm, rd, q1, fun v M1 H1 x1 r1 => ⟨M1, env, dy, (fun z => nomatch z), x1.s, rd.mono x1.m, q2, fun w M2 H2 x2 r2 => ?_⟩⟩
  refine co.rd M2 H2 v w dx dy k1 _ x2.s (Dat.mono x2.m r1) r2 q3 ⟨k1, rfl, ?_⟩
  have x12 := x1.trans x2
  cases k1 with
  | false =>
    rw [if_neg (by decide)] at q ⊢
    cases q
    exact k _ M2 H2 x12 (.bl _)
  | true =>
    rw [if_pos rfl] at q ⊢
    obtain ⟨dz, q4, q5⟩ := Option.bind_eq_some_iff.mp q
    obtain ⟨k2, q6, rfl⟩ := Option.map_eq_some_iff.mp q5
    refine ⟨M2, env, dz, (fun z => nomatch z), x12.s, rd.mono x12.m, q4, fun u M3 H3 x3 r3 => ?_⟩
    exact co'.rd M3 H3 w u dy dz k2 Q x3.s (Dat.mono x3.m r2) r3 q6 (k _ M3 H3 (x12.trans x3) (.bl _))
theorem s_chain {o o' : Op} {op op' : CmpOp} {r r' : R2} (co : CmpR X o op r) (co' : CmpR X o' op' r') (ha : PE X x (tE X.K Φ false a)) (hb : PE X y (tE X.K Φ false b)) (hc : PE X z (tE X.K Φ false c)) (hm : lastMarks [op, op'] [y, z] = false) :
    PE X (.Compare x [op, op'] [y, z] pos) (tE X.K Φ false (.chain o o' a b c)) ∧ PT X (.Compare x [op, op'] [y, z] pos) (tT X.K Φ (.chain o o' a b c)) := by
  refine ⟨pe_imp (pe_chain co.ok co'.ok ha hb hc hm) fun σ H Q h => chainW co co' h, pt_imp (pt_chain co.ok co'.ok ha hb hc hm) fun σ H Q ⟨M, env, b', sm, rd, q, k⟩ => ?_⟩
  refine chainW co co' ⟨M, env, .bl b', (fun z => nomatch z), sm, rd, q, fun v M' H' xt r => ?_⟩
  cases r
  exact ⟨b', rfl, k M' H' xt⟩
theorem dat_non {K : PySem.W.Frag} {M : Hp} {v : V} {d : D} (h : Dat K M v d) : decide (v = .non) = isNonD d := by
  cases h <;> rfl
theorem s_isN {j pos'} (ha : PE X x (tE X.K Φ false a)) : PE X (.Compare x [.Is] [.Constant .none j pos'] pos) (tE X.K Φ false (.isN a)) ∧ PT X (.Compare x [.Is] [.Constant .none j pos'] pos) (tT X.K Φ (.isN a)) := by
  have w : ∀ {σ : L2.St} {H : Hp} {Q : VK}, tE X.K Φ false (.isN a) σ H Q → tIsN (tE X.K Φ false a) σ H Q := fun {σ H Q} ⟨M, env, d, il, sm, rd, q, k⟩ => by
    simp only [ev] at q
    obtain ⟨dx, q1, rfl⟩ := Option.map_eq_some_iff.mp q
    refine ⟨M, env, dx, (fun z => nomatch z), sm, rd, q1, fun v M1 H1 x1 r1 => ?_⟩
    show Q (.bl (decide (v = .non))) H1
    rw [dat_non r1]
    exact k _ M1 H1 x1 (.bl _)
  refine ⟨pe_imp (pe_cmp (pc_isN ha) rfl) fun σ H Q h => w h, pt_imp (pt_cmp (pc_isN ha) rfl) fun σ H Q ⟨M, env, b', sm, rd, q, k⟩ => ?_⟩
  refine w ⟨M, env, .bl b', (fun z => nomatch z), sm, rd, q, fun v M' H' xt r => ?_⟩
  cases r
  exact ⟨b', rfl, k M' H' xt⟩
theorem s_notN {j pos'} (ha : PE X x (tE X.K Φ false a)) : PE X (.Compare x [.IsNot] [.Constant .none j pos'] pos) (tE X.K Φ false (.notN a)) ∧ PT X (.Compare x [.IsNot] [.Constant .none j pos'] pos) (tT X.K Φ (.notN a)) := by
  have w : ∀ {σ : L2.St} {H : Hp} {Q : VK}, tE X.K Φ false (.notN a) σ H Q → tNotN (tE X.K Φ false a) σ H Q := fun {σ H Q} ⟨M, env, d, il, sm, rd, q, k⟩ => by
    simp only [ev] at q
    obtain ⟨dx, q1, rfl⟩ := Option.map_eq_some_iff.mp q
    refine ⟨M, env, dx, (fun z => nomatch z), sm, rd, q1, fun v M1 H1 x1 r1 => ?_⟩
    show Q (.bl (!decide (v = .non))) H1
    rw [dat_non r1]
    exact k _ M1 H1 x1 (.bl _)
  refine ⟨pe_imp (pe_cmp (pc_notN ha) rfl) fun σ H Q h => w h, pt_imp (pt_cmp (pc_notN ha) rfl) fun σ H Q ⟨M, env, b', sm, rd, q, k⟩ => ?_⟩
  refine w ⟨M, env, .bl b', (fun z => nomatch z), sm, rd, q, fun v M' H' xt r => ?_⟩
  cases r
  exact ⟨b', rfl, k M' H' xt⟩

/-! ### and, or, not, a if c else b -/
theorem ev_bl_of {σ : L2.St} {M H : Hp} {env : Env} {Q : VK} {b : Bool} (sm : Same M H) (rd : Rd0 X.K M σ env) (q : ev Φ a env = some (.bl b)) (k : ∀ M' H', Xt M M' H H' → Q (.bl b) H') : tE X.K Φ false a σ H Q :=
  ⟨M, env, .bl b, (fun z => nomatch z), sm, rd, q, fun v M' H' xt r => by cases r; exact k M' H' xt⟩
theorem bl_ev {o : Option D} {f : D → Option D} {d : D} (h : (o.bind fun d => match d with | .bl true => f (.bl true) | .bl false => f (.bl false) | _ => none) = some d) : ∃ k, o = some (.bl k) ∧ f (.bl k) = some d := by
  obtain ⟨dx, q1, q2⟩ := Option.bind_eq_some_iff.mp h
  cases dx with
  | bl k => cases k <;> exact ⟨_, q1, q2⟩
  | _ => cases q2
theorem s_and {rest : List Expr} (ha : PE X x (tE X.K Φ false a)) (hb : PE X (.BoolOp .And (y :: rest) pos) (tE X.K Φ false b)) : PE X (.BoolOp .And (x :: y :: rest) pos) (tE X.K Φ false (.and a b)) :=
  pe_imp (pe_and ha hb) fun σ H Q ⟨M, env, d, il, sm, rd, q, k⟩ => by
    obtain ⟨k1, q1, q2⟩ := bl_ev (f := fun d => match d with | .bl true => ev Φ b env | _ => some (.bl false)) q
    refine ev_bl_of sm rd q1 fun M1 H1 x1 => ⟨k1, rfl, ?_⟩
    cases k1 with
    | true => exact ⟨M1, env, d, il, x1.s, rd.mono x1.m, q2, fun v M2 H2 x2 r2 => k v M2 H2 (x1.trans x2) r2⟩
    | false =>
      cases q2
      exact k _ M1 H1 x1 (.bl _)
theorem s_or {rest : List Expr} (ha : PE X x (tE X.K Φ false a)) (hb : PE X (.BoolOp .Or (y :: rest) pos) (tE X.K Φ false b)) : PE X (.BoolOp .Or (x :: y :: rest) pos) (tE X.K Φ false (.or a b)) :=
  pe_imp (pe_or ha hb) fun σ H Q ⟨M, env, d, il, sm, rd, q, k⟩ => by
    obtain ⟨k1, q1, q2⟩ := bl_ev (f := fun d => match d with | .bl true => some (.bl true) | _ => ev Φ b env) q
    refine ev_bl_of sm rd q1 fun M1 H1 x1 => ⟨k1, rfl, ?_⟩
    cases k1 with
    | false => exact ⟨M1, env, d, il, x1.s, rd.mono x1.m, q2, fun v M2 H2 x2 r2 => k v M2 H2 (x1.trans x2) r2⟩
    | true =>
      cases q2
      exact k _ M1 H1 x1 (.bl _)
theorem s_one {op} (ha : PE X x (tE X.K Φ false a)) : PE X (.BoolOp op [x] pos) (tE X.K Φ false (.one a)) := pe_imp (pe_one ha) fun σ H Q h => h
theorem s_not (ha : PE X x (tE X.K Φ false a)) : PE X (.UnaryOp .Not x pos) (tE X.K Φ false (.not a)) :=
  pe_imp (pe_not ha) fun σ H Q ⟨M, env, d, il, sm, rd, q, k⟩ => by
    simp only [ev] at q
    obtain ⟨dx, q1, q2⟩ := Option.bind_eq_some_iff.mp q
    cases dx with
    | bl k1 =>
      cases q2
      exact ev_bl_of sm rd q1 fun M1 H1 x1 => ⟨k1, rfl, k _ M1 H1 x1 (.bl _)⟩
    | _ => cases q2
theorem st_and {rest : List Expr} (ha : PT X x (tT X.K Φ a)) (hb : PW X (.BoolOp .And (y :: rest) pos) (tT X.K Φ b)) : PW X (.BoolOp .And (x :: y :: rest) pos) (tT X.K Φ (.and a b)) :=
  pw_imp (pw_and ha hb) fun σ H Q ⟨M, env, d, sm, rd, q, k⟩ => by
    obtain ⟨k1, q1, q2⟩ := bl_ev (f := fun d => match d with | .bl true => ev Φ b env | _ => some (.bl false)) q
    refine ⟨M, env, k1, sm, rd, q1, fun M1 H1 x1 => ?_⟩
    cases k1 with
    | true => exact iteT ⟨M1, env, d, x1.s, rd.mono x1.m, q2, fun M2 H2 x2 => k M2 H2 (x1.trans x2)⟩
    | false =>
      cases q2
      exact iteF (k M1 H1 x1)
theorem st_or {rest : List Expr} (ha : PT X x (tT X.K Φ a)) (hb : PW X (.BoolOp .Or (y :: rest) pos) (tT X.K Φ b)) : PW X (.BoolOp .Or (x :: y :: rest) pos) (tT X.K Φ (.or a b)) :=
  pw_imp (pw_or ha hb) fun σ H Q ⟨M, env, d, sm, rd, q, k⟩ => by
    obtain ⟨k1, q1, q2⟩ := bl_ev (f := fun d => match d with | .bl true => some (.bl true) | _ => ev Φ b env) q
    refine ⟨M, env, k1, sm, rd, q1, fun M1 H1 x1 => ?_⟩
    cases k1 with
    | false => exact iteF ⟨M1, env, d, x1.s, rd.mono x1.m, q2, fun M2 H2 x2 => k M2 H2 (x1.trans x2)⟩
    | true =>
      cases q2
      exact iteT (k M1 H1 x1)
theorem st_one {op} (h : op = BoolOp.And ∨ op = BoolOp.Or) (ha : PT X x (tT X.K Φ a)) : PW X (.BoolOp op [x] pos) (tT X.K Φ (.one a)) := by
  rcases h with rfl | rfl
  · exact pw_imp (pw_and1 ha) fun σ H Q h => h
  · exact pw_imp (pw_or1 ha) fun σ H Q h => h
theorem st_not (ha : PT X x (tT X.K Φ a)) : PT X (.UnaryOp .Not x pos) (tT X.K Φ (.not a)) :=
  pt_imp (pt_not ha) fun σ H Q ⟨M, env, d, sm, rd, q, k⟩ => by
    simp only [ev] at q
    obtain ⟨dx, q1, q2⟩ := Option.bind_eq_some_iff.mp q
    cases dx with
    | bl k1 =>
      cases q2
      exact ⟨M, env, k1, sm, rd, q1, fun M1 H1 x1 => k M1 H1 x1⟩
    | _ => cases q2
theorem s_ite {fr : Bool} (hc : PT X z (tT X.K Φ c)) (ha : PE X x (tE X.K Φ fr a)) (hb : PE X y (tE X.K Φ fr b)) : PE X (.IfExp z x y pos) (tE X.K Φ fr (.ite c a b)) :=
  pe_imp (pe_ifExp hc ha hb) fun σ H Q ⟨M, env, d, il, sm, rd, q, k⟩ => by
    obtain ⟨k1, q1, q2⟩ := bl_ev (f := fun d => match d with | .bl true => ev Φ a env | _ => ev Φ b env) q
    refine ⟨M, env, k1, sm, rd, q1, fun M1 H1 x1 => ?_⟩
    cases k1 with
    | true => exact iteT ⟨M1, env, d, il, x1.s, rd.mono x1.m, q2, fun v M2 H2 x2 r2 => k v M2 H2 (x1.trans x2) (r2.back x1.h)⟩
    | false => exact iteF ⟨M1, env, d, il, x1.s, rd.mono x1.m, q2, fun v M2 H2 x2 r2 => k v M2 H2 (x1.trans x2) (r2.back x1.h)⟩

/-! ### argument lists, displays -/
theorem s_nil : PA X [] (tA X.K Φ .nil) := pa_imp pa_nil fun σ H Q ⟨M, env, ds, sm, rd, q, k⟩ => by
  simp only [ev, Option.some.injEq, D.tup.injEq] at q
  subst q
  exact k [] M H (Xt.refl sm) .nil
theorem ev_cons {env : Env} {ds : List D} (h : ev Φ (.cons a b) env = some (.tup ds)) : ∃ d es, ds = d :: es ∧ ev Φ a env = some d ∧ ev Φ b env = some (.tup es) := by
  simp only [ev] at h
  obtain ⟨d, q1, h⟩ := Option.bind_eq_some_iff.mp h
  obtain ⟨r, q2, h⟩ := Option.bind_eq_some_iff.mp h
  cases r with
  | tup es =>
    cases h
    exact ⟨d, es, rfl, q1, q2⟩
  | _ => cases h
theorem s_cons (ha : PE X x (tE X.K Φ false a)) (hb : PA X xs (tA X.K Φ b)) (hs : starEach (x :: xs) X.env = (false, eval x X.env) :: starEach xs X.env) : PA X (x :: xs) (tA X.K Φ (.cons a b)) :=
  pa_imp (pa_cons ha hb hs) fun σ H Q ⟨M, env, ds, sm, rd, q, k⟩ => by
    obtain ⟨d, es, rfl, q1, q2⟩ := ev_cons q
    refine ⟨M, env, d, (fun z => nomatch z), sm, rd, q1, fun v M1 H1 x1 r1 => ⟨M1, env, es, x1.s, rd.mono x1.m, q2, fun vs M2 H2 x2 r2 => ?_⟩⟩
    exact k _ M2 H2 (x1.trans x2) (.cons (Dat.mono x2.m r1) r2)
/-- what a display of this many items may have -/
def lenA : E → Nat
  | .cons _ b => lenA b + 1
  | _ => 0
theorem ev_len : ∀ {a : E} {env : Env} {ds : List D}, ev Φ a env = some (.tup ds) → (∃ k, lenA a = k ∧ lenA a ≤ ds.length) := fun {a env ds} h => by
  refine ⟨_, rfl, ?_⟩
  induction a generalizing ds with
  | cons a b iha ihb =>
    obtain ⟨d, es, rfl, q1, q2⟩ := ev_cons h
    have := ihb q2
    simp only [lenA, List.length_cons]
    omega
  | _ => exact Nat.zero_le _
/-- the arguments are as many as written -/
def argsLen : E → Option Nat
  | .nil => some 0
  | .cons _ b => (argsLen b).map (· + 1)
  | _ => none
theorem ev_argsLen : ∀ {a : E} {env : Env} {ds : List D} {n : Nat}, ev Φ a env = some (.tup ds) → argsLen a = some n → ds.length = n := fun {a env ds n} h hn => by
  induction a generalizing ds n with
  | nil =>
    simp only [ev, Option.some.injEq, D.tup.injEq] at h
    cases hn
    subst h
    rfl
  | cons a b iha ihb =>
    obtain ⟨d, es, rfl, q1, q2⟩ := ev_cons h
    simp only [argsLen, Option.map_eq_some_iff] at hn
    obtain ⟨m, hm, rfl⟩ := hn
    rw [List.length_cons, ihb q2 hm]
  | _ => cases hn
theorem s_tup {k : Nat} {n : Nat} (hn : argsLen a = some n) (hl : n ≤ LIM) (ha : PA X xs (tA X.K Φ a)) : PE X (.Tuple xs k pos) (tE X.K Φ false (.tup a)) :=
  pe_imp (pe_tup ha) fun σ H Q ⟨M, env, d, il, sm, rd, q, k⟩ => by
    have hq : ∃ ds, d = .tup ds ∧ ev Φ a env = some (.tup ds) := by
      simp only [ev] at q
      cases a with
      | nil =>
        simp only [ev, Option.some.injEq] at q
        exact ⟨[], q.symm, by simp [ev]⟩
      | cons u w =>
        simp only [ev] at q
        obtain ⟨d1, q1, q'⟩ := Option.bind_eq_some_iff.mp q
        obtain ⟨r, q2, q'⟩ := Option.bind_eq_some_iff.mp q'
        cases r with
        | tup es =>
          cases q'
          exact ⟨_, rfl, by simp only [ev, q1, q2]; rfl⟩
        | _ => cases q'
      | _ => cases hn
    obtain ⟨ds, rfl, hq⟩ := hq
    refine ⟨M, env, ds, sm, rd, hq, fun vs M1 H1 x1 r1 => ⟨LIM_le (by rw [r1.length, ev_argsLen hq hn]; exact hl), fun p hp => ?_⟩⟩
    exact Res.newT x1.s hp r1 fun v M2 H2 x2 r2 => k v M2 H2 (x1.trans x2) r2
theorem s_lst {fr : Bool} {n : Nat} (hn : argsLen a = some n) (hl : n ≤ LIM) (ha : PA X xs (tA X.K Φ a)) : PE X (.List xs pos) (tE X.K Φ fr (.lst a)) :=
  pe_imp (pe_lst ha) fun σ H Q ⟨M, env, d, il, sm, rd, q, k⟩ => by
    simp only [ev] at q
    obtain ⟨r, q1, q⟩ := Option.bind_eq_some_iff.mp q
    cases r with
    | tup ds =>
      cases q
      refine ⟨M, env, ds, sm, rd, q1, fun vs M1 H1 x1 r1 => ⟨LIM_le (by rw [r1.length, ev_argsLen q1 hn]; exact hl), fun p hp => ?_⟩⟩
      exact Res.new (fr := fr) x1.s hp r1 fun v M2 H2 x2 r2 => k v M2 H2 (x1.trans x2) (r2.back x1.h)
    | _ => cases q

/-! ### calls -/
theorem ev_callee {env : Env} {f : List D → Option D} {d : D} (q : ((ev Φ a env).bind fun r => match r with | .tup ds => f ds | _ => none) = some d) : ∃ ds, ev Φ a env = some (.tup ds) ∧ f ds = some d := by
  obtain ⟨r, q1, q⟩ := Option.bind_eq_some_iff.mp q
  cases r with
  | tup ds => exact ⟨ds, q1, q⟩
  | _ => cases q
theorem pe_callR {n : Nat} {f : Addr} {sp : Sp} {t : TA} {nm : Str} {p : Pos} (F : FnR X.prog X.w X.K X.mg X.base CX0 n f sp) (hr : Room n X.A) (hg : Gl X nm) (hm : X.mg nm = some (.ref f)) (hk : PySem.W.keepIn X.K (.ref f) = true)
    (ha : PA X (x :: xs) t) (hdb : (nm == ("__debug__" : Str)) = false) (he : starEach (x :: xs) X.env = (false, eval x X.env) :: starEach xs X.env) (hpl : (backTo pos (starEach xs X.env)).any (·.1) = false) :
    PE X (.Call (.Name nm p) (x :: xs) [] pos) (fun σ H Q => t σ H fun vs H1 => sp vs H1 Q E0) := by
  refine ⟨fun pins s σ H Q I h => ?_⟩
  refine wpAny_Call_Name_kw (ld_glob I hg hm ?_ hdb)
  refine PySem.W.callWith_K (h₀ := X.base) I.ok.mod.kin hk (thn (ha.run pos pins s σ H _ I h) fun us s1 ⟨vs, H1, I1, r, q⟩ => ⟨I1.kIn, ?_⟩) he hpl
  exact wpAny_call (run_fnR F hr pass0 I1 r q)
theorem s_call {n : Nat} {f : Nat} {ad : Addr} {ffr fr : Bool} {nm : Str} {p : Pos} (F : FnR X.prog X.w X.K X.mg X.base CX0 n ad (spOf X.K Φ ffr f)) (hff : fr = true → ffr = true) (hr : Room n X.A) (hg : Gl X nm) (hm : X.mg nm = some (.ref ad)) (hk : PySem.W.keepIn X.K (.ref ad) = true)
    (ha : PA X (x :: xs) (tA X.K Φ a)) (hdb : (nm == ("__debug__" : Str)) = false) (he : starEach (x :: xs) X.env = (false, eval x X.env) :: starEach xs X.env) (hpl : (backTo pos (starEach xs X.env)).any (·.1) = false) :
    PE X (.Call (.Name nm p) (x :: xs) [] pos) (tE X.K Φ fr (.call f a)) :=
  pe_imp (pe_callR F hr hg hm hk ha hdb he hpl) fun σ H Q ⟨M, env, d, il, sm, rd, q, k⟩ => by
    obtain ⟨ds, q1, q2⟩ := ev_callee (f := Φ f) q
    refine ⟨M, env, ds, sm, rd, q1, fun vs M1 H1 x1 r1 => ⟨M1, ds, d, x1.s, r1, q2, fun v M2 H2 x2 r2 => ?_⟩⟩
    cases hffr : ffr with
    | false =>
      rw [hffr] at r2
      have : fr = false := by
        cases fr with
        | false => rfl
        | true => rw [hff rfl] at hffr; cases hffr
      subst this
      exact k v M2 H2 (x1.trans x2) r2
    | true =>
      rw [hffr] at r2
      cases fr with
      | true => exact k v M2 H2 (x1.trans x2) (r2.back x1.h)
      | false =>
        obtain ⟨M3, x3, r3⟩ := Res.keep x2 r2
        exact k v M3 H2 (x1.trans x3) r3
end
end PyD

/-! Built-ins, isinstance, subscripts, slices, ranges. -/
namespace PyD
open PySem L2
theorem sum_tupG {prog : Program} {w : World} {A : Around} {E : Value → Shared → Prop} {s : Shared} {l : Addr} {xs : Array (Int × Tok)} {Q : Value → Shared → Prop} (hh : A.handled = none) (hT : s.heap.IsTuple l (intItems xs))
    (h : ∀ h' tk t', (∀ b o, s.heap.get? b = some o → h'.get? b = some o) → Q (.int (preSum (numAt xs) xs.size) t') { s with heap := h', toks := tk }) :
    wpAny (model prog w) A (call (.builtin "sum") [.ref l]) Q E s := by
  have hlt : l < s.heap.objs.size := by obtain ⟨_, e, _⟩ := hT; exact Heap.lt_size e
  refine call_sum_walkG (wpAny_pyIter_tuple hT ?_)
  refine ⟨_, [_, l], [_], _, _, _, numAt xs, rfl, Walks.tuple (A := A.in1) hh _ l (Nat.ne_of_lt hlt) (intItems xs), ⟨⟨_, Heap.get?_push_size _ rfl, rfl, rfl⟩, hT.push _⟩, fun b hb => ?_, (fun _ _ => intItems_at), fun h' tk t' hk => ?_⟩
  · show b < (s.heap.push _).objs.size
    rw [Heap.size_push]
    rcases List.mem_cons.mp hb with rfl | hb
    · exact Nat.lt_succ_self _
    · rw [List.mem_singleton.mp hb]
      exact Nat.lt_succ_of_lt hlt
  · have hold : ∀ c o, s.heap.get? c = some o → h'.get? c = some o := fun c o e => by
      refine hk c o (fun hm => ?_) (Heap.get?_push_of_some _ e)
      rw [List.mem_singleton.mp hm] at e
      exact absurd (Heap.lt_size e) (Nat.lt_irrefl _)
    have := h h' tk t' hold
    simpa [intItems] using this
def rSumT (K : PySem.W.Frag) : List V → Hp → VK → Prop := fun vs H Q => ∃ (a : Addr) (ns : List Int), vs = [V.ref a] ∧ (SqL K H a (ns.map V.int) ∨ SqT K H a (ns.map V.int)) ∧ Q (.int ns.sum) H
theorem cr_sumT {X : Cx} (hc : X.calm = true) : CallR X (.builtin "sum") (rSumT X.K) := by
  intro pins s σ H vs us Q I r h
  obtain ⟨a, ns, rfl, hs, q⟩ := h
  rcases hs with hs | hs
  · exact cr_sum hc pins s σ H _ us Q I r ⟨a, ns, rfl, hs, q⟩
  · obtain ⟨its, rv, hl, _⟩ := I.tuple hs
    rw [Vals.ref1 r]
    have hi := rv.ints
    obtain ⟨xs, e⟩ := hi.allInts.items
    have hn : numsOf (intItems xs).toList = ns := by rw [← e]; exact hi.numsOf
    rw [nums_intItems] at hn
    rw [e] at hl
    refine sum_tupG (I.ok.hd hc) hl fun h' tk t' hk => ?_
    rw [preSum_eq, List.take_of_length_le (by simp), hn]
    exact ⟨.int _, H, I.kept hk, ⟨_, rfl⟩, q⟩

section
variable {X : Cx} {x y z : Expr} {xs : List Expr} {Φ : Fns} {a b c e : E} {pos : Pos}

theorem s_biW {bi : Bi} {fr : Bool} {r : List V → Hp → VK → Prop} (h : PE X x (tCB r (tA X.K Φ a)))
    (rd : ∀ M H vs ds d (Q : VK), (fr = true → isL d = true) → Same M H → DatL X.K M vs ds → biD bi ds = some d → (∀ z M' H', Xt M M' H H' → Res X.K M' H H' fr z d → Q z H') → r vs H Q) :
    PE X x (tE X.K Φ fr (.bi bi a)) :=
  pe_imp h fun σ H Q ⟨M, env, d, il, sm, rd0, q, k⟩ => by
    obtain ⟨ds, q1, q2⟩ := ev_callee (f := biD bi) q
    refine ⟨M, env, ds, sm, rd0, q1, fun vs M1 H1 x1 r1 => ?_⟩
    exact rd M1 H1 vs ds d Q il x1.s r1 q2 fun z M' H' x3 r3 => k z M' H' (x1.trans x3) (r3.back x1.h)

theorem datL1 {M : Hp} {vs : List V} {d : D} (h : DatL X.K M vs [d]) : ∃ v, vs = [v] ∧ Dat X.K M v d := by
  cases h with
  | cons h r =>
    cases r
    exact ⟨_, rfl, h⟩
theorem datL2 {M : Hp} {vs : List V} {d d' : D} (h : DatL X.K M vs [d, d']) : ∃ v w, vs = [v, w] ∧ Dat X.K M v d ∧ Dat X.K M w d' := by
  cases h with
  | cons h r =>
    obtain ⟨w, rfl, r'⟩ := datL1 r
    exact ⟨_, _, rfl, h, r'⟩

structure BiOk (X : Cx) (bi : Bi) (r : List V → Hp → VK → Prop) : Prop where
  rd : ∀ (fr : Bool) M H vs ds d (Q : VK), (fr = true → isL d = true) → Same M H → DatL X.K M vs ds → biD bi ds = some d → (∀ z M' H', Xt M M' H H' → Res X.K M' H H' fr z d → Q z H') → r vs H Q

/-! what a built-in gives, by its arguments -/
theorem biD1 {bi : Bi} {ds : List D} {d : D} (hb : bi = .len ∨ bi = .abs ∨ bi = .int ∨ bi = .sum ∨ bi = .list ∨ bi = .tuple) (h : biD bi ds = some d) : ∃ d1, ds = [d1] := by
  rcases ds with _ | ⟨d1, _ | ⟨d2, ds⟩⟩
  · rcases hb with rfl | rfl | rfl | rfl | rfl | rfl <;> cases h
  · exact ⟨d1, rfl⟩
  · rcases hb with rfl | rfl | rfl | rfl | rfl | rfl <;> cases d1 <;> cases h
theorem biD2 {bi : Bi} {ds : List D} {d : D} (hb : bi = .min2 ∨ bi = .max2 ∨ bi = .gcd) (h : biD bi ds = some d) : ∃ i j, ds = [.int i, .int j] := by
  rcases ds with _ | ⟨d1, _ | ⟨d2, _ | ⟨d3, ds⟩⟩⟩
  · rcases hb with rfl | rfl | rfl <;> cases h
  · rcases hb with rfl | rfl | rfl <;> cases d1 <;> cases h
  · rcases hb with rfl | rfl | rfl <;> cases d1 <;> cases d2 <;> first | exact ⟨_, _, rfl⟩ | cases h
  · rcases hb with rfl | rfl | rfl <;> cases d1 <;> cases d2 <;> cases h
theorem bi_len : BiOk X .len (fun xs H Q => ∃ p ys, xs = [.ref p] ∧ (SqL X.K H p ys ∨ SqT X.K H p ys) ∧ Q (.int ys.length) H) := by
  refine ⟨fun fr M H vs ds d Q il sm dl q k => ?_⟩
  obtain ⟨d1, rfl⟩ := biD1 (by simp) q
  obtain ⟨v, rfl, h⟩ := datL1 dl
  cases h with
  | lst h r =>
    cases q
    cases nofr il rfl
    exact ⟨_, _, rfl, .inl (SqL.of (sm _ _ h)), by rw [r.length]; exact k _ M H (Xt.refl sm) (.int _)⟩
  | tup h r =>
    cases q
    cases nofr il rfl
    exact ⟨_, _, rfl, .inr (SqT.of (sm _ _ h)), by rw [r.length]; exact k _ M H (Xt.refl sm) (.int _)⟩
  | _ => cases q
theorem bi_abs : BiOk X .abs (fun xs H Q => ∃ i, xs = [.int i] ∧ Q (.int (if i < 0 then -i else i)) H) := by
  refine ⟨fun fr M H vs ds d Q il sm dl q k => ?_⟩
  obtain ⟨d1, rfl⟩ := biD1 (by simp) q
  obtain ⟨v, rfl, h⟩ := datL1 dl
  cases h with
  | int i =>
    cases q
    cases nofr il rfl
    exact ⟨i, rfl, k _ M H (Xt.refl sm) (.int _)⟩
  | _ => cases q
theorem bi_int : BiOk X .int (fun xs H Q => (∃ i, xs = [.int i] ∧ Q (.int i) H) ∨ ∃ k, xs = [.bl k] ∧ Q (.int (if k then 1 else 0)) H) := by
  refine ⟨fun fr M H vs ds d Q il sm dl q k => ?_⟩
  obtain ⟨d1, rfl⟩ := biD1 (by simp) q
  obtain ⟨v, rfl, h⟩ := datL1 dl
  cases h with
  | int i =>
    cases q
    cases nofr il rfl
    exact .inl ⟨i, rfl, k _ M H (Xt.refl sm) (.int _)⟩
  | bl b =>
    cases q
    cases nofr il rfl
    exact .inr ⟨b, rfl, k _ M H (Xt.refl sm) (.int _)⟩
  | _ => cases q
theorem bi_min : BiOk X .min2 (fun xs H Q => ∃ i j, xs = [.int i, .int j] ∧ Q (.int (if j < i then j else i)) H) := by
  refine ⟨fun fr M H vs ds d Q il sm dl q k => ?_⟩
  obtain ⟨i, j, rfl⟩ := biD2 (by simp) q
  obtain ⟨v, w, rfl, h1, h2⟩ := datL2 dl
  cases h1
  cases h2
  cases q
  cases nofr il rfl
  exact ⟨i, j, rfl, k _ M H (Xt.refl sm) (.int _)⟩
theorem bi_max : BiOk X .max2 (fun xs H Q => ∃ i j, xs = [.int i, .int j] ∧ Q (.int (if j > i then j else i)) H) := by
  refine ⟨fun fr M H vs ds d Q il sm dl q k => ?_⟩
  obtain ⟨i, j, rfl⟩ := biD2 (by simp) q
  obtain ⟨v, w, rfl, h1, h2⟩ := datL2 dl
  cases h1
  cases h2
  cases q
  cases nofr il rfl
  exact ⟨i, j, rfl, k _ M H (Xt.refl sm) (.int _)⟩
theorem bi_gcd : BiOk X .gcd rGcd := by
  refine ⟨fun fr M H vs ds d Q il sm dl q k => ?_⟩
  obtain ⟨i, j, rfl⟩ := biD2 (by simp) q
  obtain ⟨v, w, rfl, h1, h2⟩ := datL2 dl
  cases h1
  cases h2
  cases q
  cases nofr il rfl
  exact ⟨i, j, rfl, k _ M H (Xt.refl sm) (.int _)⟩
theorem bi_sum : BiOk X .sum (rSumT X.K) := by
  refine ⟨fun fr M H vs ds d Q il sm dl q k => ?_⟩
  obtain ⟨d1, rfl⟩ := biD1 (by simp) q
  obtain ⟨v, rfl, h⟩ := datL1 dl
  cases h with
  | lst h r =>
    simp only [biD] at q
    obtain ⟨ns, q1, rfl⟩ := Option.map_eq_some_iff.mp q
    cases nofr il rfl
    have e := r.of_ints q1
    subst e
    exact ⟨_, ns, rfl, .inl (SqL.of (sm _ _ h)), k _ M H (Xt.refl sm) (.int _)⟩
  | tup h r =>
    simp only [biD] at q
    obtain ⟨ns, q1, rfl⟩ := Option.map_eq_some_iff.mp q
    cases nofr il rfl
    have e := r.of_ints q1
    subst e
    exact ⟨_, ns, rfl, .inr (SqT.of (sm _ _ h)), k _ M H (Xt.refl sm) (.int _)⟩
  | _ => cases q
theorem bi_list : BiOk X .list (fun xs H Q => ∃ p ys, xs = [.ref p] ∧ (SqL X.K H p ys ∨ SqT X.K H p ys) ∧ ∀ l, H l = none → Q (.ref l) (upd H l (.lst ys))) := by
  refine ⟨fun fr M H vs ds d Q il sm dl q k => ?_⟩
  obtain ⟨d1, rfl⟩ := biD1 (by simp) q
  obtain ⟨v, rfl, h⟩ := datL1 dl
  cases h with
  | lst h r =>
    cases q
    exact ⟨_, _, rfl, .inl (SqL.of (sm _ _ h)), fun l hl => Res.new (fr := fr) sm hl r k⟩
  | tup h r =>
    cases q
    exact ⟨_, _, rfl, .inr (SqT.of (sm _ _ h)), fun l hl => Res.new (fr := fr) sm hl r k⟩
  | _ => cases q
theorem bi_tuple : BiOk X .tuple (fun xs H Q => ∃ p ys, xs = [.ref p] ∧ ((SqL X.K H p ys ∧ ∀ l, H l = none → Q (.ref l) (upd H l (.tup ys))) ∨ (SqT X.K H p ys ∧ Q (.ref p) H))) := by
  refine ⟨fun fr M H vs ds d Q il sm dl q k => ?_⟩
  obtain ⟨d1, rfl⟩ := biD1 (by simp) q
  obtain ⟨v, rfl, h⟩ := datL1 dl
  cases h with
  | lst h r =>
    cases q
    cases nofr il rfl
    exact ⟨_, _, rfl, .inl ⟨SqL.of (sm _ _ h), fun l hl => Res.newT sm hl r k⟩⟩
  | tup h r =>
    cases q
    cases nofr il rfl
    exact ⟨_, _, rfl, .inr ⟨SqT.of (sm _ _ h), k _ M H (Xt.refl sm) (.tup h r)⟩⟩
  | _ => cases q

def biNm : Bi → Str
  | .len => "len" | .abs => "abs" | .int => "int" | .min2 => "min" | .max2 => "max" | .sum => "sum" | .list => "list" | .tuple => "tuple" | .gcd => "gcd"
theorem boot_abs' : bootBuiltins "abs" = some (.builtin "abs") := by decide +kernel
theorem boot_min' : bootBuiltins "min" = some (.builtin "min") := by decide +kernel
theorem boot_max' : bootBuiltins "max" = some (.builtin "max") := by decide +kernel
theorem boot_sum' : bootBuiltins "sum" = some (.builtin "sum") := by decide +kernel
theorem boot_len' : bootBuiltins "len" = some (.builtin "len") := by decide +kernel
theorem boot_int' : bootBuiltins "int" = some (.type "int") := by decide +kernel
theorem boot_list' : bootBuiltins "list" = some (.type "list") := by decide +kernel
theorem boot_tuple' : bootBuiltins "tuple" = some (.type "tuple") := by decide +kernel
theorem boot_isinstance' : bootBuiltins "isinstance" = some (.builtin "isinstance") := by decide +kernel
/-- a built-in by its name -/
theorem s_bi {bi : Bi} {fr : Bool} {p : Pos} (hc : X.calm = true) (hg : Gl X (biNm bi)) (hm : bi ≠ .gcd → X.mg (biNm bi) = none) (hgcd : bi = .gcd → X.mg "gcd" = some (.builtin "math.gcd"))
    (ha : PA X (x :: xs) (tA X.K Φ a)) (he : starEach (x :: xs) X.env = (false, eval x X.env) :: starEach xs X.env) (hpl : (backTo pos (starEach xs X.env)).any (·.1) = false) :
    PE X (.Call (.Name (biNm bi) p) (x :: xs) [] pos) (tE X.K Φ fr (.bi bi a)) := by
  cases bi with
  | len => exact s_biW (pe_callB call_len_seq hg (hm (by decide)) boot_len' ha (by decide) (by decide) he hpl) (bi_len.rd fr)
  | abs => exact s_biW (pe_callB call_abs hg (hm (by decide)) boot_abs' ha (by decide) (by decide) he hpl) (bi_abs.rd fr)
  | int => exact s_biW (pe_callTy call_int1 hg (hm (by decide)) boot_int' ha (by decide) (by decide) he hpl) (bi_int.rd fr)
  | min2 => exact s_biW (pe_callB (call_min2 hc) hg (hm (by decide)) boot_min' ha (by decide) (by decide) he hpl) (bi_min.rd fr)
  | max2 => exact s_biW (pe_callB (call_max2 hc) hg (hm (by decide)) boot_max' ha (by decide) (by decide) he hpl) (bi_max.rd fr)
  | sum => exact s_biW (pe_callB (cr_sumT hc) hg (hm (by decide)) boot_sum' ha (by decide) (by decide) he hpl) (bi_sum.rd fr)
  | list => exact s_biW (pe_callTy call_list_of hg (hm (by decide)) boot_list' ha (by decide) (by decide) he hpl) (bi_list.rd fr)
  | tuple => exact s_biW (pe_callTy call_tuple_of hg (hm (by decide)) boot_tuple' ha (by decide) (by decide) he hpl) (bi_tuple.rd fr)
  | gcd => exact s_biW (pe_callBfun cr_gcd hg (hgcd rfl) ha (by decide) he hpl) (bi_gcd.rd fr)

/-! ### isinstance -/
def tyStr : Ty → String
  | .int => "int" | .bool => "bool" | .str => "str" | .tuple => "tuple" | .list => "list" | .dict => "dict"
def tyNm : Ty → Str
  | .int => "int" | .bool => "bool" | .str => "str" | .tuple => "tuple" | .list => "list" | .dict => "dict"
theorem boot_ty (t : Ty) : bootBuiltins (tyNm t) = some (.type (tyStr t)) := by cases t <;> decide +kernel
theorem kit_all (u t : Ty) : kitB (tyStr u) (tyStr t) = some (decide (u = t) || (decide (u = .bool) && decide (t = .int))) := by cases u <;> cases t <;> decide +kernel
theorem kit_non (t : Ty) : kitB "NoneType" (tyStr t) = some false := by cases t <;> decide +kernel
theorem tyx_t {K : PySem.W.Frag} {H : Hp} {a : Addr} {vs : List V} (h : SqT K H a vs) : TyX K H (.ref a) (.type "tuple") := by
  rcases h with (h | ⟨o, h⟩) | ⟨o, its, n, h, hc, _⟩
  · exact .base (.tup h)
  · exact .fTuple h
  · exact .kTuple h hc
theorem tyx_of {M H : Hp} {v : V} {d : D} {t : Ty} {k : Bool} (sm : Same M H) (h : Dat X.K M v d) (q : isiD d t = some k) : ∃ s, TyX X.K H v (.type s) ∧ kitB s (tyStr t) = some k := by
  cases h with
  | non =>
    cases q
    exact ⟨_, .base .non, kit_non t⟩
  | bl b =>
    cases q
    exact ⟨_, .base (.bl b), kit_all .bool t⟩
  | int b =>
    cases q
    exact ⟨_, .base (.int b), kit_all .int t⟩
  | str b =>
    cases q
    exact ⟨_, .base (.str b), kit_all .str t⟩
  | tup h r =>
    cases q
    exact ⟨_, tyx_t (SqT.of (sm _ _ h)), kit_all .tuple t⟩
  | lst h r =>
    cases q
    exact ⟨_, .base (.lst (sm _ _ h)), kit_all .list t⟩
  | ro h r => cases q
  | dic h r => cases q
  | dpl h r => cases q
  | obj h r => cases q
  | cst h r => cases q
  | ndic h r => cases q
theorem s_isi {t : Ty} {p p2 : Pos} (hg : Gl X "isinstance") (hm : X.mg "isinstance" = none) (hg2 : Gl X (tyNm t)) (hm2 : X.mg (tyNm t) = none) (ha : PE X x (tE X.K Φ false a)) (hs : starEach [x, .Name (tyNm t) p2] X.env = (false, eval x X.env) :: starEach [.Name (tyNm t) p2] X.env) :
    PE X (.Call (.Name "isinstance" p) [x, .Name (tyNm t) p2] [] pos) (tE X.K Φ false (.isi a t)) := by
  have hn : tyNm t ≠ "__name__" := by cases t <;> decide
  have hd : (tyNm t == ("__debug__" : Str)) = false := by cases t <;> decide
  have h2 : PE X (.Name (tyNm t) p2) (tC (.ty (tyStr t))) := pe_bltn hg2 hm2 (boot_ty t) rfl hn hd
  refine pe_imp (pe_callB call_isi hg hm boot_isinstance' (pa_cons ha (pa_cons h2 pa_nil rfl) hs) (by decide) (by decide) hs rfl) fun σ H Q ⟨M, env, d, il, sm, rd0, q, k⟩ => ?_
  simp only [ev] at q
  obtain ⟨dx, q1, q⟩ := Option.bind_eq_some_iff.mp q
  obtain ⟨b, q2, rfl⟩ := Option.map_eq_some_iff.mp q
  refine ⟨M, env, dx, (fun z => nomatch z), sm, rd0, q1, fun v M1 H1 x1 r1 => ?_⟩
  obtain ⟨s, ty, kt⟩ := tyx_of (X := X) x1.s r1 q2
  exact ⟨v, .ty (tyStr t), .type s, .type (tyStr t), b, rfl, .ty _, ty, kit_ty kt, k _ M1 H1 x1 (.bl _)⟩

/-! ### subscripts, slices -/
theorem plainIx {y : Expr} (h : (match y with | .Slice _ _ _ _ => false | _ => true) = true) : PlainIx y := by
  intro o i
  cases y <;> first | rfl | cases h
theorem dat_at {M : Hp} {vs : List V} {ds : List D} {i : Int} {d : D} (r : DatL X.K M vs ds) (h : idxL ds i = some d) : ∃ v, atI vs i = some v ∧ Dat X.K M v d := by
  unfold idxL at h
  obtain ⟨j, h1, h2⟩ := Option.bind_eq_some_iff.mp h
  obtain ⟨v, h3, h4⟩ := r.get h2
  refine ⟨v, ?_, h4⟩
  unfold atI
  rw [r.length, show L2.ixN ds.length i = some j from h1]
  exact h3
open PyProof.Rows in
theorem sub_tail {prog : Program} {w : World} {A : Around} {E : Value → Shared → Prop} {s : Shared} {value slice : Expr} {o i : Value} {T id : String} {Q : Value → Shared → Prop} (hT : s.TypeIs o T)
    (hl : typeLookup (.type T) "__getitem__" = pure (some (.builtin id))) (hs : subscripted slice false o i = operate [o, i] (getItem o i)) (h : wpAny (model prog w) A (getItem o i) Q E s) : wpAny (model prog w) A (subscriptTail value slice o i) Q E s := by
  unfold subscriptTail
  refine wpAny_bind ?_
  rw [getitemInPython_of_ne hT.not_modules]
  refine wpAny_bind (wpAny_specialOf hT hl ?_)
  have fin : wpAny (model prog w) A (subscripted slice false o i) (fun r s₃ => wpAny (model prog w) A (letTemporaryGo value o r >>= fun _ => pure r) Q E s₃) E s := by
    rw [hs]
    exact wpAny_operating (wpAny_mono h (fun r s₃ h₃ => wpAny_bind (wpAny_letTemporaryGo (wpAny_pure h₃))) fun _ _ x => x)
  first
    | exact wpAny_pure (wpAny_bind fin)
    | exact wpAny_bind (wpAny_pure (wpAny_bind fin))
    | exact wpAny_bind fin
/-- d[k] -/
def rIxD : R2 := fun x y H Q => ∃ a v, x = .ref a ∧ DGet H a y (some v) ∧ Q v H
theorem ix_dic (hu : X.A.units + 1 < cLine) : IxR X rIxD := by
  intro value slice pins s σ H x y v u Q I rx ry h hs
  obtain ⟨a, z, rfl, g, q⟩ := h
  cases rx
  exact sub_tail (dict_typeIs I g) PySem.F.slot_dict_getitem.lookup hs (d_getItem hu I g ry fun w' s3 I3 rw' => ⟨z, H, I3, rw', q⟩)
theorem ix_nd (hu : X.A.units + 65 < cLine) : IxR X (rGetN X.prog X.w) := by
  intro value slice pins s σ H x y v u Q I rx ry h hs
  have h' := h
  obtain ⟨a, ws, b, k, b', w, rfl, rfl, ha, hk, hb, hl, q⟩ := h
  cases rx
  obtain ⟨xs, pr, n, hm⟩ := nd_dict I ha hk
  exact sub_tail hm.typeIs PySem.F.slot_dict_getitem.lookup hs (get_nd hu pins s σ H (.ref a) (.ref b) _ _ Q I rfl ry h')
theorem s_idx (hu : X.A.units + 65 < cLine) (ha : PE X x (tE X.K Φ false a)) (hb : PE X y (tE X.K Φ false b)) (hs : PlainIx y) : PE X (.Subscript x y pos) (tE X.K Φ false (.idx a b)) := by
  refine pe_imp (pe_ix (((ix_list.or ix_tup).or (ix_dic (by omega))).or (ix_nd hu)) ha hb hs) fun σ H Q h => two (fun _ => rfl) (fun M H v w dx dy d Q il sm hx hy q k => ?_) h
  cases hx with
  | lst h1 r1 =>
    cases hy with
    | int i =>
      obtain ⟨u, h2, h3⟩ := dat_at r1 q
      exact .inl <| .inl <| .inl ⟨_, _, i, u, rfl, rfl, SqL.of (sm _ _ h1), h2, k u M H (Xt.refl sm) h3⟩
    | _ => cases q
  | tup h1 r1 =>
    cases hy with
    | int i =>
      obtain ⟨u, h2, h3⟩ := dat_at r1 q
      exact .inl <| .inl <| .inr ⟨_, _, i, u, rfl, rfl, SqT.of (sm _ _ h1), h2, k u M H (Xt.refl sm) h3⟩
    | _ => cases q
  | dic h r =>
    obtain ⟨q1, e1, e2⟩ := Option.bind_eq_some_iff.mp (show (keyOf dy).bind (lookD _) = some d from by cases hy <;> exact q)
    obtain ⟨a, o, e, g, g1, _⟩ := dat_get sm (.dic h r) hy e1
    obtain ⟨u, rfl, du⟩ := g1 d e2
    exact .inl <| .inr ⟨a, u, e, g, k u M H (Xt.refl sm) du⟩
  | dpl h r =>
    obtain ⟨q1, e1, e2⟩ := Option.bind_eq_some_iff.mp (show (keyOf dy).bind (lookD _) = some d from by cases hy <;> exact q)
    obtain ⟨a, o, e, g, g1, _⟩ := dat_get sm (.dpl h r) hy e1
    obtain ⟨u, rfl, du⟩ := g1 d e2
    exact .inl <| .inr ⟨a, u, e, g, k u M H (Xt.refl sm) du⟩
  | ndic h r =>
    obtain ⟨q1, e1, e2⟩ := Option.bind_eq_some_iff.mp (show (nkey dy).bind (lookN _) = some d from by cases hy <;> exact q)
    obtain ⟨_, _, ds, rfl⟩ := nkey_of e1
    obtain ⟨b', u, e3, du⟩ := r.look q1 e2
    cases hy with
    | tup h2 r2 => exact .inr ⟨_, _, _, q1, b', u, rfl, rfl, sm _ _ h, keysAt_of sm r, keyAt_of sm (.tup h2 r2) e1, e3, k u M H (Xt.refl sm) du⟩
  | _ => cases hy <;> cases q
theorem s_part (hn : a.isNil = false) (ha : PE X x (tE X.K Φ false a)) : PO X (some x) (tP X.K Φ a) :=
  po_imp (po_some ha) fun σ H Q ⟨M, env, o, sm, rd, q, k⟩ => by
    unfold evP at q
    rw [hn, if_neg (by decide)] at q
    obtain ⟨d, q1, q2⟩ := Option.bind_eq_some_iff.mp q
    refine ⟨M, env, d, (fun z => nomatch z), sm, rd, q1, fun v M1 H1 x1 r1 => ?_⟩
    cases r1 with
    | int i =>
      cases q2
      exact ⟨i, rfl, k M1 H1 x1⟩
    | _ => cases q2
theorem s_part0 : PO X none (tP X.K Φ .nil) := po_imp po_none fun σ H Q ⟨M, env, o, sm, rd, q, k⟩ => by
  cases q
  exact k M H (Xt.refl sm)
theorem cutL_eq {α : Type} (xs : List α) (lo hi : Option Int) : cutL xs lo hi = (xs.drop (HT.sIx xs.length 0 lo)).take (HT.sIx xs.length xs.length hi - HT.sIx xs.length 0 lo) := rfl
theorem dat_cut {M : Hp} {vs : List V} {ds : List D} {lo hi : Option Int} (r : DatL X.K M vs ds) : DatL X.K M (cutV vs lo hi) (cutL ds lo hi) := by
  rw [cutL_eq]
  unfold cutV
  rw [r.length]
  exact (r.drop _).take _
theorem s_sl {fr : Bool} {lo hi : Option Expr} {p2 : Pos} (ha : PE X x (tE X.K Φ false a)) (hb : PO X lo (tP X.K Φ b)) (hc : PO X hi (tP X.K Φ c)) : PE X (.Subscript x (.Slice lo hi none p2) pos) (tE X.K Φ fr (.sl a b c)) := by
  refine pe_imp (pe_slice (sl_list.or sl_tupA) ha hb hc) fun σ H Q ⟨M, env, d, il, sm, rd, q, k⟩ => ?_
  simp only [ev] at q
  obtain ⟨dx, q1, q⟩ := Option.bind_eq_some_iff.mp q
  obtain ⟨l, q2, q⟩ := Option.bind_eq_some_iff.mp q
  obtain ⟨h, q3, q4⟩ := Option.bind_eq_some_iff.mp q
  refine ⟨M, env, dx, (fun z => nomatch z), sm, rd, q1, fun v M1 H1 x1 r1 => ⟨M1, env, l, x1.s, rd.mono x1.m, q2, fun M2 H2 x2 => ⟨M2, env, h, x2.s, rd.mono (x1.m.trans x2.m), q3, fun M3 H3 x3 => ?_⟩⟩⟩
  have x13 := (x1.trans x2).trans x3
  have r3 := Dat.mono (x2.m.trans x3.m) r1
  cases r3 with
  | lst h1 r =>
    cases q4
    exact .inl ⟨_, _, rfl, SqL.of (x3.s _ _ h1), fun p hp => Res.new (fr := fr) x3.s hp (dat_cut r) fun v M' H' x4 r4 => k v M' H' (x13.trans x4) (r4.back x13.h)⟩
  | tup h1 r =>
    cases q4
    cases nofr il rfl
    refine .inr ⟨_, _, rfl, SqT.of (x3.s _ _ h1), fun e => ?_, fun _ p hp => Res.newT x3.s hp (dat_cut r) fun v M' H' x4 r4 => k v M' H' (x13.trans x4) r4⟩
    refine k _ M3 H3 x13 (.tup h1 ?_)
    have z := dat_cut (lo := l) (hi := h) r
    have e2 : ∀ {α : Type} (xs : List α), HT.sIx xs.length 0 l = 0 → HT.sIx xs.length xs.length h = xs.length → cutL xs l h = xs := fun xs h1 h2 => by
      rw [cutL_eq, h1, h2]
      simp
    have e3 : cutV _ l h = _ := e2 _ e.1 e.2
    rw [e3] at z
    exact z
  | _ => cases q4

/-! ### ranges -/
theorem datL_range {M : Hp} (a : Int) : ∀ l : List Nat, DatL X.K M (l.map fun i => V.int (a + (i : Nat))) (l.map fun i => D.int (a + (i : Nat)))
  | [] => .nil
  | _ :: l => .cons (.int _) (datL_range a l)
theorem datL_rg {M : Hp} (a b : Int) : DatL X.K M (rgV a b) (rangeD a b) := datL_range a _
theorem rangeD_length (a b : Int) : (rangeD a b).length = (b - a).toNat := by simp [rangeD]
theorem rgOk_of {a : Int} (h : rgOk a = true) : -1000000000 ≤ a ∧ a ≤ 1000000000 := by
  unfold rgOk at h
  simpa using h
theorem prg_imp {t t' : L2.St → Hp → (Int → Int → Hp → Prop) → Prop} (h : PRg X x t) (i : ∀ σ H Q, t' σ H Q → t σ H Q) : PRg X x t' := fun pins s σ H Q I q => h pins s σ H Q I (i σ H Q q)
/-- a range's reading -/
def tRg (K : PySem.W.Frag) (Φ : Fns) (r : E) : L2.St → Hp → (Int → Int → Hp → Prop) → Prop := fun σ H Q => ∃ M env d, Same M H ∧ Rd0 K M σ env ∧ ev Φ r env = some d ∧ ∀ a b M' H', Xt M M' H H' → d = .lst (rangeD a b) → rgOk a = true → rgOk b = true → Q a b H'
theorem s_prg1 {p : Pos} (hg : Gl X "range") (hm : X.mg "range" = none) (ha : PE X x (tE X.K Φ false a)) (hs : starEach [x] X.env = (false, eval x X.env) :: starEach [] X.env) : PRg X (.Call (.Name "range" p) [x] [] pos) (tRg X.K Φ (.rng1 a)) :=
  prg_imp (prg_1 hg hm ha hs) fun σ H Q ⟨M, env, d, sm, rd, q, k⟩ => by
    simp only [ev] at q
    obtain ⟨dx, q1, q⟩ := Option.bind_eq_some_iff.mp q
    refine ⟨M, env, dx, (fun z => nomatch z), sm, rd, q1, fun v M1 H1 x1 r1 => ?_⟩
    cases r1 with
    | int i =>
      simp only [] at q
      split at q
      · rename_i h
        cases q
        exact ⟨i, rfl, k 0 i M1 H1 x1 rfl (by decide) h⟩
      · cases q
    | _ => cases q
theorem s_prg2 {p : Pos} (hg : Gl X "range") (hm : X.mg "range" = none) (ha : PE X x (tE X.K Φ false a)) (hb : PE X y (tE X.K Φ false b)) (hs : starEach [x, y] X.env = (false, eval x X.env) :: starEach [y] X.env)
    (hs2 : starEach [y] X.env = (false, eval y X.env) :: starEach [] X.env) (hpl : (backTo pos (starEach [y] X.env)).any (·.1) = false) : PRg X (.Call (.Name "range" p) [x, y] [] pos) (tRg X.K Φ (.rng2 a b)) :=
  prg_imp (prg_2 hg hm ha hb hs hs2 hpl) fun σ H Q ⟨M, env, d, sm, rd, q, k⟩ => by
    simp only [ev] at q
    obtain ⟨dx, q1, q⟩ := Option.bind_eq_some_iff.mp q
    obtain ⟨dy, q2, q⟩ := Option.bind_eq_some_iff.mp q
    refine ⟨M, env, dx, (fun z => nomatch z), sm, rd, q1, fun v M1 H1 x1 r1 => ⟨M1, env, dy, (fun z => nomatch z), x1.s, rd.mono x1.m, q2, fun w M2 H2 x2 r2 => ?_⟩⟩
    cases r1 with
    | int i =>
      cases r2 with
      | int j =>
        simp only [] at q
        split at q
        · rename_i h
          cases q
          have h' := Bool.and_eq_true_iff.mp h
          exact ⟨i, j, rfl, rfl, k i j M2 H2 (x1.trans x2) rfl h'.1 h'.2⟩
        · cases q
      | _ => cases q
    | _ => cases q
theorem rgOk_all {a b : Int} (h1 : rgOk a = true) (h2 : rgOk b = true) (hl : (rangeD a b).length ≤ LIM) : RgOk a b := by
  have h1 := rgOk_of h1
  have h2 := rgOk_of h2
  rw [rangeD_length] at hl
  have e : LIM = 1000000 := rfl
  refine ⟨by omega, by omega, by omega, by omega, by omega⟩
theorem s_lrng {fr : Bool} {p : Pos} (hc : X.calm = true) (hg : Gl X "list") (hm : X.mg "list" = none) (he : PRg X x (tRg X.K Φ a)) (hs : starEach [x] X.env = (false, eval x X.env) :: starEach [] X.env) : PE X (.Call (.Name "list" p) [x] [] pos) (tE X.K Φ fr (.lrng a)) :=
  pe_imp (pe_listRg hc hg hm he hs) fun σ H Q ⟨M, env, d, il, sm, rd, q, k⟩ => by
    simp only [ev] at q
    obtain ⟨dx, q1, q⟩ := Option.bind_eq_some_iff.mp q
    refine ⟨M, env, dx, sm, rd, q1, fun a b M1 H1 x1 e h1 h2 => ?_⟩
    subst e
    simp only [limL] at q
    split at q
    · rename_i hl
      cases q
      exact ⟨rgOk_all h1 h2 hl, fun p hp => Res.new (fr := fr) x1.s hp (datL_rg a b) fun v M' H' x4 r4 => k v M' H' (x1.trans x4) (r4.back x1.h)⟩
    · cases q
theorem s_trng {p : Pos} (hc : X.calm = true) (hg : Gl X "tuple") (hm : X.mg "tuple" = none) (he : PRg X x (tRg X.K Φ a)) (hs : starEach [x] X.env = (false, eval x X.env) :: starEach [] X.env) : PE X (.Call (.Name "tuple" p) [x] [] pos) (tE X.K Φ false (.trng a)) :=
  pe_imp (pe_tupRg hc hg hm he hs) fun σ H Q ⟨M, env, d, il, sm, rd, q, k⟩ => by
    simp only [ev] at q
    obtain ⟨dx, q1, q⟩ := Option.bind_eq_some_iff.mp q
    refine ⟨M, env, dx, sm, rd, q1, fun a b M1 H1 x1 e h1 h2 => ?_⟩
    subst e
    simp only [] at q
    split at q
    · rename_i hl
      cases q
      exact ⟨rgOk_all h1 h2 hl, fun p hp => Res.newT x1.s hp (datL_rg a b) fun v M' H' x4 r4 => k v M' H' (x1.trans x4) r4⟩
    · cases q
end
end PyD

/-! zip over lists and tuples in any mix, two and three. -/
namespace PyD
open PySem PySem.Spec PyProof.Rows L2 RZ
/-- a list (false), a tuple (true) -/
def SqB (K : PySem.W.Frag) (H : Hp) : Bool → Addr → List V → Prop
  | false, a, xs => SqL K H a xs
  | true, a, xs => SqT K H a xs
def ItAt (h : Heap) : Bool → Addr → Addr → Nat → Prop
  | false, it, a, i => h.IsListIter it a i
  | true, it, a, i => h.IsTupleIter it a i
def IsSq (h : Heap) : Bool → Addr → Array Value → Prop
  | false, a, its => h.IsList a its
  | true, a, its => h.IsTuple a its
def itObj : Bool → Addr → Obj
  | false, a => { cls := .type "list_iterator", data := .fields #[.ref a, .int 0 0] }
  | true, a => { cls := .type "tuple_iterator", data := .fields #[.ref a, .int 0 0] }
section
variable {h h' : Heap} {b : Bool} {it a : Addr} {i : Nat} {its : Array Value}
theorem itAt_obj (x : ItAt h b it a i) : ∃ o, h.get? it = some o ∧ ∀ v, o.data ≠ .cell v := by
  cases b with
  | false => obtain ⟨o, e, c, d⟩ := x; exact ⟨o, e, fun v z => by rw [d] at z; cases z⟩
  | true => obtain ⟨o, e, c, d⟩ := x; exact ⟨o, e, fun v z => by rw [d] at z; cases z⟩
theorem itAt_keep (x : ItAt h b it a i) (k : ∀ o, h.get? it = some o → h'.get? it = some o) : ItAt h' b it a i := by
  cases b with
  | false => exact Heap.IsListIter.at x k
  | true => exact Heap.IsTupleIter.at x k
theorem itAt_new (e : h.get? it = some (itObj b a)) : ItAt h b it a 0 := by
  cases b with
  | false => exact ⟨_, e, rfl, rfl⟩
  | true => exact ⟨_, e, rfl, rfl⟩
theorem isSq_lt (x : IsSq h b a its) : a < h.objs.size := by
  cases b with
  | false => obtain ⟨o, e, _⟩ := x; exact Heap.lt_size e
  | true => obtain ⟨o, e, _⟩ := x; exact Heap.lt_size e
theorem begins_sq (b : Bool) (a : Addr) (its : Array Value) : Begins (.ref a) (itObj b a) fun h => IsSq h b a its := by
  cases b with
  | false => exact begins_list a its
  | true => exact begins_tuple a its
theorem draws_sq {prog : Program} {w : World} {A : Around} (hh : A.handled = none) (it a : Addr) (hne : a ≠ it) (items : Array Value) : Draws prog w A it [it, a] items.size (fun i v => items[i]? = some v) (fun i h => ItAt h b it a i ∧ IsSq h b a items) := by
  cases b with
  | false => exact Draws.list hh it a hne items
  | true => exact Draws.tuple hh it a hne items
end
section
variable {X : Cx} {pins : List (Addr × Obj)} {σ : L2.St} {H : Hp} {s : Shared} {b : Bool} {a : Addr} {xs ys : List V}
theorem sqB_inv (I : Inv X pins σ H s) (h : SqB X.K H b a xs) : ∃ its : List Value, Vals xs its ∧ IsSq s.heap b a its.toArray := by
  cases b with
  | false => obtain ⟨its, rv, p, _⟩ := I.list h; exact ⟨its, rv, p.isList⟩
  | true => obtain ⟨its, rv, p, _⟩ := I.tuple h; exact ⟨its, rv, p⟩
theorem sqB_inj (I : Inv X pins σ H s) (h : SqB X.K H b a xs) (h' : SqB X.K H b a ys) : xs = ys := by
  cases b with
  | false => exact I.list_inj h h'
  | true => exact I.tuple_inj h h'
theorem vals_at {its : List Value} {i : Nat} {u : Value} (r : Vals xs its) (e : its.toArray[i]? = some u) : ∃ v, xs[i]? = some v ∧ RelV v u := by
  have hl := r.length
  have e2 : its[i]? = some u := by simpa using e
  have hi := (List.getElem?_eq_some_iff.mp e2).1
  obtain ⟨u', hu, ru⟩ := r.get (x := xs[i]'(by omega)) (i := i) (List.getElem?_eq_getElem (by omega))
  rw [e2] at hu
  cases hu
  exact ⟨_, List.getElem?_eq_getElem (by omega), ru⟩
end
theorem vals3 {x y z : V} {us : List Value} (r : Vals [x, y, z] us) : ∃ u v w, us = [u, v, w] ∧ RelV x u ∧ RelV y v ∧ RelV z w := by
  cases r with
  | cons r1 r =>
    cases r with
    | cons r2 r =>
      cases r with
      | cons r3 r =>
        cases r
        exact ⟨_, _, _, rfl, r1, r2, r3⟩
/-- zip of 2, the items in new tuples -/
def Itm2 (K : PySem.W.Frag) (b1 b2 : Bool) (a1 a2 : Addr) : It :=
  ⟨fun i H => ∃ (xs1 xs2 : List V), SqB K H b1 a1 xs1 ∧ i < xs1.length ∧ SqB K H b2 a2 xs2 ∧ i < xs2.length,
    fun i H v H' => ∃ T x1 x2, v = .ref T ∧ H T = none ∧ H' = upd H T (.tup [x1, x2]) ∧ (∀ xs, SqB K H b1 a1 xs → xs[i]? = some x1) ∧ (∀ xs, SqB K H b2 a2 xs → xs[i]? = some x2),
    fun i H => ∃ (xs1 xs2 : List V), SqB K H b1 a1 xs1 ∧ i ≤ xs1.length ∧ SqB K H b2 a2 xs2 ∧ i ≤ xs2.length ∧ (i = xs1.length ∨ i = xs2.length)⟩
def Tnm2 (b1 b2 : Bool) (a1 a2 z TI TO i1 i2 : Addr) : Nat → Heap → Prop := fun i h =>
  IsZip h z TI TO .none ∧ IsTupOf2 h TI (.ref i1) (.ref i2) ∧ (∃ y1 y2, IsTupOf2 h TO y1 y2) ∧ ItAt h b1 i1 a1 i ∧ ItAt h b2 i2 a2 i
theorem turn_m2 {P : Program} {w : World} {K : PySem.W.Frag} {elts : List Expr} {kk : Nat} {tpos : Pos} {b1 b2 : Bool} {a1 a2 z TI TO i1 i2 : Addr} (D : ZipSep2 z TI TO i1 i2 [i1, a1] [i2, a2]) (ne1 : a1 ≠ i1) (ne2 : a2 ≠ i2) :
    Turn P w K (.Tuple elts kk tpos) (Itm2 K b1 b2 a1 a2) [z, TI, TO, i1, i2] z (Tnm2 b1 b2 a1 a2 z TI TO i1 i2) where
  mem := by simp
  obj := fun i h st c hc => by
    obtain ⟨hz, hTI, ⟨y1, y2, hTO⟩, h1, h2⟩ := st
    have e' : c = z ∨ c = TI ∨ c = TO ∨ c = i1 ∨ c = i2 := by simpa using hc
    rcases e' with q | q | q | q | q
    · rw [q]; exact ⟨_, hz, fun v q => nomatch q⟩
    · rw [q]; exact ⟨_, hTI, fun v q => nomatch q⟩
    · rw [q]; exact ⟨_, hTO, fun v q => nomatch q⟩
    · rw [q]; exact itAt_obj h1
    · rw [q]; exact itAt_obj h2
  keep := fun i h h' st k => by
    obtain ⟨hz, hTI, ⟨y1, y2, hTO⟩, h1, h2⟩ := st
    exact ⟨k z (by simp) _ hz, k TI (by simp) _ hTI, ⟨y1, y2, k TO (by simp) _ hTO⟩, itAt_keep h1 fun o q => k i1 (by simp) o q, itAt_keep h2 fun o q => k i2 (by simp) o q⟩
  item := by
    intro X hP hw hK hc i pins s σ H E I hf st hg
    subst hP hw hK
    obtain ⟨hz, hTI, ⟨y1, y2, hTO⟩, h1, h2⟩ := st
    obtain ⟨xs1, xs2, hq1, hl1, hq2, hl2⟩ := hg
    obtain ⟨its1, rv1, p1⟩ := sqB_inv I hq1
    have hs1 : i < its1.toArray.size := by rw [List.size_toArray, ← rv1.length]; exact hl1
    obtain ⟨its2, rv2, p2⟩ := sqB_inv I hq2
    have hs2 : i < its2.toArray.size := by rw [List.size_toArray, ← rv2.length]; exact hl2
    have hh := I.ok.hd hc
    have hzl : z < s.heap.objs.size := Heap.lt_size hz
    refine wpAny_pyNext_zipD2_item D (draws_sq (b := b1) (A := X.A.in1) hh i1 a1 ne1 its1.toArray) (draws_sq (b := b2) (A := X.A.in1) hh i2 a2 ne2 its2.toArray) hz hTI hTO ⟨h1, p1⟩ ⟨h2, p2⟩ hs1 hs2 fun u1 u2 h' tk e1 e2 z' TO' t1 t2 hT hsz hk => ?_
    refine ⟨_, rfl, wpAny_letOwnedTupleGo_zip (s := { s with heap := h', toks := tk }) z' fun h'' z'' sb => ?_⟩
    have hT2 : h''.get? s.heap.objs.size = some { cls := .type "tuple", data := .seq #[u1, u2] } := (sb.2 _ (Nat.ne_of_gt hzl)).trans hT
    obtain ⟨v1, r1, w1⟩ := vals_at rv1 e1
    obtain ⟨v2, r2, w2⟩ := vals_at rv2 e2
    have new : ObjOk X.prog X.w (upd H s.heap.objs.size (.tup [v1, v2])) h'' s.heap.objs.size (.tup [v1, v2]) :=
      ⟨by show 2 ≤ sizeLine; decide, [u1, u2], (.cons w1 (.cons w2 .nil)), ⟨_, hT2, rfl, _, rfl⟩⟩
    have I1 : Inv X pins σ (upd H s.heap.objs.size (.tup [v1, v2])) { s with heap := h'', toks := tk } :=
      I.turnedNew (t' := tk) (ch := [z, TI, TO, i1, i2]) (fun c o hb q => (sb.2 c (fun q' => hb (by simp [q']))).trans (hk c o (fun q' => hb (by simp [q'])) (fun q' => hb (by simp [q'])) (fun q' => hb (by simp [q'])) (fun q' => hb (by simp [q'])) q)) hf (Nat.le_refl _) new
    refine ⟨.ref s.heap.objs.size, _, I1, rfl, ⟨_, v1, v2, rfl, I.hok.fresh (Nat.le_refl _), rfl, fun l hl => by rw [sqB_inj I hl hq1]; exact r1, fun l hl => by rw [sqB_inj I hl hq2]; exact r2⟩, ⟨z'', ?_, ⟨u1, u2, ?_⟩, itAt_keep t1.1 fun o q => (sb.2 _ (fun e => D.zi1 e.symm)).trans q, itAt_keep t2.1 fun o q => (sb.2 _ (fun e => D.zi2 e.symm)).trans q⟩, fun c hcm => ?_⟩
    · exact (sb.2 _ D.TIz).trans (hk _ _ D.TIz D.TITO D.TIi1 D.TIi2 hTI)
    · exact (sb.2 _ D.TOz).trans TO'
    · have hlt : c < s.heap.objs.size := by
        have e' : c = z ∨ c = TI ∨ c = TO ∨ c = i1 ∨ c = i2 := by simpa using hcm
        rcases e' with q | q | q | q | q
        · rw [q]; exact hzl
        · rw [q]; exact Heap.lt_size hTI
        · rw [q]; exact Heap.lt_size hTO
        · rw [q]; obtain ⟨_, e, _⟩ := itAt_obj h1; exact Heap.lt_size e
        · rw [q]; obtain ⟨_, e, _⟩ := itAt_obj h2; exact Heap.lt_size e
      rw [upd_ne (Nat.ne_of_lt hlt)]
      exact (hf c hcm).1
  done := by
    intro X hP hw hK hc i pins s σ H E I hf st hg
    subst hP hw hK
    obtain ⟨hz, hTI, ⟨y1, y2, hTO⟩, h1, h2⟩ := st
    obtain ⟨xs1, xs2, hq1, hl1, hq2, hl2, hend⟩ := hg
    obtain ⟨its1, rv1, p1⟩ := sqB_inv I hq1
    have hs1 : xs1.length = its1.toArray.size := by rw [List.size_toArray, ← rv1.length]
    obtain ⟨its2, rv2, p2⟩ := sqB_inv I hq2
    have hs2 : xs2.length = its2.toArray.size := by rw [List.size_toArray, ← rv2.length]
    have hh := I.ok.hd hc
    exact wpAny_pyNext_zipD2_end D (draws_sq (b := b1) (A := X.A.in1) hh i1 a1 ne1 its1.toArray) (draws_sq (b := b2) (A := X.A.in1) hh i2 a2 ne2 its2.toArray) hz hTI hTO ⟨h1, p1⟩ ⟨h2, p2⟩ (by omega) (by omega) (by omega) fun h' tk hk => ⟨rfl, I.turnedL (t' := tk) (ch := [z, TI, TO, i1, i2]) (fun c o hb q =>
      hk c o (fun q' => hb (by simp [q'])) (fun q' => hb (by simp [q'])) (fun q' => hb (by simp [q'])) (fun q' => hb (by simp [q'])) q) hf⟩
  self := fun A i s Q E st h => wpAny_pyIter_zip st.1 h
def iZipM2 (K : PySem.W.Frag) (ta : TA) : TI := fun σ H R => ta σ H fun vs H1 => ∃ b1 b2 a1 a2 xs1 xs2, vs = [.ref a1, .ref a2] ∧ SqB K H1 b1 a1 xs1 ∧ SqB K H1 b2 a2 xs2 ∧ R (Itm2 K b1 b2 a1 a2) H1
theorem pi_zipM2 {X : Cx} {e e2 : Expr} {ta : TA} {p pos tpos : Pos} {elts : List Expr} {kk : Nat} (hg : Gl X "zip") (hm : X.mg "zip" = none) (ha : PA X [e, e2] ta)
    (hs : starEach [e, e2] X.env = (false, eval e X.env) :: starEach [e2] X.env) (hpl : (backTo pos (starEach [e2] X.env)).any (·.1) = false) :
    PI X (.Tuple elts kk tpos) (.Call (.Name "zip" p) [e, e2] [] pos) (iZipM2 X.K ta) := by
  refine ⟨fun pins s σ H R I h => ?_⟩
  refine Call_ (ld_blt I hg hm PyProof.Rows.boot_zip (PyProof.Rows.callWith_type1 (thn (ha.run pos pins s σ H _ I h) fun us s1 ⟨vs, H1, I1, r1, q1⟩ => ?_) hs hpl))
  obtain ⟨b1, b2, a1, a2, xs1, xs2, ex, hq1, hq2, q⟩ := q1
  subst ex
  obtain ⟨u1, u2, rfl, r1, r2⟩ := vals2 r1
  cases r1
  cases r2
  have freshN : ∀ c, c ∈ [s1.heap.objs.size + 4, s1.heap.objs.size + 2, s1.heap.objs.size + 3, s1.heap.objs.size, s1.heap.objs.size + 1] → FpOk X pins H1 c := fun c hcm => by
    have e' : c = s1.heap.objs.size + 4 ∨ c = s1.heap.objs.size + 2 ∨ c = s1.heap.objs.size + 3 ∨ c = s1.heap.objs.size ∨ c = s1.heap.objs.size + 1 := by simpa using hcm
    have hle : s1.heap.objs.size ≤ c := by
      rcases e' with z | z | z | z | z <;> rw [z] <;> first | exact Nat.le_add_right _ _ | exact Nat.le_refl _
    exact I1.fpOk hle (I1.hok.fresh hle)
  obtain ⟨its1, rv1, p1⟩ := sqB_inv I1 hq1
  obtain ⟨its2, rv2, p2⟩ := sqB_inv I1 hq2
  refine zip_begins2 (begins_sq b1 a1 its1.toArray) (begins_sq b2 a2 its2.toArray) p1 p2 fun h' hz hTI hTO g1 g2 hsz hk => wpAny_pyIter_zip hz ?_
  have I2 : Inv X pins σ H1 { s1 with heap := h' } := I1.kept (t' := s1.toks) hk
  exact ⟨s1.heap.objs.size + 4, [s1.heap.objs.size + 4, s1.heap.objs.size + 2, s1.heap.objs.size + 3, s1.heap.objs.size, s1.heap.objs.size + 1], _, _, H1, rfl, I2, turn_m2 (zip_sep2 (fun c hc => by rw [List.mem_singleton.mp hc]; exact isSq_lt p1) (fun c hc => by rw [List.mem_singleton.mp hc]; exact isSq_lt p2)) (Nat.ne_of_lt (Nat.lt_of_lt_of_le (isSq_lt p1) (by omega))) (Nat.ne_of_lt (Nat.lt_of_lt_of_le (isSq_lt p2) (by omega))), ⟨hz, hTI, ⟨_, _, hTO⟩, itAt_new g1, itAt_new g2⟩, freshN, q⟩

/-- zip of 3, the items in new tuples -/
def Itm3 (K : PySem.W.Frag) (b1 b2 b3 : Bool) (a1 a2 a3 : Addr) : It :=
  ⟨fun i H => ∃ (xs1 xs2 xs3 : List V), SqB K H b1 a1 xs1 ∧ i < xs1.length ∧ SqB K H b2 a2 xs2 ∧ i < xs2.length ∧ SqB K H b3 a3 xs3 ∧ i < xs3.length,
    fun i H v H' => ∃ T x1 x2 x3, v = .ref T ∧ H T = none ∧ H' = upd H T (.tup [x1, x2, x3]) ∧ (∀ xs, SqB K H b1 a1 xs → xs[i]? = some x1) ∧ (∀ xs, SqB K H b2 a2 xs → xs[i]? = some x2) ∧ (∀ xs, SqB K H b3 a3 xs → xs[i]? = some x3),
    fun i H => ∃ (xs1 xs2 xs3 : List V), SqB K H b1 a1 xs1 ∧ i ≤ xs1.length ∧ SqB K H b2 a2 xs2 ∧ i ≤ xs2.length ∧ SqB K H b3 a3 xs3 ∧ i ≤ xs3.length ∧ (i = xs1.length ∨ i = xs2.length ∨ i = xs3.length)⟩
def Tnm3 (b1 b2 b3 : Bool) (a1 a2 a3 z TI TO i1 i2 i3 : Addr) : Nat → Heap → Prop := fun i h =>
  IsZip h z TI TO .none ∧ IsTupOf3 h TI (.ref i1) (.ref i2) (.ref i3) ∧ (∃ y1 y2 y3, IsTupOf3 h TO y1 y2 y3) ∧ ItAt h b1 i1 a1 i ∧ ItAt h b2 i2 a2 i ∧ ItAt h b3 i3 a3 i
theorem turn_m3 {P : Program} {w : World} {K : PySem.W.Frag} {elts : List Expr} {kk : Nat} {tpos : Pos} {b1 b2 b3 : Bool} {a1 a2 a3 z TI TO i1 i2 i3 : Addr} (D : ZipSep3 z TI TO i1 i2 i3 [i1, a1] [i2, a2] [i3, a3]) (ne1 : a1 ≠ i1) (ne2 : a2 ≠ i2) (ne3 : a3 ≠ i3) :
    Turn P w K (.Tuple elts kk tpos) (Itm3 K b1 b2 b3 a1 a2 a3) [z, TI, TO, i1, i2, i3] z (Tnm3 b1 b2 b3 a1 a2 a3 z TI TO i1 i2 i3) where
  mem := by simp
  obj := fun i h st c hc => by
    obtain ⟨hz, hTI, ⟨y1, y2, y3, hTO⟩, h1, h2, h3⟩ := st
    have e' : c = z ∨ c = TI ∨ c = TO ∨ c = i1 ∨ c = i2 ∨ c = i3 := by simpa using hc
    rcases e' with q | q | q | q | q | q
    · rw [q]; exact ⟨_, hz, fun v q => nomatch q⟩
    · rw [q]; exact ⟨_, hTI, fun v q => nomatch q⟩
    · rw [q]; exact ⟨_, hTO, fun v q => nomatch q⟩
    · rw [q]; exact itAt_obj h1
    · rw [q]; exact itAt_obj h2
    · rw [q]; exact itAt_obj h3
  keep := fun i h h' st k => by
    obtain ⟨hz, hTI, ⟨y1, y2, y3, hTO⟩, h1, h2, h3⟩ := st
    exact ⟨k z (by simp) _ hz, k TI (by simp) _ hTI, ⟨y1, y2, y3, k TO (by simp) _ hTO⟩, itAt_keep h1 fun o q => k i1 (by simp) o q, itAt_keep h2 fun o q => k i2 (by simp) o q, itAt_keep h3 fun o q => k i3 (by simp) o q⟩
  item := by
    intro X hP hw hK hc i pins s σ H E I hf st hg
    subst hP hw hK
    obtain ⟨hz, hTI, ⟨y1, y2, y3, hTO⟩, h1, h2, h3⟩ := st
    obtain ⟨xs1, xs2, xs3, hq1, hl1, hq2, hl2, hq3, hl3⟩ := hg
    obtain ⟨its1, rv1, p1⟩ := sqB_inv I hq1
    have hs1 : i < its1.toArray.size := by rw [List.size_toArray, ← rv1.length]; exact hl1
    obtain ⟨its2, rv2, p2⟩ := sqB_inv I hq2
    have hs2 : i < its2.toArray.size := by rw [List.size_toArray, ← rv2.length]; exact hl2
    obtain ⟨its3, rv3, p3⟩ := sqB_inv I hq3
    have hs3 : i < its3.toArray.size := by rw [List.size_toArray, ← rv3.length]; exact hl3
    have hh := I.ok.hd hc
    have hzl : z < s.heap.objs.size := Heap.lt_size hz
    refine wpAny_pyNext_zipD3_item D (draws_sq (b := b1) (A := X.A.in1) hh i1 a1 ne1 its1.toArray) (draws_sq (b := b2) (A := X.A.in1) hh i2 a2 ne2 its2.toArray) (draws_sq (b := b3) (A := X.A.in1) hh i3 a3 ne3 its3.toArray) hz hTI hTO ⟨h1, p1⟩ ⟨h2, p2⟩ ⟨h3, p3⟩ hs1 hs2 hs3 fun u1 u2 u3 h' tk e1 e2 e3 z' TO' t1 t2 t3 hT hsz hk => ?_
    refine ⟨_, rfl, wpAny_letOwnedTupleGo_zip (s := { s with heap := h', toks := tk }) z' fun h'' z'' sb => ?_⟩
    have hT2 : h''.get? s.heap.objs.size = some { cls := .type "tuple", data := .seq #[u1, u2, u3] } := (sb.2 _ (Nat.ne_of_gt hzl)).trans hT
    obtain ⟨v1, r1, w1⟩ := vals_at rv1 e1
    obtain ⟨v2, r2, w2⟩ := vals_at rv2 e2
    obtain ⟨v3, r3, w3⟩ := vals_at rv3 e3
    have new : ObjOk X.prog X.w (upd H s.heap.objs.size (.tup [v1, v2, v3])) h'' s.heap.objs.size (.tup [v1, v2, v3]) :=
      ⟨by show 3 ≤ sizeLine; decide, [u1, u2, u3], (.cons w1 (.cons w2 (.cons w3 .nil))), ⟨_, hT2, rfl, _, rfl⟩⟩
    have I1 : Inv X pins σ (upd H s.heap.objs.size (.tup [v1, v2, v3])) { s with heap := h'', toks := tk } :=
      I.turnedNew (t' := tk) (ch := [z, TI, TO, i1, i2, i3]) (fun c o hb q => (sb.2 c (fun q' => hb (by simp [q']))).trans (hk c o (fun q' => hb (by simp [q'])) (fun q' => hb (by simp [q'])) (fun q' => hb (by simp [q'])) (fun q' => hb (by simp [q'])) (fun q' => hb (by simp [q'])) q)) hf (Nat.le_refl _) new
    refine ⟨.ref s.heap.objs.size, _, I1, rfl, ⟨_, v1, v2, v3, rfl, I.hok.fresh (Nat.le_refl _), rfl, fun l hl => by rw [sqB_inj I hl hq1]; exact r1, fun l hl => by rw [sqB_inj I hl hq2]; exact r2, fun l hl => by rw [sqB_inj I hl hq3]; exact r3⟩, ⟨z'', ?_, ⟨u1, u2, u3, ?_⟩, itAt_keep t1.1 fun o q => (sb.2 _ (fun e => D.zi1 e.symm)).trans q, itAt_keep t2.1 fun o q => (sb.2 _ (fun e => D.zi2 e.symm)).trans q, itAt_keep t3.1 fun o q => (sb.2 _ (fun e => D.zi3 e.symm)).trans q⟩, fun c hcm => ?_⟩
    · exact (sb.2 _ D.TIz).trans (hk _ _ D.TIz D.TITO D.TIi1 D.TIi2 D.TIi3 hTI)
    · exact (sb.2 _ D.TOz).trans TO'
    · have hlt : c < s.heap.objs.size := by
        have e' : c = z ∨ c = TI ∨ c = TO ∨ c = i1 ∨ c = i2 ∨ c = i3 := by simpa using hcm
        rcases e' with q | q | q | q | q | q
        · rw [q]; exact hzl
        · rw [q]; exact Heap.lt_size hTI
        · rw [q]; exact Heap.lt_size hTO
        · rw [q]; obtain ⟨_, e, _⟩ := itAt_obj h1; exact Heap.lt_size e
        · rw [q]; obtain ⟨_, e, _⟩ := itAt_obj h2; exact Heap.lt_size e
        · rw [q]; obtain ⟨_, e, _⟩ := itAt_obj h3; exact Heap.lt_size e
      rw [upd_ne (Nat.ne_of_lt hlt)]
      exact (hf c hcm).1
  done := by
    intro X hP hw hK hc i pins s σ H E I hf st hg
    subst hP hw hK
    obtain ⟨hz, hTI, ⟨y1, y2, y3, hTO⟩, h1, h2, h3⟩ := st
    obtain ⟨xs1, xs2, xs3, hq1, hl1, hq2, hl2, hq3, hl3, hend⟩ := hg
    obtain ⟨its1, rv1, p1⟩ := sqB_inv I hq1
    have hs1 : xs1.length = its1.toArray.size := by rw [List.size_toArray, ← rv1.length]
    obtain ⟨its2, rv2, p2⟩ := sqB_inv I hq2
    have hs2 : xs2.length = its2.toArray.size := by rw [List.size_toArray, ← rv2.length]
    obtain ⟨its3, rv3, p3⟩ := sqB_inv I hq3
    have hs3 : xs3.length = its3.toArray.size := by rw [List.size_toArray, ← rv3.length]
    have hh := I.ok.hd hc
    exact wpAny_pyNext_zipD3_end D (draws_sq (b := b1) (A := X.A.in1) hh i1 a1 ne1 its1.toArray) (draws_sq (b := b2) (A := X.A.in1) hh i2 a2 ne2 its2.toArray) (draws_sq (b := b3) (A := X.A.in1) hh i3 a3 ne3 its3.toArray) hz hTI hTO ⟨h1, p1⟩ ⟨h2, p2⟩ ⟨h3, p3⟩ (by omega) (by omega) (by omega) (by omega) fun h' tk hk => ⟨rfl, I.turnedL (t' := tk) (ch := [z, TI, TO, i1, i2, i3]) (fun c o hb q =>
      hk c o (fun q' => hb (by simp [q'])) (fun q' => hb (by simp [q'])) (fun q' => hb (by simp [q'])) (fun q' => hb (by simp [q'])) (fun q' => hb (by simp [q'])) q) hf⟩
  self := fun A i s Q E st h => wpAny_pyIter_zip st.1 h
def iZipM3 (K : PySem.W.Frag) (ta : TA) : TI := fun σ H R => ta σ H fun vs H1 => ∃ b1 b2 b3 a1 a2 a3 xs1 xs2 xs3, vs = [.ref a1, .ref a2, .ref a3] ∧ SqB K H1 b1 a1 xs1 ∧ SqB K H1 b2 a2 xs2 ∧ SqB K H1 b3 a3 xs3 ∧ R (Itm3 K b1 b2 b3 a1 a2 a3) H1
theorem pi_zipM3 {X : Cx} {e e2 e3 : Expr} {ta : TA} {p pos tpos : Pos} {elts : List Expr} {kk : Nat} (hg : Gl X "zip") (hm : X.mg "zip" = none) (ha : PA X [e, e2, e3] ta)
    (hs : starEach [e, e2, e3] X.env = (false, eval e X.env) :: starEach [e2, e3] X.env) (hpl : (backTo pos (starEach [e2, e3] X.env)).any (·.1) = false) :
    PI X (.Tuple elts kk tpos) (.Call (.Name "zip" p) [e, e2, e3] [] pos) (iZipM3 X.K ta) := by
  refine ⟨fun pins s σ H R I h => ?_⟩
  refine Call_ (ld_blt I hg hm PyProof.Rows.boot_zip (PyProof.Rows.callWith_type1 (thn (ha.run pos pins s σ H _ I h) fun us s1 ⟨vs, H1, I1, r1, q1⟩ => ?_) hs hpl))
  obtain ⟨b1, b2, b3, a1, a2, a3, xs1, xs2, xs3, ex, hq1, hq2, hq3, q⟩ := q1
  subst ex
  obtain ⟨u1, u2, u3, rfl, r1, r2, r3⟩ := vals3 r1
  cases r1
  cases r2
  cases r3
  have freshN : ∀ c, c ∈ [s1.heap.objs.size + 5, s1.heap.objs.size + 3, s1.heap.objs.size + 4, s1.heap.objs.size, s1.heap.objs.size + 1, s1.heap.objs.size + 2] → FpOk X pins H1 c := fun c hcm => by
    have e' : c = s1.heap.objs.size + 5 ∨ c = s1.heap.objs.size + 3 ∨ c = s1.heap.objs.size + 4 ∨ c = s1.heap.objs.size ∨ c = s1.heap.objs.size + 1 ∨ c = s1.heap.objs.size + 2 := by simpa using hcm
    have hle : s1.heap.objs.size ≤ c := by
      rcases e' with z | z | z | z | z | z <;> rw [z] <;> first | exact Nat.le_add_right _ _ | exact Nat.le_refl _
    exact I1.fpOk hle (I1.hok.fresh hle)
  obtain ⟨its1, rv1, p1⟩ := sqB_inv I1 hq1
  obtain ⟨its2, rv2, p2⟩ := sqB_inv I1 hq2
  obtain ⟨its3, rv3, p3⟩ := sqB_inv I1 hq3
  refine zip_begins3 (begins_sq b1 a1 its1.toArray) (begins_sq b2 a2 its2.toArray) (begins_sq b3 a3 its3.toArray) p1 p2 p3 fun h' hz hTI hTO g1 g2 g3 hsz hk => wpAny_pyIter_zip hz ?_
  have I2 : Inv X pins σ H1 { s1 with heap := h' } := I1.kept (t' := s1.toks) hk
  exact ⟨s1.heap.objs.size + 5, [s1.heap.objs.size + 5, s1.heap.objs.size + 3, s1.heap.objs.size + 4, s1.heap.objs.size, s1.heap.objs.size + 1, s1.heap.objs.size + 2], _, _, H1, rfl, I2, turn_m3 (zip_sep3 (fun c hc => by rw [List.mem_singleton.mp hc]; exact isSq_lt p1) (fun c hc => by rw [List.mem_singleton.mp hc]; exact isSq_lt p2) (fun c hc => by rw [List.mem_singleton.mp hc]; exact isSq_lt p3)) (Nat.ne_of_lt (Nat.lt_of_lt_of_le (isSq_lt p1) (by omega))) (Nat.ne_of_lt (Nat.lt_of_lt_of_le (isSq_lt p2) (by omega))) (Nat.ne_of_lt (Nat.lt_of_lt_of_le (isSq_lt p3) (by omega))), ⟨hz, hTI, ⟨_, _, _, hTO⟩, itAt_new g1, itAt_new g2, itAt_new g3⟩, freshN, q⟩

/-! ### enumerate of a list or a tuple -/
section
variable {prog : Program} {w : World} {A : Around} {E : Value → Shared → Prop} {s : Shared}
theorem enum_newB {v : Value} {o : Obj} {G : Heap → Prop} (B : Begins v o G) :
    Meets (Builtin.«enumerate.__new__» ⟨[.type "enumerate", v], []⟩) (fun _ R s => G s.heap ∧
      R (.ok (.ret (.ref (s.heap.push o).objs.size))) { s with heap := (s.heap.push o).push { cls := .type "enumerate", data := .fields #[.none, .bool false, .ref s.heap.objs.size, rawInt 0, .none, .none] } }) :=
  .of_wp fun prog w A R s z => by
    obtain ⟨hp, g, d, tk, os⟩ := s
    obtain ⟨z1, z⟩ := z
    have hsub := sub_enumerate
    have begun : ∀ {A' : Around} {E' : Value → Shared → Prop} {Q' : Value → Shared → Prop}, Q' (.ref hp.objs.size) ⟨hp.push o, g, d, tk, os⟩ → wpAny (model prog w) A' (pyIter v) Q' E' ⟨hp, g, d, tk, os⟩ :=
      fun y => B.iter prog w _ _ ⟨hp, g, d, tk, os⟩ _ z1 y
    wp_walk using begun
    refine wpAny_stack_any fun _ => wpAny_pure ?_
    split
    · rename_i c _ _ _ _ _
      cases (c == Value.type "enumerate") <;> (wp_walk using begun; exact ⟨_, rfl, z⟩)
    · wp_walk using begun
      exact ⟨_, rfl, z⟩
theorem enum_beg {v : Value} {o : Obj} {G : Heap → Prop} {Q : Value → Shared → Prop} (B : Begins v o G) (z1 : G s.heap)
    (z : ∀ h', IsEnum h' (s.heap.objs.size + 1) s.heap.objs.size 0 .none → h'.get? s.heap.objs.size = some o → (∀ b u, s.heap.get? b = some u → h'.get? b = some u) → Q (.ref (s.heap.objs.size + 1)) { s with heap := h' }) :
    wpAny (model prog w) A (call (.type "enumerate") [v]) Q E s := by
  refine callType_new F.called_enumerate (by decide) (F.typeCall_enumerate_1 _) (F.newCall_enumerate_1 _) (fun obj => F.args_object_init_2 obj _) F.entry_enumerate_new (enum_newB B) ⟨z1, ?_⟩
  have e1 : (s.heap.push o).objs.size = s.heap.objs.size + 1 := Heap.size_push ..
  show _ ∧ _
  rw [e1]
  have e2 := Heap.get?_push_size (s.heap.push o) (o := { cls := .type "enumerate", data := .fields #[.none, .bool false, .ref s.heap.objs.size, rawInt 0, .none, .none] }) rfl
  rw [e1] at e2
  exact ⟨⟨_, e2, rfl⟩, z _ e2 (Heap.get?_push_of_some _ (Heap.get?_push_size _ B.free)) fun b u x => Heap.get?_push_of_some _ (Heap.get?_push_of_some _ x)⟩
end
def Itn (K : PySem.W.Frag) (b : Bool) (a : Addr) : It :=
  ⟨fun i H => ∃ xs : List V, SqB K H b a xs ∧ i < xs.length, fun i H v H' => ∃ T x, v = .ref T ∧ H T = none ∧ H' = upd H T (.tup [.int (i : Nat), x]) ∧ ∀ xs, SqB K H b a xs → xs[i]? = some x, fun i H => ∃ xs : List V, SqB K H b a xs ∧ i = xs.length⟩
theorem turn_en {P : Program} {w : World} {K : PySem.W.Frag} {elts : List Expr} {kk : Nat} {tpos : Pos} {b : Bool} {a e it : Addr} (n1 : e ≠ it) (n2 : e ≠ a) (n3 : a ≠ it) :
    Turn P w K (.Tuple elts kk tpos) (Itn K b a) [e, it] e (fun i h => (∃ old, IsEnum h e it ((i : Nat) : Int) old) ∧ ItAt h b it a i) where
  mem := by simp
  obj := fun i h ⟨⟨old, y1⟩, y2⟩ c hc => by
    have q : c = e ∨ c = it := by simpa using hc
    rcases q with q | q
    · rw [q]; exact ⟨_, y1, fun v z => nomatch z⟩
    · rw [q]; exact itAt_obj y2
  keep := fun i h h' ⟨⟨old, y1⟩, y2⟩ k => ⟨⟨old, k e (by simp) _ y1⟩, itAt_keep y2 fun o q => k it (by simp) o q⟩
  item := by
    intro X hP hw hK hc i pins s σ H E I hf st hg
    subst hP hw hK
    obtain ⟨⟨old, y1⟩, y2⟩ := st
    obtain ⟨xs, hq, hl⟩ := hg
    obtain ⟨its, rv, p⟩ := sqB_inv I hq
    have hs : i < its.toArray.size := by rw [List.size_toArray, ← rv.length]; exact hl
    have hh := I.ok.hd hc
    have le : e < s.heap.objs.size := Heap.lt_size y1
    refine wpAny_pyNext_enum_itemD (draws_sq (b := b) (A := X.A.in1) hh it a n3 its.toArray) y1 ⟨y2, p⟩ hs n1 (by simp [n1, n2]) fun u h' tk e1 ho t hT hsz hk => ?_
    refine ⟨_, rfl, wpAny_letOwnedTupleGo_enum (s := { s with heap := h', toks := tk + 1 }) ho fun h'' z'' sb => ?_⟩
    have hT2 : h''.get? s.heap.objs.size = some { cls := .type "tuple", data := .seq #[.int i tk, u] } := (sb.2 _ (Nat.ne_of_gt le)).trans hT
    obtain ⟨v, r, rr⟩ := vals_at rv e1
    have new : ObjOk X.prog X.w (upd H s.heap.objs.size (.tup [.int (i : Nat), v])) h'' s.heap.objs.size (.tup [.int (i : Nat), v]) :=
      ⟨by show 2 ≤ sizeLine; decide, [.int i tk, u], .cons ⟨_, rfl⟩ (.cons rr .nil), ⟨_, hT2, rfl, _, rfl⟩⟩
    have I1 : Inv X pins σ (upd H s.heap.objs.size (.tup [.int (i : Nat), v])) { s with heap := h'', toks := tk + 1 } :=
      I.turnedNew (t' := tk + 1) (ch := [e, it]) (fun c o hb q => (sb.2 c (fun z => hb (by simp [z]))).trans (hk c o (fun z => hb (by simp [z])) (fun z => hb (by simp [z])) q)) hf (Nat.le_refl _) new
    refine ⟨.ref s.heap.objs.size, _, I1, rfl, ⟨_, v, rfl, I.hok.fresh (Nat.le_refl _), rfl, fun l hl => by rw [sqB_inj I hl hq]; exact r⟩, ⟨⟨u, ?_⟩, itAt_keep t.1 fun o q => (sb.2 _ (Ne.symm n1)).trans q⟩, fun c hcm => ?_⟩
    · have q : ((i + 1 : Nat) : Int) = (i : Int) + 1 := by omega
      rw [q]; exact z''
    · have hlt : c < s.heap.objs.size := by
        have q : c = e ∨ c = it := by simpa using hcm
        rcases q with q | q
        · rw [q]; exact le
        · rw [q]; obtain ⟨_, z, _⟩ := itAt_obj y2; exact Heap.lt_size z
      rw [upd_ne (Nat.ne_of_lt hlt)]
      exact (hf c hcm).1
  done := by
    intro X hP hw hK hc i pins s σ H E I hf st hg
    subst hP hw hK
    obtain ⟨⟨old, y1⟩, y2⟩ := st
    obtain ⟨xs, hq, rfl⟩ := hg
    obtain ⟨its, rv, p⟩ := sqB_inv I hq
    have hs : xs.length = its.toArray.size := by rw [List.size_toArray, ← rv.length]
    rw [hs] at y2
    obtain ⟨f0, f1, f2, f3, f4, f5⟩ := hf it (by simp)
    exact wpAny_pyNext_enum_endD (draws_sq (b := b) (A := X.A.in1) (I.ok.hd hc) it a n3 its.toArray) y1 ⟨y2, p⟩ fun h' eb => ⟨rfl, I.turned (t' := s.toks) (fun c o hb q => eb c o hb q) f0 f1 f3 f4 f5⟩
  self := fun A i s Q E ⟨⟨_, y1⟩, _⟩ h => wpAny_pyIter_enum y1 h
def iEn (K : PySem.W.Frag) (ta : TA) : TI := fun σ H R => ta σ H fun vs H1 => ∃ b a xs, vs = [.ref a] ∧ SqB K H1 b a xs ∧ R (Itn K b a) H1
theorem pi_en {X : Cx} {e : Expr} {ta : TA} {p pos tpos : Pos} {elts : List Expr} {kk : Nat} (hg : Gl X "enumerate") (hm : X.mg "enumerate" = none) (ha : PA X [e] ta) (hs : starEach [e] X.env = [(false, eval e X.env)]) :
    PI X (.Tuple elts kk tpos) (.Call (.Name "enumerate" p) [e] [] pos) (iEn X.K ta) := by
  refine ⟨fun pins s σ H R I h => ?_⟩
  refine Call_ (ld_blt I hg hm boot_enumerate (PyProof.Rows.callWith_type1 (thn (ha.run pos pins s σ H _ I h) fun us s1 ⟨vs, H1, I1, r1, q1⟩ => ?_) hs rfl))
  obtain ⟨b, a, xs, ex, hq, q⟩ := q1
  subst ex
  rw [Vals.ref1 r1]
  obtain ⟨its, rv, pp⟩ := sqB_inv I1 hq
  have la := isSq_lt pp
  refine enum_beg (begins_sq b a its.toArray) pp fun h' z1 z2 hk => wpAny_pyIter_enum z1 ?_
  refine ⟨s1.heap.objs.size + 1, [s1.heap.objs.size + 1, s1.heap.objs.size], _, _, H1, rfl, I1.kept (t' := s1.toks) hk, turn_en (b := b) (a := a) (e := s1.heap.objs.size + 1) (it := s1.heap.objs.size) (Nat.succ_ne_self _) (Nat.ne_of_gt (Nat.lt_succ_of_lt la)) (Nat.ne_of_lt la), ⟨⟨_, z1⟩, itAt_new z2⟩, fun c hcm => ?_, q⟩
  have e' : c = s1.heap.objs.size + 1 ∨ c = s1.heap.objs.size := by simpa using hcm
  have hle : s1.heap.objs.size ≤ c := by
    rcases e' with z | z <;> rw [z] <;> first | exact Nat.le_add_right _ _ | exact Nat.le_refl _
  exact I1.fpOk hle (I1.hok.fresh hle)
end PyD

/-! What is walked; targets; comprehensions. -/
namespace PyD
open PySem L2 RZ

/-- J walks over the items xs, which stand in M' -/
def ItOk (K : PySem.W.Frag) (M' : Hp) (J : It) (xs : List D) : Prop :=
  Walk J xs.length (fun H => ∃ Mc, Same M' Mc ∧ Same Mc H) (fun i H x H' => ∀ Mc, Same M' Mc → Same Mc H → ∃ d M2, xs[i]? = some d ∧ Xt Mc M2 H H' ∧ Dat K M2 x d)
def tI (K : PySem.W.Frag) (Φ : Fns) (e : E) : TI := fun σ H R => ∃ M env xs, Same M H ∧ Rd0 K M σ env ∧ (ev Φ e env).bind asSeq = some xs ∧ ∀ J M' H', Xt M M' H H' → ItOk K M' J xs → R J H'

section
variable {X : Cx} {x y z tg : Expr} {xs : List Expr} {Φ : Fns} {a b c e : E} {pos : Pos}
theorem PI_imp {t t' : TI} (h : PI X tg x t) (i : ∀ σ H R, t' σ H R → t σ H R) : PI X tg x t' := ⟨fun pins s σ H R I q => h.run pins s σ H R I (i σ H R q)⟩

theorem it_list {M : Hp} {p : Addr} {vs : List V} {ds : List D} (h : SqL X.K M p vs) (r : DatL X.K M vs ds) : ItOk X.K M (Itl X.K p) ds := by
  have w := walk_list (K := X.K) (a := p) (xs := vs)
  rw [r.length] at w
  refine w.mono (fun H ⟨Mc, h1, h2⟩ => Same.seq (h1.trans h2) h) fun i H v H' hi _ y Mc h1 h2 => ?_
  obtain ⟨e, y⟩ := y
  subst e
  obtain ⟨d, q1, q2⟩ := r.get' y
  exact ⟨d, Mc, q1, Xt.refl h2, q2.mono h1⟩
theorem it_tup {M : Hp} {p : Addr} {vs : List V} {ds : List D} (h : SqT X.K M p vs) (r : DatL X.K M vs ds) : ItOk X.K M (Itt X.K p) ds := by
  have w := walk_tup (K := X.K) (a := p) (xs := vs)
  rw [r.length] at w
  refine w.mono (fun H ⟨Mc, h1, h2⟩ => same_t (h1.trans h2) h) fun i H v H' hi _ y Mc h1 h2 => ?_
  obtain ⟨e, y⟩ := y
  subst e
  obtain ⟨d, q1, q2⟩ := r.get' y
  exact ⟨d, Mc, q1, Xt.refl h2, q2.mono h1⟩
theorem it_keys {M : Hp} {p : Addr} {o : Obj} {ws : List (List L2.Key × V)} {kvs : List (List Int × D)} (h : M p = some (.frz o (.dT ws))) (r : DatD X.K M ws kvs) : ItOk X.K M (Itkt p o ws) (keysD kvs) := by
  have w := walk_keysT (d := p) (o := o) (kvs := ws)
  have e : ws.length = (keysD kvs).length := by unfold keysD; rw [List.length_map, r.length]
  rw [e] at w
  refine w.mono (fun H ⟨Mc, h1, h2⟩ => h2 _ _ (h1 _ _ h)) fun i H v H' hi _ y Mc h1 h2 => ?_
  obtain ⟨e, k, u, b, g1, rfl, g2⟩ := y
  subst e
  obtain ⟨q, d, g3, rfl⟩ := r.getI g1
  have eq : (q.map (Sum.inl (β := Str))).map kV = q.map V.int := by rw [List.map_map]; rfl
  rw [eq] at g2
  refine ⟨.tup (q.map .int), upd Mc b (.tup (q.map V.int)), by unfold keysD; rw [List.getElem?_map, g3]; rfl, ?_, .tup upd_same DatL.intsOf⟩
  have sm : Same Mc (upd Mc b (.tup (q.map V.int))) := fun a u e => by
    by_cases c : a = b
    · subst c
      rw [upd_same]
      have := h2 _ _ e
      rw [g2] at this
      exact this
    · rw [upd_ne c]; exact e
  refine ⟨sm, Same.refl _, fun a u e => ?_, fun a e => ?_⟩
  · by_cases c : a = b
    · subst c
      rw [upd_same] at e
      cases e
      exact g2
    · rw [upd_ne c] at e
      exact h2 _ _ e
  · by_cases c : a = b
    · subst c
      exact .inr (.inr ⟨_, g2⟩)
    · rw [upd_ne c] at e
      exact .inl e
theorem rangeD_get {a b : Int} {i : Nat} (h : i < (b - a).toNat) : (rangeD a b)[i]? = some (.int (a + (i : Nat))) := by
  unfold rangeD
  rw [List.getElem?_map, List.getElem?_range h]
  rfl
theorem it_range {M : Hp} {a b : Int} : ItOk X.K M (Itr a (b - a).toNat) (rangeD a b) := by
  have w := walk_range (lo := a) (n := (b - a).toNat)
  have e := rangeD_length a b
  unfold ItOk
  rw [e]
  refine w.mono (fun _ _ => trivial) fun i H v H' hi _ y Mc h1 h2 => ?_
  obtain ⟨e, y⟩ := y
  subst e y
  exact ⟨_, Mc, rangeD_get hi, Xt.refl h2, .int _⟩
theorem enumD_length : ∀ (n : Nat) (xs : List D), (enumD n xs).length = xs.length
  | _, [] => rfl
  | n, x :: xs => by simp [enumD, enumD_length (n + 1) xs]
theorem enumD_get : ∀ {n i : Nat} {xs : List D} {d : D}, xs[i]? = some d → (enumD n xs)[i]? = some (.tup [.int ((n + i : Nat) : Int), d])
  | n, 0, x :: xs, d, h => by
    cases h
    rfl
  | n, i + 1, x :: xs, d, h => by
    have h2 := enumD_get (n := n + 1) (i := i) (xs := xs) (d := d) (by simpa using h)
    show (enumD (n + 1) xs)[i]? = _
    rw [h2]
    have e : n + 1 + i = n + (i + 1) := by omega
    rw [e]
  | _, _, [], _, h => by simp at h
/-- a new pair -/
theorem pair_new {M H : Hp} {v w : V} {d d' : D} {p : Addr} (sm : Same M H) (hp : H p = none) (h1 : Dat X.K M v d) (h2 : Dat X.K M w d') : Xt M (upd M p (.tup [v, w])) H (upd H p (.tup [v, w])) ∧ Dat X.K (upd M p (.tup [v, w])) (.ref p) (.tup [d, d']) :=
  ⟨Xt.new sm hp, .tup upd_same ((DatL.cons h1 (.cons h2 .nil)).mono (same_new (sm.free hp)))⟩
theorem zipD_length : ∀ (xs ys : List D), (zipD xs ys).length = min xs.length ys.length
  | [], _ => by simp [zipD]
  | _ :: _, [] => by simp [zipD]
  | x :: xs, y :: ys => by simp only [zipD, List.length_cons, zipD_length xs ys]; omega
theorem zipD_get : ∀ {i : Nat} {xs ys : List D} {d d' : D}, xs[i]? = some d → ys[i]? = some d' → (zipD xs ys)[i]? = some (.tup [d, d'])
  | 0, x :: xs, y :: ys, d, d', h, h' => by
    cases h
    cases h'
    rfl
  | i + 1, x :: xs, y :: ys, d, d', h, h' => zipD_get (i := i) (xs := xs) (ys := ys) (by simpa using h) (by simpa using h')
  | _, [], _, _, _, h, _ => by simp at h
  | _, _ :: _, [], _, _, _, h => by simp at h
theorem zip_yld {M Mc H H' : Hp} {i : Nat} {v : V} {vs ws : List V} {ds es : List D} (r : DatL X.K M vs ds) (r' : DatL X.K M ws es) (h1 : Same M Mc) (h2 : Same Mc H) (y : YPair (fun i => vs[i]?) (fun i => ws[i]?) i H v H') :
    ∃ d M2, (zipD ds es)[i]? = some d ∧ Xt Mc M2 H H' ∧ Dat X.K M2 v d := by
  obtain ⟨T, u, w, rfl, hT, rfl, q1, q2⟩ := y
  obtain ⟨d, q3, q4⟩ := r.get' q1
  obtain ⟨d', q5, q6⟩ := r'.get' q2
  obtain ⟨x1, r1⟩ := pair_new (X := X) h2 hT (q4.mono h1) (q6.mono h1)
  exact ⟨_, _, zipD_get q3 q5, x1, r1⟩
theorem it_zipL {M : Hp} {p q : Addr} {vs ws : List V} {ds es : List D} (h : SqL X.K M p vs) (h' : SqL X.K M q ws) (r : DatL X.K M vs ds) (r' : DatL X.K M ws es) : ItOk X.K M (Itz X.K p q) (zipD ds es) := by
  have w := walk_zip (K := X.K) (a := p) (b := q) (xs := vs) (ys := ws) (n := (zipD ds es).length) (by rw [zipD_length, r.length, r'.length])
  exact w.mono (fun H ⟨Mc, h1, h2⟩ => ⟨Same.seq (h1.trans h2) h, Same.seq (h1.trans h2) h'⟩) fun i H v H' hi _ y Mc h1 h2 => zip_yld r r' h1 h2 y
theorem walk_zipT {K : PySem.W.Frag} {a b : Addr} {xs ys : List V} {n : Nat} (hn : n = min xs.length ys.length) : Walk (ItzT K a b) n (fun H => SqT K H a xs ∧ SqT K H b ys) (YPair (fun i => xs[i]?) (fun i => ys[i]?)) := by
  constructor
  · intro i H hi q
    obtain ⟨u, hu⟩ : ∃ u, xs[i]? = some u := ⟨xs[i]'(by omega), List.getElem?_eq_getElem (by omega)⟩
    obtain ⟨w, hw⟩ : ∃ w, ys[i]? = some w := ⟨ys[i]'(by omega), List.getElem?_eq_getElem (by omega)⟩
    exact ⟨xs, ys, u, w, q.1, q.2, hu, hw⟩
  · intro H q
    exact ⟨xs, ys, q.1, q.2, by omega⟩
  · rintro i H v H' _ q ⟨T, u, w, e1, e2, e3, e4, e5⟩
    exact ⟨T, u, w, e1, e2, e3, e4 xs q.1, e5 ys q.2⟩
theorem it_zipT {M : Hp} {p q : Addr} {vs ws : List V} {ds es : List D} (h : SqT X.K M p vs) (h' : SqT X.K M q ws) (r : DatL X.K M vs ds) (r' : DatL X.K M ws es) : ItOk X.K M (ItzT X.K p q) (zipD ds es) := by
  have w := walk_zipT (K := X.K) (a := p) (b := q) (xs := vs) (ys := ws) (n := (zipD ds es).length) (by rw [zipD_length, r.length, r'.length])
  exact w.mono (fun H ⟨Mc, h1, h2⟩ => ⟨same_t (h1.trans h2) h, same_t (h1.trans h2) h'⟩) fun i H v H' hi _ y Mc h1 h2 => zip_yld r r' h1 h2 y

/-- a list, a tuple that is walked -/
theorem i_seq (ha : PE X x (tE X.K Φ false a)) : PI X tg x (tI X.K Φ a) := by
  refine ⟨fun pins s σ H R I ⟨M, env, xs, sm, rd, q, k⟩ => ?_⟩
  obtain ⟨d, q1, q2⟩ := Option.bind_eq_some_iff.mp q
  cases d with
  | tup ds =>
    cases q2
    refine (pi_tup ha).run pins s σ H R I ⟨M, env, _, (fun z => nomatch z), sm, rd, q1, fun v M1 H1 x1 r1 => ?_⟩
    cases r1 with
    | tup h r => exact ⟨_, rfl, ⟨_, SqT.of (x1.s _ _ h)⟩, k _ M1 H1 x1 (it_tup (SqT.of h) r)⟩
  | lst ds =>
    cases q2
    refine (pi_list ha).run pins s σ H R I ⟨M, env, _, (fun z => nomatch z), sm, rd, q1, fun v M1 H1 x1 r1 => ?_⟩
    cases r1 with
    | lst h r => exact ⟨_, rfl, ⟨_, SqL.of (x1.s _ _ h)⟩, k _ M1 H1 x1 (it_list (SqL.of h) r)⟩
  | ro ds =>
    cases q2
    refine (pi_list ha).run pins s σ H R I ⟨M, env, _, (fun z => nomatch z), sm, rd, q1, fun v M1 H1 x1 r1 => ?_⟩
    cases r1 with
    | ro h r => exact ⟨_, rfl, ⟨_, Same.seq x1.s h⟩, k _ M1 H1 x1 (it_list h r)⟩
  | dic lk kvs =>
    cases lk with
    | false => cases q2
    | true =>
      cases q2
      refine (pi_keys ha).run pins s σ H R I ⟨M, env, _, (fun z => nomatch z), sm, rd, q1, fun v M1 H1 x1 r1 => ?_⟩
      cases r1 with
      | dic h r => exact ⟨_, _, rfl, .inr ⟨_, x1.s _ _ h, k _ M1 H1 x1 (it_keys h r)⟩⟩
  | _ => cases q2
/-- a range that is walked -/
def tIR (K : PySem.W.Frag) (Φ : Fns) (e : E) : TI := fun σ H R => ∃ M env xs, Same M H ∧ Rd0 K M σ env ∧ (ev Φ e env).bind asSeq = some xs ∧ ∀ a b M' H', Xt M M' H H' → xs = rangeD a b → R (Itr a (b - a).toNat) H'
theorem i_ofR (h : PI X tg x (tIR X.K Φ e)) : PI X tg x (tI X.K Φ e) := PI_imp h fun σ H R ⟨M, env, xs, sm, rd, q, k⟩ => ⟨M, env, xs, sm, rd, q, fun a b M' H' xt e => k _ M' H' xt (by rw [e]; exact it_range)⟩
theorem i_rng1 {p : Pos} (hg : Gl X "range") (hm : X.mg "range" = none) (ha : PA X [x] (tA X.K Φ (.cons a .nil))) (hs : starEach [x] X.env = [(false, eval x X.env)]) : PI X tg (.Call (.Name "range" p) [x] [] pos) (tIR X.K Φ (.rng1 a)) := by
  refine PI_imp (pi_range1 hg hm ha hs) fun σ H R ⟨M, env, xs, sm, rd, q, k⟩ => ?_
  obtain ⟨d, q1, q2⟩ := Option.bind_eq_some_iff.mp q
  simp only [ev] at q1
  obtain ⟨dx, q3, q1⟩ := Option.bind_eq_some_iff.mp q1
  refine ⟨M, env, [dx], sm, rd, by simp only [ev, q3]; rfl, fun vs M1 H1 x1 r1 => ?_⟩
  obtain ⟨v, rfl, r⟩ := datL1 (X := X) r1
  cases r with
  | int i =>
    simp only [] at q1
    split at q1
    · rename_i h
      cases q1
      cases q2
      have h' := rgOk_of h
      refine ⟨i, rfl, by omega, by omega, ?_⟩
      have w := k 0 i M1 H1 x1 rfl
      rw [Int.sub_zero] at w
      exact w
    · cases q1
  | _ => cases q1
theorem i_rng2 {p : Pos} (hg : Gl X "range") (hm : X.mg "range" = none) (ha : PA X [x, y] (tA X.K Φ (.cons a (.cons b .nil)))) (hs : starEach [x, y] X.env = [(false, eval x X.env), (false, eval y X.env)]) (hs2 : starEach [y] X.env = [(false, eval y X.env)]) :
    PI X tg (.Call (.Name "range" p) [x, y] [] pos) (tIR X.K Φ (.rng2 a b)) := by
  refine PI_imp (pi_range2 hg hm ha hs hs2) fun σ H R ⟨M, env, xs, sm, rd, q, k⟩ => ?_
  obtain ⟨d, q1, q2⟩ := Option.bind_eq_some_iff.mp q
  simp only [ev] at q1
  obtain ⟨dx, q3, q1⟩ := Option.bind_eq_some_iff.mp q1
  obtain ⟨dy, q4, q1⟩ := Option.bind_eq_some_iff.mp q1
  refine ⟨M, env, [dx, dy], sm, rd, by simp only [ev, q3, q4]; rfl, fun vs M1 H1 x1 r1 => ?_⟩
  obtain ⟨v, w, rfl, r, r'⟩ := datL2 (X := X) r1
  cases r with
  | int i =>
    cases r' with
    | int j =>
      simp only [] at q1
      split at q1
      · rename_i h
        cases q1
        cases q2
        have h' := Bool.and_eq_true_iff.mp h
        have h1 := rgOk_of h'.1
        have h2 := rgOk_of h'.2
        exact ⟨i, j, rfl, ⟨by omega, by omega, by omega, by omega⟩, k i j M1 H1 x1 rfl⟩
      · cases q1
    | _ => cases q1
  | _ => cases q1
theorem sqB_same {K : PySem.W.Frag} {M H : Hp} (e : Same M H) : ∀ {b : Bool} {a : Addr} {xs : List V}, SqB K M b a xs → SqB K H b a xs
  | false, _, _, h => Same.seq e h
  | true, _, _, h => same_t e h
theorem it_enum {M : Hp} {b : Bool} {p : Addr} {vs : List V} {ds : List D} (h : SqB X.K M b p vs) (r : DatL X.K M vs ds) : ItOk X.K M (Itn X.K b p) (enumD 0 ds) := by
  have w : Walk (Itn X.K b p) vs.length (fun H => SqB X.K H b p vs) (YPair (fun i => some (.int (i : Nat))) (fun i => vs[i]?)) := by
    refine ⟨fun i H hi q => ⟨vs, q, hi⟩, fun H q => ⟨vs, q, rfl⟩, ?_⟩
    rintro i H v H' _ q ⟨T, x, e1, e2, e3, e4⟩
    exact ⟨T, .int (i : Nat), x, e1, e2, e3, rfl, e4 vs q⟩
  rw [r.length] at w
  unfold ItOk
  rw [enumD_length]
  refine w.mono (fun H ⟨Mc, h1, h2⟩ => sqB_same (h1.trans h2) h) fun i H v H' hi _ y Mc h1 h2 => ?_
  obtain ⟨T, u, w, rfl, hT, rfl, q1, q2⟩ := y
  cases q1
  obtain ⟨d, q3, q4⟩ := r.get' q2
  obtain ⟨x1, r1⟩ := pair_new (X := X) h2 hT (.int (i : Nat)) (q4.mono h1)
  refine ⟨_, _, ?_, x1, r1⟩
  rw [enumD_get q3, Nat.zero_add]
theorem walk_zipM2 {K : PySem.W.Frag} {b1 b2 : Bool} {a b : Addr} {xs ys : List V} {n : Nat} (hn : n = min xs.length ys.length) : Walk (Itm2 K b1 b2 a b) n (fun H => SqB K H b1 a xs ∧ SqB K H b2 b ys) (YPair (fun i => xs[i]?) (fun i => ys[i]?)) := by
  constructor
  · intro i H hi q
    exact ⟨xs, ys, q.1, by omega, q.2, by omega⟩
  · intro H q
    exact ⟨xs, ys, q.1, by omega, q.2, by omega, by omega⟩
  · rintro i H v H' _ q ⟨T, u, w, e1, e2, e3, e4, e5⟩
    exact ⟨T, u, w, e1, e2, e3, e4 xs q.1, e5 ys q.2⟩
theorem it_zipM2 {M : Hp} {b1 b2 : Bool} {p q : Addr} {vs ws : List V} {ds es : List D} (h : SqB X.K M b1 p vs) (h' : SqB X.K M b2 q ws) (r : DatL X.K M vs ds) (r' : DatL X.K M ws es) : ItOk X.K M (Itm2 X.K b1 b2 p q) (zipD ds es) := by
  have w := walk_zipM2 (K := X.K) (b1 := b1) (b2 := b2) (a := p) (b := q) (xs := vs) (ys := ws) (n := (zipD ds es).length) (by rw [zipD_length, r.length, r'.length])
  exact w.mono (fun H ⟨Mc, h1, h2⟩ => ⟨sqB_same (h1.trans h2) h, sqB_same (h1.trans h2) h'⟩) fun i H v H' hi _ y Mc h1 h2 => zip_yld r r' h1 h2 y
/-- a list, a tuple as data -/
theorem dat_seq {K : PySem.W.Frag} {M : Hp} {v : V} {d : D} {ds : List D} (h : Dat K M v d) (e : seqOf d = some ds) : ∃ b a vs, v = .ref a ∧ SqB K M b a vs ∧ DatL K M vs ds := by
  cases h with
  | lst h r => cases e; exact ⟨false, _, _, rfl, SqL.of h, r⟩
  | tup h r => cases e; exact ⟨true, _, _, rfl, SqT.of h, r⟩
  | _ => cases e
theorem zip_seq {d d' e : D} (q : (match d, d' with
    | .lst xs, .lst ys => some (D.lst (zipD xs ys))
    | .tup xs, .tup ys => some (.lst (zipD xs ys))
    | .lst xs, .tup ys => some (.lst (zipD xs ys))
    | .tup xs, .lst ys => some (.lst (zipD xs ys))
    | _, _ => none) = some e) : ∃ xs ys, seqOf d = some xs ∧ seqOf d' = some ys ∧ e = .lst (zipD xs ys) := by
  split at q <;> first | (cases q; exact ⟨_, _, rfl, rfl, rfl⟩) | cases q
theorem i_zip {p tpos : Pos} {elts : List Expr} {kk : Nat} (hg : Gl X "zip") (hm : X.mg "zip" = none) (ha : PA X [x, y] (tA X.K Φ (.cons a (.cons b .nil)))) (hs : starEach [x, y] X.env = (false, eval x X.env) :: starEach [y] X.env) (hpl : (backTo pos (starEach [y] X.env)).any (·.1) = false) :
    PI X (.Tuple elts kk tpos) (.Call (.Name "zip" p) [x, y] [] pos) (tI X.K Φ (.zip a b)) := by
  refine PI_imp (pi_zipM2 hg hm ha hs hpl) fun σ H R ⟨M, env, xs, sm, rd, q, k⟩ => ?_
  obtain ⟨d, q1, q2⟩ := Option.bind_eq_some_iff.mp q
  simp only [ev] at q1
  obtain ⟨dx, q3, q1⟩ := Option.bind_eq_some_iff.mp q1
  obtain ⟨dy, q4, q1⟩ := Option.bind_eq_some_iff.mp q1
  obtain ⟨us, ws, s1, s2, rfl⟩ := zip_seq q1
  cases q2
  refine ⟨M, env, [dx, dy], sm, rd, by simp only [ev, q3, q4]; rfl, fun vs M1 H1 x1 r1 => ?_⟩
  obtain ⟨v, w, rfl, r, r'⟩ := datL2 (X := X) r1
  obtain ⟨b1, a1, v1, rfl, h1, d1⟩ := dat_seq r s1
  obtain ⟨b2, a2, v2, rfl, h2, d2⟩ := dat_seq r' s2
  exact ⟨_, _, _, _, _, _, rfl, sqB_same x1.s h1, sqB_same x1.s h2, k _ M1 H1 x1 (it_zipM2 h1 h2 d1 d2)⟩
theorem i_enum {p tpos : Pos} {elts : List Expr} {kk : Nat} (hg : Gl X "enumerate") (hm : X.mg "enumerate" = none) (ha : PA X [x] (tA X.K Φ (.cons a .nil))) (hs : starEach [x] X.env = [(false, eval x X.env)]) : PI X (.Tuple elts kk tpos) (.Call (.Name "enumerate" p) [x] [] pos) (tI X.K Φ (.enu a)) := by
  refine PI_imp (pi_en hg hm ha hs) fun σ H R ⟨M, env, xs, sm, rd, q, k⟩ => ?_
  obtain ⟨d, q1, q2⟩ := Option.bind_eq_some_iff.mp q
  simp only [ev] at q1
  obtain ⟨dx, q3, q1⟩ := Option.bind_eq_some_iff.mp q1
  refine ⟨M, env, [dx], sm, rd, by simp only [ev, q3]; rfl, fun vs M1 H1 x1 r1 => ?_⟩
  obtain ⟨v, rfl, r⟩ := datL1 (X := X) r1
  cases r with
  | lst h r =>
    cases q1
    cases q2
    exact ⟨false, _, _, rfl, SqL.of (x1.s _ _ h), k _ M1 H1 x1 (it_enum (b := false) (SqL.of h) r)⟩
  | tup h r =>
    cases q1
    cases q2
    exact ⟨true, _, _, rfl, SqT.of (x1.s _ _ h), k _ M1 H1 x1 (it_enum (b := true) (SqT.of h) r)⟩
  | _ => cases q1
/-! three -/
theorem zipD3_length : ∀ (xs ys zs : List D), (zipD3 xs ys zs).length = min (min xs.length ys.length) zs.length
  | [], _, _ => by simp [zipD3]
  | _ :: _, [], _ => by simp [zipD3]
  | _ :: _, _ :: _, [] => by simp [zipD3]
  | x :: xs, y :: ys, z :: zs => by simp only [zipD3, List.length_cons, zipD3_length xs ys zs]; omega
theorem zipD3_get : ∀ {i : Nat} {xs ys zs : List D} {d d' d'' : D}, xs[i]? = some d → ys[i]? = some d' → zs[i]? = some d'' → (zipD3 xs ys zs)[i]? = some (.tup [d, d', d''])
  | 0, x :: xs, y :: ys, z :: zs, d, d', d'', h, h', h'' => by
    cases h
    cases h'
    cases h''
    rfl
  | i + 1, x :: xs, y :: ys, z :: zs, d, d', d'', h, h', h'' => zipD3_get (i := i) (xs := xs) (ys := ys) (zs := zs) (by simpa using h) (by simpa using h') (by simpa using h'')
  | _, [], _, _, _, _, _, h, _, _ => by simp at h
  | _, _ :: _, [], _, _, _, _, _, h, _ => by simp at h
  | _, _ :: _, _ :: _, [], _, _, _, _, _, h => by simp at h
theorem it_zipM3 {M : Hp} {b1 b2 b3 : Bool} {p q t : Addr} {vs ws us : List V} {ds es fs : List D} (h : SqB X.K M b1 p vs) (h' : SqB X.K M b2 q ws) (h'' : SqB X.K M b3 t us) (r : DatL X.K M vs ds) (r' : DatL X.K M ws es) (r'' : DatL X.K M us fs) : ItOk X.K M (Itm3 X.K b1 b2 b3 p q t) (zipD3 ds es fs) := by
  have l1 := r.length
  have l2 := r'.length
  have l3 := r''.length
  have w : Walk (Itm3 X.K b1 b2 b3 p q t) (zipD3 ds es fs).length (fun H => SqB X.K H b1 p vs ∧ SqB X.K H b2 q ws ∧ SqB X.K H b3 t us) (fun i H v H' => ∃ T x y z, v = .ref T ∧ H T = none ∧ H' = upd H T (.tup [x, y, z]) ∧ vs[i]? = some x ∧ ws[i]? = some y ∧ us[i]? = some z) := by
    have hl := zipD3_length ds es fs
    constructor
    · intro i H hi q
      exact ⟨vs, ws, us, q.1, by omega, q.2.1, by omega, q.2.2, by omega⟩
    · intro H q
      exact ⟨vs, ws, us, q.1, by omega, q.2.1, by omega, q.2.2, by omega, by omega⟩
    · rintro i H v H' _ q ⟨T, u, w, z, e1, e2, e3, e4, e5, e6⟩
      exact ⟨T, u, w, z, e1, e2, e3, e4 vs q.1, e5 ws q.2.1, e6 us q.2.2⟩
  refine w.mono (fun H ⟨Mc, h1, h2⟩ => ⟨sqB_same (h1.trans h2) h, sqB_same (h1.trans h2) h', sqB_same (h1.trans h2) h''⟩) fun i H v H' hi _ y Mc h1 h2 => ?_
  obtain ⟨T, u, w, z, rfl, hT, rfl, q1, q2, q3⟩ := y
  obtain ⟨d1, e1, f1⟩ := r.get' q1
  obtain ⟨d2, e2, f2⟩ := r'.get' q2
  obtain ⟨d3, e3, f3⟩ := r''.get' q3
  exact ⟨_, _, zipD3_get e1 e2 e3, Xt.new h2 hT, .tup upd_same ((DatL.cons (f1.mono h1) (.cons (f2.mono h1) (.cons (f3.mono h1) .nil))).mono (same_new (h2.free hT)))⟩
theorem i_zip3 {z : Expr} {c : E} {p tpos : Pos} {elts : List Expr} {kk : Nat} (hg : Gl X "zip") (hm : X.mg "zip" = none) (ha : PA X [x, y, z] (tA X.K Φ (.cons a (.cons b (.cons c .nil))))) (hs : starEach [x, y, z] X.env = (false, eval x X.env) :: starEach [y, z] X.env) (hpl : (backTo pos (starEach [y, z] X.env)).any (·.1) = false) :
    PI X (.Tuple elts kk tpos) (.Call (.Name "zip" p) [x, y, z] [] pos) (tI X.K Φ (.zip3 a b c)) := by
  refine PI_imp (pi_zipM3 hg hm ha hs hpl) fun σ H R ⟨M, env, xs, sm, rd, q, k⟩ => ?_
  obtain ⟨d, q1, q2⟩ := Option.bind_eq_some_iff.mp q
  simp only [ev] at q1
  obtain ⟨dx, q3, q1⟩ := Option.bind_eq_some_iff.mp q1
  obtain ⟨dy, q4, q1⟩ := Option.bind_eq_some_iff.mp q1
  obtain ⟨dz, q5, q1⟩ := Option.bind_eq_some_iff.mp q1
  obtain ⟨us, s1, q1⟩ := Option.bind_eq_some_iff.mp q1
  obtain ⟨ws, s2, q1⟩ := Option.bind_eq_some_iff.mp q1
  obtain ⟨ts, s3, rfl⟩ := Option.map_eq_some_iff.mp q1
  cases q2
  refine ⟨M, env, [dx, dy, dz], sm, rd, by simp only [ev, q3, q4, q5]; rfl, fun vs M1 H1 x1 r1 => ?_⟩
  cases r1 with
  | cons r ra =>
    cases ra with
    | cons r' ra =>
      cases ra with
      | cons r'' ra =>
        cases ra
        obtain ⟨b1, a1, v1, rfl, h1, d1⟩ := dat_seq r s1
        obtain ⟨b2, a2, v2, rfl, h2, d2⟩ := dat_seq r' s2
        obtain ⟨b3, a3, v3, rfl, h3, d3⟩ := dat_seq r'' s3
        exact ⟨_, _, _, _, _, _, _, _, _, rfl, sqB_same x1.s h1, sqB_same x1.s h2, sqB_same x1.s h3, k _ M1 H1 x1 (it_zipM3 h1 h2 h3 d1 d2 d3)⟩

/-! ### targets -/
def gSeq : List Nat → TGs
  | [] => gNil
  | i :: is => gCons (gName i) (gSeq is)
def gT (K : PySem.W.Frag) : T → TG
  | .nm i => gName i
  | .tp is => gTup K is.length (gSeq is)
theorem wipe_at (σ : L2.St) : ∀ (vs : List Nat) (j : Nat), (wipe σ vs)[j]? = if j ∈ vs then (σ[j]?).map (fun _ => none) else σ[j]?
  | [], j => by simp [wipe]
  | v :: vs, j => by
    have ih := wipe_at σ vs j
    unfold wipe
    by_cases hj : v = j
    · subst hj
      have hl : (wipe σ vs).length = σ.length := wipe_length σ vs
      by_cases hv : v < σ.length
      · rw [List.getElem?_set_self (by omega), if_pos (by simp), List.getElem?_eq_getElem hv]
        rfl
      · rw [List.getElem?_eq_none (by rw [List.length_set]; omega), if_pos (by simp), List.getElem?_eq_none (by omega)]
        rfl
    · rw [List.getElem?_set_ne hj, ih]
      by_cases hm : j ∈ vs
      · rw [if_pos hm, if_pos (by simp [hm])]
      · rw [if_neg hm, if_neg (by simp [hm, Ne.symm hj])]
theorem wipe_set {σ : L2.St} {vs : List Nat} {i : Nat} {o : Option V} (hi : i ∈ vs) : wipe (σ.set i o) vs = wipe σ vs := by
  apply List.ext_getElem?
  intro j
  rw [wipe_at, wipe_at]
  by_cases hj : j ∈ vs
  · rw [if_pos hj, if_pos hj]
    by_cases e : i = j
    · subst e
      by_cases hl : i < σ.length
      · rw [List.getElem?_set_self hl, List.getElem?_eq_getElem hl]
        rfl
      · rw [List.getElem?_eq_none (by rw [List.length_set]; omega), List.getElem?_eq_none (by omega)]
    · rw [List.getElem?_set_ne e]
  · rw [if_neg hj, if_neg hj, List.getElem?_set_ne (fun e => hj (by rw [← e]; exact hi))]
theorem wipe_wipe (σ : L2.St) (vs : List Nat) : wipe (wipe σ vs) vs = wipe σ vs := by
  apply List.ext_getElem?
  intro j
  rw [wipe_at, wipe_at]
  by_cases hj : j ∈ vs
  · rw [if_pos hj, if_pos hj, Option.map_map]
    rfl
  · rw [if_neg hj, if_neg hj]
theorem gSeq_ok {K : PySem.W.Frag} {M H : Hp} {vs0 : List Nat} {P : L2.St → Hp → Prop} : ∀ {is : List Nat} {vs : List V} {ds : List D} {σ : L2.St} {env env' : Env}, (∀ i ∈ is, i ∈ vs0) → Rd0 K M σ env → DatL K M vs ds → setAll is ds env = some env' →
    (∀ σ2, wipe σ2 vs0 = wipe σ vs0 → Rd0 K M σ2 env' → P σ2 H) → gSeq is vs σ H P
  | [], _, _, σ, env, env', _, rd, .nil, q, k => by
    cases q
    exact ⟨rfl, k σ rfl rd⟩
  | i :: is, _, _, σ, env, env', hi, rd, .cons h r, q, k => ⟨_, _, rfl, gSeq_ok (fun j hj => hi j (List.mem_cons_of_mem _ hj)) (rd.set h) r q fun σ2 e rd2 => k σ2 (e.trans (wipe_set (hi i List.mem_cons_self))) rd2⟩
  | [], _, _, _, _, _, _, _, .cons _ _, q, _ => by cases q
  | _ :: _, _, _, _, _, _, _, _, .nil, q, _ => by cases q
theorem setAll_len : ∀ {is : List Nat} {ds : List D} {env env' : Env}, setAll is ds env = some env' → ds.length = is.length
  | [], [], _, _, _ => rfl
  | i :: is, d :: ds, env, env', h => by simp [setAll_len (is := is) (ds := ds) h]
  | [], _ :: _, _, _, h => by cases h
  | _ :: _, [], _, _, h => by cases h
theorem gT_ok {K : PySem.W.Frag} {M H : Hp} {t : T} {vs0 : List Nat} {P : L2.St → Hp → Prop} {v : V} {d : D} {σ : L2.St} {env env' : Env} (hi : ∀ i ∈ t.slots, i ∈ vs0) (sm : Same M H) (rd : Rd0 K M σ env) (h : Dat K M v d) (q : bindT t d env = some env')
    (k : ∀ σ2, wipe σ2 vs0 = wipe σ vs0 → Rd0 K M σ2 env' → P σ2 H) : gT K t v σ H P := by
  cases t with
  | nm i =>
    cases q
    exact k _ (wipe_set (hi i (by simp [T.slots]))) (rd.set h)
  | tp is =>
    cases h with
    | tup h r => exact ⟨_, _, rfl, SqT.of (sm _ _ h), by rw [r.length]; exact setAll_len q, gSeq_ok hi rd r q k⟩
    | _ => cases q

/-! ### comprehensions -/
theorem tt_yes : PTs X [] (tT X.K Φ (.bl true)) := ⟨fun pins s σ H Q I ⟨M, env, b, sm, rd, q, k⟩ => pts_nil.run pins s σ H Q I (by cases q; exact k M H (Xt.refl sm))⟩
theorem s_lc {fr : Bool} {t : T} {ix tx elt : Expr} {ifs : List Expr} {scope : Scope} {own : List (Str × Nat)} {it : E} (hc : X.calm = true) (hN : X.N.Nodup) (hi : PI X tx ix (tI X.K Φ it)) (ok : BlkOk X.N X.env.scope scope own) (how : own.map (·.2) = t.slots)
    (hg : ∀ (s : Shared) (H : Hp) (C : Addr) (cl : List (Str × Addr)) (fp : List Addr), PG (X.blk s H scope (compEnvC scope cl C X.env) fp) tx (gT X.K t))
    (ht : ∀ (s : Shared) (H : Hp) (C : Addr) (cl : List (Str × Addr)) (fp : List Addr), PTs (X.blk s H scope (compEnvC scope cl C X.env) fp) ifs (tT X.K Φ c))
    (he : ∀ (s : Shared) (H : Hp) (C : Addr) (cl : List (Str × Addr)) (fp : List Addr), PE (X.blk s H scope (compEnvC scope cl C X.env) fp) elt (tE X.K Φ false e)) {σ : L2.St} {H : Hp} {Q : VK}
    (h : tE X.K Φ fr (.lc t it c e) σ H Q) : tLc (tI X.K Φ it) (gT X.K t) (tT X.K Φ c) (tE X.K Φ false e) (own.map (·.2)) σ H Q := by
  obtain ⟨M, env, d, il, sm, rd, q, k⟩ := h
  simp only [ev] at q
  obtain ⟨xs, q1, q⟩ := Option.bind_eq_some_iff.mp q
  obtain ⟨r, q2, q⟩ := Option.bind_eq_some_iff.mp q
  rw [how]
  have hr : d = .lst r ∧ r.length ≤ LIM := by
    unfold limL at q
    split at q
    · rename_i hl
      cases q
      exact ⟨rfl, hl⟩
    · cases q
  obtain ⟨rfl, hl⟩ := hr
  refine ⟨M, env, xs, sm, rd, q1, fun J M1 H1 x1 okJ D hD => ?_⟩
  have mD := x1.s.free hD
  refine lc_it okJ (fun i Hc => ∃ Mc acc ra rest, Xt M1 Mc H1 Hc ∧ Mc D = none ∧ Hc D = some (.lst acc) ∧ DatL X.K Mc acc ra ∧ lcGo (fun x => bindT t x (wipeE env t.slots)) (fun env => ev Φ c env) (fun env => (ev Φ e env).map fun y => [y]) (xs.drop i) = some rest ∧ ra ++ rest = r)
    ⟨M1, [], [], r, Xt.newH x1.s hD, mD, upd_same, .nil, by rw [List.drop_zero]; exact q2, rfl⟩ ?_ ?_ ?_
  · rintro i Hc hi ⟨Mc, acc, ra, rest, xt, _⟩
    exact ⟨Mc, xt.m, xt.s⟩
  · rintro i x Hc H' hi ⟨Mc, acc, ra, rest, xt, mcD, hcD, dl, lg, er⟩ y
    obtain ⟨d, M2, q3, x2, r2⟩ := y Mc xt.m xt.s
    rw [List.drop_eq_getElem_cons hi] at lg
    have ed : xs[i] = d := by rw [List.getElem?_eq_getElem hi] at q3; exact Option.some.inj q3
    rw [ed] at lg
    simp only [lcGo] at lg
    obtain ⟨env1, q4, lg⟩ := Option.bind_eq_some_iff.mp lg
    have rdw : Rd0 X.K M2 (wipe σ t.slots) (wipeE env t.slots) := ((rd.mono x1.m).mono (xt.m.trans x2.m)).wipe _
    have xt2 := xt.trans x2
    have noD : ∀ {M3 H3 : Hp}, Xt Mc M3 Hc H3 → M3 D = none := fun {M3 H3} x3 => by
      cases z : M3 D with
      | none => rfl
      | some o =>
        rcases x3.f D (by rw [z]; exact fun z => nomatch z) with u | u
        · exact absurd mcD u
        · exact (u.no hcD fun xs z => nomatch z).elim
    refine gT_ok (vs0 := t.slots) (fun _ z => z) x2.s rdw r2 q4 fun σ2 hw rd2 => ⟨by rw [hw, wipe_wipe], ?_⟩
    split at lg
    · rename_i q5
      obtain ⟨ys, q6, lg⟩ := Option.bind_eq_some_iff.mp lg
      obtain ⟨yd, q7, rfl⟩ := Option.map_eq_some_iff.mp q6
      obtain ⟨rest', q8, rfl⟩ := Option.map_eq_some_iff.mp lg
      refine ⟨M2, env1, true, x2.s, rd2, q5, fun M3 H3 x3 => iteT ⟨M3, env1, yd, (fun z => nomatch z), x3.s, rd2.mono x3.m, q7, fun v M4 H4 x4 r4 => ?_⟩⟩
      have x24 := (x2.trans x3).trans x4
      have m4 := noD x24
      have h4 : H4 D = some (.lst acc) := x24.h _ _ hcD
      have hal : acc.length < LIM := by
        have := dl.length
        have e2 : r.length = ra.length + (rest'.length + 1) := by rw [← er]; simp
        omega
      refine ⟨acc, h4, LIM_lt hal, M4, acc ++ [v], ra ++ [yd], rest', ?_, m4, upd_same, (dl.mono x24.m).append (.cons r4 .nil), q8, by rw [← er]; simp⟩
      have x14 := xt.trans x24
      refine ⟨x14.m, fun b o eb => ?_, fun b o eb => ?_, x14.f⟩
      · rw [upd_ne (ne_of_none eb hD)]
        exact x14.h b o eb
      · rw [upd_ne (ne_of_none eb m4)]
        exact x14.s b o eb
    · rename_i q5
      refine ⟨M2, env1, false, x2.s, rd2, q5, fun M3 H3 x3 => iteF ?_⟩
      have x23 := x2.trans x3
      exact ⟨M3, acc, ra, rest, xt.trans x23, noD x23, x23.h _ _ hcD, dl.mono x23.m, lg, er⟩
    · cases lg
  · rintro Hc ⟨Mc, acc, ra, rest, xt, mcD, hcD, dl, lg, er⟩
    rw [List.drop_length] at lg
    cases lg
    rw [List.append_nil] at er
    subst er
    have xf := x1.trans xt
    have h0 : H D = none := x1.h.free hD
    cases fr with
    | true => exact k _ Mc Hc xf ⟨D, _, rfl, rfl, h0, hcD, mcD, acc, rfl, dl⟩
    | false => exact k _ _ Hc (xf.keep h0 mcD hcD) (.lst upd_same (dl.mono (same_new mcD)))
end
end PyD

/-! Comprehensions with two clauses. -/
namespace PyD
open PySem L2 RZ

/-- a comprehension's loop from any start -/
theorem lc_from {J : It} {n : Nat} {G : Hp → Prop} {Y : Nat → Hp → V → Hp → Prop} (w : Walk J n G Y) {F : V → Hp → (Hp → Prop) → Prop} {Hs : Hp} {Qd : Hp → Prop} (Pv : Nat → Hp → Prop) (start : Pv 0 Hs) (inG : ∀ i H, i ≤ n → Pv i H → G H)
    (turn : ∀ i x H H', i < n → Pv i H → Y i H x H' → F x H' (Pv (i + 1))) (last : ∀ H, Pv n H → Qd H) :
    ∃ W : Nat → Nat → Hp → Prop, (∃ m, W 0 m Hs) ∧ ∀ i m H, W i m H → (J.stop i H ∧ Qd H) ∨ (J.go i H ∧ ∃ Nx : Hp → Prop, (∀ H', Nx H' → ∃ m', m' < m ∧ W (i + 1) m' H') ∧ ∀ x H', J.yld i H x H' → F x H' Nx) := by
  refine ⟨fun i m H => i ≤ n ∧ m + i = n ∧ Pv i H, ⟨n, Nat.zero_le _, rfl, start⟩, ?_⟩
  intro i m H ⟨h1, h2, h3⟩
  have g := inG i H h1 h3
  rcases Nat.lt_or_ge i n with lt | ge
  · right
    refine ⟨w.goes i H lt g, Pv (i + 1), ?_, ?_⟩
    · intro H' h4
      exact ⟨m - 1, by omega, lt, by omega, h4⟩
    · intro x H' y
      exact turn i x H H' lt h3 (w.yields i H x H' lt g y)
  · have : i = n := by omega
    subst this
    exact .inl ⟨w.stops H g, last H h3⟩

section
variable {X : Cx} {Φ : Fns} {c e c' : E}
theorem no_D {M M3 H H3 : Hp} {D : Addr} {o : HO} (x3 : Xt M M3 H H3) (m : M D = none) (h : H D = some o) (ht : ∀ xs, o ≠ .tup xs := by intro _ z; cases z) : M3 D = none := by
  cases z : M3 D with
  | none => rfl
  | some u =>
    rcases x3.f D (by rw [z]; exact fun z => nomatch z) with u | u
    · exact absurd m u
    · exact (u.no h ht).elim
/-- the new list at D grows -/
theorem Xt.grow {M M' H H' : Hp} {D : Addr} {o : HO} (x : Xt M M' H H') (hD : H D = none) (mD : M' D = none) : Xt M M' H (upd H' D o) :=
  ⟨x.m, fun b u eb => by rw [upd_ne (ne_of_none eb hD)]; exact x.h b u eb, fun b u eb => by rw [upd_ne (ne_of_none eb mD)]; exact x.s b u eb, x.f⟩

theorem s_lc2 {fr : Bool} {t t' : T} {own : List (Str × Nat)} {it it' : E} (how : own.map (·.2) = t.slots ++ t'.slots) {σ : L2.St} {H : Hp} {Q : VK}
    (h : tE X.K Φ fr (.lc2 t it c t' it' c' e) σ H Q) : tLc2 (tI X.K Φ it) (gT X.K t) (tT X.K Φ c) (tI X.K Φ it') (gT X.K t') (tT X.K Φ c') (tE X.K Φ false e) (own.map (·.2)) t'.slots σ H Q := by
  obtain ⟨M, env, d, il, sm, rd, q, k⟩ := h
  simp only [ev] at q
  obtain ⟨xs, q1, q⟩ := Option.bind_eq_some_iff.mp q
  obtain ⟨r, q2, q⟩ := Option.bind_eq_some_iff.mp q
  rw [how]
  have hr : d = .lst r ∧ r.length ≤ LIM := by
    unfold limL at q
    split at q
    · rename_i hl
      cases q
      exact ⟨rfl, hl⟩
    · cases q
  obtain ⟨rfl, hl⟩ := hr
  refine ⟨M, env, xs, sm, rd, q1, fun J M1 H1 x1 okJ D hD => ?_⟩
  have mD := x1.s.free hD
  generalize hgo : (fun x => bindT t x (wipeE env (t.slots ++ t'.slots))) = bnd at q2
  generalize hin : (fun env => ((ev Φ it' env).bind asSeq).bind fun ys => lcGo (fun x => bindT t' x (wipeE env t'.slots)) (fun env => ev Φ c' env) (fun env => (ev Φ e env).map fun y => [y]) ys) = inn at q2
  refine lc_from okJ (F := fun x H' Nx => gT X.K t x (wipe σ (t.slots ++ t'.slots)) H' fun σ2 H2 => wipe σ2 (t.slots ++ t'.slots) = wipe σ (t.slots ++ t'.slots) ∧ tT X.K Φ c σ2 H2 fun b H3 =>
    if b = true then tI X.K Φ it' σ2 H3 fun J1 H4 => ∃ W1 : Nat → Nat → Hp → Prop, (∃ m, W1 0 m H4) ∧ ∀ j k H, W1 j k H →
      (J1.stop j H ∧ Nx H) ∨ (J1.go j H ∧ ∃ Nx1 : Hp → Prop, (∀ H', Nx1 H' → ∃ k', k' < k ∧ W1 (j + 1) k' H') ∧ ∀ x H', J1.yld j H x H' → gT X.K t' x (wipe σ2 t'.slots) H' fun σ3 H5 => wipe σ3 t'.slots = wipe σ2 t'.slots ∧ tT X.K Φ c' σ3 H5 fun b H6 =>
        if b = true then tE X.K Φ false e σ3 H6 fun y H7 => ∃ acc, H7 D = some (.lst acc) ∧ acc.length < sizeLine ∧ Nx1 (upd H7 D (.lst (acc ++ [y]))) else Nx1 H6)
    else Nx H3)
    (fun i Hc => ∃ Mc acc ra rest, Xt M1 Mc H1 Hc ∧ Mc D = none ∧ Hc D = some (.lst acc) ∧ DatL X.K Mc acc ra ∧ lcGo bnd (fun env => ev Φ c env) inn (xs.drop i) = some rest ∧ ra ++ rest = r)
    ⟨M1, [], [], r, Xt.newH x1.s hD, mD, upd_same, .nil, by rw [List.drop_zero]; exact q2, rfl⟩ ?_ ?_ ?_
  · rintro i Hc hi ⟨Mc, acc, ra, rest, xt, _⟩
    exact ⟨Mc, xt.m, xt.s⟩
  · rintro i x Hc H' hi ⟨Mc, acc, ra, rest, xt, mcD, hcD, dl, lg, er⟩ y
    obtain ⟨d, M2, q3, x2, r2⟩ := y Mc xt.m xt.s
    rw [List.drop_eq_getElem_cons hi] at lg
    have ed : xs[i] = d := by rw [List.getElem?_eq_getElem hi] at q3; exact Option.some.inj q3
    rw [ed] at lg
    simp only [lcGo] at lg
    obtain ⟨env1, q4, lg⟩ := Option.bind_eq_some_iff.mp lg
    have rdw : Rd0 X.K M2 (wipe σ (t.slots ++ t'.slots)) (wipeE env (t.slots ++ t'.slots)) := ((rd.mono x1.m).mono (xt.m.trans x2.m)).wipe _
    have xt2 := xt.trans x2
    rw [← hgo] at q4
    refine gT_ok (vs0 := t.slots ++ t'.slots) (fun _ z => List.mem_append_left _ z) x2.s rdw r2 q4 fun σ2 hw rd2 => ⟨by rw [hw, wipe_wipe], ?_⟩
    split at lg
    · rename_i q5
      obtain ⟨zs, q6, lg⟩ := Option.bind_eq_some_iff.mp lg
      obtain ⟨rest', q8, rfl⟩ := Option.map_eq_some_iff.mp lg
      rw [← hin] at q6
      obtain ⟨ys, q9, q10⟩ := Option.bind_eq_some_iff.mp q6
      refine ⟨M2, env1, true, x2.s, rd2, q5, fun M3 H3 x3 => iteT ⟨M3, env1, ys, x3.s, rd2.mono x3.m, q9, fun J1 M4 H4 x4 okJ1 => ?_⟩⟩
      have x24 := (x2.trans x3).trans x4
      have m4 := no_D x24 mcD hcD
      refine lc_from okJ1 (F := fun x H' Nx1 => gT X.K t' x (wipe σ2 t'.slots) H' fun σ3 H5 => wipe σ3 t'.slots = wipe σ2 t'.slots ∧ tT X.K Φ c' σ3 H5 fun b H6 =>
        if b = true then tE X.K Φ false e σ3 H6 fun y H7 => ∃ acc, H7 D = some (.lst acc) ∧ acc.length < sizeLine ∧ Nx1 (upd H7 D (.lst (acc ++ [y]))) else Nx1 H6)
        (fun j Hd => ∃ Md acc1 ra1 rest1, Same M4 Md ∧ Xt M1 Md H1 Hd ∧ Md D = none ∧ Hd D = some (.lst acc1) ∧ DatL X.K Md acc1 ra1 ∧ lcGo (fun x => bindT t' x (wipeE env1 t'.slots)) (fun env => ev Φ c' env) (fun env => (ev Φ e env).map fun y => [y]) (ys.drop j) = some rest1 ∧ ra1 ++ (rest1 ++ rest') = r)
        ⟨M4, acc, ra, zs, Same.refl _, xt.trans x24, m4, x24.h _ _ hcD, dl.mono x24.m, by rw [List.drop_zero]; exact q10, er⟩ ?_ ?_ ?_
      · rintro j Hd hj ⟨Md, acc1, ra1, rest1, s4, xd, _⟩
        exact ⟨Md, s4, xd.s⟩
      · rintro j u Hd H5 hj ⟨Md, acc1, ra1, rest1, s4, xd, mdD, hdD, dl1, lg1, er1⟩ y1
        obtain ⟨d1, M5, q11, x5, r5⟩ := y1 Md s4 xd.s
        rw [List.drop_eq_getElem_cons hj] at lg1
        have ed1 : ys[j] = d1 := by rw [List.getElem?_eq_getElem hj] at q11; exact Option.some.inj q11
        rw [ed1] at lg1
        simp only [lcGo] at lg1
        obtain ⟨env2, q12, lg1⟩ := Option.bind_eq_some_iff.mp lg1
        have rdw1 : Rd0 X.K M5 (wipe σ2 t'.slots) (wipeE env1 t'.slots) := (rd2.mono ((x3.m.trans x4.m).trans (s4.trans x5.m))).wipe _
        refine gT_ok (vs0 := t'.slots) (fun _ z => z) x5.s rdw1 r5 q12 fun σ3 hw3 rd3 => ⟨by rw [hw3, wipe_wipe], ?_⟩
        split at lg1
        · rename_i q13
          obtain ⟨ws, q14, lg1⟩ := Option.bind_eq_some_iff.mp lg1
          obtain ⟨yd, q15, rfl⟩ := Option.map_eq_some_iff.mp q14
          obtain ⟨rest2, q16, rfl⟩ := Option.map_eq_some_iff.mp lg1
          refine ⟨M5, env2, true, x5.s, rd3, q13, fun M6 H6 x6 => iteT ⟨M6, env2, yd, (fun z => nomatch z), x6.s, rd3.mono x6.m, q15, fun v M7 H7 x7 r7 => ?_⟩⟩
          have x57 := (x5.trans x6).trans x7
          have m7 := no_D x57 mdD hdD
          have hal : acc1.length < LIM := by
            have := dl1.length
            have e2 : r.length = ra1.length + (rest2.length + 1 + rest'.length) := by rw [← er1]; simp; omega
            omega
          exact ⟨acc1, x57.h _ _ hdD, LIM_lt hal, M7, acc1 ++ [v], ra1 ++ [yd], rest2, s4.trans x57.m, (xd.trans x57).grow hD m7, m7, upd_same, (dl1.mono x57.m).append (.cons r7 .nil), q16, by rw [← er1]; simp⟩
        · rename_i q13
          refine ⟨M5, env2, false, x5.s, rd3, q13, fun M6 H6 x6 => iteF ?_⟩
          have x56 := x5.trans x6
          exact ⟨M6, acc1, ra1, rest1, s4.trans x56.m, xd.trans x56, no_D x56 mdD hdD, x56.h _ _ hdD, dl1.mono x56.m, lg1, er1⟩
        · cases lg1
      · rintro Hd ⟨Md, acc1, ra1, rest1, s4, xd, mdD, hdD, dl1, lg1, er1⟩
        rw [List.drop_length] at lg1
        cases lg1
        exact ⟨Md, acc1, ra1, rest', xd, mdD, hdD, dl1, q8, er1⟩
    · rename_i q5
      refine ⟨M2, env1, false, x2.s, rd2, q5, fun M3 H3 x3 => iteF ?_⟩
      have x23 := x2.trans x3
      exact ⟨M3, acc, ra, rest, xt.trans x23, no_D x23 mcD hcD, x23.h _ _ hcD, dl.mono x23.m, lg, er⟩
    · cases lg
  · rintro Hc ⟨Mc, acc, ra, rest, xt, mcD, hcD, dl, lg, er⟩
    rw [List.drop_length] at lg
    cases lg
    rw [List.append_nil] at er
    subst er
    have xf := x1.trans xt
    have h0 : H D = none := x1.h.free hD
    cases fr with
    | true => exact k _ Mc Hc xf ⟨D, _, rfl, rfl, h0, hcD, mcD, acc, rfl, dl⟩
    | false => exact k _ _ Hc (xf.keep h0 mcD hcD) (.lst upd_same (dl.mono (same_new mcD)))
end
end PyD

/-! Expressions on dicts. -/
namespace PyD
open PySem L2 RZ PyProof.Rows

section
variable {X : Cx} {x y z : Expr} {xs : List Expr} {Φ : Fns} {a b c e : E} {pos apos cpos : Pos}
/-- a new dict at p -/
theorem Res.newD {K : PySem.W.Frag} {M H : Hp} {fr : Bool} {p : Addr} {ws : List (List L2.Key × V)} {kvs : List (List Int × D)} {Q : VK} (sm : Same M H) (hp : H p = none) (r : DatD K M ws kvs)
    (k : ∀ v M' H', Xt M M' H H' → Res K M' H H' fr v (.dic false kvs) → Q v H') : Q (.ref p) (upd H p (.dT ws)) := by
  cases fr with
  | false => exact k _ _ _ (Xt.new sm hp) (.dpl upd_same (r.mono (same_new (sm.free hp))))
  | true => exact k _ _ _ (Xt.newH sm hp) ⟨p, _, rfl, rfl, hp, upd_same, sm.free hp, ws, rfl, r⟩
theorem s_dnew {fr : Bool} : PE X (.Dict [] [] pos) (tE X.K Φ fr .dnew) := pe_imp pe_dnewT fun σ H Q ⟨M, env, d, il, sm, rd, q, k⟩ => by
  simp only [ev, Option.some.injEq] at q
  subst q
  exact fun p hp => Res.newD (fr := fr) sm hp .nil k
theorem s_nnew {fr : Bool} : PE X (.Dict [] [] pos) (tE X.K Φ fr .nnew) := pe_imp (pe_nnew pe_dnewT) fun σ H Q ⟨M, env, d, il, sm, rd, q, k⟩ => by
  simp only [ev, Option.some.injEq] at q
  subst q
  intro p hp
  cases fr with
  | false => exact k _ _ _ (Xt.new sm hp) (.ndic upd_same .nil)
  | true => exact k _ _ _ (Xt.newH sm hp) ⟨p, _, rfl, rfl, hp, upd_same, sm.free hp, [], rfl, .nil⟩
/-- what is made is locked at once -/
theorem pe_lock {t : TE} (h : PE X x t) : PE X x (fun σ H Q => t σ H fun v H1 => Q v H1 ∨ ∃ a u, H1 a = some u ∧ Mut (some u) ∧ ∀ od, Q v (upd H1 a (.frz od u))) := ⟨fun pins s σ H Q I q => by
  refine thn (h.run pins s σ H _ I q) fun w s1 ⟨v, H1, I1, rv, q1⟩ => ?_
  rcases q1 with q1 | ⟨a, u, h1, h2, h3⟩
  · exact ⟨v, H1, I1, rv, q1⟩
  · obtain ⟨od, I2⟩ := I1.lock h1 h2
    exact ⟨v, _, I2, rv, h3 od⟩⟩
theorem s_lk (ha : PE X x (tE X.K Φ true a)) : PE X x (tE X.K Φ false (.lk a)) := pe_imp (pe_lock ha) fun σ H Q ⟨M, env, d, il, sm, rd, q, k⟩ => by
  simp only [ev] at q
  obtain ⟨d0, q1, q⟩ := Option.bind_eq_some_iff.mp q
  split at q
  · rename_i hil
    cases q
    refine ⟨M, env, d0, (fun _ => hil), sm, rd, q1, fun v M1 H1 x1 res => ?_⟩
    obtain ⟨l, o, rfl, _, hl, h', ml, ow⟩ := res
    refine ow.cases (fun ds vs e1 e2 r1 => ?_) (fun kvs ws e1 e2 r1 => ?_) (fun c fs dx ws e1 e2 r1 => ?_) fun kvs ws e1 e2 r1 => ?_
    · subst e1 e2
      exact .inl (k _ _ H1 (x1.keep hl ml h') (.lst upd_same (r1.mono (same_new ml))))
    · subst e1 e2
      refine .inr ⟨l, _, h', True.intro, fun od => ?_⟩
      refine k _ (upd M1 l (.frz od (.dT ws))) _ ⟨x1.m.trans (same_new ml), fun b u e => ?_, fun b u e => ?_, fun b e => ?_⟩ (.dic upd_same (r1.mono (same_new ml)))
      · rw [upd_ne (ne_of_none e hl)]
        exact x1.h b u e
      · by_cases c : b = l
        · subst c
          rw [upd_same] at e ⊢
          exact e
        · rw [upd_ne c] at e ⊢
          exact x1.s b u e
      · by_cases c : b = l
        · subst c
          exact .inr (.inl hl)
        · rw [upd_ne c] at e
          exact x1.f b e
    · subst e1
      cases hil
    · subst e1 e2
      exact .inl (k _ _ H1 (x1.keep hl ml h') (.ndic upd_same (r1.mono (same_new ml))))
  · cases q
/-- {k: x} -/
def tDispT (tk tv : TE) : TE := fun σ H Q => ∀ p, H p = none → tk σ (upd H p (.dT [])) fun kx H1 => tv σ H1 fun vy H2 => ∃ b k, H2 p = some (.dT []) ∧ kx = .ref b ∧ H2 b = some (.tup (k.map kV)) ∧ Q (.ref p) (upd H2 p (.dT [(k, vy)]))
theorem vv1 {kx vy : V} {ws : List (Value × Value)} (r : VV [(kx, vy)] ws) : ∃ u1 u2, ws = [(u1, u2)] ∧ RelV kx u1 ∧ RelV vy u2 := by
  cases r with
  | @cons a b as bs h t =>
    cases t
    exact ⟨b.1, b.2, rfl, h.1, h.2⟩
theorem pe_dispT {tk tv : TE} (hu : X.A.units + 1 < cLine) (hk : PE X x tk) (hv : PE X y tv) : PE X (.Dict [some x] [y] pos) (tDispT tk tv) := by
  refine ⟨fun pins s σ H Q I q => ?_⟩
  have hn := I.hok.fresh (Nat.le_refl s.heap.objs.size)
  have I1 := I.laid (a := s.heap.objs.size) (o := .dT []) (h' := s.heap.push { cls := .type "dict", data := .dict #[] }) (t' := s.toks) (fun _ _ q => Heap.get?_push_of_some _ q) (Nat.le_refl _) (dt_empty s.heap I.big)
  refine wpAny_Dict_any rfl rfl (by simp) (by simp) (thn ((pps_cons hk hv pps_nil).run pins _ σ _ (fun ps H2 => match ps with
    | [(kx, vy)] => ∃ b k, H2 s.heap.objs.size = some (.dT []) ∧ kx = .ref b ∧ H2 b = some (.tup (k.map kV)) ∧ Q (.ref s.heap.objs.size) (upd H2 s.heap.objs.size (.dT [(k, vy)]))
    | _ => False) I1 (q _ hn)) fun ws s2 ⟨ps, H2, I2, rel, q2⟩ => ?_)
  match ps, rel, q2 with
  | [(kx, vy)], rel, ⟨b, k, e, ek, eb, q2⟩ =>
    subst ek
    · obtain ⟨u1, u2, rfl, h1, h2⟩ := vv1 rel
      obtain rfl : u1 = Value.ref b := h1
      obtain ⟨z, hd, xs, rel2, dd⟩ := dt_of I2.hok e
      cases rel2
      unfold storeAll
      rw [List.forIn_cons]
      refine wpAny_bind (wpAny_bind (wpAny_dictSet_heap (hsz := Nat.zero_le _) (knd := tupleKind (mixKind X.prog X.w)) (by show X.A.units < cLine; omega) (key_of I2.hok eb) dd fun h' dd' hs => wpAny_pure ?_))
      simp only [List.forIn_nil]
      refine wpAny_pure ⟨.ref s.heap.objs.size, _, ?_, rfl, q2⟩
      obtain ⟨oq, es, ep, hq, w2, w3, w4, _, w5⟩ := dd'
      refine d_write I2 (by rw [e]; exact True.intro) hs ⟨oq, hq⟩ ⟨(by rw [sizeLine_eq]; simp), hd, _, ((KT.put (kvs := []) (xs := []) .nil k eb h2).keeps fun c ys ec => ?_), oq, es, ep, hq, w2, w3, w4, w5⟩
      rw [upd_ne (ne_of ec e (fun z => nomatch z))]
      exact ec
theorem s_disp {fr : Bool} (hu : X.A.units + 1 < cLine) (ha : PE X x (tE X.K Φ false a)) (hb : PE X y (tE X.K Φ false b)) : PE X (.Dict [some x] [y] pos) (tE X.K Φ fr (.disp a b)) := pe_imp (pe_dispT hu ha hb) fun σ H Q ⟨M, env, d, il, sm, rd, q, k⟩ => by
  simp only [ev] at q
  obtain ⟨dy, q1, q⟩ := Option.bind_eq_some_iff.mp q
  obtain ⟨dz, q2, q⟩ := Option.bind_eq_some_iff.mp q
  obtain ⟨ky, q3, rfl⟩ := Option.map_eq_some_iff.mp q
  intro p hp
  have xp : Xt M M H (upd H p (.dT [])) := Xt.newH sm hp
  refine ⟨M, env, dy, (fun z => nomatch z), xp.s, rd, q1, fun v M1 H1 x1 r1 => ⟨M1, env, dz, (fun z => nomatch z), x1.s, rd.mono x1.m, q2, fun w M2 H2 x2 r2 => ?_⟩⟩
  have mp : M p = none := sm.free hp
  have x12 := x1.trans x2
  have hp2 : H2 p = some (.dT []) := x12.h _ _ upd_same
  have mp2 : M2 p = none := no_D x12 mp upd_same
  obtain ⟨b, rfl, hb⟩ := dat_key (Dat.mono x2.m r1) q3
  refine ⟨b, ky.map Sum.inl, hp2, rfl, x12.s _ _ hb, ?_⟩
  have xt : Xt M M2 H (upd H2 p (.dT [(ky.map Sum.inl, w)])) := by
    have x02 := xp.trans x12
    exact x02.grow hp mp2
  have dd : DatD X.K M2 [(ky.map Sum.inl, w)] [(ky, dz)] := .cons ky r2 .nil
  cases fr with
  | true => exact k _ M2 _ xt ⟨p, _, rfl, rfl, hp, upd_same, mp2, _, rfl, dd⟩
  | false => exact k _ _ _ (xt.keep hp mp2 upd_same) (.dpl upd_same (dd.mono (same_new mp2)))
theorem s_getd (hu : X.A.units + 1 < cLine) (ha : PE X x (tE X.K Φ false a)) (hb : PE X y (tE X.K Φ false b)) (hc : PE X z (tE X.K Φ false c)) (m : M2 X x "get" apos y z cpos) : PE X (.Call (.Attribute x "get" apos) [y, z] [] cpos) (tE X.K Φ false (.getd a b c)) :=
  pe_imp (pe_dget2 hu ha hb hc m) fun σ H Q ⟨M, env, d, il, sm, rd, q, k⟩ => by
    simp only [ev] at q
    obtain ⟨dx, q1, q⟩ := Option.bind_eq_some_iff.mp q
    obtain ⟨dy, q2, q⟩ := Option.bind_eq_some_iff.mp q
    obtain ⟨dz, q3, q⟩ := Option.bind_eq_some_iff.mp q
    cases dx with
    | dic lk kvs =>
      obtain ⟨ky, q4, rfl⟩ := Option.map_eq_some_iff.mp q
      refine ⟨M, env, _, (fun z => nomatch z), sm, rd, q1, fun v M1 H1 x1 r1 => ?_⟩
      obtain ⟨p, ws, rfl, hr, _⟩ := dat_dic x1.s r1
      refine ⟨p, rfl, .inr ⟨ws, hr⟩, M1, env, dy, (fun z => nomatch z), x1.s, rd.mono x1.m, q2, fun w M2 H2 x2 r2 => ⟨M2, env, dz, (fun z => nomatch z), x2.s, rd.mono (x1.m.trans x2.m), q3, fun u M3 H3 x3 r3 => ?_⟩⟩
      have m13 := x2.m.trans x3.m
      obtain ⟨p', o, e, g, g1, g2⟩ := dat_get x3.s (Dat.mono m13 r1) (Dat.mono x3.m r2) q4
      cases e
      refine ⟨o, g, k _ M3 H3 ((x1.trans x2).trans x3) ?_⟩
      cases hl : lookD kvs ky with
      | none => rw [g2 hl]; exact r3
      | some d => obtain ⟨t, rfl, dt⟩ := g1 d hl; exact dt
    | _ => cases q
theorem s_get1 (hu : X.A.units + 1 < cLine) (ha : PE X x (tE X.K Φ false a)) (hb : PE X y (tE X.K Φ false b)) (m : M1 X x "get" apos y cpos) : PE X (.Call (.Attribute x "get" apos) [y] [] cpos) (tE X.K Φ false (.get1 a b)) :=
  pe_imp (pe_dget1 hu ha hb m) fun σ H Q ⟨M, env, d, il, sm, rd, q, k⟩ => by
    simp only [ev] at q
    obtain ⟨dx, q1, q⟩ := Option.bind_eq_some_iff.mp q
    obtain ⟨dy, q2, q⟩ := Option.bind_eq_some_iff.mp q
    cases dx with
    | dic lk kvs =>
      obtain ⟨ky, q4, rfl⟩ := Option.map_eq_some_iff.mp q
      refine ⟨M, env, _, (fun z => nomatch z), sm, rd, q1, fun v M1 H1 x1 r1 => ?_⟩
      obtain ⟨p, ws, rfl, hr, _⟩ := dat_dic x1.s r1
      refine ⟨p, rfl, .inr ⟨ws, hr⟩, M1, env, dy, (fun z => nomatch z), x1.s, rd.mono x1.m, q2, fun w M2 H2 x2 r2 => ?_⟩
      obtain ⟨p', o, e, g, g1, g2⟩ := dat_get x2.s (Dat.mono x2.m r1) r2 q4
      cases e
      refine ⟨o, g, k _ M2 H2 (x1.trans x2) ?_⟩
      cases hl : lookD kvs ky with
      | none => rw [g2 hl]; exact .non
      | some d => obtain ⟨t, rfl, dt⟩ := g1 d hl; exact dt
    | _ => cases q
end
end PyD

/-! Statements. -/
namespace PyD
open PySem L2 RZ

/-- how slots, heap and the interpreter's environment lie: M0, H0: at the entry; M: the frozen part -/
structure Rel (K : PySem.W.Frag) (A0 : Addr) (M0 H0 M : Hp) (σ : L2.St) (env : FEnv) (H : Hp) : Prop where
  len : σ.length = env.length
  sub : Same M H
  m0 : Same M0 M
  h0 : Same H0 H
  fr : ∀ a, M a ≠ none → M0 a ≠ none ∨ Nw H0 a
  im : ∀ (i : Nat) (d : D), env[i]? = some (some (false, d)) → ∃ v, σ[i]? = some (some v) ∧ Dat K M v d
  mu : ∀ (i : Nat) (d : D), env[i]? = some (some (true, d)) → ∃ l o, σ[i]? = some (some (.ref l)) ∧ M l = none ∧ H0 l = none ∧ H l = some o ∧ Own K M l o d
  sep : ∀ (i j : Nat) (d e : D) (l : Addr), env[i]? = some (some (true, d)) → env[j]? = some (some (true, e)) → σ[i]? = some (some (.ref l)) → σ[j]? = some (some (.ref l)) → i = j
  slf : ∀ (i : Nat) (c : Str) (fs : List (Str × D)), env[i]? = some (some (true, .obj c fs)) → σ[i]? = some (some (.ref A0))

section
variable {K : PySem.W.Frag} {A0 : Addr} {M0 H0 M M' H H' : Hp} {σ : L2.St} {env : FEnv} {Φ : Fns}

theorem map_at {α β : Type} {f : α → β} {l : List α} {i : Nat} {b : β} (h : (l.map f)[i]? = some b) : ∃ a, l[i]? = some a ∧ f a = b := by
  rw [List.getElem?_map] at h
  exact Option.map_eq_some_iff.mp h
theorem Rel.hid (r : Rel K A0 M0 H0 M σ env H) : Rd0 K M σ (PyD.hid env) := by
  refine ⟨by simp [PyD.hid, r.len], fun i d h => ?_⟩
  obtain ⟨o, h1, h2⟩ := map_at h
  cases o with
  | none => cases h2
  | some p =>
    obtain ⟨b, d'⟩ := p
    cases b with
    | false =>
      have e : d' = d := Option.some.inj h2
      subst e
      exact r.im i d' h1
    | true => cases h2

/-- the address of an own cell -/
def MuAt (σ : L2.St) (env : FEnv) (a : Addr) : Prop := ∃ (i : Nat) (d : D), env[i]? = some (some (true, d)) ∧ σ[i]? = some (some (.ref a))
/-- an own cell of the kind p -/
def MuP (p : HO → Bool) (H : Hp) (σ : L2.St) (env : FEnv) (a : Addr) : Prop := MuAt σ env a ∧ ∃ o, H a = some o ∧ p o = true
open Classical in
/-- the frozen part with the own cells of the kind p -/
noncomputable def plus (p : HO → Bool) (M H : Hp) (σ : L2.St) (env : FEnv) : Hp := fun a => if MuP p H σ env a then H a else M a
open Classical in
/-- without them again -/
noncomputable def minus (p : HO → Bool) (M' H : Hp) (σ : L2.St) (env : FEnv) : Hp := fun a => if MuP p H σ env a then none else M' a
theorem Rel.muNone (r : Rel K A0 M0 H0 M σ env H) {a : Addr} (h : MuAt σ env a) : M a = none ∧ H0 a = none ∧ ∃ o, H a = some o ∧ isOwn o = true := by
  obtain ⟨i, d, h1, h2⟩ := h
  obtain ⟨l, o, e, ml, hl, hh, ow⟩ := r.mu i d h1
  rw [h2] at e
  cases e
  exact ⟨ml, hl, o, hh, ow.is⟩
variable {p : HO → Bool}
theorem Rel.plus (r : Rel K A0 M0 H0 M σ env H) : Same M (plus p M H σ env) ∧ Same (plus p M H σ env) H := by
  refine ⟨fun a o e => ?_, fun a o e => ?_⟩
  · unfold PyD.plus
    split
    · rename_i h
      rw [(r.muNone h.1).1] at e
      cases e
    · exact e
  · unfold PyD.plus at e
    split at e
    · exact e
    · exact r.sub a o e
theorem Rel.shown (r : Rel K A0 M0 H0 M σ env H) {f : Option (Bool × D) → Option D} (hf : ∀ b d d', f (some (b, d)) = some d' → d' = d) (hn : f none = none) (hp : ∀ d d' o l, f (some (true, d)) = some d' → Own K M l o d → p o = true) : Rd0 K (PyD.plus p M H σ env) σ (env.map f) := by
  refine ⟨by simp [r.len], fun i d h => ?_⟩
  obtain ⟨o, h1, h2⟩ := map_at h
  cases o with
  | none => rw [hn] at h2; cases h2
  | some q =>
    obtain ⟨b, d'⟩ := q
    have e := hf b d' d h2
    subst e
    cases b with
    | false =>
      obtain ⟨v, q1, q2⟩ := r.im i d h1
      exact ⟨v, q1, q2.mono r.plus.1⟩
    | true =>
      obtain ⟨l, o, q1, ml, _, hl, ow⟩ := r.mu i d h1
      refine ⟨_, q1, (ow.mono (r.plus (p := p)).1).dat ?_⟩
      unfold PyD.plus
      rw [if_pos ⟨⟨i, _, h1, q1⟩, o, hl, hp _ _ o _ h2 ow⟩]
      exact hl
/-- behind an evaluation over the frozen part with the own cells -/
theorem Rel.minus (r : Rel K A0 M0 H0 M σ env H) (x : Xt (PyD.plus p M H σ env) M' H H') : Xt M (PyD.minus p M' H σ env) H H' := by
  refine ⟨fun a o e => ?_, x.h, fun a o e => ?_, fun a h => ?_⟩
  · unfold PyD.minus
    split
    · rename_i h
      rw [(r.muNone h.1).1] at e
      cases e
    · exact x.m a o (r.plus.1 a o e)
  · unfold PyD.minus at e
    split at e
    · cases e
    · exact x.s a o e
  · unfold PyD.minus at h
    split at h
    · exact absurd rfl h
    · rename_i hn
      rcases x.f a h with z | z
      · left
        unfold PyD.plus at z
        rw [if_neg hn] at z
        exact z
      · exact .inr z
theorem Rel.cell (r : Rel K A0 M0 H0 M σ env H) (x : Xt (PyD.plus p M H σ env) M' H H') {a : Addr} {u : HO} (h : MuP p H σ env a) (e : M' a = some u) : isOwn u = true ∧ p u = true := by
  obtain ⟨_, _, o, ho, io⟩ := r.muNone h.1
  obtain ⟨o2, ho2, po⟩ := h.2
  rw [ho] at ho2
  cases ho2
  have h1 := x.h a _ ho
  have h2 := x.s a u e
  rw [h1] at h2
  cases h2
  exact ⟨io, po⟩
theorem Rel.minusT (r : Rel K A0 M0 H0 M σ env H) (x : Xt (PyD.plus p M H σ env) M' H H') : ∀ a xs, M' a = some (.tup xs) → PyD.minus p M' H σ env a = some (.tup xs) := by
  intro a xs h
  unfold PyD.minus
  split
  · rename_i hm
    cases (r.cell x hm h).1
  · exact h
theorem Rel.minusO (r : Rel K A0 M0 H0 M σ env H) (x : Xt (PyD.plus isIns M H σ env) M' H H') : ∀ a u, M' a = some u → isIns u = false → PyD.minus isIns M' H σ env a = some u := by
  intro a u e hu
  unfold PyD.minus
  split
  · rename_i hm
    rw [(r.cell x hm e).2] at hu
    cases hu
  · exact e

theorem keepD_isL {m : Md} {d : D} (h : keepD m d = true) : m.own = true → isL d = true := fun e => by
  obtain ⟨o, s, so⟩ := m
  cases e
  have h1 := (Bool.and_eq_true_iff.mp h).1
  cases s <;> cases d <;> first | rfl | cases h1 | (rename_i lk _; cases lk <;> first | rfl | cases h1)
theorem Own.flatly {M2 : Hp} {a : Addr} {o : HO} {d : D} (e : ∀ a xs, M a = some (.tup xs) → M2 a = some (.tup xs)) (h : Own K M a o d) (f : flatO d = true) : Own K M2 a o d := by
  refine h.cases (fun ds vs e1 e2 r => ?_) (fun kvs ws e1 e2 r => ?_) (fun c fs dx ws e1 e2 r => ?_) fun kvs ws e1 e2 r => ?_
  · subst e1; exact ⟨vs, e2, r.flatly e f⟩
  · subst e1; exact ⟨ws, e2, r.flatly e f⟩
  · subst e1; cases f
  · subst e1; exact ⟨ws, e2, r.flatly e f⟩
theorem Own.nobly {M2 : Hp} {a : Addr} {o : HO} {d : D} (e : ∀ a u, M a = some u → isIns u = false → M2 a = some u) (h : Own K M a o d) (il : isL d = true) (f : d.nob = true) : Own K M2 a o d := by
  refine h.cases (fun ds vs e1 e2 r => ?_) (fun kvs ws e1 e2 r => ?_) (fun c fs dx ws e1 e2 r => ?_) fun kvs ws e1 e2 r => ?_
  · subst e1; exact ⟨vs, e2, r.nobly e f⟩
  · subst e1; exact ⟨ws, e2, r.nobly e f⟩
  · subst e1; cases il
  · subst e1; cases f
theorem nob_own {m : Md} {d : D} (h : keepD m d = true) (hs : m.so = true) : d.nob = true := by
  have h1 := (Bool.and_eq_true_iff.mp h).2
  rw [hs] at h1
  simpa using h1
/-- an expression in a mode -/
theorem evM_ok {m : Md} {e : E} {d : D} {Q : VK} (r : Rel K A0 M0 H0 M σ env H) (q : evM Φ e m env = some d) (k : ∀ v M' H', Xt M M' H H' → Res K M' H H' m.own v d → Q v H') : tE K Φ m.own e σ H Q := by
  unfold evM at q
  obtain ⟨d', q1, q2⟩ := Option.bind_eq_some_iff.mp q
  split at q2
  · rename_i hk
    cases q2
    have hk1 := (Bool.and_eq_true_iff.mp hk).1
    have flatly : ∀ {p : HO → Bool}, m.sh = true → Rd0 K (PyD.plus p M H σ env) σ (seen m env) → tE K Φ m.own e σ H Q := fun {p} hs rd => by
      obtain ⟨s1, s2⟩ := r.plus (p := p)
      refine ⟨_, _, d, keepD_isL hk, s2, rd, q1, fun v M' H' x res => ?_⟩
      have ht := r.minusT x
      refine k v _ H' (r.minus x) ?_
      cases ho : m.own with
      | false =>
        rw [ho, hs] at hk1
        rw [ho] at res
        exact Dat.flatly ht res hk1
      | true =>
        rw [ho, hs] at hk1
        rw [ho] at res
        obtain ⟨l, o, e1, e2, hl, h1, h2, h3⟩ := res
        refine ⟨l, o, e1, e2, hl, h1, ?_, h3.flatly ht hk1⟩
        unfold PyD.minus
        split
        · rfl
        · exact h2
    cases hs : m.sh with
    | false =>
      cases hso : m.so with
      | false =>
        have es : seen m env = PyD.hid env := by unfold seen; rw [hs, hso]
        rw [es] at q1
        exact ⟨M, _, d, keepD_isL hk, r.sub, r.hid, q1, k⟩
      | true =>
        have es : seen m env = sho env := by unfold seen; rw [hs, hso]
        rw [es] at q1
        have rd : Rd0 K (PyD.plus isIns M H σ env) σ (sho env) := r.shown (fun b d d' h => by cases b <;> cases d <;> cases h <;> rfl) rfl fun d d' o l h ow => by
          cases d with
          | obj c fs => obtain ⟨dx, ws, rfl, _⟩ := ow; rfl
          | _ => cases h
        obtain ⟨s1, s2⟩ := r.plus (p := isIns)
        refine ⟨_, _, d, keepD_isL hk, s2, rd, q1, fun v M' H' x res => ?_⟩
        have ht := r.minusO x
        have hn := nob_own hk hso
        refine k v _ H' (r.minus x) ?_
        cases ho : m.own with
        | false =>
          rw [ho] at res
          exact Dat.nobly ht res hn
        | true =>
          rw [ho] at res
          obtain ⟨l, o, e1, e2, hl, h1, h2, h3⟩ := res
          refine ⟨l, o, e1, e2, hl, h1, ?_, h3.nobly ht e2 hn⟩
          unfold PyD.minus
          split
          · rfl
          · exact h2
    | true =>
      cases hso : m.so with
      | false =>
        have es : seen m env = shl env := by unfold seen; rw [hs, hso]
        refine flatly (p := fun _ => true) hs ?_
        rw [es]
        exact r.shown (fun b d d' h => by cases b <;> cases d <;> cases h <;> rfl) rfl fun d d' o l h ow => rfl
      | true =>
        have es : seen m env = shw env := by unfold seen; rw [hs, hso]
        refine flatly (p := fun _ => true) hs ?_
        rw [es]
        exact r.shown (fun b d d' h => by cases h; rfl) rfl fun d d' o l h ow => rfl
  · cases q2
/-- an expression that is looked at only -/
theorem Rel.shw (r : Rel K A0 M0 H0 M σ env H) : Same (PyD.plus (fun _ => true) M H σ env) H ∧ Rd0 K (PyD.plus (fun _ => true) M H σ env) σ (PyD.shw env) :=
  ⟨r.plus.2, r.shown (fun b d d' h => by cases h; rfl) rfl fun d d' o l h ow => rfl⟩

theorem Rel.step (r : Rel K A0 M0 H0 M σ env H) (x : Xt M M' H H') : Rel K A0 M0 H0 M' σ env H' := by
  refine ⟨r.len, x.s, r.m0.trans x.m, r.h0.trans x.h, fun a h => ?_, fun i d h => ?_, fun i d h => ?_, r.sep, r.slf⟩
  · rcases x.f a h with z | z
    · exact r.fr a z
    · exact .inr (z.back r.h0)
  · obtain ⟨v, q1, q2⟩ := r.im i d h
    exact ⟨v, q1, q2.mono x.m⟩
  · obtain ⟨l, o, q1, ml, h0, hl, q2⟩ := r.mu i d h
    refine ⟨l, o, q1, ?_, h0, x.h _ _ hl, q2.mono x.m⟩
    cases z : M' l with
    | none => rfl
    | some u =>
      rcases x.f l (by rw [z]; exact fun z => nomatch z) with w | w
      · exact absurd ml w
      · exact (w.no hl q2.ntup).elim
theorem set_at {α : Type} {l : List α} {i j : Nat} {a b : α} (h : (l.set i a)[j]? = some b) : (i = j ∧ a = b ∧ j < l.length) ∨ (i ≠ j ∧ l[j]? = some b) := by
  by_cases e : i = j
  · subst e
    by_cases hl : i < l.length
    · rw [List.getElem?_set_self hl] at h
      exact .inl ⟨rfl, Option.some.inj h, hl⟩
    · rw [List.getElem?_eq_none (by rw [List.length_set]; omega)] at h
      cases h
  · rw [List.getElem?_set_ne e] at h
    exact .inr ⟨e, h⟩
/-- a slot is stored -/
theorem Rel.set {own : Bool} {v : V} {d : D} {Hb : Hp} (r : Rel K A0 M0 H0 M σ env H) (i : Nat) (res : Res K M Hb H own v d) (hb : Same H0 Hb) (ne : ∀ (j : Nat) (e : D) (l : Addr), i ≠ j → env[j]? = some (some (true, e)) → σ[j]? = some (some (.ref l)) → own = true → v ≠ .ref l) :
    Rel K A0 M0 H0 M (σ.set i (some v)) (env.set i (some (own, d))) H := by
  refine ⟨by simp [r.len], r.sub, r.m0, r.h0, r.fr, fun j e h => ?_, fun j e h => ?_, fun j j' e e' l h h' h1 h2 => ?_, fun j c fs h => ?_⟩
  rotate_right
  · rcases set_at h with ⟨rfl, h1, hl⟩ | ⟨hj, h1⟩
    · cases h1
      obtain ⟨l, o, e1, e2, _⟩ := res
      cases e2
    · rw [List.getElem?_set_ne hj]
      exact r.slf j c fs h1
  · rcases set_at h with ⟨rfl, h1, hl⟩ | ⟨hj, h1⟩
    · cases h1
      exact ⟨v, List.getElem?_set_self (by rw [r.len]; exact hl), res⟩
    · rw [List.getElem?_set_ne hj]
      exact r.im j e h1
  · rcases set_at h with ⟨rfl, h1, hl⟩ | ⟨hj, h1⟩
    · cases h1
      obtain ⟨l, o, e1, e2, hbl, hl2, ml, dl⟩ := res
      subst e1
      exact ⟨l, _, List.getElem?_set_self (by rw [r.len]; exact hl), ml, hb.free hbl, hl2, dl⟩
    · rw [List.getElem?_set_ne hj]
      exact r.mu j e h1
  · rcases set_at h with ⟨rfl, q1, _⟩ | ⟨hj, q1⟩
    · rcases set_at h' with ⟨rfl, q2, _⟩ | ⟨hj', q2⟩
      · rfl
      · exfalso
        rw [List.getElem?_set_ne hj'] at h2
        rcases set_at h1 with ⟨_, q3, _⟩ | ⟨q3, _⟩
        · cases q1
          cases q3
          exact ne j' e' l hj' q2 h2 rfl rfl
        · exact q3 rfl
    · rcases set_at h' with ⟨rfl, q2, _⟩ | ⟨hj', q2⟩
      · exfalso
        rw [List.getElem?_set_ne hj] at h1
        rcases set_at h2 with ⟨_, q3, _⟩ | ⟨q3, _⟩
        · cases q2
          cases q3
          exact ne j e l hj q1 h1 rfl rfl
        · exact q3 rfl
      · rw [List.getElem?_set_ne hj] at h1
        rw [List.getElem?_set_ne hj'] at h2
        exact r.sep j j' e e' l q1 q2 h1 h2
/-- what was just made is stored -/
theorem Rel.asg {own : Bool} {v : V} {d : D} (r : Rel K A0 M0 H0 M σ env H) (i : Nat) (x : Xt M M' H H') (res : Res K M' H H' own v d) : Rel K A0 M0 H0 M' (σ.set i (some v)) (env.set i (some (own, d))) H' := by
  refine (r.step x).set i res r.h0 fun j e l hj h1 h2 ho hv => ?_
  subst ho
  obtain ⟨l', o, e1, e2, hbl, _⟩ := res
  rw [hv] at e1
  cases e1
  obtain ⟨_, _, vs', hl, _⟩ := r.muNone ⟨j, e, h1, h2⟩
  rw [hbl] at hl
  cases hl
/-- an own cell is changed in place -/
theorem Rel.put {i : Nat} {l : Addr} {d d' : D} {o : HO} (r : Rel K A0 M0 H0 M σ env H) (h : env[i]? = some (some (true, d))) (hs : σ[i]? = some (some (.ref l))) (dl : Own K M l o d') (hd : ∀ c fs, d' = .obj c fs → ∃ c0 fs0, d = .obj c0 fs0 := by intro _ _ z; cases z) :
    Rel K A0 M0 H0 M σ (env.set i (some (true, d'))) (upd H l o) := by
  obtain ⟨ml, h0l, _⟩ := r.muNone ⟨i, d, h, hs⟩
  have hi : i < env.length := (List.getElem?_eq_some_iff.mp h).1
  refine ⟨by simp [r.len], fun a o e => ?_, r.m0, fun a o e => ?_, r.fr, fun j e hj => ?_, fun j e hj => ?_, fun j j' e e' l' q1 q2 => ?_, fun j c fs hj => ?_⟩
  rotate_right
  · rcases set_at hj with ⟨rfl, q, _⟩ | ⟨_, q⟩
    · obtain ⟨c0, fs0, e0⟩ := hd c fs (congrArg Prod.snd (Option.some.inj q))
      subst e0
      exact r.slf _ _ _ h
    · exact r.slf j c fs q
  · rw [upd_ne (ne_of_none e ml)]
    exact r.sub a o e
  · rw [upd_ne (ne_of_none e h0l)]
    exact r.h0 a o e
  · rcases set_at hj with ⟨_, q, _⟩ | ⟨_, q⟩
    · cases q
    · exact r.im j e q
  · rcases set_at hj with ⟨rfl, q, _⟩ | ⟨hne, q⟩
    · cases q
      exact ⟨l, o, hs, ml, h0l, upd_same, dl⟩
    · obtain ⟨l', o', q1, m', h', hl', dl'⟩ := r.mu j e q
      refine ⟨l', o', q1, m', h', ?_, dl'⟩
      rw [upd_ne]
      · exact hl'
      · intro z
        subst z
        exact hne (r.sep i j d e l' h q hs q1)
  · intro q3 q4
    rcases set_at q1 with ⟨z1, _, _⟩ | ⟨_, p1⟩
    · rcases set_at q2 with ⟨z2, _, _⟩ | ⟨_, p2⟩
      · omega
      · subst z1
        exact r.sep i j' d e' l' h p2 q3 q4
    · rcases set_at q2 with ⟨z2, _, _⟩ | ⟨_, p2⟩
      · subst z2
        exact r.sep j i e d l' p1 h q3 q4
      · exact r.sep j j' e e' l' p1 p2 q3 q4
/-- n locks at most, then P -/
def LkN : Nat → Hp → (Hp → Prop) → Prop
  | 0, H, P => P H
  | n + 1, H, P => LkN n H P ∨ ∃ d u, H d = some u ∧ Mut (some u) ∧ ∀ od, LkN n (upd H d (.frz od u)) P
theorem LkN.imp {P P' : Hp → Prop} (i : ∀ H, P H → P' H) : ∀ {n : Nat} {H : Hp}, LkN n H P → LkN n H P'
  | 0, H, h => i H h
  | n + 1, H, h => by
    rcases h with h | ⟨d, u, h1, h2, h3⟩
    · exact .inl (LkN.imp i h)
    · exact .inr ⟨d, u, h1, h2, fun od => LkN.imp i (h3 od)⟩
theorem LkN.none {P : Hp → Prop} : ∀ {n : Nat} {H : Hp}, P H → LkN n H P
  | 0, _, h => h
  | _ + 1, _, h => .inl (LkN.none h)
/-- an own cell is frozen (it lies as u in the heap now) -/
theorem Rel.frzAt {i : Nat} {l : Addr} {d d' : D} {o u : HO} (r : Rel K A0 M0 H0 M σ env H) (h : env[i]? = some (some (true, d))) (q1 : σ[i]? = some (some (.ref l))) (dat : Dat K (upd M l u) (.ref l) d') :
    Same M (upd M l u) ∧ Rel K A0 M0 H0 (upd M l u) σ (env.set i (some (false, d'))) (upd H l u) := by
  obtain ⟨ml, h0l, _⟩ := r.muNone ⟨i, d, h, q1⟩
  have s1 : Same M (upd M l u) := same_new ml
  refine ⟨s1, by simp [r.len], fun a o e => ?_, r.m0.trans s1, fun a o e => ?_, fun a e => ?_, fun j e hj => ?_, fun j e hj => ?_, fun j j' e e' l' p1 p2 => ?_, fun j c fs hj => ?_⟩
  rotate_right
  · rcases set_at hj with ⟨_, q, _⟩ | ⟨_, q⟩
    · cases q
    · exact r.slf j c fs q
  · by_cases q : a = l
    · subst q
      rw [upd_same] at e ⊢
      exact e
    · rw [upd_ne q] at e ⊢
      exact r.sub a o e
  · rw [upd_ne (ne_of_none e h0l)]
    exact r.h0 a o e
  · by_cases q : a = l
    · subst q
      exact .inr (.inl h0l)
    · rw [upd_ne q] at e
      exact r.fr a e
  · rcases set_at hj with ⟨rfl, q, _⟩ | ⟨_, q⟩
    · cases q
      exact ⟨_, q1, dat⟩
    · obtain ⟨v, w1, w2⟩ := r.im j e q
      exact ⟨v, w1, w2.mono s1⟩
  · rcases set_at hj with ⟨rfl, q, _⟩ | ⟨hne, q⟩
    · cases q
    · obtain ⟨l', o', w1, m', h', hl', dl'⟩ := r.mu j e q
      have hne' : l' ≠ l := by
        intro z
        subst z
        exact hne (r.sep i j _ e l' h q q1 w1)
      exact ⟨l', o', w1, by rw [upd_ne hne']; exact m', h', by rw [upd_ne hne']; exact hl', dl'.mono s1⟩
  · rcases set_at p1 with ⟨_, z, _⟩ | ⟨_, p1⟩
    · cases z
    · rcases set_at p2 with ⟨_, z, _⟩ | ⟨_, p2⟩
      · cases z
      · exact r.sep j j' e e' l' p1 p2
theorem upd_id {H : Hp} {l : Addr} {o : HO} (h : H l = some o) : upd H l o = H := funext fun a => by
  by_cases q : a = l
  · subst q; rw [upd_same, h]
  · rw [upd_ne q]
theorem Rel.frz1 (r : Rel K A0 M0 H0 M σ env H) (i : Nat) : LkN 1 H fun H' => ∃ M', Same M M' ∧ Rel K A0 M0 H0 M' σ (PyD.frz1 env i) H' := by
  unfold PyD.frz1
  split
  · rename_i d hj
    have h : env[i]? = some (some (true, d)) := by
      cases e : env[i]? with
      | none => rw [e] at hj; cases hj
      | some o => rw [e] at hj; exact congrArg some hj
    obtain ⟨l, o, q1, ml, h0l, hl, ow⟩ := r.mu i d h
    have s1 : ∀ u, Same M (upd M l u) := fun u => same_new ml
    have stay : ∀ {d' : D}, Dat K (upd M l o) (.ref l) d' → LkN 1 H fun H' => ∃ M', Same M M' ∧ Rel K A0 M0 H0 M' σ (env.set i (some (false, d'))) H' := fun {d'} dt => by
      have z := r.frzAt (o := o) (u := o) h q1 dt
      rw [upd_id hl] at z
      exact LkN.none ⟨_, z⟩
    refine ow.cases (fun ds vs e1 e2 r1 => ?_) (fun kvs ws e1 e2 r1 => ?_) (fun c fs dx ws e1 e2 r1 => ?_) fun kvs ws e1 e2 r1 => ?_
    · subst e1
      exact stay ((ow.mono (s1 o)).dat upd_same)
    · subst e1 e2
      exact .inr ⟨l, _, hl, True.intro, fun od => ⟨_, r.frzAt (o := .dT ws) (u := .frz od (.dT ws)) h q1 (.dic upd_same (r1.mono (s1 _)))⟩⟩
    · subst e1
      exact stay ((ow.mono (s1 o)).dat upd_same)
    · subst e1
      exact stay ((ow.mono (s1 o)).dat upd_same)
  · exact LkN.none ⟨M, Same.refl M, r⟩
theorem LkN.add {P : Hp → Prop} : ∀ {m n : Nat} {H : Hp}, LkN m H (fun H' => LkN n H' P) → LkN (m + n) H P
  | 0, n, H, h => by rw [Nat.zero_add]; exact h
  | m + 1, n, H, h => by
    rw [show m + 1 + n = (m + n) + 1 by omega]
    rcases h with h | ⟨d, u, h1, h2, h3⟩
    · exact .inl (LkN.add h)
    · exact .inr ⟨d, u, h1, h2, fun od => LkN.add (h3 od)⟩
theorem Rel.frzAll : ∀ {is : List Nat} {M H : Hp} {env : FEnv}, Rel K A0 M0 H0 M σ env H → LkN is.length H fun H' => ∃ M', Same M M' ∧ Rel K A0 M0 H0 M' σ (PyD.frzAll env is) H'
  | [], M, H, env, r => ⟨M, Same.refl M, r⟩
  | i :: is, M, H, env, r => by
    have h1 := r.frz1 i
    rw [List.length_cons, Nat.add_comm]
    refine LkN.add (LkN.imp (fun H' ⟨M1, s1, r1⟩ => ?_) h1)
    exact LkN.imp (fun H2 ⟨M2, s2, r2⟩ => ⟨M2, s1.trans s2, r2⟩) (Rel.frzAll (is := is) r1)
theorem Rel.one (r : Rel K A0 M0 H0 M σ env H) (i : Nat) {v : V} {d : D} (h : Dat K M v d) : Rel K A0 M0 H0 M (σ.set i (some v)) (env.set i (some (false, d))) H :=
  r.set (own := false) (Hb := H) i h r.h0 fun j e l hj h1 h2 ho => nomatch ho
theorem setAllF_len : ∀ {is : List Nat} {ds : List D} {env env' : FEnv}, bindF.setAllF is ds env = some env' → ds.length = is.length
  | [], [], _, _, _ => rfl
  | i :: is, d :: ds, env, env', h => by
    simp [setAllF_len (is := is) (ds := ds) h]
  | [], _ :: _, _, _, h => by cases h
  | _ :: _, [], _, _, h => by cases h
theorem Rel.bindS {P : L2.St → Hp → Prop} : ∀ {is : List Nat} {vs : List V} {ds : List D} {σ : L2.St} {env env' : FEnv}, Rel K A0 M0 H0 M σ env H → DatL K M vs ds → bindF.setAllF is ds env = some env' → (∀ σ', Rel K A0 M0 H0 M σ' env' H → P σ' H) → gSeq is vs σ H P
  | [], _, _, σ, env, env', r, .nil, q, k => by
    cases q
    exact ⟨rfl, k σ r⟩
  | i :: is, _, _, σ, env, env', r, .cons h dl, q, k => ⟨_, _, rfl, Rel.bindS (r.one i h) dl q k⟩
  | [], _, _, _, _, _, _, .cons _ _, q, _ => by cases q
  | _ :: _, _, _, _, _, _, _, .nil, q, _ => by cases q
theorem Rel.bind {t : T} {v : V} {d : D} {env' : FEnv} {P : L2.St → Hp → Prop} (r : Rel K A0 M0 H0 M σ env H) (h : Dat K M v d) (q : bindF t d env = some env') (k : ∀ σ', Rel K A0 M0 H0 M σ' env' H → P σ' H) : gT K t v σ H P := by
  cases t with
  | nm i =>
    cases q
    exact k _ (r.one i h)
  | tp is =>
    cases h with
    | tup h dl => exact ⟨_, _, rfl, SqT.of (r.sub _ _ h), by rw [dl.length]; exact setAllF_len q, Rel.bindS r dl q k⟩
    | _ => cases q

/-! ### readings of statements -/
def OutOk (K : PySem.W.Frag) (A0 : Addr) (M0 H0 M : Hp) (D : Ends) : Out → Prop
  | .nx env => ∀ σ' M' H', Rel K A0 M0 H0 M' σ' env H' → Same M M' → D.nx σ' H'
  | .bk env => ∀ σ' M' H', Rel K A0 M0 H0 M' σ' env H' → Same M M' → D.bk σ' H'
  | .ct env => ∀ σ' M' H', Rel K A0 M0 H0 M' σ' env H' → Same M M' → D.ct σ' H'
  | .rt own d => ∀ v M' H', Xt M0 M' H0 H' → Res K M' H0 H' own v d → D.rt v H'
def tS (K : PySem.W.Frag) (Φ : Fns) (s : S) : TS := fun D σ H => ∃ A0 M0 H0 M env out, Rel K A0 M0 H0 M σ env H ∧ evS Φ s env = some out ∧ OutOk K A0 M0 H0 M D out
theorem OutOk.mono {D : Ends} {M1 : Hp} {out : Out} (h : OutOk K A0 M0 H0 M D out) (s : Same M M1) : OutOk K A0 M0 H0 M1 D out := by
  cases out with
  | nx env => exact fun σ' M' H' r s' => h σ' M' H' r (s.trans s')
  | bk env => exact fun σ' M' H' r s' => h σ' M' H' r (s.trans s')
  | ct env => exact fun σ' M' H' r s' => h σ' M' H' r (s.trans s')
  | rt own d => exact h
theorem Rel.xt (r : Rel K A0 M0 H0 M σ env H) : Xt M0 M H0 H := ⟨r.m0, r.h0, r.sub, r.fr⟩

section
variable {X : Cx} {x y z tg : Expr} {xs : List Expr} {a b c e : E} {pos pos' : Pos} {st : Stmt} {sts sts' : List Stmt} {s s' : S}
theorem ps_imp {t t' : TS} (h : PS X st t) (i : ∀ D σ H, t' D σ H → t D σ H) : PS X st t' := ⟨fun pins s σ H D I q => h.run pins s σ H D I (i D σ H q)⟩
theorem pss_imp {t t' : TS} (h : PSs X sts t) (i : ∀ D σ H, t' D σ H → t D σ H) : PSs X sts t' := ⟨fun pins s σ H D I q => h.run pins s σ H D I (i D σ H q)⟩

theorem w_skip : PSs X [] (tS X.K Φ .skip) := pss_imp pss_nil fun D σ H ⟨A0, M0, H0, M, env, out, r, q, k⟩ => by
  cases q
  exact k σ M H r (Same.refl M)
theorem w_one (h : PS X st (tS X.K Φ s)) : PSs X [st] (tS X.K Φ s) := pss_one h
theorem w_cons (h1 : PS X st (tS X.K Φ s)) (h2 : PSs X sts (tS X.K Φ s')) : PSs X (st :: sts) (tS X.K Φ (.seq s s')) :=
  pss_imp (pss_cons h1 h2) fun D σ H ⟨A0, M0, H0, M, env, out, r, q, k⟩ => by
    simp only [evS] at q
    obtain ⟨o, q1, q2⟩ := Option.bind_eq_some_iff.mp q
    refine ⟨A0, M0, H0, M, env, o, r, q1, ?_⟩
    cases o with
    | nx env1 => exact fun σ1 M1 H1 r1 s1 => ⟨A0, M0, H0, M1, env1, out, r1, q2, k.mono s1⟩
    | bk env1 => cases q2; exact k
    | ct env1 => cases q2; exact k
    | rt own d => cases q2; exact k
theorem ps_lk {n : Nat} {t : TS} (h : PS X st t) : PS X st (fun D σ H => LkN n H fun H' => t D σ H') := ⟨fun pins s σ H D I q => by
  induction n generalizing H with
  | zero => exact h.run pins s σ H D I q
  | succ n ih =>
    rcases q with q | ⟨d, u, h1, h2, h3⟩
    · exact ih H I q
    · obtain ⟨od, I1⟩ := I.lock h1 h2
      exact ih _ I1 (h3 od)⟩
theorem pss_lk {n : Nat} {t : TS} (h : PSs X sts t) : PSs X sts (fun D σ H => LkN n H fun H' => t D σ H') := ⟨fun pins s σ H D I q => by
  induction n generalizing H with
  | zero => exact h.run pins s σ H D I q
  | succ n ih =>
    rcases q with q | ⟨d, u, h1, h2, h3⟩
    · exact ih H I q
    · obtain ⟨od, I1⟩ := I.lock h1 h2
      exact ih _ I1 (h3 od)⟩
theorem w_frz {is : List Nat} (h : PSs X sts (tS X.K Φ s)) : PSs X sts (tS X.K Φ (.frz is s)) :=
  pss_imp (pss_lk (n := is.length) h) fun D σ H ⟨A0, M0, H0, M, env, out, r, q, k⟩ => by
    simp only [evS] at q
    exact LkN.imp (fun H' ⟨M1, s1, r1⟩ => ⟨A0, M0, H0, M1, _, out, r1, q, k.mono s1⟩) (Rel.frzAll (is := is) r)
theorem w_frz1 {is : List Nat} (h : PS X st (tS X.K Φ s)) : PS X st (tS X.K Φ (.frz is s)) :=
  ps_imp (ps_lk (n := is.length) h) fun D σ H ⟨A0, M0, H0, M, env, out, r, q, k⟩ => by
    simp only [evS] at q
    exact LkN.imp (fun H' ⟨M1, s1, r1⟩ => ⟨A0, M0, H0, M1, _, out, r1, q, k.mono s1⟩) (Rel.frzAll (is := is) r)
theorem w_never : PS X st (tS X.K Φ .never) := ps_imp ps_never fun D σ H ⟨A0, M0, H0, M, env, out, r, q, k⟩ => by cases q
theorem w_nevers : PSs X sts (tS X.K Φ .never) := pss_imp pss_never fun D σ H ⟨A0, M0, H0, M, env, out, r, q, k⟩ => by cases q
theorem w_brk : PS X (.Break pos) (tS X.K Φ .brk) := ps_imp ps_break fun D σ H ⟨A0, M0, H0, M, env, out, r, q, k⟩ => by
  cases q
  exact k σ M H r (Same.refl M)
theorem w_cnt : PS X (.Continue pos) (tS X.K Φ .cnt) := ps_imp ps_continue fun D σ H ⟨A0, M0, H0, M, env, out, r, q, k⟩ => by
  cases q
  exact k σ M H r (Same.refl M)
theorem w_pass : PS X (.Pass pos) (tS X.K Φ .skip) := ps_imp ps_pass fun D σ H ⟨A0, M0, H0, M, env, out, r, q, k⟩ => by
  cases q
  exact k σ M H r (Same.refl M)
theorem w_doc {u : Str} {j : Nat} : PS X (.Expr (.Constant (.str u) j pos) pos') (tS X.K Φ .doc) := ps_imp ps_doc fun D σ H ⟨A0, M0, H0, M, env, out, r, q, k⟩ => by
  cases q
  exact k σ M H r (Same.refl M)
theorem w_retN : PS X (.Return none pos) (tS X.K Φ .retN) := ps_imp ps_retN fun D σ H ⟨A0, M0, H0, M, env, out, r, q, k⟩ => by
  cases q
  exact k _ M H r.xt .non
theorem w_ret {m : Md} (h : PE X x (tE X.K Φ m.own e)) : PS X (.Return (some x) pos) (tS X.K Φ (.ret e m)) := ps_imp (ps_ret h) fun D σ H ⟨A0, M0, H0, M, env, out, r, q, k⟩ => by
  simp only [evS] at q
  obtain ⟨d, q1, rfl⟩ := Option.map_eq_some_iff.mp q
  exact evM_ok r q1 fun v M' H' xt res => k v M' H' (r.xt.trans xt) (res.back r.h0)
theorem join_at {α : Type} {l : List (Option α)} {i : Nat} {a : α} (h : (l[i]?).join = some a) : l[i]? = some (some a) := by
  cases e : l[i]? with
  | none => rw [e] at h; cases h
  | some o => rw [e] at h; exact congrArg some h
theorem w_retv {i : Nat} (h : PE X x (tVar i)) : PS X (.Return (some x) pos) (tS X.K Φ (.retv i)) := ps_imp (ps_ret h) fun D σ H ⟨A0, M0, H0, M, env, out, r, q, k⟩ => by
  simp only [evS] at q
  split at q
  · rename_i d hj
    cases q
    obtain ⟨l, o, q1, ml, h0l, hl, ow⟩ := r.mu i _ (join_at hj)
    exact ⟨_, q1, k _ M H r.xt ⟨l, o, rfl, rfl, h0l, hl, ml, ow⟩⟩
  · rename_i d hj
    cases q
    obtain ⟨l, o, q1, ml, h0l, hl, ow⟩ := r.mu i _ (join_at hj)
    exact ⟨_, q1, k _ M H r.xt ⟨l, o, rfl, rfl, h0l, hl, ml, ow⟩⟩
  · cases q
/-- x = e -/
theorem w_asg {i : Nat} {m : Md} (h : PS X st (tAsg (tE X.K Φ m.own e) (gName i))) : PS X st (tS X.K Φ (.asg i e m)) := ps_imp h fun D σ H ⟨A0, M0, H0, M, env, out, r, q, k⟩ => by
  simp only [evS] at q
  obtain ⟨d, q1, rfl⟩ := Option.map_eq_some_iff.mp q
  exact evM_ok r q1 fun v M' H' xt res => k _ M' H' (r.asg i xt res) xt.m
/-- the same over another reading of the value -/
theorem w_asg2 {i : Nat} {m : Md} {te : TE} (h : PS X st (tAsg te (gName i))) (hw : ∀ σ H Q, tE X.K Φ m.own e σ H Q → te σ H Q) : PS X st (tS X.K Φ (.asg i e m)) := ps_imp h fun D σ H ⟨A0, M0, H0, M, env, out, r, q, k⟩ => by
  simp only [evS] at q
  obtain ⟨d, q1, rfl⟩ := Option.map_eq_some_iff.mp q
  exact hw σ H _ (evM_ok r q1 fun v M' H' xt res => k _ M' H' (r.asg i xt res) xt.m)
/-- a, b = e -/
theorem w_asgT {is : List Nat} (h : PS X st (tAsg (tE X.K Φ false e) (gT X.K (.tp is)))) : PS X st (tS X.K Φ (.asgT is e)) := ps_imp h fun D σ H ⟨A0, M0, H0, M, env, out, r, q, k⟩ => by
  simp only [evS] at q
  obtain ⟨d, q1, q⟩ := Option.bind_eq_some_iff.mp q
  obtain ⟨env', q2, rfl⟩ := Option.map_eq_some_iff.mp q
  exact ⟨M, _, d, (fun z => nomatch z), r.sub, r.hid, q1, fun v M' H' xt res => (r.step xt).bind (t := .tp is) res q2 fun σ' r' => k σ' M' H' r' xt.m⟩
theorem w_if {bs cs : List Stmt} (hc : PT X x (tT X.K Φ c)) (h1 : PSs X bs (tS X.K Φ s)) (h2 : PSs X cs (tS X.K Φ s')) : PS X (.If x bs cs pos) (tS X.K Φ (.iff c s s')) := ps_imp (ps_if hc h1 h2) fun D σ H ⟨A0, M0, H0, M, env, out, r, q, k⟩ => by
  simp only [evS] at q
  obtain ⟨s2, rd⟩ := r.shw
  split at q
  · rename_i hb
    refine ⟨_, _, true, s2, rd, hb, fun M' H' xt => iteT ?_⟩
    have x2 : Xt M M H H' := ⟨Same.refl M, xt.h, r.sub.trans xt.h, fun _ h => .inl h⟩
    exact ⟨A0, M0, H0, M, env, out, r.step x2, q, k⟩
  · rename_i hb
    refine ⟨_, _, false, s2, rd, hb, fun M' H' xt => iteF ?_⟩
    have x2 : Xt M M H H' := ⟨Same.refl M, xt.h, r.sub.trans xt.h, fun _ h => .inl h⟩
    exact ⟨A0, M0, H0, M, env, out, r.step x2, q, k⟩
  · cases q
theorem w_while (hx : X.xe = fun _ _ => False) (hc : PT X x (tT X.K Φ c)) (h1 : PSs X sts (tS X.K Φ s)) : PS X (.While x sts [] pos) (tS X.K Φ (.while_ c s)) := ps_imp (ps_while (by rw [hx]; exact PassesOwn.never) hc h1) fun D σ H ⟨A0, M0, H0, M, env, out, r, q, k⟩ => by
  simp only [evS] at q
  obtain ⟨n, q⟩ := whAll_ex q
  refine ⟨fun m σ H => ∃ M1 env, Rel X.K A0 M0 H0 M1 σ env H ∧ Same M M1 ∧ whGo (fun env => ev Φ c (shw env)) (fun env => evS Φ s env) m env = some out, ⟨n, M, env, r, Same.refl M, q⟩, ?_⟩
  rintro m σ1 H1 ⟨M1, env1, r1, sm1, q1⟩
  obtain ⟨s2, rd⟩ := r1.shw
  cases m with
  | zero => cases q1
  | succ m =>
    simp only [whGo] at q1
    split at q1
    · rename_i hb
      refine ⟨_, _, true, s2, rd, hb, fun M' H' xt => iteT ?_⟩
      have x2 : Xt M1 M1 H1 H' := ⟨Same.refl M1, xt.h, r1.sub.trans xt.h, fun _ h => .inl h⟩
      refine ⟨fun σ' H'' => ∃ M2 env2, Rel X.K A0 M0 H0 M2 σ' env2 H'' ∧ Same M M2 ∧ whGo (fun env => ev Φ c (shw env)) (fun env => evS Φ s env) m env2 = some out, fun σ' H'' h => ⟨m, Nat.lt_succ_self m, h⟩, ?_⟩
      split at q1
      · rename_i e hs
        exact ⟨A0, M0, H0, M1, env1, .nx e, r1.step x2, hs, fun σ' M' H' r' s' => ⟨M', e, r', sm1.trans s', q1⟩⟩
      · rename_i e hs
        exact ⟨A0, M0, H0, M1, env1, .ct e, r1.step x2, hs, fun σ' M' H' r' s' => ⟨M', e, r', sm1.trans s', q1⟩⟩
      · rename_i e hs
        cases q1
        exact ⟨A0, M0, H0, M1, env1, .bk e, r1.step x2, hs, fun σ' M' H' r' s' => k σ' M' H' r' (sm1.trans s')⟩
      · rename_i o d hs
        cases q1
        exact ⟨A0, M0, H0, M1, env1, .rt o d, r1.step x2, hs, k⟩
      · cases q1
    · rename_i hb
      cases q1
      refine ⟨_, _, false, s2, rd, hb, fun M' H' xt => iteF ?_⟩
      have x2 : Xt M1 M1 H1 H' := ⟨Same.refl M1, xt.h, r1.sub.trans xt.h, fun _ h => .inl h⟩
      exact k σ1 M1 H' (r1.step x2) sm1
    · cases q1
/-- the loop itself -/
theorem forW {t : T} {J : It} {xs : List D} {D : Ends} {Mi : Hp} {out : Out} (r : Rel X.K A0 M0 H0 M σ env H) (ok : ItOk X.K Mi J xs) (smi : Same Mi M) (q : forGo (fun x env => bindF t x env) (fun env => evS Φ s env) xs env = some out) (k : OutOk X.K A0 M0 H0 M D out) :
    ∃ W : Nat → Nat → L2.St → Hp → Prop, (∃ m, W 0 m σ H) ∧ ∀ i m σ H, W i m σ H →
      (J.stop i H ∧ D.nx σ H) ∨ (J.go i H ∧ ∃ N : L2.St → Hp → Prop, (∀ σ' H', N σ' H' → ∃ m', m' < m ∧ W (i + 1) m' σ' H') ∧ ∀ x H', J.yld i H x H' → gT X.K t x σ H' fun σ2 H2 => tS X.K Φ s { D with nx := N, ct := N, bk := D.nx } σ2 H2) := by
  refine for_it ok (fun i σ H => ∃ M1 env1, Rel X.K A0 M0 H0 M1 σ env1 H ∧ Same M M1 ∧ Same Mi M1 ∧ forGo (fun x env => bindF t x env) (fun env => evS Φ s env) (xs.drop i) env1 = some out) ⟨M, env, r, Same.refl M, smi, by rw [List.drop_zero]; exact q⟩ ?_ ?_ ?_
  · rintro i σ1 H1 hi ⟨M1, env1, r1, s1, s2, _⟩
    exact ⟨M1, s2, r1.sub⟩
  · rintro i v σ1 H1 H2 hi ⟨M1, env1, r1, s1, s2, q1⟩ y
    obtain ⟨d, M2, q3, x2, res⟩ := y M1 s2 r1.sub
    rw [List.drop_eq_getElem_cons hi] at q1
    have ed : xs[i] = d := by rw [List.getElem?_eq_getElem hi] at q3; exact Option.some.inj q3
    rw [ed] at q1
    simp only [forGo] at q1
    obtain ⟨env2, q4, q1⟩ := Option.bind_eq_some_iff.mp q1
    refine (r1.step x2).bind res q4 fun σ2 r2 => ?_
    have s12 := s1.trans x2.m
    split at q1
    · rename_i e hs
      exact ⟨A0, M0, H0, M2, env2, .nx e, r2, hs, fun σ' M' H' r' s' => ⟨M', e, r', s12.trans s', s2.trans (x2.m.trans s'), q1⟩⟩
    · rename_i e hs
      exact ⟨A0, M0, H0, M2, env2, .ct e, r2, hs, fun σ' M' H' r' s' => ⟨M', e, r', s12.trans s', s2.trans (x2.m.trans s'), q1⟩⟩
    · rename_i e hs
      cases q1
      exact ⟨A0, M0, H0, M2, env2, .bk e, r2, hs, fun σ' M' H' r' s' => k σ' M' H' r' (s12.trans s')⟩
    · rename_i o d hs
      cases q1
      exact ⟨A0, M0, H0, M2, env2, .rt o d, r2, hs, k⟩
    · cases q1
  · rintro σ1 H1 ⟨M1, env1, r1, s1, s2, q1⟩
    rw [List.drop_length] at q1
    cases q1
    exact k σ1 M1 H1 r1 s1
/-- a for over what is frozen -/
theorem w_for {t : T} {it : E} (hx : X.xe = fun _ _ => False) (hc : X.calm = true) (hi : PI X tg x (tI X.K Φ it)) (hg : PG X tg (gT X.K t)) (hb : PSs X sts (tS X.K Φ s)) (hs : ∀ v, foldedSetIterable x X.env v = pure v)
    (hit : ∀ a b, it ≠ .rng1 a ∧ it ≠ .rng2 a b) : PS X (.For tg x sts [] pos) (tS X.K Φ (.for_ t it s)) := ps_imp (ps_for (by rw [hx]; exact PassesOwn.never) hc hi hg hb hs) fun D σ H ⟨A0, M0, H0, M, env, out, r, q, k⟩ => by
  have q' : ((ev Φ it (hid env)).bind asSeq).bind (fun xs => forGo (fun x env => bindF t x env) (fun env => evS Φ s env) xs env) = some out := by
    cases it <;> first | exact q | exact absurd rfl (hit _ .nil).1 | exact absurd rfl (hit .nil _).2 | exact absurd rfl (hit _ _).2
  obtain ⟨ds, q1, q2⟩ := Option.bind_eq_some_iff.mp q'
  exact ⟨M, _, ds, r.sub, r.hid, q1, fun J M' H' xt ok => forW (r.step xt) ok (Same.refl _) q2 (k.mono xt.m)⟩
/-- a for over a range: the bounds may look into own lists -/
theorem w_forR {t : T} {it : E} (hx : X.xe = fun _ _ => False) (hc : X.calm = true) (hi : PI X tg x (tIR X.K Φ it)) (hg : PG X tg (gT X.K t)) (hb : PSs X sts (tS X.K Φ s)) (hs : ∀ v, foldedSetIterable x X.env v = pure v)
    (hit : (∃ a, it = .rng1 a) ∨ ∃ a b, it = .rng2 a b) : PS X (.For tg x sts [] pos) (tS X.K Φ (.for_ t it s)) := ps_imp (ps_for (by rw [hx]; exact PassesOwn.never) hc hi hg hb hs) fun D σ H ⟨A0, M0, H0, M, env, out, r, q, k⟩ => by
  have q' : ((ev Φ it (shw env)).bind asSeq).bind (fun xs => forGo (fun x env => bindF t x env) (fun env => evS Φ s env) xs env) = some out := by
    rcases hit with ⟨a, rfl⟩ | ⟨a, b, rfl⟩ <;> exact q
  obtain ⟨ds, q1, q2⟩ := Option.bind_eq_some_iff.mp q'
  obtain ⟨s2, rd⟩ := r.shw
  refine ⟨_, _, ds, s2, rd, q1, fun a b M' H' xt e => ?_⟩
  have x2 := r.minus xt
  subst e
  exact forW (r.step x2) it_range (Same.refl _) q2 (k.mono x2.m)

/-! ### own lists -/
theorem Rel.own {i : Nat} {ds : List D} (r : Rel K A0 M0 H0 M σ env H) (h : (env[i]?).join = some (true, .lst ds)) : ∃ l vs, env[i]? = some (some (true, .lst ds)) ∧ σ[i]? = some (some (.ref l)) ∧ H l = some (.lst vs) ∧ DatL K M vs ds := by
  obtain ⟨l, o, q1, _, _, hl, vs, rfl, dl⟩ := r.mu i _ (join_at h)
  exact ⟨l, vs, join_at h, q1, hl, dl⟩
theorem ownL {a : Addr} {vs : List V} {ds : List D} (h : DatL K M vs ds) : Own K M a (.lst vs) (.lst ds) := ⟨vs, rfl, h⟩
/-- xs.append(e) -/
theorem w_app {i : Nat} {m : Md} (hm : m.own = false) (h : PS X st (tDrop (tBM X.K "list" rAppend (tVar i) (tCons (tE X.K Φ false e) tNil)))) : PS X st (tS X.K Φ (.app i e m)) := ps_imp h fun D σ H ⟨A0, M0, H0, M, env, out, r, q, k⟩ => by
  simp only [evS] at q
  split at q
  · rename_i xs hj
    obtain ⟨d, q1, q2⟩ := Option.bind_eq_some_iff.mp q
    split at q2
    · rename_i hl
      cases q2
      obtain ⟨l, vs, h1, q3, hll, dl⟩ := r.own hj
      refine ⟨_, q3, .inl ⟨rfl, _, SqL.of hll⟩, ?_⟩
      have hk : tE X.K Φ m.own e σ H fun v H' => rAppend (.ref l) [v] H' fun _ H2 => D.nx σ H2 := evM_ok r q1 fun v M' H' xt res => by
        rw [hm] at res
        refine ⟨l, vs, v, rfl, rfl, xt.h _ _ hll, LIM_lt (by rw [dl.length]; exact hl), ?_⟩
        exact k _ M' _ ((r.step xt).put h1 q3 (ownL ((dl.mono xt.m).append (.cons res .nil)))) xt.m
      rw [hm] at hk
      exact hk
    · cases q2
  · cases q
/-- d[k] = v -/
def rSetD : V → V → V → Hp → (Hp → Prop) → Prop := fun o i v H Q => ∃ p ws k b, o = .ref p ∧ i = .ref b ∧ H p = some (.dT ws) ∧ H b = some (.tup (k.map kV)) ∧ ws.length < sizeLine ∧ Q (upd H p (.dT (putK ws k v)))
theorem set_dic {X : Cx} (hu : X.A.units + 1 < cLine) : PSet X rSetD := by
  intro pins s σ H o i v ov iv u Q I ro ri rv h
  obtain ⟨p, ws, k, b, rfl, rfl, hp, hb, hl, q⟩ := h
  obtain rfl : ov = Value.ref p := ro
  exact d_setItem hu I (DPut.t hp hb hl) ri rv fun s4 I4 => ⟨_, I4, q⟩
def rSetA (P : Program) (w : World) : V → V → V → Hp → (Hp → Prop) → Prop := fun o i v H Q => rSetL o i v H Q ∨ rSetD o i v H Q ∨ rSetN P w o i v H Q
theorem set_any {X : Cx} (hu : X.A.units + 65 < cLine) : PSet X (rSetA X.prog X.w) := by
  intro pins s σ H o i v ov iv u Q I ro ri rv h
  rcases h with h | h | h
  · exact set_list pins s σ H o i v ov iv u Q I ro ri rv h
  · exact set_dic (by omega) pins s σ H o i v ov iv u Q I ro ri rv h
  · exact set_nd hu pins s σ H o i v ov iv u Q I ro ri rv h
theorem dat_nk {K : PySem.W.Frag} {M : Hp} {v : V} {d : D} {k : NestedKey} (h : Dat K M v d) (e : nkey d = some k) : ∃ b, v = .ref b := by
  obtain ⟨_, _, xs, rfl⟩ := nkey_of e
  cases h with
  | tup h r => exact ⟨_, rfl⟩
/-- xs[k] = e -/
theorem w_setI {i : Nat} {m : Md} (hm : m.own = false) (h : PS X st (tAsg (tE X.K Φ false e) (gSub (tVar i) (tE X.K Φ false a) (rSetA X.prog X.w)))) : PS X st (tS X.K Φ (.setI i a e m)) := ps_imp h fun D σ H ⟨A0, M0, H0, M, env, out, r, q, k⟩ => by
  simp only [evS] at q
  split at q
  · rename_i xs hj
    obtain ⟨d, q1, q2⟩ := Option.bind_eq_some_iff.mp q
    obtain ⟨z, q3, q4⟩ := Option.bind_eq_some_iff.mp q2
    obtain ⟨l, vs, h1, q5, hll, dl⟩ := r.own hj
    have hk : tE X.K Φ m.own e σ H fun v H' => gSub (tVar i) (tE X.K Φ false a) (rSetA X.prog X.w) v σ H' D.nx := evM_ok r q1 fun v M' H' xt res => by
      rw [hm] at res
      have r1 := r.step xt
      refine ⟨_, q5, ?_⟩
      refine evM_ok (m := { sh := true }) r1 q3 fun w M2 H2 xt2 res2 => ?_
      have r2 := r1.step xt2
      cases res2 with
      | int zz =>
        simp only [] at q4
        obtain ⟨n, q6, rfl⟩ := Option.map_eq_some_iff.mp q4
        refine .inl ⟨l, vs, zz, n, rfl, rfl, (xt.trans xt2).h _ _ hll, by rw [dl.length]; exact q6, ?_⟩
        exact k _ M2 _ (r2.put h1 q5 (ownL (DatL.set (Dat.mono xt2.m res) n (dl.mono (xt.trans xt2).m)))) (xt.trans xt2).m
      | _ => cases q4
    rw [hm] at hk
    exact hk
  · rename_i kvs hj
    obtain ⟨d, q1, q2⟩ := Option.bind_eq_some_iff.mp q
    obtain ⟨z, q3, q4⟩ := Option.bind_eq_some_iff.mp q2
    obtain ⟨ky, q5, q6⟩ := Option.bind_eq_some_iff.mp q4
    split at q6
    · rename_i hlt
      cases q6
      obtain ⟨l, o, q7, ml, h0l, hl, ws, rfl, dl⟩ := r.mu i _ (join_at hj)
      have hk : tE X.K Φ m.own e σ H fun v H' => gSub (tVar i) (tE X.K Φ false a) (rSetA X.prog X.w) v σ H' D.nx := evM_ok r q1 fun v M' H' xt res => by
        rw [hm] at res
        have r1 := r.step xt
        refine ⟨_, q7, ?_⟩
        refine evM_ok (m := { sh := true }) r1 q3 fun w M2 H2 xt2 res2 => ?_
        have r2 := r1.step xt2
        obtain ⟨b, rfl, hb⟩ := dat_key res2 q5
        refine .inr <| .inl ⟨l, ws, ky.map Sum.inl, b, rfl, rfl, (xt.trans xt2).h _ _ hl, xt2.s _ _ hb, LIM_lt (by rw [dl.length]; exact hlt), ?_⟩
        exact k _ M2 _ (r2.put (join_at hj) q7 ⟨_, rfl, (dl.mono (xt.trans xt2).m).put (Dat.mono xt2.m res)⟩) (xt.trans xt2).m
      rw [hm] at hk
      exact hk
    · cases q6
  · rename_i kvs hj
    obtain ⟨d, q1, q2⟩ := Option.bind_eq_some_iff.mp q
    obtain ⟨z, q3, q4⟩ := Option.bind_eq_some_iff.mp q2
    obtain ⟨ky, q5, q6⟩ := Option.bind_eq_some_iff.mp q4
    split at q6
    · rename_i hlt
      cases q6
      obtain ⟨l, o, q7, ml, h0l, hl, ws, rfl, dl⟩ := r.mu i _ (join_at hj)
      have hk : tE X.K Φ m.own e σ H fun v H' => gSub (tVar i) (tE X.K Φ false a) (rSetA X.prog X.w) v σ H' D.nx := evM_ok r q1 fun v M' H' xt res => by
        rw [hm] at res
        have r1 := r.step xt
        refine ⟨_, q7, ?_⟩
        refine evM_ok (m := { sh := true }) r1 q3 fun w M2 H2 xt2 res2 => ?_
        have r2 := r1.step xt2
        obtain ⟨b, rfl⟩ := dat_nk res2 q5
        have dl2 := dl.mono (xt.trans xt2).m
        refine .inr <| .inr ⟨l, ws, b, ky, rfl, rfl, (xt.trans xt2).h _ _ hl, keysAt_of (xt.trans xt2).s dl2, keyAt_of xt2.s res2 q5, plain_of q5, LIM_lt (by rw [dl.length]; exact hlt), ?_⟩
        exact k _ M2 _ (r2.put (join_at hj) q7 ⟨_, rfl, dl2.put res2 q5 (Dat.mono xt2.m res)⟩) (xt.trans xt2).m
      rw [hm] at hk
      exact hk
    · cases q6
  · cases q
theorem ixN_seq' {n : Nat} {k : Int} {j : Nat} (h : PyD.ixN n k = some j) (hn : n ≤ LIM) : seqIndex? k n = some j ∧ -(2 ^ 63) ≤ k ∧ k < 2 ^ 63 := by
  obtain ⟨h1, h2, h3, h4⟩ := L2.ixN_seq (show L2.ixN n k = some j from h)
  have e : LIM = 1000000 := rfl
  exact ⟨h1, by omega, by omega⟩
/-- xs.append(ys.pop(k)) -/
theorem w_appPop {i j : Nat} (h : PS X st (tDrop (tBM X.K "list" rAppend (tVar i) (tCons (tBM X.K "list" rPopAt (tVar j) (tCons (tE X.K Φ false e) tNil)) tNil)))) : PS X st (tS X.K Φ (.appPop i j e)) := ps_imp h fun D σ H ⟨A0, M0, H0, M, env, out, r, q, k⟩ => by
  simp only [evS] at q
  split at q
  · rename_i xs ys hj hj2
    obtain ⟨d, q1, q2⟩ := Option.bind_eq_some_iff.mp q
    obtain ⟨l, vs, h1, q3, hll, dl⟩ := r.own hj
    obtain ⟨l2, vs2, h2, q4, hll2, dl2⟩ := r.own hj2
    refine ⟨_, q3, .inl ⟨rfl, _, SqL.of hll⟩, ?_⟩
    refine ⟨_, q4, .inl ⟨rfl, _, SqL.of hll2⟩, ?_⟩
    refine evM_ok (m := { sh := true }) r q1 fun w M2 H2 xt2 res2 => ?_
    cases res2 with
    | int z =>
      simp only [] at q2
      obtain ⟨n, q5, q6⟩ := Option.bind_eq_some_iff.mp q2
      obtain ⟨y, q7, q8⟩ := Option.bind_eq_some_iff.mp q6
      split at q8
      · rename_i hc
        cases q8
        obtain ⟨hc1, hc2, hc3⟩ := hc
        obtain ⟨v, q9, q10⟩ := dl2.get q7
        obtain ⟨b1, b2, b3⟩ := ixN_seq' q5 hc2
        have r1 := r.step xt2
        have hne : l ≠ l2 := fun z => hc3 (r.sep i j _ _ l h1 h2 q3 (by rw [z]; exact q4))
        refine ⟨l2, vs2, z, n, v, rfl, rfl, xt2.h _ _ hll2, b2, b3, by rw [dl2.length]; exact b1, q9, ?_⟩
        have r2 := r1.put h2 q4 (ownL ((dl2.mono xt2.m).erase n))
        have hi2 : (env.set j (some (true, PyD.D.lst (ys.eraseIdx n))))[i]? = some (some (true, .lst xs)) := by rw [List.getElem?_set_ne (Ne.symm hc3)]; exact h1
        refine ⟨l, vs, v, rfl, rfl, by rw [upd_ne hne]; exact xt2.h _ _ hll, LIM_lt (by rw [dl.length]; exact hc1), ?_⟩
        exact k _ M2 _ (r2.put hi2 q3 (ownL ((dl.mono xt2.m).append (.cons (q10.mono xt2.m) .nil)))) xt2.m
      · cases q8
    | _ => cases q2
  · cases q
/-- x op= e, two intsOf -/
theorem w_aug {i : Nat} {o : Op} {r0 : R2} (hr : ∀ (z y w : Int) (H : Hp) (Q : VK), binD o (.int z) (.int y) = some (.int w) → Q (.int w) H → r0 (.int z) (.int y) H Q) (ho : ∀ z y w, binD o (.int z) (.int y) = some w → ∃ u, w = .int u)
    (h : PS X st (tAug i (tE X.K Φ false e) r0)) : PS X st (tS X.K Φ (.aug i o e)) := ps_imp h fun D σ H ⟨A0, M0, H0, M, env, out, r, q, k⟩ => by
  simp only [evS] at q
  split at q
  · rename_i z hj
    obtain ⟨d, q1, q2⟩ := Option.bind_eq_some_iff.mp q
    obtain ⟨v, q3, q4⟩ := r.im i _ (join_at hj)
    cases q4
    refine ⟨_, q3, ?_⟩
    refine evM_ok (m := { sh := true }) r q1 fun w M2 H2 xt2 res2 => ?_
    cases res2 with
    | int y =>
      simp only [] at q2
      obtain ⟨u, q5, rfl⟩ := Option.map_eq_some_iff.mp q2
      obtain ⟨u', rfl⟩ := ho z y u q5
      exact hr z y u' H2 _ q5 (k _ M2 H2 ((r.step xt2).one i (.int u')) xt2.m)
    | _ => cases q2
  · cases q
/-- a, b = e1, e2 -/
theorem w_par {i j : Nat} {m m' : Md} {ta : TA} (hij : i ≠ j) (h : PS X st (tPar i j ta)) (ht : ∀ σ H Q, tE X.K Φ m.own a σ H (fun v H1 => tE X.K Φ m'.own b σ H1 fun w H2 => Q [v, w] H2) → ta σ H Q) : PS X st (tS X.K Φ (.par i j a b m m')) := ps_imp h fun D σ H ⟨A0, M0, H0, M, env, out, r, q, k⟩ => by
  simp only [evS] at q
  obtain ⟨d, q1, q⟩ := Option.bind_eq_some_iff.mp q
  obtain ⟨d', q2, rfl⟩ := Option.map_eq_some_iff.mp q
  refine ht σ H _ (evM_ok r q1 fun v M1 H1 xt1 res1 => evM_ok (r.step xt1) q2 fun w M2 H2 xt2 res2 => ⟨v, w, rfl, ?_⟩)
  have r1 := r.step xt1
  have r2 := r1.step xt2
  have res1' : Res X.K M2 H H2 m.own v d := by
    cases ho : m.own with
    | false =>
      rw [ho] at res1
      exact Dat.mono xt2.m res1
    | true =>
      rw [ho] at res1
      obtain ⟨l, o, e1, e2, hl, h1, m1, dl⟩ := res1
      exact ⟨l, o, e1, e2, hl, xt2.h _ _ h1, no_D xt2 m1 h1 dl.ntup, dl.mono xt2.m⟩
  have r3 := r2.set i res1' r.h0 (fun j' e l hj h1 h2 ho hv => by
    rw [ho] at res1
    obtain ⟨l', o', e1, e2, hl, _⟩ := res1
    rw [hv] at e1
    cases e1
    obtain ⟨_, _, vs', hl', _⟩ := r.muNone ⟨j', e, h1, h2⟩
    rw [hl] at hl'
    cases hl')
  refine k _ M2 H2 (r3.set j res2 r1.h0 fun j' e l hj h1 h2 ho hv => ?_) (xt1.m.trans xt2.m)
  rw [ho] at res2
  obtain ⟨l', o', e1, e2, hl, _⟩ := res2
  rw [hv] at e1
  cases e1
  rcases set_at h1 with ⟨rfl, q3, hlen⟩ | ⟨hne, q3⟩
  · have hown : m.own = true := congrArg Prod.fst (Option.some.inj q3)
    rw [hown] at res1
    obtain ⟨l2, o2, e3, e4, hl2, h3, _⟩ := res1
    rw [List.getElem?_set_self (by rw [r.len]; exact hlen)] at h2
    rw [e3] at h2
    cases h2
    rw [hl] at h3
    cases h3
  · rw [List.getElem?_set_ne hne] at h2
    obtain ⟨_, _, vs', hl', _⟩ := r1.muNone ⟨j', e, q3, h2⟩
    rw [hl] at hl'
    cases hl'
end
end
end PyD

/-! Expressions on objects, constants. -/
namespace PyD
open PySem L2 RZ StX PyProof.Rows

section
variable {X : Cx} {x y : Expr} {xs : List Expr} {Φ : Fns} {a b : E} {pos : Pos}
theorem s_attr {cs : List Str} {f : Str} (ha : PE X x (tE X.K Φ false a)) (hb : attX x = true) (hc : ∀ c ∈ cs, Cls X.K (He.ga X.K c) ∧ NoAttr X.K (He.ga X.K c) f) :
    PE X (.Attribute x f pos) (tE X.K Φ false (.attr cs a f)) := pe_imp (pe_fld ha (base_of hb)) fun σ H Q ⟨M, env, d, il, sm, rd, q, k⟩ => by
  simp only [ev] at q
  obtain ⟨dx, q1, q⟩ := Option.bind_eq_some_iff.mp q
  refine ⟨M, env, dx, (fun z => nomatch z), sm, rd, q1, fun v M1 H1 x1 r1 => ?_⟩
  cases r1 with
  | obj h r =>
    simp only [attrD] at q
    split at q
    · rename_i hm
      obtain ⟨u, h1, h2⟩ := r.get q
      obtain ⟨c1, c2⟩ := hc _ hm
      exact ⟨_, _, _, _, u, rfl, x1.s _ _ h, c1, c2, h1, k u M1 H1 x1 h2⟩
    · cases q
  | _ => cases q
theorem s_glb {nm : Str} {ns : List Int} {ad : Addr} (hg : Gl X nm) (hm : X.mg nm = some (.ref ad)) (hK : ∀ H, SqT X.K H ad (ns.map V.int)) (hd : (nm == ("__debug__" : Str)) = false) :
    PE X (.Name nm pos) (tE X.K Φ false (.glb nm ns)) := pe_imp (pe_glob (v := .ref ad) hg hm rfl hd) fun σ H Q ⟨M, env, d, il, sm, rd, q, k⟩ => by
  simp only [ev, Option.some.injEq] at q
  subst q
  exact k _ M H (Xt.refl sm) (.cst (hK M) DatL.intsOf)
theorem s_con {c f : Str} {n : Int} {mc : Value} {u : Value} {p2 : Pos} (hg : Gl X c) (hm : X.mg c = some (.ref (He.ga X.K c))) (hr : ClX.CRead X.K (He.ga X.K c) mc) (hv : ClX.CVal X.K (He.ga X.K c) mc f (.int n) u) (hd : (c == ("__debug__" : Str)) = false) :
    PE X (.Attribute (.Name c p2) f pos) (tE X.K Φ false (.con c f n)) := pe_imp (ClX.pe_cval (pe_glob (v := .ref (He.ga X.K c)) hg hm rfl hd)) fun σ H Q ⟨M, env, d, il, sm, rd, q, k⟩ => by
  simp only [ev, Option.some.injEq] at q
  subst q
  exact ⟨_, mc, _, u, rfl, hr, hv, k _ M H (Xt.refl sm) (.int n)⟩
theorem rm_same {H H1 : Hp} {a dx : Addr} {C : Addr} (ha : H a = none) (hd : H dx = none) : Same H (rmH (upd (upd H dx (.own a)) a (.ins C dx [])) a) := fun b u e => by
  unfold rmH
  have h1 : b ≠ a := ne_of_none e ha
  have h2 : b ≠ dx := ne_of_none e hd
  rw [if_neg h1, upd_ne h1, upd_ne h2]
  exact e
theorem s_new {n : Nat} {f : Nat} {c : Str} {ad : Addr} {p2 : Pos} (M0 : Mk X.K (He.ga X.K c) ad) (F : ∀ m, n = m + 1 → FnR X.prog X.w X.K X.mg X.base CX0 (m + 1) ad (spI X.K Φ c f)) (h0 : n = 0 → ∀ ds, Φ f ds = none) (hr : Room (n + 1) X.A)
    (hg : Gl X c) (hm : X.mg c = some (.ref (He.ga X.K c))) (ho : ∀ ds d, Φ f ds = some d → ∃ fs, d = .obj c fs) (ha : PA X (x :: xs) (tA X.K Φ a)) (hdb : (c == ("__debug__" : Str)) = false) (he : starEach (x :: xs) X.env = (false, eval x X.env) :: starEach xs X.env) (hpl : (backTo pos (starEach xs X.env)).any (·.1) = false) :
    PE X (.Call (.Name c p2) (x :: xs) [] pos) (tE X.K Φ false (.new f a)) := by
  cases n with
  | zero =>
    refine ⟨fun pins s σ H Q I h => ?_⟩
    obtain ⟨M, env, d, il, sm, rd, q, k⟩ := h
    simp only [ev] at q
    obtain ⟨r, q1, q⟩ := Option.bind_eq_some_iff.mp q
    cases r with
    | tup ds =>
      simp only [] at q
      rw [h0 rfl] at q
      cases q
    | _ => cases q
  | succ m =>
    refine pe_imp (pe_makeR M0 (F m rfl) hr hg hm pass0 ha hdb he hpl) fun σ H Q ⟨M, env, d, il, sm, rd, q, k⟩ => ?_
    obtain ⟨ds, q1, q2⟩ := ev_callee (f := Φ f) q
    refine ⟨M, env, ds, sm, rd, q1, fun vs M1 H1 x1 r1 p dx hp hdx hne => ?_⟩
    have mp : M1 p = none := x1.s.free hp
    refine ⟨M1, p, dx, vs, ds, d, rfl, upd_same, mp, fun b u e => ?_, r1, q2, fun fs M' H' dx' vfs e1 x2 m2 h2 dF => ⟨rfl, ?_⟩⟩
    · have e' := x1.s b u e
      rw [upd_ne (ne_of_none e' hp), upd_ne (ne_of_none e' hdx)]
      exact e'
    · subst e1
      have sH : Same H1 (rmH (upd (upd H1 dx (.own p)) p (.ins (He.ga X.K c) dx [])) p) := rm_same (H1 := H1) hp hdx
      have x3 : Xt M1 M' H1 H' := ⟨x2.m, sH.trans x2.h, x2.s, fun b hb => (x2.f b hb).elim .inl fun z => .inr (z.back sH)⟩
      have x4 := x3.keep hp m2 h2
      exact k _ _ H' (x1.trans x4) (.obj upd_same (dF.mono (same_new m2)))
theorem find_py {y : D} : ∀ {xs : List D} {j : Nat}, (xs.findIdx? fun z => PyData.eqv z.py y.py) = some j → ∃ z, (pyL xs)[j]? = some z ∧ PyData.eqv z y.py = true ∧ ∀ (m : Nat) (z' : PyData), m < j → (pyL xs)[m]? = some z' → PyData.eqv z' y.py = false := by
  intro xs j h
  rw [List.findIdx?_eq_some_iff_getElem] at h
  obtain ⟨hj, h1, h2⟩ := h
  refine ⟨xs[j].py, ?_, h1, fun m z' hm hz => ?_⟩
  · rw [pyL_map, List.getElem?_map, List.getElem?_eq_getElem hj]; rfl
  · rw [pyL_map, List.getElem?_map, List.getElem?_eq_getElem (by omega)] at hz
    cases hz
    have := h2 m hm
    simpa using this
theorem s_index {p2 : Pos} (hu : X.A.units + 65 < cLine) (ha : PE X x (tE X.K Φ false a)) (hy : PE X y (tE X.K Φ false b)) (hb : attX x = true) (hline : (p2.endLine == pos.line) = true)
    (hs : starEach [y] X.env = (false, eval y X.env) :: starEach [] X.env) (hfew : ((backTo pos (starEach [y] X.env)).all (fun x => !x.1) && (backToKw pos (keywordEach [] X.env)).all (fun x => x.1.isSome) && decide ([y].length + ([] : List Keyword).length + (if ([] : List Keyword).isEmpty then 0 else 1) < 30)) = true) :
    PE X (.Call (.Attribute x "index" p2) [y] [] pos) (tE X.K Φ false (.index a b)) := by
  refine pe_imp (pe_bm PySem.F.plainAttrs_list PySem.F.slot_list_index PySem.F.type_list_index (mt_indexD hu) ha (pa_cons hy pa_nil hs) (base_of hb) hfew hline hs rfl) fun σ H Q ⟨M, env, d, il, sm, rd, q, k⟩ => ?_
  simp only [ev] at q
  obtain ⟨dx, q1, q⟩ := Option.bind_eq_some_iff.mp q
  obtain ⟨dy, q2, q⟩ := Option.bind_eq_some_iff.mp q
  cases dx with
  | lst xs =>
    simp only [] at q
    split at q
    · rename_i ho
      obtain ⟨j, q3, rfl⟩ := Option.map_eq_some_iff.mp q
      obtain ⟨o1, o2⟩ := Bool.and_eq_true_iff.mp ho
      refine ⟨M, env, .lst xs, (fun z => nomatch z), sm, rd, q1, fun v M1 H1 x1 r1 => ?_⟩
      cases r1 with
      | lst h r =>
        refine ⟨.inl ⟨rfl, _, SqL.of (x1.s _ _ h)⟩, M1, env, dy, (fun z => nomatch z), x1.s, rd.mono x1.m, q2, fun w M2 H2 x2 r2 => ?_⟩
        obtain ⟨z, z1, z2, z3⟩ := find_py q3
        have c1 := SeqAt.canLay_of_shaped o1
        have c2 := SeqAt.canLay_of_shaped o2
        have dl : Dat X.K M2 (.ref _) (.lst xs) := .lst (x2.m _ _ h) (r.mono x2.m)
        exact ⟨_, w, dy.py, pyL xs, j, z, rfl, rfl, dl.dp x2.s c2, Dat.dp x2.s r2 c1, o2, o1, z1, z2, z3, k _ M2 H2 (x1.trans x2) (.int _)⟩
    · cases q
  | _ => cases q
/-- an own object, walked by its __iter__ -/
theorem i_oit {n : Nat} {c f : Str} {tg : Expr} (O : OwnIt X.K X.mg (He.ga X.K c) f) (hr : Room (n + 1) X.A) (hx : X.xe = fun _ _ => False) (ha : PE X x (tE X.K Φ false a)) : PI X tg x (tI X.K Φ (.oit c f a)) := PI_imp (pi_own O hr hx ha) fun σ H R ⟨M, env, xs, sm, rd, q, k⟩ => by
  obtain ⟨d, q1, q2⟩ := Option.bind_eq_some_iff.mp q
  simp only [ev] at q1
  obtain ⟨d0, q3, q4⟩ := Option.bind_eq_some_iff.mp q1
  refine ⟨M, env, d0, (fun z => nomatch z), sm, rd, q3, fun v M1 H1 x1 r1 => ?_⟩
  cases r1 with
  | obj h r =>
    simp only [] at q4
    split at q4
    · rename_i e
      subst e
      split at q4
      · rename_i ds e2
        cases q4
        cases q2
        obtain ⟨u, l1, l2⟩ := r.get e2
        cases l2 with
        | tup h2 r2 => exact ⟨_, _, _, _, _, rfl, x1.s _ _ h, l1, SqT.of (x1.s _ _ h2), k _ M1 H1 x1 (it_tup (SqT.of h2) r2)⟩
      · cases q4
    · cases q4
  | _ => cases q4
end
end PyD

/-! Statements: calls for their effect, fields, three at once, lists unpacked, reversed. -/
namespace PyD
open PySem L2 RZ StX PyProof.Rows

section
variable {X : Cx} {x y z tg : Expr} {xs : List Expr} {a b c e : E} {pos pos' : Pos} {st : Stmt} {sts sts' : List Stmt} {s s' : S} {Φ : Fns}
theorem w_ex (h : PE X x (tE X.K Φ false e)) (hs : swapsWith x none pos.line X.env = pure false) : PS X (.Expr x pos) (tS X.K Φ (.ex e)) := ps_imp (ps_expr h hs) fun D σ H ⟨A0, M0, H0, M, env, out, r, q, k⟩ => by
  simp only [evS] at q
  obtain ⟨d, q1, rfl⟩ := Option.map_eq_some_iff.mp q
  obtain ⟨s2, rd⟩ := r.shw
  refine ⟨_, _, d, (fun z => nomatch z), s2, rd, q1, fun v M' H' xt res => ?_⟩
  have x2 : Xt M M H H' := ⟨Same.refl M, xt.h, r.sub.trans xt.h, fun _ h => .inl h⟩
  exact k σ M H' (r.step x2) (Same.refl M)
theorem w_fld {C f : Str} {m : Md} (hm : m.own = false) (ho : PE X z (tVar 0)) (hv : PE X x (tE X.K Φ false e)) (hs : swapsWith x (some (.Attribute z f pos')) pos.line X.env = pure false)
    (hC : Cls X.K (He.ga X.K C) ∧ NoAttr X.K (He.ga X.K C) f) : PS X (.Assign [.Attribute z f pos'] x pos) (tS X.K Φ (.fld C f e m)) :=
  ps_imp (ps_fld ho hv hs) fun D σ H ⟨A0, M0, H0, M, env, out, r, q, k⟩ => by
  simp only [evS] at q
  split at q
  · rename_i c' fs hj
    split at q
    · rename_i hl
      obtain ⟨rfl, hl⟩ := hl
      have h0 := join_at hj
      obtain ⟨d, q1, rfl⟩ := Option.map_eq_some_iff.mp q
      obtain ⟨l, o, q2, ml, hl0, hl2, dx, ws, rfl, dF⟩ := r.mu 0 _ h0
      have hk : tE X.K Φ m.own e σ H fun v H' => tVar 0 σ H' fun w H2 => ∃ a C' dx fs, w = .ref a ∧ H2 a = some (.ins C' dx fs) ∧ Cls X.K C' ∧ NoAttr X.K C' f ∧ fs.length < 1000 ∧ D.nx σ (upd H2 a (.ins C' dx (putF f v fs))) := evM_ok r q1 fun v M' H' xt res => by
        rw [hm] at res
        refine ⟨_, q2, l, _, dx, ws, rfl, xt.h _ _ hl2, hC.1, hC.2, by rw [dF.length]; exact hl, ?_⟩
        exact k _ M' _ ((r.step xt).put h0 q2 (d' := .obj c' (putD f d fs)) ⟨dx, _, rfl, (dF.mono xt.m).put f res⟩ fun _ _ _ => ⟨_, _, rfl⟩) xt.m
      rw [hm] at hk
      exact hk
    · cases q
  · cases q
/-- a, b, c = e, with the value a list -/
theorem w_asgL {is : List Nat} (h : PS X st (tAsg (tE X.K Φ false e) (gUnl X.K is.length (gSeq is)))) : PS X st (tS X.K Φ (.asgL is e)) := ps_imp h fun D σ H ⟨A0, M0, H0, M, env, out, r, q, k⟩ => by
  simp only [evS] at q
  obtain ⟨d, q1, q⟩ := Option.bind_eq_some_iff.mp q
  cases d with
  | lst ds =>
    obtain ⟨env', q2, rfl⟩ := Option.map_eq_some_iff.mp q
    refine ⟨M, _, .lst ds, (fun z => nomatch z), r.sub, r.hid, q1, fun v M' H' xt res => ?_⟩
    cases res with
    | lst h1 dl =>
      exact ⟨_, _, rfl, SqL.of (xt.s _ _ h1), by rw [dl.length]; exact setAllF_len q2, Rel.bindS (r.step xt) dl q2 fun σ' r' => k σ' M' H' r' xt.m⟩
  | _ => cases q
/-- xs.reverse() -/
theorem w_rev {i : Nat} (h : PS X st (tDrop (tBM0 X.K "list" rReverse (tVar i)))) : PS X st (tS X.K Φ (.rev i)) := ps_imp h fun D σ H ⟨A0, M0, H0, M, env, out, r, q, k⟩ => by
  simp only [evS] at q
  split at q
  · rename_i xs hj
    cases q
    obtain ⟨l, vs, h1, q3, hll, dl⟩ := r.own hj
    refine ⟨_, q3, .inl ⟨rfl, _, SqL.of hll⟩, l, vs, rfl, rfl, hll, ?_⟩
    exact k σ M _ (r.put h1 q3 (ownL dl.reverse)) (Same.refl M)
  · cases q
/-- the own cells all stand in Hs -/
def AllOld (σ : L2.St) (env : FEnv) (Hs : Hp) : Prop := ∀ (j : Nat) (e : D) (l : Addr), env[j]? = some (some (true, e)) → σ[j]? = some (some (.ref l)) → Hs l ≠ none
variable {K : PySem.W.Frag} {A0 : Addr} {M0 H0 M M1 M' H H1 H' Hs : Hp} {σ : L2.St} {env : FEnv}
theorem Rel.old (r : Rel K A0 M0 H0 M σ env H) : AllOld σ env H := fun j e l h1 h2 h3 => by
  obtain ⟨_, _, o, ho, _⟩ := r.muNone ⟨j, e, h1, h2⟩
  rw [ho] at h3
  cases h3
theorem Res.lift {own : Bool} {v : V} {d : D} (x : Xt M M' H1 H') (r : Res K M H H1 own v d) : Res K M' H H' own v d := by
  cases own with
  | false => exact Dat.mono x.m r
  | true =>
    obtain ⟨l, o, e1, e2, hl, h1, m1, dl⟩ := r
    exact ⟨l, o, e1, e2, hl, x.h _ _ h1, no_D x m1 h1 dl.ntup, dl.mono x.m⟩
theorem Rel.asgX {own : Bool} {v : V} {d : D} (r : Rel K A0 M0 H0 M σ env H) (o : AllOld σ env Hs) (i : Nat) (res : Res K M Hs H own v d) (res1 : Res K M1 Hs H1 own v d) (hb : Same H0 Hs) (s1 : Same Hs H1) :
    Rel K A0 M0 H0 M (σ.set i (some v)) (env.set i (some (own, d))) H ∧ AllOld (σ.set i (some v)) (env.set i (some (own, d))) H1 := by
  refine ⟨r.set i res hb fun j e l hj h1 h2 ho hv => ?_, fun j e l h1 h2 h3 => ?_⟩
  · subst ho
    obtain ⟨l', o', e1, e2, hl, _⟩ := res
    rw [hv] at e1
    cases e1
    exact o j e l h1 h2 hl
  · rcases set_at h1 with ⟨rfl, q, hlen⟩ | ⟨hj, q⟩
    · have hown : own = true := congrArg Prod.fst (Option.some.inj q)
      subst hown
      obtain ⟨l', o', e1, e2, hl, hl1, _⟩ := res1
      rw [List.getElem?_set_self (by rw [r.len]; exact hlen)] at h2
      rw [e1] at h2
      cases h2
      rw [hl1] at h3
      cases h3
    · rw [List.getElem?_set_ne hj] at h2
      exact o j e l q h2 (by
        cases e : Hs l with
        | none => rfl
        | some u => rw [s1 _ _ e] at h3; cases h3)
/-- a, b, c = e1, e2, e3 -/
theorem w_par3 {i j l : Nat} {m m' m'' : Md} {ta : TA} (h : PS X st (tPar3 i j l ta))
    (ht : ∀ σ H Q, tE X.K Φ m.own a σ H (fun v H1 => tE X.K Φ m'.own b σ H1 fun w H2 => tE X.K Φ m''.own c σ H2 fun u H3 => Q [v, w, u] H3) → ta σ H Q) : PS X st (tS X.K Φ (.par3 i j l a b c m m' m'')) := ps_imp h fun D σ H ⟨A0, M0, H0, M, env, out, r, q, k⟩ => by
  simp only [evS] at q
  obtain ⟨d1, q1, q⟩ := Option.bind_eq_some_iff.mp q
  obtain ⟨d2, q2, q⟩ := Option.bind_eq_some_iff.mp q
  obtain ⟨d3, q3, rfl⟩ := Option.map_eq_some_iff.mp q
  refine ht σ H _ (evM_ok r q1 fun v1 M1 H1 x1 res1 => evM_ok (r.step x1) q2 fun v2 M2 H2 x2 res2 => evM_ok ((r.step x1).step x2) q3 fun v3 M3 H3 x3 res3 => ⟨v1, v2, v3, rfl, ?_⟩)
  have r3 := ((r.step x1).step x2).step x3
  have o0 := r.old
  have res1' := (res1.lift x2).lift x3
  have res2' := res2.lift x3
  obtain ⟨ra, oa⟩ := r3.asgX o0 i res1' res1 r.h0 x1.h
  obtain ⟨rb, ob⟩ := ra.asgX oa j res2' res2 (r.h0.trans x1.h) x2.h
  obtain ⟨rc, oc⟩ := rb.asgX ob l res3 res3 ((r.h0.trans x1.h).trans x2.h) x3.h
  exact k _ M3 H3 rc ((x1.m.trans x2.m).trans x3.m)
end
end PyD

/-! The checker, and what it is worth. -/
namespace PyD
open PySem L2 RZ

/-! ### shapes -/
def plainX : Expr → Bool
  | .Starred _ _ => false
  | .Slice _ _ _ _ => false
  | .Set _ _ _ => false
  | _ => true
def isComp : Expr → Bool
  | .ListComp _ _ _ _ => true
  | .SetComp _ _ _ _ => true
  | .DictComp _ _ _ _ _ => true
  | _ => false
def isBO : Expr → Bool
  | .BoolOp _ _ _ => true
  | _ => false
theorem star_of {x : Expr} {xs : List Expr} {env : PySem.Env} (h : plainX x = true) : starEach (x :: xs) env = (false, eval x env) :: starEach xs env := by
  cases x <;> first | rfl | cases h
theorem fold_of {x : Expr} {env : PySem.Env} (h : plainX x = true) : ∀ v, foldedSetIterable x env v = pure v := by
  intro v
  cases x <;> first | rfl | cases h
theorem ix_of {x : Expr} (h : plainX x = true) : PlainIx x := by
  intro o i
  cases x <;> first | rfl | cases h
def plainAll (xs : List Expr) : Bool := xs.all plainX
theorem any_of {pos : Pos} {env : PySem.Env} : ∀ {xs : List Expr}, plainAll xs = true → (backTo pos (starEach xs env)).any (·.1) = false
  | [], _ => rfl
  | x :: xs, h => by
    simp only [plainAll, List.all_cons, Bool.and_eq_true] at h
    rw [star_of h.1]
    show (false || (backTo pos (starEach xs env)).any (·.1)) = false
    rw [Bool.false_or]
    exact any_of (xs := xs) h.2
theorem swaps_of {x : Expr} {t : Option Expr} {l : Nat} {env : PySem.Env} (h : isComp x = false) : swapsWith x t l env = pure false := by
  cases x <;> first | rfl | cases h
theorem block_of {env : PySem.Env} (h : env.scope.kind = .function) : env.blockKind = .function := by
  unfold Env.blockKind
  rw [h]
  rfl
/-- whether a comprehension is stored straight into the name -/
def swB (sc : Scope) (y : Str) (py : Pos) (s : Scope) (p : Pos) : Bool :=
  (match sc.names.lookup y with | some .local => true | _ => false) && (py.line == p.line) && !(s.names.any fun (n, k) => n == y && (k == .local || k == .cell))
theorem swapsLc {elt : Expr} {gs : List Comprehension} {s : Scope} {p py : Pos} {y : Str} {l : Nat} {env : PySem.Env} (hk : env.scope.kind = .function) : swapsWith (.ListComp elt gs s p) (some (.Name y py)) l env = pure (swB env.scope y py s p) := by
  unfold swapsWith swB
  simp only [block_of hk, Expr.pos]
  have e : (env.kindOf y == some NameKind.local) = (match env.scope.names.lookup y with | some .local => true | _ => false) := by
    show (env.scope.names.lookup y == some NameKind.local) = _
    cases env.scope.names.lookup y with
    | none => rfl
    | some k => cases k <;> rfl
  rw [e]
  show pure (true && _ && _ && _) = pure _
  rw [Bool.true_and]

/-! ### names -/
def isV (sc : Scope) (x : Str) : Bool := match sc.names.lookup x with
  | some .local => true
  | some .cell => true
  | some .free => true
  | _ => false
def isG (sc : Scope) (x : Str) : Bool := match sc.names.lookup x with
  | some .globalImplicit => true
  | _ => false
def okNm (x : Str) : Bool := !(x == ("__debug__" : Str)) && !(x == ("__classdict__" : Str))
theorem vis_of {sc : Scope} {x : Str} (h : isV sc x = true) : Vis sc x := by
  unfold isV at h
  split at h
  · exact .inl (by assumption)
  · exact .inr (.inl (by assumption))
  · exact .inr (.inr (by assumption))
  · cases h
theorem gl_of {X : Cx} {sc : Scope} {x : Str} (e : X.env.scope = sc) (h : isG sc x = true) : Gl X x := by
  unfold isG at h
  split at h
  · show X.env.scope.names.lookup x = some .globalImplicit
    rw [e]
    assumption
  · cases h
/-- a name that is stored -/
def isSt (sc : Scope) (fb : Str → Bool) (x : Str) : Bool := match sc.names.lookup x with
  | some .local => true
  | some .cell => fb x
  | _ => false
theorem st_of {X : Cx} {sc : Scope} {fb : Str → Bool} {x : Str} (e : X.env.scope = sc) (hf : ∀ x, fb x = true → X.fn x = true) (h : isSt sc fb x = true) : Loc X.env.scope x ∧ (X.fn x = true ∨ X.env.scope.names.lookup x = some .local) := by
  unfold isSt at h
  rw [e]
  split at h
  · rename_i q
    exact ⟨.inl q, .inr q⟩
  · rename_i q
    exact ⟨.inr q, .inl (hf x h)⟩
  · cases h

/-! ### targets -/
def chkTs (C : Ck) (sc : Scope) (fb : Str → Bool) : List Nat → List Expr → Bool
  | [], [] => true
  | i :: is, .Name x _ :: xs => decide (C.N[i]? = some x) && isSt sc fb x && chkTs C sc fb is xs
  | _, _ => false
def chkT (C : Ck) (sc : Scope) (fb : Str → Bool) : T → Expr → Bool
  | .nm i, .Name x _ => decide (C.N[i]? = some x) && isSt sc fb x
  | .tp is, .Tuple xs _ _ => chkTs C sc fb is xs
  | _, _ => false
section
variable {C : Ck} {n : Nat} {sc : Scope} {fb : Str → Bool} {X : Cx}
theorem pg_nm {i : Nat} {x : Str} {pos : Pos} (G : Gd C n sc fb X) (h1 : C.N[i]? = some x) (h2 : isSt sc fb x = true) : PG X (.Name x pos) (gName i) := by
  obtain ⟨a, b⟩ := st_of G.sc G.fnb h2
  exact pg_name (by rw [G.hN]; exact G.nd) (by rw [G.hN]; exact h1) a b
theorem pgs_of (G : Gd C n sc fb X) : ∀ {is : List Nat} {xs : List Expr}, chkTs C sc fb is xs = true → PGs X xs (gSeq is) ∧ (assignEach xs X.env).length = is.length ∧ (assignEach xs X.env).findIdx? (·.1) = none
  | [], [], _ => ⟨pgs_nil, rfl, rfl⟩
  | i :: is, .Name x p :: xs, h => by
    simp only [chkTs, Bool.and_eq_true, decide_eq_true_eq] at h
    obtain ⟨h1, h2, h3⟩ := pgs_of G (is := is) (xs := xs) h.2
    refine ⟨pgs_cons (pg_nm G h.1.1 h.1.2) h1 rfl, ?_, ?_⟩
    · show (assignEach xs X.env).length + 1 = _
      rw [h2]
      rfl
    · show ((false, assign (.Name x p) X.env) :: assignEach xs X.env).findIdx? (·.1) = none
      rw [List.findIdx?_cons, h3]
      rfl
theorem pg_of (G : Gd C n sc fb X) {t : T} {x : Expr} (h : chkT C sc fb t x = true) : PG X x (gT X.K t) := by
  cases t with
  | nm i =>
    cases x <;> first | cases h | skip
    simp only [chkT, Bool.and_eq_true, decide_eq_true_eq] at h
    exact pg_nm G h.1 h.2
  | tp is =>
    cases x <;> first | cases h | skip
    obtain ⟨h1, h2, h3⟩ := pgs_of G (show chkTs C sc fb is _ = true from h)
    exact pg_tup G.calm h1 h2 h3
end

/-! ### expressions -/
def freshE (tb : List Fn) : E → Bool
  | .lst _ => true
  | .lc _ _ _ _ => true
  | .lc2 _ _ _ _ _ _ _ => true
  | .lrng _ => true
  | .bin .add _ _ => true
  | .bin .mul _ _ => true
  | .bi .list _ => true
  | .sl _ _ _ => true
  | .call f _ => (tb[f]?).elim false (·.fr)
  | .ite _ a b => freshE tb a && freshE tb b
  | .dnew => true
  | .nnew => true
  | .disp _ _ => true
  | _ => false
def okT : E → Bool
  | .ite _ _ _ => false
  | .and a b => okT a && okT b
  | .or a b => okT a && okT b
  | .not a => okT a
  | .one a => okT a
  | .nil => false
  | .cons _ _ => false
  | .rng1 _ => false
  | .rng2 _ _ => false
  | .enu _ => false
  | .zip _ _ => false
  | .zip3 _ _ _ => false
  | .oit _ _ _ => false
  | _ => true

inductive Tg | e (x : Expr) | a (xs : List Expr) | i (tx x : Expr)
def Tg.val : Tg → Option Expr
  | .e x => some x
  | .i _ x => if plainX x then some x else none
  | .a _ => none
def isTupX : Expr → Bool
  | .Tuple _ _ _ => true
  | _ => false
def binOf : Op → Option Operator
  | .add => some .Add | .sub => some .Sub | .mul => some .Mult | .fdiv => some .FloorDiv | .mod => some .Mod | .pow => some .Pow
  | _ => none
/-- a comprehension's own names, by their places -/
def ownOf (N : List Str) (is : List Nat) : List (Str × Nat) := is.map fun i => ((N[i]?).getD "", i)
def cellIn (s : Scope) : Str → Bool := fun x => s.names.lookup x == some .cell

/-- what may be locked at once -/
def okLk : Expr → Bool
  | .Dict _ _ _ => true
  | .Call _ _ _ _ => true
  | _ => false
def isTrueE : E → Bool
  | .bl b => b
  | _ => false
def isRg : E → Bool
  | .rng1 _ => true
  | .rng2 _ _ => true
  | _ => false
def chk (C : Ck) : E → Scope → (Str → Bool) → Tg → Bool
  | .var i, sc, _, t => match t.val with
    | some (.Name x _) => decide (C.N[i]? = some x) && isV sc x && okNm x
    | _ => false
  | .int n, _, _, t => match t.val with
    | some (.Constant (.int m) _ _) => decide (n = m)
    | _ => false
  | .bl b, _, _, t => match t.val with
    | some (.Constant (.bool c) _ _) => decide (b = c)
    | _ => false
  | .non, _, _, t => match t.val with
    | some (.Constant .none _ _) => true
    | _ => false
  | .str s, _, _, t => match t.val with
    | some (.Constant (.str u) _ _) => decide (s = u)
    | _ => false
  | .neg a, sc, fb, t => match t.val with
    | some (.UnaryOp .USub x _) => chk C a sc fb (.e x)
    | _ => false
  | .bin o a b, sc, fb, t => match t.val with
    | some (.BinOp x op y _) => decide (binOf o = some op) && chk C a sc fb (.e x) && chk C b sc fb (.e y)
    | _ => false
  | .cmp o a b, sc, fb, t => match t.val with
    | some (.Compare x [op] [y] _) => decide (cmpOf o = some op) && chk C a sc fb (.e x) && chk C b sc fb (.e y) && !(behindInMarks op y)
    | _ => false
  | .chain o o' a b c, sc, fb, t => match t.val with
    | some (.Compare x [op, op'] [y, z] _) => decide (cmpOf o = some op) && decide (cmpOf o' = some op') && chk C a sc fb (.e x) && chk C b sc fb (.e y) && chk C c sc fb (.e z) && !(lastMarks [op, op'] [y, z])
    | _ => false
  | .isN a, sc, fb, t => match t.val with
    | some (.Compare x [.Is] [.Constant .none _ _] _) => chk C a sc fb (.e x)
    | _ => false
  | .notN a, sc, fb, t => match t.val with
    | some (.Compare x [.IsNot] [.Constant .none _ _] _) => chk C a sc fb (.e x)
    | _ => false
  | .and a b, sc, fb, t => match t.val with
    | some (.BoolOp .And (x :: y :: r) p) => chk C a sc fb (.e x) && chk C b sc fb (.e (.BoolOp .And (y :: r) p))
    | _ => false
  | .or a b, sc, fb, t => match t.val with
    | some (.BoolOp .Or (x :: y :: r) p) => chk C a sc fb (.e x) && chk C b sc fb (.e (.BoolOp .Or (y :: r) p))
    | _ => false
  | .one a, sc, fb, t => match t.val with
    | some (.BoolOp _ [x] _) => chk C a sc fb (.e x)
    | _ => false
  | .not a, sc, fb, t => match t.val with
    | some (.UnaryOp .Not x _) => chk C a sc fb (.e x)
    | _ => false
  | .ite c a b, sc, fb, t => match t.val with
    | some (.IfExp z x y _) => okT c && chk C c sc fb (.e z) && chk C a sc fb (.e x) && chk C b sc fb (.e y)
    | _ => false
  | .nil, _, _, .a [] => true
  | .nil, _, _, _ => false
  | .cons a b, sc, fb, .a (x :: xs) => plainX x && chk C a sc fb (.e x) && chk C b sc fb (.a xs)
  | .cons _ _, _, _, _ => false
  | .tup a, sc, fb, t => match t.val with
    | some (.Tuple xs _ _) => (argsLen a).isSome && decide ((argsLen a).getD 0 ≤ LIM) && chk C a sc fb (.a xs)
    | _ => false
  | .lst a, sc, fb, t => match t.val with
    | some (.List xs _) => (argsLen a).isSome && decide ((argsLen a).getD 0 ≤ LIM) && chk C a sc fb (.a xs)
    | _ => false
  | .call f a, sc, fb, t => match t.val with
    | some (.Call (.Name x _) (y :: ys) [] _) => decide ((C.tb[f]?).map (·.name) = some x) && (C.tb[f]?).elim false (·.init.isNone) && isG sc x && okNm x && plainAll (y :: ys) && chk C a sc fb (.a (y :: ys))
    | _ => false
  | .bi b a, sc, fb, t => match t.val with
    | some (.Call (.Name x _) (y :: ys) [] _) => decide (x = biNm b) && isG sc x && (!decide (b = .gcd) || C.gcd) && plainAll (y :: ys) && chk C a sc fb (.a (y :: ys))
    | _ => false
  | .isi a ty, sc, fb, t => match t.val with
    | some (.Call (.Name x _) [y, .Name z _] [] _) => decide (x = "isinstance") && isG sc x && decide (z = tyNm ty) && isG sc z && plainX y && chk C a sc fb (.e y)
    | _ => false
  | .idx a i, sc, fb, t => match t.val with
    | some (.Subscript x y _) => plainX y && chk C a sc fb (.e x) && chk C i sc fb (.e y)
    | _ => false
  | .sl a lo hi, sc, fb, t => match t.val with
    | some (.Subscript x (.Slice l h none _) _) => chk C a sc fb (.e x) && (match l with | none => lo.isNil | some l => !lo.isNil && chk C lo sc fb (.e l)) && (match h with | none => hi.isNil | some h => !hi.isNil && chk C hi sc fb (.e h))
    | _ => false
  | .lc tt it c e, sc, fb, t => match t.val with
    | some (.ListComp elt [⟨tx, ix, ifs, k⟩] s _) => decide (k = 0) && plainX ix && blkC C.N sc s (ownOf C.N tt.slots) && chk C it sc fb (.i tx ix) && chkT C (relS s sc) (cellIn s) tt tx &&
        (match ifs with | [] => isTrueE c | [y] => okT c && chk C c (relS s sc) (cellIn s) (.e y) | _ => false) && chk C e (relS s sc) (cellIn s) (.e elt)
    | _ => false
  | .lc2 tt it c tt' it' c' e, sc, fb, t => match t.val with
    | some (.ListComp elt [⟨tx, ix, ifs, k⟩, ⟨tx', ix', ifs', k'⟩] s _) => decide (k = 0) && decide (k' = 0) && plainX ix && plainX ix' && blkC C.N sc s (ownOf C.N (tt.slots ++ tt'.slots)) && chk C it sc fb (.i tx ix) && chkT C (relS s sc) (cellIn s) tt tx &&
        (match ifs with | [] => isTrueE c | [y] => okT c && chk C c (relS s sc) (cellIn s) (.e y) | _ => false) &&
        chk C it' (relS s sc) (cellIn s) (.i tx' ix') && chkT C (relS s sc) (cellIn s) tt' tx' &&
        (match ifs' with | [] => isTrueE c' | [y] => okT c' && chk C c' (relS s sc) (cellIn s) (.e y) | _ => false) && chk C e (relS s sc) (cellIn s) (.e elt)
    | _ => false
  | .rng1 a, sc, fb, t => match t with
    | .i _ (.Call (.Name x _) [y] [] _) => decide (x = "range") && isG sc x && plainX y && chk C a sc fb (.e y)
    | _ => false
  | .rng2 a b, sc, fb, t => match t with
    | .i _ (.Call (.Name x _) [y, z] [] _) => decide (x = "range") && isG sc x && plainX y && plainX z && chk C a sc fb (.e y) && chk C b sc fb (.e z)
    | _ => false
  | .enu a, sc, fb, t => match t with
    | .i tx (.Call (.Name x _) [y] [] _) => isTupX tx && decide (x = "enumerate") && isG sc x && plainX y && chk C a sc fb (.e y)
    | _ => false
  | .zip a b, sc, fb, t => match t with
    | .i tx (.Call (.Name x _) [y, z] [] _) => isTupX tx && decide (x = "zip") && isG sc x && plainX y && plainX z && chk C a sc fb (.e y) && chk C b sc fb (.e z)
    | _ => false
  | .zip3 a b c, sc, fb, t => match t with
    | .i tx (.Call (.Name x _) [y, z, u] [] _) => isTupX tx && decide (x = "zip") && isG sc x && plainX y && plainX z && plainX u && chk C a sc fb (.e y) && chk C b sc fb (.e z) && chk C c sc fb (.e u)
    | _ => false
  | .oit c f a, sc, fb, t => match t with
    | .i _ x => C.its.contains (c, f) && chk C a sc fb (.e x)
    | _ => false
  | .lrng r, sc, fb, t => match t.val with
    | some (.Call (.Name x _) [y] [] _) => decide (x = "list") && isG sc x && plainX y && isRg r && chk C r sc fb (.i y y)
    | _ => false
  | .trng r, sc, fb, t => match t.val with
    | some (.Call (.Name x _) [y] [] _) => decide (x = "tuple") && isG sc x && plainX y && isRg r && chk C r sc fb (.i y y)
    | _ => false
  | .attr cs a f, sc, fb, t => match t.val with
    | some (.Attribute x g _) => decide (f = g) && attX x && cs.all (fun c => C.ats.contains (c, f)) && chk C a sc fb (.e x)
    | _ => false
  | .glb nm ns, sc, _, t => match t.val with
    | some (.Name x _) => decide (x = nm) && isG sc x && okNm x && C.gl.contains (nm, ns)
    | _ => false
  | .con c f n, sc, _, t => match t.val with
    | some (.Attribute (.Name x _) g _) => decide (x = c) && decide (g = f) && isG sc x && okNm x && C.cns.contains (c, f, n)
    | _ => false
  | .new f a, sc, fb, t => match t.val with
    | some (.Call (.Name x _) (y :: ys) [] _) => decide ((C.tb[f]?).bind (·.init) = some x) && isG sc x && okNm x && plainAll (y :: ys) && chk C a sc fb (.a (y :: ys))
    | _ => false
  | .index a b, sc, fb, t => match t.val with
    | some (.Call (.Attribute x m p2) [y] [] p) => decide (m = "index") && attX x && (p2.endLine == p.line) && plainX y && chk C a sc fb (.e x) && chk C b sc fb (.e y)
    | _ => false
  | .dnew, _, _, t => match t.val with
    | some (.Dict [] [] _) => true
    | _ => false
  | .nnew, _, _, t => match t.val with
    | some (.Dict [] [] _) => true
    | _ => false
  | .lk a, sc, fb, t => match t.val with
    | some x => freshE C.tb a && !(isComp x) && !(isBO x) && okLk x && chk C a sc fb (.e x)
    | none => false
  | .getd a k d, sc, fb, t => match t.val with
    | some (.Call (.Attribute x m p2) [y, z] [] p) => decide (m = "get") && attX x && (p2.endLine == p.line) && plainX y && plainX z && chk C a sc fb (.e x) && chk C k sc fb (.e y) && chk C d sc fb (.e z)
    | _ => false
  | .get1 a k, sc, fb, t => match t.val with
    | some (.Call (.Attribute x m p2) [y] [] p) => decide (m = "get") && attX x && (p2.endLine == p.line) && plainX y && chk C a sc fb (.e x) && chk C k sc fb (.e y)
    | _ => false
  | .disp k v, sc, fb, t => match t.val with
    | some (.Dict [some x] [y] _) => chk C k sc fb (.e x) && chk C v sc fb (.e y)
    | _ => false
end PyD

/-! What the checker accepts is read by the interpreter: expressions. -/
namespace PyD
open PySem L2 RZ

structure SndE (C : Ck) (n : Nat) (X : Cx) (sc : Scope) (fb : Str → Bool) (e : E) (x : Expr) : Prop where
  pe : PE X x (tE X.K (fns C.tb n) false e)
  fr : freshE C.tb e = true → PE X x (tE X.K (fns C.tb n) true e)
  pt : okT e = true → PT X x (tT X.K (fns C.tb n) e)
  pw : isBO x = true → okT e = true → PW X x (tT X.K (fns C.tb n) e)
  asg : ∀ (m : Md) (i : Nat) (nm : Str) (py spos : Pos), (m.own = true → freshE C.tb e = true) → C.N[i]? = some nm → isSt sc fb nm = true → PS X (.Assign [.Name nm py] x spos) (tS X.K (fns C.tb n) (.asg i e m))
def Snd (C : Ck) (n : Nat) (X : Cx) (sc : Scope) (fb : Str → Bool) (e : E) : Tg → Prop
  | .e x => SndE C n X sc fb e x
  | .a xs => PA X xs (tA X.K (fns C.tb n) e)
  | .i tx x => PI X tx x (tI X.K (fns C.tb n) e) ∧ (isRg e = true → PI X tx x (tIR X.K (fns C.tb n) e) ∧ PRg X x (tRg X.K (fns C.tb n) e))

section
variable {C : Ck} {n : Nat} {sc : Scope} {fb : Str → Bool} {X : Cx} {e : E} {x : Expr}
theorem asg_plain (G : Gd C n sc fb X) (hx : isComp x = false) (pe : PE X x (tE X.K (fns C.tb n) false e)) (fr : freshE C.tb e = true → PE X x (tE X.K (fns C.tb n) true e)) :
    ∀ (m : Md) (i : Nat) (nm : Str) (py spos : Pos), (m.own = true → freshE C.tb e = true) → C.N[i]? = some nm → isSt sc fb nm = true → PS X (.Assign [.Name nm py] x spos) (tS X.K (fns C.tb n) (.asg i e m)) := by
  intro m i nm py spos hm hi hs
  obtain ⟨a, b⟩ := st_of G.sc G.fnb hs
  have pe' : PE X x (tE X.K (fns C.tb n) m.own e) := by
    cases ho : m.own with
    | false => exact pe
    | true => exact fr (hm ho)
  exact w_asg (ps_set (by rw [G.hN]; exact G.nd) (by rw [G.hN]; exact hi) a pe' (swaps_of hx) b)
theorem mk_plain (G : Gd C n sc fb X) (hx : isComp x = false) (hb : isBO x = false) (pe : PE X x (tE X.K (fns C.tb n) false e)) (fr : freshE C.tb e = true → PE X x (tE X.K (fns C.tb n) true e))
    (ht : ∀ whole, isTrue x X.env whole = (do let v ← whole; standAt x.pos; holding [v] (truthy v))) : SndE C n X sc fb e x :=
  ⟨pe, fr, fun _ => pt_of pe ht, (fun h => nomatch hb.symm.trans h), asg_plain G hx pe fr⟩
theorem mk_test (G : Gd C n sc fb X) (hx : isComp x = false) (hb : isBO x = false) (hf : freshE C.tb e = false) (pe : PE X x (tE X.K (fns C.tb n) false e)) (pt : okT e = true → PT X x (tT X.K (fns C.tb n) e)) : SndE C n X sc fb e x :=
  ⟨pe, (fun h => nomatch hf.symm.trans h), pt, (fun h => nomatch hb.symm.trans h), asg_plain G hx pe (fun h => nomatch hf.symm.trans h)⟩

/-- the value nodes -/
theorem snd_val (H : ∀ sc fb X x, Gd C n sc fb X → chk C e sc fb (.e x) = true → SndE C n X sc fb e x) (hr : isRg e = false) (hv : ∀ sc fb t, chk C e sc fb t = true → ∃ x, t.val = some x ∧ chk C e sc fb (.e x) = true) :
    ∀ (t : Tg) sc fb X, Gd C n sc fb X → chk C e sc fb t = true → Snd C n X sc fb e t := by
  intro t sc fb X G h
  obtain ⟨x, h1, h2⟩ := hv sc fb t h
  have s := H sc fb X x G h2
  cases t with
  | e y =>
    cases h1
    exact s
  | a xs => cases h1
  | i tx y =>
    have : y = x := by
      unfold Tg.val at h1
      simp only [] at h1
      split at h1
      · exact Option.some.inj h1
      · cases h1
    subst this
    exact ⟨i_seq s.pe, fun q => nomatch hr.symm.trans q⟩
theorem val_e {x : Expr} : (Tg.e x).val = some x := rfl

theorem isL_add {Φ : Fns} {a b : E} : freshE C.tb (.bin .add a b) = true := rfl

theorem snd_var {i : Nat} (G : Gd C n sc fb X) (h : chk C (.var i) sc fb (.e x) = true) : SndE C n X sc fb (.var i) x := by
  simp only [chk, Tg.val] at h
  split at h
  · rename_i nm p he
    cases he
    simp only [Bool.and_eq_true, decide_eq_true_eq, okNm, Bool.not_eq_true'] at h
    have hv := vis_of h.1.2
    rw [← G.sc] at hv
    exact mk_plain G rfl rfl (s_var (pe_var (by rw [G.hN]; exact h.1.1) hv h.2.1 h.2.2)) (fun h => nomatch h) (fun _ => rfl)
  · cases h
theorem snd_int {k : Int} (G : Gd C n sc fb X) (h : chk C (.int k) sc fb (.e x) = true) : SndE C n X sc fb (.int k) x := by
  simp only [chk, Tg.val] at h
  split at h
  · rename_i m _ p he
    cases he
    cases of_decide_eq_true h
    exact mk_plain G rfl rfl (s_cst pe_int (fun _ => .int _) (fun _ => rfl)) (fun h => nomatch h) (fun _ => rfl)
  · cases h
theorem snd_bl {k : Bool} (G : Gd C n sc fb X) (h : chk C (.bl k) sc fb (.e x) = true) : SndE C n X sc fb (.bl k) x := by
  simp only [chk, Tg.val] at h
  split at h
  · rename_i m _ p he
    cases he
    cases of_decide_eq_true h
    exact mk_plain G rfl rfl (s_cst pe_bl (fun _ => .bl _) (fun _ => rfl)) (fun h => nomatch h) (fun _ => rfl)
  · cases h
theorem snd_non (G : Gd C n sc fb X) (h : chk C .non sc fb (.e x) = true) : SndE C n X sc fb .non x := by
  simp only [chk, Tg.val] at h
  split at h
  · rename_i _ p he
    cases he
    exact mk_plain G rfl rfl (s_cst pe_non (fun _ => .non) (fun _ => rfl)) (fun h => nomatch h) (fun _ => rfl)
  · cases h
theorem snd_str {k : Str} (G : Gd C n sc fb X) (h : chk C (.str k) sc fb (.e x) = true) : SndE C n X sc fb (.str k) x := by
  simp only [chk, Tg.val] at h
  split at h
  · rename_i m _ p he
    cases he
    cases of_decide_eq_true h
    exact mk_plain G rfl rfl (s_cst pe_str (fun _ => .str _) (fun _ => rfl)) (fun h => nomatch h) (fun _ => rfl)
  · cases h

variable {a b c : E}
/-- what the induction gives for a part -/
structure IH (C : Ck) (n : Nat) (a : E) : Prop where
  all : ∀ (t : Tg) sc fb X, Gd C n sc fb X → chk C a sc fb t = true → Snd C n X sc fb a t
theorem IH.ex (h : IH C n a) (G : Gd C n sc fb X) (q : chk C a sc fb (.e x) = true) : SndE C n X sc fb a x := h.all (.e x) sc fb X G q
theorem IH.ar {xs : List Expr} (h : IH C n a) (G : Gd C n sc fb X) (q : chk C a sc fb (.a xs) = true) : PA X xs (tA X.K (fns C.tb n) a) := h.all (.a xs) sc fb X G q

theorem snd_neg (ha : IH C n a) (G : Gd C n sc fb X) (h : chk C (.neg a) sc fb (.e x) = true) : SndE C n X sc fb (.neg a) x := by
  simp only [chk, Tg.val] at h
  split at h
  · rename_i y p he
    cases he
    exact mk_plain G rfl rfl (s_neg (ha.ex G h).pe) (fun h => nomatch h) (fun _ => rfl)
  · cases h
theorem snd_bin {o : Op} (ha : IH C n a) (hb : IH C n b) (G : Gd C n sc fb X) (h : chk C (.bin o a b) sc fb (.e x) = true) : SndE C n X sc fb (.bin o a b) x := by
  simp only [chk, Tg.val] at h
  split at h
  · rename_i y op z p he
    cases he
    simp only [Bool.and_eq_true, decide_eq_true_eq] at h
    obtain ⟨⟨h1, h2⟩, h3⟩ := h
    have pa := (ha.ex G h2).pe
    have pb := (hb.ex G h3).pe
    cases o <;> cases h1
    · exact mk_plain G rfl rfl (s_add pa pb) (fun _ => s_add pa pb) (fun _ => rfl)
    · exact mk_plain G rfl rfl (s_sub pa pb) (fun h => nomatch h) (fun _ => rfl)
    · exact mk_plain G rfl rfl (s_mul pa pb) (fun _ => s_mul pa pb) (fun _ => rfl)
    · exact mk_plain G rfl rfl (s_fdiv pa pb) (fun h => nomatch h) (fun _ => rfl)
    · exact mk_plain G rfl rfl (s_mod pa pb) (fun h => nomatch h) (fun _ => rfl)
    · exact mk_plain G rfl rfl (s_pow pa pb) (fun h => nomatch h) (fun _ => rfl)
  · cases h
theorem snd_cmp {o : Op} (ha : IH C n a) (hb : IH C n b) (G : Gd C n sc fb X) (h : chk C (.cmp o a b) sc fb (.e x) = true) : SndE C n X sc fb (.cmp o a b) x := by
  simp only [chk, Tg.val] at h
  split at h
  · rename_i y op z p he
    cases he
    simp only [Bool.and_eq_true, decide_eq_true_eq, Bool.not_eq_true'] at h
    obtain ⟨⟨⟨h1, h2⟩, h3⟩, h4⟩ := h
    obtain ⟨r, cr⟩ := cmp_all (X := X) G.hu h1
    obtain ⟨q1, q2⟩ := s_cmp cr (ha.ex G h2).pe (hb.ex G h3).pe (pos := p) h4
    exact mk_test G rfl rfl rfl q1 (fun _ => q2)
  · cases h
theorem snd_chain {o o' : Op} (ha : IH C n a) (hb : IH C n b) (hc : IH C n c) (G : Gd C n sc fb X) (h : chk C (.chain o o' a b c) sc fb (.e x) = true) : SndE C n X sc fb (.chain o o' a b c) x := by
  simp only [chk, Tg.val] at h
  split at h
  · rename_i y op op' z w p he
    cases he
    simp only [Bool.and_eq_true, decide_eq_true_eq, Bool.not_eq_true'] at h
    obtain ⟨⟨⟨⟨⟨h1, h2⟩, h3⟩, h4⟩, h5⟩, h6⟩ := h
    obtain ⟨r, cr⟩ := cmp_all (X := X) G.hu h1
    obtain ⟨r', cr'⟩ := cmp_all (X := X) G.hu h2
    obtain ⟨q1, q2⟩ := s_chain cr cr' (ha.ex G h3).pe (hb.ex G h4).pe (hc.ex G h5).pe (pos := p) h6
    exact mk_test G rfl rfl rfl q1 (fun _ => q2)
  · cases h
theorem snd_isN (ha : IH C n a) (G : Gd C n sc fb X) (h : chk C (.isN a) sc fb (.e x) = true) : SndE C n X sc fb (.isN a) x := by
  simp only [chk, Tg.val] at h
  split at h
  · rename_i y j p1 p he
    cases he
    obtain ⟨q1, q2⟩ := s_isN (ha.ex G h).pe (pos := p) (pos' := p1) (j := j)
    exact mk_test G rfl rfl rfl q1 (fun _ => q2)
  · cases h
theorem snd_notN (ha : IH C n a) (G : Gd C n sc fb X) (h : chk C (.notN a) sc fb (.e x) = true) : SndE C n X sc fb (.notN a) x := by
  simp only [chk, Tg.val] at h
  split at h
  · rename_i y j p1 p he
    cases he
    obtain ⟨q1, q2⟩ := s_notN (ha.ex G h).pe (pos := p) (pos' := p1) (j := j)
    exact mk_test G rfl rfl rfl q1 (fun _ => q2)
  · cases h
theorem snd_and (ha : IH C n a) (hb : IH C n b) (G : Gd C n sc fb X) (h : chk C (.and a b) sc fb (.e x) = true) : SndE C n X sc fb (.and a b) x := by
  simp only [chk, Tg.val] at h
  split at h
  · rename_i y z r p he
    cases he
    simp only [Bool.and_eq_true] at h
    have sa := ha.ex G h.1
    have sb := hb.ex G h.2
    have pe := s_and sa.pe sb.pe
    have pw : okT (.and a b) = true → PW X (.BoolOp .And (y :: z :: r) p) (tT X.K (fns C.tb n) (.and a b)) := fun q => by
      have q' := Bool.and_eq_true_iff.mp q
      exact st_and (sa.pt q'.1) (sb.pw rfl q'.2)
    exact ⟨pe, (fun h => nomatch h), fun q => (pw q).pt, fun _ q => pw q, asg_plain G rfl pe (fun h => nomatch h)⟩
  · cases h
theorem snd_or (ha : IH C n a) (hb : IH C n b) (G : Gd C n sc fb X) (h : chk C (.or a b) sc fb (.e x) = true) : SndE C n X sc fb (.or a b) x := by
  simp only [chk, Tg.val] at h
  split at h
  · rename_i y z r p he
    cases he
    simp only [Bool.and_eq_true] at h
    have sa := ha.ex G h.1
    have sb := hb.ex G h.2
    have pe := s_or sa.pe sb.pe
    have pw : okT (.or a b) = true → PW X (.BoolOp .Or (y :: z :: r) p) (tT X.K (fns C.tb n) (.or a b)) := fun q => by
      have q' := Bool.and_eq_true_iff.mp q
      exact st_or (sa.pt q'.1) (sb.pw rfl q'.2)
    exact ⟨pe, (fun h => nomatch h), fun q => (pw q).pt, fun _ q => pw q, asg_plain G rfl pe (fun h => nomatch h)⟩
  · cases h
theorem snd_one (ha : IH C n a) (G : Gd C n sc fb X) (h : chk C (.one a) sc fb (.e x) = true) : SndE C n X sc fb (.one a) x := by
  simp only [chk, Tg.val] at h
  split at h
  · rename_i op y p he
    cases he
    have sa := ha.ex G h
    have pe := s_one (op := op) (pos := p) sa.pe
    have pw : okT (.one a) = true → PW X (.BoolOp op [y] p) (tT X.K (fns C.tb n) (.one a)) := fun q => st_one (by cases op <;> simp) (sa.pt q)
    exact ⟨pe, (fun h => nomatch h), fun q => (pw q).pt, fun _ q => pw q, asg_plain G rfl pe (fun h => nomatch h)⟩
  · cases h
theorem snd_not (ha : IH C n a) (G : Gd C n sc fb X) (h : chk C (.not a) sc fb (.e x) = true) : SndE C n X sc fb (.not a) x := by
  simp only [chk, Tg.val] at h
  split at h
  · rename_i y p he
    cases he
    have sa := ha.ex G h
    exact mk_test G rfl rfl rfl (s_not sa.pe) (fun q => st_not (sa.pt q))
  · cases h
theorem snd_ite (hc : IH C n c) (ha : IH C n a) (hb : IH C n b) (G : Gd C n sc fb X) (h : chk C (.ite c a b) sc fb (.e x) = true) : SndE C n X sc fb (.ite c a b) x := by
  simp only [chk, Tg.val] at h
  split at h
  · rename_i z y w p he
    cases he
    simp only [Bool.and_eq_true] at h
    obtain ⟨⟨⟨h0, h1⟩, h2⟩, h3⟩ := h
    have sc' := (hc.ex G h1).pt h0
    have sa := ha.ex G h2
    have sb := hb.ex G h3
    have pe := s_ite (pos := p) sc' sa.pe sb.pe
    have fr : freshE C.tb (.ite c a b) = true → PE X (.IfExp z y w p) (tE X.K (fns C.tb n) true (.ite c a b)) := fun q => by
      have q' := Bool.and_eq_true_iff.mp q
      exact s_ite sc' (sa.fr q'.1) (sb.fr q'.2)
    exact ⟨pe, fr, (fun q => nomatch q), (fun q => nomatch q), asg_plain G rfl pe fr⟩
  · cases h
theorem argsSome {a : E} (h : (argsLen a).isSome = true) : argsLen a = some ((argsLen a).getD 0) := by
  cases e : argsLen a with
  | none => rw [e] at h; cases h
  | some k => rfl
theorem snd_tup (ha : IH C n a) (G : Gd C n sc fb X) (h : chk C (.tup a) sc fb (.e x) = true) : SndE C n X sc fb (.tup a) x := by
  simp only [chk, Tg.val] at h
  split at h
  · rename_i xs k p he
    cases he
    simp only [Bool.and_eq_true, decide_eq_true_eq] at h
    exact mk_plain G rfl rfl (s_tup (argsSome h.1.1) h.1.2 (ha.ar G h.2)) (fun h => nomatch h) (fun _ => rfl)
  · cases h
theorem snd_lst (ha : IH C n a) (G : Gd C n sc fb X) (h : chk C (.lst a) sc fb (.e x) = true) : SndE C n X sc fb (.lst a) x := by
  simp only [chk, Tg.val] at h
  split at h
  · rename_i xs p he
    cases he
    simp only [Bool.and_eq_true, decide_eq_true_eq] at h
    exact mk_plain G rfl rfl (s_lst (argsSome h.1.1) h.1.2 (ha.ar G h.2)) (fun _ => s_lst (argsSome h.1.1) h.1.2 (ha.ar G h.2)) (fun _ => rfl)
  · cases h
theorem plain_cons {y : Expr} {ys : List Expr} (h : plainAll (y :: ys) = true) : plainX y = true ∧ plainAll ys = true := by
  simpa [plainAll] using h
theorem snd_call {f : Nat} (ha : IH C n a) (G : Gd C n sc fb X) (h : chk C (.call f a) sc fb (.e x) = true) : SndE C n X sc fb (.call f a) x := by
  simp only [chk, Tg.val] at h
  split at h
  · rename_i nm p1 y ys p he
    cases he
    simp only [Bool.and_eq_true, decide_eq_true_eq, okNm, Bool.not_eq_true'] at h
    obtain ⟨⟨⟨⟨⟨h1, h1'⟩, h2⟩, h3⟩, h4⟩, h5⟩ := h
    obtain ⟨fn, hf, rfl⟩ := Option.map_eq_some_iff.mp h1
    rw [hf] at h1'
    obtain ⟨ad, m1, m2, m3⟩ := G.fn f fn hf (by simpa using h1')
    obtain ⟨p2, p3⟩ := plain_cons h4
    have pa := ha.ar G h5
    refine mk_plain G rfl rfl (s_call m3 (fun h => nomatch h) G.room (gl_of G.sc h2) m1 m2 pa h3.1 (star_of p2) (any_of p3)) (fun q => ?_) (fun _ => rfl)
    refine s_call m3 (fun _ => ?_) G.room (gl_of G.sc h2) m1 m2 pa h3.1 (star_of p2) (any_of p3)
    simpa [freshE, hf] using q
  · cases h
theorem biNm_mem (b : Bi) (h : b ≠ .gcd) : biNm b ∈ biNames := by
  cases b <;> first | exact absurd rfl h | decide
theorem snd_bi {bi : Bi} (ha : IH C n a) (G : Gd C n sc fb X) (h : chk C (.bi bi a) sc fb (.e x) = true) : SndE C n X sc fb (.bi bi a) x := by
  simp only [chk, Tg.val] at h
  split at h
  · rename_i nm p1 y ys p he
    cases he
    simp only [Bool.and_eq_true, decide_eq_true_eq, Bool.or_eq_true, Bool.not_eq_true', decide_eq_false_iff_not] at h
    obtain ⟨⟨⟨⟨rfl, h2⟩, h3⟩, h4⟩, h5⟩ := h
    obtain ⟨p2, p3⟩ := plain_cons h4
    have pa := ha.ar G h5
    have hg : bi = .gcd → X.mg "gcd" = some (.builtin "math.gcd") := fun e => by
      rcases h3 with q | q
      · exact absurd e q
      · exact G.gcd q
    have mk : ∀ fr, PE X (.Call (.Name (biNm bi) p1) (y :: ys) [] p) (tE X.K (fns C.tb n) fr (.bi bi a)) := fun fr => s_bi G.calm (gl_of G.sc h2) (fun e => G.bi _ (biNm_mem bi e)) hg pa (star_of p2) (any_of p3)
    exact mk_plain G rfl rfl (mk false) (fun _ => mk true) (fun _ => rfl)
  · cases h
theorem tyNm_mem (t : Ty) : tyNm t ∈ biNames := by cases t <;> decide
theorem snd_isi {ty : Ty} (ha : IH C n a) (G : Gd C n sc fb X) (h : chk C (.isi a ty) sc fb (.e x) = true) : SndE C n X sc fb (.isi a ty) x := by
  simp only [chk, Tg.val] at h
  split at h
  · rename_i nm p1 y z p2 p he
    cases he
    simp only [Bool.and_eq_true, decide_eq_true_eq] at h
    obtain ⟨⟨⟨⟨⟨rfl, h2⟩, rfl⟩, h4⟩, h5⟩, h6⟩ := h
    exact mk_plain G rfl rfl (s_isi (gl_of G.sc h2) (G.bi _ (by decide)) (gl_of G.sc h4) (G.bi _ (tyNm_mem ty)) (ha.ex G h6).pe (star_of h5)) (fun h => nomatch h) (fun _ => rfl)
  · cases h
theorem snd_idx (ha : IH C n a) (hb : IH C n b) (G : Gd C n sc fb X) (h : chk C (.idx a b) sc fb (.e x) = true) : SndE C n X sc fb (.idx a b) x := by
  simp only [chk, Tg.val] at h
  split at h
  · rename_i y z p he
    cases he
    simp only [Bool.and_eq_true] at h
    exact mk_plain G rfl rfl (s_idx G.hu (ha.ex G h.1.2).pe (hb.ex G h.2).pe (ix_of h.1.1)) (fun h => nomatch h) (fun _ => rfl)
  · cases h
theorem part_of {l : Option Expr} (ha : IH C n a) (G : Gd C n sc fb X) (h : (match l with | none => a.isNil | some l => !a.isNil && chk C a sc fb (.e l)) = true) : PO X l (tP X.K (fns C.tb n) a) := by
  cases l with
  | none =>
    have : a = .nil := by cases a <;> first | rfl | cases h
    subst this
    exact s_part0
  | some l =>
    simp only [Bool.and_eq_true, Bool.not_eq_true'] at h
    exact s_part h.1 (ha.ex G h.2).pe
theorem snd_sl (ha : IH C n a) (hb : IH C n b) (hc : IH C n c) (G : Gd C n sc fb X) (h : chk C (.sl a b c) sc fb (.e x) = true) : SndE C n X sc fb (.sl a b c) x := by
  simp only [chk, Tg.val] at h
  split at h
  · rename_i y l u p1 p he
    cases he
    simp only [Bool.and_eq_true] at h
    have pa := (ha.ex G h.1.1).pe
    have pb := part_of hb G h.1.2
    have pc := part_of hc G h.2
    exact mk_plain G rfl rfl (s_sl pa pb pc) (fun _ => s_sl pa pb pc) (fun _ => rfl)
  · cases h
theorem snd_lrng (ha : IH C n a) (G : Gd C n sc fb X) (h : chk C (.lrng a) sc fb (.e x) = true) : SndE C n X sc fb (.lrng a) x := by
  simp only [chk, Tg.val] at h
  split at h
  · rename_i nm p1 y p he
    cases he
    simp only [Bool.and_eq_true, decide_eq_true_eq] at h
    obtain ⟨⟨⟨⟨rfl, h2⟩, h3⟩, hr⟩, h4⟩ := h
    have pr := ((ha.all (.i y y) sc fb X G h4).2 hr).2
    have mk : ∀ fr, PE X (.Call (.Name "list" p1) [y] [] p) (tE X.K (fns C.tb n) fr (.lrng a)) := fun fr => s_lrng G.calm (gl_of G.sc h2) (G.bi _ (by decide)) pr (star_of h3)
    exact mk_plain G rfl rfl (mk false) (fun _ => mk true) (fun _ => rfl)
  · cases h
theorem snd_trng (ha : IH C n a) (G : Gd C n sc fb X) (h : chk C (.trng a) sc fb (.e x) = true) : SndE C n X sc fb (.trng a) x := by
  simp only [chk, Tg.val] at h
  split at h
  · rename_i nm p1 y p he
    cases he
    simp only [Bool.and_eq_true, decide_eq_true_eq] at h
    obtain ⟨⟨⟨⟨rfl, h2⟩, h3⟩, hr⟩, h4⟩ := h
    have pr := ((ha.all (.i y y) sc fb X G h4).2 hr).2
    exact mk_plain G rfl rfl (s_trng G.calm (gl_of G.sc h2) (G.bi _ (by decide)) pr (star_of h3)) (fun h => nomatch h) (fun _ => rfl)
  · cases h

/-! ### comprehensions -/
theorem Gd.blk {scope : Scope} (G : Gd C n sc fb X) (hk : scope.kind = .function) (s : Shared) (H : Hp) (A : Addr) (cl : List (Str × Addr)) (fp : List Addr) : Gd C n (relS scope sc) (cellIn scope) (X.blk s H scope (compEnvC scope cl A X.env) fp) where
  hN := G.hN
  nd := G.nd
  kind := hk
  sc := by
    rw [← G.sc]
    rfl
  calm := G.calm
  room := G.room
  bi := G.bi
  gcd := G.gcd
  fn := G.fn
  ini := G.ini
  gl := G.gl
  ats := G.ats
  cns := G.cns
  its := G.its
  xe := rfl
  fnb := fun _ h => h
theorem own_slots (N : List Str) (is : List Nat) : (ownOf N is).map (·.2) = is := by
  unfold ownOf
  rw [List.map_map]
  exact List.map_id' is
theorem ifs_of {ifs : List Expr} {X : Cx} {sc : Scope} {fb : Str → Bool} (hc : IH C n c) (G : Gd C n sc fb X) (h : (match ifs with | [] => isTrueE c | [y] => okT c && chk C c sc fb (.e y) | _ => false) = true) : PTs X ifs (tT X.K (fns C.tb n) c) := by
  match ifs, h with
  | [], h =>
    have : c = .bl true := by
      cases c with
      | bl b =>
        cases b with
        | true => rfl
        | false => cases h
      | _ => cases h
    subst this
    exact tt_yes
  | [y], h =>
    have h' := Bool.and_eq_true_iff.mp h
    exact pts_one ((hc.ex G h'.2).pt h'.1)
theorem asg_comp {elt : Expr} {gs : List Comprehension} {scope : Scope} {p : Pos} (G : Gd C n sc fb X) (pe : ∀ fr, PE X (.ListComp elt gs scope p) (tE X.K (fns C.tb n) fr e))
    (set : ∀ (i : Nat) (nm : Str) (py spos : Pos) (m : Md), X.N[i]? = some nm → X.env.scope.names.lookup nm = some .local → swapsWith (.ListComp elt gs scope p) (some (.Name nm py)) spos.line X.env = pure true → PS X (.Assign [.Name nm py] (.ListComp elt gs scope p) spos) (tS X.K (fns C.tb n) (.asg i e m))) :
    ∀ (m : Md) (i : Nat) (nm : Str) (py spos : Pos), (m.own = true → freshE C.tb e = true) → C.N[i]? = some nm → isSt sc fb nm = true → PS X (.Assign [.Name nm py] (.ListComp elt gs scope p) spos) (tS X.K (fns C.tb n) (.asg i e m)) := by
  intro m i nm py spos hm hi hs
  have hk : X.env.scope.kind = .function := by rw [G.sc]; exact G.kind
  have hsw := swapsLc (elt := elt) (gs := gs) (s := scope) (p := p) (py := py) (y := nm) (l := spos.line) hk
  obtain ⟨a, b⟩ := st_of G.sc G.fnb hs
  cases hb : swB X.env.scope nm py scope p with
  | true =>
    rw [hb] at hsw
    refine set i nm py spos m (by rw [G.hN]; exact hi) ?_ hsw
    unfold swB at hb
    simp only [Bool.and_eq_true] at hb
    have hb1 := hb.1.1
    split at hb1
    · assumption
    · cases hb1
  | false =>
    rw [hb] at hsw
    exact w_asg (ps_set (by rw [G.hN]; exact G.nd) (by rw [G.hN]; exact hi) a (pe m.own) hsw b)
theorem snd_lc {t : T} {it : E} (hi : IH C n it) (hc : IH C n c) (he : IH C n e) (G : Gd C n sc fb X) (h : chk C (.lc t it c e) sc fb (.e x) = true) : SndE C n X sc fb (.lc t it c e) x := by
  simp only [chk, Tg.val] at h
  split at h
  · rename_i elt tx ix ifs k scope p hx
    cases hx
    simp only [Bool.and_eq_true, decide_eq_true_eq] at h
    obtain ⟨⟨⟨⟨⟨⟨rfl, h2⟩, h3⟩, h4⟩, h5⟩, h6⟩, h7⟩ := h
    have ok0 := blkOk_by h3
    have ok : BlkOk X.N X.env.scope scope (ownOf C.N t.slots) := by rw [G.hN, G.sc]; exact ok0
    have hN : X.N.Nodup := by rw [G.hN]; exact G.nd
    have pi := (hi.all (.i tx ix) sc fb X G h4).1
    have pg : ∀ (s : Shared) (H : Hp) (A : Addr) (cl : List (Str × Addr)) (fp : List Addr), PG (X.blk s H scope (compEnvC scope cl A X.env) fp) tx (gT X.K t) := fun s H A cl fp => pg_of (G.blk ok0.kind s H A cl fp) h5
    have pts : ∀ (s : Shared) (H : Hp) (A : Addr) (cl : List (Str × Addr)) (fp : List Addr), PTs (X.blk s H scope (compEnvC scope cl A X.env) fp) ifs (tT X.K (fns C.tb n) c) := fun s H A cl fp => ifs_of hc (G.blk ok0.kind s H A cl fp) h6
    have pel : ∀ (s : Shared) (H : Hp) (A : Addr) (cl : List (Str × Addr)) (fp : List Addr), PE (X.blk s H scope (compEnvC scope cl A X.env) fp) elt (tE X.K (fns C.tb n) false e) := fun s H A cl fp => (he.ex (G.blk ok0.kind s H A cl fp) h7).pe
    have hw : ∀ {fr : Bool} {σ : L2.St} {H : Hp} {Q : VK}, tE X.K (fns C.tb n) fr (.lc t it c e) σ H Q → tLc (tI X.K (fns C.tb n) it) (gT X.K t) (tT X.K (fns C.tb n) c) (tE X.K (fns C.tb n) false e) ((ownOf C.N t.slots).map (·.2)) σ H Q :=
      fun {fr σ H Q} q => s_lc G.calm hN pi ok (own_slots _ _) pg pts pel q
    have pe : ∀ fr, PE X (.ListComp elt [⟨tx, ix, ifs, 0⟩] scope p) (tE X.K (fns C.tb n) fr (.lc t it c e)) := fun fr => pe_imp (pe_lc G.calm hN pi ok pg pts pel (fold_of h2)) fun σ H Q q => hw q
    refine ⟨pe false, fun _ => pe true, fun _ => pt_of (pe false) (fun _ => rfl), (fun q => nomatch q), asg_comp G pe fun i nm py spos m hi hl hsw => ?_⟩
    exact w_asg2 (ps_setLc G.calm hN hi hl hsw pi ok pg pts pel (fold_of h2)) fun σ H Q q => hw q
  · cases h
theorem fold_all {x : Expr} (h : plainX x = true) : ∀ env v, foldedSetIterable x env v = pure v := fun env => fold_of h
theorem snd_lc2 {t t' : T} {it it' c' : E} (hi : IH C n it) (hc : IH C n c) (hi' : IH C n it') (hc' : IH C n c') (he : IH C n e) (G : Gd C n sc fb X) (h : chk C (.lc2 t it c t' it' c' e) sc fb (.e x) = true) : SndE C n X sc fb (.lc2 t it c t' it' c' e) x := by
  simp only [chk, Tg.val] at h
  split at h
  · rename_i elt tx ix ifs k tx' ix' ifs' k' scope p hx
    cases hx
    simp only [Bool.and_eq_true, decide_eq_true_eq] at h
    obtain ⟨⟨⟨⟨⟨⟨⟨⟨⟨⟨⟨rfl, rfl⟩, h2⟩, h2'⟩, h3⟩, h4⟩, h5⟩, h6⟩, h4'⟩, h5'⟩, h6'⟩, h7⟩ := h
    have ok0 := blkOk_by h3
    have ok : BlkOk X.N X.env.scope scope (ownOf C.N (t.slots ++ t'.slots)) := by rw [G.hN, G.sc]; exact ok0
    have hN : X.N.Nodup := by rw [G.hN]; exact G.nd
    have pi := (hi.all (.i tx ix) sc fb X G h4).1
    have pg : ∀ (s : Shared) (H : Hp) (A : Addr) (cl : List (Str × Addr)) (fp : List Addr), PG (X.blk s H scope (compEnvC scope cl A X.env) fp) tx (gT X.K t) := fun s H A cl fp => pg_of (G.blk ok0.kind s H A cl fp) h5
    have pts : ∀ (s : Shared) (H : Hp) (A : Addr) (cl : List (Str × Addr)) (fp : List Addr), PTs (X.blk s H scope (compEnvC scope cl A X.env) fp) ifs (tT X.K (fns C.tb n) c) := fun s H A cl fp => ifs_of hc (G.blk ok0.kind s H A cl fp) h6
    have pi1 : ∀ (s : Shared) (H : Hp) (A : Addr) (cl : List (Str × Addr)) (fp : List Addr), PI (X.blk s H scope (compEnvC scope cl A X.env) fp) tx' ix' (tI X.K (fns C.tb n) it') := fun s H A cl fp => (hi'.all (.i tx' ix') _ _ _ (G.blk ok0.kind s H A cl fp) h4').1
    have pg1 : ∀ (s : Shared) (H : Hp) (A : Addr) (cl : List (Str × Addr)) (fp : List Addr), PG (X.blk s H scope (compEnvC scope cl A X.env) fp) tx' (gT X.K t') := fun s H A cl fp => pg_of (G.blk ok0.kind s H A cl fp) h5'
    have pts1 : ∀ (s : Shared) (H : Hp) (A : Addr) (cl : List (Str × Addr)) (fp : List Addr), PTs (X.blk s H scope (compEnvC scope cl A X.env) fp) ifs' (tT X.K (fns C.tb n) c') := fun s H A cl fp => ifs_of hc' (G.blk ok0.kind s H A cl fp) h6'
    have pel : ∀ (s : Shared) (H : Hp) (A : Addr) (cl : List (Str × Addr)) (fp : List Addr), PE (X.blk s H scope (compEnvC scope cl A X.env) fp) elt (tE X.K (fns C.tb n) false e) := fun s H A cl fp => (he.ex (G.blk ok0.kind s H A cl fp) h7).pe
    have hv : ∀ i ∈ t'.slots, i ∈ (ownOf C.N (t.slots ++ t'.slots)).map (·.2) := fun i q => by rw [own_slots]; exact List.mem_append_right _ q
    have pe : ∀ fr, PE X (.ListComp elt [⟨tx, ix, ifs, 0⟩, ⟨tx', ix', ifs', 0⟩] scope p) (tE X.K (fns C.tb n) fr (.lc2 t it c t' it' c' e)) := fun fr => pe_imp (pe_lc2 G.calm hN pi ok hv pg pts pi1 pg1 pts1 pel (fold_of h2) (fold_all h2')) fun σ H Q q => s_lc2 (own_slots _ _) q
    refine ⟨pe false, fun _ => pe true, fun _ => pt_of (pe false) (fun _ => rfl), (fun q => nomatch q), asg_comp G pe fun i nm py spos m hi hl hsw => ?_⟩
    exact w_asg2 (ps_setLc2 G.calm hN hi hl hsw pi ok hv pg pts pi1 pg1 pts1 pel (fold_of h2) (fold_all h2')) fun σ H Q q => s_lc2 (own_slots _ _) q
  · cases h

/-! ### what is only walked -/
theorem snd_rng1 (ha : IH C n a) (t : Tg) (G : Gd C n sc fb X) (h : chk C (.rng1 a) sc fb t = true) : Snd C n X sc fb (.rng1 a) t := by
  simp only [chk] at h
  split at h
  · rename_i tx nm p1 y p
    simp only [Bool.and_eq_true, decide_eq_true_eq] at h
    obtain ⟨⟨⟨rfl, h2⟩, h3⟩, h4⟩ := h
    have pa := (ha.ex G h4).pe
    have g := gl_of G.sc h2
    have m := G.bi "range" (by decide)
    have r := i_rng1 (tg := tx) (pos := p) (p := p1) g m (s_cons pa s_nil (star_of h3)) (star_of h3)
    exact ⟨i_ofR r, fun _ => ⟨r, s_prg1 g m pa (star_of h3)⟩⟩
  · cases h
theorem snd_rng2 (ha : IH C n a) (hb : IH C n b) (t : Tg) (G : Gd C n sc fb X) (h : chk C (.rng2 a b) sc fb t = true) : Snd C n X sc fb (.rng2 a b) t := by
  simp only [chk] at h
  split at h
  · rename_i tx nm p1 y z p
    simp only [Bool.and_eq_true, decide_eq_true_eq] at h
    obtain ⟨⟨⟨⟨⟨rfl, h2⟩, h3⟩, h3'⟩, h4⟩, h5⟩ := h
    have pa := (ha.ex G h4).pe
    have pb := (hb.ex G h5).pe
    have g := gl_of G.sc h2
    have m := G.bi "range" (by decide)
    have e1 : starEach [y, z] X.env = (false, eval y X.env) :: starEach [z] X.env := star_of h3
    have e2 : starEach [z] X.env = (false, eval z X.env) :: starEach [] X.env := star_of h3'
    have r := i_rng2 (tg := tx) (pos := p) (p := p1) g m (s_cons pa (s_cons pb s_nil e2) e1) (by rw [e1, e2]; rfl) (by rw [e2]; rfl)
    exact ⟨i_ofR r, fun _ => ⟨r, s_prg2 g m pa pb e1 e2 (any_of (by simp [plainAll, h3']))⟩⟩
  · cases h
theorem tup_shape {x : Expr} (h : isTupX x = true) : ∃ es k p, x = .Tuple es k p := by
  cases x <;> first | exact ⟨_, _, _, rfl⟩ | cases h
theorem snd_enu (ha : IH C n a) (t : Tg) (G : Gd C n sc fb X) (h : chk C (.enu a) sc fb t = true) : Snd C n X sc fb (.enu a) t := by
  simp only [chk] at h
  split at h
  · rename_i tx nm p1 y p
    simp only [Bool.and_eq_true, decide_eq_true_eq] at h
    obtain ⟨⟨⟨⟨h1, rfl⟩, h2⟩, h3⟩, h4⟩ := h
    obtain ⟨es, k, p2, rfl⟩ := tup_shape h1
    exact ⟨i_enum (gl_of G.sc h2) (G.bi _ (by decide)) (s_cons (ha.ex G h4).pe s_nil (star_of h3)) (star_of h3), fun q => nomatch q⟩
  · cases h
theorem snd_zip (ha : IH C n a) (hb : IH C n b) (t : Tg) (G : Gd C n sc fb X) (h : chk C (.zip a b) sc fb t = true) : Snd C n X sc fb (.zip a b) t := by
  simp only [chk] at h
  split at h
  · rename_i tx nm p1 y z p
    simp only [Bool.and_eq_true, decide_eq_true_eq] at h
    obtain ⟨⟨⟨⟨⟨⟨h1, rfl⟩, h2⟩, h3⟩, h3'⟩, h4⟩, h5⟩ := h
    obtain ⟨es, k, p2, rfl⟩ := tup_shape h1
    exact ⟨i_zip (gl_of G.sc h2) (G.bi _ (by decide)) (s_cons (ha.ex G h4).pe (s_cons (hb.ex G h5).pe s_nil (star_of h3')) (star_of h3)) (star_of h3) (any_of (by simp [plainAll, h3'])), fun q => nomatch q⟩
  · cases h
end

section
variable {C : Ck} {n : Nat} {sc : Scope} {fb : Str → Bool} {X : Cx} {a b c : E}
theorem snd_zip3 (ha : IH C n a) (hb : IH C n b) (hc : IH C n c) (t : Tg) (G : Gd C n sc fb X) (h : chk C (.zip3 a b c) sc fb t = true) : Snd C n X sc fb (.zip3 a b c) t := by
  simp only [chk] at h
  split at h
  · rename_i tx nm p1 y z u p
    simp only [Bool.and_eq_true, decide_eq_true_eq] at h
    obtain ⟨⟨⟨⟨⟨⟨⟨⟨h1, rfl⟩, h2⟩, h3⟩, h3'⟩, h3''⟩, h4⟩, h5⟩, h6⟩ := h
    obtain ⟨es, k, p2, rfl⟩ := tup_shape h1
    exact ⟨i_zip3 (gl_of G.sc h2) (G.bi _ (by decide)) (s_cons (ha.ex G h4).pe (s_cons (hb.ex G h5).pe (s_cons (hc.ex G h6).pe s_nil (star_of h3'')) (star_of h3')) (star_of h3)) (star_of h3) (any_of (by simp [plainAll, h3', h3''])), fun q => nomatch q⟩
  · cases h
theorem snd_oit {cl f : Str} (ha : IH C n a) (t : Tg) (G : Gd C n sc fb X) (h : chk C (.oit cl f a) sc fb t = true) : Snd C n X sc fb (.oit cl f a) t := by
  simp only [chk] at h
  split at h
  · rename_i tx x
    simp only [Bool.and_eq_true, List.contains_iff_mem] at h
    exact ⟨i_oit (G.its _ h.1) G.room G.xe (ha.ex G h.2).pe, fun q => nomatch q⟩
  · cases h
end
theorem hv_of {C : Ck} {e : E} (h : ∀ sc fb t, chk C e sc fb t = (match t.val with | some x => chk C e sc fb (.e x) | none => false)) : ∀ sc fb t, chk C e sc fb t = true → ∃ x, t.val = some x ∧ chk C e sc fb (.e x) = true := by
  intro sc fb t q
  rw [h] at q
  split at q
  · exact ⟨_, by assumption, q⟩
  · cases q
section
variable {C : Ck} {n : Nat} {sc : Scope} {fb : Str → Bool} {X : Cx} {e : E} {x : Expr} {a b : E}
theorem snd_attr {cs : List Str} {f : Str} (ha : IH C n a) (G : Gd C n sc fb X) (h : chk C (.attr cs a f) sc fb (.e x) = true) : SndE C n X sc fb (.attr cs a f) x := by
  simp only [chk, Tg.val] at h
  split at h
  · rename_i y g p he
    cases he
    simp only [Bool.and_eq_true, decide_eq_true_eq, List.all_eq_true, List.contains_iff_mem] at h
    obtain ⟨⟨⟨rfl, h2⟩, h3⟩, h4⟩ := h
    exact mk_plain G rfl rfl (s_attr (ha.ex G h4).pe h2 fun c hc => G.ats _ (h3 c hc)) (fun h => nomatch h) (fun _ => rfl)
  · cases h
theorem snd_glb {nm : Str} {ns : List Int} (G : Gd C n sc fb X) (h : chk C (.glb nm ns) sc fb (.e x) = true) : SndE C n X sc fb (.glb nm ns) x := by
  simp only [chk, Tg.val] at h
  split at h
  · rename_i y p he
    cases he
    simp only [Bool.and_eq_true, decide_eq_true_eq, List.contains_iff_mem, okNm, Bool.not_eq_true'] at h
    obtain ⟨⟨⟨rfl, h2⟩, h3⟩, h4⟩ := h
    obtain ⟨ad, m1, m2⟩ := G.gl _ h4
    exact mk_plain G rfl rfl (s_glb (gl_of G.sc h2) m1 m2 h3.1) (fun h => nomatch h) (fun _ => rfl)
  · cases h
theorem snd_con {c f : Str} {k : Int} (G : Gd C n sc fb X) (h : chk C (.con c f k) sc fb (.e x) = true) : SndE C n X sc fb (.con c f k) x := by
  simp only [chk, Tg.val] at h
  split at h
  · rename_i y p g p2 he
    cases he
    simp only [Bool.and_eq_true, decide_eq_true_eq, List.contains_iff_mem, okNm, Bool.not_eq_true'] at h
    obtain ⟨⟨⟨⟨rfl, rfl⟩, h2⟩, h3⟩, h4⟩ := h
    obtain ⟨m1, mc, u, m2, m3⟩ := G.cns _ h4
    exact mk_plain G rfl rfl (s_con (gl_of G.sc h2) m1 m2 m3 h3.1) (fun h => nomatch h) (fun _ => rfl)
  · cases h
theorem fns_init {tb : List Fn} {f : Nat} {fn : Fn} {c : Str} {ds : List D} {d : D} (h : tb[f]? = some fn) (hi : fn.init = some c) : ∀ {n : Nat}, fns tb n f ds = some d → ∃ fs, d = .obj c fs
  | 0, q => by cases q
  | 1, q => by
    simp only [fns, h, hi] at q
    cases q
  | n + 2, q => by
    simp only [fns, h, hi, Option.isSome_some, if_true] at q
    unfold runFn at q
    rw [hi] at q
    simp only [] at q
    split at q
    · unfold outI at q
      split at q
      · split at q
        · split at q
          · cases q; exact ⟨_, rfl⟩
          · cases q
        · cases q
      · cases q
    · cases q
theorem snd_new {f : Nat} (ha : IH C n a) (G : Gd C n sc fb X) (h : chk C (.new f a) sc fb (.e x) = true) : SndE C n X sc fb (.new f a) x := by
  simp only [chk, Tg.val] at h
  split at h
  · rename_i nm p1 y ys p he
    cases he
    simp only [Bool.and_eq_true, decide_eq_true_eq, okNm, Bool.not_eq_true'] at h
    obtain ⟨⟨⟨⟨h1, h2⟩, h3⟩, h4⟩, h5⟩ := h
    obtain ⟨fn, hf, hi⟩ := Option.bind_eq_some_iff.mp h1
    obtain ⟨m1, ad, m2, m3⟩ := G.ini f fn _ hf hi
    obtain ⟨p2, p3⟩ := plain_cons h4
    exact mk_plain G rfl rfl (s_new m2 m3 (fun e ds => by subst e; rfl) G.room (gl_of G.sc h2) m1 (fun ds d q => fns_init hf hi q) (ha.ar G h5) h3.1 (star_of p2) (any_of p3)) (fun h => nomatch h) (fun _ => rfl)
  · cases h
theorem snd_index (ha : IH C n a) (hb : IH C n b) (G : Gd C n sc fb X) (h : chk C (.index a b) sc fb (.e x) = true) : SndE C n X sc fb (.index a b) x := by
  simp only [chk, Tg.val] at h
  split at h
  · rename_i y m p2 z p he
    cases he
    simp only [Bool.and_eq_true, decide_eq_true_eq] at h
    obtain ⟨⟨⟨⟨⟨rfl, h1⟩, h2⟩, h3⟩, h4⟩, h5⟩ := h
    refine mk_plain G rfl rfl (s_index G.hu (ha.ex G h4).pe (hb.ex G h5).pe h1 h2 (star_of h3) ?_) (fun h => nomatch h) (fun _ => rfl)
    rw [star_of h3]
    rfl
  · cases h
theorem snd_dnew (G : Gd C n sc fb X) (h : chk C .dnew sc fb (.e x) = true) : SndE C n X sc fb .dnew x := by
  simp only [chk, Tg.val] at h
  split at h
  · rename_i p he
    cases he
    exact mk_plain G rfl rfl s_dnew (fun _ => s_dnew) (fun _ => rfl)
  · cases h
theorem snd_nnew (G : Gd C n sc fb X) (h : chk C .nnew sc fb (.e x) = true) : SndE C n X sc fb .nnew x := by
  simp only [chk, Tg.val] at h
  split at h
  · rename_i p he
    cases he
    exact mk_plain G rfl rfl s_nnew (fun _ => s_nnew) (fun _ => rfl)
  · cases h
theorem snd_lk (ha : IH C n a) (G : Gd C n sc fb X) (h : chk C (.lk a) sc fb (.e x) = true) : SndE C n X sc fb (.lk a) x := by
  simp only [chk, Tg.val, Bool.and_eq_true, Bool.not_eq_true'] at h
  obtain ⟨⟨⟨⟨h1, h2⟩, h3⟩, h4⟩, h5⟩ := h
  refine mk_plain G h2 h3 (s_lk ((ha.ex G h5).fr h1)) (fun h => nomatch h) (fun _ => ?_)
  cases x <;> first | rfl | cases h4
theorem snd_getd (ha : IH C n a) (hb : IH C n b) (hc : IH C n c) (G : Gd C n sc fb X) (h : chk C (.getd a b c) sc fb (.e x) = true) : SndE C n X sc fb (.getd a b c) x := by
  simp only [chk, Tg.val] at h
  split at h
  · rename_i y m p2 z u p he
    cases he
    simp only [Bool.and_eq_true, decide_eq_true_eq] at h
    obtain ⟨⟨⟨⟨⟨⟨⟨rfl, h1⟩, h2⟩, h3⟩, h3'⟩, h4⟩, h5⟩, h6⟩ := h
    have s1 := star_of (x := z) (xs := [u]) (env := X.env) h3
    have s2 := star_of (x := u) (xs := []) (env := X.env) h3'
    refine mk_plain G rfl rfl (s_getd (by have := G.hu; omega) (ha.ex G h4).pe (hb.ex G h5).pe (hc.ex G h6).pe ⟨base_of h1, ?_, h2, ?_⟩) (fun h => nomatch h) (fun _ => rfl)
    · rw [s1, s2]; rfl
    · rw [s1, s2]; rfl
  · cases h
theorem snd_get1 (ha : IH C n a) (hb : IH C n b) (G : Gd C n sc fb X) (h : chk C (.get1 a b) sc fb (.e x) = true) : SndE C n X sc fb (.get1 a b) x := by
  simp only [chk, Tg.val] at h
  split at h
  · rename_i y m p2 z p he
    cases he
    simp only [Bool.and_eq_true, decide_eq_true_eq] at h
    obtain ⟨⟨⟨⟨⟨rfl, h1⟩, h2⟩, h3⟩, h4⟩, h5⟩ := h
    have s1 := star_of (x := z) (xs := []) (env := X.env) h3
    refine mk_plain G rfl rfl (s_get1 (by have := G.hu; omega) (ha.ex G h4).pe (hb.ex G h5).pe ⟨base_of h1, ?_, h2, ?_⟩) (fun h => nomatch h) (fun _ => rfl)
    · rw [s1]; rfl
    · rw [s1]; rfl
  · cases h
theorem snd_disp (ha : IH C n a) (hb : IH C n b) (G : Gd C n sc fb X) (h : chk C (.disp a b) sc fb (.e x) = true) : SndE C n X sc fb (.disp a b) x := by
  simp only [chk, Tg.val] at h
  split at h
  · rename_i y z p he
    cases he
    simp only [Bool.and_eq_true] at h
    have hu : X.A.units + 1 < cLine := by have := G.hu; omega
    exact mk_plain G rfl rfl (s_disp hu (ha.ex G h.1).pe (hb.ex G h.2).pe) (fun _ => s_disp hu (ha.ex G h.1).pe (hb.ex G h.2).pe) (fun _ => rfl)
  · cases h
end
theorem snd {C : Ck} {n : Nat} : ∀ e : E, IH C n e := by
  intro e
  induction e with
  | var i => exact ⟨snd_val (fun _ _ _ _ G h => snd_var G h) rfl (hv_of fun sc fb t => by unfold chk; cases t.val <;> rfl)⟩
  | int i => exact ⟨snd_val (fun _ _ _ _ G h => snd_int G h) rfl (hv_of fun sc fb t => by unfold chk; cases t.val <;> rfl)⟩
  | bl i => exact ⟨snd_val (fun _ _ _ _ G h => snd_bl G h) rfl (hv_of fun sc fb t => by unfold chk; cases t.val <;> rfl)⟩
  | non => exact ⟨snd_val (fun _ _ _ _ G h => snd_non G h) rfl (hv_of fun sc fb t => by unfold chk; cases t.val <;> rfl)⟩
  | str i => exact ⟨snd_val (fun _ _ _ _ G h => snd_str G h) rfl (hv_of fun sc fb t => by unfold chk; cases t.val <;> rfl)⟩
  | neg a ha => exact ⟨snd_val (fun _ _ _ _ G h => snd_neg ha G h) rfl (hv_of fun sc fb t => by unfold chk; cases t.val <;> rfl)⟩
  | bin o a b ha hb => exact ⟨snd_val (fun _ _ _ _ G h => snd_bin ha hb G h) rfl (hv_of fun sc fb t => by unfold chk; cases t.val <;> rfl)⟩
  | cmp o a b ha hb => exact ⟨snd_val (fun _ _ _ _ G h => snd_cmp ha hb G h) rfl (hv_of fun sc fb t => by unfold chk; cases t.val <;> rfl)⟩
  | chain o o' a b c ha hb hc => exact ⟨snd_val (fun _ _ _ _ G h => snd_chain ha hb hc G h) rfl (hv_of fun sc fb t => by unfold chk; cases t.val <;> rfl)⟩
  | isN a ha => exact ⟨snd_val (fun _ _ _ _ G h => snd_isN ha G h) rfl (hv_of fun sc fb t => by unfold chk; cases t.val <;> rfl)⟩
  | notN a ha => exact ⟨snd_val (fun _ _ _ _ G h => snd_notN ha G h) rfl (hv_of fun sc fb t => by unfold chk; cases t.val <;> rfl)⟩
  | and a b ha hb => exact ⟨snd_val (fun _ _ _ _ G h => snd_and ha hb G h) rfl (hv_of fun sc fb t => by unfold chk; cases t.val <;> rfl)⟩
  | or a b ha hb => exact ⟨snd_val (fun _ _ _ _ G h => snd_or ha hb G h) rfl (hv_of fun sc fb t => by unfold chk; cases t.val <;> rfl)⟩
  | one a ha => exact ⟨snd_val (fun _ _ _ _ G h => snd_one ha G h) rfl (hv_of fun sc fb t => by unfold chk; cases t.val <;> rfl)⟩
  | not a ha => exact ⟨snd_val (fun _ _ _ _ G h => snd_not ha G h) rfl (hv_of fun sc fb t => by unfold chk; cases t.val <;> rfl)⟩
  | ite c a b hc ha hb => exact ⟨snd_val (fun _ _ _ _ G h => snd_ite hc ha hb G h) rfl (hv_of fun sc fb t => by unfold chk; cases t.val <;> rfl)⟩
  | nil => exact ⟨fun t sc fb X G h => by
      cases t with
      | a xs =>
        cases xs with
        | nil => exact s_nil
        | cons x xs => unfold chk at h; cases h
      | e x => unfold chk at h; cases h
      | i tx x => unfold chk at h; cases h⟩
  | cons a b ha hb => exact ⟨fun t sc fb X G h => by
      cases t with
      | a xs =>
        cases xs with
        | nil => unfold chk at h; cases h
        | cons x xs =>
          unfold chk at h
          simp only [Bool.and_eq_true] at h
          exact s_cons (ha.ex G h.1.2).pe (hb.ar G h.2) (star_of h.1.1)
      | e x => unfold chk at h; cases h
      | i tx x => unfold chk at h; cases h⟩
  | tup a ha => exact ⟨snd_val (fun _ _ _ _ G h => snd_tup ha G h) rfl (hv_of fun sc fb t => by unfold chk; cases t.val <;> rfl)⟩
  | lst a ha => exact ⟨snd_val (fun _ _ _ _ G h => snd_lst ha G h) rfl (hv_of fun sc fb t => by unfold chk; cases t.val <;> rfl)⟩
  | call f a ha => exact ⟨snd_val (fun _ _ _ _ G h => snd_call ha G h) rfl (hv_of fun sc fb t => by unfold chk; cases t.val <;> rfl)⟩
  | bi b a ha => exact ⟨snd_val (fun _ _ _ _ G h => snd_bi ha G h) rfl (hv_of fun sc fb t => by unfold chk; cases t.val <;> rfl)⟩
  | isi a ty ha => exact ⟨snd_val (fun _ _ _ _ G h => snd_isi ha G h) rfl (hv_of fun sc fb t => by unfold chk; cases t.val <;> rfl)⟩
  | idx a b ha hb => exact ⟨snd_val (fun _ _ _ _ G h => snd_idx ha hb G h) rfl (hv_of fun sc fb t => by unfold chk; cases t.val <;> rfl)⟩
  | sl a b c ha hb hc => exact ⟨snd_val (fun _ _ _ _ G h => snd_sl ha hb hc G h) rfl (hv_of fun sc fb t => by unfold chk; cases t.val <;> rfl)⟩
  | lc t it c e hi hc he => exact ⟨snd_val (fun _ _ _ _ G h => snd_lc hi hc he G h) rfl (hv_of fun sc fb t => by unfold chk; cases t.val <;> rfl)⟩
  | lc2 t it c t' it' c' e hi hc hi' hc' he => exact ⟨snd_val (fun _ _ _ _ G h => snd_lc2 hi hc hi' hc' he G h) rfl (hv_of fun sc fb t => by unfold chk; cases t.val <;> rfl)⟩
  | rng1 a ha => exact ⟨fun t sc fb X G h => snd_rng1 ha t G h⟩
  | rng2 a b ha hb => exact ⟨fun t sc fb X G h => snd_rng2 ha hb t G h⟩
  | enu a ha => exact ⟨fun t sc fb X G h => snd_enu ha t G h⟩
  | zip a b ha hb => exact ⟨fun t sc fb X G h => snd_zip ha hb t G h⟩
  | zip3 a b c ha hb hc => exact ⟨fun t sc fb X G h => snd_zip3 ha hb hc t G h⟩
  | oit cl f a ha => exact ⟨fun t sc fb X G h => snd_oit ha t G h⟩
  | nnew => exact ⟨snd_val (fun _ _ _ _ G h => snd_nnew G h) rfl (hv_of fun sc fb t => by unfold chk; cases t.val <;> rfl)⟩
  | lrng a ha => exact ⟨snd_val (fun _ _ _ _ G h => snd_lrng ha G h) rfl (hv_of fun sc fb t => by unfold chk; cases t.val <;> rfl)⟩
  | trng a ha => exact ⟨snd_val (fun _ _ _ _ G h => snd_trng ha G h) rfl (hv_of fun sc fb t => by unfold chk; cases t.val <;> rfl)⟩
  | attr cs a f ha => exact ⟨snd_val (fun _ _ _ _ G h => snd_attr ha G h) rfl (hv_of fun sc fb t => by unfold chk; cases t.val <;> rfl)⟩
  | glb nm ns => exact ⟨snd_val (fun _ _ _ _ G h => snd_glb G h) rfl (hv_of fun sc fb t => by unfold chk; cases t.val <;> rfl)⟩
  | con c f k => exact ⟨snd_val (fun _ _ _ _ G h => snd_con G h) rfl (hv_of fun sc fb t => by unfold chk; cases t.val <;> rfl)⟩
  | new f a ha => exact ⟨snd_val (fun _ _ _ _ G h => snd_new ha G h) rfl (hv_of fun sc fb t => by unfold chk; cases t.val <;> rfl)⟩
  | index a b ha hb => exact ⟨snd_val (fun _ _ _ _ G h => snd_index ha hb G h) rfl (hv_of fun sc fb t => by unfold chk; cases t.val <;> rfl)⟩
  | dnew => exact ⟨snd_val (fun _ _ _ _ G h => snd_dnew G h) rfl (hv_of fun sc fb t => by unfold chk; cases t.val <;> rfl)⟩
  | lk a ha => exact ⟨snd_val (fun _ _ _ _ G h => snd_lk ha G h) rfl (hv_of fun sc fb t => by unfold chk; cases t.val <;> rfl)⟩
  | getd a b c ha hb hc => exact ⟨snd_val (fun _ _ _ _ G h => snd_getd ha hb hc G h) rfl (hv_of fun sc fb t => by unfold chk; cases t.val <;> rfl)⟩
  | get1 a b ha hb => exact ⟨snd_val (fun _ _ _ _ G h => snd_get1 ha hb G h) rfl (hv_of fun sc fb t => by unfold chk; cases t.val <;> rfl)⟩
  | disp a b ha hb => exact ⟨snd_val (fun _ _ _ _ G h => snd_disp ha hb G h) rfl (hv_of fun sc fb t => by unfold chk; cases t.val <;> rfl)⟩
end PyD

/-! What the checker accepts is read by the interpreter: statements. -/
namespace PyD
open PySem L2 RZ

theorem sole_of {x t : Expr} {l : Nat} {env : PySem.Env} (ht : (match t with | .Name _ _ => false | _ => true) = true) : swapsWithSole [t] x l env = pure false := by
  show swapsWith x (some t) l env = pure false
  cases x <;> first | rfl | (cases t <;> first | rfl | cases ht)
theorem stores_none {x t : Expr} {env : PySem.Env} (hx : isTupX x = false) : swappedStores [t] x env = pure none := by
  cases t <;> first | rfl | (cases x <;> first | rfl | cases hx)
theorem stores_none2 {x t : Expr} {env : PySem.Env} (ht : (match t with | .Tuple _ _ _ => false | .List _ _ => false | _ => true) = true) : swappedStores [t] x env = pure none := by
  cases t <;> first | rfl | cases ht
def swOk (sc : Scope) (x y : Str) (px py : Pos) (vs : List Expr) : Bool :=
  decide (sc.names.lookup x = some .local) && decide (sc.names.lookup y = some .local) && (py.line == px.line) && !(x == y) && !(vs.any fun | .Starred .. => true | _ => false) && !(vs.all (foldedForSure 8)) && !(vs.all (constantsAlone 8))
theorem stores_two {x y : Str} {px py pt : Pos} {kt k2 : Nat} {pt2 : Pos} {a b : Expr} {env : PySem.Env} (hk : env.scope.kind = .function) (pa : plainX a = true) (pb : plainX b = true) (h : swOk env.scope x y px py [a, b] = true) :
    swappedStores [.Tuple [.Name x px, .Name y py] kt pt] (.Tuple [a, b] k2 pt2) env = pure (some [x, y]) := by
  unfold swOk at h
  simp only [Bool.and_eq_true, decide_eq_true_eq, Bool.not_eq_true'] at h
  obtain ⟨⟨⟨⟨⟨⟨h1, h2⟩, h3⟩, h4⟩, h5⟩, h6⟩, h7⟩ := h
  have e1 : env.kindOf x = some .local := h1
  have e2 : env.kindOf y = some .local := h2
  have e3 : (some NameKind.local == some NameKind.local) = true := by decide
  have hb : (env.blockKind != ScopeKind.function) = false := by rw [block_of hk]; decide
  have hpx : (Expr.Name x px).pos.line = px.line := rfl
  unfold swappedStores
  simp only [List.length_cons, List.length_nil, hb, h5, h6, h7, e1, e2, e3, h3, hpx, List.head?_cons, Option.map_some, Option.getD_some, List.filterMap_cons, List.filterMap_nil, beq_self_eq_true, Bool.and_self, if_true, Bool.or_false, bne_self_eq_false, Bool.not_true, Bool.false_eq_true, if_false, Bool.and_true, Bool.true_and, Bool.or_true, Bool.true_or, Nat.reduceAdd, Nat.reduceBEq]
  have hd : ([x, y] : List Str).eraseDups.length = 2 := by
    have q : (y == x) = false := by rw [BEq.comm]; exact h4
    simp [List.eraseDups_cons, q]
  simp [hd]
  intro hc
  exfalso
  rcases hc with hc | hc
  · split at hc
    · cases pa
    · cases hc
  · split at hc
    · cases pb
    · cases hc

def swOk3 (sc : Scope) (x y z : Str) (px py pz : Pos) (vs : List Expr) : Bool :=
  decide (sc.names.lookup x = some .local) && decide (sc.names.lookup y = some .local) && decide (sc.names.lookup z = some .local) && (py.line == px.line) && (pz.line == px.line) && !(x == y) && !(x == z) && !(y == z) && !(vs.any fun | .Starred .. => true | _ => false) && !(vs.all (foldedForSure 8)) && !(vs.all (constantsAlone 8))
theorem stores_three {x y z : Str} {px py pz pt : Pos} {kt k2 : Nat} {pt2 : Pos} {a b c : Expr} {env : PySem.Env} (hk : env.scope.kind = .function) (pa : plainX a = true) (pb : plainX b = true) (pc : plainX c = true) (h : swOk3 env.scope x y z px py pz [a, b, c] = true) :
    swappedStores [.Tuple [.Name x px, .Name y py, .Name z pz] kt pt] (.Tuple [a, b, c] k2 pt2) env = pure (some [x, y, z]) := by
  unfold swOk3 at h
  simp only [Bool.and_eq_true, decide_eq_true_eq, Bool.not_eq_true'] at h
  obtain ⟨⟨⟨⟨⟨⟨⟨⟨⟨⟨h1, h2⟩, h2'⟩, h3⟩, h3'⟩, h4⟩, h4'⟩, h4''⟩, h5⟩, h6⟩, h7⟩ := h
  have e1 : env.kindOf x = some .local := h1
  have e2 : env.kindOf y = some .local := h2
  have e2' : env.kindOf z = some .local := h2'
  have e3 : (some NameKind.local == some NameKind.local) = true := by decide
  have hb : (env.blockKind != ScopeKind.function) = false := by rw [block_of hk]; decide
  have hpx : (Expr.Name x px).pos.line = px.line := rfl
  unfold swappedStores
  simp only [List.length_cons, List.length_nil, hb, h5, h6, h7, e1, e2, e2', e3, h3, h3', hpx, List.head?_cons, Option.map_some, Option.getD_some, List.filterMap_cons, List.filterMap_nil, beq_self_eq_true, Bool.and_self, if_true, Bool.or_false, bne_self_eq_false, Bool.not_true, Bool.false_eq_true, if_false, Bool.and_true, Bool.true_and, Bool.or_true, Bool.true_or, Nat.reduceAdd, Nat.reduceBEq]
  have hd : ([x, y, z] : List Str).eraseDups.length = 3 := by
    have q : (y == x) = false := by rw [BEq.comm]; exact h4
    have q' : (z == x) = false := by rw [BEq.comm]; exact h4'
    have q'' : (z == y) = false := by rw [BEq.comm]; exact h4''
    simp [List.eraseDups_cons, q, q', q'']
  simp [hd]
  intro hc
  exfalso
  rcases hc with hc | hc | hc
  · split at hc
    · cases pa
    · cases hc
  · split at hc
    · cases pb
    · cases hc
  · split at hc
    · cases pc
    · cases hc

inductive TgS | one (s : Stmt) | blk (ss : List Stmt)
def TgS.sole : TgS → Option Stmt
  | .one s => some s
  | .blk [s] => some s
  | .blk _ => none
def TgS.list : TgS → List Stmt
  | .one s => [s]
  | .blk ss => ss
def nameOk (C : Ck) (i : Nat) (x : Str) (sc : Scope) : Bool := decide (C.N[i]? = some x) && isV sc x && okNm x
def augOf : Op → Option Operator
  | .add => some .Add
  | .sub => some .Sub
  | _ => none

def chkS (C : Ck) (sc : Scope) : S → TgS → Bool
  | .skip, t => match t with
    | .blk [] => true
    | .blk [.Pass _] => true
    | .one (.Pass _) => true
    | _ => false
  | .doc, t => match t.sole with
    | some (.Expr (.Constant (.str _) _ _) _) => true
    | _ => false
  | .never, _ => true
  | .brk, t => match t.sole with
    | some (.Break _) => true
    | _ => false
  | .cnt, t => match t.sole with
    | some (.Continue _) => true
    | _ => false
  | .retN, t => match t.sole with
    | some (.Return none _) => true
    | _ => false
  | .seq a b, t => match t with
    | .blk (s :: ss) => chkS C sc a (.one s) && chkS C sc b (.blk ss)
    | _ => false
  | .frz _ s, t => chkS C sc s t
  | .asg i e m, t => match t.sole with
    | some (.Assign [.Name x _] y _) => (!m.own || freshE C.tb e) && decide (C.N[i]? = some x) && isSt sc (fun _ => true) x && chk C e sc (fun _ => true) (.e y)
    | _ => false
  | .asgT is e, t => match t.sole with
    | some (.Assign [.Tuple xs k p] y _) => chkT C sc (fun _ => true) (.tp is) (.Tuple xs k p) && !(isTupX y) && chk C e sc (fun _ => true) (.e y)
    | _ => false
  | .par i j a b m m', t => match t.sole with
    | some (.Assign [.Tuple [.Name x px, .Name y py] _ _] (.Tuple [u, w] _ _) _) => (!m.own || freshE C.tb a) && (!m'.own || freshE C.tb b) && decide (C.N[i]? = some x) && decide (C.N[j]? = some y) && decide (i ≠ j) && swOk sc x y px py [u, w] && plainX u && plainX w &&
        chk C a sc (fun _ => true) (.e u) && chk C b sc (fun _ => true) (.e w)
    | _ => false
  | .app i e m, t => match t.sole with
    | some (.Expr (.Call (.Attribute (.Name x _) f ap) [y] [] cp) _) => decide (f = "append") && nameOk C i x sc && !m.own && (ap.endLine == cp.line) && plainX y && chk C e sc (fun _ => true) (.e y)
    | _ => false
  | .appPop i j e, t => match t.sole with
    | some (.Expr (.Call (.Attribute (.Name x _) f ap) [.Call (.Attribute (.Name z _) g ap2) [y] [] cp2] [] cp) _) => decide (f = "append") && decide (g = "pop") && nameOk C i x sc && nameOk C j z sc && (ap.endLine == cp.line) && (ap2.endLine == cp2.line) && plainX y && chk C e sc (fun _ => true) (.e y)
    | _ => false
  | .setI i k e m, t => match t.sole with
    | some (.Assign [.Subscript (.Name x _) y _] z _) => nameOk C i x sc && !m.own && plainX y && chk C k sc (fun _ => true) (.e y) && chk C e sc (fun _ => true) (.e z)
    | _ => false
  | .aug i o e, t => match t.sole with
    | some (.AugAssign (.Name x _) op y _) => decide (augOf o = some op) && decide (C.N[i]? = some x) && isSt sc (fun _ => true) x && chk C e sc (fun _ => true) (.e y)
    | _ => false
  | .iff c a b, t => match t.sole with
    | some (.If x ys zs _) => okT c && chk C c sc (fun _ => true) (.e x) && chkS C sc a (.blk ys) && chkS C sc b (.blk zs)
    | _ => false
  | .for_ tt it b, t => match t.sole with
    | some (.For tx ix ys [] _) => plainX ix && chkT C sc (fun _ => true) tt tx && chk C it sc (fun _ => true) (.i tx ix) && chkS C sc b (.blk ys)
    | _ => false
  | .while_ c b, t => match t.sole with
    | some (.While x ys [] _) => okT c && chk C c sc (fun _ => true) (.e x) && chkS C sc b (.blk ys)
    | _ => false
  | .ret e m, t => match t.sole with
    | some (.Return (some y) _) => (!m.own || freshE C.tb e) && chk C e sc (fun _ => true) (.e y)
    | _ => false
  | .retv i, t => match t.sole with
    | some (.Return (some (.Name x _)) _) => nameOk C i x sc
    | _ => false
  | .ex e, t => match t.sole with
    | some (.Expr x _) => !(isComp x) && chk C e sc (fun _ => true) (.e x)
    | _ => false
  | .fld c f e m, t => match t.sole with
    | some (.Assign [.Attribute (.Name x _) g _] y _) => decide (g = f) && nameOk C 0 x sc && !m.own && C.ats.contains (c, f) && chk C e sc (fun _ => true) (.e y)
    | _ => false
  | .par3 i j l a b c m m' m'', t => match t.sole with
    | some (.Assign [.Tuple [.Name x px, .Name y py, .Name z pz] _ _] (.Tuple [u, v, w] _ _) _) => (!m.own || freshE C.tb a) && (!m'.own || freshE C.tb b) && (!m''.own || freshE C.tb c) && decide (C.N[i]? = some x) && decide (C.N[j]? = some y) && decide (C.N[l]? = some z) &&
        decide (i ≠ j) && decide (i ≠ l) && decide (j ≠ l) && swOk3 sc x y z px py pz [u, v, w] && plainX u && plainX v && plainX w && chk C a sc (fun _ => true) (.e u) && chk C b sc (fun _ => true) (.e v) && chk C c sc (fun _ => true) (.e w)
    | _ => false
  | .asgL is e, t => match t.sole with
    | some (.Assign [.Tuple xs k p] y _) => chkT C sc (fun _ => true) (.tp is) (.Tuple xs k p) && !(isTupX y) && chk C e sc (fun _ => true) (.e y)
    | _ => false
  | .rev i, t => match t.sole with
    | some (.Expr (.Call (.Attribute (.Name x _) f ap) [] [] cp) _) => decide (f = "reverse") && nameOk C i x sc && (ap.endLine == cp.line)
    | _ => false

def SndS (C : Ck) (n : Nat) (X : Cx) (s : S) : TgS → Prop
  | .one st => PS X st (tS X.K (fns C.tb n) s)
  | .blk sts => PSs X sts (tS X.K (fns C.tb n) s)
section
variable {C : Ck} {n : Nat} {sc : Scope} {X : Cx} {s : S} {st : Stmt}
theorem sole_sound {t : TgS} (h : t.sole = some st) (q : PS X st (tS X.K (fns C.tb n) s)) : SndS C n X s t := by
  cases t with
  | one u =>
    cases h
    exact q
  | blk us =>
    match us, h with
    | [u], h =>
      cases h
      exact w_one q
theorem pv_of {i : Nat} {x : Str} {p : Pos} (G : Gd C n sc (fun _ => true) X) (h : nameOk C i x sc = true) : PE X (.Name x p) (tVar i) := by
  unfold nameOk okNm at h
  simp only [Bool.and_eq_true, decide_eq_true_eq, Bool.not_eq_true'] at h
  have hv := vis_of h.1.2
  rw [← G.sc] at hv
  exact pe_var (by rw [G.hN]; exact h.1.1) hv h.2.1 h.2.2
theorem few_of {y : Expr} {cp : Pos} {env : PySem.Env} (h : plainX y = true) : ((backTo cp (starEach [y] env)).all (fun x => !x.1) && (backToKw cp (keywordEach [] env)).all (fun x => x.1.isSome)
      && decide (([y] : List Expr).length + ([] : List Keyword).length + (if ([] : List Keyword).isEmpty then 0 else 1) < 30)) = true := by
  rw [star_of h]
  rfl
theorem pe_own {e : E} {y : Expr} {m : Md} (h : SndE C n X sc (fun _ => true) e y) (q : (!m.own || freshE C.tb e) = true) : PE X y (tE X.K (fns C.tb n) m.own e) := by
  cases ho : m.own with
  | false => exact h.pe
  | true =>
    rw [ho] at q
    exact h.fr (by simpa using q)
theorem not_own {m : Md} (h : (!m.own) = true) : m.own = false := by simpa using h
theorem sndS : ∀ (s : S) (t : TgS) X, Gd C n sc (fun _ => true) X → chkS C sc s t = true → SndS C n X s t := by
  intro s
  induction s with
  | skip =>
    intro t X G h
    simp only [chkS] at h
    split at h
    · exact w_skip
    · exact w_one w_pass
    · exact w_pass
    · cases h
  | doc =>
    intro t X G h
    simp only [chkS] at h
    split at h
    · rename_i ht
      exact sole_sound ht w_doc
    · cases h
  | never =>
    intro t X G h
    cases t with
    | one st => exact w_never
    | blk sts => exact w_nevers
  | brk =>
    intro t X G h
    simp only [chkS] at h
    split at h
    · rename_i ht
      exact sole_sound ht w_brk
    · cases h
  | cnt =>
    intro t X G h
    simp only [chkS] at h
    split at h
    · rename_i ht
      exact sole_sound ht w_cnt
    · cases h
  | retN =>
    intro t X G h
    simp only [chkS] at h
    split at h
    · rename_i ht
      exact sole_sound ht w_retN
    · cases h
  | seq a b ha hb =>
    intro t X G h
    simp only [chkS] at h
    split at h
    · simp only [Bool.and_eq_true] at h
      exact w_cons (ha _ X G h.1) (hb _ X G h.2)
    · cases h
  | frz is s hs =>
    intro t X G h
    simp only [chkS] at h
    have q := hs t X G h
    cases t with
    | one st => exact w_frz1 q
    | blk sts => exact w_frz q
  | asg i e m =>
    intro t X G h
    simp only [chkS] at h
    split at h
    · rename_i ht
      simp only [Bool.and_eq_true, decide_eq_true_eq, Bool.or_eq_true, Bool.not_eq_true'] at h
      obtain ⟨⟨⟨h1, h2⟩, h3⟩, h4⟩ := h
      have q := (snd e).ex G h4
      exact sole_sound ht (q.asg m i _ _ _ (fun ho => by rcases h1 with z | z; · rw [ho] at z; cases z
                                                         · exact z) h2 h3)
    · cases h
  | asgT is e =>
    intro t X G h
    simp only [chkS] at h
    split at h
    · rename_i ht
      simp only [Bool.and_eq_true, Bool.not_eq_true'] at h
      have q := (snd e).ex G h.2
      exact sole_sound ht (w_asgT (ps_asg q.pe (pg_of G h.1.1) (sole_of rfl) (stores_none h.1.2) rfl))
    · cases h
  | par i j a b m m' =>
    intro t X G h
    simp only [chkS] at h
    split at h
    · rename_i ht
      simp only [Bool.and_eq_true, decide_eq_true_eq] at h
      obtain ⟨⟨⟨⟨⟨⟨⟨⟨⟨h1, h1'⟩, h2⟩, h2'⟩, h3⟩, h4⟩, h5⟩, h5'⟩, h6⟩, h7⟩ := h
      have qa := pe_own ((snd a).ex G h6) h1
      have qb := pe_own ((snd b).ex G h7) h1'
      have hk : X.env.scope.kind = .function := by rw [G.sc]; exact G.kind
      have h4' := h4
      unfold swOk at h4'
      simp only [Bool.and_eq_true, decide_eq_true_eq] at h4'
      refine sole_sound ht (w_par h3 (ps_par G.calm (by rw [G.hN]; exact G.nd) (by rw [G.hN]; exact h2) (by rw [G.hN]; exact h2') h3 (by rw [G.sc]; exact h4'.1.1.1.1.1.1) (by rw [G.sc]; exact h4'.1.1.1.1.1.2)
        (pa_cons qa (pa_cons qb pa_nil (star_of h5')) (star_of h5)) (stores_two hk h5 h5' (by rw [G.sc]; exact h4)) (sole_of rfl)) fun σ H Q z => z)
    · cases h
  | app i e m =>
    intro t X G h
    simp only [chkS] at h
    split at h
    · rename_i ht
      simp only [Bool.and_eq_true, decide_eq_true_eq] at h
      obtain ⟨⟨⟨⟨⟨rfl, h1⟩, h2⟩, h3⟩, h4⟩, h5⟩ := h
      have q := (snd e).ex G h5
      exact sole_sound ht (w_app (not_own h2) (ps_expr (pe_bm PySem.F.plainAttrs_list PySem.F.slot_list_append PySem.F.type_list_append mt_append (pv_of G h1) (pa_cons q.pe pa_nil (star_of h4)) rfl (few_of h4) h3 (star_of h4) rfl) rfl))
    · cases h
  | appPop i j e =>
    intro t X G h
    simp only [chkS] at h
    split at h
    · rename_i ht
      simp only [Bool.and_eq_true, decide_eq_true_eq] at h
      obtain ⟨⟨⟨⟨⟨⟨⟨rfl, rfl⟩, h1⟩, h1'⟩, h3⟩, h3'⟩, h4⟩, h5⟩ := h
      have q := (snd e).ex G h5
      exact sole_sound ht (w_appPop (ps_expr (pe_bm PySem.F.plainAttrs_list PySem.F.slot_list_append PySem.F.type_list_append mt_append (pv_of G h1)
        (pa_cons (pe_bm PySem.F.plainAttrs_list PySem.F.slot_list_pop PySem.F.type_list_pop mt_popAt (pv_of G h1') (pa_cons q.pe pa_nil (star_of h4)) rfl (few_of h4) h3' (star_of h4) rfl) pa_nil rfl) rfl rfl h3 rfl rfl) rfl))
    · cases h
  | setI i k e m =>
    intro t X G h
    simp only [chkS] at h
    split at h
    · rename_i x p y p2 z p3 ht
      simp only [Bool.and_eq_true] at h
      obtain ⟨⟨⟨⟨h1, h2⟩, h3⟩, h4⟩, h5⟩ := h
      have qk := (snd k).ex G h4
      have qe := (snd e).ex G h5
      refine sole_sound ht (w_setI (not_own h2) (ps_asg qe.pe (pg_sub (pv_of G h1) qk.pe (set_any (by have := G.hu; omega)) (fun v => ?_)) (sole_of rfl) (stores_none2 rfl) rfl))
      cases y <;> first | rfl | cases h3
    · cases h
  | aug i o e =>
    intro t X G h
    simp only [chkS] at h
    split at h
    · rename_i x p op y p2 ht
      simp only [Bool.and_eq_true, decide_eq_true_eq] at h
      obtain ⟨⟨⟨h1, h2⟩, h3⟩, h4⟩ := h
      have qe := (snd e).ex G h4
      obtain ⟨u, w⟩ := st_of G.sc G.fnb h3
      have hN : X.N.Nodup := by rw [G.hN]; exact G.nd
      have hi : X.N[i]? = some x := by rw [G.hN]; exact h2
      cases o <;> cases h1
      · refine sole_sound ht (w_aug (r0 := ipI fun i j => i + j) (fun z y w H Q q k => ?_) (fun z y w q => ⟨z + y, (Option.some.inj q).symm⟩) (ps_aug hN hi u qe.pe ip_add w))
        cases q
        exact ⟨z, y, rfl, rfl, k⟩
      · refine sole_sound ht (w_aug (r0 := ipI fun i j => i - j) (fun z y w H Q q k => ?_) (fun z y w q => ⟨z - y, (Option.some.inj q).symm⟩) (ps_aug hN hi u qe.pe ip_sub w))
        cases q
        exact ⟨z, y, rfl, rfl, k⟩
    · cases h
  | iff c a b ha hb =>
    intro t X G h
    simp only [chkS] at h
    split at h
    · rename_i ht
      simp only [Bool.and_eq_true] at h
      exact sole_sound ht (w_if (((snd c).ex G h.1.1.2).pt h.1.1.1) (ha _ X G h.1.2) (hb _ X G h.2))
    · cases h
  | for_ tt it b hb =>
    intro t X G h
    simp only [chkS] at h
    split at h
    · rename_i ht
      simp only [Bool.and_eq_true] at h
      obtain ⟨⟨⟨h1, h2⟩, h3⟩, h4⟩ := h
      have pi := (snd it).all (.i _ _) sc (fun _ => true) X G h3
      have pg := pg_of G h2
      have pb := hb _ X G h4
      refine sole_sound ht ?_
      cases hr : isRg it with
      | true =>
        refine w_forR G.xe G.calm (pi.2 hr).1 pg pb (fold_of h1) ?_
        cases it <;> first | exact .inl ⟨_, rfl⟩ | exact .inr ⟨_, _, rfl⟩ | cases hr
      | false =>
        refine w_for G.xe G.calm pi.1 pg pb (fold_of h1) fun u w => ⟨fun z => ?_, fun z => ?_⟩ <;> (subst z; cases hr)
    · cases h
  | while_ c b hb =>
    intro t X G h
    simp only [chkS] at h
    split at h
    · rename_i ht
      simp only [Bool.and_eq_true] at h
      exact sole_sound ht (w_while G.xe (((snd c).ex G h.1.2).pt h.1.1) (hb _ X G h.2))
    · cases h
  | ret e m =>
    intro t X G h
    simp only [chkS] at h
    split at h
    · rename_i ht
      simp only [Bool.and_eq_true] at h
      exact sole_sound ht (w_ret (pe_own ((snd e).ex G h.2) h.1))
    · cases h
  | retv i =>
    intro t X G h
    simp only [chkS] at h
    split at h
    · rename_i ht
      exact sole_sound ht (w_retv (pv_of G h))
    · cases h
  | ex e =>
    intro t X G h
    simp only [chkS] at h
    split at h
    · rename_i ht
      simp only [Bool.and_eq_true, Bool.not_eq_true'] at h
      exact sole_sound ht (w_ex ((snd e).ex G h.2).pe (swaps_of h.1))
    · cases h
  | fld c f e m =>
    intro t X G h
    simp only [chkS] at h
    split at h
    · rename_i x p g p2 y p3 ht
      simp only [Bool.and_eq_true, decide_eq_true_eq, List.contains_iff_mem] at h
      obtain ⟨⟨⟨⟨rfl, h1⟩, h2⟩, h3⟩, h4⟩ := h
      exact sole_sound ht (w_fld (not_own h2) (pv_of G h1) ((snd e).ex G h4).pe (by cases y <;> rfl) (G.ats _ h3))
    · cases h
  | par3 i j l a b c m m' m'' =>
    intro t X G h
    simp only [chkS] at h
    split at h
    · rename_i ht
      simp only [Bool.and_eq_true, decide_eq_true_eq] at h
      obtain ⟨⟨⟨⟨⟨⟨⟨⟨⟨⟨⟨⟨⟨⟨⟨h1, h1'⟩, h1''⟩, h2⟩, h2'⟩, h2''⟩, h3⟩, h3'⟩, h3''⟩, h4⟩, h5⟩, h5'⟩, h5''⟩, h6⟩, h7⟩, h8⟩ := h
      have qa := pe_own ((snd a).ex G h6) h1
      have qb := pe_own ((snd b).ex G h7) h1'
      have qc := pe_own ((snd c).ex G h8) h1''
      have hk : X.env.scope.kind = .function := by rw [G.sc]; exact G.kind
      have h4' := h4
      unfold swOk3 at h4'
      simp only [Bool.and_eq_true, decide_eq_true_eq] at h4'
      have hN : X.N.Nodup := by rw [G.hN]; exact G.nd
      refine sole_sound ht (w_par3 (ps_par3 G.calm hN (by rw [G.hN]; exact h2) (by rw [G.hN]; exact h2') (by rw [G.hN]; exact h2'') h3 h3' h3'' (by rw [G.sc]; exact h4'.1.1.1.1.1.1.1.1.1.1) (by rw [G.sc]; exact h4'.1.1.1.1.1.1.1.1.1.2) (by rw [G.sc]; exact h4'.1.1.1.1.1.1.1.1.2)
        (pa_cons qa (pa_cons qb (pa_cons qc pa_nil (star_of h5'')) (star_of h5')) (star_of h5)) (stores_three hk h5 h5' h5'' (by rw [G.sc]; exact h4)) (sole_of rfl)) fun σ H Q z => z)
    · cases h
  | asgL is e =>
    intro t X G h
    simp only [chkS] at h
    split at h
    · rename_i ht
      simp only [Bool.and_eq_true, Bool.not_eq_true'] at h
      have q := (snd e).ex G h.2
      obtain ⟨g1, g2, g3⟩ := pgs_of G (show chkTs C sc (fun _ => true) is _ = true from h.1.1)
      exact sole_sound ht (w_asgL (ps_asg q.pe (pg_unl G.calm g1 g2 g3) (sole_of rfl) (stores_none h.1.2) rfl))
    · cases h
  | rev i =>
    intro t X G h
    simp only [chkS] at h
    split at h
    · rename_i ht
      simp only [Bool.and_eq_true, decide_eq_true_eq] at h
      obtain ⟨⟨rfl, h1⟩, h2⟩ := h
      exact sole_sound ht (w_rev (ps_expr (pe_bm0 PySem.F.plainAttrs_list PySem.F.slot_list_reverse PySem.F.type_list_reverse mt_reverse (pv_of G h1) rfl h2) rfl))
    · cases h
end
end PyD

/-! Defs: the whole table. -/
namespace PyD
open PySem L2 RZ StX PyProof.Rows

/-- what the checker may lean on -/
structure Wd where
  gcd : Bool := false
  gl : List (Str × List Int) := []
  ats : List (Str × Str) := []
  its : List (Str × Str) := []
  cns : List (Str × Str × Int) := []
def ckOf (tb : List Fn) (W : Wd) (N : List Str) : Ck := { tb := tb, N := N, gcd := W.gcd, gl := W.gl, ats := W.ats, its := W.its, cns := W.cns }
/-- a def of the text, as the table has it -/
structure FnAt (K : PySem.W.Frag) (mg : Str → Option Value) (tb : List Fn) (W : Wd) (fn : Fn) (ad : Addr) (st : Stmt) : Prop where
  m : fn.init = none → mg fn.name = some (.ref ad)
  mi : ∀ c, fn.init = some c → (mg c = some (.ref (He.ga K c)) ∧ Mk K (He.ga K c) ad) ∧ fn.star = false
  ok : ∃ qual fd, Fun K fn.name qual st ad fd ∧
    (fn.star = false → ∀ (kV doc pm : Value) (an : Option Addr) (cdv ct : Value) (us : List Value), us.length = fn.ps.length → bindArgs (PySem.W.fnOf fn.name qual (defArgs st) (defBody st) (defScope st) .none kV doc pm an cdv ct) ⟨us, []⟩ = pure (fn.ps.zip us)) ∧
    (fn.star = true → ∃ ps pv, fn.ps = ps ++ [pv] ∧ ∀ (kV doc pm : Value) (an : Option Addr) (cdv ct : Value) (us rest : List Value), us.length = ps.length → bindArgs (PySem.W.fnOf fn.name qual (defArgs st) (defBody st) (defScope st) .none kV doc pm an cdv ct) ⟨us ++ rest, []⟩ = (newTuple rest >>= fun t => pure (ps.zip us ++ [(pv, t)])))
  sc : FnScope fn.names fn.ps (defScope st)
  ck : chkS (ckOf tb W fn.names) (defScope st) fn.body (.blk (defBody st)) = true
structure TabOk (K : PySem.W.Frag) (mg : Str → Option Value) (tb : List Fn) (W : Wd) : Prop where
  fn : ∀ (f : Nat) (fn : Fn), tb[f]? = some fn → ∃ ad st, FnAt K mg tb W fn ad st
  bi : ∀ nm ∈ biNames, mg nm = none
  gcd : W.gcd = true → mg "gcd" = some (.builtin "math.gcd")
  gl : ∀ p ∈ W.gl, ∃ a, mg p.1 = some (.ref a) ∧ ∀ H, SqT K H a (p.2.map V.int)
  ats : ∀ p ∈ W.ats, Cls K (He.ga K p.1) ∧ NoAttr K (He.ga K p.1) p.2
  cns : ∀ q ∈ W.cns, mg q.1 = some (.ref (He.ga K q.1)) ∧ ∃ mc u, ClX.CRead K (He.ga K q.1) mc ∧ ClX.CVal K (He.ga K q.1) mc q.2.1 (.int q.2.2) u
  its : ∀ p ∈ W.its, OwnIt K mg (He.ga K p.1) p.2

section
variable {P : Program} {w : World} {K : PySem.W.Frag} {mg : Str → Option Value} {base : Heap} {tb : List Fn} {W : Wd}
/-- what the body asks -/
def spB (K : PySem.W.Frag) (Φ : Fns) (fn : Fn) : Sp := fun vs H Q _ => ∃ M ds d, Same M H ∧ DatL K M vs ds ∧ ds.length = fn.ps.length ∧ outD fn.fr (evS Φ fn.body (startF fn ds)) = some d ∧ ∀ v M' H', Xt M M' H H' → Res K M' H H' fn.fr v d → Q v H'
theorem start_rel {M H : Hp} {fn : Fn} {vs : List V} {ds : List D} (sm : Same M H) (dl : DatL K M vs ds) : Rel K 0 M H M (L2.start fn.names vs) (startF fn ds) H := by
  have hl := dl.length
  have noMu : ∀ (i : Nat) (d : D), (startF fn ds)[i]? = some (some (true, d)) → False := fun i d h => by
    unfold startF at h
    rw [List.getElem?_append] at h
    split at h
    · rw [List.getElem?_map] at h
      cases e : ds[i]? with
      | none => rw [e] at h; cases h
      | some u => rw [e] at h; cases h
    · rw [List.getElem?_replicate] at h
      split at h <;> cases h
  refine ⟨by simp [L2.start, startF, hl], sm, Same.refl M, Same.refl H, fun a h => .inl h, fun i d h => ?_, fun i d h => (noMu i d h).elim, fun i j d e l h => (noMu i d h).elim, fun i c fs h => (noMu i _ h).elim⟩
  unfold startF at h
  unfold L2.start
  rw [List.getElem?_append] at h ⊢
  split at h
  · rename_i hi
    rw [List.length_map] at hi
    rw [List.getElem?_map] at h
    cases e : ds[i]? with
    | none => rw [e] at h; cases h
    | some u =>
      rw [e] at h
      cases h
      obtain ⟨v, q1, q2⟩ := dl.get e
      refine ⟨v, ?_, q2⟩
      rw [if_pos (by rw [List.length_map, hl]; exact hi), List.getElem?_map, q1]
      rfl
  · rw [List.getElem?_replicate] at h
    split at h <;> cases h
/-- an __init__ starts -/
theorem start_relI {M H : Hp} {fn : Fn} {c : Str} {a dx : Addr} {ws : List V} {ds : List D} (sm : Same M H) (ma : M a = none) (ha : H a = some (.ins (He.ga K c) dx [])) (dl : DatL K M ws ds) : Rel K a M (rmH H a) M (L2.start fn.names (.ref a :: ws)) (startI fn c ds) H := by
  have hl := dl.length
  have s2 : Same (rmH H a) H := fun b u e => by
    unfold rmH at e
    split at e
    · cases e
    · exact e
  have tail : ∀ (i : Nat) (b : Bool) (d : D), (startI fn c ds)[i + 1]? = some (some (b, d)) → b = false ∧ ds[i]? = some d := fun i b d h => by
    unfold startI at h
    rw [List.getElem?_cons_succ, List.getElem?_append] at h
    split at h
    · rw [List.getElem?_map] at h
      cases e : ds[i]? with
      | none => rw [e] at h; cases h
      | some u => rw [e] at h; cases h; exact ⟨rfl, rfl⟩
    · rw [List.getElem?_replicate] at h
      split at h <;> cases h
  have zero : ∀ (i : Nat) (d : D), (startI fn c ds)[i]? = some (some (true, d)) → i = 0 ∧ d = .obj c [] := fun i d h => by
    cases i with
    | zero => cases h; exact ⟨rfl, rfl⟩
    | succ i => cases (tail i true d h).1
  refine ⟨by simp [L2.start, startI, hl], sm, Same.refl M, s2, fun a h => .inl h, fun i d h => ?_, fun i d h => ?_, fun i j d e l h h' _ _ => ?_, fun i c' fs h => ?_⟩
  · cases i with
    | zero => cases h
    | succ i =>
      obtain ⟨_, e⟩ := tail i false d h
      obtain ⟨v, q1, q2⟩ := dl.get e
      refine ⟨v, ?_, q2⟩
      unfold L2.start
      rw [List.getElem?_append, if_pos (by rw [List.length_map, List.length_cons, hl]; have := (List.getElem?_eq_some_iff.mp e).1; omega), List.getElem?_map, List.getElem?_cons_succ, q1]
      rfl
  · obtain ⟨rfl, rfl⟩ := zero i d h
    exact ⟨a, _, rfl, ma, by simp [rmH], ha, dx, [], rfl, .nil⟩
  · rw [(zero i d h).1, (zero j e h').1]
  · obtain ⟨rfl, _⟩ := zero i _ h
    rfl
/-- the two promises of a table's entry, at a level -/
structure Ent (P : Program) (w : World) (K : PySem.W.Frag) (mg : Str → Option Value) (base : Heap) (tb : List Fn) (n f : Nat) (fn : Fn) : Prop where
  a : fn.init = none → ∃ a, mg fn.name = some (.ref a) ∧ PySem.W.keepIn K (.ref a) = true ∧ FnR P w K mg base CX0 (n + 1) a (spOf K (fns tb n) fn.fr f)
  b : ∀ c, fn.init = some c → mg c = some (.ref (He.ga K c)) ∧ ∃ a, Mk K (He.ga K c) a ∧ ∀ m, n = m + 1 → FnR P w K mg base CX0 (m + 1) a (spI K (fns tb n) c f)
theorem body_ok {fn : Fn} {n : Nat} {qual : Str} {st : Stmt} {ad : Addr} (T : TabOk K mg tb W) (ih : ∀ (f : Nat) (fn : Fn), tb[f]? = some fn → Ent P w K mg base tb n f fn)
    (S : FnScope fn.names fn.ps (defScope st)) (ck : chkS (ckOf tb W fn.names) (defScope st) fn.body (.blk (defBody st)) = true)
    (cdv : Value) (A : Around) (outer : List PySem.Env) (s : Shared) (H : Hp) (vs : List V) (Q : VK) (E : XK) (hr : Room (n + 1) (A.deeper (envOfC qual (defScope st) s.heap.objs.size ad cdv))) :
    PSs (cxOf CX0 P w K mg base fn.names qual (defScope st) ad cdv A outer s H E).nox (defBody st) (tS K (fns tb n) fn.body) := by
  have G : Gd (ckOf tb W fn.names) n (defScope st) (fun _ => true) (cxOf CX0 P w K mg base fn.names qual (defScope st) ad cdv A outer s H E).nox :=
    ⟨rfl, S.nd, S.kind, rfl, rfl, hr, T.bi, T.gcd, fun f fn h => (ih f fn h).a, fun f fn c h => (ih f fn h).b c, T.gl, T.ats, T.cns, T.its, rfl, fun _ _ => rfl⟩
  exact sndS _ (.blk (defBody st)) _ G ck
theorem body_out {fn : Fn} {n : Nat} {vs : List V} {H : Hp} {Q : VK} {E : XK} (h : spB K (fns tb n) fn vs H Q E) : tS K (fns tb n) fn.body { nx := fun _ H' => Q .non H', rt := Q } (L2.start fn.names vs) H := by
  obtain ⟨M, ds, d, sm, dl, hl, q, k⟩ := h
  cases ho : evS (fns tb n) fn.body (startF fn ds) with
  | none => rw [ho] at q; cases q
  | some out =>
    rw [ho] at q
    refine ⟨0, M, H, M, startF fn ds, out, start_rel sm dl, ho, ?_⟩
    cases out with
    | nx env =>
      simp only [outD] at q
      split at q
      · cases q
      · rename_i hf
        cases q
        have hf' : fn.fr = false := by simpa using hf
        rw [hf'] at k
        exact fun σ' M' H' r s' => k _ M' H' r.xt .non
    | bk env => cases q
    | ct env => cases q
    | rt own d' =>
      simp only [outD] at q
      split at q
      · cases q
      · rename_i hc
        cases q
        intro v M' H' xt res
        cases hf : fn.fr with
        | false =>
          rw [hf] at k
          obtain ⟨M2, x2, r2⟩ := Res.keep xt res
          exact k v M2 H' x2 r2
        | true =>
          rw [hf] at k hc
          have : own = true := by simpa using hc
          subst this
          exact k v M' H' xt res
/-- what the body of an __init__ asks -/
def spBI (K : PySem.W.Frag) (Φ : Fns) (c : Str) (fn : Fn) : Sp := fun vs H Q _ => ∃ M a dx ws ds d, vs = .ref a :: ws ∧ H a = some (.ins (He.ga K c) dx []) ∧ M a = none ∧ Same M H ∧ DatL K M ws ds ∧ ds.length + 1 = fn.ps.length ∧ outI c (evS Φ fn.body (startI fn c ds)) = some d ∧
  ∀ fs M' H' dx' vfs, d = .obj c fs → Xt M M' (rmH H a) H' → M' a = none → H' a = some (.ins (He.ga K c) dx' vfs) → DatF K M' vfs fs → Q .non H'
theorem body_outI {fn : Fn} {n : Nat} {c : Str} {vs : List V} {H : Hp} {Q : VK} {E : XK} (h : spBI K (fns tb n) c fn vs H Q E) : tS K (fns tb n) fn.body { nx := fun _ H' => Q .non H', rt := Q } (L2.start fn.names vs) H := by
  obtain ⟨M, a, dx, ws, ds, d, rfl, ha, ma, sm, dl, hl, q, k⟩ := h
  cases ho : evS (fns tb n) fn.body (startI fn c ds) with
  | none => rw [ho] at q; cases q
  | some out =>
    rw [ho] at q
    refine ⟨a, M, rmH H a, M, startI fn c ds, out, start_relI sm ma ha dl, ho, ?_⟩
    cases out with
    | nx env =>
      simp only [outI] at q
      split at q
      · rename_i c' fs hj
        split at q
        · rename_i hc
          subst hc
          cases q
          intro σ' M' H' r s'
          have h0 := join_at hj
          obtain ⟨l, o, q2, ml, hl0, hl2, dx2, ws2, rfl, dF⟩ := r.mu 0 _ h0
          have hs := r.slf 0 _ _ h0
          rw [q2] at hs
          cases hs
          exact k fs M' H' dx2 ws2 rfl r.xt ml hl2 dF
        · cases q
      · cases q
    | bk env => cases q
    | ct env => cases q
    | rt own d' => cases q
theorem fns_at {f : Nat} {fn : Fn} {ds : List D} (h : tb[f]? = some fn) (hi : fn.init = none) : ∀ n, fns tb (n + 1) f ds = runFn (fns tb n) fn ds
  | 0 => by simp only [fns, h, hi]; rfl
  | n + 1 => by simp only [fns, h, hi]; rfl
theorem tab_all (T : TabOk K mg tb W) : ∀ (n f : Nat) (fn : Fn), tb[f]? = some fn → Ent P w K mg base tb n f fn := by
  intro n
  induction n using Nat.strongRecOn with
  | _ n ih =>
    intro f fn h
    obtain ⟨ad, st, F⟩ := T.fn f fn h
    obtain ⟨qual, fd, F1, hb, hbs⟩ := F.ok
    refine ⟨fun hi => ⟨ad, F.m hi, F1.kp, ?_⟩, fun c hi => ⟨(F.mi c hi).1.1, ad, (F.mi c hi).1.2, fun m hm => ?_⟩⟩
    · cases n with
      | zero =>
        intro A outer s H us vs Q E hr e0 r hs
        obtain ⟨M, ds, d, _, _, q, _⟩ := hs
        cases q
      | succ n =>
        have ih' : ∀ (f : Nat) (fn : Fn), tb[f]? = some fn → Ent P w K mg base tb n f fn := ih n (by omega)
        have hfn : ∀ ds, fns tb (n + 1) f ds = runFn (fns tb n) fn ds := fun ds => fns_at h hi n
        cases hst : fn.star with
        | false =>
          have B := F1.binds (hb hst)
          have ok : FnOk P w K mg base CX0 (n + 2) ad fd fn.ps (spB K (fns tb n) fn) := F1.ok F.sc (fun vs H Q E ⟨M, ds, d, sm, dl, hl, _⟩ => by rw [dl.length, hl]) fun cdv A outer s H vs Q E hr hs => ⟨_, body_ok T ih' F.sc F.ck cdv A outer s H vs Q E hr, body_out hs⟩
          refine (FnOk.raw ok B .nil).imp fun vs H Q E ⟨M, ds, d, sm, dl, q, k⟩ => ?_
          rw [List.append_nil]
          rw [hfn] at q
          unfold runFn argsOf at q
          rw [hi, hst] at q
          simp only [Bool.false_eq_true, if_false] at q
          obtain ⟨ds', q1, q2⟩ := Option.bind_eq_some_iff.mp q
          split at q1
          · rename_i hl
            cases q1
            exact ⟨M, ds, d, sm, dl, hl, q2, k⟩
          · cases q1
        | true =>
          obtain ⟨ps, pv, eps, hbind⟩ := hbs hst
          obtain ⟨oc, od, kV, doc, pm, an, cdv, ct, osl, rfl, lk, hcd⟩ := F1.ex
          have S : FnScope fn.names (ps ++ [pv]) (defScope st) := by rw [← eps]; exact F.sc
          have R := fn_star (CX := CX0) (P := P) (w := w) (mg := mg) (base := base) (k := n + 1) (sp := spB K (fns tb n) fn) lk hcd S cxUp_none (hbind kV doc pm an cdv ct) fun A outer s H vs Q E hr hs => ⟨_, (body_ok T ih' F.sc F.ck cdv A outer s H vs Q E hr).nox, body_out hs⟩
          refine R.imp fun vs H Q E ⟨M, ds, d, sm, dl, q, k⟩ => ?_
          rw [hfn] at q
          unfold runFn argsOf at q
          rw [hi, hst] at q
          simp only [if_true] at q
          obtain ⟨ds', q1, q2⟩ := Option.bind_eq_some_iff.mp q
          have hpl : fn.ps.length - 1 = ps.length := by rw [eps]; simp
          rw [hpl] at q1
          split at q1
          · rename_i hl
            cases q1
            have hvl := dl.length
            refine ⟨vs.take ps.length, vs.drop ps.length, (List.take_append_drop _ _).symm, by rw [List.length_take]; omega, LIM_le (by rw [List.length_drop]; omega), fun p hp => ?_⟩
            have x1 := Xt.new (o := .tup (vs.drop ps.length)) sm hp
            refine ⟨upd M p (.tup (vs.drop ps.length)), _, d, x1.s, (dl.take ps.length |>.mono x1.m).append (.cons (.tup upd_same ((dl.drop ps.length).mono x1.m)) .nil), ?_, q2, fun v M' H' x2 r2 => k v M' H' (x1.trans x2) (r2.back x1.h)⟩
            rw [List.length_append, List.length_take, eps, List.length_append]
            simp only [List.length_cons, List.length_nil]
            omega
          · cases q1
    · subst hm
      cases m with
      | zero =>
        intro A outer s H us vs Q E hr e0 r hs
        obtain ⟨M, a, dx, ws, ds, d, _, _, _, _, _, q, _⟩ := hs
        simp only [fns, h, hi] at q
        cases q
      | succ m =>
        have ih' : ∀ (f : Nat) (fn : Fn), tb[f]? = some fn → Ent P w K mg base tb m f fn := ih m (by omega)
        have hst := (F.mi c hi).2
        have B := F1.binds (hb hst)
        have ok : FnOk P w K mg base CX0 (m + 2) ad fd fn.ps (spBI K (fns tb m) c fn) := F1.ok F.sc (fun vs H Q E ⟨M, a, dx, ws, ds, d, e1, _, _, _, dl, hl, _⟩ => by rw [e1, List.length_cons, dl.length, hl]) fun cdv A outer s H vs Q E hr hs => ⟨_, body_ok T ih' F.sc F.ck cdv A outer s H vs Q E hr, body_outI hs⟩
        refine (FnOk.raw ok B .nil).imp fun vs H Q E ⟨M, a, dx, ws, ds, d, e1, ha, ma, sm, dl, q, k⟩ => ?_
        rw [List.append_nil]
        simp only [fns, h, hi, Option.isSome_some, if_true] at q
        unfold runFn at q
        rw [hi] at q
        simp only [] at q
        split at q
        · rename_i hl
          exact ⟨M, a, dx, ws, ds, d, e1, ha, ma, sm, dl, hl, q, k⟩
        · cases q
end
end PyD

/-! From the head's facts to the table, to the law. -/
namespace PyD
open PySem L2 RZ StX PyProof.Rows
/-- a module's tuple of ints -/
def glB (K : PySem.W.Frag) (p : Str × List Int) : Bool := He.eqO (PySem.W.nsIn K mainGlobals p.1) (some (some (.ref (He.ga K p.1)))) && (match K.lookup (He.ga K p.1) with
  | some ⟨c, _, .seq its _, _⟩ => decide (c = .type "tuple") && decide (its.size ≤ 1000) && decide (its.toList.map absV = p.2.map fun n => some (V.int n))
  | _ => false)
theorem vals_ints {us : List Value} {ns : List Int} (h : us.map absV = ns.map fun n => some (V.int n)) : Vals (ns.map V.int) us := by
  induction ns generalizing us with
  | nil =>
    cases us with
    | nil => exact .nil
    | cons u us => cases h
  | cons n ns ih =>
    cases us with
    | nil => cases h
    | cons u us =>
      simp only [List.map_cons, List.cons.injEq] at h
      refine .cons ?_ (ih h.2)
      have h1 := h.1
      cases u <;> simp [absV] at h1
      subst h1
      exact ⟨_, rfl⟩
theorem glB_ok {K : PySem.W.Frag} {h : Heap} {mg : Str → Option Value} (X : K.In h) (G : h.Ns mainGlobals mg) {p : Str × List Int} (c : glB K p = true) : ∃ a, mg p.1 = some (.ref a) ∧ ∀ H, SqT K H a (p.2.map V.int) := by
  obtain ⟨c1, c2⟩ := Bool.and_eq_true_iff.mp c
  refine ⟨_, PySem.W.mg_of X G (He.eqO_ok c1), fun H => ?_⟩
  split at c2
  · rename_i cl dd its n sl e
    simp only [Bool.and_eq_true, decide_eq_true_eq] at c2
    obtain ⟨⟨rfl, h2⟩, h3⟩ := c2
    refine .inr ⟨_, its, n, e, rfl, rfl, Nat.le_trans h2 (by decide), ?_⟩
    exact vals_ints h3
  · cases c2
/-- a class's constant -/
def cnB (K : PySem.W.Frag) (q : Str × Str × Int) : Bool := He.eqO (PySem.W.nsIn K mainGlobals q.1) (some (some (.ref (He.ga K q.1)))) && (PySem.W.readsIn K (He.ga K q.1) (.type "type") && (He.eqO (PySem.W.specialIn K (.ref (He.ga K q.1)) "__getattribute__") (some (some (.builtin "type.__getattribute__"))) &&
  (match PySem.W.findCls K (.ref (He.ga K q.1)) (.type "type") q.2.1 with
  | some (.val (.int j _)) => decide (j = q.2.2)
  | _ => false)))
theorem cnB_ok {K : PySem.W.Frag} {h : Heap} {mg : Str → Option Value} (X : K.In h) (G : h.Ns mainGlobals mg) {q : Str × Str × Int} (c : cnB K q = true) : mg q.1 = some (.ref (He.ga K q.1)) ∧ ∃ mc u, ClX.CRead K (He.ga K q.1) mc ∧ ClX.CVal K (He.ga K q.1) mc q.2.1 (.int q.2.2) u := by
  obtain ⟨c1, c⟩ := Bool.and_eq_true_iff.mp c
  obtain ⟨c2, c⟩ := Bool.and_eq_true_iff.mp c
  obtain ⟨c3, c4⟩ := Bool.and_eq_true_iff.mp c
  refine ⟨PySem.W.mg_of X G (He.eqO_ok c1), .type "type", ?_⟩
  split at c4
  · rename_i j t e
    have := of_decide_eq_true c4
    subst this
    exact ⟨_, ⟨c2, He.eqO_ok c3⟩, ⟨e, ⟨t, rfl⟩⟩⟩
  · cases c4
/-- attributes of a class's instances -/
def atB (K : PySem.W.Frag) (p : Str × Str) : Bool := (He.Fa.cls p.1).ok K && (He.Fa.noat p.1 p.2).ok K
theorem atB_ok {K : PySem.W.Frag} {p : Str × Str} (c : atB K p = true) : Cls K (He.ga K p.1) ∧ NoAttr K (He.ga K p.1) p.2 := by
  obtain ⟨c1, c2⟩ := Bool.and_eq_true_iff.mp c
  exact ⟨He.cls_ok c1, He.noat_ok c2⟩
/-- a class whose instances are walked by their __iter__ -/
def itB (K : PySem.W.Frag) (p : Str × Str) : Bool := (He.Fa.cls p.1).ok K && ((He.Fa.noat p.1 p.2).ok K && ((He.Fa.meth p.1 "__iter__").ok K && He.eqO (PySem.W.nsIn K mainGlobals "iter") (some none)))
/-- .. and what its text says -/
def OwnItF (K : PySem.W.Frag) (C : Addr) (F : Str) : Prop := ∃ (qual : Str) (st : Stmt) (fd : FuncData), Fun K "__iter__" qual st (He.ma K C "__iter__") fd ∧ FnScope ["self"] ["self"] (defScope st) ∧ isIterBody F (defBody st) = true ∧ (defScope st).names.lookup ("iter" : Str) = some NameKind.globalImplicit ∧
    (∀ (kV doc pm : Value) (an : Option Addr) (cdv ct : Value) (us : List Value), us.length = 1 → bindArgs (PySem.W.fnOf "__iter__" qual (defArgs st) (defBody st) (defScope st) .none kV doc pm an cdv ct) ⟨us, []⟩ = pure ((["self"] : List Str).zip us))
theorem itB_ok {K : PySem.W.Frag} {h : Heap} {mg : Str → Option Value} (X : K.In h) (G : h.Ns mainGlobals mg) {p : Str × Str} (c : itB K p = true) (F : OwnItF K (He.ga K p.1) p.2) : OwnIt K mg (He.ga K p.1) p.2 := by
  obtain ⟨c1, c⟩ := Bool.and_eq_true_iff.mp c
  obtain ⟨c2, c⟩ := Bool.and_eq_true_iff.mp c
  obtain ⟨c3, c4⟩ := Bool.and_eq_true_iff.mp c
  obtain ⟨qual, st, fd, f1, f2, f3, f4, f5⟩ := F
  exact ⟨⟨_, qual, st, fd, He.meth_ok c3, f1, f2, f3, f4, f5⟩, He.cls_ok c1, He.noat_ok c2, PySem.W.mg_none_of X G (He.eqO_ok c4)⟩
def wdB (K : PySem.W.Frag) (W : Wd) : Bool := (!W.gcd || He.eqO (PySem.W.nsIn K mainGlobals "gcd") (some (some (.builtin "math.gcd")))) && (biNames.all (fun nm => He.eqO (PySem.W.nsIn K mainGlobals nm) (some none)) && (W.gl.all (glB K) && (W.ats.all (atB K) && (W.cns.all (cnB K) && W.its.all (itB K)))))

/-! ### the hook: facts by names, defs at any address, one more test -/
abbrev AlO : Type := He.AlD × Bool
def obsO (n : Nat) (fa : List He.Fa) (fn : List He5.DefA) (ex : PySem.W.Frag → Bool) (g : Addr → Option Obj) : AlO := (He5.obsA fa fn (He.frG g (He5.asA g n)), ex (He.frG g (He5.asA g n)))
structure SaysO (fa : List He.Fa) (fn : List He5.DefA) (ex : PySem.W.Frag → Bool) (K : PySem.W.Frag) : Prop where
  a : He5.SaysA fa fn K
  more : ex K = true
def hookO (n : Nat) (fa : List He.Fa) (fn : List He5.DefA) (ex : PySem.W.Frag → Bool) : PySem.W.Hook where
  α := AlO
  obs := fun s => obsO n fa fn ex s.heap.get?
  val := fun _ => (He5.valA fn, true)
  says := fun _ h => ∃ K : PySem.W.Frag, K.In h ∧ SaysO fa fn ex K
  of := fun _ _ e => ⟨_, He.frG_in, ⟨congrArg (fun z : AlO => z.1) e, congrArg (fun z : AlO => z.2) e⟩⟩
  keeps := fun _ _ _ ⟨K, hK, c⟩ k => ⟨K, PySem.W.Frag.In.keeps hK k, c⟩
theorem obsO_eq {n : Nat} {fa : List He.Fa} {fn : List He5.DefA} {ex : PySem.W.Frag → Bool} {g : Addr → Option Obj} {s : Shared} (h : ∀ a, g a = s.heap.get? a) : obsO n fa fn ex g = (hookO n fa fn ex).obs s := by
  have e : g = s.heap.get? := funext h
  rw [e] <;> rfl
section
variable {K : PySem.W.Frag} {h : Heap} {mg : Str → Option Value} {tb : List Fn} {W : Wd}
theorem tab_of (X : K.In h) (G : h.Ns mainGlobals mg) (c : wdB K W = true) (hI : ∀ p ∈ W.its, OwnItF K (He.ga K p.1) p.2) (F : ∀ (f : Nat) (fn : Fn), tb[f]? = some fn → ∃ ad st, FnAt K mg tb W fn ad st) : TabOk K mg tb W := by
  obtain ⟨c1, c⟩ := Bool.and_eq_true_iff.mp c
  obtain ⟨c2, c⟩ := Bool.and_eq_true_iff.mp c
  obtain ⟨c3, c⟩ := Bool.and_eq_true_iff.mp c
  obtain ⟨c4, c⟩ := Bool.and_eq_true_iff.mp c
  obtain ⟨c5, c6⟩ := Bool.and_eq_true_iff.mp c
  rw [List.all_eq_true] at c2 c3 c4 c5 c6
  refine ⟨F, fun nm hn => PySem.W.mg_none_of X G (He.eqO_ok (c2 nm hn)), fun hg => ?_, fun p hp => glB_ok X G (c3 p hp), fun p hp => atB_ok (c4 p hp), fun q hq => cnB_ok X G (c5 q hq), fun p hp => itB_ok X G (c6 p hp) (hI p hp)⟩
  rw [hg] at c1
  exact PySem.W.mg_of X G (He.eqO_ok (by simpa using c1))
end
/-- what the end needs of the table -/
theorem law_of {l : PySem.W.OpenLaw} {q : Program} {loose : List Str} {XP : (Str → Option Value) → Heap → Prop} {YP : World → Heap → Prop} {d : DefRec} {tb : List Fn} {W : Wd} {fn : Fn} {i n m : Nat}
    (hn : l.most = some m) (hn2 : m ≤ sizeLine) (hdf : d.params.defaults = []) (hr : Room (n + 2) callerA) (hi : tb[i]? = some fn) (hin : fn.init = none) (hst : fn.star = false) (hps : fn.ps = (["script"] : List Str)) (hfr : fn.fr = false) (hnm : d.name = fn.name)
    (F : ∀ (w : World) (mg : Str → Option Value) (h : Heap), YP w h → h.Ns mainGlobals mg → ∃ K : PySem.W.Frag, K.In h ∧ TabOk K mg tb W)
    (pure : ∀ ns : List Int, ns.length ≤ m → fns tb (n + 1) i [.ro (ns.map .int)] = some (.bl true)) :
    PySem.W.WalkO q loose XP YP l.row.toRowW d [] (fun f vs => PySem.call f vs) := by
  refine walk_ofE (n := m) (k := n + 2) (x := "script") (CX := CX0) hn hn2 hdf hr (fun w mg fa h Y G hmg => ?_) (fun _ _ _ _ z => z)
  obtain ⟨K, KX, T⟩ := F w mg h Y G
  obtain ⟨ad, st, A⟩ := T.fn i fn hi
  obtain ⟨qual, fd, F1, hb, _⟩ := A.ok
  have e1 : mg fn.name = some (.ref fa) := by rw [← hnm]; exact hmg
  have e := e1.symm.trans (A.m hin)
  cases e
  have hb' := hb hst
  have hbt : ∀ (s : Shared) (u : Value), BindsTo s fd ⟨[u], []⟩ [("script", u)] := fun s u => by
    obtain ⟨oc, od, kV, doc, pm, an, cdv, ct, osl, rfl, lk, hcd⟩ := F1.ex
    have := hb' kV doc pm an cdv ct [u] (by rw [hps]; rfl)
    rw [hps] at this
    exact .of_eq this
  refine ⟨K, fd, spB K (fns tb n) fn, KX, hbt, fun H a ns hl _ hS => ?_, fun base KX' G' => ?_⟩
  · have p := pure ns hl
    rw [fns_at hi hin] at p
    unfold runFn argsOf at p
    rw [hin, hst, hps] at p
    simp only [Bool.false_eq_true, if_false, List.length_cons, List.length_nil, if_true, Option.bind_some] at p
    have dl : ∀ ns : List Int, DatL K H (ns.map V.int) (ns.map D.int) := fun ns => by
      induction ns with
      | nil => exact .nil
      | cons x xs ih => exact .cons (.int x) ih
    refine ⟨H, [.ro (ns.map .int)], .bl true, Same.refl H, .cons (.ro hS (dl ns)) .nil, by rw [hps]; rfl, p, fun v M' H' _ r => ?_⟩
    rw [hfr] at r
    cases r
    rfl
  · rw [← hps]
    exact F1.ok A.sc (fun vs H Q E ⟨M, ds, d, sm, dl, hl, _⟩ => by rw [dl.length, hl]) fun cdv A' outer s H vs Q E hr hs => ⟨_, body_ok T (fun f fn h => tab_all T n f fn h) A.sc A.ck cdv A' outer s H vs Q E hr, body_out hs⟩
end PyD

/-! The plain side: rules to reckon with. -/
namespace PyD
open PySem

noncomputable instance : DecidableEq D := fun _ _ => Classical.propDecidable _

/-! ### what == sees as it stands -/
inductive Nice : Nat → D → Prop
  | int {k : Nat} (i : Int) : Nice k (.int i)
  | non {k : Nat} : Nice k .non
  | tup {k : Nat} {xs : List D} : (∀ x ∈ xs, Nice k x) → Nice (k + 1) (.tup xs)
  | lst {k : Nat} {xs : List D} : (∀ x ∈ xs, Nice k x) → Nice (k + 1) (.lst xs)
theorem Nice.up {k : Nat} {d : D} (h : Nice k d) : ∀ {m : Nat}, k ≤ m → Nice m d := by
  induction h with
  | int i => intro m _; exact .int i
  | non => intro m _; exact .non
  | tup h ih => intro m l; obtain ⟨m, rfl⟩ : ∃ m', m = m' + 1 := ⟨m - 1, by omega⟩; exact .tup fun x hx => ih x hx (by omega)
  | lst h ih => intro m l; obtain ⟨m, rfl⟩ : ∃ m', m = m' + 1 := ⟨m - 1, by omega⟩; exact .lst fun x hx => ih x hx (by omega)
theorem depthAll_le {k : Nat} {xs : List D} (h : ∀ x ∈ xs, x.py.depth ≤ k) : PyData.depthAll (pyL xs) ≤ k := by
  induction xs with
  | nil => simp [pyL, PyData.depthAll]
  | cons x xs ih =>
    simp only [pyL, PyData.depthAll]
    have h1 := h x (List.mem_cons_self ..)
    have h2 := ih fun y hy => h y (List.mem_cons_of_mem _ hy)
    omega
theorem canAll {xs : List D} (h : ∀ x ∈ xs, x.py.canLay0 = true) : PyData.canLayAll0 (pyL xs) = true := by
  induction xs with
  | nil => simp [pyL, PyData.canLayAll0]
  | cons x xs ih =>
    simp only [pyL, PyData.canLayAll0, Bool.and_eq_true]
    exact ⟨h x (List.mem_cons_self ..), ih fun y hy => h y (List.mem_cons_of_mem _ hy)⟩
theorem Nice.shp {k : Nat} {d : D} (h : Nice k d) : d.py.canLay0 = true ∧ d.py.depth ≤ k := by
  induction h with
  | int i => exact ⟨by simp [D.py, PyData.canLay0], by simp [D.py, PyData.depth]⟩
  | non => exact ⟨by simp [D.py, PyData.canLay0], by simp [D.py, PyData.depth]⟩
  | tup h ih =>
    refine ⟨?_, ?_⟩
    · simp only [D.py, PyData.canLay0]; exact canAll fun x hx => (ih x hx).1
    · simp only [D.py, PyData.depth]; exact Nat.succ_le_succ (depthAll_le fun x hx => (ih x hx).2)
  | lst h ih =>
    refine ⟨?_, ?_⟩
    · simp only [D.py, PyData.canLay0]; exact canAll fun x hx => (ih x hx).1
    · simp only [D.py, PyData.depth]; exact Nat.succ_le_succ (depthAll_le fun x hx => (ih x hx).2)
theorem Nice.ok {k : Nat} {d : D} (h : Nice k d) (hk : k ≤ 64) : okEq d = true := by
  obtain ⟨h1, h2⟩ := h.shp
  unfold okEq SeqAt.shaped
  rw [h1, Bool.true_and, decide_eq_true_eq]
  omega
theorem eqvAll_nice {xs : List D} : ∀ {ys : List D}, (∀ x ∈ xs, ∀ y : D, (∃ k, Nice k y) → (PyData.eqv x.py y.py = true ↔ x = y)) → (∀ y ∈ ys, ∃ k, Nice k y) → (PyData.eqvAll (pyL xs) (pyL ys) = true ↔ xs = ys) := by
  induction xs with
  | nil =>
    intro ys h hy
    cases ys with
    | nil => simp [pyL, PyData.eqvAll]
    | cons y ys => simp [pyL, PyData.eqvAll]
  | cons x xs ih =>
    intro ys h hy
    cases ys with
    | nil => simp [pyL, PyData.eqvAll]
    | cons y ys =>
      simp only [pyL, PyData.eqvAll, Bool.and_eq_true, List.cons.injEq]
      rw [h x (List.mem_cons_self ..) y (hy y (List.mem_cons_self ..)), ih (fun a ha => h a (List.mem_cons_of_mem _ ha)) (fun a ha => hy a (List.mem_cons_of_mem _ ha))]
theorem Nice.eqv {k : Nat} {d : D} (h : Nice k d) : ∀ {e : D} {m : Nat}, Nice m e → (PyData.eqv d.py e.py = true ↔ d = e) := by
  induction h with
  | int i => intro e m he; cases he <;> simp [D.py, PyData.eqv]
  | non => intro e m he; cases he <;> simp [D.py, PyData.eqv]
  | tup h ih =>
    intro e m he
    cases he with
    | tup h2 =>
      simp only [D.py, PyData.eqv, D.tup.injEq]
      exact eqvAll_nice (fun x hx y ⟨_, hy⟩ => ih x hx hy) fun y hy => ⟨_, h2 y hy⟩
    | _ => simp [D.py, PyData.eqv]
  | lst h ih =>
    intro e m he
    cases he with
    | lst h2 =>
      simp only [D.py, PyData.eqv, D.lst.injEq]
      exact eqvAll_nice (fun x hx y ⟨_, hy⟩ => ih x hx hy) fun y hy => ⟨_, h2 y hy⟩
    | _ => simp [D.py, PyData.eqv]
theorem eqv_dec {k m : Nat} {d e : D} (h : Nice k d) (h2 : Nice m e) : PyData.eqv d.py e.py = decide (d = e) := by
  rw [Bool.eq_iff_iff, h.eqv h2, decide_eq_true_eq]
theorem eqD_nice {k m : Nat} {d e : D} (h : Nice k d) (h2 : Nice m e) (hk : k ≤ 64) (hm : m ≤ 64) : eqD d e = some (decide (d = e)) := by
  unfold eqD
  rw [h.ok hk, h2.ok hm, eqv_dec h h2]
  rfl
theorem inSeq_nice {k m : Nat} {d : D} {ys : List D} (h : Nice k d) (h2 : ∀ y ∈ ys, Nice m y) (hk : k ≤ 64) (hm : m < 64) : inSeq d ys = some (decide (d ∈ ys)) := by
  unfold inSeq
  rw [h.ok hk, (Nice.lst h2).ok hm]
  simp only [Bool.and_self, if_true, Option.some.injEq]
  rw [Bool.eq_iff_iff, List.any_eq_true, decide_eq_true_eq]
  constructor
  · rintro ⟨y, hy, e⟩
    rw [(h2 y hy).eqv h] at e
    rw [← e]; exact hy
  · intro hd
    exact ⟨d, hd, ((h2 d hd).eqv h).mpr rfl⟩
@[simp] theorem eqD_int (i j : Int) : eqD (.int i) (.int j) = some (decide (i = j)) := by
  rw [eqD_nice (Nice.int (k := 0) i) (Nice.int (k := 0) j) (by omega) (by omega)]
  simp

/-! ### loops -/
theorem lcGo_flat {bnd : D → Option Env} {c : Env → Option D} {e : Env → Option (List D)} {p : D → Bool} {g : D → List D} : ∀ {xs : List D},
    (∀ x ∈ xs, ∃ env, bnd x = some env ∧ c env = some (.bl (p x)) ∧ (p x = true → e env = some (g x))) → lcGo bnd c e xs = some ((xs.filter p).flatMap g)
  | [], _ => rfl
  | x :: xs, h => by
    obtain ⟨env, h1, h2, h3⟩ := h x (List.mem_cons_self ..)
    have ih := lcGo_flat (xs := xs) fun y hy => h y (List.mem_cons_of_mem _ hy)
    unfold lcGo
    rw [h1, Option.bind_some, h2]
    cases hp : p x with
    | true =>
      simp only [h3 hp, Option.bind_some, ih, Option.map_some, List.filter_cons, hp, if_true, List.flatMap_cons]
    | false =>
      simp only [ih, List.filter_cons, hp, Bool.false_eq_true, if_false]
theorem lcGo_map {bnd : D → Option Env} {c : Env → Option D} {e : Env → Option (List D)} {f : D → D} {xs : List D}
    (h : ∀ x ∈ xs, ∃ env, bnd x = some env ∧ c env = some (.bl true) ∧ e env = some [f x]) : lcGo bnd c e xs = some (xs.map f) := by
  rw [lcGo_flat (p := fun _ => true) (g := fun x => [f x]) fun x hx => ?_]
  · congr 1
    rw [List.filter_eq_self.mpr (fun _ _ => rfl)]
    induction xs with
    | nil => rfl
    | cons x xs ih => rw [List.flatMap_cons, ih (fun y hy => h y (List.mem_cons_of_mem _ hy))]; rfl
  · obtain ⟨env, h1, h2, h3⟩ := h x hx
    exact ⟨env, h1, h2, fun _ => h3⟩
theorem lcGo_filt {bnd : D → Option Env} {c : Env → Option D} {e : Env → Option (List D)} {p : D → Bool} {f : D → D} {xs : List D}
    (h : ∀ x ∈ xs, ∃ env, bnd x = some env ∧ c env = some (.bl (p x)) ∧ (p x = true → e env = some [f x])) : lcGo bnd c e xs = some ((xs.filter p).map f) := by
  rw [lcGo_flat (p := p) (g := fun x => [f x]) h]
  congr 1
  induction xs.filter p with
  | nil => rfl
  | cons x xs ih => rw [List.flatMap_cons, ih]; rfl
/-- a loop whose body always goes on: R holds between a state and the names, step is a turn -/
theorem forGo_inv {σ : Type} {R : σ → FEnv → Prop} {step : σ → D → σ} {bnd : D → FEnv → Option FEnv} {body : FEnv → Option Out} : ∀ {xs : List D} {s : σ} {env : FEnv},
    (∀ x ∈ xs, ∀ s env, R s env → ∃ env1, bnd x env = some env1 ∧ ∃ e', (body env1 = some (.nx e') ∨ body env1 = some (.ct e')) ∧ R (step s x) e') → R s env →
      ∃ e', forGo bnd body xs env = some (.nx e') ∧ R (xs.foldl step s) e'
  | [], s, env, _, r => ⟨env, rfl, r⟩
  | x :: xs, s, env, h, r => by
    obtain ⟨env1, h1, e', h2, r'⟩ := h x (List.mem_cons_self ..) s env r
    obtain ⟨e2, h3, r2⟩ := forGo_inv (xs := xs) (fun y hy => h y (List.mem_cons_of_mem _ hy)) r'
    refine ⟨e2, ?_, r2⟩
    unfold forGo
    rw [h1, Option.bind_some]
    rcases h2 with h2 | h2 <;> rw [h2] <;> exact h3
/-- the same with the state not told: an invariant -/
theorem forGo_keep {R : FEnv → Prop} {bnd : D → FEnv → Option FEnv} {body : FEnv → Option Out} {xs : List D} {env : FEnv}
    (h : ∀ x ∈ xs, ∀ env, R env → ∃ env1, bnd x env = some env1 ∧ ∃ e', (body env1 = some (.nx e') ∨ body env1 = some (.ct e')) ∧ R e') (r : R env) :
      ∃ e', forGo bnd body xs env = some (.nx e') ∧ R e' := by
  obtain ⟨e', h1, h2⟩ := forGo_inv (σ := Unit) (R := fun _ e => R e) (step := fun _ _ => ()) (s := ()) (fun x hx _ env r => h x hx env r) r
  exact ⟨e', h1, h2⟩
/-- with the place: at the i-th turn from below -/
theorem forGo_at {P : Nat → FEnv → Prop} {bnd : D → FEnv → Option FEnv} {body : FEnv → Option Out} : ∀ {xs : List D} {i : Nat} {env : FEnv},
    (∀ j x, xs[j]? = some x → ∀ env, P (i + j) env → ∃ env1, bnd x env = some env1 ∧ ∃ e', (body env1 = some (.nx e') ∨ body env1 = some (.ct e')) ∧ P (i + j + 1) e') → P i env →
      ∃ e', forGo bnd body xs env = some (.nx e') ∧ P (i + xs.length) e'
  | [], i, env, _, r => ⟨env, rfl, r⟩
  | x :: xs, i, env, h, r => by
    obtain ⟨env1, h1, e', h2, r'⟩ := h 0 x rfl env r
    obtain ⟨e2, h3, r2⟩ := forGo_at (P := P) (xs := xs) (i := i + 1) (fun j y hy env r => by
      have := h (j + 1) y hy env (by rw [show i + (j + 1) = i + 1 + j by omega]; exact r)
      rw [show i + (j + 1) + 1 = i + 1 + j + 1 by omega] at this
      exact this) r'
    refine ⟨e2, ?_, by rw [show i + (x :: xs).length = i + 1 + xs.length by simp; omega]; exact r2⟩
    unfold forGo
    rw [h1, Option.bind_some]
    rcases h2 with h2 | h2 <;> rw [h2] <;> exact h3
theorem fns_succ {tb : List Fn} {n i : Nat} {fn : Fn} {ds : List D} (h : tb[i]? = some fn) (hi : fn.init = none := by rfl) : fns tb (n + 1) i ds = runFn (fns tb n) fn ds := by
  cases n with
  | zero => simp only [fns, h, hi]; rfl
  | succ n => simp only [fns, h, hi]; rfl
theorem fns_new {tb : List Fn} {n i : Nat} {fn : Fn} {c : Str} {ds : List D} (h : tb[i]? = some fn) (hi : fn.init = some c := by rfl) : fns tb (n + 2) i ds = runFn (fns tb n) fn ds := by
  simp only [fns, h, hi]; rfl
theorem mem_range {a b : Int} {x : D} : x ∈ rangeD a b ↔ ∃ i : Int, x = .int i ∧ a ≤ i ∧ i < b := by
  unfold rangeD
  rw [List.mem_map]
  constructor
  · rintro ⟨j, hj, rfl⟩
    rw [List.mem_range] at hj
    exact ⟨_, rfl, by omega, by omega⟩
  · rintro ⟨i, rfl, h1, h2⟩
    exact ⟨(i - a).toNat, by rw [List.mem_range]; omega, by congr 1; omega⟩
theorem range_len {a b : Int} : (rangeD a b).length = (b - a).toNat := by simp [rangeD]
/-! ### what the operators ask -/
theorem log2_small {n : Nat} (h : n < 2 ^ 64) : n.log2 < 64 := by
  by_cases h0 : n = 0
  · subst h0; decide
  · exact (Nat.log2_lt h0).mpr h
theorem divOk_of {j : Int} (h : 0 < j) (hb : j < 2 ^ 64) : divOk j = true := by
  unfold divOk
  have := log2_small (n := j.natAbs) (by omega)
  have h2 : decide (j.natAbs.log2 < 9000) = true := decide_eq_true (by omega)
  rw [decide_eq_true h, h2]
  rfl
theorem mulOk_l {i j : Int} (h : -(2 ^ 64) < i) (h2 : i < 2 ^ 64) : mulOk i j = true := by
  unfold mulOk
  have : decide (i.natAbs < 18446744073709551616) = true := decide_eq_true (by omega)
  rw [this]; rfl
theorem mulOk_r {i j : Int} (h : -(2 ^ 64) < j) (h2 : j < 2 ^ 64) : mulOk i j = true := by
  unfold mulOk
  have : decide (j.natAbs < 18446744073709551616) = true := decide_eq_true (by omega)
  rw [this]; simp
theorem fdiv_pos {i j : Int} (h : 0 < j) : i.fdiv j = i / j := Int.fdiv_eq_ediv_of_nonneg _ (by omega)
theorem emod_small {a n : Int} (h : 0 < n) : 0 ≤ a % n ∧ a % n < n := ⟨Int.emod_nonneg _ (by omega), Int.emod_lt_of_pos _ h⟩
theorem idxL_nat {α : Type} {xs : List α} {i : Nat} (h : i < xs.length) : idxL xs (i : Int) = some xs[i] := by
  unfold idxL ixN
  rw [if_pos (by omega), if_pos (by omega)]
  simp
theorem idxL_int {α : Type} {xs : List α} {i : Int} (h : 0 ≤ i) (h2 : i < xs.length) : idxL xs i = some (xs[i.toNat]'(by omega)) := by
  obtain ⟨k, rfl⟩ : ∃ k : Nat, i = k := ⟨i.toNat, by omega⟩
  simp only [Int.toNat_natCast]
  exact idxL_nat (by omega)
theorem whGo_t {c : FEnv → Option D} {body : FEnv → Option Out} {n : Nat} {env e : FEnv} (hc : c env = some (.bl true)) (hb : body env = some (.nx e)) : whGo c body (n + 1) env = whGo c body n e := by
  conv => lhs; unfold whGo
  rw [hc, hb]
theorem whGo_f {c : FEnv → Option D} {body : FEnv → Option Out} {n : Nat} {env : FEnv} (hc : c env = some (.bl false)) : whGo c body (n + 1) env = some (.nx env) := by
  conv => lhs; unfold whGo
  rw [hc]
/-! ### the loops' and the comprehensions' heads -/
section
variable {Φ : Fns} {t t' : T} {it it' a a' e c : E} {b : S} {env : FEnv} {en : Env} {d : D} {xs : List D}
theorem for_rng1 {n : Int} (h : ev Φ a (shw env) = some (.int n)) (hr : rgOk n = true) : evS Φ (.for_ t (.rng1 a) b) env = forGo (fun x env => bindF t x env) (fun env => evS Φ b env) (rangeD 0 n) env := by
  simp [evS, ev, h, hr, asSeq]
theorem for_rng2 {m n : Int} (h : ev Φ a (shw env) = some (.int m)) (h' : ev Φ a' (shw env) = some (.int n)) (hr : rgOk m = true) (hr' : rgOk n = true) : evS Φ (.for_ t (.rng2 a a') b) env = forGo (fun x env => bindF t x env) (fun env => evS Φ b env) (rangeD m n) env := by
  simp [evS, ev, h, h', hr, hr', asSeq]
theorem for_var {i : Nat} (h : ev Φ (.var i) (hid env) = some d) (hs : asSeq d = some xs) : evS Φ (.for_ t (.var i) b) env = forGo (fun x env => bindF t x env) (fun env => evS Φ b env) xs env := by
  simp only [evS, h, Option.bind_some, hs]
theorem for_tup (h : ev Φ (.tup a) (hid env) = some d) (hs : asSeq d = some xs) : evS Φ (.for_ t (.tup a) b) env = forGo (fun x env => bindF t x env) (fun env => evS Φ b env) xs env := by
  simp only [evS, h, Option.bind_some, hs]
theorem for_call {f : Nat} (h : ev Φ (.call f a) (hid env) = some d) (hs : asSeq d = some xs) : evS Φ (.for_ t (.call f a) b) env = forGo (fun x env => bindF t x env) (fun env => evS Φ b env) xs env := by
  simp only [evS, h, Option.bind_some, hs]
theorem for_zip (h : ev Φ (.zip a a') (hid env) = some d) (hs : asSeq d = some xs) : evS Φ (.for_ t (.zip a a') b) env = forGo (fun x env => bindF t x env) (fun env => evS Φ b env) xs env := by
  simp only [evS, h, Option.bind_some, hs]
theorem for_enu (h : ev Φ (.enu a) (hid env) = some d) (hs : asSeq d = some xs) : evS Φ (.for_ t (.enu a) b) env = forGo (fun x env => bindF t x env) (fun env => evS Φ b env) xs env := by
  simp only [evS, h, Option.bind_some, hs]
theorem limL_of (h : xs.length ≤ LIM) : limL xs = some (.lst xs) := if_pos h
theorem lc_filt {p : D → Bool} {f : D → D} (h1 : ev Φ it en = some d) (h2 : asSeq d = some xs) (h3 : ∀ x ∈ xs, ∃ en', bindT t x (wipeE en t.slots) = some en' ∧ ev Φ c en' = some (.bl (p x)) ∧ (p x = true → ev Φ e en' = some (f x))) (h4 : xs.length ≤ LIM) :
    ev Φ (.lc t it c e) en = some (.lst ((xs.filter p).map f)) := by
  simp only [ev, h1, Option.bind_some, h2]
  rw [lcGo_filt (p := p) (f := f) fun x hx => ?_]
  · rw [Option.bind_some, limL_of]
    rw [List.length_map]
    exact Nat.le_trans (List.length_filter_le ..) h4
  · obtain ⟨en', e1, e2, e3⟩ := h3 x hx
    exact ⟨en', e1, e2, fun hp => by rw [e3 hp]; rfl⟩
theorem lc_map {f : D → D} (h1 : ev Φ it en = some d) (h2 : asSeq d = some xs) (h3 : ∀ x ∈ xs, ∃ en', bindT t x (wipeE en t.slots) = some en' ∧ ev Φ e en' = some (f x)) (h4 : xs.length ≤ LIM) :
    ev Φ (.lc t it (.bl true) e) en = some (.lst (xs.map f)) := by
  rw [lc_filt (p := fun _ => true) (f := f) h1 h2 (fun x hx => ?_) h4]
  · rw [List.filter_eq_self.mpr (fun _ _ => rfl)]
  · obtain ⟨en', e1, e2⟩ := h3 x hx
    exact ⟨en', e1, by simp [ev], fun _ => e2⟩
theorem lc2_all {g : D → List D} {f : D → D → D} (h1 : ev Φ it en = some d) (h2 : asSeq d = some xs)
    (h3 : ∀ x ∈ xs, ∃ en' d', bindT t x (wipeE en (t.slots ++ t'.slots)) = some en' ∧ ev Φ it' en' = some d' ∧ asSeq d' = some (g x) ∧ ∀ y ∈ g x, ∃ e2, bindT t' y (wipeE en' t'.slots) = some e2 ∧ ev Φ e e2 = some (f x y))
    (h4 : (xs.flatMap fun x => (g x).map (f x)).length ≤ LIM) :
    ev Φ (.lc2 t it (.bl true) t' it' (.bl true) e) en = some (.lst (xs.flatMap fun x => (g x).map (f x))) := by
  simp only [ev, h1, Option.bind_some, h2]
  rw [lcGo_flat (p := fun _ => true) (g := fun x => (g x).map (f x)) fun x hx => ?_]
  · rw [Option.bind_some, List.filter_eq_self.mpr (fun _ _ => rfl), limL_of h4]
  · obtain ⟨en', d', e1, e2, e3, e4⟩ := h3 x hx
    refine ⟨en', e1, rfl, fun _ => ?_⟩
    simp only [e2, Option.bind_some, e3]
    refine lcGo_map fun y hy => ?_
    obtain ⟨e5, q1, q2⟩ := e4 y hy
    exact ⟨e5, q1, rfl, by rw [q2]; rfl⟩
end
section
variable {Φ : Fns} {t : T} {a a' it : E} {b : S} {env : FEnv}
/-- a loop over range(n): P i holds ahead of the i-th turn -/
theorem at_rng {P : Nat → FEnv → Prop} {n : Int} (h : ev Φ a (shw env) = some (.int n)) (hr : rgOk n = true) (init : P 0 env)
    (step : ∀ j : Nat, (j : Int) < n → ∀ e, P j e → ∃ e1, bindF t (.int j) e = some e1 ∧ ∃ e', (evS Φ b e1 = some (.nx e') ∨ evS Φ b e1 = some (.ct e')) ∧ P (j + 1) e') :
    ∃ e', evS Φ (.for_ t (.rng1 a) b) env = some (.nx e') ∧ P n.toNat e' := by
  rw [for_rng1 h hr]
  have k := forGo_at (P := P) (xs := rangeD 0 n) (i := 0) (env := env) (bnd := fun x env => bindF t x env) (body := fun env => evS Φ b env) (fun j x hx e pe => ?_) init
  · rw [range_len] at k
    simpa using k
  · obtain ⟨hj, rfl⟩ := List.getElem?_eq_some_iff.mp hx
    rw [range_len] at hj
    have ex : (rangeD 0 n)[j] = D.int j := by simp [rangeD]
    rw [Nat.zero_add] at pe ⊢
    obtain ⟨e1, h1, e', h2, h3⟩ := step j (by omega) e pe
    rw [ex]
    exact ⟨e1, h1, e', h2, h3⟩
/-- a loop over a list of data -/
theorem at_var {P : Nat → FEnv → Prop} {i : Nat} {d : D} {xs : List D} (h : ev Φ (.var i) (hid env) = some d) (hs : asSeq d = some xs) (init : P 0 env)
    (step : ∀ (j : Nat) (x : D), xs[j]? = some x → ∀ e, P j e → ∃ e1, bindF t x e = some e1 ∧ ∃ e', (evS Φ b e1 = some (.nx e') ∨ evS Φ b e1 = some (.ct e')) ∧ P (j + 1) e') :
    ∃ e', evS Φ (.for_ t (.var i) b) env = some (.nx e') ∧ P xs.length e' := by
  rw [for_var h hs]
  have k := forGo_at (P := P) (xs := xs) (i := 0) (env := env) (bnd := fun x env => bindF t x env) (body := fun env => evS Φ b env) (fun j x hx e pe => ?_) init
  · simpa using k
  · rw [Nat.zero_add] at pe ⊢
    exact step j x hx e pe
/-- the same by a fold: R between a state and the names -/
theorem fo_var {σ : Type} {R : σ → FEnv → Prop} {f : σ → D → σ} {s : σ} {i : Nat} {d : D} {xs : List D} (h : ev Φ (.var i) (hid env) = some d) (hs : asSeq d = some xs) (init : R s env)
    (step : ∀ x ∈ xs, ∀ s e, R s e → ∃ e1, bindF t x e = some e1 ∧ ∃ e', (evS Φ b e1 = some (.nx e') ∨ evS Φ b e1 = some (.ct e')) ∧ R (f s x) e') :
    ∃ e', evS Φ (.for_ t (.var i) b) env = some (.nx e') ∧ R (xs.foldl f s) e' := by
  rw [for_var h hs]
  exact forGo_inv step init
end
section
variable {Φ : Fns} {a b : S} {c : E} {env e : FEnv} {o : Out}
theorem seq_nx (h : evS Φ a env = some (.nx e)) : evS Φ (.seq a b) env = evS Φ b e := by simp only [evS, h, Option.bind_some]
theorem iff_t (h : ev Φ c (shw env) = some (.bl true)) : evS Φ (.iff c a b) env = evS Φ a env := by simp only [evS, h]
theorem iff_f (h : ev Φ c (shw env) = some (.bl false)) : evS Φ (.iff c a b) env = evS Φ b env := by simp only [evS, h]
theorem asg_of {i : Nat} {x : E} {m : Md} {d : D} (h : ev Φ x (seen m env) = some d) (k : keepD m d = true) : evS Φ (.asg i x m) env = some (.nx (env.set i (some (m.own, d)))) := by
  simp only [evS, evM, h, Option.bind_some, k, if_true, Option.map_some]
theorem ret_of {x : E} {m : Md} {d : D} (h : ev Φ x (seen m env) = some d) (k : keepD m d = true) : evS Φ (.ret x m) env = some (.rt m.own d) := by
  simp only [evS, evM, h, Option.bind_some, k, if_true, Option.map_some]
end
/-- a loop that may leave by a return -/
theorem forGo_some {R : FEnv → Prop} {q : D → Option D} {o : Bool} {bnd : D → FEnv → Option FEnv} {body : FEnv → Option Out} : ∀ {xs : List D} {env : FEnv},
    (∀ x ∈ xs, ∀ env, R env → ∃ env1, bnd x env = some env1 ∧ (match q x with
      | some d => body env1 = some (.rt o d)
      | none => ∃ e', (body env1 = some (.nx e') ∨ body env1 = some (.ct e')) ∧ R e')) → R env →
    (match xs.findSome? q with
      | some d => forGo bnd body xs env = some (.rt o d)
      | none => ∃ e', forGo bnd body xs env = some (.nx e') ∧ R e')
  | [], env, _, r => ⟨env, rfl, r⟩
  | x :: xs, env, h, r => by
    obtain ⟨env1, h1, h2⟩ := h x (List.mem_cons_self ..) env r
    rw [List.findSome?_cons]
    cases hq : q x with
    | some d =>
      rw [hq] at h2
      simp only [forGo, h1, Option.bind_some, h2]
    | none =>
      rw [hq] at h2
      obtain ⟨e', h3, r'⟩ := h2
      have ih := forGo_some (xs := xs) (fun y hy => h y (List.mem_cons_of_mem _ hy)) r'
      have e : forGo bnd body (x :: xs) env = forGo bnd body xs e' := by
        conv => lhs; unfold forGo
        rw [h1, Option.bind_some]
        rcases h3 with h3 | h3 <;> rw [h3]
      rw [e]
      exact ih
/-! ### each once -/
noncomputable def dd1 (acc : List D) (x : D) : List D := if x ∈ acc then acc else acc ++ [x]
noncomputable def dd (xs : List D) : List D := xs.foldl dd1 []
theorem dd_snoc {xs : List D} {x : D} : dd (xs ++ [x]) = dd1 (dd xs) x := by simp [dd, List.foldl_append]
theorem mem_dd1 {acc : List D} {x y : D} : y ∈ dd1 acc x ↔ y ∈ acc ∨ y = x := by
  unfold dd1
  split
  · rename_i h
    exact ⟨.inl, fun k => k.elim id fun e => e ▸ h⟩
  · simp
theorem mem_foldl_dd {xs : List D} : ∀ {acc : List D} {y : D}, y ∈ xs.foldl dd1 acc ↔ y ∈ acc ∨ y ∈ xs := by
  induction xs with
  | nil => intro acc y; simp
  | cons x xs ih => intro acc y; rw [List.foldl_cons, ih, mem_dd1, List.mem_cons, or_assoc]
theorem mem_dd {xs : List D} {y : D} : y ∈ dd xs ↔ y ∈ xs := by
  unfold dd
  rw [mem_foldl_dd]
  simp
theorem foldl_dd_len {xs : List D} : ∀ {acc : List D}, (xs.foldl dd1 acc).length ≤ acc.length + xs.length := by
  induction xs with
  | nil => intro acc; simp
  | cons x xs ih =>
    intro acc
    rw [List.foldl_cons]
    have h1 : (dd1 acc x).length ≤ acc.length + 1 := by unfold dd1; split <;> simp
    have h2 := ih (acc := dd1 acc x)
    simp only [List.length_cons]
    omega
theorem dd_len {xs : List D} : (dd xs).length ≤ xs.length := by
  have := foldl_dd_len (xs := xs) (acc := [])
  simpa [dd] using this
theorem foldl_dd_in {xs acc : List D} (h : ∀ x ∈ xs, x ∈ acc) : xs.foldl dd1 acc = acc := by
  induction xs with
  | nil => rfl
  | cons x xs ih =>
    rw [List.foldl_cons]
    have : dd1 acc x = acc := if_pos (h x (List.mem_cons_self ..))
    rw [this]
    exact ih fun y hy => h y (List.mem_cons_of_mem _ hy)
theorem snocRec {P : List D → Prop} (h0 : P []) (h1 : ∀ xs x, P xs → P (xs ++ [x])) (xs : List D) : P xs := by
  have : P xs.reverse.reverse := by
    induction xs.reverse with
    | nil => exact h0
    | cons x ys ih => rw [List.reverse_cons]; exact h1 _ _ ih
  rwa [List.reverse_reverse] at this
theorem dd_flatMap {g : D → List D} (xs : List D) : dd ((dd xs).flatMap g) = dd (xs.flatMap g) := by
  induction xs using snocRec with
  | h0 => rfl
  | h1 xs x ih =>
    rw [dd_snoc, List.flatMap_append]
    have e : dd (xs.flatMap g ++ [x].flatMap g) = (g x).foldl dd1 (dd (xs.flatMap g)) := by
      simp [dd, List.foldl_append]
    rw [e]
    by_cases h : x ∈ dd xs
    · have : dd1 (dd xs) x = dd xs := if_pos h
      rw [this, ih, foldl_dd_in]
      intro y hy
      rw [mem_dd]
      exact List.mem_flatMap.mpr ⟨x, mem_dd.mp h, hy⟩
    · have : dd1 (dd xs) x = dd xs ++ [x] := if_neg h
      rw [this, List.flatMap_append, ← ih]
      simp [dd, List.foldl_append]
theorem dd_one {x : D} : dd [x] = [x] := by simp [dd, dd1]
/-! ### places -/
def nth (xs : List D) : D → D
  | .int j => xs.getD j.toNat .non
  | _ => .non
theorem nth_nat {xs : List D} {j : Nat} : nth xs (.int j) = xs.getD j .non := by simp [nth]
theorem idx_nth {xs : List D} {i : Int} (h : 0 ≤ i) (h2 : i < xs.length) : idxL xs i = some (nth xs (.int i)) := by
  rw [idxL_int h h2]
  simp only [nth]
  rw [List.getD_eq_getElem?_getD, List.getElem?_eq_getElem (by omega)]
  rfl
theorem nth_mem {xs : List D} {i : Int} (h : 0 ≤ i) (h2 : i < xs.length) : nth xs (.int i) ∈ xs := by
  simp only [nth]
  rw [List.getD_eq_getElem?_getD, List.getElem?_eq_getElem (by omega)]
  exact List.getElem_mem _
theorem range_nth {xs : List D} {a : Nat} {β : Type} {g : D → β} : (rangeD a xs.length).map (fun t => g (nth xs t)) = (xs.drop a).map g := by
  refine List.ext_getElem (by simp [range_len]) fun i h1 h2 => ?_
  simp only [List.length_map, range_len, List.length_drop] at h1 h2
  simp only [List.getElem_map, List.getElem_drop, rangeD]
  congr 1
  simp only [List.getElem_range]
  have : (a : Int) + (i : Int) = ((a + i : Nat) : Int) := by omega
  rw [this, nth_nat, List.getD_eq_getElem?_getD, List.getElem?_eq_getElem (by omega)]
  rfl
theorem range0_nth {xs : List D} {β : Type} {g : D → β} : (rangeD 0 xs.length).map (fun t => g (nth xs t)) = xs.map g := by
  have := range_nth (xs := xs) (a := 0) (g := g)
  simpa using this
def eIx : D → Nat
  | .tup [.int i, _] => i.toNat
  | _ => 0
def eIt : D → D
  | .tup [_, x] => x
  | _ => .non
theorem enumD_eq {xs : List D} : ∀ {k : Nat}, enumD k xs = (List.range xs.length).map fun i => .tup [.int ((k + i : Nat) : Int), xs.getD i .non] := by
  induction xs with
  | nil => intro k; rfl
  | cons x xs ih =>
    intro k
    rw [enumD, ih, List.length_cons, List.range_succ_eq_map, List.map_cons, List.map_map]
    simp only [Nat.add_zero, List.getD_cons_zero, List.cons.injEq, true_and]
    refine List.map_congr_left fun i _ => ?_
    simp only [Function.comp, List.getD_cons_succ]
    rw [show k + 1 + i = k + i.succ by omega]
theorem ev_rng1 {Φ : Fns} {a : E} {en : Env} {n : Int} (h : ev Φ a en = some (.int n)) (hr : rgOk n = true) : ev Φ (.rng1 a) en = some (.lst (rangeD 0 n)) := by
  simp only [ev, h, Option.bind_some, hr, if_true]
theorem ev_rng2 {Φ : Fns} {a a' : E} {en : Env} {m n : Int} (h : ev Φ a en = some (.int m)) (h' : ev Φ a' en = some (.int n)) (hr : rgOk m = true) (hr' : rgOk n = true) : ev Φ (.rng2 a a') en = some (.lst (rangeD m n)) := by
  simp only [ev, h, h', Option.bind_some, hr, hr', Bool.and_self, if_true]
theorem rgOk_sm {n : Int} (h : -1000000 ≤ n) (h2 : n ≤ 1000000) : rgOk n = true := by
  unfold rgOk
  rw [decide_eq_true (show -1000000000 ≤ n by omega), decide_eq_true (show n ≤ 1000000000 by omega)]
  rfl
end PyD

namespace PyD
open Lean.Grind

class Pr (p : Nat) : Prop where
  mem : p = 2 ∨ p = 3 ∨ p = 5 ∨ p = 7 ∨ p = 11
theorem Pr.pos (p : Nat) [h : Pr p] : 0 < p := by rcases h.mem with h | h | h | h | h <;> omega
theorem Pr.two (p : Nat) [h : Pr p] : 1 < p := by rcases h.mem with h | h | h | h | h <;> omega
theorem Pr.le (p : Nat) [h : Pr p] : p ≤ 11 := by rcases h.mem with h | h | h | h | h <;> omega
instance (p : Nat) [Pr p] : NeZero p := ⟨by have := Pr.pos p; omega⟩
/-- the residues -/
def Z (p : Nat) : Type := Fin p
namespace Z
def v {p : Nat} (x : Z p) : Nat := Fin.val x
variable {p : Nat} [Pr p]
instance : CommRing (Z p) := inferInstanceAs (CommRing (Fin p))
theorem v_lt (x : Z p) : x.v < p := Fin.isLt x
theorem ext {x y : Z p} (h : x.v = y.v) : x = y := Fin.ext h
def mk (p : Nat) [Pr p] (n : Nat) : Z p := ⟨n % p, Nat.mod_lt _ (Pr.pos p)⟩
theorem v_mk (n : Nat) : (mk p n).v = n % p := rfl
theorem v_add (x y : Z p) : (x + y).v = (x.v + y.v) % p := Fin.val_add x y
theorem v_mul (x y : Z p) : (x * y).v = (x.v * y.v) % p := Fin.val_mul x y
theorem v_neg (x : Z p) : (-x).v = (p - x.v) % p := rfl
theorem v_zero : (0 : Z p).v = 0 := by
  show 0 % p = 0
  exact Nat.zero_mod _
theorem v_one : (1 : Z p).v = 1 := by
  show 1 % p = 1
  exact Nat.mod_eq_of_lt (Pr.two p)
theorem vi_add (x y : Z p) : ((x + y).v : Int) = ((x.v : Int) + (y.v : Int)) % (p : Int) := by
  rw [v_add]; simp
theorem vi_mul (x y : Z p) : ((x * y).v : Int) = ((x.v : Int) * (y.v : Int)) % (p : Int) := by
  rw [v_mul]; simp
theorem vi_neg (x : Z p) : ((-x).v : Int) = ((p : Int) - (x.v : Int)) % (p : Int) := by
  have := v_lt x
  rw [v_neg, Int.natCast_emod, Int.natCast_sub (by omega)]
def ofI (p : Nat) [Pr p] (i : Int) : Z p := mk p (i % p).toNat
theorem v_ofI (i : Int) : ((ofI p i).v : Int) = i % p := by
  have := Pr.pos p
  have h0 := Int.emod_nonneg i (b := p) (by omega)
  have h1 := Int.emod_lt_of_pos i (b := p) (by omega)
  unfold ofI
  rw [v_mk, Nat.mod_eq_of_lt (by omega)]
  omega
theorem inv_ex (x : Z p) (h : x ≠ 0) : ∃ y : Z p, x * y = 1 := by
  have key : ∀ a : Fin p, a.val ≠ 0 → ∃ b : Fin p, (a.val * b.val) % p = 1 := by
    rcases ‹Pr p›.mem with e | e | e | e | e
    · clear h x; subst e; decide +revert
    · clear h x; subst e; decide +revert
    · clear h x; subst e; decide +revert
    · clear h x; subst e; decide +revert
    · clear h x; subst e; decide +revert
  obtain ⟨b, hb⟩ := key x (fun e => h (by apply ext; rw [v_zero]; exact e))
  refine ⟨b, ext ?_⟩
  refine Eq.trans (v_mul x b) ?_
  rw [v_one]
  exact hb
noncomputable instance : DecidableEq (Z p) := fun _ _ => Classical.propDecidable _
open Classical in
noncomputable instance : Inv (Z p) := ⟨fun x => if h : x = 0 then 0 else choose (inv_ex x h)⟩
theorem mul_inv (x : Z p) (h : x ≠ 0) : x * x⁻¹ = 1 := by
  show x * (if h : x = 0 then 0 else Classical.choose (inv_ex x h)) = 1
  rw [dif_neg h]
  exact Classical.choose_spec (inv_ex x h)
noncomputable instance : Field (Z p) where
  div a b := a * b⁻¹
  zpow := ⟨fun a k => if 0 ≤ k then a ^ k.toNat else (a ^ (-k).toNat)⁻¹⟩
  div_eq_mul_inv _ _ := rfl
  zero_ne_one := by
    intro h
    have := congrArg v h
    rw [v_zero, v_one] at this
    omega
  inv_zero := by
    show (if h : (0 : Z p) = 0 then 0 else Classical.choose (inv_ex 0 h)) = 0
    rw [dif_pos rfl]
  mul_inv_cancel h := mul_inv _ h
  zpow_zero a := by
    show (if (0 : Int) ≤ 0 then a ^ (0 : Int).toNat else _) = 1
    rw [if_pos (by omega)]
    exact Semiring.pow_zero a
  zpow_succ a n := by
    show (if (0 : Int) ≤ n + 1 then a ^ (n + 1 : Int).toNat else _) = (if (0 : Int) ≤ n then a ^ (n : Int).toNat else _) * a
    rw [if_pos (by omega), if_pos (by omega)]
    exact Semiring.pow_succ a n
  zpow_neg a k := by
    show (if (0 : Int) ≤ -k then a ^ (-k).toNat else (a ^ (- -k).toNat)⁻¹) = (if (0 : Int) ≤ k then a ^ k.toNat else (a ^ (-k).toNat)⁻¹)⁻¹
    have i0 : (1 : Z p)⁻¹ = 1 := by
      have h := mul_inv (1 : Z p) (by
        intro h
        have := congrArg v h
        rw [v_zero, v_one] at this
        omega)
      rwa [Semiring.one_mul] at h
    have ii : ∀ x : Z p, x⁻¹⁻¹ = x := by
      intro x
      by_cases h : x = 0
      · subst h
        have : (0 : Z p)⁻¹ = 0 := by
          show (if h : (0 : Z p) = 0 then 0 else Classical.choose (inv_ex 0 h)) = 0
          rw [dif_pos rfl]
        rw [this, this]
      · have h1 := mul_inv x h
        have h2 : x⁻¹ ≠ 0 := by
          intro e
          rw [e, Semiring.mul_zero] at h1
          have := congrArg v h1
          rw [v_zero, v_one] at this
          omega
        have h3 := mul_inv _ h2
        calc x⁻¹⁻¹ = (x * x⁻¹) * x⁻¹⁻¹ := by rw [h1, Semiring.one_mul]
          _ = x * (x⁻¹ * x⁻¹⁻¹) := Semiring.mul_assoc ..
          _ = x := by rw [h3, Semiring.mul_one]
    by_cases h1 : k = 0
    · subst h1
      simp [i0, Semiring.pow_zero]
    · by_cases h2 : 0 ≤ k
      · rw [if_neg (by omega), if_pos h2, Int.neg_neg]
      · rw [if_pos (by omega), if_neg h2, ii]
end Z
/-- which field -/
inductive Fc | q | z (p : Nat) (h : Pr p)
namespace Fc
def K : Fc → Type
  | q => Rat
  | z p _ => Z p
noncomputable instance instF (F : Fc) : Field F.K := match F with
  | q => inferInstanceAs (Field Rat)
  | z p h => haveI := h; inferInstanceAs (Field (Z p))
noncomputable instance (F : Fc) : DecidableEq F.K := fun _ _ => Classical.propDecidable _
def p : Fc → Nat
  | q => 0
  | z p _ => p
/-- how large -/
def Ht (F : Fc) (h : Nat) (x : F.K) : Prop := match F, x with
  | q, x => (x : Rat).num.natAbs < 2 ^ h ∧ (x : Rat).den < 2 ^ h
  | z _ _, _ => True
theorem pow_le {a b : Nat} (h : a ≤ b) : 2 ^ a ≤ 2 ^ b := Nat.pow_le_pow_right (by omega) h
variable {F : Fc} {x y : F.K} {h k : Nat}
theorem Ht.up (hx : F.Ht h x) (l : h ≤ k) : F.Ht k x := by
  cases F with
  | z p i => trivial
  | q => exact ⟨Nat.lt_of_lt_of_le hx.1 (pow_le l), Nat.lt_of_lt_of_le hx.2 (pow_le l)⟩
theorem Ht.zero : F.Ht 1 (0 : F.K) := by
  cases F with
  | z p i => trivial
  | q => exact ⟨by decide, by decide⟩
theorem Ht.one : F.Ht 1 (1 : F.K) := by
  cases F with
  | z p i => trivial
  | q => exact ⟨by decide, by decide⟩
theorem Ht.neg (hx : F.Ht h x) : F.Ht h (-x) := by
  cases F with
  | z p i => trivial
  | q =>
    refine ⟨?_, ?_⟩
    · have e : ∀ z : Rat, (-z).num.natAbs = z.num.natAbs := fun z => by rw [Rat.neg_num, Int.natAbs_neg]
      exact Nat.lt_of_le_of_lt (Nat.le_of_eq (e x)) hx.1
    · exact hx.2
theorem bits_mul {a b : Nat} (ha : a < 2 ^ h) (hb : b < 2 ^ k) : a * b < 2 ^ (h + k) := by
  rw [Nat.pow_add]
  exact Nat.mul_lt_mul'' ha hb
theorem Ht_mk {a : Int} {b : Nat} (hb : b ≠ 0) (h1 : a.natAbs < 2 ^ h) (h2 : b < 2 ^ h) : Fc.q.Ht h (mkRat a b : Rat) := by
  refine ⟨?_, ?_⟩
  · show (mkRat a b).num.natAbs < _
    rw [Rat.num_mkRat, if_neg hb]
    have : (a / ((b.gcd a.natAbs : Nat) : Int)).natAbs ≤ a.natAbs := by
      have := Int.natAbs_ediv_le_natAbs a ((b.gcd a.natAbs : Nat) : Int)
      exact this
    omega
  · show (mkRat a b).den < _
    rw [Rat.den_mkRat, if_neg hb]
    have : b / b.gcd a.natAbs ≤ b := Nat.div_le_self ..
    omega
theorem Ht.mul (hx : F.Ht h x) (hy : F.Ht k y) : F.Ht (h + k) (x * y) := by
  cases F with
  | z p i => trivial
  | q =>
    have e : (x * y : Fc.q.K) = mkRat ((x : Rat).num * (y : Rat).num) ((x : Rat).den * (y : Rat).den) := Rat.mul_def' _ _
    rw [e]
    have d1 := (x : Rat).den_nz
    have d2 := (y : Rat).den_nz
    refine Ht_mk (Nat.mul_ne_zero d1 d2) ?_ (bits_mul hx.2 hy.2)
    rw [Int.natAbs_mul]
    exact bits_mul hx.1 hy.1
theorem Ht.add (hx : F.Ht h x) (hy : F.Ht k y) : F.Ht (h + k + 1) (x + y) := by
  cases F with
  | z p i => trivial
  | q =>
    have e : (x + y : Fc.q.K) = mkRat ((x : Rat).num * (y : Rat).den + (y : Rat).num * (x : Rat).den) ((x : Rat).den * (y : Rat).den) := Rat.add_def' _ _
    rw [e]
    have d1 := (x : Rat).den_nz
    have d2 := (y : Rat).den_nz
    have a1 := bits_mul hx.1 hy.2
    have a2 := bits_mul hy.1 hx.2
    have a3 := bits_mul hx.2 hy.2
    rw [Nat.add_comm k h] at a2
    have a4 : 2 ^ (h + k + 1) = 2 ^ (h + k) * 2 := Nat.pow_succ ..
    refine Ht_mk (Nat.mul_ne_zero d1 d2) ?_ (by omega)
    have := Int.natAbs_add_le ((x : Rat).num * (y : Rat).den) ((y : Rat).num * (x : Rat).den)
    rw [Int.natAbs_mul, Int.natAbs_mul, Int.natAbs_natCast, Int.natAbs_natCast] at this
    omega
theorem rat_inv_ht {x : Rat} (h1 : x.num.natAbs < 2 ^ h) (h2 : x.den < 2 ^ h) : (x⁻¹).num.natAbs < 2 ^ h ∧ (x⁻¹).den < 2 ^ h := by
  have a5 := x.den_pos
  refine ⟨?_, ?_⟩
  · rw [Rat.num_inv, Int.natAbs_mul, Int.natAbs_natCast]
    have : x.num.sign.natAbs ≤ 1 := by
      rw [Int.natAbs_sign]; split <;> omega
    have h3 := Nat.mul_le_mul_right x.den this
    omega
  · rw [Rat.den_inv]
    split <;> omega
theorem Ht.inv (hx : F.Ht h x) : F.Ht h x⁻¹ := by
  cases F with
  | z p i => trivial
  | q => exact rat_inv_ht hx.1 hx.2
end Fc
end PyD

/-! The numbers of a field as data. -/
namespace PyD
open PySem Lean.Grind

/-- a rational as data -/
def encQ (x : Rat) : D := .tup [.int x.num, .int x.den]
theorem encQ_inj {x y : Rat} (h : encQ x = encQ y) : x = y := by
  unfold encQ at h
  simp only [D.tup.injEq, List.cons.injEq, D.int.injEq, and_true] at h
  exact Rat.ext h.1 (by omega)
theorem gcd_pos {a d : Int} (h : d ≠ 0) : 0 < (Nat.gcd a.natAbs d.natAbs : Int) := by
  have : 0 < Nat.gcd a.natAbs d.natAbs := Nat.gcd_pos_of_pos_right _ (by omega)
  omega
theorem divInt_pos {a d : Int} (h : 0 < d) : encQ (Rat.divInt a d) = .tup [.int (a / (Nat.gcd a.natAbs d.natAbs : Nat)), .int (d / (Nat.gcd a.natAbs d.natAbs : Nat))] := by
  unfold encQ
  rw [Rat.num_divInt, Rat.den_divInt, if_neg (by omega), Int.sign_eq_one_of_pos h, Int.one_mul]
  have e : d.gcd a = Nat.gcd a.natAbs d.natAbs := by rw [Int.gcd_comm]; rfl
  rw [e]
  congr 4
  rw [Int.natCast_ediv]
  congr 1
  omega
theorem divInt_negg {a d : Int} (h : d < 0) : encQ (Rat.divInt a d) = .tup [.int (-a / (Nat.gcd a.natAbs d.natAbs : Nat)), .int (-d / (Nat.gcd a.natAbs d.natAbs : Nat))] := by
  rw [← Rat.neg_divInt_neg, divInt_pos (by omega), Int.natAbs_neg, Int.natAbs_neg]
theorem log2_le_of {n h : Nat} (l : n < 2 ^ h) : n.log2 ≤ h := by
  by_cases h0 : n = 0
  · subst h0; rw [Nat.log2_zero]; omega
  · exact Nat.le_of_lt ((Nat.log2_lt h0).mpr l)
theorem mulOk_bits {i j : Int} {h k : Nat} (hi : i.natAbs < 2 ^ h) (hj : j.natAbs < 2 ^ k) (l : h + k ≤ 900000) : mulOk i j = true := by
  unfold mulOk
  have h1 := log2_le_of hi
  have h2 := log2_le_of hj
  have : decide (i.natAbs.log2 + j.natAbs.log2 < 1000000) = true := decide_eq_true (by omega)
  rw [this, Bool.or_true]
theorem divOk_bits {j : Int} {h : Nat} (p : 0 < j) (hj : j.natAbs < 2 ^ h) (l : h < 9000) : divOk j = true := by
  unfold divOk
  have h2 := log2_le_of hj
  have h3 : decide (j.natAbs.log2 < 9000) = true := decide_eq_true (by omega)
  rw [decide_eq_true p, h3]; rfl
theorem divOk_neg1 : divOk (-1) = true := by decide
namespace Fc
def enc (F : Fc) (x : F.K) : D := match F, x with
  | q, x => encQ x
  | z _ _, x => .int (Z.v x : Int)
def ofI (F : Fc) (i : Int) : F.K := match F with
  | q => (i : Rat)
  | z p h => haveI := h; Z.ofI p i
/-- a number of the law, a fraction not in lowest terms -/
def Rep (F : Fc) (h : Nat) (d : D) (x : F.K) : Prop := match F, x with
  | q, x => ∃ n m : Int, d = .tup [.int n, .int m] ∧ m ≠ 0 ∧ Rat.divInt n m = x ∧ n.natAbs < 2 ^ h ∧ m.natAbs < 2 ^ h
  | z _ _, x => d = .int (Z.v x : Int)
variable {F : Fc} {x y : F.K} {h k : Nat} {c d : D}
theorem enc_inj (e : F.enc x = F.enc y) : x = y := by
  cases F with
  | q => exact encQ_inj e
  | z p i =>
    haveI := i
    have := D.int.inj e
    exact Z.ext (x := x) (y := y) (by omega)
theorem enc_nice : Nice 1 (F.enc x) := by
  cases F with
  | q =>
    refine .tup (k := 0) fun y hy => ?_
    simp only [List.mem_cons, List.not_mem_nil, or_false] at hy
    rcases hy with rfl | rfl <;> exact .int _
  | z p i => exact .int _
theorem enc_eq : (F.enc x = F.enc y) ↔ x = y := ⟨enc_inj, fun e => e ▸ rfl⟩
theorem eqD_enc : eqD (F.enc x) (F.enc y) = some (decide (x = y)) := by
  rw [eqD_nice enc_nice enc_nice (by omega) (by omega)]
  simp only [enc_eq]
theorem ofI_zero : F.ofI 0 = 0 := by
  cases F with
  | q => exact Rat.intCast_zero
  | z p i =>
    haveI := i
    refine Z.ext (x := Z.ofI p 0) (y := 0) ?_
    have := Z.v_ofI (p := p) 0
    rw [Z.v_zero]
    simp at this
    omega
theorem ofI_one : F.ofI 1 = 1 := by
  cases F with
  | q => exact Rat.intCast_one
  | z p i =>
    haveI := i
    refine Z.ext (x := Z.ofI p 1) (y := 1) ?_
    have := Z.v_ofI (p := p) 1
    have h2 := Pr.two p
    rw [Z.v_one]
    rw [Int.emod_eq_of_lt (by omega) (by omega)] at this
    omega
theorem Z.ofI_eq {p : Nat} [Pr p] {i : Int} {x : Z p} (e : i % p = (x.v : Int)) : Z.ofI p i = x := by
  refine Z.ext ?_
  have := Z.v_ofI (p := p) i
  omega
theorem ofI_neg1 : F.ofI (-1) = -1 := by
  cases F with
  | q => exact (Rat.intCast_neg 1).trans (congrArg (- ·) Rat.intCast_one)
  | z p i =>
    haveI := i
    refine Z.ofI_eq (x := (-1 : Z p)) ?_
    have e := Z.v_neg (p := p) 1
    rw [Z.v_one] at e
    have e2 : ((-1 : Z p).v : Int) = (((p - 1) % p : Nat) : Int) := congrArg _ e
    refine Eq.trans ?_ e2.symm
    clear e e2
    rcases i.mem with e | e | e | e | e <;> subst e <;> decide
theorem Rep.of_ht (hx : F.Ht h x) : F.Rep h (F.enc x) x := by
  cases F with
  | q => exact ⟨(x : Rat).num, ((x : Rat).den : Int), rfl, by have := (x : Rat).den_nz; omega, Rat.num_divInt_den x, hx.1, by rw [Int.natAbs_natCast]; exact hx.2⟩
  | z p i => rfl
theorem Rep.up (hx : F.Rep h d x) (l : h ≤ k) : F.Rep k d x := by
  cases F with
  | q =>
    obtain ⟨n, m, h1, h2, h3, h4, h5⟩ := hx
    exact ⟨n, m, h1, h2, h3, Nat.lt_of_lt_of_le h4 (pow_le l), Nat.lt_of_lt_of_le h5 (pow_le l)⟩
  | z p i => exact hx
theorem p_pos (p : Nat) (i : Pr p) : (0 : Int) < (Fc.z p i).p := by
  have := Pr.pos p
  show (0 : Int) < (p : Int)
  omega
end Fc
end PyD

/-! More rules: loops and comprehensions over what is mapped, two lists side by side. -/
namespace PyD
open PySem Lean.Grind
section
variable {Φ : Fns} {t t' : T} {it it' a a' e c : E} {b s : S} {env : FEnv} {en : Env} {d : D}
theorem for_attr {cs : List Str} {f : Str} {xs : List D} (h : ev Φ (.attr cs a f) (hid env) = some d) (hs : asSeq d = some xs) : evS Φ (.for_ t (.attr cs a f) b) env = forGo (fun x env => bindF t x env) (fun env => evS Φ b env) xs env := by
  simp only [evS, h, Option.bind_some, hs]
theorem at_go {α : Type} {P : Nat → FEnv → Prop} {ys : List α} {g : α → D} (h : evS Φ s env = forGo (fun x env => bindF t x env) (fun env => evS Φ b env) (ys.map g) env) (init : P 0 env)
    (step : ∀ (j : Nat) (y : α), ys[j]? = some y → ∀ e, P j e → ∃ e1, bindF t (g y) e = some e1 ∧ ∃ e', (evS Φ b e1 = some (.nx e') ∨ evS Φ b e1 = some (.ct e')) ∧ P (j + 1) e') :
    ∃ e', evS Φ s env = some (.nx e') ∧ P ys.length e' := by
  rw [h]
  have k := forGo_at (P := P) (xs := ys.map g) (i := 0) (env := env) (bnd := fun x env => bindF t x env) (body := fun env => evS Φ b env) (fun j x hx e pe => ?_) init
  · simpa using k
  · rw [Nat.zero_add] at pe ⊢
    rw [List.getElem?_map] at hx
    obtain ⟨y, hy, rfl⟩ := Option.map_eq_some_iff.mp hx
    exact step j y hy e pe
theorem lc_mp {α : Type} {ys : List α} {g f : α → D} (h1 : ev Φ it en = some d) (h2 : asSeq d = some (ys.map g)) (h3 : ∀ y ∈ ys, ∃ en', bindT t (g y) (wipeE en t.slots) = some en' ∧ ev Φ e en' = some (f y)) (h4 : ys.length ≤ LIM) :
    ev Φ (.lc t it (.bl true) e) en = some (.lst (ys.map f)) := by
  simp only [ev, h1, Option.bind_some, h2]
  have k : lcGo (fun x => bindT t x (wipeE en t.slots)) (fun env => some (D.bl true)) (fun env => (ev Φ e env).map fun y => [y]) (ys.map g) = some (ys.map f) := by
    clear h1 h2 h4
    induction ys with
    | nil => rfl
    | cons y ys ih =>
      obtain ⟨en', e1, e2⟩ := h3 y (List.mem_cons_self ..)
      rw [List.map_cons, lcGo, e1, Option.bind_some]
      simp only [e2, Option.map_some, Option.bind_some]
      rw [ih fun z hz => h3 z (List.mem_cons_of_mem _ hz)]
      rfl
  rw [k, Option.bind_some, limL_of (by rw [List.length_map]; exact h4)]
theorem lc_fm {α : Type} {ys : List α} {p : α → Bool} {g f : α → D} (h1 : ev Φ it en = some d) (h2 : asSeq d = some (ys.map g)) (h3 : ∀ y ∈ ys, ∃ en', bindT t (g y) (wipeE en t.slots) = some en' ∧ ev Φ c en' = some (.bl (p y)) ∧ (p y = true → ev Φ e en' = some (f y))) (h4 : ys.length ≤ LIM) :
    ev Φ (.lc t it c e) en = some (.lst ((ys.filter p).map f)) := by
  simp only [ev, h1, Option.bind_some, h2]
  have k : lcGo (fun x => bindT t x (wipeE en t.slots)) (fun env => ev Φ c env) (fun env => (ev Φ e env).map fun y => [y]) (ys.map g) = some ((ys.filter p).map f) := by
    clear h1 h2 h4
    induction ys with
    | nil => rfl
    | cons y ys ih =>
      obtain ⟨en', e1, e2, e3⟩ := h3 y (List.mem_cons_self ..)
      rw [List.map_cons, lcGo, e1, Option.bind_some, e2]
      have ih := ih fun z hz => h3 z (List.mem_cons_of_mem _ hz)
      cases hp : p y with
      | false => simp only [ih, List.filter_cons, hp, Bool.false_eq_true, if_false]
      | true => simp only [e3 hp, Option.map_some, Option.bind_some, ih, List.filter_cons, hp, if_true, List.map_cons, List.cons_append, List.nil_append]
  rw [k, Option.bind_some, limL_of (by rw [List.length_map]; exact Nat.le_trans (List.length_filter_le ..) h4)]
theorem lc2_mp {α β : Type} {ys : List α} {zs : α → List β} {g : α → D} {g' : β → D} {f : α → β → D} (h1 : ev Φ it en = some d) (h2 : asSeq d = some (ys.map g))
    (h3 : ∀ y ∈ ys, ∃ en' d', bindT t (g y) (wipeE en (t.slots ++ t'.slots)) = some en' ∧ ev Φ it' en' = some d' ∧ asSeq d' = some ((zs y).map g') ∧ ∀ z ∈ zs y, ∃ e2, bindT t' (g' z) (wipeE en' t'.slots) = some e2 ∧ ev Φ e e2 = some (f y z))
    (h4 : (ys.flatMap fun y => (zs y).map (f y)).length ≤ LIM) :
    ev Φ (.lc2 t it (.bl true) t' it' (.bl true) e) en = some (.lst (ys.flatMap fun y => (zs y).map (f y))) := by
  simp only [ev, h1, Option.bind_some, h2]
  have k : lcGo (fun x => bindT t x (wipeE en (t.slots ++ t'.slots))) (fun env => some (D.bl true)) (fun env => ((ev Φ it' env).bind asSeq).bind fun ys =>
        lcGo (fun x => bindT t' x (wipeE env t'.slots)) (fun env => some (D.bl true)) (fun env => (ev Φ e env).map fun y => [y]) ys) (ys.map g) = some (ys.flatMap fun y => (zs y).map (f y)) := by
    clear h1 h2 h4
    induction ys with
    | nil => rfl
    | cons y ys ih =>
      obtain ⟨en', d', e1, e2, e3, e4⟩ := h3 y (List.mem_cons_self ..)
      rw [List.map_cons, lcGo, e1, Option.bind_some]
      simp only [e2, Option.bind_some, e3]
      have k2 : lcGo (fun x => bindT t' x (wipeE en' t'.slots)) (fun env => some (D.bl true)) (fun env => (ev Φ e env).map fun y => [y]) ((zs y).map g') = some ((zs y).map (f y)) := by
        clear e2 e3
        generalize zs y = zz at e4
        induction zz with
        | nil => rfl
        | cons z zz ih2 =>
          obtain ⟨e5, q1, q2⟩ := e4 z (List.mem_cons_self ..)
          rw [List.map_cons, lcGo, q1, Option.bind_some]
          simp only [q2, Option.map_some, Option.bind_some]
          rw [ih2 fun z hz => e4 z (List.mem_cons_of_mem _ hz)]
          rfl
      rw [k2, Option.bind_some, ih fun z hz => h3 z (List.mem_cons_of_mem _ hz)]
      rfl
  rw [k, Option.bind_some, limL_of h4]
end
/-! ### two lists side by side -/
inductive All2 {α β : Type} (R : α → β → Prop) : List α → List β → Prop
  | nil : All2 R [] []
  | cons {a b as bs} : R a b → All2 R as bs → All2 R (a :: as) (b :: bs)
namespace All2
variable {α β γ δ : Type} {R : α → β → Prop} {as : List α} {bs : List β}
theorem len (h : All2 R as bs) : as.length = bs.length := by
  induction h with
  | nil => rfl
  | cons _ _ ih => simp only [List.length_cons, ih]
theorem app {as' : List α} {bs' : List β} (h : All2 R as bs) (h' : All2 R as' bs') : All2 R (as ++ as') (bs ++ bs') := by
  induction h with
  | nil => exact h'
  | cons a _ ih => exact .cons a ih
theorem one {a : α} {b : β} (h : R a b) : All2 R [a] [b] := .cons h .nil
theorem imp {S : α → β → Prop} (h : All2 R as bs) (f : ∀ a b, R a b → S a b) : All2 S as bs := by
  induction h with
  | nil => exact .nil
  | cons a _ ih => exact .cons (f _ _ a) ih
theorem get (h : All2 R as bs) : ∀ {i : Nat} {b : β}, bs[i]? = some b → ∃ a, as[i]? = some a ∧ R a b := by
  induction h with
  | nil => intro i b hb; simp at hb
  | cons r _ ih =>
    intro i b hb
    cases i with
    | zero => simp at hb; subst hb; exact ⟨_, rfl, r⟩
    | succ i => simp at hb; simpa using ih hb
theorem get' (h : All2 R as bs) : ∀ {i : Nat} {a : α}, as[i]? = some a → ∃ b, bs[i]? = some b ∧ R a b := by
  induction h with
  | nil => intro i b hb; simp at hb
  | cons r _ ih =>
    intro i b hb
    cases i with
    | zero => simp at hb; subst hb; exact ⟨_, rfl, r⟩
    | succ i => simp at hb; simpa using ih hb
theorem mapR {f : γ → α} {g : γ → β} {cs : List γ} (h : ∀ c ∈ cs, R (f c) (g c)) : All2 R (cs.map f) (cs.map g) := by
  induction cs with
  | nil => exact .nil
  | cons c cs ih => exact .cons (h c (List.mem_cons_self ..)) (ih fun x hx => h x (List.mem_cons_of_mem _ hx))
theorem mem (h : All2 R as bs) : ∀ {a : α}, a ∈ as → ∃ b ∈ bs, R a b := by
  induction h with
  | nil => intro a ha; simp at ha
  | cons r _ ih =>
    intro a ha
    rcases List.mem_cons.mp ha with rfl | ha
    · exact ⟨_, List.mem_cons_self .., r⟩
    · obtain ⟨b, hb, r'⟩ := ih ha
      exact ⟨b, List.mem_cons_of_mem _ hb, r'⟩
end All2
theorem foldl_take {α β : Type} {f : β → α → β} {s : β} {xs : List α} {j : Nat} {x : α} (h : xs[j]? = some x) : (xs.take (j + 1)).foldl f s = f ((xs.take j).foldl f s) x := by
  rw [List.take_succ, h]
  simp [List.foldl_append]
theorem map_take {α β : Type} {f : α → β} {xs : List α} {j : Nat} {x : α} (h : xs[j]? = some x) : (xs.take (j + 1)).map f = (xs.take j).map f ++ [f x] := by
  rw [List.take_succ, h]
  simp
theorem zipD_map {α β : Type} {f : α → D} {g : β → D} : ∀ {xs : List α} {ys : List β}, zipD (xs.map f) (ys.map g) = (xs.zip ys).map fun ab => .tup [f ab.1, g ab.2]
  | [], _ => by simp [zipD]
  | _ :: _, [] => by simp [zipD]
  | x :: xs, y :: ys => by simp [zipD, zipD_map (xs := xs) (ys := ys)]
theorem intsOf_map {α : Type} {f : α → Int} {xs : List α} : intsOf (xs.map fun x => D.int (f x)) = some (xs.map f) := by
  induction xs with
  | nil => rfl
  | cons x xs ih => simp [intsOf, ih]
/-! ### heights of sums and products -/
namespace Fc
variable {F : Fc}
theorem Ht.sum {α : Type} {f : α → F.K} {h : Nat} : ∀ {xs : List α} {s : F.K} {k : Nat}, (∀ x ∈ xs, F.Ht h (f x)) → F.Ht k s → F.Ht (k + xs.length * (h + 1)) (xs.foldl (fun t x => t + f x) s)
  | [], s, k, _, hs => by simpa using hs
  | x :: xs, s, k, hx, hs => by
    rw [List.foldl_cons]
    refine (Ht.sum (xs := xs) (fun y hy => hx y (List.mem_cons_of_mem _ hy)) (hs.add (hx x (List.mem_cons_self ..)))).up ?_
    rw [List.length_cons, Nat.add_mul]
    omega
theorem Ht.prod {α : Type} {f : α → F.K} {h : Nat} : ∀ {xs : List α} {s : F.K} {k : Nat}, (∀ x ∈ xs, F.Ht h (f x)) → F.Ht k s → F.Ht (k + xs.length * h) (xs.foldl (fun t x => t * f x) s)
  | [], s, k, _, hs => by simpa using hs
  | x :: xs, s, k, hx, hs => by
    rw [List.foldl_cons]
    refine (Ht.prod (xs := xs) (fun y hy => hx y (List.mem_cons_of_mem _ hy)) (hs.mul (hx x (List.mem_cons_self ..)))).up ?_
    rw [List.length_cons, Nat.add_mul]
    omega
theorem Ht.sub {x y : F.K} {h k : Nat} (hx : F.Ht h x) (hy : F.Ht k y) : F.Ht (h + k + 1) (x - y) := by
  rw [Ring.sub_eq_add_neg]
  exact hx.add hy.neg
end Fc
end PyD

/-! Rules for objects. -/
namespace PyD
open PySem Lean.Grind
section
variable {Φ : Fns} {env : FEnv} {en : Env} {cs : List Str} {a e : E} {c f : Str} {m : Md} {d : D} {fs fs' : List (Str × D)} {r : FEnv}
theorem attr_of (h : ev Φ a en = some (.obj c fs)) (hc : c ∈ cs) {v : D} (hf : List.lookup f fs = some v) : ev Φ (.attr cs a f) en = some v := by
  simp only [ev, h, Option.bind_some, attrD, if_pos hc, hf]
theorem fld_of (hl : fs.length < 1000) (h : ev Φ e (seen m (some (true, .obj c fs) :: r)) = some d) (hk : keepD m d = true) (hp : putD f d fs = fs') : evS Φ (.fld c f e m) (some (true, .obj c fs) :: r) = some (.nx (some (true, .obj c fs') :: r)) := by
  simp only [evS, evM, h, Option.bind_some, hk, if_true, Option.map_some]
  rw [← hp]
  simp [hl]
end
end PyD

/-! More that all laws share. -/
namespace PyD
open PySem Lean.Grind
theorem erase_map {α β : Type} {f : α → β} : ∀ {xs : List α} {k : Nat}, (xs.map f).eraseIdx k = (xs.eraseIdx k).map f
  | [], _ => rfl
  | _ :: _, 0 => rfl
  | x :: xs, k + 1 => by simp [erase_map (xs := xs) (k := k)]
theorem erase_perm {α : Type} : ∀ {xs : List α} {k : Nat} (h : k < xs.length), (xs[k] :: xs.eraseIdx k).Perm xs
  | [], _, h => absurd h (Nat.not_lt_zero _)
  | _ :: _, 0, _ => .refl _
  | x :: xs, k + 1, h => by
    simp only [List.getElem_cons_succ, List.eraseIdx_cons_succ]
    exact (List.Perm.swap ..).trans (.cons x (erase_perm (xs := xs) (k := k) (by simpa using h)))
theorem snoc_ind {α : Type} {P : List α → Prop} (h0 : P []) (h1 : ∀ xs x, P xs → P (xs ++ [x])) (xs : List α) : P xs := by
  have : P xs.reverse.reverse := by
    induction xs.reverse with
    | nil => exact h0
    | cons x ys ih => rw [List.reverse_cons]; exact h1 _ _ ih
  rwa [List.reverse_reverse] at this
theorem len_flatMap {α β : Type} {g : α → List β} {m : Nat} : ∀ {xs : List α}, (∀ x ∈ xs, (g x).length = m) → (xs.flatMap g).length = xs.length * m
  | [], _ => by simp
  | x :: xs, h => by
    rw [List.flatMap_cons, List.length_append, h x (List.mem_cons_self ..), len_flatMap fun y hy => h y (List.mem_cons_of_mem _ hy), List.length_cons, Nat.add_mul]
    omega
theorem runFn_args {Φ : Fns} {fn : Fn} {ds ds' : List D} (hi : fn.init = none) (ha : argsOf fn ds = some ds') : runFn Φ fn ds = outD fn.fr (evS Φ fn.body (startF fn ds')) := by
  simp only [runFn, hi, ha, Option.bind_some]
section
variable {F : Fc} {n : Nat}
theorem inSeq_enc {x : F.K} {xs : List F.K} : inSeq (F.enc x) (xs.map F.enc) = some (decide (x ∈ xs)) := by
  rw [inSeq_nice (m := 1) Fc.enc_nice (fun y hy => by obtain ⟨z, _, rfl⟩ := List.mem_map.mp hy; exact Fc.enc_nice) (by omega) (by omega)]
  congr 1
  rw [decide_eq_decide, List.mem_map]
  exact ⟨fun ⟨z, hz, e⟩ => Fc.enc_inj e ▸ hz, fun h => ⟨x, h, rfl⟩⟩
def encL (F : Fc) (ls : List (List F.K)) : List D := ls.map fun xs => D.lst (xs.map F.enc)
def prodlen {α : Type} (ls : List (List α)) : Nat := ls.foldl (fun s xs => s * xs.length) 1
/-- the lists of a grid -/
def GridOk (F : Fc) (ls : List (List F.K)) : Prop := 1 ≤ ls.length ∧ ls.length ≤ 6 ∧ (∀ xs ∈ ls, xs.Nodup ∧ 1 ≤ xs.length ∧ xs.length ≤ 12) ∧ prodlen ls ≤ 64
theorem prodlen_snoc {α : Type} {ls : List (List α)} {xs : List α} : prodlen (ls ++ [xs]) = prodlen ls * xs.length := by
  unfold prodlen
  rw [List.foldl_append]
  rfl
theorem idxL_last {α : Type} {xs : List α} {x : α} : idxL (xs ++ [x]) (-1) = some x := by
  unfold idxL ixN
  rw [if_neg (by omega), if_pos (by simp; omega)]
  have : ((-1 : Int) + ((xs ++ [x]).length : Nat)).toNat = xs.length := by simp; omega
  rw [this]
  simp
end
theorem choose_lt {α : Type} {P : Nat → α → Prop} {N : Nat} (d : α) (h : ∀ i, i < N → ∃ x, P i x) : ∃ f : Nat → α, ∀ i, i < N → P i (f i) := by
  classical
  refine ⟨fun i => if h' : i < N then Classical.choose (h i h') else d, fun i hi => ?_⟩
  simp only [dif_pos hi]
  exact Classical.choose_spec (h i hi)
theorem eqD_refl {k : Nat} {d : D} (h : Nice k d) (hk : k ≤ 64) : eqD d d = some true := by
  rw [eqD_nice h h hk hk]; simp
theorem nice_lst {F : Fc} {xs : List F.K} : Nice 2 (.lst (xs.map F.enc)) := .lst fun y hy => by
  obtain ⟨x, _, rfl⟩ := List.mem_map.mp hy
  exact Fc.enc_nice
theorem lc_rel {Φ : Fns} {t : T} {it e : E} {en : Env} {d : D} {β β' : Type} {R : D → β → Prop} {S : D → β' → Prop} {f : β → β'} {ds : List D} {bs : List β} (h1 : ev Φ it en = some d) (h2 : asSeq d = some ds) (hr : All2 R ds bs)
    (h3 : ∀ x b, R x b → ∃ en' c, bindT t x (wipeE en t.slots) = some en' ∧ ev Φ e en' = some c ∧ S c (f b)) (h4 : ds.length ≤ LIM) :
    ∃ es, ev Φ (.lc t it (.bl true) e) en = some (.lst es) ∧ All2 S es (bs.map f) := by
  simp only [ev, h1, Option.bind_some, h2]
  have k : ∃ es, lcGo (fun x => bindT t x (wipeE en t.slots)) (fun env => some (D.bl true)) (fun env => (ev Φ e env).map fun y => [y]) ds = some es ∧ All2 S es (bs.map f) := by
    clear h1 h2 h4
    induction hr with
    | nil => exact ⟨[], rfl, .nil⟩
    | cons r _ ih =>
      obtain ⟨es, i1, i2⟩ := ih
      obtain ⟨en', c, e1, e2, e3⟩ := h3 _ _ r
      refine ⟨c :: es, ?_, .cons e3 i2⟩
      rw [lcGo, e1, Option.bind_some]
      simp only [e2, Option.map_some, Option.bind_some]
      rw [i1]
      rfl
  obtain ⟨es, k1, k2⟩ := k
  refine ⟨es, ?_, k2⟩
  rw [k1, Option.bind_some, limL_of]
  rw [k2.len, List.length_map, ← hr.len]
  exact h4
@[simp] theorem eqD_bl (a b : Bool) : eqD (.bl a) (.bl b) = some (decide (a = b)) := by
  cases a <;> cases b <;> simp [eqD, okEq, SeqAt.shaped, D.py, PyData.canLay0, PyData.depth, PyData.eqv]
end PyD

/-! Terms: dicts from rows of exponents to numbers. -/
namespace PyD
open PySem Lean.Grind
def ik (e : List Nat) : List Int := e.map (fun i : Nat => (i : Int))
def ekey (e : List Nat) : D := .tup (e.map fun i : Nat => .int (i : Int))
theorem ik_inj {e f : List Nat} : ik e = ik f ↔ e = f := by
  constructor
  · intro h
    have := congrArg (List.map Int.toNat) h
    simpa [ik, List.map_map, Function.comp_def] using this
  · rintro rfl; rfl
theorem intsOf_ik {e : List Nat} : intsOf (e.map fun i : Nat => D.int (i : Int)) = some (ik e) := intsOf_map
@[simp] theorem keyOf_ekey {e : List Nat} : keyOf (ekey e) = some (ik e) := intsOf_ik
theorem ik_key {e : List Nat} : D.tup ((ik e).map .int) = ekey e := by simp [ik, ekey, List.map_map, Function.comp_def]
section
variable {α : Type}
def lookT : List (List Nat × α) → List Nat → Option α
  | [], _ => none
  | (k, d) :: r, q => if k = q then some d else lookT r q
def putT (T : List (List Nat × α)) (q : List Nat) (v : α) : List (List Nat × α) :=
  if T.any (fun kv => decide (kv.1 = q)) then T.map (fun kv => if kv.1 = q then (kv.1, v) else kv) else T ++ [(q, v)]
theorem lookT_any {T : List (List Nat × α)} {q : List Nat} : T.any (fun kv => decide (kv.1 = q)) = (lookT T q).isSome := by
  induction T with
  | nil => rfl
  | cons t T ih =>
    rw [List.any_cons, ih]
    by_cases c : t.1 = q <;> simp [c, lookT]
theorem lookT_none {T : List (List Nat × α)} {q : List Nat} (h : lookT T q = none) : q ∉ T.map (·.1) := by
  intro hm
  obtain ⟨t, ht, rfl⟩ := List.mem_map.mp hm
  have : T.any (fun kv => decide (kv.1 = t.1)) = true := List.any_eq_true.mpr ⟨t, ht, by simp⟩
  rw [lookT_any, h] at this
  cases this
theorem lookT_mem {T : List (List Nat × α)} {q : List Nat} {v : α} (h : lookT T q = some v) : (q, v) ∈ T := by
  induction T with
  | nil => cases h
  | cons t T ih =>
    unfold lookT at h
    split at h
    · rename_i c
      cases h
      rw [← c]
      exact List.mem_cons_self ..
    · exact List.mem_cons_of_mem _ (ih h)
theorem putT_keys {T : List (List Nat × α)} {q : List Nat} {v : α} (h : (T.map (·.1)).Nodup) : ((putT T q v).map (·.1)).Nodup := by
  unfold putT
  split
  · rw [List.map_map]
    have e : ((fun x : List Nat × α => x.1) ∘ fun kv => if kv.1 = q then (kv.1, v) else kv) = fun x => x.1 := by
      funext x
      simp only [Function.comp]
      split <;> rfl
    rw [e]
    exact h
  · rename_i c
    rw [List.map_append, List.nodup_append]
    refine ⟨h, by simp, fun a ha b hb => ?_⟩
    simp only [List.map_cons, List.map_nil, List.mem_singleton] at hb
    subst hb
    rintro rfl
    rw [lookT_any, Bool.not_eq_true, Option.isSome_eq_false_iff, Option.isNone_iff_eq_none] at c
    exact lookT_none c ha
theorem putT_mem {T : List (List Nat × α)} {q : List Nat} {v : α} {t : List Nat × α} (h : t ∈ putT T q v) : t ∈ T ∨ t = (q, v) := by
  unfold putT at h
  split at h
  · obtain ⟨u, hu, rfl⟩ := List.mem_map.mp h
    split
    · rename_i c; right; rw [← c]
    · exact .inl hu
  · rcases List.mem_append.mp h with h | h
    · exact .inl h
    · exact .inr (List.mem_singleton.mp h)
theorem putT_len {T : List (List Nat × α)} {q : List Nat} {v : α} : (putT T q v).length ≤ T.length + 1 := by
  unfold putT
  split <;> simp
end
section
variable {F : Fc}
def encT (F : Fc) (T : List (List Nat × F.K)) : List (List Int × D) := T.map fun t => (ik t.1, F.enc t.2)
theorem keysD_enc {T : List (List Nat × F.K)} : keysD (encT F T) = T.map fun t => ekey t.1 := by
  unfold keysD encT
  rw [List.map_map]
  exact List.map_congr_left fun t _ => ik_key
theorem lookD_enc {T : List (List Nat × F.K)} {q : List Nat} : lookD (encT F T) (ik q) = (lookT T q).map F.enc := by
  induction T with
  | nil => rfl
  | cons t T ih =>
    show (if ik t.1 = ik q then some (F.enc t.2) else lookD (encT F T) (ik q)) = _
    unfold lookT
    by_cases c : t.1 = q
    · rw [if_pos (by rw [c]), if_pos c]; rfl
    · rw [if_neg (fun z => c (ik_inj.mp z)), if_neg c]; exact ih
theorem putKD_enc {T : List (List Nat × F.K)} {q : List Nat} {v : F.K} : putKD (encT F T) (ik q) (F.enc v) = encT F (putT T q v) := by
  unfold putKD putT
  have e : (encT F T).any (fun kv => decide (kv.1 = ik q)) = T.any (fun kv => decide (kv.1 = q)) := by
    unfold encT
    rw [List.any_map]
    congr 1
    funext t
    simp only [Function.comp]
    exact decide_eq_decide.mpr ik_inj
  rw [e]
  split
  · unfold encT
    rw [List.map_map, List.map_map]
    refine List.map_congr_left fun t _ => ?_
    simp only [Function.comp]
    by_cases c : t.1 = q
    · rw [if_pos (by rw [c]), if_pos c]
    · rw [if_neg (fun z => c (ik_inj.mp z)), if_neg c]
  · simp [encT]
/-- what is linear in the terms -/
noncomputable def lin (φ : List Nat → F.K) (T : List (List Nat × F.K)) : F.K := T.foldl (fun s t => s + t.2 * φ t.1) 0
theorem foldl_add {α : Type} {g : α → F.K} : ∀ {xs : List α} {s : F.K}, xs.foldl (fun s x => s + g x) s = s + xs.foldl (fun s x => s + g x) 0
  | [], s => by simp [Semiring.add_zero]
  | x :: xs, s => by
    rw [List.foldl_cons, List.foldl_cons, foldl_add (s := s + g x), foldl_add (s := 0 + g x)]
    grind
theorem lin_nil {φ : List Nat → F.K} : lin φ [] = 0 := rfl
theorem lin_cons {φ : List Nat → F.K} {t : List Nat × F.K} {T : List (List Nat × F.K)} : lin φ (t :: T) = t.2 * φ t.1 + lin φ T := by
  unfold lin
  rw [List.foldl_cons, foldl_add (g := fun t : List Nat × F.K => t.2 * φ t.1)]
  grind
theorem lin_app {φ : List Nat → F.K} {T U : List (List Nat × F.K)} : lin φ (T ++ U) = lin φ T + lin φ U := by
  induction T with
  | nil => rw [List.nil_append, lin_nil]; grind
  | cons t T ih => rw [List.cons_append, lin_cons, lin_cons, ih]; grind
theorem lin_absent {φ : List Nat → F.K} {T : List (List Nat × F.K)} {q : List Nat} {v : F.K} (h : q ∉ T.map (·.1)) : (T.map fun kv => if kv.1 = q then (kv.1, v) else kv) = T := by
  induction T with
  | nil => rfl
  | cons t T ih =>
    rw [List.map_cons, List.mem_cons] at h
    have h : ¬ q = t.1 ∧ ¬ q ∈ T.map (·.1) := ⟨fun c => h (.inl c), fun c => h (.inr c)⟩
    rw [List.map_cons, if_neg (fun c => h.1 c.symm), ih h.2]
theorem lin_repl {φ : List Nat → F.K} {q : List Nat} {v : F.K} : ∀ {T : List (List Nat × F.K)} {w : F.K}, (T.map (·.1)).Nodup → lookT T q = some w → lin φ (T.map fun kv => if kv.1 = q then (kv.1, v) else kv) = lin φ T + (v - w) * φ q
  | [], w, _, h => by cases h
  | t :: T, w, hn, h => by
    simp only [List.map_cons, List.nodup_cons] at hn
    unfold lookT at h
    rw [List.map_cons]
    split at h
    · rename_i c
      cases h
      rw [if_pos c, lin_absent (φ := φ) (by rw [← c]; exact hn.1), lin_cons, lin_cons]
      simp only
      rw [c]
      grind
    · rename_i c
      rw [if_neg c, lin_cons, lin_cons, lin_repl hn.2 h]
      grind
theorem lin_put {φ : List Nat → F.K} {T : List (List Nat × F.K)} {q : List Nat} {v : F.K} (hn : (T.map (·.1)).Nodup) : lin φ (putT T q v) = lin φ T + (v - (lookT T q).getD 0) * φ q := by
  unfold putT
  rw [lookT_any]
  cases h : lookT T q with
  | some w =>
    simp only [Option.isSome_some, if_true, Option.getD_some]
    exact lin_repl hn h
  | none =>
    simp only [Option.isSome_none, Bool.false_eq_true, if_false, Option.getD_none]
    rw [lin_app, lin_cons, lin_nil]
    grind
/-- the product of powers -/
noncomputable def mono (p : List F.K) (e : List Nat) : F.K := ((p.zip e).map fun ae => ae.1 ^ ae.2).foldl (· * ·) 1
theorem foldl_mul : ∀ {xs : List F.K} {s : F.K}, xs.foldl (· * ·) s = s * xs.foldl (· * ·) 1
  | [], s => by simp [Semiring.mul_one]
  | x :: xs, s => by
    rw [List.foldl_cons, List.foldl_cons, foldl_mul (s := s * x), foldl_mul (s := 1 * x)]
    grind
theorem mono_nil {e : List Nat} : mono (F := F) [] e = 1 := rfl
theorem mono_cons {a : F.K} {p : List F.K} {n : Nat} {e : List Nat} : mono (a :: p) (n :: e) = a ^ n * mono p e := by
  unfold mono
  rw [List.zip_cons_cons, List.map_cons, List.foldl_cons, foldl_mul]
  grind
theorem mono_snoc {a : F.K} {n : Nat} : ∀ {p : List F.K} {e : List Nat}, p.length = e.length → mono (p ++ [a]) (e ++ [n]) = mono p e * a ^ n
  | [], [], _ => by rw [List.nil_append, List.nil_append, mono_cons, mono_nil]; grind
  | b :: p, m :: e, h => by
    rw [List.cons_append, List.cons_append, mono_cons, mono_cons, mono_snoc (by simpa using h)]
    grind
  | [], _ :: _, h => by simp at h
  | _ :: _, [], h => by simp at h
theorem mono_add : ∀ {p : List F.K} {e f : List Nat}, p.length = e.length → e.length = f.length → mono p (e.zipWith (· + ·) f) = mono p e * mono p f
  | [], [], [], _, _ => by rw [mono_nil, mono_nil]; grind
  | a :: p, m :: e, n :: f, h, h' => by
    rw [List.zipWith_cons_cons, mono_cons, mono_cons, mono_cons, mono_add (by simpa using h) (by simpa using h'), Semiring.pow_add]
    grind
  | [], _ :: _, _, h, _ => by simp at h
  | _ :: _, [], _, h, _ => by simp at h
  | _ :: _, _ :: _, [], _, h => by simp at h
end
end PyD

/-! Dyadic numbers: bounds that sums keep. -/
namespace PyD
open PySem Lean.Grind
namespace Fc
def DyR (k B : Nat) (x : Rat) : Prop := ∃ a : Int, x * ((2 ^ k : Nat) : Rat) = (a : Rat) ∧ a.natAbs ≤ B
/-- over the fractions: a / 2 to the k with a of at most B -/
def Dy (F : Fc) (k B : Nat) (x : F.K) : Prop := match F, x with
  | q, x => DyR k B x
  | z _ _, _ => True
theorem rat_dy_add {x y : Rat} {k B C : Nat} (hx : DyR k B x) (hy : DyR k C y) : DyR k (B + C) (x + y) := by
  obtain ⟨a, e, h⟩ := hx
  obtain ⟨b, e', h'⟩ := hy
  exact ⟨a + b, by rw [Rat.add_mul, e, e', Rat.intCast_add], Nat.le_trans (Int.natAbs_add_le ..) (Nat.add_le_add h h')⟩
theorem rat_dy_mul {x y : Rat} {k m B C : Nat} (hx : DyR k B x) (hy : DyR m C y) : DyR (k + m) (B * C) (x * y) := by
  obtain ⟨a, e, h⟩ := hx
  obtain ⟨b, e', h'⟩ := hy
  refine ⟨a * b, ?_, by rw [Int.natAbs_mul]; exact Nat.mul_le_mul h h'⟩
  rw [Nat.pow_add, Rat.natCast_mul, Rat.intCast_mul, ← e, ← e']
  grind
theorem rat_dy_ht {x : Rat} {k B h : Nat} (hx : DyR k B x) (hB : B < 2 ^ h) (hk : k < h) : Fc.q.Ht h x := by
  obtain ⟨a, e, l⟩ := hx
  have n0 : (2 ^ k : Nat) ≠ 0 := Nat.ne_of_gt (Nat.pow_pos (by omega))
  have n1 : ((2 ^ k : Nat) : Rat) ≠ 0 := fun c => n0 (Rat.natCast_eq_zero_iff.mp c)
  have ex : x = mkRat a (2 ^ k) := by
    rw [Rat.mkRat_eq_div, ← e, Rat.mul_div_cancel n1]
  rw [ex]
  exact Ht_mk n0 (by omega) (Nat.pow_lt_pow_right (by omega) hk)
theorem rat_dy_pad {x : Rat} {k B : Nat} (hx : DyR k B x) (d : Nat) : DyR (k + d) (B * 2 ^ d) x := by
  obtain ⟨a, e, h⟩ := hx
  refine ⟨a * (2 ^ d : Nat), ?_, by rw [Int.natAbs_mul, Int.natAbs_natCast]; exact Nat.mul_le_mul_right _ h⟩
  rw [Nat.pow_add, Rat.natCast_mul, Rat.intCast_mul, ← e, Rat.mul_assoc]
  rfl
variable {F : Fc} {x y : F.K} {k m B C h : Nat}
theorem Dy.add (hx : F.Dy k B x) (hy : F.Dy k C y) : F.Dy k (B + C) (x + y) := by
  cases F with
  | z p i => trivial
  | q => exact rat_dy_add hx hy
theorem Dy.mul (hx : F.Dy k B x) (hy : F.Dy m C y) : F.Dy (k + m) (B * C) (x * y) := by
  cases F with
  | z p i => trivial
  | q => exact rat_dy_mul hx hy
theorem Dy.ht (hx : F.Dy k B x) (hB : B < 2 ^ h) (hk : k < h) : F.Ht h x := by
  cases F with
  | z p i => trivial
  | q => exact rat_dy_ht hx hB hk
theorem Dy.le (hx : F.Dy k B x) (l : B ≤ C) : F.Dy k C x := by
  cases F with
  | z p i => trivial
  | q =>
    obtain ⟨a, e, h⟩ := hx
    exact ⟨a, e, by omega⟩
theorem Dy.int {i : Int} (h : i.natAbs ≤ B) : F.Dy 0 B (F.ofI i) := by
  cases F with
  | z p i => trivial
  | q => exact ⟨i, Rat.mul_one _, h⟩
theorem Dy.pad (hx : F.Dy k B x) (d : Nat) : F.Dy (k + d) (B * 2 ^ d) x := by
  cases F with
  | z p i => trivial
  | q => exact rat_dy_pad hx d
end Fc
end PyD

/-! Dicts in the interpreter. -/
namespace PyD
open PySem Lean.Grind
theorem rangeD0 {m : Nat} : rangeD 0 (m : Int) = (List.range m).map fun i => D.int (i : Nat) := by
  unfold rangeD
  rw [Int.sub_zero, Int.toNat_natCast]
  exact List.map_congr_left fun i _ => by rw [Int.zero_add]
theorem ekey_flat {e : List Nat} : (ekey e).flat = true := by
  show flatL _ = true
  rw [flatL_all, List.all_map, List.all_eq_true]
  exact fun _ _ => rfl
section
variable {F : Fc} {Φ : Fns} {T : List (List Nat × F.K)} {q : List Nat} {x : F.K} {env : FEnv} {i : Nat} {k e : E} {m : Md}
theorem setI_dic (h1 : (env[i]?).join = some (true, .dic false (encT F T))) (hv : evM Φ e m env = some (F.enc x)) (hk : evM Φ k { sh := true } env = some (ekey q)) (hl : T.length < LIM) :
    evS Φ (.setI i k e m) env = some (.nx (env.set i (some (true, .dic false (encT F (putT T q x)))))) := by
  have hl2 : (encT F T).length < LIM := by unfold encT; rw [List.length_map]; exact hl
  simp only [evS, h1, hv, hk, Option.bind_some, keyOf_ekey, hl2, if_true, putKD_enc]
theorem evM_of {d : D} (h : ev Φ e (seen m env) = some d) (hk : keepD m d = true) : evM Φ e m env = some d := by
  simp only [evM, h, Option.bind_some, hk, if_true]
theorem keep_key : keepD { sh := true } (ekey q) = true := by
  simp only [keepD, ekey_flat]
  rfl
theorem idx_dic {lk : Bool} : idxD (.dic lk (encT F T)) (ekey q) = (lookT T q).map F.enc := by
  show (keyOf (ekey q)).bind (lookD (encT F T)) = _
  rw [keyOf_ekey, Option.bind_some, lookD_enc]
theorem get_dic {lk : Bool} {z : F.K} : PyD.getD' (.dic lk (encT F T)) (ekey q) (F.enc z) = some (F.enc ((lookT T q).getD z)) := by
  show (keyOf (ekey q)).map (fun q => (lookD (encT F T) q).getD (F.enc z)) = _
  rw [keyOf_ekey, Option.map_some, lookD_enc]
  cases lookT T q <;> rfl
theorem as_dic : asSeq (.dic true (encT F T)) = some (T.map fun t => ekey t.1) := by
  show some (keysD (encT F T)) = _
  rw [keysD_enc]
end
/-- terms and their bounds -/
structure TOk (F : Fc) (L m E D k B : Nat) (T : List (List Nat × F.K)) : Prop where
  nd : (T.map (·.1)).Nodup
  len : T.length ≤ m
  el : ∀ t ∈ T, t.1.length = L
  ex : ∀ t ∈ T, ∀ n ∈ t.1, n ≤ E
  dg : F.p = 0 → ∀ t ∈ T, t.1.sum ≤ D
  dy : ∀ t ∈ T, F.Dy k B t.2
section
variable {F : Fc} {L m E D k B : Nat} {T : List (List Nat × F.K)}
theorem TOk.nil : TOk F L m E D k B [] := ⟨.nil, Nat.zero_le _, fun _ h => by simp at h, fun _ h => by simp at h, fun _ _ h => by simp at h, fun _ h => by simp at h⟩
theorem TOk.put {q : List Nat} {x : F.K} (h : TOk F L m E D k B T) (h1 : q.length = L) (h2 : ∀ n ∈ q, n ≤ E) (h3 : F.p = 0 → q.sum ≤ D) (h4 : F.Dy k B x) : TOk F L (m + 1) E D k B (putT T q x) := by
  refine ⟨putT_keys h.nd, Nat.le_trans putT_len (by have := h.len; omega), fun t ht => ?_, fun t ht => ?_, fun hp t ht => ?_, fun t ht => ?_⟩
  · rcases putT_mem ht with ht | rfl
    · exact h.el t ht
    · exact h1
  · rcases putT_mem ht with ht | rfl
    · exact h.ex t ht
    · exact h2
  · rcases putT_mem ht with ht | rfl
    · exact h.dg hp t ht
    · exact h3 hp
  · rcases putT_mem ht with ht | rfl
    · exact h.dy t ht
    · exact h4
theorem TOk.mono {m' E' D' B' : Nat} (h : TOk F L m E D k B T) (a : m ≤ m') (b : E ≤ E') (c : D ≤ D') (d : B ≤ B') : TOk F L m' E' D' k B' T :=
  ⟨h.nd, Nat.le_trans h.len a, h.el, fun t ht n hn => Nat.le_trans (h.ex t ht n hn) b, fun hp t ht => Nat.le_trans (h.dg hp t ht) c, fun t ht => (h.dy t ht).le d⟩
theorem lookT_of {t : List Nat × F.K} : ∀ {T : List (List Nat × F.K)}, (T.map (·.1)).Nodup → t ∈ T → lookT T t.1 = some t.2
  | u :: T, hn, ht => by
    rw [List.map_cons, List.nodup_cons] at hn
    unfold lookT
    rcases List.mem_cons.mp ht with rfl | ht
    · rw [if_pos rfl]
    · have c : ¬ u.1 = t.1 := fun c => hn.1 (by rw [c]; exact List.mem_map_of_mem (f := fun x : List Nat × F.K => x.1) ht)
      rw [if_neg c, lookT_of hn.2 ht]
end
end PyD

/-! Straight lines: names that are stored one after the other. -/
namespace PyD
open PySem
def pE (N : Nat) (xs : List D) : FEnv := xs.map (fun d => some (false, d)) ++ List.replicate (N - xs.length) none
def pH (N : Nat) (xs : List D) : Env := xs.map some ++ List.replicate (N - xs.length) none
section
variable {Φ : Fns} {N i j k : Nat} {xs : List D} {d : D} {e c a it : E} {b : S} {m : Md} {v : Option D}
theorem hid_pE : hid (pE N xs) = pH N xs := by simp [hid, pE, pH, hid1, Function.comp_def]
theorem shw_pE : shw (pE N xs) = pH N xs := by simp [shw, pE, pH, Function.comp_def]
theorem shl_pE : shl (pE N xs) = pH N xs := by simp [shl, pE, pH, shl1, Function.comp_def]
theorem sho_pE : sho (pE N xs) = pH N xs := by simp [sho, pE, pH, sho1, Function.comp_def]
theorem seen_pE : seen m (pE N xs) = pH N xs := by
  unfold seen
  split <;> first | exact hid_pE | exact shl_pE | exact sho_pE | exact shw_pE
theorem start_pE {fn : Fn} {ds : List D} : startF fn ds = pE fn.names.length ds := rfl
theorem pE_set (h : xs.length = i) (hN : i < N) : (pE N xs).set i (some (false, d)) = pE N (xs ++ [d]) := by
  subst h
  unfold pE
  obtain ⟨r, hr⟩ : ∃ r, N - xs.length = r + 1 := ⟨N - xs.length - 1, by omega⟩
  have e2 : N - (xs ++ [d]).length = r := by simp; omega
  rw [hr, e2, List.set_append_right _ _ (by simp), List.replicate_succ]
  simp
theorem pE_put (h : i < xs.length) : (pE N xs).set i (some (false, d)) = pE N (xs.set i d) := by
  unfold pE
  rw [List.set_append_left _ _ (by simpa using h), List.map_set, List.length_set]
theorem seq_asg (hi : xs.length = i) (hN : i < N) (h : ev Φ e (pH N xs) = some d) : evS Φ (.seq (.asg i e {}) b) (pE N xs) = evS Φ b (pE N (xs ++ [d])) := by
  refine seq_nx ?_
  rw [asg_of (m := {}) (d := d) (by rw [seen_pE]; exact h) rfl, pE_set hi hN]
theorem seq_put (hi : i < xs.length) (h : ev Φ e (pH N xs) = some d) : evS Φ (.seq (.asg i e {}) b) (pE N xs) = evS Φ b (pE N (xs.set i d)) := by
  refine seq_nx ?_
  rw [asg_of (m := {}) (d := d) (by rw [seen_pE]; exact h) rfl, pE_put hi]
theorem seq_no {a : S} (h : ev Φ c (pH N xs) = some (.bl false)) : evS Φ (.seq (.iff c a .skip) b) (pE N xs) = evS Φ b (pE N xs) := by
  refine seq_nx ?_
  rw [iff_f (by rw [shw_pE]; exact h)]
  rfl
theorem seq_ex (h : ev Φ e (pH N xs) = some d) : evS Φ (.seq (.ex e) b) (pE N xs) = evS Φ b (pE N xs) := by
  refine seq_nx ?_
  simp only [evS, shw_pE, h, Option.map_some]
theorem ret_pE (h : ev Φ e (pH N xs) = some d) : evS Φ (.ret e {}) (pE N xs) = some (.rt false d) := ret_of (m := {}) (by rw [seen_pE]; exact h) rfl
theorem pv (h : xs[j]? = some d) : ev Φ (.var j) (pH N xs) = some d := by
  have hj := (List.getElem?_eq_some_iff.mp h).1
  simp only [ev, pH]
  rw [List.getElem?_append_left (by simpa using hj), List.getElem?_map, h]
  rfl
theorem pv_set (h : xs[j]? = some d) (hk : k ≠ j) : ev Φ (.var j) ((pH N xs).set k v) = some d := by
  rw [← pv (Φ := Φ) (N := N) h]
  simp only [ev]
  rw [List.getElem?_set_ne hk]
theorem pv_own (h : xs.length ≤ N) (hk : k < N) : ev Φ (.var k) ((pH N xs).set k v) = v := by
  simp only [ev]
  rw [List.getElem?_set_self (by simp [pH]; omega)]
  rfl
theorem wipe1 {en : Env} : ((wipeE en [k]).set k v) = en.set k v := by
  show (en.set k none).set k v = _
  rw [List.set_set]
/-- a comprehension over a list -/
theorem lc_pE {α : Type} {ys : List α} {g f : α → D} (h1 : ev Φ it (pH N xs) = some d) (h2 : asSeq d = some (ys.map g)) (h3 : ∀ y ∈ ys, ev Φ e ((pH N xs).set k (some (g y))) = some (f y)) (h4 : ys.length ≤ LIM) :
    ev Φ (.lc (.nm k) it (.bl true) e) (pH N xs) = some (.lst (ys.map f)) := by
  refine lc_mp h1 h2 (fun y hy => ⟨_, rfl, ?_⟩) h4
  show ev Φ e ((wipeE (pH N xs) [k]).set k (some (g y))) = _
  rw [wipe1]
  exact h3 y hy
theorem lc_pR {f : Nat → D} {n : Nat} (h1 : ev Φ a (pH N xs) = some (.int (n : Nat))) (hn : n ≤ 100000) (h3 : ∀ y < n, ev Φ e ((pH N xs).set k (some (.int (y : Nat)))) = some (f y)) :
    ev Φ (.lc (.nm k) (.rng1 a) (.bl true) e) (pH N xs) = some (.lst ((List.range n).map f)) := by
  refine lc_pE (ys := List.range n) (g := fun i : Nat => D.int (i : Int)) (d := .lst (rangeD 0 (n : Nat))) (ev_rng1 h1 (rgOk_sm (by omega) (by omega))) (by rw [rangeD0]; rfl) (fun y hy => h3 y (List.mem_range.mp hy)) (by rw [List.length_range]; unfold LIM; omega)
@[simp] theorem pH_at : ((pH N xs)[j]?).join = xs[j]? := by
  unfold pH
  by_cases h : j < xs.length
  · rw [List.getElem?_append_left (by simpa using h), List.getElem?_map, List.getElem?_eq_getElem h]
    rfl
  · rw [List.getElem?_append_right (by simpa using h), List.getElem?_eq_none (l := xs) (by omega), List.getElem?_replicate]
    split <;> rfl
theorem pH_len (h : xs.length ≤ N) : (pH N xs).length = N := by simp [pH]; omega
/-- a comprehension, whatever the names -/
theorem lc_en {α : Type} {en : Env} {ys : List α} {g f : α → D} (h1 : ev Φ it en = some d) (h2 : asSeq d = some (ys.map g)) (h3 : ∀ y ∈ ys, ev Φ e (en.set k (some (g y))) = some (f y)) (h4 : ys.length ≤ LIM) :
    ev Φ (.lc (.nm k) it (.bl true) e) en = some (.lst (ys.map f)) := by
  refine lc_mp h1 h2 (fun y hy => ⟨_, rfl, ?_⟩) h4
  show ev Φ e ((wipeE en [k]).set k (some (g y))) = _
  rw [wipe1]
  exact h3 y hy
end
end PyD

namespace PyD
open PySem L2 RZ StX PyProof.Rows
/-! ### the text -/
def top (i : Nat) : Stmt := PySem.Challenge.pw_weighedgrids_k19_weights_of_moved_and_le.main.body.getD i (.Pass ⟨0, 0, 0, 0⟩)
def clsB : Stmt → List Stmt
  | .ClassDef _ _ _ b _ _ _ _ _ _ _ => b
  | _ => []
def topc (i j : Nat) : Stmt := (clsB (top i)).getD j (.Pass ⟨0, 0, 0, 0⟩)
def b_check_field : S :=
      (.iff (.and (.cmp .ne (.var 0) (.int 0)) (.one (.cmp .notin (.var 0) (.glb "PRIMES" [2, 3, 5, 7, 11]))))
      .never
      .skip)

def b_lowest : S :=
      (.seq (.asg 2 (.bi .gcd (.cons (.var 0) (.cons (.var 1) .nil))) {})
      (.seq (.iff (.cmp .lt (.var 1) (.int 0))
      (.asg 2 (.neg (.var 2)) {})
      .skip)
      (.ret (.tup (.cons (.bin .fdiv (.var 0) (.var 2)) (.cons (.bin .fdiv (.var 1) (.var 2)) .nil))) {})))

def b_is_integer : S :=
      (.ret (.and (.isi (.var 0) .int) (.one (.not (.isi (.var 0) .bool)))) {})

def b_is_number : S :=
      (.seq (.iff (.cmp .gt (.var 0) (.int 0))
      (.ret (.and (.call 2 (.cons (.var 1) .nil)) (.one (.chain .le .lt (.int 0) (.var 1) (.var 0)))) {})
      .skip)
      (.seq (.iff (.or (.not (.isi (.var 1) .tuple)) (.one (.cmp .ne (.bi .len (.cons (.var 1) .nil)) (.int 2))))
      (.ret (.bl false) {})
      .skip)
      (.seq (.iff (.or (.not (.call 2 (.cons (.idx (.var 1) (.int 0)) .nil))) (.one (.not (.call 2 (.cons (.idx (.var 1) (.int 1)) .nil)))))
      (.ret (.bl false) {})
      .skip)
      (.ret (.and (.cmp .gt (.idx (.var 1) (.int 1)) (.int 0)) (.one (.cmp .eq (.bi .gcd (.cons (.idx (.var 1) (.int 0)) (.cons (.idx (.var 1) (.int 1)) .nil))) (.int 1)))) {}))))

def b_number_of : S :=
      (.seq (.iff (.cmp .gt (.var 0) (.int 0))
      (.ret (.bin .mod (.var 1) (.var 0)) {})
      .skip)
      (.ret (.tup (.cons (.var 1) (.cons (.int 1) .nil))) {}))

def b_add : S :=
      (.seq (.iff (.cmp .gt (.var 0) (.int 0))
      (.ret (.bin .mod (.bin .add (.var 1) (.var 2)) (.var 0)) {})
      .skip)
      (.ret (.call 1 (.cons (.bin .add (.bin .mul (.idx (.var 1) (.int 0)) (.idx (.var 2) (.int 1))) (.bin .mul (.idx (.var 2) (.int 0)) (.idx (.var 1) (.int 1)))) (.cons (.bin .mul (.idx (.var 1) (.int 1)) (.idx (.var 2) (.int 1))) .nil))) {}))

def b_negate : S :=
      (.seq (.iff (.cmp .gt (.var 0) (.int 0))
      (.ret (.bin .mod (.bin .sub (.var 0) (.var 1)) (.var 0)) {})
      .skip)
      (.ret (.tup (.cons (.neg (.idx (.var 1) (.int 0))) (.cons (.idx (.var 1) (.int 1)) .nil))) {}))

def b_subtract : S :=
      (.ret (.call 5 (.cons (.var 0) (.cons (.var 1) (.cons (.call 6 (.cons (.var 0) (.cons (.var 2) .nil))) .nil)))) {})

def b_multiply : S :=
      (.seq (.iff (.cmp .gt (.var 0) (.int 0))
      (.ret (.bin .mod (.bin .mul (.var 1) (.var 2)) (.var 0)) {})
      .skip)
      (.ret (.call 1 (.cons (.bin .mul (.idx (.var 1) (.int 0)) (.idx (.var 2) (.int 0))) (.cons (.bin .mul (.idx (.var 1) (.int 1)) (.idx (.var 2) (.int 1))) .nil))) {}))

def l_invert_1 : S :=
      (.while_ (.cmp .ne (.bin .mod (.bin .mul (.var 2) (.var 1)) (.var 0)) (.int 1))
      (.aug 2 .add (.int 1)))
def b_invert : S :=
      (.seq (.iff (.cmp .eq (.var 1) (.call 4 (.cons (.var 0) (.cons (.int 0) .nil))))
      .never
      .skip)
      (.seq (.iff (.cmp .eq (.var 0) (.int 0))
      (.ret (.call 1 (.cons (.idx (.var 1) (.int 1)) (.cons (.idx (.var 1) (.int 0)) .nil))) {})
      .skip)
      (.seq (.asg 2 (.int 1) {})
      (.seq l_invert_1
      (.ret (.var 2) {})))))

def c_dot_1 : E :=
      (.lc (.tp [4, 5]) (.zip (.var 1) (.var 2)) (.bl true) (.bin .mul (.var 4) (.var 5)))
def l_dot_2 : S :=
      (.for_ (.tp [4, 5]) (.zip (.var 1) (.var 2))
      (.asg 3 (.call 5 (.cons (.var 0) (.cons (.var 3) (.cons (.call 8 (.cons (.var 0) (.cons (.var 4) (.cons (.var 5) .nil)))) .nil)))) {}))
def b_dot : S :=
      (.seq (.iff (.cmp .gt (.var 0) (.int 0))
      (.ret (.bin .mod (.bi .sum (.cons c_dot_1 .nil)) (.var 0)) {})
      .skip)
      (.seq (.asg 3 (.call 4 (.cons (.var 0) (.cons (.int 0) .nil))) {})
      (.seq l_dot_2
      (.ret (.var 3) {}))))

def l_list_weights_2 : S :=
      (.for_ (.nm 5) (.var 1)
      (.iff (.cmp .ne (.var 5) (.var 3))
      (.asg 4 (.call 8 (.cons (.var 0) (.cons (.var 4) (.cons (.call 7 (.cons (.var 0) (.cons (.var 3) (.cons (.var 5) .nil)))) .nil)))) {})
      .skip))
def l_list_weights_1 : S :=
      (.for_ (.nm 3) (.var 1)
      (.seq (.asg 4 (.call 4 (.cons (.var 0) (.cons (.int 1) .nil))) {})
      (.seq l_list_weights_2
      (.app 2 (.call 9 (.cons (.var 0) (.cons (.var 4) .nil))) {}))))
def b_list_weights : S :=
      (.seq (.asg 2 (.lst .nil) { own := true })
      (.seq l_list_weights_1
      (.retv 2)))

def c_grid_weights_2 : E :=
      (.lc2 (.nm 4) (.var 1) (.bl true) (.nm 5) (.var 3) (.bl true) (.call 8 (.cons (.attr ["Grid"] (.var 0) "prime") (.cons (.var 4) (.cons (.var 5) .nil)))))
def l_grid_weights_1 : S :=
      (.for_ (.nm 2) (.attr ["Grid"] (.var 0) "lists")
      (.seq (.asg 3 (.call 11 (.cons (.attr ["Grid"] (.var 0) "prime") (.cons (.var 2) .nil))) {})
      (.asg 1 c_grid_weights_2 { own := true, sh := true })))
def b_grid_weights : S :=
      (.seq (.asg 1 (.lst (.cons (.call 4 (.cons (.attr ["Grid"] (.var 0) "prime") (.cons (.int 1) .nil))) .nil)) { own := true })
      (.seq l_grid_weights_1
      (.retv 1)))

def b_weighed_sum : S :=
      (.ret (.call 10 (.cons (.attr ["Grid"] (.var 0) "prime") (.cons (.call 12 (.cons (.var 0) .nil)) (.cons (.var 1) .nil)))) {})

def c_Grid_init_1 : E :=
      (.lc (.nm 3) (.var 2) (.bl true) (.bi .tuple (.cons (.var 3) .nil)))
def c_Grid_init_2 : E :=
      (.lc (.nm 3) (.attr ["Grid"] (.var 0) "lists") (.bl true) (.bi .len (.cons (.var 3) .nil)))
def c_Grid_init_3 : E :=
      (.lc (.nm 4) (.attr ["Grid"] (.var 0) "lengths") (.bl true) (.bin .sub (.var 4) (.int 1)))
def b_Grid_init : S :=
      (.seq (.ex (.call 0 (.cons (.var 1) .nil)))
      (.seq (.ex (.call 15 (.cons (.var 1) (.cons (.var 2) .nil))))
      (.seq (.fld "Grid" "prime" (.var 1) {})
      (.seq (.fld "Grid" "lists" (.bi .tuple (.cons c_Grid_init_1 .nil)) {})
      (.seq (.fld "Grid" "letters" (.bi .len (.cons (.attr ["Grid"] (.var 0) "lists") .nil)) { so := true })
      (.seq (.fld "Grid" "lengths" (.bi .tuple (.cons c_Grid_init_2 .nil)) { so := true })
      (.seq (.fld "Grid" "top" (.bi .tuple (.cons c_Grid_init_3 .nil)) { so := true })
      (.seq (.fld "Grid" "full_degree" (.bi .sum (.cons (.attr ["Grid"] (.var 0) "top") .nil)) { so := true })
      (.seq (.fld "Grid" "points" (.call 16 (.cons (.attr ["Grid"] (.var 0) "lists") .nil)) { so := true })
      (.fld "Grid" "size" (.bi .len (.cons (.attr ["Grid"] (.var 0) "points") .nil)) { so := true }))))))))))

def l_check_lists_1 : S :=
      (.for_ (.nm 2) (.var 1)
      (.iff (.not (.chain .le .le (.int 1) (.bi .len (.cons (.var 2) .nil)) (.con "Grid" "MOST_NUMBERS" 12)))
      .never
      .skip))
def l_check_lists_3 : S :=
      (.for_ (.nm 4) (.var 2)
      (.iff (.not (.call 3 (.cons (.var 0) (.cons (.var 4) .nil))))
      .never
      .skip))
def l_check_lists_2 : S :=
      (.for_ (.nm 2) (.var 1)
      l_check_lists_3)
def l_check_lists_5 : S :=
      (.for_ (.tp [5, 4]) (.enu (.var 2))
      (.iff (.cmp .isin (.var 4) (.sl (.var 2) .nil (.var 5)))
      .never
      .skip))
def l_check_lists_4 : S :=
      (.for_ (.nm 2) (.var 1)
      l_check_lists_5)
def l_check_lists_6 : S :=
      (.for_ (.nm 2) (.var 1)
      (.asg 3 (.bin .mul (.var 3) (.bi .len (.cons (.var 2) .nil))) {}))
def b_check_lists : S :=
      (.seq (.iff (.not (.chain .le .le (.int 1) (.bi .len (.cons (.var 1) .nil)) (.con "Grid" "MOST_LETTERS" 6)))
      .never
      .skip)
      (.seq l_check_lists_1
      (.seq l_check_lists_2
      (.seq l_check_lists_4
      (.seq (.asg 3 (.int 1) {})
      (.seq l_check_lists_6
      (.iff (.cmp .gt (.var 3) (.con "Grid" "MOST_POINTS" 64))
      .never
      .skip)))))))

def c_list_points_2 : E :=
      (.lc2 (.nm 3) (.var 1) (.bl true) (.nm 4) (.var 2) (.bl true) (.bin .add (.var 3) (.tup (.cons (.var 4) .nil))))
def l_list_points_1 : S :=
      (.for_ (.nm 2) (.var 0)
      (.asg 1 c_list_points_2 {}))
def b_list_points : S :=
      (.seq (.asg 1 (.lst (.cons (.tup .nil) .nil)) {})
      (.seq l_list_points_1
      (.ret (.bi .tuple (.cons (.var 1) .nil)) {})))

def b_check_scales : S :=
      (.iff (.cmp .isin (.call 4 (.cons (.var 0) (.cons (.int 0) .nil))) (.var 1))
      .never
      .skip)

def c_moved_2 : E :=
      (.lc (.nm 7) (.var 4) (.bl true) (.call 5 (.cons (.attr ["Grid"] (.var 0) "prime") (.cons (.call 8 (.cons (.attr ["Grid"] (.var 0) "prime") (.cons (.var 5) (.cons (.var 7) .nil)))) (.cons (.var 6) .nil)))))
def l_moved_1 : S :=
      (.for_ (.tp [4, 5, 6]) (.zip3 (.attr ["Grid"] (.var 0) "lists") (.var 1) (.var 2))
      (.app 3 c_moved_2 {}))
def b_moved : S :=
      (.seq (.ex (.call 17 (.cons (.attr ["Grid"] (.var 0) "prime") (.cons (.var 1) .nil))))
      (.seq (.asg 3 (.lst .nil) { own := true })
      (.seq l_moved_1
      (.frz [3] (.ret (.new 14 (.cons (.attr ["Grid"] (.var 0) "prime") (.cons (.var 3) .nil))) {})))))

def c_renamed_1 : E :=
      (.lc (.nm 2) (.var 1) (.bl true) (.idx (.attr ["Grid"] (.var 0) "lists") (.var 2)))
def b_renamed : S :=
      (.ret (.new 14 (.cons (.attr ["Grid"] (.var 0) "prime") (.cons c_renamed_1 .nil))) {})

def c_renamed_values_2 : E :=
      (.lc (.nm 6) (.var 1) (.bl true) (.idx (.var 4) (.var 6)))
def l_renamed_values_1 : S :=
      (.for_ (.tp [4, 5]) (.zip (.attr ["Grid"] (.var 0) "points") (.var 2))
      (.setI 3 (.bi .tuple (.cons c_renamed_values_2 .nil)) (.var 5) {}))
def c_renamed_values_3 : E :=
      (.lc (.nm 4) (.oit "Grid" "points" (.call 19 (.cons (.var 0) (.cons (.var 1) .nil)))) (.bl true) (.idx (.var 3) (.var 4)))
def b_renamed_values : S :=
      (.seq (.asg 3 .nnew { own := true })
      (.seq l_renamed_values_1
      (.frz [3] (.ret c_renamed_values_3 {}))))

def b_check_fields : S :=
      (.iff (.cmp .ne (.var 0) (.var 1))
      .never
      .skip)

def b_joined : S :=
      (.seq (.ex (.call 21 (.cons (.attr ["Grid"] (.var 0) "prime") (.cons (.attr ["Grid"] (.var 1) "prime") .nil))))
      (.ret (.new 14 (.cons (.attr ["Grid"] (.var 0) "prime") (.cons (.bin .add (.attr ["Grid"] (.var 0) "lists") (.attr ["Grid"] (.var 1) "lists")) .nil))) {}))

def l__law_pool_2 : S :=
      (.for_ (.nm 5) (.rng1 (.var 1))
      (.iff (.cmp .gt (.var 6) (.int 0))
      (.seq (.app 2 (.bin .mod (.var 6) (.int 1000)) {})
      (.asg 6 (.bin .fdiv (.var 6) (.int 1000)) {}))
      .skip))
def l__law_pool_3 : S :=
      (.for_ (.nm 5) (.rng1 (.int 6))
      (.seq (.asg 7 (.bin .mod (.bi .int (.cons (.bin .add (.bin .mul (.var 7) (.int 48271)) (.int 11)) .nil)) (.int 2147483647)) {})
      (.app 2 (.bin .mod (.bin .fdiv (.var 7) (.int 7)) (.int 1000)) {})))
def l__law_pool_1 : S :=
      (.for_ (.nm 4) (.var 0)
      (.seq (.asg 6 (.ite (.cmp .ge (.var 4) (.int 0)) (.bin .mul (.int 2) (.bi .int (.cons (.var 4) .nil))) (.bin .sub (.bin .mul (.neg (.int 2)) (.bi .int (.cons (.var 4) .nil))) (.int 1))) {})
      (.seq (.asg 3 (.bin .mod (.bi .int (.cons (.bin .add (.bin .mul (.var 3) (.int 31)) (.var 6)) .nil)) (.int 2147483629)) {})
      (.iff (.cmp .ge (.var 6) (.bin .pow (.int 10) (.int 18)))
      l__law_pool_2
      (.seq (.asg 7 (.bin .mod (.bi .int (.cons (.bin .add (.bin .mul (.bin .add (.var 6) (.int 5)) (.int 40692)) (.int 977)) .nil)) (.int 2147483399)) {})
      l__law_pool_3)))))
def l__law_pool_4 : S :=
      (.for_ (.nm 5) (.rng1 (.var 1))
      (.seq (.asg 3 (.bin .mod (.bi .int (.cons (.bin .add (.bin .mul (.var 3) (.int 69621)) (.int 13)) .nil)) (.int 2147483629)) {})
      (.app 2 (.bin .mod (.bin .fdiv (.var 3) (.int 11)) (.int 1000)) {})))
def b__law_pool : S :=
      (.seq (.asg 2 (.lst .nil) { own := true })
      (.seq (.asg 3 (.int 7) {})
      (.seq l__law_pool_1
      (.seq l__law_pool_4
      (.frz [2] (.ret (.sl (.var 2) .nil (.var 1)) {}))))))

def b__law_draw : S :=
      (.ret (.bin .mod (.bi .int (.cons (.idx (.var 0) (.var 1)) .nil)) (.var 2)) {})

def l__law_common_1 : S :=
      (.while_ (.cmp .ne (.var 1) (.int 0))
      (.par 0 1 (.var 1) (.bin .mod (.bi .int (.cons (.var 0) .nil)) (.var 1)) {} {}))
def b__law_common : S :=
      (.seq (.asg 0 (.bi .abs (.cons (.var 0) .nil)) {})
      (.seq (.asg 1 (.bi .abs (.cons (.var 1) .nil)) {})
      (.seq l__law_common_1
      (.ret (.var 0) {}))))

def b__law_lowest : S :=
      (.seq (.asg 2 (.call 25 (.cons (.var 0) (.cons (.var 1) .nil))) {})
      (.ret (.tup (.cons (.bin .fdiv (.var 0) (.var 2)) (.cons (.bin .fdiv (.var 1) (.var 2)) .nil))) {}))

def b__law_integer : S :=
      (.seq (.iff (.cmp .gt (.var 0) (.int 0))
      (.ret (.bin .mod (.bi .int (.cons (.var 1) .nil)) (.var 0)) {})
      .skip)
      (.ret (.tup (.cons (.var 1) (.cons (.int 1) .nil))) {}))

def b__law_sum : S :=
      (.seq (.iff (.cmp .gt (.var 0) (.int 0))
      (.ret (.bin .mod (.bi .int (.cons (.bin .add (.var 1) (.var 2)) .nil)) (.var 0)) {})
      .skip)
      (.ret (.call 26 (.cons (.bin .add (.bin .mul (.idx (.var 1) (.int 0)) (.idx (.var 2) (.int 1))) (.bin .mul (.idx (.var 2) (.int 0)) (.idx (.var 1) (.int 1)))) (.cons (.bin .mul (.idx (.var 1) (.int 1)) (.idx (.var 2) (.int 1))) .nil))) {}))

def b__law_times : S :=
      (.seq (.iff (.cmp .gt (.var 0) (.int 0))
      (.ret (.bin .mod (.bi .int (.cons (.bin .mul (.var 1) (.var 2)) .nil)) (.var 0)) {})
      .skip)
      (.ret (.call 26 (.cons (.bin .mul (.idx (.var 1) (.int 0)) (.idx (.var 2) (.int 0))) (.cons (.bin .mul (.idx (.var 1) (.int 1)) (.idx (.var 2) (.int 1))) .nil))) {}))

def l__law_inverse_1 : S :=
      (.for_ (.nm 2) (.rng2 (.int 1) (.var 0))
      (.iff (.cmp .eq (.bin .mod (.bi .int (.cons (.bin .mul (.var 1) (.var 2)) .nil)) (.var 0)) (.int 1))
      (.ret (.var 2) {})
      .skip))
def b__law_inverse : S :=
      (.seq (.iff (.cmp .eq (.var 0) (.int 0))
      (.ret (.ite (.cmp .gt (.idx (.var 1) (.int 0)) (.int 0)) (.call 26 (.cons (.idx (.var 1) (.int 1)) (.cons (.idx (.var 1) (.int 0)) .nil))) (.call 26 (.cons (.neg (.idx (.var 1) (.int 1))) (.cons (.neg (.idx (.var 1) (.int 0))) .nil)))) {})
      .skip)
      (.seq l__law_inverse_1
      (.ret (.int 0) {})))

def b__law_is_number : S :=
      (.seq (.iff (.cmp .gt (.var 0) (.int 0))
      (.ret (.and (.isi (.var 1) .int) (.and (.not (.isi (.var 1) .bool)) (.one (.chain .le .lt (.int 0) (.var 1) (.var 0))))) {})
      .skip)
      (.seq (.iff (.or (.not (.isi (.var 1) .tuple)) (.one (.cmp .ne (.bi .len (.cons (.var 1) .nil)) (.int 2))))
      (.ret (.bl false) {})
      .skip)
      (.seq (.iff (.or (.not (.isi (.idx (.var 1) (.int 0)) .int)) (.one (.not (.isi (.idx (.var 1) (.int 1)) .int))))
      (.ret (.bl false) {})
      .skip)
      (.ret (.and (.cmp .gt (.idx (.var 1) (.int 1)) (.int 0)) (.one (.cmp .eq (.call 25 (.cons (.idx (.var 1) (.int 0)) (.cons (.idx (.var 1) (.int 1)) .nil))) (.int 1)))) {}))))

def b__law_numbers : S :=
      (.seq (.iff (.cmp .gt (.var 0) (.int 0))
      (.ret (.lrng (.rng1 (.var 0))) { own := true })
      .skip)
      (.ret (.lst (.cons (.tup (.cons (.int 0) (.cons (.int 1) .nil))) (.cons (.tup (.cons (.int 1) (.cons (.int 1) .nil))) (.cons (.tup (.cons (.neg (.int 1)) (.cons (.int 1) .nil))) (.cons (.tup (.cons (.int 1) (.cons (.int 2) .nil))) (.cons (.tup (.cons (.int 3) (.cons (.int 1) .nil))) (.cons (.tup (.cons (.neg (.int 2)) (.cons (.int 3) .nil))) (.cons (.tup (.cons (.int 5) (.cons (.int 4) .nil))) (.cons (.tup (.cons (.int 2) (.cons (.int 1) .nil))) (.cons (.tup (.cons (.neg (.int 7)) (.cons (.int 2) .nil))) .nil)))))))))) { own := true }))

def l__law_lists_2 : S :=
      (.while_ (.and (.cmp .gt (.var 8) (.int 1)) (.one (.cmp .gt (.bin .mul (.var 6) (.var 8)) (.var 2))))
      (.asg 8 (.bin .sub (.var 8) (.int 1)) {}))
def l__law_lists_3 : S :=
      (.for_ (.nm 10) (.rng1 (.var 8))
      (.appPop 9 7 (.call 24 (.cons (.var 0) (.cons (.bin .add (.bin .add (.int 3) (.bin .mul (.int 6) (.var 4))) (.var 10)) (.cons (.bi .len (.cons (.var 7) .nil)) .nil))))))
def l__law_lists_1 : S :=
      (.for_ (.nm 4) (.rng1 (.var 3))
      (.seq (.asg 7 (.call 32 (.cons (.var 1) .nil)) { own := true })
      (.seq (.asg 8 (.bin .add (.int 1) (.call 24 (.cons (.var 0) (.cons (.bin .add (.int 2) (.bin .mul (.int 6) (.var 4))) (.cons (.ite (.cmp .eq (.var 3) (.int 1)) (.int 9) (.int 5)) .nil))))) {})
      (.seq (.asg 8 (.bi .min2 (.cons (.var 8) (.cons (.bi .len (.cons (.var 7) .nil)) .nil))) { sh := true })
      (.seq l__law_lists_2
      (.seq (.asg 9 (.lst .nil) { own := true })
      (.seq l__law_lists_3
      (.seq (.frz [9] (.app 5 (.var 9) {}))
      (.asg 6 (.bin .mul (.var 6) (.var 8)) {})))))))))
def b__law_lists : S :=
      (.seq (.par 5 6 (.lst .nil) (.int 1) { own := true } {})
      (.seq (.asg 3 (.bin .add (.int 1) (.call 24 (.cons (.var 0) (.cons (.int 1) (.cons (.int 4) .nil))))) {})
      (.seq l__law_lists_1
      (.frz [5] (.ret (.var 5) {})))))

def c__law_points_3 : E :=
      (.lc (.nm 5) (.var 2) (.bl true) (.bin .add (.var 4) (.tup (.cons (.var 5) .nil))))
def l__law_points_2 : S :=
      (.for_ (.nm 4) (.var 1)
      (.asg 3 (.bin .add (.var 3) c__law_points_3) {}))
def l__law_points_1 : S :=
      (.for_ (.nm 2) (.var 0)
      (.seq (.asg 3 (.lst .nil) {})
      (.seq l__law_points_2
      (.asg 1 (.var 3) {}))))
def b__law_points : S :=
      (.seq (.asg 1 (.lst (.cons (.tup .nil) .nil)) {})
      (.seq l__law_points_1
      (.ret (.var 1) {})))

def l__law_told_1 : S :=
      (.for_ (.nm 5) (.rng1 (.var 3))
      (.seq (.asg 6 (.call 24 (.cons (.var 0) (.cons (.bin .add (.var 1) (.var 5)) (.cons (.int 1000) .nil)))) {})
      (.iff (.cmp .gt (.var 2) (.int 0))
      (.app 4 (.bin .mod (.var 6) (.var 2)) {})
      (.app 4 (.call 26 (.cons (.bin .sub (.bin .mod (.bin .fdiv (.var 6) (.int 5)) (.int 19)) (.int 9)) (.cons (.bin .add (.int 1) (.bin .mod (.var 6) (.int 5))) .nil))) {}))))
def b__law_told : S :=
      (.seq (.asg 4 (.lst .nil) { own := true })
      (.seq l__law_told_1
      (.frz [4] (.ret (.var 4) {}))))

def l__law_weights_3 : S :=
      (.for_ (.nm 7) (.idx (.var 1) (.var 6))
      (.iff (.cmp .ne (.var 7) (.idx (.var 4) (.var 6)))
      (.seq (.asg 8 (.call 28 (.cons (.var 0) (.cons (.idx (.var 4) (.var 6)) (.cons (.call 29 (.cons (.var 0) (.cons (.call 27 (.cons (.var 0) (.cons (.neg (.int 1)) .nil))) (.cons (.var 7) .nil)))) .nil)))) {})
      (.asg 5 (.call 29 (.cons (.var 0) (.cons (.var 5) (.cons (.var 8) .nil)))) {}))
      .skip))
def l__law_weights_2 : S :=
      (.for_ (.nm 6) (.rng1 (.bi .len (.cons (.var 1) .nil)))
      l__law_weights_3)
def l__law_weights_1 : S :=
      (.for_ (.nm 4) (.var 2)
      (.seq (.asg 5 (.call 27 (.cons (.var 0) (.cons (.int 1) .nil))) {})
      (.seq l__law_weights_2
      (.app 3 (.call 30 (.cons (.var 0) (.cons (.var 5) .nil))) {}))))
def b__law_weights : S :=
      (.seq (.asg 3 (.lst .nil) { own := true })
      (.seq l__law_weights_1
      (.frz [3] (.ret (.var 3) {}))))

def l__law_ranking_1 : S :=
      (.for_ (.nm 5) (.rng1 (.var 2))
      (.appPop 4 3 (.bin .mod (.idx (.var 0) (.bin .add (.var 1) (.var 5))) (.bi .len (.cons (.var 3) .nil)))))
def b__law_ranking : S :=
      (.seq (.asg 3 (.lrng (.rng1 (.var 2))) { own := true })
      (.seq (.asg 4 (.lst .nil) { own := true })
      (.seq l__law_ranking_1
      (.frz [4] (.ret (.var 4) {})))))

def l__law_alike_1 : S :=
      (.for_ (.nm 2) (.rng1 (.bi .len (.cons (.var 1) .nil)))
      (.iff (.not (.call 38 (.cons (.idx (.var 0) (.var 2)) (.cons (.idx (.var 1) (.var 2)) .nil))))
      (.ret (.bl false) {})
      .skip))
def b__law_alike : S :=
      (.seq (.iff (.isN (.var 1))
      (.ret (.isN (.var 0)) {})
      .skip)
      (.seq (.iff (.or (.isi (.var 1) .bool) (.one (.isi (.var 0) .bool)))
      (.ret (.and (.isi (.var 1) .bool) (.and (.isi (.var 0) .bool) (.one (.cmp .eq (.var 0) (.var 1))))) {})
      .skip)
      (.seq (.iff (.isi (.var 1) .int)
      (.ret (.and (.isi (.var 0) .int) (.one (.cmp .eq (.var 0) (.var 1)))) {})
      .skip)
      (.seq (.iff (.isi (.var 1) .str)
      (.ret (.and (.isi (.var 0) .str) (.one (.cmp .eq (.var 0) (.var 1)))) {})
      .skip)
      (.seq (.iff (.or (.cmp .ne (.isi (.var 1) .list) (.isi (.var 0) .list)) (.one (.cmp .ne (.isi (.var 1) .tuple) (.isi (.var 0) .tuple))))
      (.ret (.bl false) {})
      .skip)
      (.seq (.iff (.cmp .ne (.bi .len (.cons (.var 0) .nil)) (.bi .len (.cons (.var 1) .nil)))
      (.ret (.bl false) {})
      .skip)
      (.seq l__law_alike_1
      (.ret (.bl true) {}))))))))

def b__law_scale : S :=
      (.seq (.asg 3 (.call 24 (.cons (.var 0) (.cons (.var 1) (.cons (.int 1000) .nil)))) {})
      (.seq (.iff (.cmp .gt (.var 2) (.int 0))
      (.ret (.bin .add (.int 1) (.bin .mod (.bi .int (.cons (.var 3) .nil)) (.bin .sub (.var 2) (.int 1)))) {})
      .skip)
      (.seq (.asg 4 (.bin .add (.int 1) (.bin .mod (.bin .fdiv (.var 3) (.int 4)) (.int 3))) {})
      (.ret (.call 26 (.cons (.ite (.cmp .eq (.bin .mod (.bin .fdiv (.var 3) (.int 2)) (.int 2)) (.int 0)) (.var 4) (.neg (.var 4))) (.cons (.bin .add (.int 1) (.bin .mod (.var 3) (.int 2))) .nil))) {}))))

def b__law_small : S :=
      (.seq (.asg 3 (.call 24 (.cons (.var 0) (.cons (.var 1) (.cons (.int 1000) .nil)))) {})
      (.seq (.iff (.cmp .gt (.var 2) (.int 0))
      (.ret (.bin .mod (.var 3) (.var 2)) {})
      .skip)
      (.ret (.call 26 (.cons (.bin .sub (.bin .mod (.bin .fdiv (.var 3) (.int 2)) (.int 9)) (.int 4)) (.cons (.bin .add (.int 1) (.bin .mod (.var 3) (.int 2))) .nil))) {})))

def l__law_lesser_2 : S :=
      (.for_ (.nm 5) (.rng1 (.bin .add (.int 1) (.call 24 (.cons (.var 0) (.cons (.bin .add (.var 1) (.bin .mul (.int 6) (.var 4))) (.cons (.bi .len (.cons (.idx (.var 2) (.var 4)) .nil)) .nil))))))
      (.appPop 7 6 (.call 24 (.cons (.var 0) (.cons (.bin .add (.bin .add (.bin .add (.var 1) (.bin .mul (.int 6) (.var 4))) (.int 1)) (.var 5)) (.cons (.bi .len (.cons (.var 6) .nil)) .nil))))))
def l__law_lesser_1 : S :=
      (.for_ (.nm 4) (.rng1 (.bi .len (.cons (.var 2) .nil)))
      (.seq (.par 6 7 (.bi .list (.cons (.idx (.var 2) (.var 4)) .nil)) (.lst .nil) { own := true } { own := true })
      (.seq l__law_lesser_2
      (.frz [7] (.app 3 (.var 7) {})))))
def b__law_lesser : S :=
      (.seq (.asg 3 (.lst .nil) { own := true })
      (.seq l__law_lesser_1
      (.frz [3] (.ret (.var 3) {}))))

def c__law_grid_1 : E :=
      (.lc (.nm 2) (.var 1) (.bl true) (.bi .list (.cons (.var 2) .nil)))
def b__law_grid : S :=
      (.ret (.new 14 (.cons (.var 0) (.cons c__law_grid_1 .nil))) {})

def l__law_row_is_1 : S :=
      (.for_ (.nm 3) (.rng1 (.bi .len (.cons (.var 2) .nil)))
      (.iff (.or (.not (.call 31 (.cons (.var 0) (.cons (.idx (.var 1) (.var 3)) .nil)))) (.one (.not (.call 38 (.cons (.idx (.var 1) (.var 3)) (.cons (.idx (.var 2) (.var 3)) .nil))))))
      (.ret (.bl false) {})
      .skip))
def b__law_row_is : S :=
      (.seq (.iff (.or (.not (.isi (.var 1) .list)) (.one (.cmp .ne (.bi .len (.cons (.var 1) .nil)) (.bi .len (.cons (.var 2) .nil)))))
      (.ret (.bl false) {})
      .skip)
      (.seq l__law_row_is_1
      (.ret (.bl true) {})))

def b__law_twice : S :=
      (.seq (.asg 3 (.call 12 (.cons (.var 0) .nil)) { own := true })
      (.seq (.iff (.not (.call 43 (.cons (.var 1) (.cons (.var 3) (.cons (.var 2) .nil)))))
      (.ret (.bl false) {})
      .skip)
      (.seq (.rev 3)
      (.seq (.app 3 (.idx (.var 2) (.int 0)) {})
      (.ret (.call 43 (.cons (.var 1) (.cons (.call 12 (.cons (.var 0) .nil)) (.cons (.var 2) .nil)))) {})))))

def b__law_gap : S :=
      (.ret (.call 28 (.cons (.var 0) (.cons (.var 1) (.cons (.call 29 (.cons (.var 0) (.cons (.call 27 (.cons (.var 0) (.cons (.neg (.int 1)) .nil))) (.cons (.var 2) .nil)))) .nil)))) {})

def l__law_added_1 : S :=
      (.for_ (.nm 4) (.rng1 (.bi .len (.cons (.var 1) .nil)))
      (.asg 3 (.call 28 (.cons (.var 0) (.cons (.var 3) (.cons (.call 29 (.cons (.var 0) (.cons (.idx (.var 1) (.var 4)) (.cons (.idx (.var 2) (.var 4)) .nil)))) .nil)))) {}))
def b__law_added : S :=
      (.seq (.asg 3 (.call 27 (.cons (.var 0) (.cons (.int 0) .nil))) {})
      (.seq l__law_added_1
      (.ret (.var 3) {})))

def l__law_scaled_2 : S :=
      (.for_ (.nm 6) (.rng1 (.bin .sub (.bi .len (.cons (.idx (.var 1) (.var 5)) .nil)) (.int 1)))
      (.asg 4 (.call 29 (.cons (.var 0) (.cons (.var 4) (.cons (.call 30 (.cons (.var 0) (.cons (.idx (.var 2) (.var 5)) .nil))) .nil)))) {}))
def l__law_scaled_1 : S :=
      (.for_ (.nm 5) (.rng1 (.bi .len (.cons (.var 1) .nil)))
      l__law_scaled_2)
def c__law_scaled_3 : E :=
      (.lc (.nm 7) (.var 3) (.bl true) (.call 29 (.cons (.var 0) (.cons (.var 4) (.cons (.var 7) .nil)))))
def b__law_scaled : S :=
      (.seq (.asg 4 (.call 27 (.cons (.var 0) (.cons (.int 1) .nil))) {})
      (.seq l__law_scaled_1
      (.ret c__law_scaled_3 {})))

def l__law_left_out_2 : S :=
      (.for_ (.nm 6) (.idx (.var 1) (.var 5))
      (.iff (.cmp .notin (.var 6) (.idx (.var 2) (.var 5)))
      (.asg 4 (.call 29 (.cons (.var 0) (.cons (.var 4) (.cons (.call 45 (.cons (.var 0) (.cons (.idx (.var 3) (.var 5)) (.cons (.var 6) .nil)))) .nil)))) {})
      .skip))
def l__law_left_out_1 : S :=
      (.for_ (.nm 5) (.rng1 (.bi .len (.cons (.var 1) .nil)))
      l__law_left_out_2)
def b__law_left_out : S :=
      (.seq (.asg 4 (.call 27 (.cons (.var 0) (.cons (.int 1) .nil))) {})
      (.seq l__law_left_out_1
      (.ret (.var 4) {})))

def c__law_products_2 : E :=
      (.lc (.nm 5) (.var 2) (.bl true) (.call 29 (.cons (.var 0) (.cons (.var 4) (.cons (.var 5) .nil)))))
def l__law_products_1 : S :=
      (.for_ (.nm 4) (.var 1)
      (.asg 3 (.bin .add (.var 3) c__law_products_2) {}))
def b__law_products : S :=
      (.seq (.asg 3 (.lst .nil) {})
      (.seq l__law_products_1
      (.ret (.var 3) {})))

def c__law_moved_lists_2 : E :=
      (.lc (.nm 6) (.idx (.var 1) (.var 5)) (.bl true) (.call 28 (.cons (.var 0) (.cons (.call 29 (.cons (.var 0) (.cons (.idx (.var 2) (.var 5)) (.cons (.var 6) .nil)))) (.cons (.idx (.var 3) (.var 5)) .nil)))))
def l__law_moved_lists_1 : S :=
      (.for_ (.nm 5) (.rng1 (.bi .len (.cons (.var 1) .nil)))
      (.app 4 c__law_moved_lists_2 {}))
def b__law_moved_lists : S :=
      (.seq (.asg 4 (.lst .nil) { own := true })
      (.seq l__law_moved_lists_1
      (.frz [4] (.ret (.var 4) {}))))

def c__law_lists_right_2 : E :=
      (.lc (.nm 7) (.idx (.var 1) (.var 4)) (.bl true) (.tup (.cons (.var 7) .nil)))
def l__law_lists_right_1 : S :=
      (.for_ (.nm 4) (.rng1 (.bi .len (.cons (.var 1) .nil)))
      (.seq (.asg 5 (.call 36 (.cons (.var 0) (.cons (.lst (.cons (.idx (.var 1) (.var 4)) .nil)) (.cons c__law_lists_right_2 .nil)))) {})
      (.seq (.asg 6 (.lst (.cons (.bi .list (.cons (.idx (.var 1) (.var 4)) .nil)) (.cons (.bi .list (.cons (.idx (.var 2) (.var 4)) .nil)) .nil))) {})
      (.seq (.iff (.not (.call 43 (.cons (.var 0) (.cons (.call 11 (.cons (.var 0) (.cons (.idx (.var 6) (.int 0)) .nil))) (.cons (.var 5) .nil)))))
      (.ret (.bl false) {})
      .skip)
      (.seq (.iff (.not (.call 43 (.cons (.var 0) (.cons (.call 11 (.cons (.var 0) (.cons (.idx (.var 6) (.int 1)) .nil))) (.cons (.call 47 (.cons (.var 0) (.cons (.lst (.cons (.idx (.var 1) (.var 4)) .nil)) (.cons (.lst (.cons (.idx (.var 3) (.var 4)) .nil)) (.cons (.var 5) .nil))))) .nil)))))
      (.ret (.bl false) {})
      .skip)
      (.iff (.or (.cmp .ne (.var 6) (.lst (.cons (.idx (.var 1) (.var 4)) (.cons (.idx (.var 2) (.var 4)) .nil)))) (.one (.not (.call 43 (.cons (.var 0) (.cons (.call 11 (.cons (.var 0) (.cons (.bi .tuple (.cons (.idx (.var 1) (.var 4)) .nil)) .nil))) (.cons (.var 5) .nil)))))))
      (.ret (.bl false) {})
      .skip))))))
def b__law_lists_right : S :=
      (.seq l__law_lists_right_1
      (.ret (.bl true) {}))

def c_law_1 : E :=
      (.lc (.nm 27) (.rng1 (.var 4)) (.bl true) (.call 39 (.cons (.var 1) (.cons (.bin .add (.int 40) (.var 27)) (.cons (.var 2) .nil)))))
def c_law_2 : E :=
      (.lc (.nm 27) (.rng1 (.var 4)) (.bl true) (.call 40 (.cons (.var 1) (.cons (.bin .add (.int 44) (.var 27)) (.cons (.var 2) .nil)))))
def c_law_3 : E :=
      (.lc (.nm 30) (.var 8) (.bl true) (.idx (.var 3) (.var 30)))
def c_law_5 : E :=
      (.lc (.nm 30) (.var 8) (.bl true) (.idx (.var 28) (.var 30)))
def c_law_4 : E :=
      (.lc (.nm 28) (.var 5) (.bl true) (.index (.var 15) (.bi .tuple (.cons c_law_5 .nil))))
def c_law_6 : E :=
      (.lc (.nm 27) (.rng1 (.bi .len (.cons (.var 5) .nil))) (.bl true) (.idx (.var 9) (.index (.var 16) (.var 27))))
def c_law_7 : E :=
      (.lc (.nm 30) (.var 8) (.bl true) (.sl (.idx (.var 3) (.var 30)) .nil (.int 2)))
def c_law_8 : E :=
      (.lc (.nm 29) (.var 21) (.bl true) (.call 29 (.cons (.var 2) (.cons (.idx (.var 9) (.index (.var 5) (.var 29))) (.cons (.call 48 (.cons (.var 2) (.cons (.var 3) (.cons (.var 20) (.cons (.var 29) .nil))))) .nil)))))
def b_law : S :=
      (.seq (.asg 1 (.call 23 (.cons (.var 0) (.cons (.int 160) .nil))) {})
      (.seq (.asg 2 (.idx (.tup (.cons (.int 2) (.cons (.int 3) (.cons (.int 5) (.cons (.int 7) (.cons (.int 11) (.cons (.int 0) .nil))))))) (.call 24 (.cons (.var 1) (.cons (.int 0) (.cons (.int 6) .nil))))) {})
      (.seq (.asg 3 (.call 33 (.cons (.var 1) (.cons (.var 2) (.cons (.ite (.cmp .gt (.var 2) (.int 0)) (.int 16) (.int 8)) .nil)))) {})
      (.seq (.asg 4 (.bi .len (.cons (.var 3) .nil)) {})
      (.seq (.asg 5 (.call 34 (.cons (.var 3) .nil)) {})
      (.seq (.asg 6 c_law_1 {})
      (.seq (.asg 7 c_law_2 {})
      (.seq (.asg 8 (.call 37 (.cons (.var 1) (.cons (.int 48) (.cons (.var 4) .nil)))) {})
      (.seq (.asg 9 (.call 36 (.cons (.var 2) (.cons (.var 3) (.cons (.var 5) .nil)))) {})
      (.seq (.asg 10 (.call 42 (.cons (.var 2) (.cons (.var 3) .nil))) {})
      (.seq (.iff (.not (.call 44 (.cons (.var 10) (.cons (.var 2) (.cons (.var 9) .nil)))))
      (.ret (.bl false) {})
      .skip)
      (.seq (.asg 11 (.call 50 (.cons (.var 2) (.cons (.var 3) (.cons (.var 6) (.cons (.var 7) .nil))))) {})
      (.seq (.iff (.not (.call 51 (.cons (.var 2) (.cons (.var 3) (.cons (.var 11) (.cons (.var 6) .nil))))))
      (.ret (.bl false) {})
      .skip)
      (.seq (.asg 12 (.call 18 (.cons (.var 10) (.cons (.bi .list (.cons (.var 6) .nil)) (.cons (.bi .tuple (.cons (.var 7) .nil)) .nil)))) {})
      (.seq (.asg 13 (.call 47 (.cons (.var 2) (.cons (.var 3) (.cons (.var 6) (.cons (.var 9) .nil))))) {})
      (.seq (.iff (.not (.call 44 (.cons (.var 12) (.cons (.var 2) (.cons (.var 13) .nil)))))
      (.ret (.bl false) {})
      .skip)
      (.seq (.asg 14 (.call 19 (.cons (.var 10) (.cons (.bi .list (.cons (.var 8) .nil)) .nil))) {})
      (.seq (.asg 15 (.call 34 (.cons c_law_3 .nil)) {})
      (.seq (.asg 16 c_law_4 {})
      (.seq (.asg 17 c_law_6 {})
      (.seq (.iff (.not (.call 44 (.cons (.var 14) (.cons (.var 2) (.cons (.var 17) .nil)))))
      (.ret (.bl false) {})
      .skip)
      (.seq (.asg 18 (.sl c_law_7 .nil (.int 2)) {})
      (.seq (.asg 19 (.call 36 (.cons (.var 2) (.cons (.var 18) (.cons (.call 34 (.cons (.var 18) .nil)) .nil)))) {})
      (.seq (.iff (.not (.call 44 (.cons (.call 22 (.cons (.var 10) (.cons (.call 42 (.cons (.var 2) (.cons (.var 18) .nil))) .nil))) (.cons (.var 2) (.cons (.call 49 (.cons (.var 2) (.cons (.var 9) (.cons (.var 19) .nil)))) .nil)))))
      (.ret (.bl false) {})
      .skip)
      (.seq (.iff (.not (.call 44 (.cons (.call 22 (.cons (.call 42 (.cons (.var 2) (.cons (.var 18) .nil))) (.cons (.var 12) .nil))) (.cons (.var 2) (.cons (.call 49 (.cons (.var 2) (.cons (.var 19) (.cons (.var 13) .nil)))) .nil)))))
      (.ret (.bl false) {})
      .skip)
      (.seq (.asg 20 (.call 41 (.cons (.var 1) (.cons (.int 60) (.cons (.var 3) .nil)))) {})
      (.seq (.asg 21 (.call 34 (.cons (.var 20) .nil)) {})
      (.seq (.asg 22 c_law_8 {})
      (.seq (.iff (.not (.call 44 (.cons (.call 42 (.cons (.var 2) (.cons (.var 20) .nil))) (.cons (.var 2) (.cons (.var 22) .nil)))))
      (.ret (.bl false) {})
      .skip)
      (.seq (.asg 23 (.call 35 (.cons (.var 1) (.cons (.int 90) (.cons (.var 2) (.cons (.bi .len (.cons (.var 5) .nil)) .nil))))) {})
      (.seq (.asg 24 (.bi .list (.cons (.var 23) .nil)) {})
      (.seq (.asg 25 (.lst (.cons (.call 13 (.cons (.var 10) (.cons (.var 24) .nil))) (.cons (.call 13 (.cons (.var 12) (.cons (.var 24) .nil))) .nil))) { own := true })
      (.seq (.app 25 (.call 13 (.cons (.var 14) (.cons (.call 20 (.cons (.var 10) (.cons (.bi .list (.cons (.var 8) .nil)) (.cons (.var 24) .nil)))) .nil))) {})
      (.seq (.asg 26 (.call 46 (.cons (.var 2) (.cons (.var 9) (.cons (.var 23) .nil)))) {})
      (.seq (.iff (.not (.call 43 (.cons (.var 2) (.cons (.var 25) (.cons (.bin .add (.bin .add (.lst (.cons (.var 26) .nil)) (.call 47 (.cons (.var 2) (.cons (.var 3) (.cons (.var 6) (.cons (.lst (.cons (.var 26) .nil)) .nil)))))) (.lst (.cons (.var 26) .nil))) .nil)))))
      (.ret (.bl false) {})
      .skip)
      (.ret (.and (.cmp .eq (.var 24) (.var 23)) (.one (.call 44 (.cons (.var 10) (.cons (.var 2) (.cons (.var 9) .nil)))))) {}))))))))))))))))))))))))))))))))))))

def f_check_field : Fn := { name := "check_field", ps := ["prime"], names := ["prime"], body := b_check_field }
def f_lowest : Fn := { name := "lowest", ps := ["n", "d"], names := ["n", "d", "common"], body := b_lowest }
def f_is_integer : Fn := { name := "is_integer", ps := ["value"], names := ["value"], body := b_is_integer }
def f_is_number : Fn := { name := "is_number", ps := ["prime", "value"], names := ["prime", "value"], body := b_is_number }
def f_number_of : Fn := { name := "number_of", ps := ["prime", "n"], names := ["prime", "n"], body := b_number_of }
def f_add : Fn := { name := "add", ps := ["prime", "a", "b"], names := ["prime", "a", "b"], body := b_add }
def f_negate : Fn := { name := "negate", ps := ["prime", "a"], names := ["prime", "a"], body := b_negate }
def f_subtract : Fn := { name := "subtract", ps := ["prime", "a", "b"], names := ["prime", "a", "b"], body := b_subtract }
def f_multiply : Fn := { name := "multiply", ps := ["prime", "a", "b"], names := ["prime", "a", "b"], body := b_multiply }
def f_invert : Fn := { name := "invert", ps := ["prime", "a"], names := ["prime", "a", "inverse"], body := b_invert }
def f_dot : Fn := { name := "dot", ps := ["prime", "row", "other"], names := ["prime", "row", "other", "total", "a", "b"], body := b_dot }
def f_list_weights : Fn := { name := "list_weights", ps := ["prime", "numbers"], names := ["prime", "numbers", "weights", "value", "differences", "other"], body := b_list_weights, fr := true }
def f_grid_weights : Fn := { name := "grid_weights", ps := ["grid"], names := ["grid", "weights", "numbers", "factors", "weight", "factor"], body := b_grid_weights, fr := true }
def f_weighed_sum : Fn := { name := "weighed_sum", ps := ["grid", "values"], names := ["grid", "values"], body := b_weighed_sum }
def f_Grid_init : Fn := { name := "__init__", ps := ["self", "prime", "lists"], names := ["self", "prime", "lists", "numbers", "length"], body := b_Grid_init, init := some "Grid" }
def f_check_lists : Fn := { name := "check_lists", ps := ["prime", "lists"], names := ["prime", "lists", "numbers", "size", "value", "index"], body := b_check_lists }
def f_list_points : Fn := { name := "list_points", ps := ["lists"], names := ["lists", "points", "numbers", "point", "value"], body := b_list_points }
def f_check_scales : Fn := { name := "check_scales", ps := ["prime", "scales"], names := ["prime", "scales"], body := b_check_scales }
def f_moved : Fn := { name := "moved", ps := ["grid", "scales", "shifts"], names := ["grid", "scales", "shifts", "lists", "numbers", "scale", "shift", "number"], body := b_moved }
def f_renamed : Fn := { name := "renamed", ps := ["grid", "ranking"], names := ["grid", "ranking", "letter"], body := b_renamed }
def f_renamed_values : Fn := { name := "renamed_values", ps := ["grid", "ranking", "values"], names := ["grid", "ranking", "values", "found", "point", "value", "letter"], body := b_renamed_values }
def f_check_fields : Fn := { name := "check_fields", ps := ["first", "second"], names := ["first", "second"], body := b_check_fields }
def f_joined : Fn := { name := "joined", ps := ["first", "second"], names := ["first", "second"], body := b_joined }
def f__law_pool : Fn := { name := "_law_pool", ps := ["script", "count"], names := ["script", "count", "pool", "total", "cell", "k", "left", "mixed"], body := b__law_pool }
def f__law_draw : Fn := { name := "_law_draw", ps := ["pool", "at", "many"], names := ["pool", "at", "many"], body := b__law_draw }
def f__law_common : Fn := { name := "_law_common", ps := ["a", "b"], names := ["a", "b"], body := b__law_common }
def f__law_lowest : Fn := { name := "_law_lowest", ps := ["n", "d"], names := ["n", "d", "common"], body := b__law_lowest }
def f__law_integer : Fn := { name := "_law_integer", ps := ["prime", "n"], names := ["prime", "n"], body := b__law_integer }
def f__law_sum : Fn := { name := "_law_sum", ps := ["prime", "a", "b"], names := ["prime", "a", "b"], body := b__law_sum }
def f__law_times : Fn := { name := "_law_times", ps := ["prime", "a", "b"], names := ["prime", "a", "b"], body := b__law_times }
def f__law_inverse : Fn := { name := "_law_inverse", ps := ["prime", "a"], names := ["prime", "a", "k"], body := b__law_inverse }
def f__law_is_number : Fn := { name := "_law_is_number", ps := ["prime", "value"], names := ["prime", "value"], body := b__law_is_number }
def f__law_numbers : Fn := { name := "_law_numbers", ps := ["prime"], names := ["prime"], body := b__law_numbers, fr := true }
def f__law_lists : Fn := { name := "_law_lists", ps := ["pool", "prime", "most"], names := ["pool", "prime", "most", "letters", "k", "lists", "size", "left", "many", "numbers", "j"], body := b__law_lists }
def f__law_points : Fn := { name := "_law_points", ps := ["lists"], names := ["lists", "points", "numbers", "wider", "point", "value"], body := b__law_points }
def f__law_told : Fn := { name := "_law_told", ps := ["pool", "at", "prime", "many"], names := ["pool", "at", "prime", "many", "told", "k", "cell"], body := b__law_told }
def f__law_weights : Fn := { name := "_law_weights", ps := ["prime", "lists", "points"], names := ["prime", "lists", "points", "weights", "point", "made", "k", "other", "gap"], body := b__law_weights }
def f__law_ranking : Fn := { name := "_law_ranking", ps := ["pool", "at", "many"], names := ["pool", "at", "many", "left", "ranking", "k"], body := b__law_ranking }
def f__law_alike : Fn := { name := "_law_alike", ps := ["actual", "due"], names := ["actual", "due", "k"], body := b__law_alike }
def f__law_scale : Fn := { name := "_law_scale", ps := ["pool", "at", "prime"], names := ["pool", "at", "prime", "cell", "n"], body := b__law_scale }
def f__law_small : Fn := { name := "_law_small", ps := ["pool", "at", "prime"], names := ["pool", "at", "prime", "cell"], body := b__law_small }
def f__law_lesser : Fn := { name := "_law_lesser", ps := ["pool", "at", "lists"], names := ["pool", "at", "lists", "lower", "k", "j", "left", "numbers"], body := b__law_lesser }
def f__law_grid : Fn := { name := "_law_grid", ps := ["prime", "lists"], names := ["prime", "lists", "numbers"], body := b__law_grid }
def f__law_row_is : Fn := { name := "_law_row_is", ps := ["prime", "actual", "due"], names := ["prime", "actual", "due", "k"], body := b__law_row_is }
def f__law_twice : Fn := { name := "_law_twice", ps := ["grid", "prime", "due"], names := ["grid", "prime", "due", "row"], body := b__law_twice }
def f__law_gap : Fn := { name := "_law_gap", ps := ["prime", "a", "b"], names := ["prime", "a", "b"], body := b__law_gap }
def f__law_added : Fn := { name := "_law_added", ps := ["prime", "weights", "values"], names := ["prime", "weights", "values", "total", "k"], body := b__law_added }
def f__law_scaled : Fn := { name := "_law_scaled", ps := ["prime", "lists", "scales", "weights"], names := ["prime", "lists", "scales", "weights", "made", "k", "j", "weight"], body := b__law_scaled }
def f__law_left_out : Fn := { name := "_law_left_out", ps := ["prime", "lists", "lower", "point"], names := ["prime", "lists", "lower", "point", "made", "k", "value"], body := b__law_left_out }
def f__law_products : Fn := { name := "_law_products", ps := ["prime", "first", "second"], names := ["prime", "first", "second", "row", "weight", "other"], body := b__law_products }
def f__law_moved_lists : Fn := { name := "_law_moved_lists", ps := ["prime", "lists", "scales", "shifts"], names := ["prime", "lists", "scales", "shifts", "made", "k", "value"], body := b__law_moved_lists }
def f__law_lists_right : Fn := { name := "_law_lists_right", ps := ["prime", "lists", "places", "scales"], names := ["prime", "lists", "places", "scales", "k", "due", "passed", "value"], body := b__law_lists_right }
def f_law : Fn := { name := "law", ps := ["script"], names := ["script", "pool", "prime", "lists", "letters", "points", "scales", "shifts", "ranking", "weights", "grid", "places", "high", "scaled", "turned", "others", "home", "along", "few", "small", "lower", "rows", "due", "values", "passed", "sums", "total", "k", "point", "row", "letter"], body := b_law }
abbrev i_check_field : Nat := 0
abbrev i_lowest : Nat := 1
abbrev i_is_integer : Nat := 2
abbrev i_is_number : Nat := 3
abbrev i_number_of : Nat := 4
abbrev i_add : Nat := 5
abbrev i_negate : Nat := 6
abbrev i_subtract : Nat := 7
abbrev i_multiply : Nat := 8
abbrev i_invert : Nat := 9
abbrev i_dot : Nat := 10
abbrev i_list_weights : Nat := 11
abbrev i_grid_weights : Nat := 12
abbrev i_weighed_sum : Nat := 13
abbrev i_Grid_init : Nat := 14
abbrev i_check_lists : Nat := 15
abbrev i_list_points : Nat := 16
abbrev i_check_scales : Nat := 17
abbrev i_moved : Nat := 18
abbrev i_renamed : Nat := 19
abbrev i_renamed_values : Nat := 20
abbrev i_check_fields : Nat := 21
abbrev i_joined : Nat := 22
abbrev i__law_pool : Nat := 23
abbrev i__law_draw : Nat := 24
abbrev i__law_common : Nat := 25
abbrev i__law_lowest : Nat := 26
abbrev i__law_integer : Nat := 27
abbrev i__law_sum : Nat := 28
abbrev i__law_times : Nat := 29
abbrev i__law_inverse : Nat := 30
abbrev i__law_is_number : Nat := 31
abbrev i__law_numbers : Nat := 32
abbrev i__law_lists : Nat := 33
abbrev i__law_points : Nat := 34
abbrev i__law_told : Nat := 35
abbrev i__law_weights : Nat := 36
abbrev i__law_ranking : Nat := 37
abbrev i__law_alike : Nat := 38
abbrev i__law_scale : Nat := 39
abbrev i__law_small : Nat := 40
abbrev i__law_lesser : Nat := 41
abbrev i__law_grid : Nat := 42
abbrev i__law_row_is : Nat := 43
abbrev i__law_twice : Nat := 44
abbrev i__law_gap : Nat := 45
abbrev i__law_added : Nat := 46
abbrev i__law_scaled : Nat := 47
abbrev i__law_left_out : Nat := 48
abbrev i__law_products : Nat := 49
abbrev i__law_moved_lists : Nat := 50
abbrev i__law_lists_right : Nat := 51
abbrev i_law : Nat := 52
def tb : List Fn := [f_check_field, f_lowest, f_is_integer, f_is_number, f_number_of, f_add, f_negate, f_subtract, f_multiply, f_invert, f_dot, f_list_weights, f_grid_weights, f_weighed_sum, f_Grid_init, f_check_lists, f_list_points, f_check_scales, f_moved, f_renamed, f_renamed_values, f_check_fields, f_joined, f__law_pool, f__law_draw, f__law_common, f__law_lowest, f__law_integer, f__law_sum, f__law_times, f__law_inverse, f__law_is_number, f__law_numbers, f__law_lists, f__law_points, f__law_told, f__law_weights, f__law_ranking, f__law_alike, f__law_scale, f__law_small, f__law_lesser, f__law_grid, f__law_row_is, f__law_twice, f__law_gap, f__law_added, f__law_scaled, f__law_left_out, f__law_products, f__law_moved_lists, f__law_lists_right, f_law]
def wd : Wd := { gcd := true, gl := [("PRIMES", [2, 3, 5, 7, 11])], ats := [("Grid", "prime"), ("Grid", "lists"), ("Grid", "letters"), ("Grid", "lengths"), ("Grid", "top"), ("Grid", "full_degree"), ("Grid", "points"), ("Grid", "size")], cns := [("Grid", "MOST_LETTERS", 6), ("Grid", "MOST_NUMBERS", 12), ("Grid", "MOST_POINTS", 64)], its := [("Grid", "points")] }
theorem ck_check_field : chkS (ckOf tb wd ["prime"]) (defScope (top 13)) b_check_field (.blk (defBody (top 13))) = true := by decide +kernel
theorem sc_check_field : FnScope ["prime"] ["prime"] (defScope (top 13)) := ⟨rfl, rfl, rfl, by decide +kernel, rfl, by decide +kernel, by decide +kernel⟩
theorem ck_lowest : chkS (ckOf tb wd ["n", "d", "common"]) (defScope (top 14)) b_lowest (.blk (defBody (top 14))) = true := by decide +kernel
theorem sc_lowest : FnScope ["n", "d", "common"] ["n", "d"] (defScope (top 14)) := ⟨rfl, rfl, rfl, by decide +kernel, rfl, by decide +kernel, by decide +kernel⟩
theorem ck_is_integer : chkS (ckOf tb wd ["value"]) (defScope (top 15)) b_is_integer (.blk (defBody (top 15))) = true := by decide +kernel
theorem sc_is_integer : FnScope ["value"] ["value"] (defScope (top 15)) := ⟨rfl, rfl, rfl, by decide +kernel, rfl, by decide +kernel, by decide +kernel⟩
theorem ck_is_number : chkS (ckOf tb wd ["prime", "value"]) (defScope (top 16)) b_is_number (.blk (defBody (top 16))) = true := by decide +kernel
theorem sc_is_number : FnScope ["prime", "value"] ["prime", "value"] (defScope (top 16)) := ⟨rfl, rfl, rfl, by decide +kernel, rfl, by decide +kernel, by decide +kernel⟩
theorem ck_number_of : chkS (ckOf tb wd ["prime", "n"]) (defScope (top 17)) b_number_of (.blk (defBody (top 17))) = true := by decide +kernel
theorem sc_number_of : FnScope ["prime", "n"] ["prime", "n"] (defScope (top 17)) := ⟨rfl, rfl, rfl, by decide +kernel, rfl, by decide +kernel, by decide +kernel⟩
theorem ck_add : chkS (ckOf tb wd ["prime", "a", "b"]) (defScope (top 18)) b_add (.blk (defBody (top 18))) = true := by decide +kernel
theorem sc_add : FnScope ["prime", "a", "b"] ["prime", "a", "b"] (defScope (top 18)) := ⟨rfl, rfl, rfl, by decide +kernel, rfl, by decide +kernel, by decide +kernel⟩
theorem ck_negate : chkS (ckOf tb wd ["prime", "a"]) (defScope (top 19)) b_negate (.blk (defBody (top 19))) = true := by decide +kernel
theorem sc_negate : FnScope ["prime", "a"] ["prime", "a"] (defScope (top 19)) := ⟨rfl, rfl, rfl, by decide +kernel, rfl, by decide +kernel, by decide +kernel⟩
theorem ck_subtract : chkS (ckOf tb wd ["prime", "a", "b"]) (defScope (top 20)) b_subtract (.blk (defBody (top 20))) = true := by decide +kernel
theorem sc_subtract : FnScope ["prime", "a", "b"] ["prime", "a", "b"] (defScope (top 20)) := ⟨rfl, rfl, rfl, by decide +kernel, rfl, by decide +kernel, by decide +kernel⟩
theorem ck_multiply : chkS (ckOf tb wd ["prime", "a", "b"]) (defScope (top 21)) b_multiply (.blk (defBody (top 21))) = true := by decide +kernel
theorem sc_multiply : FnScope ["prime", "a", "b"] ["prime", "a", "b"] (defScope (top 21)) := ⟨rfl, rfl, rfl, by decide +kernel, rfl, by decide +kernel, by decide +kernel⟩
theorem ck_invert : chkS (ckOf tb wd ["prime", "a", "inverse"]) (defScope (top 22)) b_invert (.blk (defBody (top 22))) = true := by decide +kernel
theorem sc_invert : FnScope ["prime", "a", "inverse"] ["prime", "a"] (defScope (top 22)) := ⟨rfl, rfl, rfl, by decide +kernel, rfl, by decide +kernel, by decide +kernel⟩
theorem ck_dot : chkS (ckOf tb wd ["prime", "row", "other", "total", "a", "b"]) (defScope (top 23)) b_dot (.blk (defBody (top 23))) = true := by decide +kernel
theorem sc_dot : FnScope ["prime", "row", "other", "total", "a", "b"] ["prime", "row", "other"] (defScope (top 23)) := ⟨rfl, rfl, rfl, by decide +kernel, rfl, by decide +kernel, by decide +kernel⟩
theorem ck_list_weights : chkS (ckOf tb wd ["prime", "numbers", "weights", "value", "differences", "other"]) (defScope (top 25)) b_list_weights (.blk (defBody (top 25))) = true := by decide +kernel
theorem sc_list_weights : FnScope ["prime", "numbers", "weights", "value", "differences", "other"] ["prime", "numbers"] (defScope (top 25)) := ⟨rfl, rfl, rfl, by decide +kernel, rfl, by decide +kernel, by decide +kernel⟩
theorem ck_grid_weights : chkS (ckOf tb wd ["grid", "weights", "numbers", "factors", "weight", "factor"]) (defScope (top 26)) b_grid_weights (.blk (defBody (top 26))) = true := by decide +kernel
theorem sc_grid_weights : FnScope ["grid", "weights", "numbers", "factors", "weight", "factor"] ["grid"] (defScope (top 26)) := ⟨rfl, rfl, rfl, by decide +kernel, rfl, by decide +kernel, by decide +kernel⟩
theorem ck_weighed_sum : chkS (ckOf tb wd ["grid", "values"]) (defScope (top 27)) b_weighed_sum (.blk (defBody (top 27))) = true := by decide +kernel
theorem sc_weighed_sum : FnScope ["grid", "values"] ["grid", "values"] (defScope (top 27)) := ⟨rfl, rfl, rfl, by decide +kernel, rfl, by decide +kernel, by decide +kernel⟩
theorem ck_Grid_init : chkS (ckOf tb wd ["self", "prime", "lists", "numbers", "length"]) (defScope (topc 29 3)) b_Grid_init (.blk (defBody (topc 29 3))) = true := by decide +kernel
theorem sc_Grid_init : FnScope ["self", "prime", "lists", "numbers", "length"] ["self", "prime", "lists"] (defScope (topc 29 3)) := ⟨rfl, rfl, rfl, by decide +kernel, rfl, by decide +kernel, by decide +kernel⟩
theorem ck_check_lists : chkS (ckOf tb wd ["prime", "lists", "numbers", "size", "value", "index"]) (defScope (top 30)) b_check_lists (.blk (defBody (top 30))) = true := by decide +kernel
theorem sc_check_lists : FnScope ["prime", "lists", "numbers", "size", "value", "index"] ["prime", "lists"] (defScope (top 30)) := ⟨rfl, rfl, rfl, by decide +kernel, rfl, by decide +kernel, by decide +kernel⟩
theorem ck_list_points : chkS (ckOf tb wd ["lists", "points", "numbers", "point", "value"]) (defScope (top 31)) b_list_points (.blk (defBody (top 31))) = true := by decide +kernel
theorem sc_list_points : FnScope ["lists", "points", "numbers", "point", "value"] ["lists"] (defScope (top 31)) := ⟨rfl, rfl, rfl, by decide +kernel, rfl, by decide +kernel, by decide +kernel⟩
theorem ck_check_scales : chkS (ckOf tb wd ["prime", "scales"]) (defScope (top 33)) b_check_scales (.blk (defBody (top 33))) = true := by decide +kernel
theorem sc_check_scales : FnScope ["prime", "scales"] ["prime", "scales"] (defScope (top 33)) := ⟨rfl, rfl, rfl, by decide +kernel, rfl, by decide +kernel, by decide +kernel⟩
theorem ck_moved : chkS (ckOf tb wd ["grid", "scales", "shifts", "lists", "numbers", "scale", "shift", "number"]) (defScope (top 34)) b_moved (.blk (defBody (top 34))) = true := by decide +kernel
theorem sc_moved : FnScope ["grid", "scales", "shifts", "lists", "numbers", "scale", "shift", "number"] ["grid", "scales", "shifts"] (defScope (top 34)) := ⟨rfl, rfl, rfl, by decide +kernel, rfl, by decide +kernel, by decide +kernel⟩
theorem ck_renamed : chkS (ckOf tb wd ["grid", "ranking", "letter"]) (defScope (top 35)) b_renamed (.blk (defBody (top 35))) = true := by decide +kernel
theorem sc_renamed : FnScope ["grid", "ranking", "letter"] ["grid", "ranking"] (defScope (top 35)) := ⟨rfl, rfl, rfl, by decide +kernel, rfl, by decide +kernel, by decide +kernel⟩
theorem ck_renamed_values : chkS (ckOf tb wd ["grid", "ranking", "values", "found", "point", "value", "letter"]) (defScope (top 36)) b_renamed_values (.blk (defBody (top 36))) = true := by decide +kernel
theorem sc_renamed_values : FnScope ["grid", "ranking", "values", "found", "point", "value", "letter"] ["grid", "ranking", "values"] (defScope (top 36)) := ⟨rfl, rfl, rfl, by decide +kernel, rfl, by decide +kernel, by decide +kernel⟩
theorem ck_check_fields : chkS (ckOf tb wd ["first", "second"]) (defScope (top 37)) b_check_fields (.blk (defBody (top 37))) = true := by decide +kernel
theorem sc_check_fields : FnScope ["first", "second"] ["first", "second"] (defScope (top 37)) := ⟨rfl, rfl, rfl, by decide +kernel, rfl, by decide +kernel, by decide +kernel⟩
theorem ck_joined : chkS (ckOf tb wd ["first", "second"]) (defScope (top 38)) b_joined (.blk (defBody (top 38))) = true := by decide +kernel
theorem sc_joined : FnScope ["first", "second"] ["first", "second"] (defScope (top 38)) := ⟨rfl, rfl, rfl, by decide +kernel, rfl, by decide +kernel, by decide +kernel⟩
theorem ck__law_pool : chkS (ckOf tb wd ["script", "count", "pool", "total", "cell", "k", "left", "mixed"]) (defScope (top 40)) b__law_pool (.blk (defBody (top 40))) = true := by decide +kernel
theorem sc__law_pool : FnScope ["script", "count", "pool", "total", "cell", "k", "left", "mixed"] ["script", "count"] (defScope (top 40)) := ⟨rfl, rfl, rfl, by decide +kernel, rfl, by decide +kernel, by decide +kernel⟩
theorem ck__law_draw : chkS (ckOf tb wd ["pool", "at", "many"]) (defScope (top 41)) b__law_draw (.blk (defBody (top 41))) = true := by decide +kernel
theorem sc__law_draw : FnScope ["pool", "at", "many"] ["pool", "at", "many"] (defScope (top 41)) := ⟨rfl, rfl, rfl, by decide +kernel, rfl, by decide +kernel, by decide +kernel⟩
theorem ck__law_common : chkS (ckOf tb wd ["a", "b"]) (defScope (top 42)) b__law_common (.blk (defBody (top 42))) = true := by decide +kernel
theorem sc__law_common : FnScope ["a", "b"] ["a", "b"] (defScope (top 42)) := ⟨rfl, rfl, rfl, by decide +kernel, rfl, by decide +kernel, by decide +kernel⟩
theorem ck__law_lowest : chkS (ckOf tb wd ["n", "d", "common"]) (defScope (top 43)) b__law_lowest (.blk (defBody (top 43))) = true := by decide +kernel
theorem sc__law_lowest : FnScope ["n", "d", "common"] ["n", "d"] (defScope (top 43)) := ⟨rfl, rfl, rfl, by decide +kernel, rfl, by decide +kernel, by decide +kernel⟩
theorem ck__law_integer : chkS (ckOf tb wd ["prime", "n"]) (defScope (top 44)) b__law_integer (.blk (defBody (top 44))) = true := by decide +kernel
theorem sc__law_integer : FnScope ["prime", "n"] ["prime", "n"] (defScope (top 44)) := ⟨rfl, rfl, rfl, by decide +kernel, rfl, by decide +kernel, by decide +kernel⟩
theorem ck__law_sum : chkS (ckOf tb wd ["prime", "a", "b"]) (defScope (top 45)) b__law_sum (.blk (defBody (top 45))) = true := by decide +kernel
theorem sc__law_sum : FnScope ["prime", "a", "b"] ["prime", "a", "b"] (defScope (top 45)) := ⟨rfl, rfl, rfl, by decide +kernel, rfl, by decide +kernel, by decide +kernel⟩
theorem ck__law_times : chkS (ckOf tb wd ["prime", "a", "b"]) (defScope (top 46)) b__law_times (.blk (defBody (top 46))) = true := by decide +kernel
theorem sc__law_times : FnScope ["prime", "a", "b"] ["prime", "a", "b"] (defScope (top 46)) := ⟨rfl, rfl, rfl, by decide +kernel, rfl, by decide +kernel, by decide +kernel⟩
theorem ck__law_inverse : chkS (ckOf tb wd ["prime", "a", "k"]) (defScope (top 47)) b__law_inverse (.blk (defBody (top 47))) = true := by decide +kernel
theorem sc__law_inverse : FnScope ["prime", "a", "k"] ["prime", "a"] (defScope (top 47)) := ⟨rfl, rfl, rfl, by decide +kernel, rfl, by decide +kernel, by decide +kernel⟩
theorem ck__law_is_number : chkS (ckOf tb wd ["prime", "value"]) (defScope (top 48)) b__law_is_number (.blk (defBody (top 48))) = true := by decide +kernel
theorem sc__law_is_number : FnScope ["prime", "value"] ["prime", "value"] (defScope (top 48)) := ⟨rfl, rfl, rfl, by decide +kernel, rfl, by decide +kernel, by decide +kernel⟩
theorem ck__law_numbers : chkS (ckOf tb wd ["prime"]) (defScope (top 49)) b__law_numbers (.blk (defBody (top 49))) = true := by decide +kernel
theorem sc__law_numbers : FnScope ["prime"] ["prime"] (defScope (top 49)) := ⟨rfl, rfl, rfl, by decide +kernel, rfl, by decide +kernel, by decide +kernel⟩
theorem ck__law_lists : chkS (ckOf tb wd ["pool", "prime", "most", "letters", "k", "lists", "size", "left", "many", "numbers", "j"]) (defScope (top 50)) b__law_lists (.blk (defBody (top 50))) = true := by decide +kernel
theorem sc__law_lists : FnScope ["pool", "prime", "most", "letters", "k", "lists", "size", "left", "many", "numbers", "j"] ["pool", "prime", "most"] (defScope (top 50)) := ⟨rfl, rfl, rfl, by decide +kernel, rfl, by decide +kernel, by decide +kernel⟩
theorem ck__law_points : chkS (ckOf tb wd ["lists", "points", "numbers", "wider", "point", "value"]) (defScope (top 51)) b__law_points (.blk (defBody (top 51))) = true := by decide +kernel
theorem sc__law_points : FnScope ["lists", "points", "numbers", "wider", "point", "value"] ["lists"] (defScope (top 51)) := ⟨rfl, rfl, rfl, by decide +kernel, rfl, by decide +kernel, by decide +kernel⟩
theorem ck__law_told : chkS (ckOf tb wd ["pool", "at", "prime", "many", "told", "k", "cell"]) (defScope (top 52)) b__law_told (.blk (defBody (top 52))) = true := by decide +kernel
theorem sc__law_told : FnScope ["pool", "at", "prime", "many", "told", "k", "cell"] ["pool", "at", "prime", "many"] (defScope (top 52)) := ⟨rfl, rfl, rfl, by decide +kernel, rfl, by decide +kernel, by decide +kernel⟩
theorem ck__law_weights : chkS (ckOf tb wd ["prime", "lists", "points", "weights", "point", "made", "k", "other", "gap"]) (defScope (top 53)) b__law_weights (.blk (defBody (top 53))) = true := by decide +kernel
theorem sc__law_weights : FnScope ["prime", "lists", "points", "weights", "point", "made", "k", "other", "gap"] ["prime", "lists", "points"] (defScope (top 53)) := ⟨rfl, rfl, rfl, by decide +kernel, rfl, by decide +kernel, by decide +kernel⟩
theorem ck__law_ranking : chkS (ckOf tb wd ["pool", "at", "many", "left", "ranking", "k"]) (defScope (top 54)) b__law_ranking (.blk (defBody (top 54))) = true := by decide +kernel
theorem sc__law_ranking : FnScope ["pool", "at", "many", "left", "ranking", "k"] ["pool", "at", "many"] (defScope (top 54)) := ⟨rfl, rfl, rfl, by decide +kernel, rfl, by decide +kernel, by decide +kernel⟩
theorem ck__law_alike : chkS (ckOf tb wd ["actual", "due", "k"]) (defScope (top 55)) b__law_alike (.blk (defBody (top 55))) = true := by decide +kernel
theorem sc__law_alike : FnScope ["actual", "due", "k"] ["actual", "due"] (defScope (top 55)) := ⟨rfl, rfl, rfl, by decide +kernel, rfl, by decide +kernel, by decide +kernel⟩
theorem ck__law_scale : chkS (ckOf tb wd ["pool", "at", "prime", "cell", "n"]) (defScope (top 56)) b__law_scale (.blk (defBody (top 56))) = true := by decide +kernel
theorem sc__law_scale : FnScope ["pool", "at", "prime", "cell", "n"] ["pool", "at", "prime"] (defScope (top 56)) := ⟨rfl, rfl, rfl, by decide +kernel, rfl, by decide +kernel, by decide +kernel⟩
theorem ck__law_small : chkS (ckOf tb wd ["pool", "at", "prime", "cell"]) (defScope (top 57)) b__law_small (.blk (defBody (top 57))) = true := by decide +kernel
theorem sc__law_small : FnScope ["pool", "at", "prime", "cell"] ["pool", "at", "prime"] (defScope (top 57)) := ⟨rfl, rfl, rfl, by decide +kernel, rfl, by decide +kernel, by decide +kernel⟩
theorem ck__law_lesser : chkS (ckOf tb wd ["pool", "at", "lists", "lower", "k", "j", "left", "numbers"]) (defScope (top 58)) b__law_lesser (.blk (defBody (top 58))) = true := by decide +kernel
theorem sc__law_lesser : FnScope ["pool", "at", "lists", "lower", "k", "j", "left", "numbers"] ["pool", "at", "lists"] (defScope (top 58)) := ⟨rfl, rfl, rfl, by decide +kernel, rfl, by decide +kernel, by decide +kernel⟩
theorem ck__law_grid : chkS (ckOf tb wd ["prime", "lists", "numbers"]) (defScope (top 59)) b__law_grid (.blk (defBody (top 59))) = true := by decide +kernel
theorem sc__law_grid : FnScope ["prime", "lists", "numbers"] ["prime", "lists"] (defScope (top 59)) := ⟨rfl, rfl, rfl, by decide +kernel, rfl, by decide +kernel, by decide +kernel⟩
theorem ck__law_row_is : chkS (ckOf tb wd ["prime", "actual", "due", "k"]) (defScope (top 60)) b__law_row_is (.blk (defBody (top 60))) = true := by decide +kernel
theorem sc__law_row_is : FnScope ["prime", "actual", "due", "k"] ["prime", "actual", "due"] (defScope (top 60)) := ⟨rfl, rfl, rfl, by decide +kernel, rfl, by decide +kernel, by decide +kernel⟩
theorem ck__law_twice : chkS (ckOf tb wd ["grid", "prime", "due", "row"]) (defScope (top 61)) b__law_twice (.blk (defBody (top 61))) = true := by decide +kernel
theorem sc__law_twice : FnScope ["grid", "prime", "due", "row"] ["grid", "prime", "due"] (defScope (top 61)) := ⟨rfl, rfl, rfl, by decide +kernel, rfl, by decide +kernel, by decide +kernel⟩
theorem ck__law_gap : chkS (ckOf tb wd ["prime", "a", "b"]) (defScope (top 62)) b__law_gap (.blk (defBody (top 62))) = true := by decide +kernel
theorem sc__law_gap : FnScope ["prime", "a", "b"] ["prime", "a", "b"] (defScope (top 62)) := ⟨rfl, rfl, rfl, by decide +kernel, rfl, by decide +kernel, by decide +kernel⟩
theorem ck__law_added : chkS (ckOf tb wd ["prime", "weights", "values", "total", "k"]) (defScope (top 63)) b__law_added (.blk (defBody (top 63))) = true := by decide +kernel
theorem sc__law_added : FnScope ["prime", "weights", "values", "total", "k"] ["prime", "weights", "values"] (defScope (top 63)) := ⟨rfl, rfl, rfl, by decide +kernel, rfl, by decide +kernel, by decide +kernel⟩
theorem ck__law_scaled : chkS (ckOf tb wd ["prime", "lists", "scales", "weights", "made", "k", "j", "weight"]) (defScope (top 64)) b__law_scaled (.blk (defBody (top 64))) = true := by decide +kernel
theorem sc__law_scaled : FnScope ["prime", "lists", "scales", "weights", "made", "k", "j", "weight"] ["prime", "lists", "scales", "weights"] (defScope (top 64)) := ⟨rfl, rfl, rfl, by decide +kernel, rfl, by decide +kernel, by decide +kernel⟩
theorem ck__law_left_out : chkS (ckOf tb wd ["prime", "lists", "lower", "point", "made", "k", "value"]) (defScope (top 65)) b__law_left_out (.blk (defBody (top 65))) = true := by decide +kernel
theorem sc__law_left_out : FnScope ["prime", "lists", "lower", "point", "made", "k", "value"] ["prime", "lists", "lower", "point"] (defScope (top 65)) := ⟨rfl, rfl, rfl, by decide +kernel, rfl, by decide +kernel, by decide +kernel⟩
theorem ck__law_products : chkS (ckOf tb wd ["prime", "first", "second", "row", "weight", "other"]) (defScope (top 66)) b__law_products (.blk (defBody (top 66))) = true := by decide +kernel
theorem sc__law_products : FnScope ["prime", "first", "second", "row", "weight", "other"] ["prime", "first", "second"] (defScope (top 66)) := ⟨rfl, rfl, rfl, by decide +kernel, rfl, by decide +kernel, by decide +kernel⟩
theorem ck__law_moved_lists : chkS (ckOf tb wd ["prime", "lists", "scales", "shifts", "made", "k", "value"]) (defScope (top 67)) b__law_moved_lists (.blk (defBody (top 67))) = true := by decide +kernel
theorem sc__law_moved_lists : FnScope ["prime", "lists", "scales", "shifts", "made", "k", "value"] ["prime", "lists", "scales", "shifts"] (defScope (top 67)) := ⟨rfl, rfl, rfl, by decide +kernel, rfl, by decide +kernel, by decide +kernel⟩
theorem ck__law_lists_right : chkS (ckOf tb wd ["prime", "lists", "places", "scales", "k", "due", "passed", "value"]) (defScope (top 68)) b__law_lists_right (.blk (defBody (top 68))) = true := by decide +kernel
theorem sc__law_lists_right : FnScope ["prime", "lists", "places", "scales", "k", "due", "passed", "value"] ["prime", "lists", "places", "scales"] (defScope (top 68)) := ⟨rfl, rfl, rfl, by decide +kernel, rfl, by decide +kernel, by decide +kernel⟩
theorem ck_law : chkS (ckOf tb wd ["script", "pool", "prime", "lists", "letters", "points", "scales", "shifts", "ranking", "weights", "grid", "places", "high", "scaled", "turned", "others", "home", "along", "few", "small", "lower", "rows", "due", "values", "passed", "sums", "total", "k", "point", "row", "letter"]) (defScope (top 69)) b_law (.blk (defBody (top 69))) = true := by decide +kernel
theorem sc_law : FnScope ["script", "pool", "prime", "lists", "letters", "points", "scales", "shifts", "ranking", "weights", "grid", "places", "high", "scaled", "turned", "others", "home", "along", "few", "small", "lower", "rows", "due", "values", "passed", "sums", "total", "k", "point", "row", "letter"] ["script"] (defScope (top 69)) := ⟨rfl, rfl, rfl, by decide +kernel, rfl, by decide +kernel, by decide +kernel⟩
end PyD

namespace PyD
open PySem L2 RZ StX PyProof.Rows
/-! ### the head -/
def d_check_field : He5.DefA := ⟨fun K => He.ga K "check_field", "check_field", "check_field", defArgs (top 13), defBody (top 13), defScope (top 13), [], []⟩
def d_lowest : He5.DefA := ⟨fun K => He.ga K "lowest", "lowest", "lowest", defArgs (top 14), defBody (top 14), defScope (top 14), [], []⟩
def d_is_integer : He5.DefA := ⟨fun K => He.ga K "is_integer", "is_integer", "is_integer", defArgs (top 15), defBody (top 15), defScope (top 15), [], []⟩
def d_is_number : He5.DefA := ⟨fun K => He.ga K "is_number", "is_number", "is_number", defArgs (top 16), defBody (top 16), defScope (top 16), [], []⟩
def d_number_of : He5.DefA := ⟨fun K => He.ga K "number_of", "number_of", "number_of", defArgs (top 17), defBody (top 17), defScope (top 17), [], []⟩
def d_add : He5.DefA := ⟨fun K => He.ga K "add", "add", "add", defArgs (top 18), defBody (top 18), defScope (top 18), [], []⟩
def d_negate : He5.DefA := ⟨fun K => He.ga K "negate", "negate", "negate", defArgs (top 19), defBody (top 19), defScope (top 19), [], []⟩
def d_subtract : He5.DefA := ⟨fun K => He.ga K "subtract", "subtract", "subtract", defArgs (top 20), defBody (top 20), defScope (top 20), [], []⟩
def d_multiply : He5.DefA := ⟨fun K => He.ga K "multiply", "multiply", "multiply", defArgs (top 21), defBody (top 21), defScope (top 21), [], []⟩
def d_invert : He5.DefA := ⟨fun K => He.ga K "invert", "invert", "invert", defArgs (top 22), defBody (top 22), defScope (top 22), [], []⟩
def d_dot : He5.DefA := ⟨fun K => He.ga K "dot", "dot", "dot", defArgs (top 23), defBody (top 23), defScope (top 23), [], []⟩
def d_list_weights : He5.DefA := ⟨fun K => He.ga K "list_weights", "list_weights", "list_weights", defArgs (top 25), defBody (top 25), defScope (top 25), [], []⟩
def d_grid_weights : He5.DefA := ⟨fun K => He.ga K "grid_weights", "grid_weights", "grid_weights", defArgs (top 26), defBody (top 26), defScope (top 26), [], []⟩
def d_weighed_sum : He5.DefA := ⟨fun K => He.ga K "weighed_sum", "weighed_sum", "weighed_sum", defArgs (top 27), defBody (top 27), defScope (top 27), [], []⟩
def d_Grid_init : He5.DefA := ⟨fun K => He.ma K (He.ga K "Grid") "__init__", "__init__", "Grid.__init__", defArgs (topc 29 3), defBody (topc 29 3), defScope (topc 29 3), [], []⟩
def d_check_lists : He5.DefA := ⟨fun K => He.ga K "check_lists", "check_lists", "check_lists", defArgs (top 30), defBody (top 30), defScope (top 30), [], []⟩
def d_list_points : He5.DefA := ⟨fun K => He.ga K "list_points", "list_points", "list_points", defArgs (top 31), defBody (top 31), defScope (top 31), [], []⟩
def d_check_scales : He5.DefA := ⟨fun K => He.ga K "check_scales", "check_scales", "check_scales", defArgs (top 33), defBody (top 33), defScope (top 33), [], []⟩
def d_moved : He5.DefA := ⟨fun K => He.ga K "moved", "moved", "moved", defArgs (top 34), defBody (top 34), defScope (top 34), [], []⟩
def d_renamed : He5.DefA := ⟨fun K => He.ga K "renamed", "renamed", "renamed", defArgs (top 35), defBody (top 35), defScope (top 35), [], []⟩
def d_renamed_values : He5.DefA := ⟨fun K => He.ga K "renamed_values", "renamed_values", "renamed_values", defArgs (top 36), defBody (top 36), defScope (top 36), [], []⟩
def d_check_fields : He5.DefA := ⟨fun K => He.ga K "check_fields", "check_fields", "check_fields", defArgs (top 37), defBody (top 37), defScope (top 37), [], []⟩
def d_joined : He5.DefA := ⟨fun K => He.ga K "joined", "joined", "joined", defArgs (top 38), defBody (top 38), defScope (top 38), [], []⟩
def d__law_pool : He5.DefA := ⟨fun K => He.ga K "_law_pool", "_law_pool", "_law_pool", defArgs (top 40), defBody (top 40), defScope (top 40), [], []⟩
def d__law_draw : He5.DefA := ⟨fun K => He.ga K "_law_draw", "_law_draw", "_law_draw", defArgs (top 41), defBody (top 41), defScope (top 41), [], []⟩
def d__law_common : He5.DefA := ⟨fun K => He.ga K "_law_common", "_law_common", "_law_common", defArgs (top 42), defBody (top 42), defScope (top 42), [], []⟩
def d__law_lowest : He5.DefA := ⟨fun K => He.ga K "_law_lowest", "_law_lowest", "_law_lowest", defArgs (top 43), defBody (top 43), defScope (top 43), [], []⟩
def d__law_integer : He5.DefA := ⟨fun K => He.ga K "_law_integer", "_law_integer", "_law_integer", defArgs (top 44), defBody (top 44), defScope (top 44), [], []⟩
def d__law_sum : He5.DefA := ⟨fun K => He.ga K "_law_sum", "_law_sum", "_law_sum", defArgs (top 45), defBody (top 45), defScope (top 45), [], []⟩
def d__law_times : He5.DefA := ⟨fun K => He.ga K "_law_times", "_law_times", "_law_times", defArgs (top 46), defBody (top 46), defScope (top 46), [], []⟩
def d__law_inverse : He5.DefA := ⟨fun K => He.ga K "_law_inverse", "_law_inverse", "_law_inverse", defArgs (top 47), defBody (top 47), defScope (top 47), [], []⟩
def d__law_is_number : He5.DefA := ⟨fun K => He.ga K "_law_is_number", "_law_is_number", "_law_is_number", defArgs (top 48), defBody (top 48), defScope (top 48), [], []⟩
def d__law_numbers : He5.DefA := ⟨fun K => He.ga K "_law_numbers", "_law_numbers", "_law_numbers", defArgs (top 49), defBody (top 49), defScope (top 49), [], []⟩
def d__law_lists : He5.DefA := ⟨fun K => He.ga K "_law_lists", "_law_lists", "_law_lists", defArgs (top 50), defBody (top 50), defScope (top 50), [], []⟩
def d__law_points : He5.DefA := ⟨fun K => He.ga K "_law_points", "_law_points", "_law_points", defArgs (top 51), defBody (top 51), defScope (top 51), [], []⟩
def d__law_told : He5.DefA := ⟨fun K => He.ga K "_law_told", "_law_told", "_law_told", defArgs (top 52), defBody (top 52), defScope (top 52), [], []⟩
def d__law_weights : He5.DefA := ⟨fun K => He.ga K "_law_weights", "_law_weights", "_law_weights", defArgs (top 53), defBody (top 53), defScope (top 53), [], []⟩
def d__law_ranking : He5.DefA := ⟨fun K => He.ga K "_law_ranking", "_law_ranking", "_law_ranking", defArgs (top 54), defBody (top 54), defScope (top 54), [], []⟩
def d__law_alike : He5.DefA := ⟨fun K => He.ga K "_law_alike", "_law_alike", "_law_alike", defArgs (top 55), defBody (top 55), defScope (top 55), [], []⟩
def d__law_scale : He5.DefA := ⟨fun K => He.ga K "_law_scale", "_law_scale", "_law_scale", defArgs (top 56), defBody (top 56), defScope (top 56), [], []⟩
def d__law_small : He5.DefA := ⟨fun K => He.ga K "_law_small", "_law_small", "_law_small", defArgs (top 57), defBody (top 57), defScope (top 57), [], []⟩
def d__law_lesser : He5.DefA := ⟨fun K => He.ga K "_law_lesser", "_law_lesser", "_law_lesser", defArgs (top 58), defBody (top 58), defScope (top 58), [], []⟩
def d__law_grid : He5.DefA := ⟨fun K => He.ga K "_law_grid", "_law_grid", "_law_grid", defArgs (top 59), defBody (top 59), defScope (top 59), [], []⟩
def d__law_row_is : He5.DefA := ⟨fun K => He.ga K "_law_row_is", "_law_row_is", "_law_row_is", defArgs (top 60), defBody (top 60), defScope (top 60), [], []⟩
def d__law_twice : He5.DefA := ⟨fun K => He.ga K "_law_twice", "_law_twice", "_law_twice", defArgs (top 61), defBody (top 61), defScope (top 61), [], []⟩
def d__law_gap : He5.DefA := ⟨fun K => He.ga K "_law_gap", "_law_gap", "_law_gap", defArgs (top 62), defBody (top 62), defScope (top 62), [], []⟩
def d__law_added : He5.DefA := ⟨fun K => He.ga K "_law_added", "_law_added", "_law_added", defArgs (top 63), defBody (top 63), defScope (top 63), [], []⟩
def d__law_scaled : He5.DefA := ⟨fun K => He.ga K "_law_scaled", "_law_scaled", "_law_scaled", defArgs (top 64), defBody (top 64), defScope (top 64), [], []⟩
def d__law_left_out : He5.DefA := ⟨fun K => He.ga K "_law_left_out", "_law_left_out", "_law_left_out", defArgs (top 65), defBody (top 65), defScope (top 65), [], []⟩
def d__law_products : He5.DefA := ⟨fun K => He.ga K "_law_products", "_law_products", "_law_products", defArgs (top 66), defBody (top 66), defScope (top 66), [], []⟩
def d__law_moved_lists : He5.DefA := ⟨fun K => He.ga K "_law_moved_lists", "_law_moved_lists", "_law_moved_lists", defArgs (top 67), defBody (top 67), defScope (top 67), [], []⟩
def d__law_lists_right : He5.DefA := ⟨fun K => He.ga K "_law_lists_right", "_law_lists_right", "_law_lists_right", defArgs (top 68), defBody (top 68), defScope (top 68), [], []⟩
def d_law : He5.DefA := ⟨fun K => He.ga K "law", "law", "law", defArgs (top 69), defBody (top 69), defScope (top 69), [], []⟩
def dit_Grid : He5.DefA := ⟨fun K => He.ma K (He.ga K "Grid") "__iter__", "__iter__", "Grid.__iter__", defArgs (topc 29 6), defBody (topc 29 6), defScope (topc 29 6), [], []⟩
def dfs : List He5.DefA := [d_check_field, d_lowest, d_is_integer, d_is_number, d_number_of, d_add, d_negate, d_subtract, d_multiply, d_invert, d_dot, d_list_weights, d_grid_weights, d_weighed_sum, d_Grid_init, d_check_lists, d_list_points, d_check_scales, d_moved, d_renamed, d_renamed_values, d_check_fields, d_joined, d__law_pool, d__law_draw, d__law_common, d__law_lowest, d__law_integer, d__law_sum, d__law_times, d__law_inverse, d__law_is_number, d__law_numbers, d__law_lists, d__law_points, d__law_told, d__law_weights, d__law_ranking, d__law_alike, d__law_scale, d__law_small, d__law_lesser, d__law_grid, d__law_row_is, d__law_twice, d__law_gap, d__law_added, d__law_scaled, d__law_left_out, d__law_products, d__law_moved_lists, d__law_lists_right, d_law, dit_Grid]
def fas : List He.Fa := [.glo "check_field", .glo "lowest", .glo "is_integer", .glo "is_number", .glo "number_of", .glo "add", .glo "negate", .glo "subtract", .glo "multiply", .glo "invert", .glo "dot", .glo "list_weights", .glo "grid_weights", .glo "weighed_sum", .mkr "Grid", .glo "check_lists", .glo "list_points", .glo "check_scales", .glo "moved", .glo "renamed", .glo "renamed_values", .glo "check_fields", .glo "joined", .glo "_law_pool", .glo "_law_draw", .glo "_law_common", .glo "_law_lowest", .glo "_law_integer", .glo "_law_sum", .glo "_law_times", .glo "_law_inverse", .glo "_law_is_number", .glo "_law_numbers", .glo "_law_lists", .glo "_law_points", .glo "_law_told", .glo "_law_weights", .glo "_law_ranking", .glo "_law_alike", .glo "_law_scale", .glo "_law_small", .glo "_law_lesser", .glo "_law_grid", .glo "_law_row_is", .glo "_law_twice", .glo "_law_gap", .glo "_law_added", .glo "_law_scaled", .glo "_law_left_out", .glo "_law_products", .glo "_law_moved_lists", .glo "_law_lists_right", .glo "law", .glo "Grid"]
def exb (K : PySem.W.Frag) : Bool := wdB K wd
abbrev R : PySem.W.OpenRow := PySem.W.OpenLaw.row PySem.Challenge.rw_weighedgrids_k19_weights_of_moved_and_le
abbrev hk : PySem.W.Hook := hookO 5 fas dfs exb
def ob (s : PySem.W.SharedT) : AlO := obsO 5 fas dfs exb (HandSHeadRun.getT s)
theorem ob_eq (s : PySem.W.SharedT) : ob s = hk.obs s.abs := obsO_eq (HandSHeadRun.getT_eq s)
def nm0 : List Str := ["gcd", "_wall", "GridError", "InvalidField", "InvalidNumber", "NoInverse", "InvalidGrid", "RepeatedNumber", "TooManyPoints", "Unlike", "PRIMES", "check_field", "lowest", "is_integer", "is_number", "number_of", "add", "negate", "subtract", "multiply", "invert", "dot", "list_weights", "grid_weights", "weighed_sum", "Grid", "check_lists", "list_points", "check_scales", "moved"]
def nm1 : List Str := ["renamed", "renamed_values", "check_fields", "joined", "_law_pool", "_law_draw", "_law_common", "_law_lowest", "_law_integer", "_law_sum", "_law_times", "_law_inverse", "_law_is_number", "_law_numbers", "_law_lists", "_law_points", "_law_told", "_law_weights", "_law_ranking", "_law_alike", "_law_scale", "_law_small", "_law_lesser", "_law_grid", "_law_row_is", "_law_twice", "_law_gap", "_law_added", "_law_scaled", "_law_left_out"]
def nm2 : List Str := ["_law_products", "_law_moved_lists", "_law_lists_right"]
def nms : List Str := nm0 ++ nm1 ++ nm2
theorem run (w : World) : HandSHeadRun.RunEqI R (PySem.W.view R.prog [0, 69]) hk ob 4000 nms w := by
  unfold HandSHeadRun.RunEqI; kernel_rfl
theorem tabok {h : Heap} {mg : Str → Option Value} {K : PySem.W.Frag} (KX : K.In h) (G : h.Ns mainGlobals mg) (c : SaysO fas dfs exb K) : TabOk K mg tb wd := by
  refine tab_of KX G c.more (fun p hp => ?_) fun f fn hf => ?_
  · obtain rfl : p = (("Grid" : Str), ("points" : Str)) := by simpa [wd] using hp
    obtain ⟨fd, Fd⟩ := c.a.def_ 53 (d := dit_Grid) rfl
    exact ⟨_, (topc 29 6), fd, He5.fun_of Fd, ⟨rfl, rfl, rfl, by decide +kernel, rfl, by decide +kernel, by decide +kernel⟩, by decide +kernel, by decide +kernel, fun _ _ _ _ _ _ us hl => match us, hl with | [_], _ => rfl⟩
  match f, hf with
  | 0, hf =>
    obtain rfl : f_check_field = fn := Option.some.inj hf
    obtain ⟨fd, F⟩ := c.a.def_ 0 (d := d_check_field) rfl
    exact ⟨_, (top 13), fun _ => He.glo_ok KX G (c.a.fact 0 (f := .glo "check_field") rfl), (fun c h => by cases h), ⟨_, fd, He5.fun_of F, fun _ _ _ _ _ _ _ us hl => match us, hl with | [_], _ => rfl, (fun h => by cases h)⟩, sc_check_field, ck_check_field⟩
  | 1, hf =>
    obtain rfl : f_lowest = fn := Option.some.inj hf
    obtain ⟨fd, F⟩ := c.a.def_ 1 (d := d_lowest) rfl
    exact ⟨_, (top 14), fun _ => He.glo_ok KX G (c.a.fact 1 (f := .glo "lowest") rfl), (fun c h => by cases h), ⟨_, fd, He5.fun_of F, fun _ _ _ _ _ _ _ us hl => match us, hl with | [_, _], _ => rfl, (fun h => by cases h)⟩, sc_lowest, ck_lowest⟩
  | 2, hf =>
    obtain rfl : f_is_integer = fn := Option.some.inj hf
    obtain ⟨fd, F⟩ := c.a.def_ 2 (d := d_is_integer) rfl
    exact ⟨_, (top 15), fun _ => He.glo_ok KX G (c.a.fact 2 (f := .glo "is_integer") rfl), (fun c h => by cases h), ⟨_, fd, He5.fun_of F, fun _ _ _ _ _ _ _ us hl => match us, hl with | [_], _ => rfl, (fun h => by cases h)⟩, sc_is_integer, ck_is_integer⟩
  | 3, hf =>
    obtain rfl : f_is_number = fn := Option.some.inj hf
    obtain ⟨fd, F⟩ := c.a.def_ 3 (d := d_is_number) rfl
    exact ⟨_, (top 16), fun _ => He.glo_ok KX G (c.a.fact 3 (f := .glo "is_number") rfl), (fun c h => by cases h), ⟨_, fd, He5.fun_of F, fun _ _ _ _ _ _ _ us hl => match us, hl with | [_, _], _ => rfl, (fun h => by cases h)⟩, sc_is_number, ck_is_number⟩
  | 4, hf =>
    obtain rfl : f_number_of = fn := Option.some.inj hf
    obtain ⟨fd, F⟩ := c.a.def_ 4 (d := d_number_of) rfl
    exact ⟨_, (top 17), fun _ => He.glo_ok KX G (c.a.fact 4 (f := .glo "number_of") rfl), (fun c h => by cases h), ⟨_, fd, He5.fun_of F, fun _ _ _ _ _ _ _ us hl => match us, hl with | [_, _], _ => rfl, (fun h => by cases h)⟩, sc_number_of, ck_number_of⟩
  | 5, hf =>
    obtain rfl : f_add = fn := Option.some.inj hf
    obtain ⟨fd, F⟩ := c.a.def_ 5 (d := d_add) rfl
    exact ⟨_, (top 18), fun _ => He.glo_ok KX G (c.a.fact 5 (f := .glo "add") rfl), (fun c h => by cases h), ⟨_, fd, He5.fun_of F, fun _ _ _ _ _ _ _ us hl => match us, hl with | [_, _, _], _ => rfl, (fun h => by cases h)⟩, sc_add, ck_add⟩
  | 6, hf =>
    obtain rfl : f_negate = fn := Option.some.inj hf
    obtain ⟨fd, F⟩ := c.a.def_ 6 (d := d_negate) rfl
    exact ⟨_, (top 19), fun _ => He.glo_ok KX G (c.a.fact 6 (f := .glo "negate") rfl), (fun c h => by cases h), ⟨_, fd, He5.fun_of F, fun _ _ _ _ _ _ _ us hl => match us, hl with | [_, _], _ => rfl, (fun h => by cases h)⟩, sc_negate, ck_negate⟩
  | 7, hf =>
    obtain rfl : f_subtract = fn := Option.some.inj hf
    obtain ⟨fd, F⟩ := c.a.def_ 7 (d := d_subtract) rfl
    exact ⟨_, (top 20), fun _ => He.glo_ok KX G (c.a.fact 7 (f := .glo "subtract") rfl), (fun c h => by cases h), ⟨_, fd, He5.fun_of F, fun _ _ _ _ _ _ _ us hl => match us, hl with | [_, _, _], _ => rfl, (fun h => by cases h)⟩, sc_subtract, ck_subtract⟩
  | 8, hf =>
    obtain rfl : f_multiply = fn := Option.some.inj hf
    obtain ⟨fd, F⟩ := c.a.def_ 8 (d := d_multiply) rfl
    exact ⟨_, (top 21), fun _ => He.glo_ok KX G (c.a.fact 8 (f := .glo "multiply") rfl), (fun c h => by cases h), ⟨_, fd, He5.fun_of F, fun _ _ _ _ _ _ _ us hl => match us, hl with | [_, _, _], _ => rfl, (fun h => by cases h)⟩, sc_multiply, ck_multiply⟩
  | 9, hf =>
    obtain rfl : f_invert = fn := Option.some.inj hf
    obtain ⟨fd, F⟩ := c.a.def_ 9 (d := d_invert) rfl
    exact ⟨_, (top 22), fun _ => He.glo_ok KX G (c.a.fact 9 (f := .glo "invert") rfl), (fun c h => by cases h), ⟨_, fd, He5.fun_of F, fun _ _ _ _ _ _ _ us hl => match us, hl with | [_, _], _ => rfl, (fun h => by cases h)⟩, sc_invert, ck_invert⟩
  | 10, hf =>
    obtain rfl : f_dot = fn := Option.some.inj hf
    obtain ⟨fd, F⟩ := c.a.def_ 10 (d := d_dot) rfl
    exact ⟨_, (top 23), fun _ => He.glo_ok KX G (c.a.fact 10 (f := .glo "dot") rfl), (fun c h => by cases h), ⟨_, fd, He5.fun_of F, fun _ _ _ _ _ _ _ us hl => match us, hl with | [_, _, _], _ => rfl, (fun h => by cases h)⟩, sc_dot, ck_dot⟩
  | 11, hf =>
    obtain rfl : f_list_weights = fn := Option.some.inj hf
    obtain ⟨fd, F⟩ := c.a.def_ 11 (d := d_list_weights) rfl
    exact ⟨_, (top 25), fun _ => He.glo_ok KX G (c.a.fact 11 (f := .glo "list_weights") rfl), (fun c h => by cases h), ⟨_, fd, He5.fun_of F, fun _ _ _ _ _ _ _ us hl => match us, hl with | [_, _], _ => rfl, (fun h => by cases h)⟩, sc_list_weights, ck_list_weights⟩
  | 12, hf =>
    obtain rfl : f_grid_weights = fn := Option.some.inj hf
    obtain ⟨fd, F⟩ := c.a.def_ 12 (d := d_grid_weights) rfl
    exact ⟨_, (top 26), fun _ => He.glo_ok KX G (c.a.fact 12 (f := .glo "grid_weights") rfl), (fun c h => by cases h), ⟨_, fd, He5.fun_of F, fun _ _ _ _ _ _ _ us hl => match us, hl with | [_], _ => rfl, (fun h => by cases h)⟩, sc_grid_weights, ck_grid_weights⟩
  | 13, hf =>
    obtain rfl : f_weighed_sum = fn := Option.some.inj hf
    obtain ⟨fd, F⟩ := c.a.def_ 13 (d := d_weighed_sum) rfl
    exact ⟨_, (top 27), fun _ => He.glo_ok KX G (c.a.fact 13 (f := .glo "weighed_sum") rfl), (fun c h => by cases h), ⟨_, fd, He5.fun_of F, fun _ _ _ _ _ _ _ us hl => match us, hl with | [_, _], _ => rfl, (fun h => by cases h)⟩, sc_weighed_sum, ck_weighed_sum⟩
  | 14, hf =>
    obtain rfl : f_Grid_init = fn := Option.some.inj hf
    obtain ⟨fd, F⟩ := c.a.def_ 14 (d := d_Grid_init) rfl
    exact ⟨_, (topc 29 3), (fun h => by cases h), (fun c0 h => by cases h; exact ⟨⟨He.glo_ok KX G (c.a.fact 53 (f := .glo "Grid") rfl), He.mkr_ok (c.a.fact 14 (f := .mkr "Grid") rfl)⟩, rfl⟩), ⟨_, fd, He5.fun_of F, fun _ _ _ _ _ _ _ us hl => match us, hl with | [_, _, _], _ => rfl, (fun h => by cases h)⟩, sc_Grid_init, ck_Grid_init⟩
  | 15, hf =>
    obtain rfl : f_check_lists = fn := Option.some.inj hf
    obtain ⟨fd, F⟩ := c.a.def_ 15 (d := d_check_lists) rfl
    exact ⟨_, (top 30), fun _ => He.glo_ok KX G (c.a.fact 15 (f := .glo "check_lists") rfl), (fun c h => by cases h), ⟨_, fd, He5.fun_of F, fun _ _ _ _ _ _ _ us hl => match us, hl with | [_, _], _ => rfl, (fun h => by cases h)⟩, sc_check_lists, ck_check_lists⟩
  | 16, hf =>
    obtain rfl : f_list_points = fn := Option.some.inj hf
    obtain ⟨fd, F⟩ := c.a.def_ 16 (d := d_list_points) rfl
    exact ⟨_, (top 31), fun _ => He.glo_ok KX G (c.a.fact 16 (f := .glo "list_points") rfl), (fun c h => by cases h), ⟨_, fd, He5.fun_of F, fun _ _ _ _ _ _ _ us hl => match us, hl with | [_], _ => rfl, (fun h => by cases h)⟩, sc_list_points, ck_list_points⟩
  | 17, hf =>
    obtain rfl : f_check_scales = fn := Option.some.inj hf
    obtain ⟨fd, F⟩ := c.a.def_ 17 (d := d_check_scales) rfl
    exact ⟨_, (top 33), fun _ => He.glo_ok KX G (c.a.fact 17 (f := .glo "check_scales") rfl), (fun c h => by cases h), ⟨_, fd, He5.fun_of F, fun _ _ _ _ _ _ _ us hl => match us, hl with | [_, _], _ => rfl, (fun h => by cases h)⟩, sc_check_scales, ck_check_scales⟩
  | 18, hf =>
    obtain rfl : f_moved = fn := Option.some.inj hf
    obtain ⟨fd, F⟩ := c.a.def_ 18 (d := d_moved) rfl
    exact ⟨_, (top 34), fun _ => He.glo_ok KX G (c.a.fact 18 (f := .glo "moved") rfl), (fun c h => by cases h), ⟨_, fd, He5.fun_of F, fun _ _ _ _ _ _ _ us hl => match us, hl with | [_, _, _], _ => rfl, (fun h => by cases h)⟩, sc_moved, ck_moved⟩
  | 19, hf =>
    obtain rfl : f_renamed = fn := Option.some.inj hf
    obtain ⟨fd, F⟩ := c.a.def_ 19 (d := d_renamed) rfl
    exact ⟨_, (top 35), fun _ => He.glo_ok KX G (c.a.fact 19 (f := .glo "renamed") rfl), (fun c h => by cases h), ⟨_, fd, He5.fun_of F, fun _ _ _ _ _ _ _ us hl => match us, hl with | [_, _], _ => rfl, (fun h => by cases h)⟩, sc_renamed, ck_renamed⟩
  | 20, hf =>
    obtain rfl : f_renamed_values = fn := Option.some.inj hf
    obtain ⟨fd, F⟩ := c.a.def_ 20 (d := d_renamed_values) rfl
    exact ⟨_, (top 36), fun _ => He.glo_ok KX G (c.a.fact 20 (f := .glo "renamed_values") rfl), (fun c h => by cases h), ⟨_, fd, He5.fun_of F, fun _ _ _ _ _ _ _ us hl => match us, hl with | [_, _, _], _ => rfl, (fun h => by cases h)⟩, sc_renamed_values, ck_renamed_values⟩
  | 21, hf =>
    obtain rfl : f_check_fields = fn := Option.some.inj hf
    obtain ⟨fd, F⟩ := c.a.def_ 21 (d := d_check_fields) rfl
    exact ⟨_, (top 37), fun _ => He.glo_ok KX G (c.a.fact 21 (f := .glo "check_fields") rfl), (fun c h => by cases h), ⟨_, fd, He5.fun_of F, fun _ _ _ _ _ _ _ us hl => match us, hl with | [_, _], _ => rfl, (fun h => by cases h)⟩, sc_check_fields, ck_check_fields⟩
  | 22, hf =>
    obtain rfl : f_joined = fn := Option.some.inj hf
    obtain ⟨fd, F⟩ := c.a.def_ 22 (d := d_joined) rfl
    exact ⟨_, (top 38), fun _ => He.glo_ok KX G (c.a.fact 22 (f := .glo "joined") rfl), (fun c h => by cases h), ⟨_, fd, He5.fun_of F, fun _ _ _ _ _ _ _ us hl => match us, hl with | [_, _], _ => rfl, (fun h => by cases h)⟩, sc_joined, ck_joined⟩
  | 23, hf =>
    obtain rfl : f__law_pool = fn := Option.some.inj hf
    obtain ⟨fd, F⟩ := c.a.def_ 23 (d := d__law_pool) rfl
    exact ⟨_, (top 40), fun _ => He.glo_ok KX G (c.a.fact 23 (f := .glo "_law_pool") rfl), (fun c h => by cases h), ⟨_, fd, He5.fun_of F, fun _ _ _ _ _ _ _ us hl => match us, hl with | [_, _], _ => rfl, (fun h => by cases h)⟩, sc__law_pool, ck__law_pool⟩
  | 24, hf =>
    obtain rfl : f__law_draw = fn := Option.some.inj hf
    obtain ⟨fd, F⟩ := c.a.def_ 24 (d := d__law_draw) rfl
    exact ⟨_, (top 41), fun _ => He.glo_ok KX G (c.a.fact 24 (f := .glo "_law_draw") rfl), (fun c h => by cases h), ⟨_, fd, He5.fun_of F, fun _ _ _ _ _ _ _ us hl => match us, hl with | [_, _, _], _ => rfl, (fun h => by cases h)⟩, sc__law_draw, ck__law_draw⟩
  | 25, hf =>
    obtain rfl : f__law_common = fn := Option.some.inj hf
    obtain ⟨fd, F⟩ := c.a.def_ 25 (d := d__law_common) rfl
    exact ⟨_, (top 42), fun _ => He.glo_ok KX G (c.a.fact 25 (f := .glo "_law_common") rfl), (fun c h => by cases h), ⟨_, fd, He5.fun_of F, fun _ _ _ _ _ _ _ us hl => match us, hl with | [_, _], _ => rfl, (fun h => by cases h)⟩, sc__law_common, ck__law_common⟩
  | 26, hf =>
    obtain rfl : f__law_lowest = fn := Option.some.inj hf
    obtain ⟨fd, F⟩ := c.a.def_ 26 (d := d__law_lowest) rfl
    exact ⟨_, (top 43), fun _ => He.glo_ok KX G (c.a.fact 26 (f := .glo "_law_lowest") rfl), (fun c h => by cases h), ⟨_, fd, He5.fun_of F, fun _ _ _ _ _ _ _ us hl => match us, hl with | [_, _], _ => rfl, (fun h => by cases h)⟩, sc__law_lowest, ck__law_lowest⟩
  | 27, hf =>
    obtain rfl : f__law_integer = fn := Option.some.inj hf
    obtain ⟨fd, F⟩ := c.a.def_ 27 (d := d__law_integer) rfl
    exact ⟨_, (top 44), fun _ => He.glo_ok KX G (c.a.fact 27 (f := .glo "_law_integer") rfl), (fun c h => by cases h), ⟨_, fd, He5.fun_of F, fun _ _ _ _ _ _ _ us hl => match us, hl with | [_, _], _ => rfl, (fun h => by cases h)⟩, sc__law_integer, ck__law_integer⟩
  | 28, hf =>
    obtain rfl : f__law_sum = fn := Option.some.inj hf
    obtain ⟨fd, F⟩ := c.a.def_ 28 (d := d__law_sum) rfl
    exact ⟨_, (top 45), fun _ => He.glo_ok KX G (c.a.fact 28 (f := .glo "_law_sum") rfl), (fun c h => by cases h), ⟨_, fd, He5.fun_of F, fun _ _ _ _ _ _ _ us hl => match us, hl with | [_, _, _], _ => rfl, (fun h => by cases h)⟩, sc__law_sum, ck__law_sum⟩
  | 29, hf =>
    obtain rfl : f__law_times = fn := Option.some.inj hf
    obtain ⟨fd, F⟩ := c.a.def_ 29 (d := d__law_times) rfl
    exact ⟨_, (top 46), fun _ => He.glo_ok KX G (c.a.fact 29 (f := .glo "_law_times") rfl), (fun c h => by cases h), ⟨_, fd, He5.fun_of F, fun _ _ _ _ _ _ _ us hl => match us, hl with | [_, _, _], _ => rfl, (fun h => by cases h)⟩, sc__law_times, ck__law_times⟩
  | 30, hf =>
    obtain rfl : f__law_inverse = fn := Option.some.inj hf
    obtain ⟨fd, F⟩ := c.a.def_ 30 (d := d__law_inverse) rfl
    exact ⟨_, (top 47), fun _ => He.glo_ok KX G (c.a.fact 30 (f := .glo "_law_inverse") rfl), (fun c h => by cases h), ⟨_, fd, He5.fun_of F, fun _ _ _ _ _ _ _ us hl => match us, hl with | [_, _], _ => rfl, (fun h => by cases h)⟩, sc__law_inverse, ck__law_inverse⟩
  | 31, hf =>
    obtain rfl : f__law_is_number = fn := Option.some.inj hf
    obtain ⟨fd, F⟩ := c.a.def_ 31 (d := d__law_is_number) rfl
    exact ⟨_, (top 48), fun _ => He.glo_ok KX G (c.a.fact 31 (f := .glo "_law_is_number") rfl), (fun c h => by cases h), ⟨_, fd, He5.fun_of F, fun _ _ _ _ _ _ _ us hl => match us, hl with | [_, _], _ => rfl, (fun h => by cases h)⟩, sc__law_is_number, ck__law_is_number⟩
  | 32, hf =>
    obtain rfl : f__law_numbers = fn := Option.some.inj hf
    obtain ⟨fd, F⟩ := c.a.def_ 32 (d := d__law_numbers) rfl
    exact ⟨_, (top 49), fun _ => He.glo_ok KX G (c.a.fact 32 (f := .glo "_law_numbers") rfl), (fun c h => by cases h), ⟨_, fd, He5.fun_of F, fun _ _ _ _ _ _ _ us hl => match us, hl with | [_], _ => rfl, (fun h => by cases h)⟩, sc__law_numbers, ck__law_numbers⟩
  | 33, hf =>
    obtain rfl : f__law_lists = fn := Option.some.inj hf
    obtain ⟨fd, F⟩ := c.a.def_ 33 (d := d__law_lists) rfl
    exact ⟨_, (top 50), fun _ => He.glo_ok KX G (c.a.fact 33 (f := .glo "_law_lists") rfl), (fun c h => by cases h), ⟨_, fd, He5.fun_of F, fun _ _ _ _ _ _ _ us hl => match us, hl with | [_, _, _], _ => rfl, (fun h => by cases h)⟩, sc__law_lists, ck__law_lists⟩
  | 34, hf =>
    obtain rfl : f__law_points = fn := Option.some.inj hf
    obtain ⟨fd, F⟩ := c.a.def_ 34 (d := d__law_points) rfl
    exact ⟨_, (top 51), fun _ => He.glo_ok KX G (c.a.fact 34 (f := .glo "_law_points") rfl), (fun c h => by cases h), ⟨_, fd, He5.fun_of F, fun _ _ _ _ _ _ _ us hl => match us, hl with | [_], _ => rfl, (fun h => by cases h)⟩, sc__law_points, ck__law_points⟩
  | 35, hf =>
    obtain rfl : f__law_told = fn := Option.some.inj hf
    obtain ⟨fd, F⟩ := c.a.def_ 35 (d := d__law_told) rfl
    exact ⟨_, (top 52), fun _ => He.glo_ok KX G (c.a.fact 35 (f := .glo "_law_told") rfl), (fun c h => by cases h), ⟨_, fd, He5.fun_of F, fun _ _ _ _ _ _ _ us hl => match us, hl with | [_, _, _, _], _ => rfl, (fun h => by cases h)⟩, sc__law_told, ck__law_told⟩
  | 36, hf =>
    obtain rfl : f__law_weights = fn := Option.some.inj hf
    obtain ⟨fd, F⟩ := c.a.def_ 36 (d := d__law_weights) rfl
    exact ⟨_, (top 53), fun _ => He.glo_ok KX G (c.a.fact 36 (f := .glo "_law_weights") rfl), (fun c h => by cases h), ⟨_, fd, He5.fun_of F, fun _ _ _ _ _ _ _ us hl => match us, hl with | [_, _, _], _ => rfl, (fun h => by cases h)⟩, sc__law_weights, ck__law_weights⟩
  | 37, hf =>
    obtain rfl : f__law_ranking = fn := Option.some.inj hf
    obtain ⟨fd, F⟩ := c.a.def_ 37 (d := d__law_ranking) rfl
    exact ⟨_, (top 54), fun _ => He.glo_ok KX G (c.a.fact 37 (f := .glo "_law_ranking") rfl), (fun c h => by cases h), ⟨_, fd, He5.fun_of F, fun _ _ _ _ _ _ _ us hl => match us, hl with | [_, _, _], _ => rfl, (fun h => by cases h)⟩, sc__law_ranking, ck__law_ranking⟩
  | 38, hf =>
    obtain rfl : f__law_alike = fn := Option.some.inj hf
    obtain ⟨fd, F⟩ := c.a.def_ 38 (d := d__law_alike) rfl
    exact ⟨_, (top 55), fun _ => He.glo_ok KX G (c.a.fact 38 (f := .glo "_law_alike") rfl), (fun c h => by cases h), ⟨_, fd, He5.fun_of F, fun _ _ _ _ _ _ _ us hl => match us, hl with | [_, _], _ => rfl, (fun h => by cases h)⟩, sc__law_alike, ck__law_alike⟩
  | 39, hf =>
    obtain rfl : f__law_scale = fn := Option.some.inj hf
    obtain ⟨fd, F⟩ := c.a.def_ 39 (d := d__law_scale) rfl
    exact ⟨_, (top 56), fun _ => He.glo_ok KX G (c.a.fact 39 (f := .glo "_law_scale") rfl), (fun c h => by cases h), ⟨_, fd, He5.fun_of F, fun _ _ _ _ _ _ _ us hl => match us, hl with | [_, _, _], _ => rfl, (fun h => by cases h)⟩, sc__law_scale, ck__law_scale⟩
  | 40, hf =>
    obtain rfl : f__law_small = fn := Option.some.inj hf
    obtain ⟨fd, F⟩ := c.a.def_ 40 (d := d__law_small) rfl
    exact ⟨_, (top 57), fun _ => He.glo_ok KX G (c.a.fact 40 (f := .glo "_law_small") rfl), (fun c h => by cases h), ⟨_, fd, He5.fun_of F, fun _ _ _ _ _ _ _ us hl => match us, hl with | [_, _, _], _ => rfl, (fun h => by cases h)⟩, sc__law_small, ck__law_small⟩
  | 41, hf =>
    obtain rfl : f__law_lesser = fn := Option.some.inj hf
    obtain ⟨fd, F⟩ := c.a.def_ 41 (d := d__law_lesser) rfl
    exact ⟨_, (top 58), fun _ => He.glo_ok KX G (c.a.fact 41 (f := .glo "_law_lesser") rfl), (fun c h => by cases h), ⟨_, fd, He5.fun_of F, fun _ _ _ _ _ _ _ us hl => match us, hl with | [_, _, _], _ => rfl, (fun h => by cases h)⟩, sc__law_lesser, ck__law_lesser⟩
  | 42, hf =>
    obtain rfl : f__law_grid = fn := Option.some.inj hf
    obtain ⟨fd, F⟩ := c.a.def_ 42 (d := d__law_grid) rfl
    exact ⟨_, (top 59), fun _ => He.glo_ok KX G (c.a.fact 42 (f := .glo "_law_grid") rfl), (fun c h => by cases h), ⟨_, fd, He5.fun_of F, fun _ _ _ _ _ _ _ us hl => match us, hl with | [_, _], _ => rfl, (fun h => by cases h)⟩, sc__law_grid, ck__law_grid⟩
  | 43, hf =>
    obtain rfl : f__law_row_is = fn := Option.some.inj hf
    obtain ⟨fd, F⟩ := c.a.def_ 43 (d := d__law_row_is) rfl
    exact ⟨_, (top 60), fun _ => He.glo_ok KX G (c.a.fact 43 (f := .glo "_law_row_is") rfl), (fun c h => by cases h), ⟨_, fd, He5.fun_of F, fun _ _ _ _ _ _ _ us hl => match us, hl with | [_, _, _], _ => rfl, (fun h => by cases h)⟩, sc__law_row_is, ck__law_row_is⟩
  | 44, hf =>
    obtain rfl : f__law_twice = fn := Option.some.inj hf
    obtain ⟨fd, F⟩ := c.a.def_ 44 (d := d__law_twice) rfl
    exact ⟨_, (top 61), fun _ => He.glo_ok KX G (c.a.fact 44 (f := .glo "_law_twice") rfl), (fun c h => by cases h), ⟨_, fd, He5.fun_of F, fun _ _ _ _ _ _ _ us hl => match us, hl with | [_, _, _], _ => rfl, (fun h => by cases h)⟩, sc__law_twice, ck__law_twice⟩
  | 45, hf =>
    obtain rfl : f__law_gap = fn := Option.some.inj hf
    obtain ⟨fd, F⟩ := c.a.def_ 45 (d := d__law_gap) rfl
    exact ⟨_, (top 62), fun _ => He.glo_ok KX G (c.a.fact 45 (f := .glo "_law_gap") rfl), (fun c h => by cases h), ⟨_, fd, He5.fun_of F, fun _ _ _ _ _ _ _ us hl => match us, hl with | [_, _, _], _ => rfl, (fun h => by cases h)⟩, sc__law_gap, ck__law_gap⟩
  | 46, hf =>
    obtain rfl : f__law_added = fn := Option.some.inj hf
    obtain ⟨fd, F⟩ := c.a.def_ 46 (d := d__law_added) rfl
    exact ⟨_, (top 63), fun _ => He.glo_ok KX G (c.a.fact 46 (f := .glo "_law_added") rfl), (fun c h => by cases h), ⟨_, fd, He5.fun_of F, fun _ _ _ _ _ _ _ us hl => match us, hl with | [_, _, _], _ => rfl, (fun h => by cases h)⟩, sc__law_added, ck__law_added⟩
  | 47, hf =>
    obtain rfl : f__law_scaled = fn := Option.some.inj hf
    obtain ⟨fd, F⟩ := c.a.def_ 47 (d := d__law_scaled) rfl
    exact ⟨_, (top 64), fun _ => He.glo_ok KX G (c.a.fact 47 (f := .glo "_law_scaled") rfl), (fun c h => by cases h), ⟨_, fd, He5.fun_of F, fun _ _ _ _ _ _ _ us hl => match us, hl with | [_, _, _, _], _ => rfl, (fun h => by cases h)⟩, sc__law_scaled, ck__law_scaled⟩
  | 48, hf =>
    obtain rfl : f__law_left_out = fn := Option.some.inj hf
    obtain ⟨fd, F⟩ := c.a.def_ 48 (d := d__law_left_out) rfl
    exact ⟨_, (top 65), fun _ => He.glo_ok KX G (c.a.fact 48 (f := .glo "_law_left_out") rfl), (fun c h => by cases h), ⟨_, fd, He5.fun_of F, fun _ _ _ _ _ _ _ us hl => match us, hl with | [_, _, _, _], _ => rfl, (fun h => by cases h)⟩, sc__law_left_out, ck__law_left_out⟩
  | 49, hf =>
    obtain rfl : f__law_products = fn := Option.some.inj hf
    obtain ⟨fd, F⟩ := c.a.def_ 49 (d := d__law_products) rfl
    exact ⟨_, (top 66), fun _ => He.glo_ok KX G (c.a.fact 49 (f := .glo "_law_products") rfl), (fun c h => by cases h), ⟨_, fd, He5.fun_of F, fun _ _ _ _ _ _ _ us hl => match us, hl with | [_, _, _], _ => rfl, (fun h => by cases h)⟩, sc__law_products, ck__law_products⟩
  | 50, hf =>
    obtain rfl : f__law_moved_lists = fn := Option.some.inj hf
    obtain ⟨fd, F⟩ := c.a.def_ 50 (d := d__law_moved_lists) rfl
    exact ⟨_, (top 67), fun _ => He.glo_ok KX G (c.a.fact 50 (f := .glo "_law_moved_lists") rfl), (fun c h => by cases h), ⟨_, fd, He5.fun_of F, fun _ _ _ _ _ _ _ us hl => match us, hl with | [_, _, _, _], _ => rfl, (fun h => by cases h)⟩, sc__law_moved_lists, ck__law_moved_lists⟩
  | 51, hf =>
    obtain rfl : f__law_lists_right = fn := Option.some.inj hf
    obtain ⟨fd, F⟩ := c.a.def_ 51 (d := d__law_lists_right) rfl
    exact ⟨_, (top 68), fun _ => He.glo_ok KX G (c.a.fact 51 (f := .glo "_law_lists_right") rfl), (fun c h => by cases h), ⟨_, fd, He5.fun_of F, fun _ _ _ _ _ _ _ us hl => match us, hl with | [_, _, _, _], _ => rfl, (fun h => by cases h)⟩, sc__law_lists_right, ck__law_lists_right⟩
  | 52, hf =>
    obtain rfl : f_law = fn := Option.some.inj hf
    obtain ⟨fd, F⟩ := c.a.def_ 52 (d := d_law) rfl
    exact ⟨_, (top 69), fun _ => He.glo_ok KX G (c.a.fact 52 (f := .glo "law") rfl), (fun c h => by cases h), ⟨_, fd, He5.fun_of F, fun _ _ _ _ _ _ _ us hl => match us, hl with | [_], _ => rfl, (fun h => by cases h)⟩, sc_law, ck_law⟩
  | n + 53, hf => cases hf
end PyD

namespace PyD
open PySem Lean.Grind
/-! ### the program's numbers -/
theorem L_lowest {n : Nat} {a d : Int} {h : Nat} (hd : d ≠ 0) (hb : d.natAbs < 2 ^ h) (hl : h < 9000) (hg : d < 0 → Nat.gcd a.natAbs d.natAbs = 1) : fns tb (n + 1) i_lowest [.int a, .int d] = some (encQ (Rat.divInt a d)) := by
  rw [fns_succ (fn := f_lowest) rfl]
  have h2 := gcd_pos (a := a) hd
  by_cases hs : d < 0
  · have h3 := hg hs
    have e : ∀ z : Int, z.fdiv (-1) = -z := fun z => by
      rw [Int.fdiv_eq_ediv_of_dvd ⟨-z, by omega⟩, Int.ediv_neg, Int.ediv_one]
    rw [divInt_negg hs]
    simp [runFn, argsOf, startF, evS, ev, evM, keepD, seen, hid, shw, shl, sho, hid1, shl1, sho1, attrD, biD, binD, cmpD, outD, idxD, bindF, bindF.setAllF, bindT, setAll, asSeq, PyD.T.slots, wipeE, isNonD, isiD, tyOf, intPart, cutD, frzAll, frz1, lkD, putD, startI, outI, E.isNil, D.flat, flatL, D.nob, nobL, isL, flatO, PyD.getD', f_lowest, b_lowest, hs, h3, divOk_neg1, e]
  · have h3 : (Nat.gcd a.natAbs d.natAbs : Int).natAbs ≤ d.natAbs := by
      rw [Int.natAbs_natCast]
      exact Nat.gcd_le_right _ (by omega)
    have h4 := divOk_bits h2 (Nat.lt_of_le_of_lt h3 hb) hl
    rw [divInt_pos (by omega)]
    simp [runFn, argsOf, startF, evS, ev, evM, keepD, seen, hid, shw, shl, sho, hid1, shl1, sho1, attrD, biD, binD, cmpD, outD, idxD, bindF, bindF.setAllF, bindT, setAll, asSeq, PyD.T.slots, wipeE, isNonD, isiD, tyOf, intPart, cutD, frzAll, frz1, lkD, putD, startI, outI, E.isNil, D.flat, flatL, D.nob, nobL, isL, flatO, PyD.getD', f_lowest, b_lowest, hs, h4, fdiv_pos h2]
section
variable {F : Fc} {x y : F.K} {h k n : Nat}
theorem L_number_of {i : Int} : fns tb (n + 1) i_number_of [.int F.p, .int i] = some (F.enc (F.ofI i)) := by
  rw [fns_succ (fn := f_number_of) rfl]
  cases F with
  | q => simp [runFn, argsOf, startF, evS, ev, evM, keepD, seen, hid, shw, shl, sho, hid1, shl1, sho1, attrD, biD, binD, cmpD, outD, idxD, bindF, bindF.setAllF, bindT, setAll, asSeq, PyD.T.slots, wipeE, isNonD, isiD, tyOf, intPart, cutD, frzAll, frz1, lkD, putD, startI, outI, E.isNil, D.flat, flatL, D.nob, nobL, isL, flatO, PyD.getD', f_number_of, b_number_of, Fc.p, Fc.enc, Fc.ofI, encQ]
  | z p hp =>
    haveI := hp
    have h0 := Fc.p_pos p hp
    have e := Z.v_ofI (p := p) i
    simp [Fc.p] at h0
    simp [runFn, argsOf, startF, evS, ev, evM, keepD, seen, hid, shw, shl, sho, hid1, shl1, sho1, attrD, biD, binD, cmpD, outD, idxD, bindF, bindF.setAllF, bindT, setAll, asSeq, PyD.T.slots, wipeE, isNonD, isiD, tyOf, intPart, cutD, frzAll, frz1, lkD, putD, startI, outI, E.isNil, D.flat, flatL, D.nob, nobL, isL, flatO, PyD.getD', f_number_of, b_number_of, h0, Fc.p, Fc.enc, Fc.ofI, e]
theorem L_add (hx : F.Ht h x) (hy : F.Ht k y) (l : h + k < 9000) : fns tb (n + 2) i_add [.int F.p, F.enc x, F.enc y] = some (F.enc (x + y)) := by
  rw [fns_succ (fn := f_add) rfl]
  cases F with
  | q =>
    have d1 := (x : Rat).den_nz
    have d2 := (y : Rat).den_nz
    have e : (x + y : Fc.q.K) = Rat.divInt ((x : Rat).num * (y : Rat).den + (y : Rat).num * (x : Rat).den) (((x : Rat).den : Int) * ((y : Rat).den : Int)) := by
      refine (Rat.add_def' _ _).trans ?_
      rw [← Int.natCast_mul, Rat.divInt_ofNat]
    have m1 : mulOk (x : Rat).num ((y : Rat).den : Int) = true := mulOk_bits hx.1 (by rw [Int.natAbs_natCast]; exact hy.2) (by omega)
    have m2 : mulOk (y : Rat).num ((x : Rat).den : Int) = true := mulOk_bits hy.1 (by rw [Int.natAbs_natCast]; exact hx.2) (by omega)
    have m3 : mulOk ((x : Rat).den : Int) ((y : Rat).den : Int) = true := mulOk_bits (by rw [Int.natAbs_natCast]; exact hx.2) (by rw [Int.natAbs_natCast]; exact hy.2) (by omega)
    have b3 : (((x : Rat).den : Int) * ((y : Rat).den : Int)).natAbs < 2 ^ (h + k) := by
      rw [Int.natAbs_mul, Int.natAbs_natCast, Int.natAbs_natCast]
      exact Fc.bits_mul hx.2 hy.2
    have L := L_lowest (n := n) (a := (x : Rat).num * (y : Rat).den + (y : Rat).num * (x : Rat).den) (d := ((x : Rat).den : Int) * ((y : Rat).den : Int)) (by
      intro c
      rcases Int.mul_eq_zero.mp c with c | c <;> omega) b3 l (by
      intro c
      have : 0 ≤ ((x : Rat).den : Int) * ((y : Rat).den : Int) := Int.mul_nonneg (by omega) (by omega)
      omega)
    rw [e]
    simp [runFn, argsOf, startF, evS, ev, evM, keepD, seen, hid, shw, shl, sho, hid1, shl1, sho1, attrD, biD, binD, cmpD, outD, idxD, bindF, bindF.setAllF, bindT, setAll, asSeq, PyD.T.slots, wipeE, isNonD, isiD, tyOf, intPart, cutD, frzAll, frz1, lkD, putD, startI, outI, E.isNil, D.flat, flatL, D.nob, nobL, isL, flatO, PyD.getD', f_add, b_add, Fc.p, Fc.enc, encQ, idxL, ixN, m1, m2, m3, L]
  | z p hp =>
    haveI := hp
    have h0 := Fc.p_pos p hp
    simp [Fc.p] at h0
    have e : (Z.v (p := p) (x + y) : Int) = ((Z.v (p := p) x : Int) + (Z.v (p := p) y : Int)) % (p : Int) := Z.vi_add (p := p) x y
    simp [runFn, argsOf, startF, evS, ev, evM, keepD, seen, hid, shw, shl, sho, hid1, shl1, sho1, attrD, biD, binD, cmpD, outD, idxD, bindF, bindF.setAllF, bindT, setAll, asSeq, PyD.T.slots, wipeE, isNonD, isiD, tyOf, intPart, cutD, frzAll, frz1, lkD, putD, startI, outI, E.isNil, D.flat, flatL, D.nob, nobL, isL, flatO, PyD.getD', f_add, b_add, h0, Fc.p, Fc.enc, e]
theorem L_negate : fns tb (n + 1) i_negate [.int F.p, F.enc x] = some (F.enc (-x)) := by
  rw [fns_succ (fn := f_negate) rfl]
  cases F with
  | q =>
    have e : ∀ z : Rat, encQ (-z) = .tup [.int (-z.num), .int z.den] := fun z => by unfold encQ; rw [Rat.neg_num, Rat.neg_den]
    have e2 := e x
    simp [runFn, argsOf, startF, evS, ev, evM, keepD, seen, hid, shw, shl, sho, hid1, shl1, sho1, attrD, biD, binD, cmpD, outD, idxD, bindF, bindF.setAllF, bindT, setAll, asSeq, PyD.T.slots, wipeE, isNonD, isiD, tyOf, intPart, cutD, frzAll, frz1, lkD, putD, startI, outI, E.isNil, D.flat, flatL, D.nob, nobL, isL, flatO, PyD.getD', f_negate, b_negate, Fc.p, Fc.enc]
    refine Eq.trans ?_ (congrArg some e2.symm)
    simp [encQ, idxL, ixN]
  | z p hp =>
    haveI := hp
    have h0 := Fc.p_pos p hp
    simp [Fc.p] at h0
    have e : (Z.v (p := p) (-x) : Int) = ((p : Int) - (Z.v (p := p) x : Int)) % (p : Int) := Z.vi_neg (p := p) x
    simp [runFn, argsOf, startF, evS, ev, evM, keepD, seen, hid, shw, shl, sho, hid1, shl1, sho1, attrD, biD, binD, cmpD, outD, idxD, bindF, bindF.setAllF, bindT, setAll, asSeq, PyD.T.slots, wipeE, isNonD, isiD, tyOf, intPart, cutD, frzAll, frz1, lkD, putD, startI, outI, E.isNil, D.flat, flatL, D.nob, nobL, isL, flatO, PyD.getD', f_negate, b_negate, h0, Fc.p, Fc.enc, e]
theorem L_subtract (hx : F.Ht h x) (hy : F.Ht k y) (l : h + k < 9000) : fns tb (n + 3) i_subtract [.int F.p, F.enc x, F.enc y] = some (F.enc (x - y)) := by
  rw [fns_succ (fn := f_subtract) rfl]
  have L1 := L_negate (n := n + 1) (x := y)
  have L2 := L_add (n := n) hx hy.neg l
  rw [Ring.sub_eq_add_neg]
  simp [runFn, argsOf, startF, evS, ev, evM, keepD, seen, hid, shw, shl, sho, hid1, shl1, sho1, attrD, biD, binD, cmpD, outD, idxD, bindF, bindF.setAllF, bindT, setAll, asSeq, PyD.T.slots, wipeE, isNonD, isiD, tyOf, intPart, cutD, frzAll, frz1, lkD, putD, startI, outI, E.isNil, D.flat, flatL, D.nob, nobL, isL, flatO, PyD.getD', f_subtract, b_subtract, L1, L2]
theorem L_multiply (hx : F.Ht h x) (hy : F.Ht k y) (l : h + k < 9000) : fns tb (n + 2) i_multiply [.int F.p, F.enc x, F.enc y] = some (F.enc (x * y)) := by
  rw [fns_succ (fn := f_multiply) rfl]
  cases F with
  | q =>
    have d1 := (x : Rat).den_nz
    have d2 := (y : Rat).den_nz
    have e : (x * y : Fc.q.K) = Rat.divInt ((x : Rat).num * (y : Rat).num) (((x : Rat).den : Int) * ((y : Rat).den : Int)) := by
      refine (Rat.mul_def' _ _).trans ?_
      rw [← Int.natCast_mul, Rat.divInt_ofNat]
    have m1 : mulOk (x : Rat).num (y : Rat).num = true := mulOk_bits hx.1 hy.1 (by omega)
    have m3 : mulOk ((x : Rat).den : Int) ((y : Rat).den : Int) = true := mulOk_bits (by rw [Int.natAbs_natCast]; exact hx.2) (by rw [Int.natAbs_natCast]; exact hy.2) (by omega)
    have b3 : (((x : Rat).den : Int) * ((y : Rat).den : Int)).natAbs < 2 ^ (h + k) := by
      rw [Int.natAbs_mul, Int.natAbs_natCast, Int.natAbs_natCast]
      exact Fc.bits_mul hx.2 hy.2
    have L := L_lowest (n := n) (a := (x : Rat).num * (y : Rat).num) (d := ((x : Rat).den : Int) * ((y : Rat).den : Int)) (by
      intro c
      rcases Int.mul_eq_zero.mp c with c | c <;> omega) b3 l (by
      intro c
      have : 0 ≤ ((x : Rat).den : Int) * ((y : Rat).den : Int) := Int.mul_nonneg (by omega) (by omega)
      omega)
    rw [e]
    simp [runFn, argsOf, startF, evS, ev, evM, keepD, seen, hid, shw, shl, sho, hid1, shl1, sho1, attrD, biD, binD, cmpD, outD, idxD, bindF, bindF.setAllF, bindT, setAll, asSeq, PyD.T.slots, wipeE, isNonD, isiD, tyOf, intPart, cutD, frzAll, frz1, lkD, putD, startI, outI, E.isNil, D.flat, flatL, D.nob, nobL, isL, flatO, PyD.getD', f_multiply, b_multiply, Fc.p, Fc.enc, encQ, idxL, ixN, m1, m3, L]
  | z p hp =>
    haveI := hp
    have h0 := Fc.p_pos p hp
    simp [Fc.p] at h0
    have e : (Z.v (p := p) (x * y) : Int) = ((Z.v (p := p) x : Int) * (Z.v (p := p) y : Int)) % (p : Int) := Z.vi_mul (p := p) x y
    have m : mulOk (Z.v (p := p) x : Int) (Z.v (p := p) y : Int) = true := mulOk_l (by omega) (by have := Z.v_lt (p := p) x; have := Pr.le p; omega)
    simp [runFn, argsOf, startF, evS, ev, evM, keepD, seen, hid, shw, shl, sho, hid1, shl1, sho1, attrD, biD, binD, cmpD, outD, idxD, bindF, bindF.setAllF, bindT, setAll, asSeq, PyD.T.slots, wipeE, isNonD, isiD, tyOf, intPart, cutD, frzAll, frz1, lkD, putD, startI, outI, E.isNil, D.flat, flatL, D.nob, nobL, isL, flatO, PyD.getD', f_multiply, b_multiply, h0, Fc.p, Fc.enc, e, m]
theorem invert_loop {Φ : Fns} {p : Nat} [Pr p] {x : Z p} (hx : x ≠ 0) : evS Φ l_invert_1 [some (false, .int (p : Int)), some (false, .int (Z.v x : Int)), some (false, .int 1)] = some (.nx [some (false, .int (p : Int)), some (false, .int (Z.v x : Int)), some (false, .int (Z.v x⁻¹ : Int))]) := by
  have hm := Z.mul_inv x hx
  have h1 : (x.v * (x⁻¹).v) % p = 1 := by
    have := congrArg Z.v hm
    rwa [Z.v_mul, Z.v_one] at this
  have hl := Z.v_lt (p := p) x⁻¹
  have hlx := Z.v_lt (p := p) x
  have hp := Pr.pos p
  have hp2 := Pr.le p
  have u : ∀ m : Nat, m < p → (x.v * m) % p = 1 → m = (x⁻¹).v := by
    intro m l e
    have e2 : x * Z.mk p m = 1 := Z.ext (by rw [Z.v_mul, Z.v_mk, Z.v_one, Nat.mod_eq_of_lt l, e])
    have e3 : Z.mk p m = x⁻¹ := by
      calc Z.mk p m = (x * x⁻¹) * Z.mk p m := by rw [hm, Semiring.one_mul]
        _ = x⁻¹ * (x * Z.mk p m) := by rw [CommSemiring.mul_comm x, Semiring.mul_assoc]
        _ = x⁻¹ := by rw [e2, Semiring.mul_one]
    rw [← e3, Z.v_mk, Nat.mod_eq_of_lt l]
  unfold l_invert_1 evS
  refine whAll_of (n := p + 1) ?_
  have key : ∀ (f m : Nat), m ≤ (x⁻¹).v → (x⁻¹).v - m < f → whGo (fun env => ev Φ (.cmp .ne (.bin .mod (.bin .mul (.var 2) (.var 1)) (.var 0)) (.int 1)) (shw env)) (fun env => evS Φ (.aug 2 .add (.int 1)) env) f [some (false, .int (p : Int)), some (false, .int (Z.v x : Int)), some (false, .int (m : Int))] = some (.nx [some (false, .int (p : Int)), some (false, .int (Z.v x : Int)), some (false, .int ((x⁻¹).v : Int))]) := by
    intro f
    induction f with
    | zero => intro m _ h; omega
    | succ f ih =>
      intro m l l2
      have mm : mulOk (m : Int) (Z.v x : Int) = true := mulOk_l (by omega) (by omega)
      have p0 : (0 : Int) < (p : Int) := by omega
      have ee : ((m : Int) * (Z.v x : Int)) % (p : Int) = ((x.v * m % p : Nat) : Int) := by rw [Nat.mul_comm]; simp
      by_cases e : (x.v * m) % p = 1
      · have := u m (by omega) e
        rw [← this]
        exact whGo_f (by simp [runFn, argsOf, startF, evS, ev, evM, keepD, seen, hid, shw, shl, sho, hid1, shl1, sho1, attrD, biD, binD, cmpD, outD, idxD, bindF, bindF.setAllF, bindT, setAll, asSeq, PyD.T.slots, wipeE, isNonD, isiD, tyOf, intPart, cutD, frzAll, frz1, lkD, putD, startI, outI, E.isNil, D.flat, flatL, D.nob, nobL, isL, flatO, PyD.getD', mm, Int.natCast_pos, hp, ee, e])
      · have ne : m ≠ (x⁻¹).v := fun c => e (by rw [c, h1])
        have e' : ((x.v * m % p : Nat) : Int) ≠ 1 := by omega
        refine (whGo_t (e := [some (false, .int (p : Int)), some (false, .int (Z.v x : Int)), some (false, .int ((m + 1 : Nat) : Int))]) (by simp only [runFn, argsOf, startF, evS, ev, evM, keepD, seen, hid, shw, shl, sho, hid1, shl1, sho1, attrD, biD, binD, cmpD, outD, idxD, bindF, bindF.setAllF, bindT, setAll, asSeq, PyD.T.slots, wipeE, isNonD, isiD, tyOf, intPart, cutD, frzAll, frz1, lkD, putD, startI, outI, E.isNil, D.flat, flatL, D.nob, nobL, isL, flatO, PyD.getD', List.map_cons, List.map_nil, List.getElem?_cons_zero, List.getElem?_cons_succ, Option.join_some, Option.map_some, Option.bind_some, mm, if_true, ee, if_pos p0, eqD_int, decide_eq_false e', Bool.not_false]) (by simp [runFn, argsOf, startF, evS, ev, evM, keepD, seen, hid, shw, shl, sho, hid1, shl1, sho1, attrD, biD, binD, cmpD, outD, idxD, bindF, bindF.setAllF, bindT, setAll, asSeq, PyD.T.slots, wipeE, isNonD, isiD, tyOf, intPart, cutD, frzAll, frz1, lkD, putD, startI, outI, E.isNil, D.flat, flatL, D.nob, nobL, isL, flatO, PyD.getD'])).trans (ih (m + 1) (by omega) (by omega))
  exact key (p + 1) 1 (by
    have : (x⁻¹).v ≠ 0 := by
      intro c
      rw [c, Nat.mul_zero, Nat.zero_mod] at h1
      omega
    omega) (by omega)
theorem L_invert (hx : F.Ht h x) (h0 : x ≠ 0) (l : h < 9000) : fns tb (n + 2) i_invert [.int F.p, F.enc x] = some (F.enc x⁻¹) := by
  rw [fns_succ (fn := f_invert) rfl]
  have e0 := L_number_of (n := n) (F := F) (i := 0)
  rw [Fc.ofI_zero] at e0
  have q0 := Fc.eqD_enc (F := F) (x := x) (y := 0)
  rw [decide_eq_false h0] at q0
  cases F with
  | q =>
    have nz : (x : Rat).num ≠ 0 := fun c => h0 (Rat.num_eq_zero.mp c)
    have e : (x⁻¹ : Fc.q.K) = Rat.divInt ((x : Rat).den : Int) (x : Rat).num := Rat.inv_def _
    have L := L_lowest (n := n) (a := ((x : Rat).den : Int)) nz hx.1 l (fun _ => by
      rw [Int.natAbs_natCast, Nat.gcd_comm]; exact (x : Rat).reduced)
    rw [e]
    have e1 : fns tb (n + 1) 4 [.int 0, .int 0] = some (encQ 0) := e0
    have q1 : eqD (D.tup [.int (x : Rat).num, .int ((x : Rat).den : Int)]) (encQ 0) = some false := q0
    have ex : ∀ z : Rat, Fc.q.enc z = D.tup [.int z.num, .int (z.den : Int)] := fun _ => rfl
    simp [encQ] at L e1 q1
    rw [ex x, ex (Rat.divInt ((x : Rat).den : Int) (x : Rat).num)]
    simp [runFn, argsOf, startF, evS, ev, evM, keepD, seen, hid, shw, shl, sho, hid1, shl1, sho1, attrD, biD, binD, cmpD, outD, idxD, bindF, bindF.setAllF, bindT, setAll, asSeq, PyD.T.slots, wipeE, isNonD, isiD, tyOf, intPart, cutD, frzAll, frz1, lkD, putD, startI, outI, E.isNil, D.flat, flatL, D.nob, nobL, isL, flatO, PyD.getD', f_invert, b_invert, Fc.p, e1, q1, L, idxL, ixN]
  | z p hp =>
    haveI := hp
    have p0 := Fc.p_pos p hp
    simp [Fc.p] at p0
    have pn : ¬ ((p : Int) = 0) := by omega
    have pn2 : ¬ (p = 0) := by omega
    have IL := invert_loop (Φ := fns tb (n + 1)) (x := (x : Z p)) h0
    simp [Fc.enc, Fc.p] at e0 q0
    simp [runFn, argsOf, startF, evS, ev, evM, keepD, seen, hid, shw, shl, sho, hid1, shl1, sho1, attrD, biD, binD, cmpD, outD, idxD, bindF, bindF.setAllF, bindT, setAll, asSeq, PyD.T.slots, wipeE, isNonD, isiD, tyOf, intPart, cutD, frzAll, frz1, lkD, putD, startI, outI, E.isNil, D.flat, flatL, D.nob, nobL, isL, flatO, PyD.getD', f_invert, b_invert, Fc.p, Fc.enc, e0, q0, pn, pn2, IL]
    rfl
end
end PyD

namespace PyD
open PySem Lean.Grind
section
variable {F : Fc} {x y : F.K} {h k n : Nat}
theorem Fc.Ht.pow (hx : F.Ht h x) : ∀ m : Nat, F.Ht (1 + m * h) (x ^ m)
  | 0 => by
    rw [Semiring.pow_zero]
    exact Fc.Ht.one.up (by omega)
  | m + 1 => by
    rw [Semiring.pow_succ]
    exact ((Fc.Ht.pow hx m).mul hx).up (by rw [Nat.add_mul]; omega)
/-- the sum of the products -/
noncomputable def dotK (ab : List (F.K × F.K)) : F.K := ab.foldl (fun t p => t + p.1 * p.2) 0
theorem Z_ofI_sum {p : Nat} [Pr p] : ∀ {ab : List (Z p × Z p)} {s : Z p}, ((s.v : Int) + (ab.map fun q => (q.1.v : Int) * (q.2.v : Int)).sum) % (p : Int) = ((ab.foldl (fun t q => t + q.1 * q.2) s).v : Int)
  | [], s => by
    have := Z.v_lt s
    simp
    exact Int.emod_eq_of_lt (by omega) (by omega)
  | q :: ab, s => by
    rw [List.foldl_cons, ← Z_ofI_sum, List.map_cons, List.sum_cons, Z.vi_add, Z.vi_mul]
    simp [Int.add_assoc]
theorem L_dot {xs ys : List F.K} (hl : xs.length ≤ 1000) (hh : ∀ q ∈ xs.zip ys, F.Ht h q.1 ∧ F.Ht k q.2) (l : F.p = 0 → 1 + xs.length * (h + k + 1) < 9000) (l2 : h + k < 8000) : fns tb (n + 3) i_dot [.int F.p, .lst (xs.map F.enc), .lst (ys.map F.enc)] = some (F.enc (dotK (xs.zip ys))) := by
  rw [fns_succ (fn := f_dot) rfl]
  cases F with
  | z p hp =>
    haveI := hp
    have p0 := Fc.p_pos p hp
    simp [Fc.p] at p0
    have c : ev (fns tb (n + 2)) c_dot_1 (hid [some (false, .int (p : Int)), some (false, .lst (xs.map (Fc.z p hp).enc)), some (false, .lst (ys.map (Fc.z p hp).enc)), none, none, none]) = some (.lst ((xs.zip ys).map fun q => .int ((Z.v (p := p) q.1 : Int) * (Z.v (p := p) q.2 : Int)))) := by
      refine lc_mp (g := fun q => .tup [(Fc.z p hp).enc q.1, (Fc.z p hp).enc q.2]) (d := .lst ((xs.zip ys).map fun q => .tup [(Fc.z p hp).enc q.1, (Fc.z p hp).enc q.2])) ?_ rfl ?_ ?_
      · simp [runFn, argsOf, startF, evS, ev, evM, keepD, seen, hid, shw, shl, sho, hid1, shl1, sho1, attrD, biD, binD, cmpD, outD, idxD, bindF, bindF.setAllF, bindT, setAll, asSeq, PyD.T.slots, wipeE, isNonD, isiD, tyOf, intPart, cutD, frzAll, frz1, lkD, putD, startI, outI, E.isNil, D.flat, flatL, D.nob, nobL, isL, flatO, PyD.getD', zipD_map]
      · intro q hq
        refine ⟨_, rfl, ?_⟩
        have m : mulOk (Z.v (p := p) q.1 : Int) (Z.v (p := p) q.2 : Int) = true := mulOk_l (by omega) (by have := Z.v_lt (p := p) q.1; have := Pr.le p; omega)
        simp [runFn, argsOf, startF, evS, ev, evM, keepD, seen, hid, shw, shl, sho, hid1, shl1, sho1, attrD, biD, binD, cmpD, outD, idxD, bindF, bindF.setAllF, bindT, setAll, asSeq, PyD.T.slots, wipeE, isNonD, isiD, tyOf, intPart, cutD, frzAll, frz1, lkD, putD, startI, outI, E.isNil, D.flat, flatL, D.nob, nobL, isL, flatO, PyD.getD', Fc.enc, m]
      · rw [List.length_zip]; unfold LIM; omega
    have s := Z_ofI_sum (p := p) (ab := xs.zip ys) (s := 0)
    rw [Z.v_zero] at s
    simp at s
    simp [runFn, argsOf, startF, evS, ev, evM, keepD, seen, hid, shw, shl, sho, hid1, shl1, sho1, attrD, biD, binD, cmpD, outD, idxD, bindF, bindF.setAllF, bindT, setAll, asSeq, PyD.T.slots, wipeE, isNonD, isiD, tyOf, intPart, cutD, frzAll, frz1, lkD, putD, startI, outI, E.isNil, D.flat, flatL, D.nob, nobL, isL, flatO, PyD.getD'] at c
    simp [runFn, argsOf, startF, evS, ev, evM, keepD, seen, hid, shw, shl, sho, hid1, shl1, sho1, attrD, biD, binD, cmpD, outD, idxD, bindF, bindF.setAllF, bindT, setAll, asSeq, PyD.T.slots, wipeE, isNonD, isiD, tyOf, intPart, cutD, frzAll, frz1, lkD, putD, startI, outI, E.isNil, D.flat, flatL, D.nob, nobL, isL, flatO, PyD.getD', f_dot, b_dot, Fc.p, p0, c, intsOf_map]
    exact congrArg D.int s
  | q =>
    have l := l rfl
    have L0 := L_number_of (n := n + 1) (F := Fc.q) (i := 0)
    rw [Fc.ofI_zero] at L0
    obtain ⟨_, q, w, w', rfl⟩ : ∃ e', evS (fns tb (n + 2)) l_dot_2 [some (false, .int Fc.q.p), some (false, .lst (xs.map Fc.q.enc)), some (false, .lst (ys.map Fc.q.enc)), some (false, Fc.q.enc 0), none, none] = some (.nx e') ∧ ∃ w w', e' = [some (false, .int Fc.q.p), some (false, .lst (xs.map Fc.q.enc)), some (false, .lst (ys.map Fc.q.enc)), some (false, Fc.q.enc (dotK ((xs.zip ys).take (xs.zip ys).length))), w, w'] := by
      refine at_go (P := fun j e' => ∃ w w', e' = [some (false, .int Fc.q.p), some (false, .lst (xs.map Fc.q.enc)), some (false, .lst (ys.map Fc.q.enc)), some (false, Fc.q.enc (dotK ((xs.zip ys).take j))), w, w']) (for_zip (d := .lst ((xs.zip ys).map fun q => .tup [Fc.q.enc q.1, Fc.q.enc q.2])) ?_ rfl) ?_ ?_
      · simp [runFn, argsOf, startF, evS, ev, evM, keepD, seen, hid, shw, shl, sho, hid1, shl1, sho1, attrD, biD, binD, cmpD, outD, idxD, bindF, bindF.setAllF, bindT, setAll, asSeq, PyD.T.slots, wipeE, isNonD, isiD, tyOf, intPart, cutD, frzAll, frz1, lkD, putD, startI, outI, E.isNil, D.flat, flatL, D.nob, nobL, isL, flatO, PyD.getD', zipD_map]
      · exact ⟨none, none, rfl⟩
      · rintro j ⟨a, b⟩ hj _ ⟨w, w', rfl⟩
        have hm := List.mem_of_getElem? hj
        have hjl : j < xs.length := by
          have := (List.getElem?_eq_some_iff.mp hj).1
          rw [List.length_zip] at this
          omega
        obtain ⟨h1, h2⟩ := hh _ hm
        refine ⟨_, rfl, _, .inl ?_, some (false, Fc.q.enc a), some (false, Fc.q.enc b), rfl⟩
        have LM := L_multiply (n := n) h1 h2 (by omega)
        have HT : Fc.q.Ht (1 + j * (h + k + 1)) (dotK ((xs.zip ys).take j)) := by
          refine (Fc.Ht.sum (F := Fc.q) (h := h + k) (f := fun q : Fc.q.K × Fc.q.K => q.1 * q.2) (xs := (xs.zip ys).take j) (fun q hq => ?_) Fc.Ht.zero).up (by
            rw [List.length_take]
            have := Nat.mul_le_mul_right (h + k + 1) (Nat.min_le_left j (xs.zip ys).length)
            omega)
          have := hh q (List.mem_of_mem_take hq)
          exact this.1.mul this.2
        have hb : (j + 1) * (h + k + 1) ≤ xs.length * (h + k + 1) := Nat.mul_le_mul_right _ (by omega)
        rw [Nat.add_mul] at hb
        have LA := L_add (n := n) HT (h1.mul h2) (by omega)
        have e : dotK ((xs.zip ys).take (j + 1)) = dotK ((xs.zip ys).take j) + a * b := foldl_take hj
        rw [e]
        simp [runFn, argsOf, startF, evS, ev, evM, keepD, seen, hid, shw, shl, sho, hid1, shl1, sho1, attrD, biD, binD, cmpD, outD, idxD, bindF, bindF.setAllF, bindT, setAll, asSeq, PyD.T.slots, wipeE, isNonD, isiD, tyOf, intPart, cutD, frzAll, frz1, lkD, putD, startI, outI, E.isNil, D.flat, flatL, D.nob, nobL, isL, flatO, PyD.getD', LM, LA]
    rw [List.take_length] at q
    have P0 : ((Fc.q.p : Nat) : Int) = 0 := rfl
    rw [P0] at q L0 ⊢
    simp [runFn, argsOf, startF, evS, ev, evM, keepD, seen, hid, shw, shl, sho, hid1, shl1, sho1, attrD, biD, binD, cmpD, outD, idxD, bindF, bindF.setAllF, bindT, setAll, asSeq, PyD.T.slots, wipeE, isNonD, isiD, tyOf, intPart, cutD, frzAll, frz1, lkD, putD, startI, outI, E.isNil, D.flat, flatL, D.nob, nobL, isL, flatO, PyD.getD', f_dot, b_dot, L0, q]
/-! ### the weights of a list -/
noncomputable def dpr (a : F.K) (ys : List F.K) : F.K := ys.foldl (fun m b => if b ≠ a then m * (a - b) else m) 1
noncomputable def wts (xs : List F.K) : List F.K := xs.map fun a => (dpr a xs)⁻¹
theorem dpr_ne {a : F.K} : ∀ {ys : List F.K} {s : F.K}, s ≠ 0 → ys.foldl (fun m b => if b ≠ a then m * (a - b) else m) s ≠ 0
  | [], s, hs => hs
  | y :: ys, s, hs => by
    rw [List.foldl_cons]
    refine dpr_ne ?_
    split
    · intro c
      rcases Field.of_mul_eq_zero c with c | c
      · exact hs c
      · have : a = y := by grind
        exact absurd this.symm ‹_›
    · exact hs
theorem dpr_ht {a : F.K} (ha : F.Ht h a) : ∀ {ys : List F.K} {s : F.K} {k : Nat}, (∀ y ∈ ys, F.Ht h y) → F.Ht k s → F.Ht (k + ys.length * (2 * h + 1)) (ys.foldl (fun m b => if b ≠ a then m * (a - b) else m) s)
  | [], s, k, _, hs => by simpa using hs
  | y :: ys, s, k, hy, hs => by
    rw [List.foldl_cons]
    have h1 : F.Ht (k + (2 * h + 1)) (if y ≠ a then s * (a - y) else s) := by
      split
      · exact (hs.mul (ha.sub (hy y (List.mem_cons_self ..)))).up (by omega)
      · exact hs.up (by omega)
    refine (dpr_ht ha (fun z hz => hy z (List.mem_cons_of_mem _ hz)) h1).up ?_
    rw [List.length_cons, Nat.add_mul]
    omega
theorem wts_ht {xs : List F.K} (hx : ∀ x ∈ xs, F.Ht h x) : ∀ w ∈ wts xs, F.Ht (1 + xs.length * (2 * h + 1)) w := by
  intro w hw
  obtain ⟨a, ha, rfl⟩ := List.mem_map.mp hw
  exact (dpr_ht (hx a ha) hx Fc.Ht.one).inv
theorem L_list_weights {xs : List F.K} {d : D} (hd : asSeq d = some (xs.map F.enc)) (hx : ∀ x ∈ xs, F.Ht h x) (hl : xs.length ≤ 1000) (l : 1 + xs.length * (2 * h + 1) < 8000) (l2 : h < 400) : fns tb (n + 4) i_list_weights [.int F.p, d] = some (.lst ((wts xs).map F.enc)) := by
  rw [fns_succ (fn := f_list_weights) rfl]
  have L1 := L_number_of (n := n + 2) (F := F) (i := 1)
  rw [Fc.ofI_one] at L1
  have hv : ∀ w2 w3 w4 w5, ev (fns tb (n + 3)) (.var 1) (hid [some (false, .int F.p), some (false, d), w2, w3, w4, w5]) = some d := fun _ _ _ _ => by simp [runFn, argsOf, startF, evS, ev, evM, keepD, seen, hid, shw, shl, sho, hid1, shl1, sho1, attrD, biD, binD, cmpD, outD, idxD, bindF, bindF.setAllF, bindT, setAll, asSeq, PyD.T.slots, wipeE, isNonD, isiD, tyOf, intPart, cutD, frzAll, frz1, lkD, putD, startI, outI, E.isNil, D.flat, flatL, D.nob, nobL, isL, flatO, PyD.getD']
  obtain ⟨_, q, w3, w4, w5, rfl⟩ : ∃ e', evS (fns tb (n + 3)) l_list_weights_1 [some (false, .int F.p), some (false, d), some (true, .lst []), none, none, none] = some (.nx e') ∧ ∃ w3 w4 w5, e' = [some (false, .int F.p), some (false, d), some (true, .lst ((((xs.take xs.length).map fun a => (dpr a xs)⁻¹)).map F.enc)), w3, w4, w5] := by
    refine at_go (P := fun j e' => ∃ w3 w4 w5, e' = [some (false, .int F.p), some (false, d), some (true, .lst ((((xs.take j).map fun a => (dpr a xs)⁻¹)).map F.enc)), w3, w4, w5]) (for_var (hv _ _ _ _) hd) ⟨none, none, none, rfl⟩ ?_
    rintro j a hj _ ⟨w3, w4, w5, rfl⟩
    have ha := hx a (List.mem_of_getElem? hj)
    have hjl := (List.getElem?_eq_some_iff.mp hj).1
    rw [map_take hj, List.map_append]
    generalize hW : (((xs.take j).map fun a => (dpr a xs)⁻¹)).map F.enc = W
    · obtain ⟨_, q, w5', rfl⟩ : ∃ e', evS (fns tb (n + 3)) l_list_weights_2 [some (false, .int F.p), some (false, d), some (true, .lst W), some (false, F.enc a), some (false, F.enc 1), w5] = some (.nx e') ∧ ∃ w5, e' = [some (false, .int F.p), some (false, d), some (true, .lst W), some (false, F.enc a), some (false, F.enc (dpr a (xs.take xs.length))), w5] := by
        refine at_go (P := fun j e' => ∃ w5, e' = [some (false, .int F.p), some (false, d), some (true, .lst W), some (false, F.enc a), some (false, F.enc (dpr a (xs.take j))), w5]) (for_var (hv _ _ _ _) hd) ⟨w5, rfl⟩ ?_
        rintro i b hi _ ⟨w5, rfl⟩
        have hb := hx b (List.mem_of_getElem? hi)
        have hil := (List.getElem?_eq_some_iff.mp hi).1
        refine ⟨_, rfl, [some (false, .int F.p), some (false, d), some (true, .lst W), some (false, F.enc a), some (false, F.enc (dpr a (xs.take (i + 1)))), some (false, F.enc b)], .inl ?_, _, rfl⟩
        have e : dpr a (xs.take (i + 1)) = (if b ≠ a then dpr a (xs.take i) * (a - b) else dpr a (xs.take i)) := foldl_take hi
        rw [e]
        by_cases hba : b = a
        · subst hba
          simp [runFn, argsOf, startF, evS, ev, evM, keepD, seen, hid, shw, shl, sho, hid1, shl1, sho1, attrD, biD, binD, cmpD, outD, idxD, bindF, bindF.setAllF, bindT, setAll, asSeq, PyD.T.slots, wipeE, isNonD, isiD, tyOf, intPart, cutD, frzAll, frz1, lkD, putD, startI, outI, E.isNil, D.flat, flatL, D.nob, nobL, isL, flatO, PyD.getD', Fc.eqD_enc]
        · have LS := L_subtract (n := n) ha hb (by omega)
          have hh : (i + 1) * (2 * h + 1) ≤ xs.length * (2 * h + 1) := Nat.mul_le_mul_right _ (by omega)
          rw [Nat.add_mul] at hh
          have HD : F.Ht (1 + i * (2 * h + 1)) (dpr a (xs.take i)) := (dpr_ht ha (fun y hy => hx y (List.mem_of_mem_take hy)) Fc.Ht.one).up (by
            rw [List.length_take]
            have := Nat.mul_le_mul_right (2 * h + 1) (Nat.min_le_left i xs.length)
            omega)
          have LM := L_multiply (n := n + 1) HD (ha.sub hb) (by omega)
          simp [runFn, argsOf, startF, evS, ev, evM, keepD, seen, hid, shw, shl, sho, hid1, shl1, sho1, attrD, biD, binD, cmpD, outD, idxD, bindF, bindF.setAllF, bindT, setAll, asSeq, PyD.T.slots, wipeE, isNonD, isiD, tyOf, intPart, cutD, frzAll, frz1, lkD, putD, startI, outI, E.isNil, D.flat, flatL, D.nob, nobL, isL, flatO, PyD.getD', Fc.eqD_enc, hba, LS, LM]
      rw [List.take_length] at q
      have LI := L_invert (n := n + 1) (dpr_ht ha hx Fc.Ht.one) (dpr_ne (a := a) (ys := xs) (fun c => Field.zero_ne_one c.symm)) (by omega)
      have hL : W.length < LIM := by
        rw [← hW]
        simp [LIM]
        omega
      have hL2 : (fns tb (n + 3)) i_invert [.int F.p, F.enc (dpr a xs)] = some (F.enc (dpr a xs)⁻¹) := LI
      refine ⟨_, rfl, [some (false, .int F.p), some (false, d), some (true, .lst (W ++ [F.enc (dpr a xs)⁻¹])), some (false, F.enc a), some (false, F.enc (dpr a xs)), w5'], .inl ?_, _, _, _, rfl⟩
      refine (seq_nx (e := [some (false, .int F.p), some (false, d), some (true, .lst W), some (false, F.enc a), some (false, F.enc 1), w5]) (by simp [runFn, argsOf, startF, evS, ev, evM, keepD, seen, hid, shw, shl, sho, hid1, shl1, sho1, attrD, biD, binD, cmpD, outD, idxD, bindF, bindF.setAllF, bindT, setAll, asSeq, PyD.T.slots, wipeE, isNonD, isiD, tyOf, intPart, cutD, frzAll, frz1, lkD, putD, startI, outI, E.isNil, D.flat, flatL, D.nob, nobL, isL, flatO, PyD.getD', L1])).trans ?_
      refine (seq_nx q).trans ?_
      simp [runFn, argsOf, startF, evS, ev, evM, keepD, seen, hid, shw, shl, sho, hid1, shl1, sho1, attrD, biD, binD, cmpD, outD, idxD, bindF, bindF.setAllF, bindT, setAll, asSeq, PyD.T.slots, wipeE, isNonD, isiD, tyOf, intPart, cutD, frzAll, frz1, lkD, putD, startI, outI, E.isNil, D.flat, flatL, D.nob, nobL, isL, flatO, PyD.getD', hL2, hL]
  rw [List.take_length] at q
  simp [runFn, argsOf, startF, evS, ev, evM, keepD, seen, hid, shw, shl, sho, hid1, shl1, sho1, attrD, biD, binD, cmpD, outD, idxD, bindF, bindF.setAllF, bindT, setAll, asSeq, PyD.T.slots, wipeE, isNonD, isiD, tyOf, intPart, cutD, frzAll, frz1, lkD, putD, startI, outI, E.isNil, D.flat, flatL, D.nob, nobL, isL, flatO, PyD.getD', f_list_weights, b_list_weights, q, wts]
end
end PyD

namespace PyD
open PySem Lean.Grind
/-! ### the law's numbers, in lowest terms -/
theorem whGo_common {Φ : Fns} : ∀ (b a : Nat), evS Φ l__law_common_1 [some (false, .int (a : Int)), some (false, .int (b : Int))] = some (.nx [some (false, .int (Nat.gcd a b : Nat)), some (false, .int 0)]) := by
  intro b a
  unfold l__law_common_1 evS
  refine whAll_of (n := b + 1) ?_
  revert a
  suffices h : ∀ i, b < i → ∀ a : Nat, whGo (fun env => ev Φ (.cmp .ne (.var 1) (.int 0)) (shw env)) (fun env => evS Φ (.par 0 1 (.var 1) (.bin .mod (.bi .int (.cons (.var 0) .nil)) (.var 1)) {} {}) env) i [some (false, .int (a : Int)), some (false, .int (b : Int))] = some (.nx [some (false, .int (Nat.gcd a b : Nat)), some (false, .int 0)]) from fun a => h _ (by omega) a
  induction b using Nat.strongRecOn with
  | _ b ih =>
    intro i hi a
    obtain ⟨i, rfl⟩ : ∃ i', i = i' + 1 := ⟨i - 1, by omega⟩
    by_cases hb : b = 0
    · subst hb
      rw [whGo_f (by simp [runFn, argsOf, startF, evS, ev, evM, keepD, seen, hid, shw, shl, sho, hid1, shl1, sho1, attrD, biD, binD, cmpD, outD, idxD, bindF, bindF.setAllF, bindT, setAll, asSeq, PyD.T.slots, wipeE, isNonD, isiD, tyOf, intPart, cutD, frzAll, frz1, lkD, putD, startI, outI, E.isNil, D.flat, flatL, D.nob, nobL, isL, flatO, PyD.getD'])]
      simp
    · have h := ih (a % b) (Nat.mod_lt _ (by omega)) i (by have := Nat.mod_lt a (show 0 < b by omega); omega) b
      have e : ((a : Int) % (b : Int)) = ((a % b : Nat) : Int) := by simp
      have g : Nat.gcd a b = Nat.gcd b (a % b) := by rw [Nat.gcd_comm a b, Nat.gcd_rec b a, Nat.gcd_comm]
      rw [g, ← h, whGo_t (e := [some (false, .int (b : Int)), some (false, .int ((a % b : Nat) : Int))]) (by simp [runFn, argsOf, startF, evS, ev, evM, keepD, seen, hid, shw, shl, sho, hid1, shl1, sho1, attrD, biD, binD, cmpD, outD, idxD, bindF, bindF.setAllF, bindT, setAll, asSeq, PyD.T.slots, wipeE, isNonD, isiD, tyOf, intPart, cutD, frzAll, frz1, lkD, putD, startI, outI, E.isNil, D.flat, flatL, D.nob, nobL, isL, flatO, PyD.getD', hb]) (by simp [runFn, argsOf, startF, evS, ev, evM, keepD, seen, hid, shw, shl, sho, hid1, shl1, sho1, attrD, biD, binD, cmpD, outD, idxD, bindF, bindF.setAllF, bindT, setAll, asSeq, PyD.T.slots, wipeE, isNonD, isiD, tyOf, intPart, cutD, frzAll, frz1, lkD, putD, startI, outI, E.isNil, D.flat, flatL, D.nob, nobL, isL, flatO, PyD.getD', hb, Nat.pos_of_ne_zero])]
theorem L_common {n : Nat} {a b : Int} : fns tb (n + 1) i__law_common [.int a, .int b] = some (.int (Nat.gcd a.natAbs b.natAbs : Nat)) := by
  rw [fns_succ (fn := f__law_common) rfl]
  have ab : ∀ z : Int, (if z < 0 then -z else z) = (z.natAbs : Int) := fun z => by split <;> omega
  simp [runFn, argsOf, startF, evS, ev, evM, keepD, seen, hid, shw, shl, sho, hid1, shl1, sho1, attrD, biD, binD, cmpD, outD, idxD, bindF, bindF.setAllF, bindT, setAll, asSeq, PyD.T.slots, wipeE, isNonD, isiD, tyOf, intPart, cutD, frzAll, frz1, lkD, putD, startI, outI, E.isNil, D.flat, flatL, D.nob, nobL, isL, flatO, PyD.getD', f__law_common, b__law_common, ab, whGo_common]
theorem gcd_small {a d : Int} {h : Nat} (hd : 0 < d) (hb : d.natAbs < 2 ^ h) : (Nat.gcd a.natAbs d.natAbs : Int).natAbs < 2 ^ h := by
  rw [Int.natAbs_natCast]
  exact Nat.lt_of_le_of_lt (Nat.gcd_le_right _ (by omega)) hb
theorem L_law_lowest {n : Nat} {a d : Int} {h : Nat} (hd : 0 < d) (hb : d.natAbs < 2 ^ h) (hl : h < 9000) : fns tb (n + 2) i__law_lowest [.int a, .int d] = some (encQ (Rat.divInt a d)) := by
  rw [fns_succ (fn := f__law_lowest) rfl, divInt_pos hd]
  have h2 := gcd_pos (a := a) (d := d) (by omega)
  have h4 := divOk_bits h2 (gcd_small hd hb) hl
  simp [runFn, argsOf, startF, evS, ev, evM, keepD, seen, hid, shw, shl, sho, hid1, shl1, sho1, attrD, biD, binD, cmpD, outD, idxD, bindF, bindF.setAllF, bindT, setAll, asSeq, PyD.T.slots, wipeE, isNonD, isiD, tyOf, intPart, cutD, frzAll, frz1, lkD, putD, startI, outI, E.isNil, D.flat, flatL, D.nob, nobL, isL, flatO, PyD.getD', f__law_lowest, b__law_lowest, L_common, h4, fdiv_pos h2]
theorem Ht_divInt {a d : Int} {h : Nat} (hd : 0 < d) (ha : a.natAbs < 2 ^ h) (hb : d.natAbs < 2 ^ h) : Fc.q.Ht h (Rat.divInt a d : Rat) := by
  obtain ⟨m, rfl⟩ : ∃ m : Nat, d = m := ⟨d.toNat, by omega⟩
  rw [Rat.divInt_ofNat]
  exact Fc.Ht_mk (by omega) ha (by omega)
section
variable {F : Fc} {x y : F.K} {h k n : Nat}
theorem L_lint {i : Int} : fns tb (n + 1) i__law_integer [.int F.p, .int i] = some (F.enc (F.ofI i)) := by
  rw [fns_succ (fn := f__law_integer) rfl]
  cases F with
  | q => simp [runFn, argsOf, startF, evS, ev, evM, keepD, seen, hid, shw, shl, sho, hid1, shl1, sho1, attrD, biD, binD, cmpD, outD, idxD, bindF, bindF.setAllF, bindT, setAll, asSeq, PyD.T.slots, wipeE, isNonD, isiD, tyOf, intPart, cutD, frzAll, frz1, lkD, putD, startI, outI, E.isNil, D.flat, flatL, D.nob, nobL, isL, flatO, PyD.getD', f__law_integer, b__law_integer, Fc.p, Fc.enc, Fc.ofI, encQ]
  | z p hp =>
    haveI := hp
    have h0 := Fc.p_pos p hp
    have e := Z.v_ofI (p := p) i
    simp [Fc.p] at h0
    simp [runFn, argsOf, startF, evS, ev, evM, keepD, seen, hid, shw, shl, sho, hid1, shl1, sho1, attrD, biD, binD, cmpD, outD, idxD, bindF, bindF.setAllF, bindT, setAll, asSeq, PyD.T.slots, wipeE, isNonD, isiD, tyOf, intPart, cutD, frzAll, frz1, lkD, putD, startI, outI, E.isNil, D.flat, flatL, D.nob, nobL, isL, flatO, PyD.getD', f__law_integer, b__law_integer, h0, Fc.p, Fc.enc, Fc.ofI, e]
theorem L_lsum (hx : F.Ht h x) (hy : F.Ht k y) (l : h + k < 9000) : fns tb (n + 3) i__law_sum [.int F.p, F.enc x, F.enc y] = some (F.enc (x + y)) := by
  rw [fns_succ (fn := f__law_sum) rfl]
  cases F with
  | q =>
    have d1 := (x : Rat).den_pos
    have d2 := (y : Rat).den_pos
    have e : (x + y : Fc.q.K) = Rat.divInt ((x : Rat).num * (y : Rat).den + (y : Rat).num * (x : Rat).den) (((x : Rat).den : Int) * ((y : Rat).den : Int)) := by
      refine (Rat.add_def' _ _).trans ?_
      rw [← Int.natCast_mul, Rat.divInt_ofNat]
    have m1 : mulOk (x : Rat).num ((y : Rat).den : Int) = true := mulOk_bits hx.1 (by rw [Int.natAbs_natCast]; exact hy.2) (by omega)
    have m2 : mulOk (y : Rat).num ((x : Rat).den : Int) = true := mulOk_bits hy.1 (by rw [Int.natAbs_natCast]; exact hx.2) (by omega)
    have m3 : mulOk ((x : Rat).den : Int) ((y : Rat).den : Int) = true := mulOk_bits (by rw [Int.natAbs_natCast]; exact hx.2) (by rw [Int.natAbs_natCast]; exact hy.2) (by omega)
    have b3 : (((x : Rat).den : Int) * ((y : Rat).den : Int)).natAbs < 2 ^ (h + k) := by
      rw [Int.natAbs_mul, Int.natAbs_natCast, Int.natAbs_natCast]
      exact Fc.bits_mul hx.2 hy.2
    have L := L_law_lowest (n := n) (a := (x : Rat).num * (y : Rat).den + (y : Rat).num * (x : Rat).den) (d := ((x : Rat).den : Int) * ((y : Rat).den : Int)) (Int.mul_pos (by omega) (by omega)) b3 l
    rw [e]
    simp [runFn, argsOf, startF, evS, ev, evM, keepD, seen, hid, shw, shl, sho, hid1, shl1, sho1, attrD, biD, binD, cmpD, outD, idxD, bindF, bindF.setAllF, bindT, setAll, asSeq, PyD.T.slots, wipeE, isNonD, isiD, tyOf, intPart, cutD, frzAll, frz1, lkD, putD, startI, outI, E.isNil, D.flat, flatL, D.nob, nobL, isL, flatO, PyD.getD', f__law_sum, b__law_sum, Fc.p, Fc.enc, encQ, idxL, ixN, m1, m2, m3, L]
  | z p hp =>
    haveI := hp
    have h0 := Fc.p_pos p hp
    simp [Fc.p] at h0
    have e : (Z.v (p := p) (x + y) : Int) = ((Z.v (p := p) x : Int) + (Z.v (p := p) y : Int)) % (p : Int) := Z.vi_add (p := p) x y
    simp [runFn, argsOf, startF, evS, ev, evM, keepD, seen, hid, shw, shl, sho, hid1, shl1, sho1, attrD, biD, binD, cmpD, outD, idxD, bindF, bindF.setAllF, bindT, setAll, asSeq, PyD.T.slots, wipeE, isNonD, isiD, tyOf, intPart, cutD, frzAll, frz1, lkD, putD, startI, outI, E.isNil, D.flat, flatL, D.nob, nobL, isL, flatO, PyD.getD', f__law_sum, b__law_sum, h0, Fc.p, Fc.enc, e]
theorem L_ltimes (hx : F.Ht h x) (hy : F.Ht k y) (l : h + k < 9000) : fns tb (n + 3) i__law_times [.int F.p, F.enc x, F.enc y] = some (F.enc (x * y)) := by
  rw [fns_succ (fn := f__law_times) rfl]
  cases F with
  | q =>
    have d1 := (x : Rat).den_pos
    have d2 := (y : Rat).den_pos
    have e : (x * y : Fc.q.K) = Rat.divInt ((x : Rat).num * (y : Rat).num) (((x : Rat).den : Int) * ((y : Rat).den : Int)) := by
      refine (Rat.mul_def' _ _).trans ?_
      rw [← Int.natCast_mul, Rat.divInt_ofNat]
    have m1 : mulOk (x : Rat).num (y : Rat).num = true := mulOk_bits hx.1 hy.1 (by omega)
    have m3 : mulOk ((x : Rat).den : Int) ((y : Rat).den : Int) = true := mulOk_bits (by rw [Int.natAbs_natCast]; exact hx.2) (by rw [Int.natAbs_natCast]; exact hy.2) (by omega)
    have b3 : (((x : Rat).den : Int) * ((y : Rat).den : Int)).natAbs < 2 ^ (h + k) := by
      rw [Int.natAbs_mul, Int.natAbs_natCast, Int.natAbs_natCast]
      exact Fc.bits_mul hx.2 hy.2
    have L := L_law_lowest (n := n) (a := (x : Rat).num * (y : Rat).num) (d := ((x : Rat).den : Int) * ((y : Rat).den : Int)) (Int.mul_pos (by omega) (by omega)) b3 l
    rw [e]
    simp [runFn, argsOf, startF, evS, ev, evM, keepD, seen, hid, shw, shl, sho, hid1, shl1, sho1, attrD, biD, binD, cmpD, outD, idxD, bindF, bindF.setAllF, bindT, setAll, asSeq, PyD.T.slots, wipeE, isNonD, isiD, tyOf, intPart, cutD, frzAll, frz1, lkD, putD, startI, outI, E.isNil, D.flat, flatL, D.nob, nobL, isL, flatO, PyD.getD', f__law_times, b__law_times, Fc.p, Fc.enc, encQ, idxL, ixN, m1, m3, L]
  | z p hp =>
    haveI := hp
    have h0 := Fc.p_pos p hp
    simp [Fc.p] at h0
    have e : (Z.v (p := p) (x * y) : Int) = ((Z.v (p := p) x : Int) * (Z.v (p := p) y : Int)) % (p : Int) := Z.vi_mul (p := p) x y
    have m : mulOk (Z.v (p := p) x : Int) (Z.v (p := p) y : Int) = true := mulOk_l (by omega) (by have := Z.v_lt (p := p) x; have := Pr.le p; omega)
    simp [runFn, argsOf, startF, evS, ev, evM, keepD, seen, hid, shw, shl, sho, hid1, shl1, sho1, attrD, biD, binD, cmpD, outD, idxD, bindF, bindF.setAllF, bindT, setAll, asSeq, PyD.T.slots, wipeE, isNonD, isiD, tyOf, intPart, cutD, frzAll, frz1, lkD, putD, startI, outI, E.isNil, D.flat, flatL, D.nob, nobL, isL, flatO, PyD.getD', f__law_times, b__law_times, h0, Fc.p, Fc.enc, e, m]
theorem L_lisnum : fns tb (n + 2) i__law_is_number [.int F.p, F.enc x] = some (.bl true) := by
  rw [fns_succ (fn := f__law_is_number) rfl]
  cases F with
  | q =>
    have g : Nat.gcd (x : Rat).num.natAbs (x : Rat).den = 1 := (x : Rat).reduced
    have dp := (x : Rat).den_pos
    have C := L_common (n := n) (a := (x : Rat).num) (b := ((x : Rat).den : Int))
    rw [Int.natAbs_natCast, g] at C
    have C' : fns tb (n + 1) i__law_common [.int (x : Rat).num, .int ((x : Rat).den : Int)] = some (.int 1) := C
    have ex : ∀ z : Rat, Fc.q.enc z = D.tup [.int z.num, .int (z.den : Int)] := fun _ => rfl
    rw [ex x]
    simp [runFn, argsOf, startF, evS, ev, evM, keepD, seen, hid, shw, shl, sho, hid1, shl1, sho1, attrD, biD, binD, cmpD, outD, idxD, bindF, bindF.setAllF, bindT, setAll, asSeq, PyD.T.slots, wipeE, isNonD, isiD, tyOf, intPart, cutD, frzAll, frz1, lkD, putD, startI, outI, E.isNil, D.flat, flatL, D.nob, nobL, isL, flatO, PyD.getD', f__law_is_number, b__law_is_number, Fc.p, C', idxL, ixN, dp]
  | z p hp =>
    haveI := hp
    have h0 := Fc.p_pos p hp
    simp [Fc.p] at h0
    have l := Z.v_lt (p := p) x
    simp [runFn, argsOf, startF, evS, ev, evM, keepD, seen, hid, shw, shl, sho, hid1, shl1, sho1, attrD, biD, binD, cmpD, outD, idxD, bindF, bindF.setAllF, bindT, setAll, asSeq, PyD.T.slots, wipeE, isNonD, isiD, tyOf, intPart, cutD, frzAll, frz1, lkD, putD, startI, outI, E.isNil, D.flat, flatL, D.nob, nobL, isL, flatO, PyD.getD', f__law_is_number, b__law_is_number, Fc.p, Fc.enc, h0, l]
end
/-! ### alike -/
inductive Al : Nat → D → Prop
  | int {k : Nat} (i : Int) : Al k (.int i)
  | tup {k : Nat} {xs : List D} : xs.length ≤ 1000 → (∀ x ∈ xs, Al k x) → Al (k + 1) (.tup xs)
  | lst {k : Nat} {xs : List D} : xs.length ≤ 1000 → (∀ x ∈ xs, Al k x) → Al (k + 1) (.lst xs)
theorem Al.enc {F : Fc} {x : F.K} : Al 1 (F.enc x) := by
  cases F with
  | q =>
    refine .tup (k := 0) (by simp) fun y hy => ?_
    simp only [List.mem_cons, List.not_mem_nil, or_false] at hy
    rcases hy with rfl | rfl <;> exact .int _
  | z p i => exact .int _
theorem alike_loop {k : Nat} {d : D} {xs : List D} {Φ : Fns} (hd : idxD d = fun i => idxD (.tup xs) i) (hlen : biD .len [d] = some (.int (xs.length : Nat))) (hl : xs.length ≤ 1000) (h : ∀ x ∈ xs, Φ i__law_alike [x, x] = some (.bl true)) :
    ∃ w, evS Φ l__law_alike_1 [some (false, d), some (false, d), none] = some (.nx [some (false, d), some (false, d), w]) := by
  have r : ∃ e', evS Φ l__law_alike_1 [some (false, d), some (false, d), none] = some (.nx e') ∧ ∃ w, e' = [some (false, d), some (false, d), w] := by
    refine at_rng (P := fun _ e' => ∃ w, e' = [some (false, d), some (false, d), w]) (n := xs.length) (by simp only [ev, shw, List.map_cons, List.map_nil, List.getElem?_cons_succ, List.getElem?_cons_zero, Option.join_some, Option.map_some, Option.bind_some, hlen]) (rgOk_sm (by omega) (by omega)) ⟨_, rfl⟩ ?_
    rintro j hj _ ⟨w, rfl⟩
    have hj' : j < xs.length := by omega
    have ix : idxD d (.int (j : Nat)) = some xs[j] := by rw [hd]; exact idxL_nat hj'
    have ha : Φ 0 [] = Φ 0 [] := rfl
    have h2 := h xs[j] (List.getElem_mem _)
    refine ⟨_, rfl, [some (false, d), some (false, d), some (false, .int j)], .inl ?_, _, rfl⟩
    refine (iff_f ?_).trans rfl
    simp only [ev, shw, List.map_cons, List.map_nil, List.set_cons_succ, List.set_cons_zero, List.getElem?_cons_succ, List.getElem?_cons_zero, Option.join_some, Option.map_some, Option.bind_some, ix, h2, Bool.not_true]
  obtain ⟨_, e, w, rfl⟩ := r
  exact ⟨w, e⟩
theorem L_alike {k : Nat} {d : D} (h : Al k d) : ∀ {n : Nat}, k ≤ n → fns tb (n + 1) i__law_alike [d, d] = some (.bl true) := by
  induction h with
  | int i =>
    intro n _
    rw [fns_succ (fn := f__law_alike) rfl]
    simp [runFn, argsOf, startF, evS, ev, evM, keepD, seen, hid, shw, shl, sho, hid1, shl1, sho1, attrD, biD, binD, cmpD, outD, idxD, bindF, bindF.setAllF, bindT, setAll, asSeq, PyD.T.slots, wipeE, isNonD, isiD, tyOf, intPart, cutD, frzAll, frz1, lkD, putD, startI, outI, E.isNil, D.flat, flatL, D.nob, nobL, isL, flatO, PyD.getD', f__law_alike, b__law_alike]
  | @tup k xs hl h ih =>
    intro n hn
    obtain ⟨m, rfl⟩ : ∃ m, n = m + 1 := ⟨n - 1, by omega⟩
    rw [fns_succ (fn := f__law_alike) rfl]
    obtain ⟨w, q⟩ := alike_loop (k := k) (d := .tup xs) (xs := xs) (Φ := fns tb (m + 1)) rfl rfl hl fun x hx => ih x hx (by omega)
    simp [runFn, argsOf, startF, evS, ev, evM, keepD, seen, hid, shw, shl, sho, hid1, shl1, sho1, attrD, biD, binD, cmpD, outD, idxD, bindF, bindF.setAllF, bindT, setAll, asSeq, PyD.T.slots, wipeE, isNonD, isiD, tyOf, intPart, cutD, frzAll, frz1, lkD, putD, startI, outI, E.isNil, D.flat, flatL, D.nob, nobL, isL, flatO, PyD.getD', f__law_alike, b__law_alike, q]
  | @lst k xs hl h ih =>
    intro n hn
    obtain ⟨m, rfl⟩ : ∃ m, n = m + 1 := ⟨n - 1, by omega⟩
    rw [fns_succ (fn := f__law_alike) rfl]
    obtain ⟨w, q⟩ := alike_loop (k := k) (d := .lst xs) (xs := xs) (Φ := fns tb (m + 1)) (by funext i; cases i <;> rfl) rfl hl fun x hx => ih x hx (by omega)
    simp [runFn, argsOf, startF, evS, ev, evM, keepD, seen, hid, shw, shl, sho, hid1, shl1, sho1, attrD, biD, binD, cmpD, outD, idxD, bindF, bindF.setAllF, bindT, setAll, asSeq, PyD.T.slots, wipeE, isNonD, isiD, tyOf, intPart, cutD, frzAll, frz1, lkD, putD, startI, outI, E.isNil, D.flat, flatL, D.nob, nobL, isL, flatO, PyD.getD', f__law_alike, b__law_alike, q]
end PyD

namespace PyD
open PySem
/-- the numbers of a pool -/
def Pool (P : List Int) : Prop := ∀ x ∈ P, 0 ≤ x ∧ x < 1000
theorem Pool.app {P : List Int} {x : Int} (h : Pool P) (h0 : 0 ≤ x) (h1 : x < 1000) : Pool (P ++ [x]) := by
  intro y hy
  rcases List.mem_append.mp hy with hy | hy
  · exact h y hy
  · rw [List.mem_singleton.mp hy]; exact ⟨h0, h1⟩
section
variable {Φ : Fns} {sc : D} {c : Int}
def pEnv (sc : D) (c : Int) (P : List Int) (t : D) (w4 w5 w6 w7 : Option (Bool × D)) : FEnv := [some (false, sc), some (false, .int c), some (true, .lst (P.map .int)), some (false, t), w4, w5, w6, w7]
theorem pool_2 {P : List Int} {t : D} {w4 w5 w7 : Option (Bool × D)} {l : Int} (hc : 0 ≤ c) (hc2 : c ≤ 1000) (hP : Pool P) (hl : P.length ≤ 100000) :
    ∃ e', evS Φ l__law_pool_2 (pEnv sc c P t w4 w5 (some (false, .int l)) w7) = some (.nx e') ∧ ∃ P' w5' l', e' = pEnv sc c P' t w4 w5' (some (false, .int l')) w7 ∧ Pool P' ∧ P'.length ≤ P.length + c.toNat := by
  refine at_rng (P := fun i e' => ∃ P' w5' l', e' = pEnv sc c P' t w4 w5' (some (false, .int l')) w7 ∧ Pool P' ∧ P'.length ≤ P.length + i) (n := c) (by simp [runFn, argsOf, startF, evS, ev, evM, keepD, seen, hid, shw, shl, sho, hid1, shl1, sho1, attrD, biD, binD, cmpD, outD, idxD, bindF, bindF.setAllF, bindT, setAll, asSeq, PyD.T.slots, wipeE, isNonD, isiD, tyOf, intPart, cutD, frzAll, frz1, lkD, putD, startI, outI, E.isNil, D.flat, flatL, D.nob, nobL, isL, flatO, PyD.getD', pEnv]) (by simp [rgOk]; omega) ⟨P, w5, l, rfl, hP, Nat.le_refl _⟩ ?_
  rintro j hj _ ⟨P', w5', l', rfl, q1, q2⟩
  refine ⟨_, rfl, ?_⟩
  by_cases h0 : 0 < l'
  · refine ⟨pEnv sc c (P' ++ [l' % 1000]) t w4 (some (false, .int j)) (some (false, .int (l' / 1000))) w7, .inl ?_, P' ++ [l' % 1000], _, _, rfl, q1.app (by omega) (by omega), by rw [List.length_append]; simp; omega⟩
    have hd : divOk 1000 = true := by decide
    have hL : P'.length < LIM := by unfold LIM; omega
    simp [runFn, argsOf, startF, evS, ev, evM, keepD, seen, hid, shw, shl, sho, hid1, shl1, sho1, attrD, biD, binD, cmpD, outD, idxD, bindF, bindF.setAllF, bindT, setAll, asSeq, PyD.T.slots, wipeE, isNonD, isiD, tyOf, intPart, cutD, frzAll, frz1, lkD, putD, startI, outI, E.isNil, D.flat, flatL, D.nob, nobL, isL, flatO, PyD.getD', pEnv, h0, hL, hd, fdiv_pos]
  · refine ⟨pEnv sc c P' t w4 (some (false, .int j)) (some (false, .int l')) w7, .inl ?_, P', _, _, rfl, q1, by omega⟩
    simp [runFn, argsOf, startF, evS, ev, evM, keepD, seen, hid, shw, shl, sho, hid1, shl1, sho1, attrD, biD, binD, cmpD, outD, idxD, bindF, bindF.setAllF, bindT, setAll, asSeq, PyD.T.slots, wipeE, isNonD, isiD, tyOf, intPart, cutD, frzAll, frz1, lkD, putD, startI, outI, E.isNil, D.flat, flatL, D.nob, nobL, isL, flatO, PyD.getD', pEnv, h0]
theorem pool_3 {P : List Int} {t : D} {w4 w5 w6 : Option (Bool × D)} {m : Int} (hP : Pool P) (hl : P.length ≤ 100000) :
    ∃ e', evS Φ l__law_pool_3 (pEnv sc c P t w4 w5 w6 (some (false, .int m))) = some (.nx e') ∧ ∃ P' w5' m', e' = pEnv sc c P' t w4 w5' w6 (some (false, .int m')) ∧ Pool P' ∧ P'.length ≤ P.length + 6 := by
  refine at_rng (P := fun i e' => ∃ P' w5' m', e' = pEnv sc c P' t w4 w5' w6 (some (false, .int m')) ∧ Pool P' ∧ P'.length ≤ P.length + i) (n := 6) (by simp [runFn, argsOf, startF, evS, ev, evM, keepD, seen, hid, shw, shl, sho, hid1, shl1, sho1, attrD, biD, binD, cmpD, outD, idxD, bindF, bindF.setAllF, bindT, setAll, asSeq, PyD.T.slots, wipeE, isNonD, isiD, tyOf, intPart, cutD, frzAll, frz1, lkD, putD, startI, outI, E.isNil, D.flat, flatL, D.nob, nobL, isL, flatO, PyD.getD', pEnv]) (by decide) ⟨P, w5, m, rfl, hP, Nat.le_refl _⟩ ?_
  rintro j hj _ ⟨P', w5', m', rfl, q1, q2⟩
  refine ⟨_, rfl, ?_⟩
  refine ⟨pEnv sc c (P' ++ [(m' * 48271 + 11) % 2147483647 / 7 % 1000]) t w4 (some (false, .int j)) w6 (some (false, .int ((m' * 48271 + 11) % 2147483647))), .inl ?_, _, _, _, rfl, q1.app (by omega) (by omega), by rw [List.length_append]; simp; omega⟩
  have hd : divOk 7 = true := by decide
  have hL : P'.length < LIM := by unfold LIM; omega
  have hm : mulOk m' 48271 = true := mulOk_r (by decide) (by decide)
  simp [runFn, argsOf, startF, evS, ev, evM, keepD, seen, hid, shw, shl, sho, hid1, shl1, sho1, attrD, biD, binD, cmpD, outD, idxD, bindF, bindF.setAllF, bindT, setAll, asSeq, PyD.T.slots, wipeE, isNonD, isiD, tyOf, intPart, cutD, frzAll, frz1, lkD, putD, startI, outI, E.isNil, D.flat, flatL, D.nob, nobL, isL, flatO, PyD.getD', pEnv, hL, hd, hm, fdiv_pos]
theorem pool_1 {ns : List Int} {w4 w5 w6 w7 : Option (Bool × D)} (hc : 0 ≤ c) (hc2 : c ≤ 1000) (hn : ns.length ≤ 63) :
    ∃ e', evS Φ l__law_pool_1 (pEnv (.ro (ns.map .int)) c [] (.int 7) w4 w5 w6 w7) = some (.nx e') ∧ ∃ P' t w4 w5' w6 w7, e' = pEnv (.ro (ns.map .int)) c P' (.int t) w4 w5' w6 w7 ∧ Pool P' ∧ P'.length ≤ (ns.map D.int).length * 1006 := by
  refine at_var (d := .ro (ns.map .int)) (xs := ns.map .int) (P := fun i e' => ∃ P' t w4 w5' w6 w7, e' = pEnv (.ro (ns.map .int)) c P' (.int t) w4 w5' w6 w7 ∧ Pool P' ∧ P'.length ≤ i * 1006)
    (by simp [runFn, argsOf, startF, evS, ev, evM, keepD, seen, hid, shw, shl, sho, hid1, shl1, sho1, attrD, biD, binD, cmpD, outD, idxD, bindF, bindF.setAllF, bindT, setAll, asSeq, PyD.T.slots, wipeE, isNonD, isiD, tyOf, intPart, cutD, frzAll, frz1, lkD, putD, startI, outI, E.isNil, D.flat, flatL, D.nob, nobL, isL, flatO, PyD.getD', pEnv]) rfl ⟨[], 7, w4, w5, w6, w7, rfl, (fun x h => nomatch h), Nat.zero_le _⟩ ?_
  rintro j x hx _ ⟨P', t, w4, w5, w6, w7, rfl, q1, q2⟩
  obtain ⟨hj, rfl⟩ := List.getElem?_eq_some_iff.mp hx
  rw [List.length_map] at hj
  rw [List.getElem_map]
  generalize ns[j] = z
  refine ⟨pEnv (.ro (ns.map .int)) c P' (.int t) (some (false, .int z)) w5 w6 w7, rfl, ?_⟩
  have hm2 : ∀ z : Int, mulOk 2 z = true := fun z => mulOk_l (by decide) (by decide)
  have hm2' : ∀ z : Int, mulOk (-2) z = true := fun z => mulOk_l (by decide) (by decide)
  have hm31 : ∀ z : Int, mulOk z 31 = true := fun z => mulOk_r (by decide) (by decide)
  have hm4 : ∀ z : Int, mulOk z 40692 = true := fun z => mulOk_r (by decide) (by decide)
  obtain ⟨l, hl⟩ : ∃ l : Int, l = if 0 ≤ z then 2 * z else -2 * z - 1 := ⟨_, rfl⟩
  have t1 : evS Φ (.asg 6 (.ite (.cmp .ge (.var 4) (.int 0)) (.bin .mul (.int 2) (.bi .int (.cons (.var 4) .nil))) (.bin .sub (.bin .mul (.neg (.int 2)) (.bi .int (.cons (.var 4) .nil))) (.int 1))) {}) (pEnv (.ro (ns.map .int)) c P' (.int t) (some (false, .int z)) w5 w6 w7) = some (.nx (pEnv (.ro (ns.map .int)) c P' (.int t) (some (false, .int z)) w5 (some (false, .int l)) w7)) := by
    by_cases hz : 0 ≤ z <;> simp [runFn, argsOf, startF, evS, ev, evM, keepD, seen, hid, shw, shl, sho, hid1, shl1, sho1, attrD, biD, binD, cmpD, outD, idxD, bindF, bindF.setAllF, bindT, setAll, asSeq, PyD.T.slots, wipeE, isNonD, isiD, tyOf, intPart, cutD, frzAll, frz1, lkD, putD, startI, outI, E.isNil, D.flat, flatL, D.nob, nobL, isL, flatO, PyD.getD', pEnv, hz, hm2, hm2', hl]
  have t2 : ∀ e, (∃ e', e = some (Out.nx e') ∧ ∃ P' t w4 w5' w6 w7, e' = pEnv (.ro (ns.map .int)) c P' (.int t) w4 w5' w6 w7 ∧ Pool P' ∧ P'.length ≤ (j + 1) * 1006) → ∃ e', (e = some (.nx e') ∨ e = some (.ct e')) ∧ ∃ P' t w4 w5' w6 w7, e' = pEnv (.ro (ns.map .int)) c P' (.int t) w4 w5' w6 w7 ∧ Pool P' ∧ P'.length ≤ (j + 1) * 1006 := fun e ⟨e', h1, h2⟩ => ⟨e', .inl h1, h2⟩
  apply t2
  clear t2
  have hjl : P'.length ≤ 100000 := by omega
  by_cases h18 : 1000000000000000000 ≤ l
  · obtain ⟨e', h1, P2, w5', l', rfl, q3, q4⟩ := pool_2 (Φ := Φ) (sc := .ro (ns.map .int)) (t := .int ((t * 31 + l) % 2147483629)) (w4 := some (false, .int z)) (w5 := w5) (w7 := w7) (l := l) hc hc2 q1 hjl
    refine ⟨_, Eq.trans ?_ h1, P2, _, _, _, _, _, rfl, q3, by omega⟩
    rw [seq_nx t1]
    simp [runFn, argsOf, startF, evS, ev, evM, keepD, seen, hid, shw, shl, sho, hid1, shl1, sho1, attrD, biD, binD, cmpD, outD, idxD, bindF, bindF.setAllF, bindT, setAll, asSeq, PyD.T.slots, wipeE, isNonD, isiD, tyOf, intPart, cutD, frzAll, frz1, lkD, putD, startI, outI, E.isNil, D.flat, flatL, D.nob, nobL, isL, flatO, PyD.getD', pEnv, hm31, h18]
  · obtain ⟨e', h1, P2, w5', l', rfl, q3, q4⟩ := pool_3 (Φ := Φ) (sc := .ro (ns.map .int)) (c := c) (t := .int ((t * 31 + l) % 2147483629)) (w4 := some (false, .int z)) (w5 := w5) (w6 := some (false, .int l)) (m := ((l + 5) * 40692 + 977) % 2147483399) q1 hjl
    refine ⟨_, Eq.trans ?_ h1, P2, _, _, _, _, _, rfl, q3, by omega⟩
    rw [seq_nx t1]
    simp [runFn, argsOf, startF, evS, ev, evM, keepD, seen, hid, shw, shl, sho, hid1, shl1, sho1, attrD, biD, binD, cmpD, outD, idxD, bindF, bindF.setAllF, bindT, setAll, asSeq, PyD.T.slots, wipeE, isNonD, isiD, tyOf, intPart, cutD, frzAll, frz1, lkD, putD, startI, outI, E.isNil, D.flat, flatL, D.nob, nobL, isL, flatO, PyD.getD', pEnv, hm31, hm4, h18]
theorem pool_4 {P : List Int} {sc : D} {t : Int} {w4 w5 w6 w7 : Option (Bool × D)} (hc : 0 ≤ c) (hc2 : c ≤ 1000) (hP : Pool P) (hl : P.length ≤ 100000) :
    ∃ e', evS Φ l__law_pool_4 (pEnv sc c P (.int t) w4 w5 w6 w7) = some (.nx e') ∧ ∃ P' t w5', e' = pEnv sc c P' (.int t) w4 w5' w6 w7 ∧ Pool P' ∧ P'.length = P.length + c.toNat := by
  refine at_rng (P := fun i e' => ∃ P' t w5', e' = pEnv sc c P' (.int t) w4 w5' w6 w7 ∧ Pool P' ∧ P'.length = P.length + i) (n := c) (by simp [runFn, argsOf, startF, evS, ev, evM, keepD, seen, hid, shw, shl, sho, hid1, shl1, sho1, attrD, biD, binD, cmpD, outD, idxD, bindF, bindF.setAllF, bindT, setAll, asSeq, PyD.T.slots, wipeE, isNonD, isiD, tyOf, intPart, cutD, frzAll, frz1, lkD, putD, startI, outI, E.isNil, D.flat, flatL, D.nob, nobL, isL, flatO, PyD.getD', pEnv]) (by simp [rgOk]; omega) ⟨P, t, w5, rfl, hP, rfl⟩ ?_
  rintro j hj _ ⟨P', t, w5', rfl, q1, q2⟩
  refine ⟨_, rfl, ?_⟩
  refine ⟨pEnv sc c (P' ++ [(t * 69621 + 13) % 2147483629 / 11 % 1000]) (.int ((t * 69621 + 13) % 2147483629)) w4 (some (false, .int j)) w6 w7, .inl ?_, _, _, _, rfl, q1.app (by omega) (by omega), by rw [List.length_append]; simp; omega⟩
  have hd : divOk 11 = true := by decide
  have hL : P'.length < LIM := by unfold LIM; omega
  have hm : mulOk t 69621 = true := mulOk_r (by decide) (by decide)
  simp [runFn, argsOf, startF, evS, ev, evM, keepD, seen, hid, shw, shl, sho, hid1, shl1, sho1, attrD, biD, binD, cmpD, outD, idxD, bindF, bindF.setAllF, bindT, setAll, asSeq, PyD.T.slots, wipeE, isNonD, isiD, tyOf, intPart, cutD, frzAll, frz1, lkD, putD, startI, outI, E.isNil, D.flat, flatL, D.nob, nobL, isL, flatO, PyD.getD', pEnv, hL, hd, hm, fdiv_pos]
end
/-- what a pool is -/
theorem L_pool {n : Nat} {c : Int} {ns : List Int} (hc : 0 ≤ c) (hc2 : c ≤ 1000) (hn : ns.length ≤ 63) :
    ∃ P : List Int, Pool P ∧ P.length = c.toNat ∧ fns tb (n + 1) i__law_pool [.ro (ns.map .int), .int c] = some (.lst (P.map .int)) := by
  obtain ⟨_, h1, P1, t, w4, w5, w6, w7, rfl, p1, p2⟩ := pool_1 (Φ := fns tb n) (ns := ns) (c := c) (w4 := none) (w5 := none) (w6 := none) (w7 := none) hc hc2 hn
  rw [List.length_map] at p2
  obtain ⟨_, h2, P2, t', w5', rfl, p3, p4⟩ := pool_4 (Φ := fns tb n) (sc := .ro (ns.map .int)) (t := t) (w4 := w4) (w5 := w5) (w6 := w6) (w7 := w7) hc hc2 p1 (by omega)
  refine ⟨P2.take c.toNat, fun x hx => p3 x (List.mem_of_mem_take hx), by rw [List.length_take]; omega, ?_⟩
  rw [fns_succ (fn := f__law_pool) rfl]
  simp only [pEnv, List.map_nil] at h1 h2
  have h3 : ¬ c < 0 := by omega
  have h4 : min c.toNat P2.length = c.toNat := by omega
  simp [runFn, argsOf, startF, evS, ev, evM, keepD, seen, hid, shw, shl, sho, hid1, shl1, sho1, attrD, biD, binD, cmpD, outD, idxD, bindF, bindF.setAllF, bindT, setAll, asSeq, PyD.T.slots, wipeE, isNonD, isiD, tyOf, intPart, cutD, frzAll, frz1, lkD, putD, startI, outI, E.isNil, D.flat, flatL, D.nob, nobL, isL, flatO, PyD.getD', f__law_pool, b__law_pool, h1, h2, cutL, sIx, h3, h4, List.map_take]
theorem pool_at {P : List Int} (hP : Pool P) {i : Int} (h0 : 0 ≤ i) (h1 : i < P.length) : ∃ v, idxL (P.map D.int) i = some (.int v) ∧ 0 ≤ v ∧ v < 1000 := by
  refine ⟨P[i.toNat]'(by omega), ?_, hP _ (List.getElem_mem _)⟩
  rw [idxL_int h0 (by rw [List.length_map]; omega)]
  simp
theorem L_draw {P : List Int} {n : Nat} {at_ many : Int} (hP : Pool P) (h0 : 0 ≤ at_) (h1 : at_ < P.length) (hm : 0 < many) : ∃ v, fns tb (n + 1) i__law_draw [.lst (P.map .int), .int at_, .int many] = some (.int v) ∧ 0 ≤ v ∧ v < many := by
  rw [fns_succ (fn := f__law_draw) rfl]
  obtain ⟨v, iv, v0, v1⟩ := pool_at hP h0 h1
  exact ⟨v % many, by simp [runFn, argsOf, startF, evS, ev, evM, keepD, seen, hid, shw, shl, sho, hid1, shl1, sho1, attrD, biD, binD, cmpD, outD, idxD, bindF, bindF.setAllF, bindT, setAll, asSeq, PyD.T.slots, wipeE, isNonD, isiD, tyOf, intPart, cutD, frzAll, frz1, lkD, putD, startI, outI, E.isNil, D.flat, flatL, D.nob, nobL, isL, flatO, PyD.getD', f__law_draw, b__law_draw, iv, hm], Int.emod_nonneg _ (by omega), Int.emod_lt_of_pos _ hm⟩
end PyD

namespace PyD
open PySem Lean.Grind
section
variable {F : Fc} {n : Nat} {P : List Int}
/-! ### the law's lists -/
/-- the numbers that a field offers -/
def NumsOk (F : Fc) (xs : List F.K) : Prop := xs.Nodup ∧ 2 ≤ xs.length ∧ xs.length ≤ 11 ∧ ∀ x ∈ xs, F.Ht 4 x
def MostOk (most : Int) : Prop := 1 ≤ most ∧ most ≤ 64
theorem lists_while {Φ : Fns} {w0 w1 w3 w4 w5 w7 w9 w10 : Option (Bool × D)} {most size : Int} (s0 : 0 ≤ size) (s1 : size < 1000) {many : Int} (m0 : 1 ≤ many) :
    ∃ m', 1 ≤ m' ∧ m' ≤ many ∧ (m' = 1 ∨ size * m' ≤ most) ∧ evS Φ l__law_lists_2 [w0, w1, some (false, .int most), w3, w4, w5, some (false, .int size), w7, some (false, .int many), w9, w10] = some (.nx [w0, w1, some (false, .int most), w3, w4, w5, some (false, .int size), w7, some (false, .int m'), w9, w10]) := by
  have key : ∀ (f : Nat) (many : Int), 1 ≤ many → many.toNat < f → ∃ m', 1 ≤ m' ∧ m' ≤ many ∧ (m' = 1 ∨ size * m' ≤ most) ∧ whGo (fun env => ev Φ (.and (.cmp .gt (.var 8) (.int 1)) (.one (.cmp .gt (.bin .mul (.var 6) (.var 8)) (.var 2)))) (shw env)) (fun env => evS Φ (.asg 8 (.bin .sub (.var 8) (.int 1)) {}) env) f [w0, w1, some (false, .int most), w3, w4, w5, some (false, .int size), w7, some (false, .int many), w9, w10] = some (.nx [w0, w1, some (false, .int most), w3, w4, w5, some (false, .int size), w7, some (false, .int m'), w9, w10]) := by
    intro f
    induction f with
    | zero => intro many _ h; omega
    | succ f ih =>
      intro many h1 h2
      have mm : mulOk size many = true := mulOk_l (by omega) (by omega)
      by_cases c : 1 < many ∧ most < size * many
      · obtain ⟨m', a1, a2, a3, a4⟩ := ih (many - 1) (by omega) (by omega)
        refine ⟨m', a1, by omega, a3, ?_⟩
        rw [← a4]
        exact whGo_t (by simp [runFn, argsOf, startF, evS, ev, evM, keepD, seen, hid, shw, shl, sho, hid1, shl1, sho1, attrD, biD, binD, cmpD, outD, idxD, bindF, bindF.setAllF, bindT, setAll, asSeq, PyD.T.slots, wipeE, isNonD, isiD, tyOf, intPart, cutD, frzAll, frz1, lkD, putD, startI, outI, E.isNil, D.flat, flatL, D.nob, nobL, isL, flatO, PyD.getD', mm, c]) (by simp [runFn, argsOf, startF, evS, ev, evM, keepD, seen, hid, shw, shl, sho, hid1, shl1, sho1, attrD, biD, binD, cmpD, outD, idxD, bindF, bindF.setAllF, bindT, setAll, asSeq, PyD.T.slots, wipeE, isNonD, isiD, tyOf, intPart, cutD, frzAll, frz1, lkD, putD, startI, outI, E.isNil, D.flat, flatL, D.nob, nobL, isL, flatO, PyD.getD'])
      · refine ⟨many, h1, Int.le_refl _, by omega, whGo_f ?_⟩
        by_cases c1 : 1 < many
        · have c2 : ¬ most < size * many := fun h => c ⟨c1, h⟩
          simp [runFn, argsOf, startF, evS, ev, evM, keepD, seen, hid, shw, shl, sho, hid1, shl1, sho1, attrD, biD, binD, cmpD, outD, idxD, bindF, bindF.setAllF, bindT, setAll, asSeq, PyD.T.slots, wipeE, isNonD, isiD, tyOf, intPart, cutD, frzAll, frz1, lkD, putD, startI, outI, E.isNil, D.flat, flatL, D.nob, nobL, isL, flatO, PyD.getD', mm, c1, c2]
        · simp [runFn, argsOf, startF, evS, ev, evM, keepD, seen, hid, shw, shl, sho, hid1, shl1, sho1, attrD, biD, binD, cmpD, outD, idxD, bindF, bindF.setAllF, bindT, setAll, asSeq, PyD.T.slots, wipeE, isNonD, isiD, tyOf, intPart, cutD, frzAll, frz1, lkD, putD, startI, outI, E.isNil, D.flat, flatL, D.nob, nobL, isL, flatO, PyD.getD', c1]
  obtain ⟨m', a1, a2, a3, a4⟩ := key (many.toNat + 1) many m0 (by omega)
  exact ⟨m', a1, a2, a3, by unfold l__law_lists_2 evS; exact whAll_of a4⟩
theorem lists_3 {Lf : List F.K} (hP : Pool P) {w1 w2 w3 w5 w6 w10 : Option (Bool × D)} {k many : Int} (k0 : 0 ≤ k) (hk : 3 + 6 * k + many ≤ P.length) (m0 : 0 ≤ many) (m1 : many ≤ Lf.length) (hl : Lf.length ≤ 20) :
    ∃ e', evS (fns tb (n + 3)) l__law_lists_3 [some (false, .lst (P.map .int)), w1, w2, w3, some (false, .int k), w5, w6, some (true, .lst (Lf.map F.enc)), some (false, .int many), some (true, .lst []), w10] = some (.nx e') ∧ ∃ (N L : List F.K) (w10 : Option (Bool × D)), e' = [some (false, .lst (P.map .int)), w1, w2, w3, some (false, .int k), w5, w6, some (true, .lst (L.map F.enc)), some (false, .int many), some (true, .lst (N.map F.enc)), w10] ∧ (N ++ L).Perm Lf ∧ N.length = many.toNat := by
  refine at_rng (P := fun j e' => ∃ (N L : List F.K) (w10 : Option (Bool × D)), e' = [some (false, .lst (P.map .int)), w1, w2, w3, some (false, .int k), w5, w6, some (true, .lst (L.map F.enc)), some (false, .int many), some (true, .lst (N.map F.enc)), w10] ∧ (N ++ L).Perm Lf ∧ N.length = j) (n := many) (by simp [runFn, argsOf, startF, evS, ev, evM, keepD, seen, hid, shw, shl, sho, hid1, shl1, sho1, attrD, biD, binD, cmpD, outD, idxD, bindF, bindF.setAllF, bindT, setAll, asSeq, PyD.T.slots, wipeE, isNonD, isiD, tyOf, intPart, cutD, frzAll, frz1, lkD, putD, startI, outI, E.isNil, D.flat, flatL, D.nob, nobL, isL, flatO, PyD.getD']) (rgOk_sm (by omega) (by omega)) ⟨[], Lf, _, rfl, .refl _, rfl⟩ ?_
  rintro j hj _ ⟨N, L, w10, rfl, q1, q2⟩
  have ll := q1.length_eq
  rw [List.length_append] at ll
  have lp : 0 < (L.length : Int) := by omega
  obtain ⟨v, dv, v0, v1⟩ := L_draw (n := n + 2) (at_ := 3 + 6 * k + j) (many := L.length) hP (by omega) (by omega) lp
  obtain ⟨i, rfl⟩ : ∃ i : Nat, v = i := ⟨v.toNat, by omega⟩
  have il : i < L.length := by omega
  have m6 : mulOk 6 k = true := mulOk_l (by omega) (by omega)
  have ix : ixN L.length (i : Int) = some i := by
    unfold ixN
    rw [if_pos (by omega), if_pos (by omega), Int.toNat_natCast]
  have c1 : N.length < LIM ∧ L.length ≤ LIM := by unfold LIM; omega
  refine ⟨_, rfl, [some (false, .lst (P.map .int)), w1, w2, w3, some (false, .int k), w5, w6, some (true, .lst ((L.eraseIdx i).map F.enc)), some (false, .int many), some (true, .lst ((N ++ [L[i]]).map F.enc)), some (false, .int j)], .inl ?_, _, _, _, rfl, ?_, by simp; omega⟩
  · simp [runFn, argsOf, startF, evS, ev, evM, keepD, seen, hid, shw, shl, sho, hid1, shl1, sho1, attrD, biD, binD, cmpD, outD, idxD, bindF, bindF.setAllF, bindT, setAll, asSeq, PyD.T.slots, wipeE, isNonD, isiD, tyOf, intPart, cutD, frzAll, frz1, lkD, putD, startI, outI, E.isNil, D.flat, flatL, D.nob, nobL, isL, flatO, PyD.getD', m6, dv, ix, il, c1, erase_map]
  · refine List.Perm.trans ?_ q1
    rw [List.append_assoc]
    exact List.Perm.append_left N (erase_perm il)
/-- what the law's lists are -/
theorem L_lists {xs : List F.K} {most : Int} (hn : ∀ m, fns tb (m + 1) i__law_numbers [.int F.p] = some (.lst (xs.map F.enc))) (hx : NumsOk F xs) (hP : Pool P) (hl : 40 ≤ P.length) (hm : MostOk most) :
    ∃ ls : List (List F.K), fns tb (n + 4) i__law_lists [.lst (P.map .int), .int F.p, .int most] = some (.lst (encL F ls)) ∧ 1 ≤ ls.length ∧ ls.length ≤ 4 ∧ (prodlen ls : Int) ≤ most ∧ ∀ ys ∈ ls, ys.Nodup ∧ 1 ≤ ys.length ∧ ys.length ≤ 9 ∧ ∀ y ∈ ys, y ∈ xs := by
  rw [fns_succ (fn := f__law_lists) rfl]
  obtain ⟨x1, x2, x3, x4⟩ := hx
  obtain ⟨m1, m2⟩ := hm
  obtain ⟨v, dv, v0, v1⟩ := L_draw (n := n + 2) (at_ := 1) (many := 4) hP (by omega) (by omega) (by omega)
  obtain ⟨letters, hlt⟩ : ∃ l : Int, l = 1 + v := ⟨_, rfl⟩
  obtain ⟨_, q, ls, w4, w7, w8, w9, w10, rfl, q1, q2, q3⟩ : ∃ e', evS (fns tb (n + 3)) l__law_lists_1 [some (false, .lst (P.map .int)), some (false, .int F.p), some (false, .int most), some (false, .int letters), none, some (true, .lst []), some (false, .int 1), none, none, none, none] = some (.nx e') ∧ ∃ (ls : List (List F.K)) (w4 w7 w8 w9 w10 : Option (Bool × D)), e' = [some (false, .lst (P.map .int)), some (false, .int F.p), some (false, .int most), some (false, .int letters), w4, some (true, .lst (encL F ls)), some (false, .int (prodlen ls : Nat)), w7, w8, w9, w10] ∧ ls.length = letters.toNat ∧ (prodlen ls : Int) ≤ most ∧ ∀ ys ∈ ls, ys.Nodup ∧ 1 ≤ ys.length ∧ ys.length ≤ 9 ∧ ∀ y ∈ ys, y ∈ xs := by
    refine at_rng (P := fun j e' => ∃ (ls : List (List F.K)) (w4 w7 w8 w9 w10 : Option (Bool × D)), e' = [some (false, .lst (P.map .int)), some (false, .int F.p), some (false, .int most), some (false, .int letters), w4, some (true, .lst (encL F ls)), some (false, .int (prodlen ls : Nat)), w7, w8, w9, w10] ∧ ls.length = j ∧ (prodlen ls : Int) ≤ most ∧ ∀ ys ∈ ls, ys.Nodup ∧ 1 ≤ ys.length ∧ ys.length ≤ 9 ∧ ∀ y ∈ ys, y ∈ xs) (n := letters) (by simp [runFn, argsOf, startF, evS, ev, evM, keepD, seen, hid, shw, shl, sho, hid1, shl1, sho1, attrD, biD, binD, cmpD, outD, idxD, bindF, bindF.setAllF, bindT, setAll, asSeq, PyD.T.slots, wipeE, isNonD, isiD, tyOf, intPart, cutD, frzAll, frz1, lkD, putD, startI, outI, E.isNil, D.flat, flatL, D.nob, nobL, isL, flatO, PyD.getD']) (rgOk_sm (by omega) (by omega)) ⟨[], _, _, _, _, _, rfl, rfl, by simpa [prodlen] using m1, fun _ h => by simp at h⟩ ?_
    rintro j hj _ ⟨ls, w4, w7, w8, w9, w10, rfl, q1, q2, q3⟩
    obtain ⟨M, hM⟩ : ∃ M : Int, M = if letters = 1 then 9 else 5 := ⟨_, rfl⟩
    have M1 : 0 < M := by rw [hM]; split <;> omega
    obtain ⟨u, du, u0, u1⟩ := L_draw (n := n + 2) (at_ := 2 + 6 * (j : Nat)) (many := M) hP (by omega) (by omega) M1
    have m6 : mulOk 6 (j : Int) = true := mulOk_l (by omega) (by omega)
    obtain ⟨m0, hm0⟩ : ∃ m0 : Int, m0 = if (xs.length : Int) < 1 + u then (xs.length : Int) else 1 + u := ⟨_, rfl⟩
    have m01 : 1 ≤ m0 ∧ m0 ≤ xs.length ∧ m0 ≤ 1 + u := by rw [hm0]; split <;> omega
    have pp : prodlen ls < 1000 := by omega
    obtain ⟨m', a1, a2, a3, a4⟩ := lists_while (Φ := fns tb (n + 3)) (w0 := some (false, .lst (P.map .int))) (w1 := some (false, .int F.p)) (w3 := some (false, .int letters)) (w4 := some (false, .int j)) (w5 := some (true, .lst (encL F ls))) (w7 := some (true, .lst (xs.map F.enc))) (w9 := w9) (w10 := w10) (most := most) (size := (prodlen ls : Nat)) (by omega) (by omega) m01.1
    have ml : j = 0 ∧ m' ≤ 9 ∨ m' ≤ 5 := by
      rw [hM] at u1
      split at u1
      · left; omega
      · right; omega
    obtain ⟨_, a5, N, L, w10', rfl, a6, a7⟩ := lists_3 (F := F) (n := n) (Lf := xs) (w1 := some (false, .int F.p)) (w2 := some (false, .int most)) (w3 := some (false, .int letters)) (w5 := some (true, .lst (encL F ls))) (w6 := some (false, .int (prodlen ls : Nat))) (w10 := w10) hP (k := j) (many := m') (by omega) (by omega) (by omega) (by omega) (by omega)
    have hNn : N.Nodup := by
      have := (a6.nodup_iff).mpr x1
      exact (List.nodup_append.mp this).1
    have hNm : ∀ y ∈ N, y ∈ xs := fun y hy => (a6.mem_iff).mp (List.mem_append_left _ hy)
    have mm : mulOk (prodlen ls : Nat) m' = true := mulOk_l (by omega) (by omega)
    have hL : ls.length < LIM := by unfold LIM; omega
    have nm : fns tb (n + 3) i__law_numbers [.int F.p] = some (.lst (xs.map F.enc)) := hn _
    have pl : prodlen (ls ++ [N]) = prodlen ls * m'.toNat := by rw [prodlen_snoc, a7]
    have pl2 : ((prodlen ls * m'.toNat : Nat) : Int) = (prodlen ls : Int) * m' := by rw [Int.natCast_mul, Int.toNat_of_nonneg (by omega)]
    refine ⟨_, rfl, [some (false, .lst (P.map .int)), some (false, .int F.p), some (false, .int most), some (false, .int letters), some (false, .int j), some (true, .lst (encL F (ls ++ [N]))), some (false, .int (prodlen (ls ++ [N]) : Nat)), some (true, .lst (L.map F.enc)), some (false, .int m'), some (false, .lst (N.map F.enc)), w10'], .inl ?_, ls ++ [N], _, _, _, _, _, rfl, by simp [q1], ?_, ?_⟩
    · refine (seq_nx (e := [some (false, .lst (P.map .int)), some (false, .int F.p), some (false, .int most), some (false, .int letters), some (false, .int j), some (true, .lst (encL F ls)), some (false, .int (prodlen ls : Nat)), some (true, .lst (xs.map F.enc)), w8, w9, w10]) (by simp [runFn, argsOf, startF, evS, ev, evM, keepD, seen, hid, shw, shl, sho, hid1, shl1, sho1, attrD, biD, binD, cmpD, outD, idxD, bindF, bindF.setAllF, bindT, setAll, asSeq, PyD.T.slots, wipeE, isNonD, isiD, tyOf, intPart, cutD, frzAll, frz1, lkD, putD, startI, outI, E.isNil, D.flat, flatL, D.nob, nobL, isL, flatO, PyD.getD', nm])).trans ?_
      refine (seq_nx (e := [some (false, .lst (P.map .int)), some (false, .int F.p), some (false, .int most), some (false, .int letters), some (false, .int j), some (true, .lst (encL F ls)), some (false, .int (prodlen ls : Nat)), some (true, .lst (xs.map F.enc)), some (false, .int (1 + u)), w9, w10]) ?_).trans ?_
      · by_cases c : letters = 1
        · rw [if_pos c] at hM
          subst hM
          simp [runFn, argsOf, startF, evS, ev, evM, keepD, seen, hid, shw, shl, sho, hid1, shl1, sho1, attrD, biD, binD, cmpD, outD, idxD, bindF, bindF.setAllF, bindT, setAll, asSeq, PyD.T.slots, wipeE, isNonD, isiD, tyOf, intPart, cutD, frzAll, frz1, lkD, putD, startI, outI, E.isNil, D.flat, flatL, D.nob, nobL, isL, flatO, PyD.getD', m6, c, du]
        · rw [if_neg c] at hM
          subst hM
          simp [runFn, argsOf, startF, evS, ev, evM, keepD, seen, hid, shw, shl, sho, hid1, shl1, sho1, attrD, biD, binD, cmpD, outD, idxD, bindF, bindF.setAllF, bindT, setAll, asSeq, PyD.T.slots, wipeE, isNonD, isiD, tyOf, intPart, cutD, frzAll, frz1, lkD, putD, startI, outI, E.isNil, D.flat, flatL, D.nob, nobL, isL, flatO, PyD.getD', m6, c, du]
      refine (seq_nx (e := [some (false, .lst (P.map .int)), some (false, .int F.p), some (false, .int most), some (false, .int letters), some (false, .int j), some (true, .lst (encL F ls)), some (false, .int (prodlen ls : Nat)), some (true, .lst (xs.map F.enc)), some (false, .int m0), w9, w10]) (by simp [runFn, argsOf, startF, evS, ev, evM, keepD, seen, hid, shw, shl, sho, hid1, shl1, sho1, attrD, biD, binD, cmpD, outD, idxD, bindF, bindF.setAllF, bindT, setAll, asSeq, PyD.T.slots, wipeE, isNonD, isiD, tyOf, intPart, cutD, frzAll, frz1, lkD, putD, startI, outI, E.isNil, D.flat, flatL, D.nob, nobL, isL, flatO, PyD.getD', hm0])).trans ?_
      refine (seq_nx a4).trans ?_
      refine (seq_nx (e := [some (false, .lst (P.map .int)), some (false, .int F.p), some (false, .int most), some (false, .int letters), some (false, .int j), some (true, .lst (encL F ls)), some (false, .int (prodlen ls : Nat)), some (true, .lst (xs.map F.enc)), some (false, .int m'), some (true, .lst []), w10]) (by simp [runFn, argsOf, startF, evS, ev, evM, keepD, seen, hid, shw, shl, sho, hid1, shl1, sho1, attrD, biD, binD, cmpD, outD, idxD, bindF, bindF.setAllF, bindT, setAll, asSeq, PyD.T.slots, wipeE, isNonD, isiD, tyOf, intPart, cutD, frzAll, frz1, lkD, putD, startI, outI, E.isNil, D.flat, flatL, D.nob, nobL, isL, flatO, PyD.getD'])).trans ?_
      refine (seq_nx a5).trans ?_
      refine (seq_nx (e := [some (false, .lst (P.map .int)), some (false, .int F.p), some (false, .int most), some (false, .int letters), some (false, .int j), some (true, .lst (encL F (ls ++ [N]))), some (false, .int (prodlen ls : Nat)), some (true, .lst (L.map F.enc)), some (false, .int m'), some (false, .lst (N.map F.enc)), w10']) (by simp [runFn, argsOf, startF, evS, ev, evM, keepD, seen, hid, shw, shl, sho, hid1, shl1, sho1, attrD, biD, binD, cmpD, outD, idxD, bindF, bindF.setAllF, bindT, setAll, asSeq, PyD.T.slots, wipeE, isNonD, isiD, tyOf, intPart, cutD, frzAll, frz1, lkD, putD, startI, outI, E.isNil, D.flat, flatL, D.nob, nobL, isL, flatO, PyD.getD', encL, hL])).trans ?_
      rw [pl, pl2]
      simp [runFn, argsOf, startF, evS, ev, evM, keepD, seen, hid, shw, shl, sho, hid1, shl1, sho1, attrD, biD, binD, cmpD, outD, idxD, bindF, bindF.setAllF, bindT, setAll, asSeq, PyD.T.slots, wipeE, isNonD, isiD, tyOf, intPart, cutD, frzAll, frz1, lkD, putD, startI, outI, E.isNil, D.flat, flatL, D.nob, nobL, isL, flatO, PyD.getD', mm]
    · rw [pl, pl2]
      rcases a3 with a3 | a3
      · rw [a3]; omega
      · exact a3
    · intro ys hy
      rcases List.mem_append.mp hy with hy | hy
      · exact q3 ys hy
      · rw [List.mem_singleton.mp hy]
        exact ⟨hNn, by omega, by omega, hNm⟩
  refine ⟨ls, ?_, by omega, by omega, q2, q3⟩
  have e1 : runFn (fns tb (n + 3)) f__law_lists [.lst (P.map .int), .int F.p, .int most] = outD false (evS (fns tb (n + 3)) b__law_lists [some (false, .lst (P.map .int)), some (false, .int F.p), some (false, .int most), none, none, none, none, none, none, none, none]) := rfl
  rw [e1]
  refine Eq.trans (congrArg (outD false) (?_ : _ = some (Out.rt false (.lst (encL F ls))))) rfl
  refine (seq_nx (e := [some (false, .lst (P.map .int)), some (false, .int F.p), some (false, .int most), none, none, some (true, .lst []), some (false, .int 1), none, none, none, none]) (by simp [runFn, argsOf, startF, evS, ev, evM, keepD, seen, hid, shw, shl, sho, hid1, shl1, sho1, attrD, biD, binD, cmpD, outD, idxD, bindF, bindF.setAllF, bindT, setAll, asSeq, PyD.T.slots, wipeE, isNonD, isiD, tyOf, intPart, cutD, frzAll, frz1, lkD, putD, startI, outI, E.isNil, D.flat, flatL, D.nob, nobL, isL, flatO, PyD.getD'])).trans ?_
  refine (seq_nx (e := [some (false, .lst (P.map .int)), some (false, .int F.p), some (false, .int most), some (false, .int letters), none, some (true, .lst []), some (false, .int 1), none, none, none, none]) (by simp [runFn, argsOf, startF, evS, ev, evM, keepD, seen, hid, shw, shl, sho, hid1, shl1, sho1, attrD, biD, binD, cmpD, outD, idxD, bindF, bindF.setAllF, bindT, setAll, asSeq, PyD.T.slots, wipeE, isNonD, isiD, tyOf, intPart, cutD, frzAll, frz1, lkD, putD, startI, outI, E.isNil, D.flat, flatL, D.nob, nobL, isL, flatO, PyD.getD', dv, hlt])).trans ?_
  refine (seq_nx q).trans ?_
  simp [runFn, argsOf, startF, evS, ev, evM, keepD, seen, hid, shw, shl, sho, hid1, shl1, sho1, attrD, biD, binD, cmpD, outD, idxD, bindF, bindF.setAllF, bindT, setAll, asSeq, PyD.T.slots, wipeE, isNonD, isiD, tyOf, intPart, cutD, frzAll, frz1, lkD, putD, startI, outI, E.isNil, D.flat, flatL, D.nob, nobL, isL, flatO, PyD.getD']
end
end PyD

namespace PyD
open PySem Lean.Grind
section
variable {F : Fc} {n : Nat}
theorem L_check_field : fns tb (n + 1) i_check_field [.int F.p] = some .non := by
  rw [fns_succ (fn := f_check_field) rfl]
  cases F with
  | q => simp [runFn, argsOf, startF, evS, ev, evM, keepD, seen, hid, shw, shl, sho, hid1, shl1, sho1, attrD, biD, binD, cmpD, outD, idxD, bindF, bindF.setAllF, bindT, setAll, asSeq, PyD.T.slots, wipeE, isNonD, isiD, tyOf, intPart, cutD, frzAll, frz1, lkD, putD, startI, outI, E.isNil, D.flat, flatL, D.nob, nobL, isL, flatO, PyD.getD', f_check_field, b_check_field, Fc.p]
  | z p hp =>
    haveI := hp
    have h0 := Fc.p_pos p hp
    have h1 : inSeq (.int (p : Int)) [.int 2, .int 3, .int 5, .int 7, .int 11] = some true := by
      rw [inSeq_nice (k := 0) (m := 0) (.int _) (fun y hy => by simp at hy; rcases hy with rfl | rfl | rfl | rfl | rfl <;> exact .int _) (by omega) (by omega)]
      congr 1
      rcases hp.mem with e | e | e | e | e <;> subst e <;> simp
    have pn : ¬ p = 0 := by have := Pr.pos p; omega
    simp [runFn, argsOf, startF, evS, ev, evM, keepD, seen, hid, shw, shl, sho, hid1, shl1, sho1, attrD, biD, binD, cmpD, outD, idxD, bindF, bindF.setAllF, bindT, setAll, asSeq, PyD.T.slots, wipeE, isNonD, isiD, tyOf, intPart, cutD, frzAll, frz1, lkD, putD, startI, outI, E.isNil, D.flat, flatL, D.nob, nobL, isL, flatO, PyD.getD', f_check_field, b_check_field, Fc.p, h1, pn]
theorem L_is_number {x : F.K} : fns tb (n + 2) i_is_number [.int F.p, F.enc x] = some (.bl true) := by
  have I : ∀ i : Int, fns tb (n + 1) i_is_integer [.int i] = some (.bl true) := fun i => by
    rw [fns_succ (fn := f_is_integer) rfl]
    simp [runFn, argsOf, startF, evS, ev, evM, keepD, seen, hid, shw, shl, sho, hid1, shl1, sho1, attrD, biD, binD, cmpD, outD, idxD, bindF, bindF.setAllF, bindT, setAll, asSeq, PyD.T.slots, wipeE, isNonD, isiD, tyOf, intPart, cutD, frzAll, frz1, lkD, putD, startI, outI, E.isNil, D.flat, flatL, D.nob, nobL, isL, flatO, PyD.getD', f_is_integer, b_is_integer]
  rw [fns_succ (fn := f_is_number) rfl]
  cases F with
  | q =>
    have g : Nat.gcd (x : Rat).num.natAbs (x : Rat).den = 1 := (x : Rat).reduced
    have dp := (x : Rat).den_pos
    have ex : ∀ z : Rat, Fc.q.enc z = D.tup [.int z.num, .int (z.den : Int)] := fun _ => rfl
    rw [ex x]
    simp [runFn, argsOf, startF, evS, ev, evM, keepD, seen, hid, shw, shl, sho, hid1, shl1, sho1, attrD, biD, binD, cmpD, outD, idxD, bindF, bindF.setAllF, bindT, setAll, asSeq, PyD.T.slots, wipeE, isNonD, isiD, tyOf, intPart, cutD, frzAll, frz1, lkD, putD, startI, outI, E.isNil, D.flat, flatL, D.nob, nobL, isL, flatO, PyD.getD', f_is_number, b_is_number, Fc.p, I, idxL, ixN, g, dp]
  | z p hp =>
    haveI := hp
    have h0 := Fc.p_pos p hp
    simp [Fc.p] at h0
    have l := Z.v_lt (p := p) x
    simp [runFn, argsOf, startF, evS, ev, evM, keepD, seen, hid, shw, shl, sho, hid1, shl1, sho1, attrD, biD, binD, cmpD, outD, idxD, bindF, bindF.setAllF, bindT, setAll, asSeq, PyD.T.slots, wipeE, isNonD, isiD, tyOf, intPart, cutD, frzAll, frz1, lkD, putD, startI, outI, E.isNil, D.flat, flatL, D.nob, nobL, isL, flatO, PyD.getD', f_is_number, b_is_number, Fc.p, Fc.enc, I, h0, l]
def encP (F : Fc) (ps : List (List F.K)) : List D := ps.map fun xs => D.tup (xs.map F.enc)
/-- the points of a grid -/
def pts {α : Type} (ls : List (List α)) : List (List α) := ls.foldl (fun ps xs => ps.flatMap fun p => xs.map fun v => p ++ [v]) [[]]
theorem pts_snoc {α : Type} {ls : List (List α)} {xs : List α} : pts (ls ++ [xs]) = (pts ls).flatMap fun p => xs.map fun v => p ++ [v] := by
  unfold pts
  rw [List.foldl_append]
  rfl
theorem pts_len {α : Type} (ls : List (List α)) : (pts ls).length = prodlen ls := by
  induction ls using snoc_ind with
  | h0 => rfl
  | h1 ls xs ih =>
    rw [pts_snoc, len_flatMap (m := xs.length) (fun _ _ => by simp), ih, prodlen_snoc]
theorem pts_each {α : Type} (ls : List (List α)) : ∀ p ∈ pts ls, p.length = ls.length := by
  induction ls using snoc_ind with
  | h0 => intro p hp; simp [pts] at hp; subst hp; rfl
  | h1 ls xs ih =>
    intro p hp
    rw [pts_snoc, List.mem_flatMap] at hp
    obtain ⟨q, hq, hp⟩ := hp
    obtain ⟨v, _, rfl⟩ := List.mem_map.mp hp
    simp [ih q hq]
theorem prodlen_take {α : Type} {ls : List (List α)} (h : ∀ xs ∈ ls, 1 ≤ xs.length) (j : Nat) : prodlen (ls.take j) ≤ prodlen ls := by
  induction ls using snoc_ind with
  | h0 => simp
  | h1 ls xs ih =>
    have i2 := ih fun ys hy => h ys (List.mem_append_left _ hy)
    have h1 := h xs (List.mem_append_right _ (List.mem_singleton.mpr rfl))
    rcases Nat.lt_or_ge ls.length j with l | l
    · rw [List.take_of_length_le (by simp; omega)]
      exact Nat.le_refl _
    · rw [List.take_append_of_le_length l, prodlen_snoc]
      calc prodlen (ls.take j) ≤ prodlen ls * 1 := by omega
        _ ≤ _ := Nat.mul_le_mul_left _ h1
theorem L_list_points {ls : List (List F.K)} (h : GridOk F ls) : fns tb (n + 1) i_list_points [.tup (encP F ls)] = some (.tup (encP F (pts ls))) := by
  rw [fns_succ (fn := f_list_points) rfl]
  obtain ⟨g1, g2, g3, g4⟩ := h
  obtain ⟨_, q, w2, rfl⟩ : ∃ e', evS (fns tb n) l_list_points_1 [some (false, .tup (encP F ls)), some (false, .lst [.tup []]), none, none, none] = some (.nx e') ∧ ∃ w2, e' = [some (false, .tup (encP F ls)), some (false, .lst (encP F (pts (ls.take ls.length)))), w2, none, none] := by
    refine at_go (P := fun j e' => ∃ w2, e' = [some (false, .tup (encP F ls)), some (false, .lst (encP F (pts (ls.take j)))), w2, none, none]) (ys := ls) (g := fun xs => D.tup (xs.map F.enc)) (for_var (d := .tup (encP F ls)) (by simp [runFn, argsOf, startF, evS, ev, evM, keepD, seen, hid, shw, shl, sho, hid1, shl1, sho1, attrD, biD, binD, cmpD, outD, idxD, bindF, bindF.setAllF, bindT, setAll, asSeq, PyD.T.slots, wipeE, isNonD, isiD, tyOf, intPart, cutD, frzAll, frz1, lkD, putD, startI, outI, E.isNil, D.flat, flatL, D.nob, nobL, isL, flatO, PyD.getD']) rfl) ⟨none, rfl⟩ ?_
    rintro j xs hj _ ⟨w2, rfl⟩
    have hx := g3 xs (List.mem_of_getElem? hj)
    have c : ev (fns tb n) c_list_points_2 (hid [some (false, .tup (encP F ls)), some (false, .lst (encP F (pts (ls.take j)))), some (false, .tup (xs.map F.enc)), none, none]) = some (.lst ((pts (ls.take j)).flatMap fun p => xs.map fun v => .tup ((p ++ [v]).map F.enc))) := by
      refine lc2_mp (g := fun p => D.tup (p.map F.enc)) (zs := fun _ => xs) (g' := F.enc) (f := fun p v => .tup ((p ++ [v]).map F.enc)) (d := .lst (encP F (pts (ls.take j)))) (by simp [runFn, argsOf, startF, evS, ev, evM, keepD, seen, hid, shw, shl, sho, hid1, shl1, sho1, attrD, biD, binD, cmpD, outD, idxD, bindF, bindF.setAllF, bindT, setAll, asSeq, PyD.T.slots, wipeE, isNonD, isiD, tyOf, intPart, cutD, frzAll, frz1, lkD, putD, startI, outI, E.isNil, D.flat, flatL, D.nob, nobL, isL, flatO, PyD.getD']) rfl ?_ ?_
      · intro p hp
        have lp := pts_each _ p hp
        rw [List.length_take] at lp
        refine ⟨_, .tup (xs.map F.enc), rfl, by simp [runFn, argsOf, startF, evS, ev, evM, keepD, seen, hid, shw, shl, sho, hid1, shl1, sho1, attrD, biD, binD, cmpD, outD, idxD, bindF, bindF.setAllF, bindT, setAll, asSeq, PyD.T.slots, wipeE, isNonD, isiD, tyOf, intPart, cutD, frzAll, frz1, lkD, putD, startI, outI, E.isNil, D.flat, flatL, D.nob, nobL, isL, flatO, PyD.getD'], rfl, fun v hv => ⟨_, rfl, ?_⟩⟩
        have hL : p.length + 1 ≤ LIM := by unfold LIM; omega
        simp [runFn, argsOf, startF, evS, ev, evM, keepD, seen, hid, shw, shl, sho, hid1, shl1, sho1, attrD, biD, binD, cmpD, outD, idxD, bindF, bindF.setAllF, bindT, setAll, asSeq, PyD.T.slots, wipeE, isNonD, isiD, tyOf, intPart, cutD, frzAll, frz1, lkD, putD, startI, outI, E.isNil, D.flat, flatL, D.nob, nobL, isL, flatO, PyD.getD', hL]
      · rw [len_flatMap (m := xs.length) (fun _ _ => by simp), pts_len]
        have p1 := prodlen_take (fun xs hx => (g3 xs hx).2.1) j
        have p2 : prodlen (ls.take j) * xs.length ≤ 64 * 12 := Nat.mul_le_mul (by omega) (by omega)
        unfold LIM
        omega
    refine ⟨_, rfl, [some (false, .tup (encP F ls)), some (false, .lst (encP F (pts (ls.take (j + 1))))), some (false, .tup (xs.map F.enc)), none, none], .inl ?_, _, rfl⟩
    have e : encP F (pts (ls.take (j + 1))) = (pts (ls.take j)).flatMap fun p => xs.map fun v => .tup ((p ++ [v]).map F.enc) := by
      rw [List.take_succ, hj]
      simp only [Option.toList_some]
      rw [pts_snoc, encP, List.map_flatMap]
      simp only [List.map_map]
      rfl
    rw [e]
    simp only [hid, hid1, List.map_cons, List.map_nil] at c
    simp only [runFn, argsOf, startF, evS, ev, evM, keepD, seen, hid, shw, shl, sho, hid1, shl1, sho1, attrD, biD, binD, cmpD, outD, idxD, bindF, bindF.setAllF, bindT, setAll, asSeq, PyD.T.slots, wipeE, isNonD, isiD, tyOf, intPart, cutD, frzAll, frz1, lkD, putD, startI, outI, E.isNil, D.flat, flatL, D.nob, nobL, isL, flatO, PyD.getD', List.set_cons_succ, List.set_cons_zero, List.map_cons, List.map_nil, c, Option.bind_some, Bool.not_false, Bool.true_or, Bool.and_true, if_true, Option.map_some]
  rw [List.take_length] at q
  simp [runFn, argsOf, startF, evS, ev, evM, keepD, seen, hid, shw, shl, sho, hid1, shl1, sho1, attrD, biD, binD, cmpD, outD, idxD, bindF, bindF.setAllF, bindT, setAll, asSeq, PyD.T.slots, wipeE, isNonD, isiD, tyOf, intPart, cutD, frzAll, frz1, lkD, putD, startI, outI, E.isNil, D.flat, flatL, D.nob, nobL, isL, flatO, PyD.getD', f_list_points, b_list_points, q]
/-! ### lists or tuples, of lists or tuples -/
def sq (b : Bool) (xs : List D) : D := match b with
  | true => .tup xs
  | false => .lst xs
def encB (F : Fc) (b : Bool) (ls : List (List F.K)) : List D := ls.map fun xs => sq b (xs.map F.enc)
@[simp ↓] theorem asSeq_sq {b : Bool} {xs : List D} : asSeq (sq b xs) = some xs := by cases b <;> rfl
@[simp ↓] theorem len_sq {b : Bool} {xs : List D} : biD .len [sq b xs] = some (.int xs.length) := by cases b <;> rfl
@[simp ↓] theorem tuple_sq {b : Bool} {xs : List D} : biD .tuple [sq b xs] = some (.tup xs) := by cases b <;> rfl
@[simp ↓] theorem list_sq {b : Bool} {xs : List D} : biD .list [sq b xs] = some (.lst xs) := by cases b <;> rfl
@[simp ↓] theorem cut_sq {b : Bool} {xs : List D} {lo hi : Option Int} : cutD (sq b xs) lo hi = some (sq b (cutL xs lo hi)) := by cases b <;> rfl
@[simp ↓] theorem in_sq {b : Bool} {x : D} {xs : List D} : cmpD .isin x (sq b xs) = inSeq x xs := by cases b <;> rfl
@[simp ↓] theorem nin_sq {b : Bool} {x : D} {xs : List D} : cmpD .notin x (sq b xs) = (inSeq x xs).map (!·) := by cases b <;> rfl
@[simp ↓] theorem idx_sq {b : Bool} {xs : List D} {i : Int} : idxD (sq b xs) (.int i) = idxL xs i := by cases b <;> rfl
theorem enu_sq {Φ : Fns} {a : E} {en : Env} {b : Bool} {xs : List D} (h : ev Φ a en = some (sq b xs)) : ev Φ (.enu a) en = some (.lst (enumD 0 xs)) := by cases b <;> simp only [ev, h, Option.bind_some, sq]
/-! ### a new grid -/
theorem L_check_lists {ls : List (List F.K)} {o b : Bool} (h : GridOk F ls) : fns tb (n + 3) i_check_lists [.int F.p, sq o (encB F b ls)] = some .non := by
  rw [fns_succ (fn := f_check_lists) rfl]
  obtain ⟨g1, g2, g3, g4⟩ := h
  have hv : ∀ w2 w3 w4 w5, ev (fns tb (n + 2)) (.var 1) (hid [some (false, .int F.p), some (false, sq o (encB F b ls)), w2, w3, w4, w5]) = some (sq o (encB F b ls)) := fun _ _ _ _ => by simp [runFn, argsOf, startF, evS, ev, evM, keepD, seen, hid, shw, shl, sho, hid1, shl1, sho1, attrD, biD, binD, cmpD, outD, idxD, bindF, bindF.setAllF, bindT, setAll, asSeq, PyD.T.slots, wipeE, isNonD, isiD, tyOf, intPart, cutD, frzAll, frz1, lkD, putD, startI, outI, E.isNil, D.flat, flatL, D.nob, nobL, isL, flatO, PyD.getD']
  have hf : ∀ {bd : S} {w2 w3 w4 w5}, evS (fns tb (n + 2)) (.for_ (.nm 2) (.var 1) bd) [some (false, .int F.p), some (false, sq o (encB F b ls)), w2, w3, w4, w5] = forGo (fun x env => bindF (.nm 2) x env) (fun env => evS (fns tb (n + 2)) bd env) (ls.map fun xs => sq b (xs.map F.enc)) [some (false, .int F.p), some (false, sq o (encB F b ls)), w2, w3, w4, w5] := fun {_ _ _ _ _} => for_var (hv _ _ _ _) asSeq_sq
  obtain ⟨_, q1, w2, rfl⟩ : ∃ e', evS (fns tb (n + 2)) l_check_lists_1 [some (false, .int F.p), some (false, sq o (encB F b ls)), none, none, none, none] = some (.nx e') ∧ ∃ w2, e' = [some (false, .int F.p), some (false, sq o (encB F b ls)), w2, none, none, none] := by
    refine at_go (P := fun _ e' => ∃ w2, e' = [some (false, .int F.p), some (false, sq o (encB F b ls)), w2, none, none, none]) hf ⟨_, rfl⟩ ?_
    rintro j xs hj _ ⟨w2, rfl⟩
    have hx := g3 xs (List.mem_of_getElem? hj)
    have c1 : (1 : Int) ≤ xs.length := by omega
    have c2 : (xs.length : Int) ≤ 12 := by omega
    refine ⟨_, rfl, [some (false, .int F.p), some (false, sq o (encB F b ls)), some (false, sq b (xs.map F.enc)), none, none, none], .inl ?_, _, rfl⟩
    cases b <;> simp [runFn, argsOf, startF, evS, ev, evM, keepD, seen, hid, shw, shl, sho, hid1, shl1, sho1, attrD, biD, binD, cmpD, outD, idxD, bindF, bindF.setAllF, bindT, setAll, asSeq, PyD.T.slots, wipeE, isNonD, isiD, tyOf, intPart, cutD, frzAll, frz1, lkD, putD, startI, outI, E.isNil, D.flat, flatL, D.nob, nobL, isL, flatO, PyD.getD', sq, c1, c2]
  obtain ⟨_, q2, w2', w4, rfl⟩ : ∃ e', evS (fns tb (n + 2)) l_check_lists_2 [some (false, .int F.p), some (false, sq o (encB F b ls)), w2, none, none, none] = some (.nx e') ∧ ∃ w2 w4, e' = [some (false, .int F.p), some (false, sq o (encB F b ls)), w2, none, w4, none] := by
    refine at_go (P := fun _ e' => ∃ w2 w4, e' = [some (false, .int F.p), some (false, sq o (encB F b ls)), w2, none, w4, none]) hf ⟨_, _, rfl⟩ ?_
    rintro j xs hj _ ⟨w2, w4, rfl⟩
    refine ⟨_, rfl, ?_⟩
    obtain ⟨_, q, w4', rfl⟩ : ∃ e', evS (fns tb (n + 2)) l_check_lists_3 [some (false, .int F.p), some (false, sq o (encB F b ls)), some (false, sq b (xs.map F.enc)), none, w4, none] = some (.nx e') ∧ ∃ w4, e' = [some (false, .int F.p), some (false, sq o (encB F b ls)), some (false, sq b (xs.map F.enc)), none, w4, none] := by
      refine at_go (P := fun _ e' => ∃ w4, e' = [some (false, .int F.p), some (false, sq o (encB F b ls)), some (false, sq b (xs.map F.enc)), none, w4, none]) (ys := xs) (g := F.enc) (for_var (d := sq b (xs.map F.enc)) (by simp [runFn, argsOf, startF, evS, ev, evM, keepD, seen, hid, shw, shl, sho, hid1, shl1, sho1, attrD, biD, binD, cmpD, outD, idxD, bindF, bindF.setAllF, bindT, setAll, asSeq, PyD.T.slots, wipeE, isNonD, isiD, tyOf, intPart, cutD, frzAll, frz1, lkD, putD, startI, outI, E.isNil, D.flat, flatL, D.nob, nobL, isL, flatO, PyD.getD']) asSeq_sq) ⟨_, rfl⟩ ?_
      rintro i x hi _ ⟨w4, rfl⟩
      have L := L_is_number (n := n) (x := x)
      exact ⟨_, rfl, [some (false, .int F.p), some (false, sq o (encB F b ls)), some (false, sq b (xs.map F.enc)), none, some (false, F.enc x), none], .inl (by simp [runFn, argsOf, startF, evS, ev, evM, keepD, seen, hid, shw, shl, sho, hid1, shl1, sho1, attrD, biD, binD, cmpD, outD, idxD, bindF, bindF.setAllF, bindT, setAll, asSeq, PyD.T.slots, wipeE, isNonD, isiD, tyOf, intPart, cutD, frzAll, frz1, lkD, putD, startI, outI, E.isNil, D.flat, flatL, D.nob, nobL, isL, flatO, PyD.getD', L]), _, rfl⟩
    exact ⟨_, .inl q, _, _, rfl⟩
  obtain ⟨_, q3, w2'', w4', w5, rfl⟩ : ∃ e', evS (fns tb (n + 2)) l_check_lists_4 [some (false, .int F.p), some (false, sq o (encB F b ls)), w2', none, w4, none] = some (.nx e') ∧ ∃ w2 w4 w5, e' = [some (false, .int F.p), some (false, sq o (encB F b ls)), w2, none, w4, w5] := by
    refine at_go (P := fun _ e' => ∃ w2 w4 w5, e' = [some (false, .int F.p), some (false, sq o (encB F b ls)), w2, none, w4, w5]) hf ⟨_, _, _, rfl⟩ ?_
    rintro j xs hj _ ⟨w2, w4, w5, rfl⟩
    have hx := g3 xs (List.mem_of_getElem? hj)
    refine ⟨_, rfl, ?_⟩
    obtain ⟨_, q, w4', w5', rfl⟩ : ∃ e', evS (fns tb (n + 2)) l_check_lists_5 [some (false, .int F.p), some (false, sq o (encB F b ls)), some (false, sq b (xs.map F.enc)), none, w4, w5] = some (.nx e') ∧ ∃ w4 w5, e' = [some (false, .int F.p), some (false, sq o (encB F b ls)), some (false, sq b (xs.map F.enc)), none, w4, w5] := by
      refine at_go (P := fun _ e' => ∃ w4 w5, e' = [some (false, .int F.p), some (false, sq o (encB F b ls)), some (false, sq b (xs.map F.enc)), none, w4, w5]) (ys := List.range xs.length) (g := fun i => .tup [.int ((0 + i : Nat) : Int), (xs.map F.enc).getD i .non]) (for_enu (d := .lst (enumD 0 (xs.map F.enc))) (enu_sq (b := b) (by simp [runFn, argsOf, startF, evS, ev, evM, keepD, seen, hid, shw, shl, sho, hid1, shl1, sho1, attrD, biD, binD, cmpD, outD, idxD, bindF, bindF.setAllF, bindT, setAll, asSeq, PyD.T.slots, wipeE, isNonD, isiD, tyOf, intPart, cutD, frzAll, frz1, lkD, putD, startI, outI, E.isNil, D.flat, flatL, D.nob, nobL, isL, flatO, PyD.getD'])) (by rw [enumD_eq, List.length_map]; rfl)) ⟨_, _, rfl⟩ ?_
      rintro i i' hi _ ⟨w4, w5, rfl⟩
      obtain ⟨hi1, hi2⟩ := List.getElem?_eq_some_iff.mp hi
      rw [List.getElem_range] at hi2
      subst hi2
      rw [List.length_range] at hi1
      have gd : (xs.map F.enc).getD i .non = F.enc xs[i] := by simp [List.getD_eq_getElem?_getD, hi1]
      have nin : inSeq (F.enc xs[i]) ((xs.take i).map F.enc) = some false := by
        rw [inSeq_enc]
        congr 1
        rw [decide_eq_false_iff_not]
        intro hm
        obtain ⟨k, hk, e⟩ := List.mem_iff_getElem.mp hm
        rw [List.length_take] at hk
        rw [List.getElem_take] at e
        exact absurd ((List.getElem_inj hx.1).mp e) (by omega)
      refine ⟨_, rfl, [some (false, .int F.p), some (false, sq o (encB F b ls)), some (false, sq b (xs.map F.enc)), none, some (false, F.enc xs[i]), some (false, .int (i : Int))], .inl ?_, _, _, rfl⟩
      have ni : ¬ ((i : Int) < 0) := by omega
      have mi : min i xs.length = i := by omega
      cases b <;> simp [runFn, argsOf, startF, evS, ev, evM, keepD, seen, hid, shw, shl, sho, hid1, shl1, sho1, attrD, biD, binD, cmpD, outD, idxD, bindF, bindF.setAllF, bindT, setAll, asSeq, PyD.T.slots, wipeE, isNonD, isiD, tyOf, intPart, cutD, frzAll, frz1, lkD, putD, startI, outI, E.isNil, D.flat, flatL, D.nob, nobL, isL, flatO, PyD.getD', sq, hi1, List.getElem?_eq_getElem, cutL, sIx, ni, mi, ← List.map_take, nin]
    exact ⟨_, .inl q, _, _, _, rfl⟩
  obtain ⟨_, q4, w2''', rfl⟩ : ∃ e', evS (fns tb (n + 2)) l_check_lists_6 [some (false, .int F.p), some (false, sq o (encB F b ls)), w2'', some (false, .int 1), w4', w5] = some (.nx e') ∧ ∃ w2, e' = [some (false, .int F.p), some (false, sq o (encB F b ls)), w2, some (false, .int (prodlen (ls.take ls.length) : Nat)), w4', w5] := by
    refine at_go (P := fun j e' => ∃ w2, e' = [some (false, .int F.p), some (false, sq o (encB F b ls)), w2, some (false, .int (prodlen (ls.take j) : Nat)), w4', w5]) hf ⟨_, rfl⟩ ?_
    rintro j xs hj _ ⟨w2, rfl⟩
    have hx := g3 xs (List.mem_of_getElem? hj)
    have p1 := prodlen_take (fun xs hx => (g3 xs hx).2.1) j
    have mm : mulOk (prodlen (ls.take j) : Nat) (xs.length : Nat) = true := mulOk_l (by omega) (by omega)
    refine ⟨_, rfl, [some (false, .int F.p), some (false, sq o (encB F b ls)), some (false, sq b (xs.map F.enc)), some (false, .int (prodlen (ls.take (j + 1)) : Nat)), w4', w5], .inl ?_, _, rfl⟩
    have e : prodlen (ls.take (j + 1)) = prodlen (ls.take j) * xs.length := foldl_take hj
    rw [e]
    cases b <;> simp [runFn, argsOf, startF, evS, ev, evM, keepD, seen, hid, shw, shl, sho, hid1, shl1, sho1, attrD, biD, binD, cmpD, outD, idxD, bindF, bindF.setAllF, bindT, setAll, asSeq, PyD.T.slots, wipeE, isNonD, isiD, tyOf, intPart, cutD, frzAll, frz1, lkD, putD, startI, outI, E.isNil, D.flat, flatL, D.nob, nobL, isL, flatO, PyD.getD', sq, mm]
  rw [List.take_length] at q4
  have c1 : (1 : Int) ≤ ls.length := by omega
  have c2 : (ls.length : Int) ≤ 6 := by omega
  have c3 : ¬ (64 : Int) < (prodlen ls : Nat) := by omega
  have c4 : ¬ 64 < prodlen ls := by omega
  simp only [f_check_lists, b_check_lists, runFn, argsOf, startF]
  refine Eq.trans (congrArg (outD false) (?_ : _ = some (Out.nx [some (false, .int F.p), some (false, sq o (encB F b ls)), w2''', some (false, .int (prodlen ls : Nat)), w4', w5]))) rfl
  refine (seq_nx (e := [some (false, .int F.p), some (false, sq o (encB F b ls)), none, none, none, none]) (by cases o <;> simp [runFn, argsOf, startF, evS, ev, evM, keepD, seen, hid, shw, shl, sho, hid1, shl1, sho1, attrD, biD, binD, cmpD, outD, idxD, bindF, bindF.setAllF, bindT, setAll, asSeq, PyD.T.slots, wipeE, isNonD, isiD, tyOf, intPart, cutD, frzAll, frz1, lkD, putD, startI, outI, E.isNil, D.flat, flatL, D.nob, nobL, isL, flatO, PyD.getD', sq, encB, c1, c2])).trans ?_
  refine (seq_nx q1).trans ?_
  refine (seq_nx q2).trans ?_
  refine (seq_nx q3).trans ?_
  refine (seq_nx (e := [some (false, .int F.p), some (false, sq o (encB F b ls)), w2'', some (false, .int 1), w4', w5]) (by simp [runFn, argsOf, startF, evS, ev, evM, keepD, seen, hid, shw, shl, sho, hid1, shl1, sho1, attrD, biD, binD, cmpD, outD, idxD, bindF, bindF.setAllF, bindT, setAll, asSeq, PyD.T.slots, wipeE, isNonD, isiD, tyOf, intPart, cutD, frzAll, frz1, lkD, putD, startI, outI, E.isNil, D.flat, flatL, D.nob, nobL, isL, flatO, PyD.getD'])).trans ?_
  refine (seq_nx q4).trans ?_
  simp [runFn, argsOf, startF, evS, ev, evM, keepD, seen, hid, shw, shl, sho, hid1, shl1, sho1, attrD, biD, binD, cmpD, outD, idxD, bindF, bindF.setAllF, bindT, setAll, asSeq, PyD.T.slots, wipeE, isNonD, isiD, tyOf, intPart, cutD, frzAll, frz1, lkD, putD, startI, outI, E.isNil, D.flat, flatL, D.nob, nobL, isL, flatO, PyD.getD', c3, c4]
/-- a grid as data -/
def gridD (F : Fc) (ls : List (List F.K)) : D := .obj "Grid" [("prime", .int F.p), ("lists", .tup (encP F ls)), ("letters", .int (ls.length : Nat)), ("lengths", .tup (ls.map fun xs => .int (xs.length : Nat))), ("top", .tup (ls.map fun xs => .int ((xs.length : Nat) - 1))), ("full_degree", .int (ls.map fun xs => ((xs.length : Nat) : Int) - 1).sum), ("points", .tup (encP F (pts ls))), ("size", .int ((pts ls).length : Nat))]
theorem enc_nob {x : F.K} : (F.enc x).nob = true := by
  cases F with
  | q => rfl
  | z p hp => rfl
theorem nobL_all {xs : List D} : nobL xs = xs.all D.nob := by
  induction xs with
  | nil => rfl
  | cons x xs ih => simp only [nobL, List.all_cons, ih]
theorem nob_tup {α : Type} {f : α → D} {xs : List α} (h : ∀ x ∈ xs, (f x).nob = true) : (D.tup (xs.map f)).nob = true := by
  show nobL (xs.map f) = true
  rw [nobL_all, List.all_map, List.all_eq_true]
  exact fun x hx => h x hx
theorem encP_nob {ls : List (List F.K)} : (D.tup (encP F ls)).nob = true := nob_tup fun _ _ => nob_tup fun _ _ => enc_nob
theorem intT_nob {α : Type} {f : α → Int} {xs : List α} : (D.tup (xs.map fun x => .int (f x))).nob = true := nob_tup fun _ _ => rfl
end
end PyD

namespace PyD
open PySem Lean.Grind
section
variable {F : Fc} {n h k : Nat}
def iEnv (F : Fc) (o b : Bool) (ls : List (List F.K)) (fs : List (Str × D)) : FEnv := [some (true, .obj "Grid" fs), some (false, .int F.p), some (false, sq o (encB F b ls)), none, none]
theorem nested_ok {ls : List (List F.K)} (h : GridOk F ls) : ls.length ≤ LIM ∧ (∀ xs ∈ ls, xs.length ≤ LIM) ∧ prodlen ls ≤ LIM := by
  obtain ⟨g1, g2, g3, g4⟩ := h
  refine ⟨by unfold LIM; omega, fun xs hx => ?_, by unfold LIM; omega⟩
  have := (g3 xs hx).2.2
  unfold LIM; omega
theorem encP_len {ls : List (List F.K)} : (encP F ls).length = ls.length := List.length_map ..
theorem L_GridB {o b : Bool} {ls : List (List F.K)} (h : GridOk F ls) : fns tb (n + 5) i_Grid_init [.int F.p, sq o (encB F b ls)] = some (gridD F ls) := by
  rw [fns_new (fn := f_Grid_init) rfl]
  obtain ⟨n1, n2, n3⟩ := nested_ok h
  have L0 := L_check_field (F := F) (n := n + 2)
  have L1 := L_check_lists (n := n) (o := o) (b := b) h
  have L2 := L_list_points (n := n + 2) h
  generalize hΦ : fns tb (n + 3) = Φ at L0 L1 L2 ⊢
  have r : runFn Φ f_Grid_init [.int F.p, sq o (encB F b ls)] = outI "Grid" (evS Φ b_Grid_init (iEnv F o b ls [])) := rfl
  rw [r]
  refine Eq.trans (congrArg (outI "Grid") (?_ : _ = some (Out.nx (iEnv F o b ls [("prime", .int F.p), ("lists", .tup (encP F ls)), ("letters", .int (ls.length : Nat)), ("lengths", .tup (ls.map fun xs => .int (xs.length : Nat))), ("top", .tup (ls.map fun xs => .int ((xs.length : Nat) - 1))), ("full_degree", .int (ls.map fun xs => ((xs.length : Nat) : Int) - 1).sum), ("points", .tup (encP F (pts ls))), ("size", .int ((pts ls).length : Nat))])))) rfl
  refine (seq_nx (e := iEnv F o b ls []) (by simp [runFn, argsOf, startF, evS, ev, evM, keepD, seen, hid, shw, shl, sho, hid1, shl1, sho1, attrD, biD, binD, cmpD, outD, idxD, bindF, bindF.setAllF, bindT, setAll, asSeq, PyD.T.slots, wipeE, isNonD, isiD, tyOf, intPart, cutD, frzAll, frz1, lkD, putD, startI, outI, E.isNil, D.flat, flatL, D.nob, nobL, isL, flatO, PyD.getD', iEnv, L0])).trans ?_
  refine (seq_nx (e := iEnv F o b ls []) (by simp [runFn, argsOf, startF, evS, ev, evM, keepD, seen, hid, shw, shl, sho, hid1, shl1, sho1, attrD, biD, binD, cmpD, outD, idxD, bindF, bindF.setAllF, bindT, setAll, asSeq, PyD.T.slots, wipeE, isNonD, isiD, tyOf, intPart, cutD, frzAll, frz1, lkD, putD, startI, outI, E.isNil, D.flat, flatL, D.nob, nobL, isL, flatO, PyD.getD', iEnv, L1])).trans ?_
  refine (seq_nx (e := iEnv F o b ls [("prime", .int F.p)]) (fld_of (by simp) (by simp [runFn, argsOf, startF, evS, ev, evM, keepD, seen, hid, shw, shl, sho, hid1, shl1, sho1, attrD, biD, binD, cmpD, outD, idxD, bindF, bindF.setAllF, bindT, setAll, asSeq, PyD.T.slots, wipeE, isNonD, isiD, tyOf, intPart, cutD, frzAll, frz1, lkD, putD, startI, outI, E.isNil, D.flat, flatL, D.nob, nobL, isL, flatO, PyD.getD', iEnv]) rfl rfl)).trans ?_
  refine (seq_nx (e := iEnv F o b ls [("prime", .int F.p), ("lists", .tup (encP F ls))]) ?_).trans ?_
  · have c : ev Φ c_Grid_init_1 (hid (iEnv F o b ls [("prime", .int F.p)])) = some (.lst (encP F ls)) := by
      refine lc_mp (ys := ls) (g := fun xs => sq b (xs.map F.enc)) (f := fun xs => D.tup (xs.map F.enc)) (d := sq o (encB F b ls)) (by simp [runFn, argsOf, startF, evS, ev, evM, keepD, seen, hid, shw, shl, sho, hid1, shl1, sho1, attrD, biD, binD, cmpD, outD, idxD, bindF, bindF.setAllF, bindT, setAll, asSeq, PyD.T.slots, wipeE, isNonD, isiD, tyOf, intPart, cutD, frzAll, frz1, lkD, putD, startI, outI, E.isNil, D.flat, flatL, D.nob, nobL, isL, flatO, PyD.getD', iEnv]) asSeq_sq (fun xs hx => ⟨_, rfl, by cases b <;> simp [runFn, argsOf, startF, evS, ev, evM, keepD, seen, hid, shw, shl, sho, hid1, shl1, sho1, attrD, biD, binD, cmpD, outD, idxD, bindF, bindF.setAllF, bindT, setAll, asSeq, PyD.T.slots, wipeE, isNonD, isiD, tyOf, intPart, cutD, frzAll, frz1, lkD, putD, startI, outI, E.isNil, D.flat, flatL, D.nob, nobL, isL, flatO, PyD.getD', sq, iEnv]⟩) n1
    refine fld_of (by simp) (d := .tup (encP F ls)) ?_ rfl rfl
    simp only [hid, hid1, iEnv, List.map_cons, List.map_nil] at c
    simp [runFn, argsOf, startF, evS, ev, evM, keepD, seen, hid, shw, shl, sho, hid1, shl1, sho1, attrD, biD, binD, cmpD, outD, idxD, bindF, bindF.setAllF, bindT, setAll, asSeq, PyD.T.slots, wipeE, isNonD, isiD, tyOf, intPart, cutD, frzAll, frz1, lkD, putD, startI, outI, E.isNil, D.flat, flatL, D.nob, nobL, isL, flatO, PyD.getD', iEnv, c]
  have a2 : List.lookup ("lists" : Str) ([("prime", .int F.p), ("lists", .tup (encP F ls))] : List (Str × D)) = some (.tup (encP F ls)) := rfl
  refine (seq_nx (e := iEnv F o b ls [("prime", .int F.p), ("lists", .tup (encP F ls)), ("letters", .int (ls.length : Nat))]) (fld_of (by simp) (d := .int (ls.length : Nat)) (by simp [runFn, argsOf, startF, evS, ev, evM, keepD, seen, hid, shw, shl, sho, hid1, shl1, sho1, attrD, biD, binD, cmpD, outD, idxD, bindF, bindF.setAllF, bindT, setAll, asSeq, PyD.T.slots, wipeE, isNonD, isiD, tyOf, intPart, cutD, frzAll, frz1, lkD, putD, startI, outI, E.isNil, D.flat, flatL, D.nob, nobL, isL, flatO, PyD.getD', a2, encP_len]) rfl rfl)).trans ?_
  have a3 : List.lookup ("lists" : Str) ([("prime", .int F.p), ("lists", .tup (encP F ls)), ("letters", .int (ls.length : Nat))] : List (Str × D)) = some (.tup (encP F ls)) := rfl
  refine (seq_nx (e := iEnv F o b ls [("prime", .int F.p), ("lists", .tup (encP F ls)), ("letters", .int (ls.length : Nat)), ("lengths", .tup (ls.map fun xs => .int (xs.length : Nat)))]) ?_).trans ?_
  · have c : ev Φ c_Grid_init_2 (sho (iEnv F o b ls [("prime", .int F.p), ("lists", .tup (encP F ls)), ("letters", .int (ls.length : Nat))])) = some (.lst (ls.map fun xs => .int (xs.length : Nat))) := by
      refine lc_mp (ys := ls) (g := fun xs => D.tup (xs.map F.enc)) (f := fun xs => D.int (xs.length : Nat)) (d := .tup (encP F ls)) (by simp [runFn, argsOf, startF, evS, ev, evM, keepD, seen, hid, shw, shl, sho, hid1, shl1, sho1, attrD, biD, binD, cmpD, outD, idxD, bindF, bindF.setAllF, bindT, setAll, asSeq, PyD.T.slots, wipeE, isNonD, isiD, tyOf, intPart, cutD, frzAll, frz1, lkD, putD, startI, outI, E.isNil, D.flat, flatL, D.nob, nobL, isL, flatO, PyD.getD', iEnv, a3]) rfl (fun xs hx => ⟨_, rfl, by simp [runFn, argsOf, startF, evS, ev, evM, keepD, seen, hid, shw, shl, sho, hid1, shl1, sho1, attrD, biD, binD, cmpD, outD, idxD, bindF, bindF.setAllF, bindT, setAll, asSeq, PyD.T.slots, wipeE, isNonD, isiD, tyOf, intPart, cutD, frzAll, frz1, lkD, putD, startI, outI, E.isNil, D.flat, flatL, D.nob, nobL, isL, flatO, PyD.getD', iEnv]⟩) n1
    have nb := intT_nob (f := fun xs : List F.K => (xs.length : Int)) (xs := ls)
    simp only [sho, sho1, iEnv, List.map_cons, List.map_nil] at c
    refine fld_of (by simp) (d := .tup (ls.map fun xs => .int (xs.length : Nat))) (by simp [runFn, argsOf, startF, evS, ev, evM, keepD, seen, hid, shw, shl, sho, hid1, shl1, sho1, attrD, biD, binD, cmpD, outD, idxD, bindF, bindF.setAllF, bindT, setAll, asSeq, PyD.T.slots, wipeE, isNonD, isiD, tyOf, intPart, cutD, frzAll, frz1, lkD, putD, startI, outI, E.isNil, D.flat, flatL, D.nob, nobL, isL, flatO, PyD.getD', c]) ?_ rfl
    simp only [keepD, nb, Bool.or_true, Bool.and_true]
  have a4 : List.lookup ("lengths" : Str) ([("prime", .int F.p), ("lists", .tup (encP F ls)), ("letters", .int (ls.length : Nat)), ("lengths", .tup (ls.map fun xs => .int (xs.length : Nat)))] : List (Str × D)) = some (.tup (ls.map fun xs => .int (xs.length : Nat))) := rfl
  refine (seq_nx (e := iEnv F o b ls [("prime", .int F.p), ("lists", .tup (encP F ls)), ("letters", .int (ls.length : Nat)), ("lengths", .tup (ls.map fun xs => .int (xs.length : Nat))), ("top", .tup (ls.map fun xs => .int ((xs.length : Nat) - 1)))]) ?_).trans ?_
  · have c : ev Φ c_Grid_init_3 (sho (iEnv F o b ls [("prime", .int F.p), ("lists", .tup (encP F ls)), ("letters", .int (ls.length : Nat)), ("lengths", .tup (ls.map fun xs => .int (xs.length : Nat)))])) = some (.lst (ls.map fun xs => .int ((xs.length : Nat) - 1))) := by
      refine lc_mp (ys := ls) (g := fun xs => D.int (xs.length : Nat)) (f := fun xs => D.int ((xs.length : Nat) - 1)) (d := .tup (ls.map fun xs => .int (xs.length : Nat))) (by simp [runFn, argsOf, startF, evS, ev, evM, keepD, seen, hid, shw, shl, sho, hid1, shl1, sho1, attrD, biD, binD, cmpD, outD, idxD, bindF, bindF.setAllF, bindT, setAll, asSeq, PyD.T.slots, wipeE, isNonD, isiD, tyOf, intPart, cutD, frzAll, frz1, lkD, putD, startI, outI, E.isNil, D.flat, flatL, D.nob, nobL, isL, flatO, PyD.getD', iEnv, a4]) rfl (fun xs hx => ⟨_, rfl, by simp [runFn, argsOf, startF, evS, ev, evM, keepD, seen, hid, shw, shl, sho, hid1, shl1, sho1, attrD, biD, binD, cmpD, outD, idxD, bindF, bindF.setAllF, bindT, setAll, asSeq, PyD.T.slots, wipeE, isNonD, isiD, tyOf, intPart, cutD, frzAll, frz1, lkD, putD, startI, outI, E.isNil, D.flat, flatL, D.nob, nobL, isL, flatO, PyD.getD', iEnv]⟩) n1
    have nb := intT_nob (f := fun xs : List F.K => (xs.length : Int) - 1) (xs := ls)
    simp only [sho, sho1, iEnv, List.map_cons, List.map_nil] at c
    refine fld_of (by simp) (d := .tup (ls.map fun xs => .int ((xs.length : Nat) - 1))) (by simp [runFn, argsOf, startF, evS, ev, evM, keepD, seen, hid, shw, shl, sho, hid1, shl1, sho1, attrD, biD, binD, cmpD, outD, idxD, bindF, bindF.setAllF, bindT, setAll, asSeq, PyD.T.slots, wipeE, isNonD, isiD, tyOf, intPart, cutD, frzAll, frz1, lkD, putD, startI, outI, E.isNil, D.flat, flatL, D.nob, nobL, isL, flatO, PyD.getD', c]) ?_ rfl
    simp only [keepD, nb, Bool.or_true, Bool.and_true]
  have a5 : List.lookup ("top" : Str) ([("prime", .int F.p), ("lists", .tup (encP F ls)), ("letters", .int (ls.length : Nat)), ("lengths", .tup (ls.map fun xs => .int (xs.length : Nat))), ("top", .tup (ls.map fun xs => .int ((xs.length : Nat) - 1)))] : List (Str × D)) = some (.tup (ls.map fun xs => .int ((xs.length : Nat) - 1))) := rfl
  refine (seq_nx (e := iEnv F o b ls [("prime", .int F.p), ("lists", .tup (encP F ls)), ("letters", .int (ls.length : Nat)), ("lengths", .tup (ls.map fun xs => .int (xs.length : Nat))), ("top", .tup (ls.map fun xs => .int ((xs.length : Nat) - 1))), ("full_degree", .int (ls.map fun xs => ((xs.length : Nat) : Int) - 1).sum)]) (fld_of (by simp) (d := .int (ls.map fun xs => ((xs.length : Nat) : Int) - 1).sum) (by simp [runFn, argsOf, startF, evS, ev, evM, keepD, seen, hid, shw, shl, sho, hid1, shl1, sho1, attrD, biD, binD, cmpD, outD, idxD, bindF, bindF.setAllF, bindT, setAll, asSeq, PyD.T.slots, wipeE, isNonD, isiD, tyOf, intPart, cutD, frzAll, frz1, lkD, putD, startI, outI, E.isNil, D.flat, flatL, D.nob, nobL, isL, flatO, PyD.getD', a5, intsOf_map]) rfl rfl)).trans ?_
  have a6 : List.lookup ("lists" : Str) ([("prime", .int F.p), ("lists", .tup (encP F ls)), ("letters", .int (ls.length : Nat)), ("lengths", .tup (ls.map fun xs => .int (xs.length : Nat))), ("top", .tup (ls.map fun xs => .int ((xs.length : Nat) - 1))), ("full_degree", .int (ls.map fun xs => ((xs.length : Nat) : Int) - 1).sum)] : List (Str × D)) = some (.tup (encP F ls)) := rfl
  refine (seq_nx (e := iEnv F o b ls [("prime", .int F.p), ("lists", .tup (encP F ls)), ("letters", .int (ls.length : Nat)), ("lengths", .tup (ls.map fun xs => .int (xs.length : Nat))), ("top", .tup (ls.map fun xs => .int ((xs.length : Nat) - 1))), ("full_degree", .int (ls.map fun xs => ((xs.length : Nat) : Int) - 1).sum), ("points", .tup (encP F (pts ls)))]) (fld_of (by simp) (d := .tup (encP F (pts ls))) (by simp [runFn, argsOf, startF, evS, ev, evM, keepD, seen, hid, shw, shl, sho, hid1, shl1, sho1, attrD, biD, binD, cmpD, outD, idxD, bindF, bindF.setAllF, bindT, setAll, asSeq, PyD.T.slots, wipeE, isNonD, isiD, tyOf, intPart, cutD, frzAll, frz1, lkD, putD, startI, outI, E.isNil, D.flat, flatL, D.nob, nobL, isL, flatO, PyD.getD', a6, L2]) (by simp only [keepD, encP_nob, Bool.or_true, Bool.and_true]) rfl)).trans ?_
  have a7 : List.lookup ("points" : Str) ([("prime", .int F.p), ("lists", .tup (encP F ls)), ("letters", .int (ls.length : Nat)), ("lengths", .tup (ls.map fun xs => .int (xs.length : Nat))), ("top", .tup (ls.map fun xs => .int ((xs.length : Nat) - 1))), ("full_degree", .int (ls.map fun xs => ((xs.length : Nat) : Int) - 1).sum), ("points", .tup (encP F (pts ls)))] : List (Str × D)) = some (.tup (encP F (pts ls))) := rfl
  refine fld_of (by simp) (d := .int ((pts ls).length : Nat)) (by simp [runFn, argsOf, startF, evS, ev, evM, keepD, seen, hid, shw, shl, sho, hid1, shl1, sho1, attrD, biD, binD, cmpD, outD, idxD, bindF, bindF.setAllF, bindT, setAll, asSeq, PyD.T.slots, wipeE, isNonD, isiD, tyOf, intPart, cutD, frzAll, frz1, lkD, putD, startI, outI, E.isNil, D.flat, flatL, D.nob, nobL, isL, flatO, PyD.getD', a7, encP_len]) rfl rfl
theorem L_Grid {ls : List (List F.K)} (h : GridOk F ls) : fns tb (n + 5) i_Grid_init [.int F.p, .lst (encL F ls)] = some (gridD F ls) := L_GridB (o := false) (b := false) h
end
end PyD

namespace PyD
open PySem Lean.Grind
section
variable {F : Fc} {n h k H : Nat} {ls : List (List F.K)}
theorem g_prime {ls : List (List F.K)} : List.lookup ("prime" : Str) [("prime", D.int F.p), ("lists", .tup (encP F ls)), ("letters", .int (ls.length : Nat)), ("lengths", .tup (ls.map fun xs => .int (xs.length : Nat))), ("top", .tup (ls.map fun xs => .int ((xs.length : Nat) - 1))), ("full_degree", .int (ls.map fun xs => ((xs.length : Nat) : Int) - 1).sum), ("points", .tup (encP F (pts ls))), ("size", .int ((pts ls).length : Nat))] = some (.int F.p) := rfl
theorem g_lists {ls : List (List F.K)} : List.lookup ("lists" : Str) [("prime", D.int F.p), ("lists", .tup (encP F ls)), ("letters", .int (ls.length : Nat)), ("lengths", .tup (ls.map fun xs => .int (xs.length : Nat))), ("top", .tup (ls.map fun xs => .int ((xs.length : Nat) - 1))), ("full_degree", .int (ls.map fun xs => ((xs.length : Nat) : Int) - 1).sum), ("points", .tup (encP F (pts ls))), ("size", .int ((pts ls).length : Nat))] = some (.tup (encP F ls)) := rfl
theorem g_size {ls : List (List F.K)} : List.lookup ("size" : Str) [("prime", D.int F.p), ("lists", .tup (encP F ls)), ("letters", .int (ls.length : Nat)), ("lengths", .tup (ls.map fun xs => .int (xs.length : Nat))), ("top", .tup (ls.map fun xs => .int ((xs.length : Nat) - 1))), ("full_degree", .int (ls.map fun xs => ((xs.length : Nat) : Int) - 1).sum), ("points", .tup (encP F (pts ls))), ("size", .int ((pts ls).length : Nat))] = some (.int ((pts ls).length : Nat)) := rfl
@[simp ↓] theorem at_prime {ls : List (List F.K)} : attrD ["Grid"] "prime" (gridD F ls) = some (.int F.p) := rfl
@[simp ↓] theorem at_lists {ls : List (List F.K)} : attrD ["Grid"] "lists" (gridD F ls) = some (.tup (encP F ls)) := rfl
@[simp ↓] theorem at_points {ls : List (List F.K)} : attrD ["Grid"] "points" (gridD F ls) = some (.tup (encP F (pts ls))) := rfl
@[simp ↓] theorem at_size {ls : List (List F.K)} : attrD ["Grid"] "size" (gridD F ls) = some (.int ((pts ls).length : Nat)) := rfl
@[simp ↓] theorem at_letters {ls : List (List F.K)} : attrD ["Grid"] "letters" (gridD F ls) = some (.int (ls.length : Nat)) := rfl
@[simp ↓] theorem at_lengths {ls : List (List F.K)} : attrD ["Grid"] "lengths" (gridD F ls) = some (.tup (ls.map fun xs => .int (xs.length : Nat))) := rfl
@[simp ↓] theorem at_top {ls : List (List F.K)} : attrD ["Grid"] "top" (gridD F ls) = some (.tup (ls.map fun xs => .int ((xs.length : Nat) - 1))) := rfl
@[simp ↓] theorem at_full {ls : List (List F.K)} : attrD ["Grid"] "full_degree" (gridD F ls) = some (.int (ls.map fun xs => ((xs.length : Nat) : Int) - 1).sum) := rfl
theorem ga_prime {Φ : Fns} {a : E} {en : Env} (h : ev Φ a en = some (gridD F ls)) : ev Φ (.attr ["Grid"] a "prime") en = some (.int F.p) := attr_of h (by simp) g_prime
theorem ga_lists {Φ : Fns} {a : E} {en : Env} (h : ev Φ a en = some (gridD F ls)) : ev Φ (.attr ["Grid"] a "lists") en = some (.tup (encP F ls)) := attr_of h (by simp) g_lists
theorem ga_size {Φ : Fns} {a : E} {en : Env} (h : ev Φ a en = some (gridD F ls)) : ev Φ (.attr ["Grid"] a "size") en = some (.int ((pts ls).length : Nat)) := attr_of h (by simp) g_size
theorem enc_flat {x : F.K} : (F.enc x).flat = true := by
  cases F with
  | q => rfl
  | z p hp => rfl
theorem flatL_enc {xs : List F.K} : flatL (xs.map F.enc) = true := by
  rw [flatL_all, List.all_map, List.all_eq_true]
  exact fun x _ => enc_flat
/-- the weights of the points -/
noncomputable def gws (ls : List (List F.K)) : List F.K := ls.foldl (fun ws xs => ws.flatMap fun w => (wts xs).map fun f => w * f) [1]
theorem gws_snoc {ls : List (List F.K)} {xs : List F.K} : gws (ls ++ [xs]) = (gws ls).flatMap fun w => (wts xs).map fun f => w * f := by
  unfold gws
  rw [List.foldl_append]
  rfl
theorem wts_len {xs : List F.K} : (wts xs).length = xs.length := List.length_map ..
theorem gws_len (ls : List (List F.K)) : (gws ls).length = prodlen ls := by
  induction ls using snoc_ind with
  | h0 => rfl
  | h1 ls xs ih => rw [gws_snoc, len_flatMap (m := xs.length) (fun _ _ => by rw [List.length_map, wts_len]), ih, prodlen_snoc]
/-- each list's numbers are small, so the weights have at most H bits -/
def LB (F : Fc) (ls : List (List F.K)) (H : Nat) : Prop := ∀ xs ∈ ls, ∃ h, (∀ x ∈ xs, F.Ht h x) ∧ 1 + xs.length * (2 * h + 2) ≤ H ∧ h < 400
theorem LB.take {H : Nat} (h : LB F ls H) (j : Nat) : LB F (ls.take j) H := fun xs hx => h xs (List.mem_of_mem_take hx)
theorem gws_ht {H : Nat} : ∀ (ls : List (List F.K)), LB F ls H → ∀ w ∈ gws ls, F.Ht (1 + ls.length * H) w := by
  intro ls
  induction ls using snoc_ind with
  | h0 => intro _ w hw; simp [gws] at hw; subst hw; exact Fc.Ht.one.up (by omega)
  | h1 ls xs ih =>
    intro hb w hw
    rw [gws_snoc, List.mem_flatMap] at hw
    obtain ⟨u, hu, hw⟩ := hw
    obtain ⟨f, hf, rfl⟩ := List.mem_map.mp hw
    obtain ⟨h, h1, h2, h3⟩ := hb xs (List.mem_append_right _ (List.mem_singleton.mpr rfl))
    have i1 := ih (fun ys hy => hb ys (List.mem_append_left _ hy)) u hu
    have i2 := wts_ht h1 f hf
    have e : xs.length * (2 * h + 1) ≤ xs.length * (2 * h + 2) := Nat.mul_le_mul_left _ (by omega)
    refine (i1.mul i2).up ?_
    rw [List.length_append, Nat.add_mul]
    simp only [List.length_singleton]
    omega
theorem L_grid_weights (hg : GridOk F ls) (hb : LB F ls H) (l : 1 + ls.length * H + H < 8000) : fns tb (n + 5) i_grid_weights [gridD F ls] = some (.lst ((gws ls).map F.enc)) := by
  rw [fns_succ (fn := f_grid_weights) rfl]
  obtain ⟨g1, g2, g3, g4⟩ := hg
  have L1 := L_number_of (n := n + 3) (F := F) (i := 1)
  rw [Fc.ofI_one] at L1
  obtain ⟨_, q, w2, w3, rfl⟩ : ∃ e', evS (fns tb (n + 4)) l_grid_weights_1 [some (false, gridD F ls), some (true, .lst [F.enc 1]), none, none, none, none] = some (.nx e') ∧ ∃ w2 w3, e' = [some (false, gridD F ls), some (true, .lst ((gws (ls.take ls.length)).map F.enc)), w2, w3, none, none] := by
    refine at_go (P := fun j e' => ∃ w2 w3, e' = [some (false, gridD F ls), some (true, .lst ((gws (ls.take j)).map F.enc)), w2, w3, none, none]) (ys := ls) (g := fun xs => D.tup (xs.map F.enc)) (for_attr (d := .tup (encP F ls)) (ga_lists (by simp [runFn, argsOf, startF, evS, ev, evM, keepD, seen, hid, shw, shl, sho, hid1, shl1, sho1, attrD, biD, binD, cmpD, outD, idxD, bindF, bindF.setAllF, bindT, setAll, asSeq, PyD.T.slots, wipeE, isNonD, isiD, tyOf, intPart, cutD, frzAll, frz1, lkD, putD, startI, outI, E.isNil, D.flat, flatL, D.nob, nobL, isL, flatO, PyD.getD'])) rfl) ⟨none, none, rfl⟩ ?_
    rintro j xs hj _ ⟨w2, w3, rfl⟩
    have hm := List.mem_of_getElem? hj
    have hx := g3 xs hm
    have hjl := (List.getElem?_eq_some_iff.mp hj).1
    obtain ⟨h, h1, h2, h3⟩ := hb xs hm
    have e2 : xs.length * (2 * h + 1) ≤ xs.length * (2 * h + 2) := Nat.mul_le_mul_left _ (by omega)
    have LW := L_list_weights (n := n) (d := .tup (xs.map F.enc)) rfl h1 (by omega) (by omega) (by omega)
    have e : gws (ls.take (j + 1)) = (gws (ls.take j)).flatMap fun w => (wts xs).map fun f => w * f := foldl_take hj
    have c : ev (fns tb (n + 4)) c_grid_weights_2 (shw [some (false, gridD F ls), some (true, .lst ((gws (ls.take j)).map F.enc)), some (false, .tup (xs.map F.enc)), some (false, .lst ((wts xs).map F.enc)), none, none]) = some (.lst ((gws (ls.take j)).flatMap fun w => (wts xs).map fun f => F.enc (w * f))) := by
      refine lc2_mp (ys := gws (ls.take j)) (g := F.enc) (zs := fun _ => wts xs) (g' := F.enc) (f := fun w f => F.enc (w * f)) (d := .lst ((gws (ls.take j)).map F.enc)) (by simp [runFn, argsOf, startF, evS, ev, evM, keepD, seen, hid, shw, shl, sho, hid1, shl1, sho1, attrD, biD, binD, cmpD, outD, idxD, bindF, bindF.setAllF, bindT, setAll, asSeq, PyD.T.slots, wipeE, isNonD, isiD, tyOf, intPart, cutD, frzAll, frz1, lkD, putD, startI, outI, E.isNil, D.flat, flatL, D.nob, nobL, isL, flatO, PyD.getD']) rfl ?_ ?_
      · intro w hw
        refine ⟨_, .lst ((wts xs).map F.enc), rfl, by simp [runFn, argsOf, startF, evS, ev, evM, keepD, seen, hid, shw, shl, sho, hid1, shl1, sho1, attrD, biD, binD, cmpD, outD, idxD, bindF, bindF.setAllF, bindT, setAll, asSeq, PyD.T.slots, wipeE, isNonD, isiD, tyOf, intPart, cutD, frzAll, frz1, lkD, putD, startI, outI, E.isNil, D.flat, flatL, D.nob, nobL, isL, flatO, PyD.getD'], rfl, fun f hf => ⟨_, rfl, ?_⟩⟩
        have hh : (ls.take j).length * H ≤ ls.length * H := Nat.mul_le_mul_right _ (by rw [List.length_take]; omega)
        have LM := L_multiply (n := n + 2) (gws_ht _ (hb.take j) w hw) (wts_ht h1 f hf) (by omega)
        have gp := ga_prime (F := F) (ls := ls) (Φ := fns tb (n + 4)) (a := .var 0) (en := [some (gridD F ls), some (.lst ((gws (ls.take j)).map F.enc)), some (.tup (xs.map F.enc)), some (.lst ((wts xs).map F.enc)), some (F.enc w), some (F.enc f)]) (by simp [ev])
        rw [ev, ev, ev, ev]
        simp [gridD] at gp
        simp [runFn, argsOf, startF, evS, ev, evM, keepD, seen, hid, shw, shl, sho, hid1, shl1, sho1, attrD, biD, binD, cmpD, outD, idxD, bindF, bindF.setAllF, bindT, setAll, asSeq, PyD.T.slots, wipeE, isNonD, isiD, tyOf, intPart, cutD, frzAll, frz1, lkD, putD, startI, outI, E.isNil, D.flat, flatL, D.nob, nobL, isL, flatO, PyD.getD', gridD, g_prime, LM]
      · rw [len_flatMap (m := xs.length) (fun _ _ => by rw [List.length_map, wts_len]), gws_len]
        have p1 := prodlen_take (fun xs hx => (g3 xs hx).2.1) j
        have p2 : prodlen (ls.take j) * xs.length ≤ 64 * 12 := Nat.mul_le_mul (by omega) (by omega)
        unfold LIM
        omega
    have em : (gws (ls.take (j + 1))).map F.enc = (gws (ls.take j)).flatMap fun w => (wts xs).map fun f => F.enc (w * f) := by
      rw [e, List.map_flatMap]
      simp only [List.map_map]
      rfl
    have fl : flatL ((gws (ls.take j)).flatMap fun w => (wts xs).map fun f => F.enc (w * f)) = true := by
      rw [← em]; exact flatL_enc
    refine ⟨_, rfl, [some (false, gridD F ls), some (true, .lst ((gws (ls.take (j + 1))).map F.enc)), some (false, .tup (xs.map F.enc)), some (false, .lst ((wts xs).map F.enc)), none, none], .inl ?_, _, _, rfl⟩
    refine (seq_nx (e := [some (false, gridD F ls), some (true, .lst ((gws (ls.take j)).map F.enc)), some (false, .tup (xs.map F.enc)), some (false, .lst ((wts xs).map F.enc)), none, none]) ?_).trans ?_
    · simp [runFn, argsOf, startF, evS, ev, evM, keepD, seen, hid, shw, shl, sho, hid1, shl1, sho1, attrD, biD, binD, cmpD, outD, idxD, bindF, bindF.setAllF, bindT, setAll, asSeq, PyD.T.slots, wipeE, isNonD, isiD, tyOf, intPart, cutD, frzAll, frz1, lkD, putD, startI, outI, E.isNil, D.flat, flatL, D.nob, nobL, isL, flatO, PyD.getD', gridD, g_prime, LW]
    · rw [em]
      exact asg_of (m := { own := true, sh := true }) (i := 1) c (by simp only [keepD, flatO, fl]; rfl)
  rw [List.take_length] at q
  simp [runFn, argsOf, startF, evS, ev, evM, keepD, seen, hid, shw, shl, sho, hid1, shl1, sho1, attrD, biD, binD, cmpD, outD, idxD, bindF, bindF.setAllF, bindT, setAll, asSeq, PyD.T.slots, wipeE, isNonD, isiD, tyOf, intPart, cutD, frzAll, frz1, lkD, putD, startI, outI, E.isNil, D.flat, flatL, D.nob, nobL, isL, flatO, PyD.getD', f_grid_weights, b_grid_weights, gridD, g_prime, L1]
  simp only [gridD] at q
  rw [q]
  simp [runFn, argsOf, startF, evS, ev, evM, keepD, seen, hid, shw, shl, sho, hid1, shl1, sho1, attrD, biD, binD, cmpD, outD, idxD, bindF, bindF.setAllF, bindT, setAll, asSeq, PyD.T.slots, wipeE, isNonD, isiD, tyOf, intPart, cutD, frzAll, frz1, lkD, putD, startI, outI, E.isNil, D.flat, flatL, D.nob, nobL, isL, flatO, PyD.getD']
/-! ### sums with weights -/
theorem L_weighed_sum {vs : List F.K} (hg : GridOk F ls) (hb : LB F ls H) (l : 1 + ls.length * H + H < 8000) (hv : ∀ v ∈ vs, F.Ht k v) (l2 : F.p = 0 → 1 + prodlen ls * (1 + ls.length * H + k + 1) < 9000) (l3 : 1 + ls.length * H + k < 8000) : fns tb (n + 6) i_weighed_sum [gridD F ls, .lst (vs.map F.enc)] = some (F.enc (dotK ((gws ls).zip vs))) := by
  rw [fns_succ (fn := f_weighed_sum) rfl]
  have LG := L_grid_weights (n := n) hg hb l
  have LD := L_dot (n := n + 2) (xs := gws ls) (ys := vs) (h := 1 + ls.length * H) (k := k) (by rw [gws_len]; have := hg.2.2.2; omega) (fun q hq => ⟨gws_ht ls hb _ (List.of_mem_zip hq).1, hv _ (List.of_mem_zip hq).2⟩) (by rw [gws_len]; intro hp; have := l2 hp; omega) l3
  simp only [gridD] at LG
  simp [runFn, argsOf, startF, evS, ev, evM, keepD, seen, hid, shw, shl, sho, hid1, shl1, sho1, attrD, biD, binD, cmpD, outD, idxD, bindF, bindF.setAllF, bindT, setAll, asSeq, PyD.T.slots, wipeE, isNonD, isiD, tyOf, intPart, cutD, frzAll, frz1, lkD, putD, startI, outI, E.isNil, D.flat, flatL, D.nob, nobL, isL, flatO, PyD.getD', f_weighed_sum, b_weighed_sum, gridD, g_prime, LG, LD]
end
end PyD

namespace PyD
open PySem Lean.Grind
section
variable {F : Fc} {n : Nat}
/-- the law's points -/
theorem L_points {ls : List (List F.K)} (h0 : ∀ xs ∈ ls, 1 ≤ xs.length ∧ xs.length ≤ 12) (h1 : prodlen ls ≤ 1000) (h2 : ls.length ≤ 12) : fns tb (n + 1) i__law_points [.lst (encL F ls)] = some (.lst (encP F (pts ls))) := by
  rw [fns_succ (fn := f__law_points) rfl]
  obtain ⟨_, q, w2, w3, w4, rfl⟩ : ∃ e', evS (fns tb n) l__law_points_1 [some (false, .lst (encL F ls)), some (false, .lst [.tup []]), none, none, none, none] = some (.nx e') ∧ ∃ w2 w3 w4, e' = [some (false, .lst (encL F ls)), some (false, .lst (encP F (pts (ls.take ls.length)))), w2, w3, w4, none] := by
    refine at_go (P := fun j e' => ∃ w2 w3 w4, e' = [some (false, .lst (encL F ls)), some (false, .lst (encP F (pts (ls.take j)))), w2, w3, w4, none]) (ys := ls) (g := fun xs => D.lst (xs.map F.enc)) (for_var (d := .lst (encL F ls)) (by simp [runFn, argsOf, startF, evS, ev, evM, keepD, seen, hid, shw, shl, sho, hid1, shl1, sho1, attrD, biD, binD, cmpD, outD, idxD, bindF, bindF.setAllF, bindT, setAll, asSeq, PyD.T.slots, wipeE, isNonD, isiD, tyOf, intPart, cutD, frzAll, frz1, lkD, putD, startI, outI, E.isNil, D.flat, flatL, D.nob, nobL, isL, flatO, PyD.getD']) rfl) ⟨_, _, _, rfl⟩ ?_
    rintro j xs hj _ ⟨w2, w3, w4, rfl⟩
    obtain ⟨x1, x2⟩ := h0 xs (List.mem_of_getElem? hj)
    have p1 := prodlen_take (fun xs hx => (h0 xs hx).1) j
    have pe : pts (ls.take (j + 1)) = (pts (ls.take j)).flatMap fun p => xs.map fun v => p ++ [v] := by
      rw [List.take_succ, hj]
      exact pts_snoc
    obtain ⟨_, q, w4', rfl⟩ : ∃ e', evS (fns tb n) l__law_points_2 [some (false, .lst (encL F ls)), some (false, .lst (encP F (pts (ls.take j)))), some (false, .lst (xs.map F.enc)), some (false, .lst []), w4, none] = some (.nx e') ∧ ∃ w4, e' = [some (false, .lst (encL F ls)), some (false, .lst (encP F (pts (ls.take j)))), some (false, .lst (xs.map F.enc)), some (false, .lst (encP F (((pts (ls.take j)).take (pts (ls.take j)).length).flatMap fun p => xs.map fun v => p ++ [v]))), w4, none] := by
      refine at_go (P := fun i e' => ∃ w4, e' = [some (false, .lst (encL F ls)), some (false, .lst (encP F (pts (ls.take j)))), some (false, .lst (xs.map F.enc)), some (false, .lst (encP F (((pts (ls.take j)).take i).flatMap fun p => xs.map fun v => p ++ [v]))), w4, none]) (ys := pts (ls.take j)) (g := fun p => D.tup (p.map F.enc)) (for_var (d := .lst (encP F (pts (ls.take j)))) (by simp [runFn, argsOf, startF, evS, ev, evM, keepD, seen, hid, shw, shl, sho, hid1, shl1, sho1, attrD, biD, binD, cmpD, outD, idxD, bindF, bindF.setAllF, bindT, setAll, asSeq, PyD.T.slots, wipeE, isNonD, isiD, tyOf, intPart, cutD, frzAll, frz1, lkD, putD, startI, outI, E.isNil, D.flat, flatL, D.nob, nobL, isL, flatO, PyD.getD']) rfl) ⟨_, rfl⟩ ?_
      rintro i p hi _ ⟨w4, rfl⟩
      have lp := pts_each _ p (List.mem_of_getElem? hi)
      rw [List.length_take] at lp
      have hil := (List.getElem?_eq_some_iff.mp hi).1
      rw [pts_len] at hil
      have hL : p.length + 1 ≤ LIM := by unfold LIM; omega
      have c : ev (fns tb n) c__law_points_3 (hid [some (false, .lst (encL F ls)), some (false, .lst (encP F (pts (ls.take j)))), some (false, .lst (xs.map F.enc)), some (false, .lst (encP F (((pts (ls.take j)).take i).flatMap fun p => xs.map fun v => p ++ [v]))), some (false, .tup (p.map F.enc)), none]) = some (.lst (xs.map fun v => .tup ((p ++ [v]).map F.enc))) := by
        refine lc_mp (ys := xs) (g := F.enc) (f := fun v => .tup ((p ++ [v]).map F.enc)) (d := .lst (xs.map F.enc)) (by simp [runFn, argsOf, startF, evS, ev, evM, keepD, seen, hid, shw, shl, sho, hid1, shl1, sho1, attrD, biD, binD, cmpD, outD, idxD, bindF, bindF.setAllF, bindT, setAll, asSeq, PyD.T.slots, wipeE, isNonD, isiD, tyOf, intPart, cutD, frzAll, frz1, lkD, putD, startI, outI, E.isNil, D.flat, flatL, D.nob, nobL, isL, flatO, PyD.getD']) rfl (fun v _ => ⟨_, rfl, ?_⟩) (by unfold LIM; omega)
        simp [runFn, argsOf, startF, evS, ev, evM, keepD, seen, hid, shw, shl, sho, hid1, shl1, sho1, attrD, biD, binD, cmpD, outD, idxD, bindF, bindF.setAllF, bindT, setAll, asSeq, PyD.T.slots, wipeE, isNonD, isiD, tyOf, intPart, cutD, frzAll, frz1, lkD, putD, startI, outI, E.isNil, D.flat, flatL, D.nob, nobL, isL, flatO, PyD.getD', hL]
      have hl2 : (((pts (ls.take j)).take i).flatMap fun p => xs.map fun v => p ++ [v]).length + xs.length ≤ LIM := by
        rw [len_flatMap (m := xs.length) (fun _ _ => by simp), List.length_take, pts_len]
        have : min i (prodlen (ls.take j)) * xs.length ≤ 1000 * 12 := Nat.mul_le_mul (by omega) x2
        unfold LIM
        omega
      have e : encP F (((pts (ls.take j)).take (i + 1)).flatMap fun p => xs.map fun v => p ++ [v]) = encP F (((pts (ls.take j)).take i).flatMap fun p => xs.map fun v => p ++ [v]) ++ xs.map fun v => .tup ((p ++ [v]).map F.enc) := by
        rw [List.take_succ, hi]
        simp only [Option.toList_some, List.flatMap_append, List.flatMap_cons, List.flatMap_nil, List.append_nil]
        unfold encP
        rw [List.map_append, List.map_map]
        rfl
      refine ⟨_, rfl, [some (false, .lst (encL F ls)), some (false, .lst (encP F (pts (ls.take j)))), some (false, .lst (xs.map F.enc)), some (false, .lst (encP F (((pts (ls.take j)).take (i + 1)).flatMap fun p => xs.map fun v => p ++ [v]))), some (false, .tup (p.map F.enc)), none], .inl ?_, _, rfl⟩
      rw [e]
      generalize hW : (((pts (ls.take j)).take i).flatMap fun p => xs.map fun v => p ++ [v]) = W at *
      have hl3 : (encP F W).length + xs.length ≤ LIM := by rw [encP, List.length_map]; exact hl2
      simp only [hid, hid1, List.map_cons, List.map_nil] at c
      refine asg_of (m := {}) (i := 3) ?_ rfl
      simp only [seen, hid, hid1, ev, List.map_cons, List.map_nil, List.set_cons_succ, List.set_cons_zero, List.getElem?_cons_succ, List.getElem?_cons_zero, Option.join_some, Option.bind_some, c, binD, List.length_map, hl3, if_true]
    rw [List.take_length, ← pe] at q
    refine ⟨_, rfl, [some (false, .lst (encL F ls)), some (false, .lst (encP F (pts (ls.take (j + 1))))), some (false, .lst (xs.map F.enc)), some (false, .lst (encP F (pts (ls.take (j + 1))))), w4', none], .inl ?_, _, _, _, rfl⟩
    refine (seq_nx (e := [some (false, .lst (encL F ls)), some (false, .lst (encP F (pts (ls.take j)))), some (false, .lst (xs.map F.enc)), some (false, .lst []), w4, none]) (by simp [runFn, argsOf, startF, evS, ev, evM, keepD, seen, hid, shw, shl, sho, hid1, shl1, sho1, attrD, biD, binD, cmpD, outD, idxD, bindF, bindF.setAllF, bindT, setAll, asSeq, PyD.T.slots, wipeE, isNonD, isiD, tyOf, intPart, cutD, frzAll, frz1, lkD, putD, startI, outI, E.isNil, D.flat, flatL, D.nob, nobL, isL, flatO, PyD.getD'])).trans ?_
    refine (seq_nx q).trans ?_
    simp [runFn, argsOf, startF, evS, ev, evM, keepD, seen, hid, shw, shl, sho, hid1, shl1, sho1, attrD, biD, binD, cmpD, outD, idxD, bindF, bindF.setAllF, bindT, setAll, asSeq, PyD.T.slots, wipeE, isNonD, isiD, tyOf, intPart, cutD, frzAll, frz1, lkD, putD, startI, outI, E.isNil, D.flat, flatL, D.nob, nobL, isL, flatO, PyD.getD']
  rw [List.take_length] at q
  simp [runFn, argsOf, startF, evS, ev, evM, keepD, seen, hid, shw, shl, sho, hid1, shl1, sho1, attrD, biD, binD, cmpD, outD, idxD, bindF, bindF.setAllF, bindT, setAll, asSeq, PyD.T.slots, wipeE, isNonD, isiD, tyOf, intPart, cutD, frzAll, frz1, lkD, putD, startI, outI, E.isNil, D.flat, flatL, D.nob, nobL, isL, flatO, PyD.getD', f__law_points, b__law_points, q]
end
end PyD

namespace PyD
open PySem Lean.Grind
/-! ### the law's numbers: inverses, drawn numbers -/
theorem Z.inv_v {p : Nat} [Pr p] {x : Z p} (hx : x ≠ 0) : (x.v * (x⁻¹).v) % p = 1 := by
  have := congrArg Z.v (Z.mul_inv x hx)
  rwa [Z.v_mul, Z.v_one] at this
theorem Z.inv_u {p : Nat} [Pr p] {x : Z p} (hx : x ≠ 0) {m : Nat} (l : m < p) (e : (x.v * m) % p = 1) : m = (x⁻¹).v := by
  have hm := Z.mul_inv x hx
  have e2 : x * Z.mk p m = 1 := Z.ext (by rw [Z.v_mul, Z.v_mk, Z.v_one, Nat.mod_eq_of_lt l, e])
  have e3 : Z.mk p m = x⁻¹ := by
    calc Z.mk p m = (x * x⁻¹) * Z.mk p m := by rw [hm, Semiring.one_mul]
      _ = x⁻¹ * (x * Z.mk p m) := by rw [CommSemiring.mul_comm x, Semiring.mul_assoc]
      _ = x⁻¹ := by rw [e2, Semiring.mul_one]
  rw [← e3, Z.v_mk, Nat.mod_eq_of_lt l]
theorem findSome_eq {α β : Type} {q : α → Option β} {v : β} : ∀ {xs : List α}, (∃ x ∈ xs, q x = some v) → (∀ x ∈ xs, ∀ w, q x = some w → w = v) → xs.findSome? q = some v
  | [], h, _ => by obtain ⟨x, h, _⟩ := h; cases h
  | x :: xs, h, h2 => by
    rw [List.findSome?_cons]
    cases e : q x with
    | some w => rw [h2 x (List.mem_cons_self ..) w e]
    | none =>
      refine findSome_eq ?_ fun y hy => h2 y (List.mem_cons_of_mem _ hy)
      obtain ⟨y, hy, e2⟩ := h
      rcases List.mem_cons.mp hy with rfl | hy
      · rw [e] at e2; cases e2
      · exact ⟨y, hy, e2⟩
theorem linv_loop {Φ : Fns} {p : Nat} [Pr p] {x : Z p} (h0 : x ≠ 0) : evS Φ l__law_inverse_1 [some (false, .int (p : Int)), some (false, .int (Z.v x : Int)), none] = some (.rt false (.int ((Z.v x⁻¹ : Nat) : Int))) := by
    have p0 := Pr.pos p
    have hm := Z.inv_v h0
    have hl := Z.v_lt x⁻¹
    have hlx := Z.v_lt x
    have ple := Pr.le p
    have i0 : (x⁻¹).v ≠ 0 := by
      intro c
      rw [c, Nat.mul_zero, Nat.zero_mod] at hm
      omega
    unfold l__law_inverse_1
    rw [for_rng2 (m := 1) (n := (p : Nat)) (by simp [runFn, argsOf, startF, evS, ev, evM, keepD, seen, hid, shw, shl, sho, hid1, shl1, sho1, attrD, biD, binD, cmpD, outD, idxD, bindF, bindF.setAllF, bindT, setAll, asSeq, PyD.T.slots, wipeE, isNonD, isiD, tyOf, intPart, cutD, frzAll, frz1, lkD, putD, startI, outI, E.isNil, D.flat, flatL, D.nob, nobL, isL, flatO, PyD.getD']) (by simp [runFn, argsOf, startF, evS, ev, evM, keepD, seen, hid, shw, shl, sho, hid1, shl1, sho1, attrD, biD, binD, cmpD, outD, idxD, bindF, bindF.setAllF, bindT, setAll, asSeq, PyD.T.slots, wipeE, isNonD, isiD, tyOf, intPart, cutD, frzAll, frz1, lkD, putD, startI, outI, E.isNil, D.flat, flatL, D.nob, nobL, isL, flatO, PyD.getD']) rfl (rgOk_sm (by omega) (by omega))]
    have K := forGo_some (o := false) (R := fun e => ∃ w, e = [some (false, .int (p : Int)), some (false, .int (Z.v x : Int)), w]) (q := fun d => match d with
        | .int k => if (((Z.v x : Nat) : Int) * k) % (p : Int) = 1 then some (.int k) else none
        | _ => none) (bnd := fun x env => bindF (.nm 2) x env) (body := fun env => evS (Φ) (.iff (.cmp .eq (.bin .mod (.bi .int (.cons (.bin .mul (.var 1) (.var 2)) .nil)) (.var 0)) (.int 1)) (.ret (.var 2) {}) .skip) env) (xs := rangeD 1 (p : Nat)) (env := [some (false, .int (p : Int)), some (false, .int (Z.v x : Int)), none]) ?_ ⟨_, rfl⟩
    · rw [findSome_eq (v := .int ((Z.v x⁻¹ : Nat) : Int))] at K
      · exact K
      · refine ⟨.int ((Z.v x⁻¹ : Nat) : Int), mem_range.mpr ⟨_, rfl, by omega, by omega⟩, ?_⟩
        have : (((Z.v x : Nat) : Int) * ((Z.v x⁻¹ : Nat) : Int)) % (p : Int) = 1 := by rw [← Int.natCast_mul, ← Int.natCast_emod, hm]; rfl
        simp only [this, if_true]
      · intro y hy w hw
        obtain ⟨k, rfl, k1, k2⟩ := mem_range.mp hy
        simp only [] at hw
        split at hw
        · rename_i e
          cases hw
          obtain ⟨m, rfl⟩ : ∃ m : Nat, k = m := ⟨k.toNat, by omega⟩
          rw [← Int.natCast_mul, ← Int.natCast_emod] at e
          rw [Z.inv_u h0 (m := m) (by omega) (by omega)]
        · cases hw
    · rintro y hy _ ⟨w, rfl⟩
      obtain ⟨k, rfl, k1, k2⟩ := mem_range.mp hy
      refine ⟨_, rfl, ?_⟩
      have mm : mulOk (Z.v x : Int) k = true := mulOk_l (by omega) (by omega)
      by_cases e : (((Z.v x : Nat) : Int) * k) % (p : Int) = 1
      · simp only [e, if_true]
        simp [runFn, argsOf, startF, evS, ev, evM, keepD, seen, hid, shw, shl, sho, hid1, shl1, sho1, attrD, biD, binD, cmpD, outD, idxD, bindF, bindF.setAllF, bindT, setAll, asSeq, PyD.T.slots, wipeE, isNonD, isiD, tyOf, intPart, cutD, frzAll, frz1, lkD, putD, startI, outI, E.isNil, D.flat, flatL, D.nob, nobL, isL, flatO, PyD.getD', mm, p0, e]
      · simp only [if_neg e]
        exact ⟨[some (false, .int (p : Int)), some (false, .int (Z.v x : Int)), some (false, .int k)], .inl (by simp [runFn, argsOf, startF, evS, ev, evM, keepD, seen, hid, shw, shl, sho, hid1, shl1, sho1, attrD, biD, binD, cmpD, outD, idxD, bindF, bindF.setAllF, bindT, setAll, asSeq, PyD.T.slots, wipeE, isNonD, isiD, tyOf, intPart, cutD, frzAll, frz1, lkD, putD, startI, outI, E.isNil, D.flat, flatL, D.nob, nobL, isL, flatO, PyD.getD', mm, p0, e]), _, rfl⟩
section
variable {F : Fc} {x y : F.K} {h k n : Nat} {P : List Int}
theorem L_linverse (hx : F.Ht h x) (h0 : x ≠ 0) (l : h < 9000) : fns tb (n + 3) i__law_inverse [.int F.p, F.enc x] = some (F.enc x⁻¹) := by
  rw [fns_succ (fn := f__law_inverse) rfl]
  cases F with
  | q =>
    have nz : (x : Rat).num ≠ 0 := fun c => h0 (Rat.num_eq_zero.mp c)
    have e : (x⁻¹ : Fc.q.K) = Rat.divInt ((x : Rat).den : Int) (x : Rat).num := Rat.inv_def _
    have ex : ∀ z : Rat, Fc.q.enc z = D.tup [.int z.num, .int (z.den : Int)] := fun _ => rfl
    have ex2 : ∀ z : Rat, Fc.q.enc z = encQ z := fun _ => rfl
    have hn : (x : Rat).num.natAbs < 2 ^ h := hx.1
    rw [e, ex2 (Rat.divInt ((x : Rat).den : Int) (x : Rat).num), ex x]
    by_cases s : 0 < (x : Rat).num
    · have L := L_law_lowest (n := n) (a := ((x : Rat).den : Int)) s hn l
      simp [runFn, argsOf, startF, evS, ev, evM, keepD, seen, hid, shw, shl, sho, hid1, shl1, sho1, attrD, biD, binD, cmpD, outD, idxD, bindF, bindF.setAllF, bindT, setAll, asSeq, PyD.T.slots, wipeE, isNonD, isiD, tyOf, intPart, cutD, frzAll, frz1, lkD, putD, startI, outI, E.isNil, D.flat, flatL, D.nob, nobL, isL, flatO, PyD.getD', f__law_inverse, b__law_inverse, Fc.p, idxL, ixN, s, L]
    · have s2 : 0 < -(x : Rat).num := by omega
      have L := L_law_lowest (n := n) (a := -((x : Rat).den : Int)) (h := h) s2 (by rw [Int.natAbs_neg]; exact hn) l
      rw [Rat.neg_divInt_neg] at L
      simp [runFn, argsOf, startF, evS, ev, evM, keepD, seen, hid, shw, shl, sho, hid1, shl1, sho1, attrD, biD, binD, cmpD, outD, idxD, bindF, bindF.setAllF, bindT, setAll, asSeq, PyD.T.slots, wipeE, isNonD, isiD, tyOf, intPart, cutD, frzAll, frz1, lkD, putD, startI, outI, E.isNil, D.flat, flatL, D.nob, nobL, isL, flatO, PyD.getD', f__law_inverse, b__law_inverse, Fc.p, idxL, ixN, s, L]
  | z p hp =>
    haveI := hp
    have p0 := Fc.p_pos p hp
    simp [Fc.p] at p0
    have pn : ¬ ((p : Int) = 0) := by omega
    have pn2 : ¬ (p = 0) := by omega
    have q := linv_loop (Φ := fns tb (n + 2)) (x := (x : Z p)) h0
    simp [runFn, argsOf, startF, evS, ev, evM, keepD, seen, hid, shw, shl, sho, hid1, shl1, sho1, attrD, biD, binD, cmpD, outD, idxD, bindF, bindF.setAllF, bindT, setAll, asSeq, PyD.T.slots, wipeE, isNonD, isiD, tyOf, intPart, cutD, frzAll, frz1, lkD, putD, startI, outI, E.isNil, D.flat, flatL, D.nob, nobL, isL, flatO, PyD.getD', f__law_inverse, b__law_inverse, Fc.p, Fc.enc, pn, pn2, q]
    rfl
theorem L_lgap (hx : F.Ht h x) (hy : F.Ht k y) (l : h + k + 10 < 9000) : fns tb (n + 4) i__law_gap [.int F.p, F.enc x, F.enc y] = some (F.enc (x - y)) := by
  rw [fns_succ (fn := f__law_gap) rfl]
  have L1 := L_lint (n := n + 2) (F := F) (i := -1)
  rw [Fc.ofI_neg1] at L1
  have L2 := L_ltimes (n := n) (F := F) (x := -1) (y := y) Fc.Ht.one.neg hy (by omega)
  have L3 := L_lsum (n := n) hx (Fc.Ht.one.neg.mul hy) (by omega)
  have e : x + -1 * y = x - y := by grind
  rw [e] at L3
  simp [runFn, argsOf, startF, evS, ev, evM, keepD, seen, hid, shw, shl, sho, hid1, shl1, sho1, attrD, biD, binD, cmpD, outD, idxD, bindF, bindF.setAllF, bindT, setAll, asSeq, PyD.T.slots, wipeE, isNonD, isiD, tyOf, intPart, cutD, frzAll, frz1, lkD, putD, startI, outI, E.isNil, D.flat, flatL, D.nob, nobL, isL, flatO, PyD.getD', f__law_gap, b__law_gap, L1, L2, L3]
theorem L_small (hP : Pool P) {at_ : Int} (h0 : 0 ≤ at_) (h1 : at_ < P.length) : ∃ x : F.K, fns tb (n + 3) i__law_small [.lst (P.map .int), .int at_, .int F.p] = some (F.enc x) ∧ F.Ht 4 x := by
  rw [fns_succ (fn := f__law_small) rfl]
  obtain ⟨v, dv, v0, v1⟩ := L_draw (n := n + 1) (many := 1000) hP h0 h1 (by omega)
  have d2 : divOk 2 = true := by decide
  cases F with
  | z p hp =>
    haveI := hp
    have p0 := Fc.p_pos p hp
    simp [Fc.p] at p0
    have e := Z.v_ofI (p := p) v
    exact ⟨Z.ofI p v, by simp [runFn, argsOf, startF, evS, ev, evM, keepD, seen, hid, shw, shl, sho, hid1, shl1, sho1, attrD, biD, binD, cmpD, outD, idxD, bindF, bindF.setAllF, bindT, setAll, asSeq, PyD.T.slots, wipeE, isNonD, isiD, tyOf, intPart, cutD, frzAll, frz1, lkD, putD, startI, outI, E.isNil, D.flat, flatL, D.nob, nobL, isL, flatO, PyD.getD', f__law_small, b__law_small, dv, Fc.p, p0, Fc.enc, e], trivial⟩
  | q =>
    have L := L_law_lowest (n := n) (a := v / 2 % 9 - 4) (d := 1 + v % 2) (h := 4) (by omega) (by omega) (by omega)
    refine ⟨Rat.divInt (v / 2 % 9 - 4) (1 + v % 2), ?_, Ht_divInt (by omega) (by omega) (by omega)⟩
    simp [runFn, argsOf, startF, evS, ev, evM, keepD, seen, hid, shw, shl, sho, hid1, shl1, sho1, attrD, biD, binD, cmpD, outD, idxD, bindF, bindF.setAllF, bindT, setAll, asSeq, PyD.T.slots, wipeE, isNonD, isiD, tyOf, intPart, cutD, frzAll, frz1, lkD, putD, startI, outI, E.isNil, D.flat, flatL, D.nob, nobL, isL, flatO, PyD.getD', f__law_small, b__law_small, dv, Fc.p, d2, fdiv_pos, L]
    rfl
theorem L_scale (hP : Pool P) {at_ : Int} (h0 : 0 ≤ at_) (h1 : at_ < P.length) : ∃ x : F.K, fns tb (n + 3) i__law_scale [.lst (P.map .int), .int at_, .int F.p] = some (F.enc x) ∧ x ≠ 0 ∧ F.Ht 2 x := by
  rw [fns_succ (fn := f__law_scale) rfl]
  obtain ⟨v, dv, v0, v1⟩ := L_draw (n := n + 1) (many := 1000) hP h0 h1 (by omega)
  have d2 : divOk 2 = true := by decide
  have d4 : divOk 4 = true := by decide
  cases F with
  | z p hp =>
    haveI := hp
    have p0 := Fc.p_pos p hp
    have p1 := Pr.two p
    simp [Fc.p] at p0
    have b1 := Int.emod_nonneg v (b := (p : Int) - 1) (by omega)
    have b2 := Int.emod_lt_of_pos v (b := (p : Int) - 1) (by omega)
    have e := Z.v_ofI (p := p) (1 + v % ((p : Int) - 1))
    rw [Int.emod_eq_of_lt (a := 1 + v % ((p : Int) - 1)) (b := (p : Int)) (by omega) (by omega)] at e
    have c : (1 : Int) < (p : Int) := by omega
    refine ⟨Z.ofI p (1 + v % ((p : Int) - 1)), by simp [runFn, argsOf, startF, evS, ev, evM, keepD, seen, hid, shw, shl, sho, hid1, shl1, sho1, attrD, biD, binD, cmpD, outD, idxD, bindF, bindF.setAllF, bindT, setAll, asSeq, PyD.T.slots, wipeE, isNonD, isiD, tyOf, intPart, cutD, frzAll, frz1, lkD, putD, startI, outI, E.isNil, D.flat, flatL, D.nob, nobL, isL, flatO, PyD.getD', f__law_scale, b__law_scale, dv, Fc.p, p0, Fc.enc, e, c], fun c => ?_, trivial⟩
    have z := congrArg Z.v (show Z.ofI p (1 + v % ((p : Int) - 1)) = (0 : Z p) from c)
    rw [Z.v_zero] at z
    omega
  | q =>
    obtain ⟨s, hs⟩ : ∃ s : Int, s = if v / 2 % 2 = 0 then 1 + v / 4 % 3 else -(1 + v / 4 % 3) := ⟨_, rfl⟩
    have s0 : s ≠ 0 ∧ s.natAbs < 2 ^ 2 := by
      rw [hs]
      split <;> omega
    have L := L_law_lowest (n := n) (a := s) (d := 1 + v % 2) (h := 2) (by omega) (by omega) (by omega)
    refine ⟨Rat.divInt s (1 + v % 2), ?_, ?_, Ht_divInt (by omega) s0.2 (by omega)⟩
    · have ex2 : ∀ z : Rat, Fc.q.enc z = encQ z := fun _ => rfl
      rw [ex2]
      by_cases c : v / 2 % 2 = 0
      · rw [if_pos c] at hs
        rw [hs] at L ⊢
        simp [runFn, argsOf, startF, evS, ev, evM, keepD, seen, hid, shw, shl, sho, hid1, shl1, sho1, attrD, biD, binD, cmpD, outD, idxD, bindF, bindF.setAllF, bindT, setAll, asSeq, PyD.T.slots, wipeE, isNonD, isiD, tyOf, intPart, cutD, frzAll, frz1, lkD, putD, startI, outI, E.isNil, D.flat, flatL, D.nob, nobL, isL, flatO, PyD.getD', f__law_scale, b__law_scale, dv, Fc.p, d2, d4, fdiv_pos, c, L]
      · rw [if_neg c] at hs
        rw [hs] at L ⊢
        simp [runFn, argsOf, startF, evS, ev, evM, keepD, seen, hid, shw, shl, sho, hid1, shl1, sho1, attrD, biD, binD, cmpD, outD, idxD, bindF, bindF.setAllF, bindT, setAll, asSeq, PyD.T.slots, wipeE, isNonD, isiD, tyOf, intPart, cutD, frzAll, frz1, lkD, putD, startI, outI, E.isNil, D.flat, flatL, D.nob, nobL, isL, flatO, PyD.getD', f__law_scale, b__law_scale, dv, Fc.p, d2, d4, fdiv_pos, c, L]
    · intro c
      have c' : Rat.divInt s (1 + v % 2) = 0 := c
      have q1 : 0 ≤ s := (Rat.divInt_nonneg_iff_of_pos_right (show 0 < 1 + v % 2 by omega)).mp (by rw [c']; exact Rat.le_refl)
      have q2 : 0 ≤ -s := (Rat.divInt_nonneg_iff_of_pos_right (show 0 < 1 + v % 2 by omega)).mp (by rw [← Rat.neg_divInt, c']; exact Rat.le_refl)
      omega
theorem L_ltold (hP : Pool P) {at_ many : Int} (h0 : 0 ≤ at_) (h1 : 0 ≤ many) (h2 : at_ + many ≤ P.length) (h3 : P.length ≤ 1000) : ∃ vs : List F.K, fns tb (n + 3) i__law_told [.lst (P.map .int), .int at_, .int F.p, .int many] = some (.lst (vs.map F.enc)) ∧ vs.length = many.toNat ∧ ∀ v ∈ vs, F.Ht 4 v := by
  rw [fns_succ (fn := f__law_told) rfl]
  obtain ⟨_, q, vs, w5, w6, rfl, q1, q2⟩ : ∃ e', evS (fns tb (n + 2)) l__law_told_1 [some (false, .lst (P.map .int)), some (false, .int at_), some (false, .int F.p), some (false, .int many), some (true, .lst []), none, none] = some (.nx e') ∧ ∃ (vs : List F.K) (w5 w6 : Option (Bool × D)), e' = [some (false, .lst (P.map .int)), some (false, .int at_), some (false, .int F.p), some (false, .int many), some (true, .lst (vs.map F.enc)), w5, w6] ∧ vs.length = many.toNat ∧ ∀ v ∈ vs, F.Ht 4 v := by
    refine at_rng (P := fun j e' => ∃ (vs : List F.K) (w5 w6 : Option (Bool × D)), e' = [some (false, .lst (P.map .int)), some (false, .int at_), some (false, .int F.p), some (false, .int many), some (true, .lst (vs.map F.enc)), w5, w6] ∧ vs.length = j ∧ ∀ v ∈ vs, F.Ht 4 v) (n := many) (by simp [runFn, argsOf, startF, evS, ev, evM, keepD, seen, hid, shw, shl, sho, hid1, shl1, sho1, attrD, biD, binD, cmpD, outD, idxD, bindF, bindF.setAllF, bindT, setAll, asSeq, PyD.T.slots, wipeE, isNonD, isiD, tyOf, intPart, cutD, frzAll, frz1, lkD, putD, startI, outI, E.isNil, D.flat, flatL, D.nob, nobL, isL, flatO, PyD.getD']) (rgOk_sm (by omega) (by omega)) ⟨[], _, _, rfl, rfl, fun _ h => nomatch h⟩ ?_
    rintro j hj _ ⟨vs, w5, w6, rfl, q1, q2⟩
    obtain ⟨v, dv, v0, v1⟩ := L_draw (n := n + 1) (at_ := at_ + j) (many := 1000) hP (by omega) (by omega) (by omega)
    have hL : vs.length < LIM := by unfold LIM; omega
    have d5 : divOk 5 = true := by decide
    have step : ∃ x : F.K, evS (fns tb (n + 2)) (.iff (.cmp .gt (.var 2) (.int 0)) (.app 4 (.bin .mod (.var 6) (.var 2)) {}) (.app 4 (.call 26 (.cons (.bin .sub (.bin .mod (.bin .fdiv (.var 6) (.int 5)) (.int 19)) (.int 9)) (.cons (.bin .add (.int 1) (.bin .mod (.var 6) (.int 5))) .nil))) {})) [some (false, .lst (P.map .int)), some (false, .int at_), some (false, .int F.p), some (false, .int many), some (true, .lst (vs.map F.enc)), some (false, .int j), some (false, .int v)] = some (.nx [some (false, .lst (P.map .int)), some (false, .int at_), some (false, .int F.p), some (false, .int many), some (true, .lst ((vs ++ [x]).map F.enc)), some (false, .int j), some (false, .int v)]) ∧ F.Ht 4 x := by
      cases F with
      | z p hp =>
        haveI := hp
        have p0 := Fc.p_pos p hp
        simp [Fc.p] at p0
        have e := Z.v_ofI (p := p) v
        have ee : ∀ z : (Fc.z p hp).K, (Fc.z p hp).enc z = .int (Z.v (p := p) z : Nat) := fun _ => rfl
        refine ⟨Z.ofI p v, ?_, trivial⟩
        have em : (vs ++ ([Z.ofI p v] : List (Fc.z p hp).K)).map (Fc.z p hp).enc = vs.map (Fc.z p hp).enc ++ [D.int (v % (p : Int))] := by
          rw [List.map_append]
          exact congrArg (fun z => vs.map (Fc.z p hp).enc ++ [D.int z]) e
        rw [em]
        simp [runFn, argsOf, startF, evS, ev, evM, keepD, seen, hid, shw, shl, sho, hid1, shl1, sho1, attrD, biD, binD, cmpD, outD, idxD, bindF, bindF.setAllF, bindT, setAll, asSeq, PyD.T.slots, wipeE, isNonD, isiD, tyOf, intPart, cutD, frzAll, frz1, lkD, putD, startI, outI, E.isNil, D.flat, flatL, D.nob, nobL, isL, flatO, PyD.getD', Fc.p, p0, hL]
      | q =>
        have L := L_law_lowest (n := n) (a := v / 5 % 19 - 9) (d := 1 + v % 5) (h := 4) (by omega) (by omega) (by omega)
        have ex2 : ∀ z : Rat, Fc.q.enc z = encQ z := fun _ => rfl
        refine ⟨Rat.divInt (v / 5 % 19 - 9) (1 + v % 5), ?_, Ht_divInt (by omega) (by omega) (by omega)⟩
        have em : (vs ++ ([Rat.divInt (v / 5 % 19 - 9) (1 + v % 5)] : List Fc.q.K)).map Fc.q.enc = vs.map Fc.q.enc ++ [encQ (Rat.divInt (v / 5 % 19 - 9) (1 + v % 5))] := by
          rw [List.map_append]
          rfl
        rw [em]
        simp [runFn, argsOf, startF, evS, ev, evM, keepD, seen, hid, shw, shl, sho, hid1, shl1, sho1, attrD, biD, binD, cmpD, outD, idxD, bindF, bindF.setAllF, bindT, setAll, asSeq, PyD.T.slots, wipeE, isNonD, isiD, tyOf, intPart, cutD, frzAll, frz1, lkD, putD, startI, outI, E.isNil, D.flat, flatL, D.nob, nobL, isL, flatO, PyD.getD', Fc.p, d5, fdiv_pos, L, hL]
    obtain ⟨x, sx, hx⟩ := step
    refine ⟨_, rfl, [some (false, .lst (P.map .int)), some (false, .int at_), some (false, .int F.p), some (false, .int many), some (true, .lst ((vs ++ [x]).map F.enc)), some (false, .int j), some (false, .int v)], .inl ?_, vs ++ [x], _, _, rfl, by simp [q1], ?_⟩
    · refine (seq_nx (e := [some (false, .lst (P.map .int)), some (false, .int at_), some (false, .int F.p), some (false, .int many), some (true, .lst (vs.map F.enc)), some (false, .int j), some (false, .int v)]) (by simp [runFn, argsOf, startF, evS, ev, evM, keepD, seen, hid, shw, shl, sho, hid1, shl1, sho1, attrD, biD, binD, cmpD, outD, idxD, bindF, bindF.setAllF, bindT, setAll, asSeq, PyD.T.slots, wipeE, isNonD, isiD, tyOf, intPart, cutD, frzAll, frz1, lkD, putD, startI, outI, E.isNil, D.flat, flatL, D.nob, nobL, isL, flatO, PyD.getD', dv])).trans sx
    · intro z hz
      rcases List.mem_append.mp hz with hz | hz
      · exact q2 z hz
      · rw [List.mem_singleton.mp hz]; exact hx
  exact ⟨vs, by simp [runFn, argsOf, startF, evS, ev, evM, keepD, seen, hid, shw, shl, sho, hid1, shl1, sho1, attrD, biD, binD, cmpD, outD, idxD, bindF, bindF.setAllF, bindT, setAll, asSeq, PyD.T.slots, wipeE, isNonD, isiD, tyOf, intPart, cutD, frzAll, frz1, lkD, putD, startI, outI, E.isNil, D.flat, flatL, D.nob, nobL, isL, flatO, PyD.getD', f__law_told, b__law_told, q], q1, q2⟩
end
end PyD

/-! Sums with weights, in any field. -/
namespace PyD
open Lean.Grind
namespace H1
variable {K : Type} [Field K] [DecidableEq K]
/-- the product of the differences -/
def dp (a : K) : List K → K
  | [] => 1
  | b :: ys => if b = a then dp a ys else (a - b) * dp a ys
/-- sum of a to the t over the differences, over those of the list zs -/
def S (xs : List K) (t : Nat) : List K → K
  | [] => 0
  | a :: zs => a ^ t * (dp a xs)⁻¹ + S xs t zs
/-- all products of k numbers -/
def hk : List K → Nat → K
  | _, 0 => 1
  | [], _ + 1 => 0
  | x :: xs, k + 1 => hk xs (k + 1) + x * hk (x :: xs) k
theorem hk_zero {xs : List K} : hk xs 0 = 1 := by cases xs <;> simp [hk]
theorem hk_cons {x : K} {xs : List K} {k : Nat} : hk (x :: xs) (k + 1) = hk xs (k + 1) + x * hk (x :: xs) k := by rw [hk]
theorem dp_ne {a : K} : ∀ {ys : List K}, dp a ys ≠ 0
  | [] => fun h => Field.zero_ne_one h.symm
  | b :: ys => by
    unfold dp
    split
    · exact dp_ne
    · rename_i h
      intro c
      rcases Field.of_mul_eq_zero c with c | c
      · exact h (by grind)
      · exact dp_ne c
theorem S_cons {x : K} {ys : List K} (t : Nat) : ∀ {zs : List K}, x ∉ zs → S (x :: ys) (t + 1) zs - x * S (x :: ys) t zs = S ys t zs
  | [], _ => by simp only [S]; grind
  | a :: zs, h => by
    have ih := S_cons (x := x) (ys := ys) t (zs := zs) (fun c => h (List.mem_cons_of_mem _ c))
    have hne : ¬ x = a := fun c => h (c ▸ List.mem_cons_self ..)
    have e : dp a (x :: ys) = (a - x) * dp a ys := by simp only [dp, if_neg hne]
    have n1 : a - x ≠ 0 := by intro c; exact hne (by grind)
    have n2 := dp_ne (a := a) (ys := ys)
    simp only [S]
    rw [e, Semiring.pow_succ, Field.inv_mul]
    have h1 := Field.mul_inv_cancel n1
    generalize (a - x)⁻¹ = u at *
    generalize (dp a ys)⁻¹ = w at *
    generalize a ^ t = p at *
    grind
theorem S_self {x : K} {ys : List K} (h : x ∉ ys) (t : Nat) : S (x :: ys) (t + 1) (x :: ys) - x * S (x :: ys) t (x :: ys) = S ys t ys := by
  have e := S_cons (x := x) (ys := ys) t (zs := ys) h
  have f : ∀ m, S (x :: ys) m (x :: ys) = x ^ m * (dp x (x :: ys))⁻¹ + S (x :: ys) m ys := fun m => by rw [S]
  rw [f (t + 1), f t, Semiring.pow_succ]
  grind
theorem dp_swap {a x y : K} {zs : List K} : dp a (x :: y :: zs) = dp a (y :: x :: zs) := by
  simp only [dp]
  split <;> split <;> grind
theorem S_congr {xs xs' : List K} (t : Nat) (h : ∀ a, dp a xs = dp a xs') : ∀ {zs : List K}, S xs t zs = S xs' t zs
  | [] => rfl
  | a :: zs => by simp only [S, h a, S_congr t h (zs := zs)]
theorem S_swap {x y : K} {zs : List K} (t : Nat) : S (x :: y :: zs) t (x :: y :: zs) = S (y :: x :: zs) t (y :: x :: zs) := by
  rw [S_congr t (fun a => dp_swap)]
  simp only [S]
  grind
theorem dp_one {a : K} : dp a [a] = 1 := by simp [dp]
theorem inv_one : (1 : K)⁻¹ = 1 := Field.inv_one
theorem S_single {x : K} : S [x] 0 [x] = 1 := by
  simp only [S, dp, if_true]
  rw [Field.inv_one, Semiring.pow_zero]
  grind
theorem S_base : ∀ (n : Nat) (xs : List K), xs.length = n → 2 ≤ n → xs.Nodup → S xs 0 xs = 0 := by
  intro n
  induction n with
  | zero => intro xs _ h; omega
  | succ n ih =>
    intro xs hl h2 hn
    match xs, hl, hn with
    | x :: y :: zs, hl, hn =>
      have n1 : x ∉ y :: zs := (List.nodup_cons.mp hn).1
      have n2 : (y :: zs).Nodup := (List.nodup_cons.mp hn).2
      have hxy : x ≠ y := fun c => n1 (c ▸ List.mem_cons_self ..)
      have n3 : y ∉ x :: zs := by
        intro c
        rcases List.mem_cons.mp c with c | c
        · exact hxy c.symm
        · exact (List.nodup_cons.mp n2).1 c
      have n4 : (x :: zs).Nodup := List.nodup_cons.mpr ⟨fun c => n1 (List.mem_cons_of_mem _ c), (List.nodup_cons.mp n2).2⟩
      have e1 := S_self n1 0
      have e2 := S_self n3 0
      rw [S_swap (x := y) (y := x) 1, S_swap (x := y) (y := x) 0] at e2
      have e3 : S (y :: zs) 0 (y :: zs) = S (x :: zs) 0 (x :: zs) := by
        match zs, hl, n2, n4 with
        | [], _, _, _ => rw [S_single, S_single]
        | z :: zs, hl, n2, n4 =>
          rw [ih (y :: z :: zs) (by simpa using hl) (by simp at hl ⊢; omega) n2, ih (x :: z :: zs) (by simpa using hl) (by simp at hl ⊢; omega) n4]
      have e4 : (x - y) * S (x :: y :: zs) 0 (x :: y :: zs) = 0 := by
        simp only [Nat.zero_add] at e1 e2
        generalize S (x :: y :: zs) 0 (x :: y :: zs) = s at *
        generalize S (x :: y :: zs) 1 (x :: y :: zs) = s1 at *
        generalize S (y :: zs) 0 (y :: zs) = s2 at *
        generalize S (x :: zs) 0 (x :: zs) = s3 at *
        grind
      rcases Field.of_mul_eq_zero e4 with c | c
      · exact absurd (show x = y by grind) hxy
      · exact c
    | [x], hl, _ => simp at hl; omega
    | [], hl, _ => simp at hl
/-- the power sum of a list -/
theorem S_eq : ∀ (xs : List K), xs.Nodup → xs ≠ [] → ∀ t : Nat, S xs t xs = if t + 1 < xs.length then 0 else hk xs (t + 1 - xs.length)
  | [], _, h, _ => absurd rfl h
  | x :: ys, hn, _, t => by
    have hx : x ∉ ys := (List.nodup_cons.mp hn).1
    have hy : ys.Nodup := (List.nodup_cons.mp hn).2
    induction t with
    | zero =>
      cases ys with
      | nil => rw [S_single]; simp [hk]
      | cons y ys =>
        rw [S_base _ _ rfl (by simp) hn, if_pos (by simp)]
    | succ t ih =>
      have e := S_self hx t
      rw [ih] at e
      have e' : S (x :: ys) (t + 1) (x :: ys) = S ys t ys + x * (if t + 1 < (x :: ys).length then 0 else hk (x :: ys) (t + 1 - (x :: ys).length)) := by grind
      rw [e']
      cases ys with
      | nil =>
        simp only [S, List.length_cons, List.length_nil]
        rw [if_neg (by omega), if_neg (by omega)]
        have q : t + 1 + 1 - (0 + 1) = (t + 1 - (0 + 1)) + 1 := by omega
        rw [q]
        simp only [hk]
      | cons y zs =>
        rw [S_eq (y :: zs) hy (by simp) t]
        simp only [List.length_cons]
        by_cases c1 : t + 1 + 1 < zs.length + 1 + 1
        · rw [if_pos c1, if_pos (by omega), if_pos (by omega)]; grind
        · rw [if_neg c1, if_neg (by omega)]
          by_cases c2 : t + 1 < zs.length + 1 + 1
          · rw [if_pos c2]
            have q : t + 1 + 1 - (zs.length + 1 + 1) = 0 := by omega
            have q2 : t + 1 - (zs.length + 1) = 0 := by omega
            rw [q, q2, hk_zero, hk_zero]
            grind
          · rw [if_neg c2]
            have q : t + 1 + 1 - (zs.length + 1 + 1) = (t + 1 - (zs.length + 1 + 1)) + 1 := by omega
            have q2 : t + 1 - (zs.length + 1) = (t + 1 - (zs.length + 1 + 1)) + 1 := by omega
            rw [q, q2]
            rw [hk_cons (x := x)]
end H1
end PyD

namespace PyD
open PySem Lean.Grind
/-! ### weights and power sums -/
section
variable {F : Fc}
theorem dpr_dp {a : F.K} : ∀ {ys : List F.K} {s : F.K}, ys.foldl (fun m b => if b ≠ a then m * (a - b) else m) s = s * H1.dp a ys
  | [], s => by simp [H1.dp, Semiring.mul_one]
  | y :: ys, s => by
    have e : H1.dp a (y :: ys) = if y = a then H1.dp a ys else (a - y) * H1.dp a ys := rfl
    rw [List.foldl_cons, dpr_dp, e]
    by_cases c : y = a
    · rw [if_neg (fun z => z c), if_pos c]
    · rw [if_pos c, if_neg c, Semiring.mul_assoc]
theorem dpr_eq {a : F.K} {ys : List F.K} : dpr a ys = H1.dp a ys := by
  unfold dpr
  rw [dpr_dp, Semiring.one_mul]
theorem dotK_cons {p : F.K × F.K} {ab : List (F.K × F.K)} : dotK (p :: ab) = p.1 * p.2 + dotK ab := by
  unfold dotK
  rw [List.foldl_cons, foldl_add (g := fun p : F.K × F.K => p.1 * p.2)]
  grind
theorem dotK_nil : dotK ([] : List (F.K × F.K)) = 0 := rfl
theorem dotK_app {u v : List (F.K × F.K)} : dotK (u ++ v) = dotK u + dotK v := by
  induction u with
  | nil => rw [List.nil_append, dotK_nil]; grind
  | cons p u ih => rw [List.cons_append, dotK_cons, dotK_cons, ih]; grind
theorem dp_perm {a : F.K} {xs ys : List F.K} (h : xs.Perm ys) : H1.dp a xs = H1.dp a ys := by
  induction h with
  | nil => rfl
  | cons x _ ih => simp only [H1.dp, ih]
  | swap x y l => exact H1.dp_swap
  | trans _ _ i1 i2 => rw [i1, i2]
theorem S_perm {xs : List F.K} {t : Nat} {zs zs' : List F.K} (h : zs.Perm zs') : H1.S xs t zs = H1.S xs t zs' := by
  induction h with
  | nil => rfl
  | cons x _ ih => simp only [H1.S, ih]
  | swap x y l => simp only [H1.S]; grind
  | trans _ _ i1 i2 => rw [i1, i2]
/-- the power sum of a list, in closed form -/
noncomputable def psum (xs : List F.K) (t : Nat) : F.K := if t + 1 < xs.length then 0 else H1.hk xs.reverse (t + 1 - xs.length)
theorem S_psum {xs : List F.K} (hn : xs.Nodup) (h0 : xs ≠ []) (t : Nat) : H1.S xs t xs = psum xs t := by
  have hp := List.reverse_perm xs
  have e1 : H1.S xs t xs = H1.S xs.reverse t xs.reverse := by
    rw [H1.S_congr t (fun a => (dp_perm (a := a) hp).symm), S_perm hp.symm]
  rw [e1, H1.S_eq xs.reverse ((hp.nodup_iff).mpr hn) (by simpa using h0) t]
  unfold psum
  rw [List.length_reverse]
theorem dot_S {xs : List F.K} {t : Nat} : ∀ {zs : List F.K}, dotK ((zs.map fun a => (dpr a xs)⁻¹).zip (zs.map fun x => x ^ t)) = H1.S xs t zs
  | [] => rfl
  | a :: zs => by
    rw [List.map_cons, List.map_cons, List.zip_cons_cons, dotK_cons, dot_S]
    simp only [H1.S, dpr_eq]
    rw [CommSemiring.mul_comm]
theorem psum_dot {xs : List F.K} (hn : xs.Nodup) (h0 : xs ≠ []) (t : Nat) : dotK ((wts xs).zip (xs.map fun x => x ^ t)) = psum xs t := by
  unfold wts
  rw [dot_S, S_psum hn h0]
/-! ### over the points -/
theorem zip_flat {α β γ δ : Type} {f : α → γ → α} {g : β → δ → β} {cs : List γ} {ds : List δ} (hl : cs.length = ds.length) : ∀ {as : List α} {bs : List β}, as.length = bs.length →
    (as.flatMap fun a => cs.map fun c => f a c).zip (bs.flatMap fun b => ds.map fun d => g b d) = (as.zip bs).flatMap fun ab => (cs.zip ds).map fun cd => (f ab.1 cd.1, g ab.2 cd.2)
  | [], [], _ => rfl
  | a :: as, b :: bs, h => by
    rw [List.flatMap_cons, List.flatMap_cons, List.zip_cons_cons, List.flatMap_cons, List.zip_append (by simp [hl]), zip_flat hl (by simpa using h)]
    congr 1
    rw [List.zip_map]
    rfl
  | [], _ :: _, h => by simp at h
  | _ :: _, [], h => by simp at h
noncomputable def sumf {α : Type} (g : α → F.K) (xs : List α) : F.K := xs.foldl (fun s x => s + g x) 0
section
variable {α β : Type} {g g' : α → F.K}
theorem sumf_nil : sumf g [] = 0 := rfl
theorem sumf_cons {x : α} {xs : List α} : sumf g (x :: xs) = g x + sumf g xs := by
  unfold sumf
  rw [List.foldl_cons, foldl_add]
  grind
theorem sumf_app {xs ys : List α} : sumf g (xs ++ ys) = sumf g xs + sumf g ys := by
  induction xs with
  | nil => rw [List.nil_append, sumf_nil]; grind
  | cons x xs ih => rw [List.cons_append, sumf_cons, sumf_cons, ih]; grind
theorem sumf_congr {xs : List α} (h : ∀ x ∈ xs, g x = g' x) : sumf g xs = sumf g' xs := by
  induction xs with
  | nil => rfl
  | cons x xs ih => rw [sumf_cons, sumf_cons, h x (List.mem_cons_self ..), ih fun y hy => h y (List.mem_cons_of_mem _ hy)]
theorem sumf_mul {c : F.K} {xs : List α} : sumf (fun x => c * g x) xs = c * sumf g xs := by
  induction xs with
  | nil => rw [sumf_nil, sumf_nil]; grind
  | cons x xs ih => rw [sumf_cons, sumf_cons, ih]; grind
theorem sumf_mulr {c : F.K} {xs : List α} : sumf (fun x => g x * c) xs = sumf g xs * c := by
  induction xs with
  | nil => rw [sumf_nil, sumf_nil]; grind
  | cons x xs ih => rw [sumf_cons, sumf_cons, ih]; grind
theorem sumf_add {xs : List α} : sumf (fun x => g x + g' x) xs = sumf g xs + sumf g' xs := by
  induction xs with
  | nil => rw [sumf_nil, sumf_nil, sumf_nil]; grind
  | cons x xs ih => rw [sumf_cons, sumf_cons, sumf_cons, ih]; grind
theorem sumf_zero {xs : List α} : sumf (F := F) (fun _ : α => 0) xs = 0 := by
  induction xs with
  | nil => rfl
  | cons x xs ih => rw [sumf_cons, ih]; grind
theorem sumf_flat {f : β → List α} {xs : List β} : sumf g (xs.flatMap f) = sumf (fun x => sumf g (f x)) xs := by
  induction xs with
  | nil => rfl
  | cons x xs ih => rw [List.flatMap_cons, sumf_app, sumf_cons, ih]
theorem sumf_map {f : β → α} {xs : List β} : sumf g (xs.map f) = sumf (fun x => g (f x)) xs := by
  induction xs with
  | nil => rfl
  | cons x xs ih => rw [List.map_cons, sumf_cons, sumf_cons, ih]
theorem sumf_swap {h : α → β → F.K} {xs : List α} {ys : List β} : sumf (fun x => sumf (h x) ys) xs = sumf (fun y => sumf (fun x => h x y) xs) ys := by
  induction xs with
  | nil => rw [sumf_nil, sumf_congr (g' := fun _ => 0) (fun y _ => sumf_nil), sumf_zero]
  | cons x xs ih => rw [sumf_cons, ih, ← sumf_add]; exact sumf_congr fun y _ => (sumf_cons (g := fun x => h x y)).symm
end
theorem lin_sumf {φ : List Nat → F.K} {T : List (List Nat × F.K)} : lin φ T = sumf (fun t => t.2 * φ t.1) T := rfl
theorem dotK_sumf {ab : List (F.K × F.K)} : dotK ab = sumf (fun p => p.1 * p.2) ab := rfl
theorem zip_self {α β : Type} {f : α → β} : ∀ {xs : List α}, xs.zip (xs.map f) = xs.map fun a => (a, f a)
  | [] => rfl
  | a :: xs => by rw [List.map_cons, List.zip_cons_cons, zip_self, List.map_cons]
theorem S_sumf {xs : List F.K} {t : Nat} : ∀ {zs : List F.K}, H1.S xs t zs = sumf (fun a => a ^ t * (H1.dp a xs)⁻¹) zs
  | [] => rfl
  | a :: zs => by rw [sumf_cons, ← S_sumf]; rfl
/-- the product of the power sums -/
noncomputable def psums (ls : List (List F.K)) (e : List Nat) : F.K := ((ls.zip e).map fun xn => psum xn.1 xn.2).foldl (· * ·) 1
theorem psums_snoc {ls : List (List F.K)} {e : List Nat} {xs : List F.K} {n : Nat} (h : ls.length = e.length) : psums (ls ++ [xs]) (e ++ [n]) = psums ls e * psum xs n := by
  unfold psums
  rw [List.zip_append h, List.map_append, List.foldl_append]
  rfl
theorem snoc_of {α : Type} {e : List α} {n : Nat} (h : e.length = n + 1) : ∃ e' x, e = e' ++ [x] ∧ e'.length = n := by
  refine ⟨e.dropLast, e.getLast (by intro c; rw [c] at h; cases h), (List.dropLast_concat_getLast _).symm, by rw [List.length_dropLast]; omega⟩
theorem wmono (ls : List (List F.K)) : ∀ (e : List Nat), (∀ xs ∈ ls, xs.Nodup ∧ xs ≠ []) → e.length = ls.length → sumf (fun q : List F.K × F.K => q.2 * mono q.1 e) ((pts ls).zip (gws ls)) = psums ls e := by
  induction ls using snoc_ind with
  | h0 =>
    intro e _ h
    have : e = [] := List.eq_nil_of_length_eq_zero h
    subst this
    show sumf _ [([], 1)] = (1 : F.K)
    rw [sumf_cons, sumf_nil, mono_nil]
    grind
  | h1 ls xs ih =>
    intro e hx h
    obtain ⟨e', n, rfl, he⟩ := snoc_of (n := ls.length) (e := e) (by rw [h]; simp)
    have ih := ih e' (fun ys hy => hx ys (List.mem_append_left _ hy)) he
    obtain ⟨x1, x2⟩ := hx xs (List.mem_append_right _ (List.mem_singleton.mpr rfl))
    rw [pts_snoc, gws_snoc, zip_flat (f := fun p v => p ++ [v]) (g := fun w f => w * f) (by rw [wts_len]) (by rw [pts_len, gws_len]), sumf_flat, psums_snoc he.symm, ← ih, ← sumf_mulr]
    refine sumf_congr fun q hq => ?_
    have hl := pts_each ls q.1 (List.of_mem_zip hq).1
    rw [sumf_map]
    have e1 : ∀ cd : F.K × F.K, (q.2 * cd.2) * mono (q.1 ++ [cd.1]) (e' ++ [n]) = (q.2 * mono q.1 e') * (cd.1 ^ n * cd.2) := fun cd => by
      rw [mono_snoc (by rw [hl, he])]
      grind
    rw [sumf_congr (fun cd _ => e1 cd), sumf_mul]
    congr 1
    unfold wts
    rw [zip_self, sumf_map, ← S_psum x1 x2, S_sumf]
    exact sumf_congr fun a _ => by rw [dpr_eq]
theorem zip_rev {α β γ : Type} {f : α → γ} : ∀ {as : List α} {bs : List β}, bs.zip (as.map f) = (as.zip bs).map fun q => (q.2, f q.1)
  | [], bs => by simp
  | _ :: _, [] => by simp
  | a :: as, b :: bs => by rw [List.map_cons, List.zip_cons_cons, zip_rev, List.zip_cons_cons, List.map_cons]
/-- the weighed sum of a polynomial's values -/
theorem wpoly {ls : List (List F.K)} {T : List (List Nat × F.K)} (hx : ∀ xs ∈ ls, xs.Nodup ∧ xs ≠ []) (hT : ∀ t ∈ T, t.1.length = ls.length) : dotK ((gws ls).zip ((pts ls).map fun p => lin (mono p) T)) = lin (psums ls) T := by
  rw [zip_rev, dotK_sumf, sumf_map]
  simp only [lin_sumf]
  rw [sumf_congr (fun q _ => (sumf_mul (c := q.2) (g := fun t : List Nat × F.K => t.2 * mono q.1 t.1) (xs := T)).symm), sumf_swap]
  refine sumf_congr fun t ht => ?_
  rw [← wmono ls t.1 hx (hT t ht), ← sumf_mul]
  exact sumf_congr fun q _ => by grind
end
end PyD

namespace PyD
open PySem Lean.Grind
theorem idxL_map {α : Type} {f : α → D} {xs : List α} {j : Nat} {a : α} (h : xs[j]? = some a) : idxL (xs.map f) (j : Int) = some (f a) := by
  obtain ⟨h1, h2⟩ := List.getElem?_eq_some_iff.mp h
  rw [idxL_nat (by rw [List.length_map]; exact h1), List.getElem_map, h2]
theorem for_idx {Φ : Fns} {t : T} {a i : E} {b : S} {env : FEnv} {d : D} {xs : List D} (h : ev Φ (.idx a i) (hid env) = some d) (hs : asSeq d = some xs) : evS Φ (.for_ t (.idx a i) b) env = forGo (fun x env => bindF t x env) (fun env => evS Φ b env) xs env := by
  simp only [evS, h, Option.bind_some, hs]
section
variable {F : Fc} {h k n H : Nat} {ls : List (List F.K)} {p : List F.K}
/-- the product of differences at a point -/
noncomputable def wdk (ls : List (List F.K)) (p : List F.K) (k : Nat) : F.K := (((ls.zip p).take k).map fun q => dpr q.2 q.1).foldl (· * ·) 1
noncomputable def wd' (ls : List (List F.K)) (p : List F.K) : F.K := ((ls.zip p).map fun q => dpr q.2 q.1).foldl (· * ·) 1
theorem wdk_full (h : p.length = ls.length) : wdk ls p ls.length = wd' ls p := by
  unfold wdk wd'
  rw [List.take_of_length_le (by rw [List.length_zip]; omega)]
theorem wdk_succ {j : Nat} {xs : List F.K} {a : F.K} (h1 : ls[j]? = some xs) (h2 : p[j]? = some a) : wdk ls p (j + 1) = wdk ls p j * dpr a xs := by
  unfold wdk
  have e : (ls.zip p)[j]? = some (xs, a) := List.getElem?_zip_eq_some.mpr ⟨h1, h2⟩
  rw [List.take_add_one, e]
  simp [List.foldl_append]
theorem dpr_take {a b : F.K} {xs : List F.K} {i : Nat} (h : xs[i]? = some b) : dpr a (xs.take (i + 1)) = if b ≠ a then dpr a (xs.take i) * (a - b) else dpr a (xs.take i) := foldl_take h
theorem dpr_ht1 {a : F.K} {xs : List F.K} (ha : F.Ht h a) (hx : ∀ x ∈ xs, F.Ht h x) (l : xs.length ≤ 12) : F.Ht (1 + 12 * (2 * h + 1)) (dpr a xs) := by
  refine (dpr_ht ha hx Fc.Ht.one).up ?_
  have : xs.length * (2 * h + 1) ≤ 12 * (2 * h + 1) := Nat.mul_le_mul_right _ l
  first | omega | (rw [show h + h + 1 = 2 * h + 1 by omega]; omega)
/-- what a grid's lists are here -/
structure LsB (F : Fc) (h : Nat) (ls : List (List F.K)) : Prop where
  len : ls.length ≤ 6
  each : ∀ xs ∈ ls, xs.length ≤ 12 ∧ ∀ x ∈ xs, F.Ht h x
def PIn (ls : List (List F.K)) (p : List F.K) : Prop := p.length = ls.length ∧ ∀ (j : Nat) (xs : List F.K) (a : F.K), ls[j]? = some xs → p[j]? = some a → a ∈ xs
theorem wdk_ht (hb : LsB F h ls) (hp : PIn ls p) : ∀ j, j ≤ ls.length → F.Ht (1 + j * (1 + 12 * (2 * h + 1))) (wdk ls p j)
  | 0, _ => by
    have : wdk ls p 0 = 1 := rfl
    rw [this]
    exact Fc.Ht.one.up (by omega)
  | j + 1, l => by
    have h1 : ls[j]? = some ls[j] := List.getElem?_eq_getElem (by omega)
    have h2 : p[j]? = some (p[j]'(by rw [hp.1]; omega)) := List.getElem?_eq_getElem (by rw [hp.1]; omega)
    have hm := List.mem_of_getElem? h1
    rw [wdk_succ h1 h2]
    have e := hb.each _ hm
    exact ((wdk_ht hb hp j (by omega)).mul (dpr_ht1 (e.2 _ (hp.2 j _ _ h1 h2)) e.2 e.1)).up (by rw [Nat.add_mul]; omega)
theorem wd_ne (h : PIn ls p) : wd' ls p ≠ 0 := by
  unfold wd'
  have : ∀ (qs : List (List F.K × F.K)) (s : F.K), s ≠ 0 → (qs.map fun q => dpr q.2 q.1).foldl (· * ·) s ≠ 0 := by
    intro qs
    induction qs with
    | nil => intro s hs; exact hs
    | cons q qs ih =>
      intro s hs
      refine ih _ ?_
      have : dpr q.2 q.1 ≠ 0 := by rw [dpr_eq]; exact H1.dp_ne
      intro c
      rcases Field.of_mul_eq_zero c with c | c
      · exact hs c
      · exact this c
  exact this _ _ (by intro c; exact (Field.zero_ne_one (α := F.K)) c.symm)
def wE (F : Fc) (ls ps : List (List F.K)) (W : List D) (pt made kk o g : Option (Bool × D)) : FEnv := [some (false, .int F.p), some (false, .lst (encL F ls)), some (false, .lst (encP F ps)), some (true, .lst W), pt, made, kk, o, g]
theorem lweights_3 {ps : List (List F.K)} {W : List D} {j : Nat} {xs : List F.K} {a m : F.K} {o g : Option (Bool × D)} (hb : LsB F h ls) (hj : ls[j]? = some xs) (ha : p[j]? = some a) (hi : a ∈ xs) (hm : F.Ht k m) (l : k + 14 * (2 * h + 1) + 10 < 8000) :
    ∃ e', evS (fns tb (n + 4)) l__law_weights_3 (wE F ls ps W (some (false, .tup (p.map F.enc))) (some (false, F.enc m)) (some (false, .int j)) o g) = some (.nx e') ∧ ∃ o g, e' = wE F ls ps W (some (false, .tup (p.map F.enc))) (some (false, F.enc (m * dpr a (xs.take xs.length)))) (some (false, .int j)) o g := by
  obtain ⟨x1, x2⟩ := hb.each xs (List.mem_of_getElem? hj)
  have i1 : idxL (encL F ls) (j : Int) = some (.lst (xs.map F.enc)) := idxL_map (f := fun ys : List F.K => D.lst (ys.map F.enc)) hj
  have i2 : idxL (p.map F.enc) (j : Int) = some (F.enc a) := idxL_map ha
  refine at_go (P := fun i e' => ∃ o g, e' = wE F ls ps W (some (false, .tup (p.map F.enc))) (some (false, F.enc (m * dpr a (xs.take i)))) (some (false, .int j)) o g) (ys := xs) (g := F.enc) (for_idx (d := .lst (xs.map F.enc)) (by simp [runFn, argsOf, startF, evS, ev, evM, keepD, seen, hid, shw, shl, sho, hid1, shl1, sho1, attrD, biD, binD, cmpD, outD, idxD, bindF, bindF.setAllF, bindT, setAll, asSeq, PyD.T.slots, wipeE, isNonD, isiD, tyOf, intPart, cutD, frzAll, frz1, lkD, putD, startI, outI, E.isNil, D.flat, flatL, D.nob, nobL, isL, flatO, PyD.getD', wE, i1]) rfl) ⟨o, g, by
    have : m * dpr a (xs.take 0) = m := by
      have : dpr a (xs.take 0) = 1 := rfl
      rw [this, Semiring.mul_one]
    rw [this]⟩ ?_
  rintro i b hib _ ⟨o, g, rfl⟩
  have hbm := List.mem_of_getElem? hib
  have hil := (List.getElem?_eq_some_iff.mp hib).1
  refine ⟨_, rfl, ?_⟩
  rw [dpr_take hib]
  by_cases c : b = a
  · refine ⟨wE F ls ps W (some (false, .tup (p.map F.enc))) (some (false, F.enc (m * dpr a (xs.take i)))) (some (false, .int j)) (some (false, F.enc b)) g, .inl ?_, some (false, F.enc b), g, by simp [c]⟩
    have q := Fc.eqD_enc (F := F) (x := b) (y := a)
    rw [decide_eq_true c] at q
    simp [runFn, argsOf, startF, evS, ev, evM, keepD, seen, hid, shw, shl, sho, hid1, shl1, sho1, attrD, biD, binD, cmpD, outD, idxD, bindF, bindF.setAllF, bindT, setAll, asSeq, PyD.T.slots, wipeE, isNonD, isiD, tyOf, intPart, cutD, frzAll, frz1, lkD, putD, startI, outI, E.isNil, D.flat, flatL, D.nob, nobL, isL, flatO, PyD.getD', wE, i2, q]
  · have q := Fc.eqD_enc (F := F) (x := b) (y := a)
    rw [decide_eq_false c] at q
    have hbb := x2 b hbm
    have haa := x2 a hi
    have L1 := L_lint (n := n + 3) (F := F) (i := -1)
    rw [Fc.ofI_neg1] at L1
    have L2 := L_ltimes (n := n + 1) (F := F) (x := -1) (y := b) Fc.Ht.one.neg hbb (by omega)
    have L3 := L_lsum (n := n + 1) haa (Fc.Ht.one.neg.mul hbb) (by omega)
    have e : a + -1 * b = a - b := by grind
    rw [e] at L3
    have hd : F.Ht (1 + 12 * (2 * h + 1)) (dpr a (xs.take i)) := dpr_ht1 haa (fun x hx => x2 x (List.mem_of_mem_take hx)) (by rw [List.length_take]; omega)
    have hg : F.Ht (h + h + 1) (a - b) := haa.sub hbb
    have L4 := L_ltimes (n := n + 1) (hm.mul hd) hg (by omega)
    rw [if_pos c, ← Semiring.mul_assoc]
    refine ⟨wE F ls ps W (some (false, .tup (p.map F.enc))) (some (false, F.enc (m * dpr a (xs.take i) * (a - b)))) (some (false, .int j)) (some (false, F.enc b)) (some (false, F.enc (a - b))), .inl ?_, _, _, rfl⟩
    simp [runFn, argsOf, startF, evS, ev, evM, keepD, seen, hid, shw, shl, sho, hid1, shl1, sho1, attrD, biD, binD, cmpD, outD, idxD, bindF, bindF.setAllF, bindT, setAll, asSeq, PyD.T.slots, wipeE, isNonD, isiD, tyOf, intPart, cutD, frzAll, frz1, lkD, putD, startI, outI, E.isNil, D.flat, flatL, D.nob, nobL, isL, flatO, PyD.getD', wE, i2, q, L1, L2, L3, L4]
theorem L_lweights {ps : List (List F.K)} (hb : LsB F h ls) (hp : ∀ p ∈ ps, PIn ls p) (hl : ps.length ≤ 1000) (lh : h ≤ 20) : fns tb (n + 5) i__law_weights [.int F.p, .lst (encL F ls), .lst (encP F ps)] = some (.lst ((ps.map fun p => (wd' ls p)⁻¹).map F.enc)) := by
  rw [fns_succ (fn := f__law_weights) rfl]
  obtain ⟨b1, b2⟩ := hb
  have hb : LsB F h ls := ⟨b1, b2⟩
  obtain ⟨_, q, w4, w5, w6, w7, w8, rfl⟩ : ∃ e', evS (fns tb (n + 4)) l__law_weights_1 (wE F ls ps [] none none none none none) = some (.nx e') ∧ ∃ w4 w5 w6 w7 w8, e' = wE F ls ps (((ps.take ps.length).map fun p => (wd' ls p)⁻¹).map F.enc) w4 w5 w6 w7 w8 := by
    refine at_go (P := fun j e' => ∃ w4 w5 w6 w7 w8, e' = wE F ls ps (((ps.take j).map fun p => (wd' ls p)⁻¹).map F.enc) w4 w5 w6 w7 w8) (ys := ps) (g := fun p => D.tup (p.map F.enc)) (for_var (d := .lst (encP F ps)) (by simp [runFn, argsOf, startF, evS, ev, evM, keepD, seen, hid, shw, shl, sho, hid1, shl1, sho1, attrD, biD, binD, cmpD, outD, idxD, bindF, bindF.setAllF, bindT, setAll, asSeq, PyD.T.slots, wipeE, isNonD, isiD, tyOf, intPart, cutD, frzAll, frz1, lkD, putD, startI, outI, E.isNil, D.flat, flatL, D.nob, nobL, isL, flatO, PyD.getD', wE]) rfl) ⟨none, none, none, none, none, rfl⟩ ?_
    rintro j p hj _ ⟨w4, w5, w6, w7, w8, rfl⟩
    have hpj := hp p (List.mem_of_getElem? hj)
    have hjl := (List.getElem?_eq_some_iff.mp hj).1
    generalize hW : ((ps.take j).map fun p => (wd' ls p)⁻¹).map F.enc = W
    have hWl : W.length = j := by rw [← hW, List.length_map, List.length_map, List.length_take]; omega
    have L0 := L_lint (n := n + 3) (F := F) (i := 1)
    rw [Fc.ofI_one] at L0
    obtain ⟨_, q, w6', w7', w8', rfl⟩ : ∃ e', evS (fns tb (n + 4)) l__law_weights_2 (wE F ls ps W (some (false, .tup (p.map F.enc))) (some (false, F.enc 1)) w6 w7 w8) = some (.nx e') ∧ ∃ w6 w7 w8, e' = wE F ls ps W (some (false, .tup (p.map F.enc))) (some (false, F.enc (wdk ls p ls.length))) w6 w7 w8 := by
      refine at_rng (P := fun i e' => ∃ w6 w7 w8, e' = wE F ls ps W (some (false, .tup (p.map F.enc))) (some (false, F.enc (wdk ls p i))) w6 w7 w8) (n := ls.length) (by simp [runFn, argsOf, startF, evS, ev, evM, keepD, seen, hid, shw, shl, sho, hid1, shl1, sho1, attrD, biD, binD, cmpD, outD, idxD, bindF, bindF.setAllF, bindT, setAll, asSeq, PyD.T.slots, wipeE, isNonD, isiD, tyOf, intPart, cutD, frzAll, frz1, lkD, putD, startI, outI, E.isNil, D.flat, flatL, D.nob, nobL, isL, flatO, PyD.getD', wE, encL]) (rgOk_sm (by omega) (by omega)) ⟨_, _, _, rfl⟩ ?_
      rintro i hi _ ⟨w6, w7, w8, rfl⟩
      have hi' : i < ls.length := by omega
      have h1 : ls[i]? = some ls[i] := List.getElem?_eq_getElem hi'
      have h2 : p[i]? = some (p[i]'(by rw [hpj.1]; omega)) := List.getElem?_eq_getElem (by rw [hpj.1]; omega)
      have hk := wdk_ht hb hpj i (by omega)
      have ib : i * (1 + 12 * (2 * h + 1)) ≤ 6 * (1 + 12 * 41) := Nat.mul_le_mul (by omega) (by omega)
      obtain ⟨_, q, o, g, rfl⟩ := lweights_3 (n := n) (ps := ps) (W := W) (o := w7) (g := w8) hb h1 h2 (hpj.2 i _ _ h1 h2) hk (by omega)
      rw [List.take_length, ← wdk_succ h1 h2] at q
      exact ⟨_, rfl, _, .inl q, _, _, _, rfl⟩
    rw [wdk_full hpj.1] at q
    have hf := wdk_ht hb hpj ls.length (Nat.le_refl _)
    rw [wdk_full hpj.1] at hf
    have ib : ls.length * (1 + 12 * (2 * h + 1)) ≤ 6 * (1 + 12 * 41) := Nat.mul_le_mul (by omega) (by omega)
    have LI := L_linverse (n := n + 1) hf (wd_ne hpj) (by omega)
    have hL : W.length < LIM := by unfold LIM; omega
    refine ⟨_, rfl, wE F ls ps (W ++ [F.enc (wd' ls p)⁻¹]) (some (false, .tup (p.map F.enc))) (some (false, F.enc (wd' ls p))) w6' w7' w8', .inl ?_, some (false, .tup (p.map F.enc)), some (false, F.enc (wd' ls p)), w6', w7', w8', ?_⟩
    · refine (seq_nx (e := wE F ls ps W (some (false, .tup (p.map F.enc))) (some (false, F.enc 1)) w6 w7 w8) (by simp [runFn, argsOf, startF, evS, ev, evM, keepD, seen, hid, shw, shl, sho, hid1, shl1, sho1, attrD, biD, binD, cmpD, outD, idxD, bindF, bindF.setAllF, bindT, setAll, asSeq, PyD.T.slots, wipeE, isNonD, isiD, tyOf, intPart, cutD, frzAll, frz1, lkD, putD, startI, outI, E.isNil, D.flat, flatL, D.nob, nobL, isL, flatO, PyD.getD', wE, L0])).trans ?_
      refine (seq_nx q).trans ?_
      simp [runFn, argsOf, startF, evS, ev, evM, keepD, seen, hid, shw, shl, sho, hid1, shl1, sho1, attrD, biD, binD, cmpD, outD, idxD, bindF, bindF.setAllF, bindT, setAll, asSeq, PyD.T.slots, wipeE, isNonD, isiD, tyOf, intPart, cutD, frzAll, frz1, lkD, putD, startI, outI, E.isNil, D.flat, flatL, D.nob, nobL, isL, flatO, PyD.getD', wE, LI, hL]
    · have e : ((ps.take (j + 1)).map fun p => (wd' ls p)⁻¹) = ((ps.take j).map fun p => (wd' ls p)⁻¹) ++ [(wd' ls p)⁻¹] := map_take hj
      rw [e, List.map_append, hW]
      rfl
  rw [List.take_length] at q
  simp only [wE] at q
  simp [runFn, argsOf, startF, evS, ev, evM, keepD, seen, hid, shw, shl, sho, hid1, shl1, sho1, attrD, biD, binD, cmpD, outD, idxD, bindF, bindF.setAllF, bindT, setAll, asSeq, PyD.T.slots, wipeE, isNonD, isiD, tyOf, intPart, cutD, frzAll, frz1, lkD, putD, startI, outI, E.isNil, D.flat, flatL, D.nob, nobL, isL, flatO, PyD.getD', f__law_weights, b__law_weights, q]
end
end PyD

namespace PyD
open PySem Lean.Grind
section
variable {F : Fc} {h k n H : Nat} {ls : List (List F.K)} {p : List F.K}
theorem ht_of' {k : Nat} {x : F.K} (z : ¬ F.p = 0) : F.Ht k x := by
  cases F with
  | q => exact absurd rfl z
  | z p hp => trivial
theorem L_row_is {xs : List F.K} (hl : xs.length ≤ 1000) : fns tb (n + 5) i__law_row_is [.int F.p, .lst (xs.map F.enc), .lst (xs.map F.enc)] = some (.bl true) := by
  rw [fns_succ (fn := f__law_row_is) rfl]
  obtain ⟨_, q, w, rfl⟩ : ∃ e', evS (fns tb (n + 4)) l__law_row_is_1 [some (false, .int F.p), some (false, .lst (xs.map F.enc)), some (false, .lst (xs.map F.enc)), none] = some (.nx e') ∧ ∃ w, e' = [some (false, .int F.p), some (false, .lst (xs.map F.enc)), some (false, .lst (xs.map F.enc)), w] := by
    refine at_rng (P := fun _ e' => ∃ w, e' = [some (false, .int F.p), some (false, .lst (xs.map F.enc)), some (false, .lst (xs.map F.enc)), w]) (n := xs.length) (by simp [runFn, argsOf, startF, evS, ev, evM, keepD, seen, hid, shw, shl, sho, hid1, shl1, sho1, attrD, biD, binD, cmpD, outD, idxD, bindF, bindF.setAllF, bindT, setAll, asSeq, PyD.T.slots, wipeE, isNonD, isiD, tyOf, intPart, cutD, frzAll, frz1, lkD, putD, startI, outI, E.isNil, D.flat, flatL, D.nob, nobL, isL, flatO, PyD.getD']) (rgOk_sm (by omega) (by omega)) ⟨_, rfl⟩ ?_
    rintro j hj _ ⟨w, rfl⟩
    have hj' : j < xs.length := by omega
    have i1 : idxL (xs.map F.enc) (j : Int) = some (F.enc xs[j]) := idxL_map (List.getElem?_eq_getElem hj')
    have L1 := L_lisnum (n := n + 2) (x := xs[j])
    have L2 := L_alike (d := F.enc xs[j]) .enc (n := n + 3) (by omega)
    exact ⟨_, rfl, [some (false, .int F.p), some (false, .lst (xs.map F.enc)), some (false, .lst (xs.map F.enc)), some (false, .int j)], .inl (by simp [runFn, argsOf, startF, evS, ev, evM, keepD, seen, hid, shw, shl, sho, hid1, shl1, sho1, attrD, biD, binD, cmpD, outD, idxD, bindF, bindF.setAllF, bindT, setAll, asSeq, PyD.T.slots, wipeE, isNonD, isiD, tyOf, intPart, cutD, frzAll, frz1, lkD, putD, startI, outI, E.isNil, D.flat, flatL, D.nob, nobL, isL, flatO, PyD.getD', i1, L1, L2]), _, rfl⟩
  simp [runFn, argsOf, startF, evS, ev, evM, keepD, seen, hid, shw, shl, sho, hid1, shl1, sho1, attrD, biD, binD, cmpD, outD, idxD, bindF, bindF.setAllF, bindT, setAll, asSeq, PyD.T.slots, wipeE, isNonD, isiD, tyOf, intPart, cutD, frzAll, frz1, lkD, putD, startI, outI, E.isNil, D.flat, flatL, D.nob, nobL, isL, flatO, PyD.getD', f__law_row_is, b__law_row_is, q]
theorem L_lgrid (hg : GridOk F ls) : fns tb (n + 6) i__law_grid [.int F.p, .lst (encL F ls)] = some (gridD F ls) := by
  rw [fns_succ (fn := f__law_grid) rfl]
  have LG := L_Grid (n := n) hg
  have c : ev (fns tb (n + 5)) c__law_grid_1 (hid [some (false, .int F.p), some (false, .lst (encL F ls)), none]) = some (.lst (encL F ls)) := by
    refine lc_mp (ys := ls) (g := fun xs => D.lst (xs.map F.enc)) (f := fun xs => D.lst (xs.map F.enc)) (d := .lst (encL F ls)) (by simp [runFn, argsOf, startF, evS, ev, evM, keepD, seen, hid, shw, shl, sho, hid1, shl1, sho1, attrD, biD, binD, cmpD, outD, idxD, bindF, bindF.setAllF, bindT, setAll, asSeq, PyD.T.slots, wipeE, isNonD, isiD, tyOf, intPart, cutD, frzAll, frz1, lkD, putD, startI, outI, E.isNil, D.flat, flatL, D.nob, nobL, isL, flatO, PyD.getD']) rfl (fun xs hx => ⟨_, rfl, by simp [runFn, argsOf, startF, evS, ev, evM, keepD, seen, hid, shw, shl, sho, hid1, shl1, sho1, attrD, biD, binD, cmpD, outD, idxD, bindF, bindF.setAllF, bindT, setAll, asSeq, PyD.T.slots, wipeE, isNonD, isiD, tyOf, intPart, cutD, frzAll, frz1, lkD, putD, startI, outI, E.isNil, D.flat, flatL, D.nob, nobL, isL, flatO, PyD.getD']⟩) (nested_ok hg).1
  simp only [hid, hid1, List.map_cons, List.map_nil] at c
  simp [runFn, argsOf, startF, evS, ev, evM, keepD, seen, hid, shw, shl, sho, hid1, shl1, sho1, attrD, biD, binD, cmpD, outD, idxD, bindF, bindF.setAllF, bindT, setAll, asSeq, PyD.T.slots, wipeE, isNonD, isiD, tyOf, intPart, cutD, frzAll, frz1, lkD, putD, startI, outI, E.isNil, D.flat, flatL, D.nob, nobL, isL, flatO, PyD.getD', f__law_grid, b__law_grid, c, LG]
theorem prodlen_pos {α : Type} (ls : List (List α)) : (∀ xs ∈ ls, 1 ≤ xs.length) → 0 < prodlen ls := by
  induction ls using snoc_ind with
  | h0 => intro _; simp [prodlen]
  | h1 ls xs ih =>
    intro g
    rw [prodlen_snoc]
    exact Nat.mul_pos (ih fun ys hy => g ys (List.mem_append_left _ hy)) (g xs (List.mem_append_right _ (List.mem_singleton.mpr rfl)))
theorem gws_pos (hg : GridOk F ls) : 0 < (gws ls).length := by
  rw [gws_len]
  exact prodlen_pos ls fun xs hx => (hg.2.2.1 xs hx).2.1
theorem L_twice (hg : GridOk F ls) (hb : LB F ls H) (l : 1 + ls.length * H + H < 8000) : fns tb (n + 6) i__law_twice [gridD F ls, .int F.p, .lst ((gws ls).map F.enc)] = some (.bl true) := by
  rw [fns_succ (fn := f__law_twice) rfl]
  have LG := L_grid_weights (n := n) hg hb l
  have hl : (gws ls).length ≤ 64 := by rw [gws_len]; exact hg.2.2.2
  have LR := L_row_is (n := n) (F := F) (xs := gws ls) (by omega)
  have hp := gws_pos hg
  have i0 : idxL ((gws ls).map F.enc) 0 = some (F.enc (gws ls)[0]) := idxL_map (j := 0) (List.getElem?_eq_getElem hp)
  have hL : (gws ls).length < LIM := by unfold LIM; omega
  generalize gridD F ls = g at LG ⊢
  generalize gws ls = W at *
  simp [runFn, argsOf, startF, evS, ev, evM, keepD, seen, hid, shw, shl, sho, hid1, shl1, sho1, attrD, biD, binD, cmpD, outD, idxD, bindF, bindF.setAllF, bindT, setAll, asSeq, PyD.T.slots, wipeE, isNonD, isiD, tyOf, intPart, cutD, frzAll, frz1, lkD, putD, startI, outI, E.isNil, D.flat, flatL, D.nob, nobL, isL, flatO, PyD.getD', f__law_twice, b__law_twice, LG, LR, i0, hL]
/-! ### sums, scales -/
theorem L_added {ws vs : List F.K} (hl : ws.length = vs.length) (hw : ∀ w ∈ ws, F.Ht h w) (hv : ∀ v ∈ vs, F.Ht k v) (hn : ws.length ≤ 1000) (l : F.p = 0 → 1 + ws.length * (h + k + 1) + h + k < 9000) : fns tb (n + 5) i__law_added [.int F.p, .lst (ws.map F.enc), .lst (vs.map F.enc)] = some (F.enc (dotK (ws.zip vs))) := by
  rw [fns_succ (fn := f__law_added) rfl]
  have L0 := L_lint (n := n + 3) (F := F) (i := 0)
  rw [Fc.ofI_zero] at L0
  have hsum : ∀ j, F.p = 0 → j ≤ ws.length → F.Ht (1 + j * (h + k + 1)) (dotK ((ws.zip vs).take j)) := fun j hp hj => by
    refine (Fc.Ht.sum (f := fun q : F.K × F.K => q.1 * q.2) (h := h + k) (xs := (ws.zip vs).take j) (s := 0) (k := 1) (fun q hq => ?_) Fc.Ht.zero).up (by
      have : ((ws.zip vs).take j).length = j := by rw [List.length_take, List.length_zip]; omega
      rw [this]; exact Nat.le_refl _)
    have hq := List.mem_of_mem_take hq
    exact (hw _ (List.of_mem_zip hq).1).mul (hv _ (List.of_mem_zip hq).2)
  obtain ⟨_, q, w4, rfl⟩ : ∃ e', evS (fns tb (n + 4)) l__law_added_1 [some (false, .int F.p), some (false, .lst (ws.map F.enc)), some (false, .lst (vs.map F.enc)), some (false, F.enc 0), none] = some (.nx e') ∧ ∃ w4, e' = [some (false, .int F.p), some (false, .lst (ws.map F.enc)), some (false, .lst (vs.map F.enc)), some (false, F.enc (dotK ((ws.zip vs).take ws.length))), w4] := by
    refine at_rng (P := fun j e' => ∃ w4, e' = [some (false, .int F.p), some (false, .lst (ws.map F.enc)), some (false, .lst (vs.map F.enc)), some (false, F.enc (dotK ((ws.zip vs).take j))), w4]) (n := ws.length) (by simp [runFn, argsOf, startF, evS, ev, evM, keepD, seen, hid, shw, shl, sho, hid1, shl1, sho1, attrD, biD, binD, cmpD, outD, idxD, bindF, bindF.setAllF, bindT, setAll, asSeq, PyD.T.slots, wipeE, isNonD, isiD, tyOf, intPart, cutD, frzAll, frz1, lkD, putD, startI, outI, E.isNil, D.flat, flatL, D.nob, nobL, isL, flatO, PyD.getD']) (rgOk_sm (by omega) (by omega)) ⟨_, rfl⟩ ?_
    rintro j hj _ ⟨w4, rfl⟩
    have h1 : ws[j]? = some (ws[j]'(by omega)) := List.getElem?_eq_getElem (by omega)
    have h2 : vs[j]? = some (vs[j]'(by omega)) := List.getElem?_eq_getElem (by omega)
    have i1 := idxL_map (f := F.enc) h1
    have i2 := idxL_map (f := F.enc) h2
    have m1 := hw _ (List.mem_of_getElem? h1)
    have m2 := hv _ (List.mem_of_getElem? h2)
    have hs := hsum j
    have e : dotK ((ws.zip vs).take (j + 1)) = dotK ((ws.zip vs).take j) + ws[j]'(by omega) * vs[j]'(by omega) := foldl_take (f := fun (t : F.K) (q : F.K × F.K) => t + q.1 * q.2) (x := (ws[j]'(by omega), vs[j]'(by omega))) (List.getElem?_zip_eq_some.mpr ⟨h1, h2⟩)
    have LL : ∃ a b c : Nat, a + b < 9000 ∧ c + (a + b) < 9000 ∧ F.Ht a (ws[j]'(by omega)) ∧ F.Ht b (vs[j]'(by omega)) ∧ F.Ht c (dotK ((ws.zip vs).take j)) := by
      by_cases z : F.p = 0
      · have l := l z
        have hj2 : j * (h + k + 1) ≤ ws.length * (h + k + 1) := Nat.mul_le_mul_right _ (by omega)
        exact ⟨h, k, _, by omega, by omega, m1, m2, hs z (by omega)⟩
      · exact ⟨0, 0, 0, by omega, by omega, ht_of' z, ht_of' z, ht_of' z⟩
    obtain ⟨a, b, c, l1, l2, t1, t2, t3⟩ := LL
    have LT := L_ltimes (n := n + 1) t1 t2 l1
    have LS := L_lsum (n := n + 1) t3 (t1.mul t2) l2
    refine ⟨_, rfl, [some (false, .int F.p), some (false, .lst (ws.map F.enc)), some (false, .lst (vs.map F.enc)), some (false, F.enc (dotK ((ws.zip vs).take (j + 1)))), some (false, .int j)], .inl ?_, _, rfl⟩
    rw [e]
    simp [runFn, argsOf, startF, evS, ev, evM, keepD, seen, hid, shw, shl, sho, hid1, shl1, sho1, attrD, biD, binD, cmpD, outD, idxD, bindF, bindF.setAllF, bindT, setAll, asSeq, PyD.T.slots, wipeE, isNonD, isiD, tyOf, intPart, cutD, frzAll, frz1, lkD, putD, startI, outI, E.isNil, D.flat, flatL, D.nob, nobL, isL, flatO, PyD.getD', i1, i2, LT, LS]
  rw [List.take_of_length_le (by rw [List.length_zip]; omega)] at q
  simp [runFn, argsOf, startF, evS, ev, evM, keepD, seen, hid, shw, shl, sho, hid1, shl1, sho1, attrD, biD, binD, cmpD, outD, idxD, bindF, bindF.setAllF, bindT, setAll, asSeq, PyD.T.slots, wipeE, isNonD, isiD, tyOf, intPart, cutD, frzAll, frz1, lkD, putD, startI, outI, E.isNil, D.flat, flatL, D.nob, nobL, isL, flatO, PyD.getD', f__law_added, b__law_added, L0, q]
end
end PyD

namespace PyD
open PySem Lean.Grind
section
variable {F : Fc} {h k n H : Nat} {ls : List (List F.K)} {p : List F.K}
theorem foldl_take1 {α β : Type} {f : β → α → β} {s : β} {xs : List α} {j : Nat} {x : α} (h : xs[j]? = some x) : (xs.take (j + 1)).foldl f s = f ((xs.take j).foldl f s) x := by
  rw [List.take_add_one, h]
  simp [List.foldl_append]
/-! ### the weights divided by the scales -/
noncomputable def sck (ls : List (List F.K)) (ss : List F.K) (j : Nat) : F.K := ((ls.zip ss).take j).foldl (fun m q => m * (q.2⁻¹) ^ (q.1.length - 1)) 1
noncomputable def sca (ls : List (List F.K)) (ss : List F.K) : F.K := (ls.zip ss).foldl (fun m q => m * (q.2⁻¹) ^ (q.1.length - 1)) 1
theorem sck_full {ss : List F.K} (h : ss.length = ls.length) : sck ls ss ls.length = sca ls ss := by
  unfold sck sca
  rw [List.take_of_length_le (by rw [List.length_zip]; omega)]
theorem sck_succ {ss : List F.K} {j : Nat} {xs : List F.K} {s : F.K} (h1 : ls[j]? = some xs) (h2 : ss[j]? = some s) : sck ls ss (j + 1) = sck ls ss j * (s⁻¹) ^ (xs.length - 1) :=
  foldl_take1 (f := fun (m : F.K) (q : List F.K × F.K) => m * (q.2⁻¹) ^ (q.1.length - 1)) (x := (xs, s)) (List.getElem?_zip_eq_some.mpr ⟨h1, h2⟩)
theorem ht_pow {x : F.K} (hx : F.Ht h x) : ∀ m : Nat, F.Ht (1 + m * h) (x ^ m)
  | 0 => by rw [Semiring.pow_zero]; exact Fc.Ht.one.up (by omega)
  | m + 1 => by rw [Semiring.pow_succ]; exact ((ht_pow hx m).mul hx).up (by rw [Nat.add_mul]; omega)
theorem sck_ht {ss : List F.K} (hb : LsB F h ls) (hs : ∀ s ∈ ss, F.Ht k s) (hl : ss.length = ls.length) : ∀ j, j ≤ ls.length → F.Ht (1 + j * (1 + 12 * k)) (sck ls ss j)
  | 0, _ => by
    have : sck ls ss 0 = 1 := rfl
    rw [this]
    exact Fc.Ht.one.up (by omega)
  | j + 1, l => by
    have h1 : ls[j]? = some ls[j] := List.getElem?_eq_getElem (by omega)
    have h2 : ss[j]? = some (ss[j]'(by omega)) := List.getElem?_eq_getElem (by omega)
    rw [sck_succ h1 h2]
    have e := hb.each _ (List.mem_of_getElem? h1)
    have b : (ls[j].length - 1) * k ≤ 12 * k := Nat.mul_le_mul_right _ (by omega)
    exact ((sck_ht hb hs hl j (by omega)).mul (ht_pow (hs _ (List.mem_of_getElem? h2)).inv _)).up (by rw [Nat.add_mul]; omega)
def sE (F : Fc) (ls : List (List F.K)) (ss ws : List F.K) (made : D) (a b c : Option (Bool × D)) : FEnv := [some (false, .int F.p), some (false, .lst (encL F ls)), some (false, .lst (ss.map F.enc)), some (false, .lst (ws.map F.enc)), some (false, made), a, b, c]
theorem L_scaled {ss ws : List F.K} (hb : LsB F h ls) (hs : ∀ s ∈ ss, s ≠ 0 ∧ F.Ht k s) (hl : ss.length = ls.length) (hw : ∀ w ∈ ws, F.Ht H w) (hn : ws.length ≤ 1000) (lk : k ≤ 10) (lH : H < 7000) :
    fns tb (n + 5) i__law_scaled [.int F.p, .lst (encL F ls), .lst (ss.map F.enc), .lst (ws.map F.enc)] = some (.lst ((ws.map fun w => sca ls ss * w).map F.enc)) := by
  rw [fns_succ (fn := f__law_scaled) rfl]
  have L0 := L_lint (n := n + 3) (F := F) (i := 1)
  rw [Fc.ofI_one] at L0
  have lb := hb.len
  obtain ⟨_, q, a, b, c, rfl⟩ : ∃ e', evS (fns tb (n + 4)) l__law_scaled_1 (sE F ls ss ws (F.enc 1) none none none) = some (.nx e') ∧ ∃ a b c, e' = sE F ls ss ws (F.enc (sck ls ss ls.length)) a b c := by
    refine at_rng (P := fun j e' => ∃ a b c, e' = sE F ls ss ws (F.enc (sck ls ss j)) a b c) (n := ls.length) (by simp [runFn, argsOf, startF, evS, ev, evM, keepD, seen, hid, shw, shl, sho, hid1, shl1, sho1, attrD, biD, binD, cmpD, outD, idxD, bindF, bindF.setAllF, bindT, setAll, asSeq, PyD.T.slots, wipeE, isNonD, isiD, tyOf, intPart, cutD, frzAll, frz1, lkD, putD, startI, outI, E.isNil, D.flat, flatL, D.nob, nobL, isL, flatO, PyD.getD', sE, encL]) (rgOk_sm (by omega) (by omega)) ⟨_, _, _, rfl⟩ ?_
    rintro j hj _ ⟨a, b, c, rfl⟩
    have h1 : ls[j]? = some (ls[j]'(by omega)) := List.getElem?_eq_getElem (by omega)
    have h2 : ss[j]? = some (ss[j]'(by omega)) := List.getElem?_eq_getElem (by omega)
    have i1 : idxL (encL F ls) (j : Int) = some (.lst ((ls[j]'(by omega)).map F.enc)) := idxL_map (f := fun ys : List F.K => D.lst (ys.map F.enc)) h1
    have i2 : idxL (ss.map F.enc) (j : Int) = some (F.enc (ss[j]'(by omega))) := idxL_map h2
    have hx := hb.each _ (List.mem_of_getElem? h1)
    have hss := hs _ (List.mem_of_getElem? h2)
    have hk := sck_ht hb (fun s hs' => (hs s hs').2) hl j (by omega)
    have ib : j * (1 + 12 * k) ≤ 6 * (1 + 12 * 10) := Nat.mul_le_mul (by omega) (by omega)
    rw [sck_succ h1 h2]
    generalize ls[j]'(by omega) = xs at *
    generalize ss[j]'(by omega) = s at *
    have LI := L_linverse (n := n + 1) hss.2 hss.1 (by omega)
    obtain ⟨_, q, b', rfl⟩ : ∃ e', evS (fns tb (n + 4)) l__law_scaled_2 (sE F ls ss ws (F.enc (sck ls ss j)) (some (false, .int j)) b c) = some (.nx e') ∧ ∃ b, e' = sE F ls ss ws (F.enc (sck ls ss j * (s⁻¹) ^ ((xs.length : Int) - 1).toNat)) (some (false, .int j)) b c := by
      refine at_rng (P := fun i e' => ∃ b, e' = sE F ls ss ws (F.enc (sck ls ss j * (s⁻¹) ^ i)) (some (false, .int j)) b c) (n := (xs.length : Int) - 1) (by simp [runFn, argsOf, startF, evS, ev, evM, keepD, seen, hid, shw, shl, sho, hid1, shl1, sho1, attrD, biD, binD, cmpD, outD, idxD, bindF, bindF.setAllF, bindT, setAll, asSeq, PyD.T.slots, wipeE, isNonD, isiD, tyOf, intPart, cutD, frzAll, frz1, lkD, putD, startI, outI, E.isNil, D.flat, flatL, D.nob, nobL, isL, flatO, PyD.getD', sE, i1]) (rgOk_sm (by omega) (by omega)) ⟨b, by rw [Semiring.pow_zero, Semiring.mul_one]⟩ ?_
      rintro i hi _ ⟨b, rfl⟩
      have hi2 : i * k ≤ 12 * 10 := Nat.mul_le_mul (by omega) lk
      have LT := L_ltimes (n := n + 1) (hk.mul (ht_pow hss.2.inv i)) hss.2.inv (by omega)
      refine ⟨_, rfl, sE F ls ss ws (F.enc (sck ls ss j * (s⁻¹) ^ (i + 1))) (some (false, .int j)) (some (false, .int i)) c, .inl ?_, _, rfl⟩
      rw [Semiring.pow_succ, ← Semiring.mul_assoc]
      simp [runFn, argsOf, startF, evS, ev, evM, keepD, seen, hid, shw, shl, sho, hid1, shl1, sho1, attrD, biD, binD, cmpD, outD, idxD, bindF, bindF.setAllF, bindT, setAll, asSeq, PyD.T.slots, wipeE, isNonD, isiD, tyOf, intPart, cutD, frzAll, frz1, lkD, putD, startI, outI, E.isNil, D.flat, flatL, D.nob, nobL, isL, flatO, PyD.getD', sE, i2, LI, LT]
    have e : ((xs.length : Int) - 1).toNat = xs.length - 1 := by omega
    rw [e] at q
    exact ⟨_, rfl, _, .inl q, _, _, _, rfl⟩
  rw [sck_full hl] at q
  have hf := sck_ht hb (fun s hs' => (hs s hs').2) hl ls.length (Nat.le_refl _)
  rw [sck_full hl] at hf
  have ib : ls.length * (1 + 12 * k) ≤ 6 * (1 + 12 * 10) := Nat.mul_le_mul (by omega) (by omega)
  have cc : ev (fns tb (n + 4)) c__law_scaled_3 (hid (sE F ls ss ws (F.enc (sca ls ss)) a b c)) = some (.lst (ws.map fun w => F.enc (sca ls ss * w))) := by
    refine lc_mp (ys := ws) (g := F.enc) (d := .lst (ws.map F.enc)) (by simp [runFn, argsOf, startF, evS, ev, evM, keepD, seen, hid, shw, shl, sho, hid1, shl1, sho1, attrD, biD, binD, cmpD, outD, idxD, bindF, bindF.setAllF, bindT, setAll, asSeq, PyD.T.slots, wipeE, isNonD, isiD, tyOf, intPart, cutD, frzAll, frz1, lkD, putD, startI, outI, E.isNil, D.flat, flatL, D.nob, nobL, isL, flatO, PyD.getD', sE]) rfl (fun w hw' => ?_) (by unfold LIM; omega)
    have LT := L_ltimes (n := n + 1) hf (hw w hw') (by omega)
    exact ⟨_, rfl, by simp [runFn, argsOf, startF, evS, ev, evM, keepD, seen, hid, shw, shl, sho, hid1, shl1, sho1, attrD, biD, binD, cmpD, outD, idxD, bindF, bindF.setAllF, bindT, setAll, asSeq, PyD.T.slots, wipeE, isNonD, isiD, tyOf, intPart, cutD, frzAll, frz1, lkD, putD, startI, outI, E.isNil, D.flat, flatL, D.nob, nobL, isL, flatO, PyD.getD', sE, LT]⟩
  have em : (ws.map fun w => sca ls ss * w).map F.enc = ws.map fun w => F.enc (sca ls ss * w) := by rw [List.map_map]; rfl
  rw [em]
  simp only [hid, hid1, sE, List.map_cons, List.map_nil] at cc q
  simp [runFn, argsOf, startF, evS, ev, evM, keepD, seen, hid, shw, shl, sho, hid1, shl1, sho1, attrD, biD, binD, cmpD, outD, idxD, bindF, bindF.setAllF, bindT, setAll, asSeq, PyD.T.slots, wipeE, isNonD, isiD, tyOf, intPart, cutD, frzAll, frz1, lkD, putD, startI, outI, E.isNil, D.flat, flatL, D.nob, nobL, isL, flatO, PyD.getD', f__law_scaled, b__law_scaled, L0, q, cc]
/-! ### what is left out -/
noncomputable def lo1 (a : F.K) (ys : List F.K) (m : F.K) (xs : List F.K) : F.K := xs.foldl (fun m v => if v ∈ ys then m else m * (a - v)) m
noncomputable def lok (ls lw : List (List F.K)) (p : List F.K) (j : Nat) : F.K := ((ls.zip (lw.zip p)).take j).foldl (fun m q => lo1 q.2.2 q.2.1 m q.1) 1
noncomputable def lof (ls lw : List (List F.K)) (p : List F.K) : F.K := (ls.zip (lw.zip p)).foldl (fun m q => lo1 q.2.2 q.2.1 m q.1) 1
theorem lok_full {lw : List (List F.K)} (h : lw.length = ls.length) (h2 : p.length = ls.length) : lok ls lw p ls.length = lof ls lw p := by
  unfold lok lof
  rw [List.take_of_length_le (by rw [List.length_zip]; omega)]
theorem lok_succ {lw : List (List F.K)} {j : Nat} {xs ys : List F.K} {a : F.K} (h1 : ls[j]? = some xs) (h2 : lw[j]? = some ys) (h3 : p[j]? = some a) : lok ls lw p (j + 1) = lo1 a ys (lok ls lw p j) xs :=
  foldl_take1 (f := fun (m : F.K) (q : List F.K × List F.K × F.K) => lo1 q.2.2 q.2.1 m q.1) (x := (xs, ys, a)) (List.getElem?_zip_eq_some.mpr ⟨h1, List.getElem?_zip_eq_some.mpr ⟨h2, h3⟩⟩)
theorem lo1_ht {a : F.K} {ys : List F.K} (ha : F.Ht h a) : ∀ {xs : List F.K} {m : F.K} {k : Nat}, (∀ x ∈ xs, F.Ht h x) → F.Ht k m → F.Ht (k + xs.length * (2 * h + 1)) (lo1 a ys m xs)
  | [], m, k, _, hm => by simpa [lo1] using hm
  | x :: xs, m, k, hx, hm => by
    unfold lo1
    rw [List.foldl_cons]
    have h1 := hx x (List.mem_cons_self ..)
    have h2 := fun y hy => hx y (List.mem_cons_of_mem _ hy)
    rw [List.length_cons, Nat.add_mul]
    by_cases c : x ∈ ys
    · rw [if_pos c]
      exact (lo1_ht (ys := ys) ha h2 hm).up (by omega)
    · rw [if_neg c]
      exact (lo1_ht (ys := ys) ha h2 (hm.mul (ha.sub h1))).up (by omega)
theorem lok_ht {lw : List (List F.K)} (hb : LsB F h ls) (hp : p.length = ls.length) (hpp : ∀ a ∈ p, F.Ht h a) (hl : lw.length = ls.length) : ∀ j, j ≤ ls.length → F.Ht (1 + j * (12 * (2 * h + 1))) (lok ls lw p j)
  | 0, _ => by
    have : lok ls lw p 0 = 1 := rfl
    rw [this]
    exact Fc.Ht.one.up (by omega)
  | j + 1, l => by
    have h1 : ls[j]? = some ls[j] := List.getElem?_eq_getElem (by omega)
    have h2 : lw[j]? = some (lw[j]'(by omega)) := List.getElem?_eq_getElem (by omega)
    have h3 : p[j]? = some (p[j]'(by omega)) := List.getElem?_eq_getElem (by omega)
    rw [lok_succ h1 h2 h3]
    have e := hb.each _ (List.mem_of_getElem? h1)
    have b : ls[j].length * (2 * h + 1) ≤ 12 * (2 * h + 1) := Nat.mul_le_mul_right _ e.1
    exact (lo1_ht (hpp _ (List.mem_of_getElem? h3)) e.2 (lok_ht hb hp hpp hl j (by omega))).up (by rw [Nat.add_mul]; omega)
def oE (F : Fc) (ls lw : List (List F.K)) (p : List F.K) (made : D) (a b : Option (Bool × D)) : FEnv := [some (false, .int F.p), some (false, .lst (encL F ls)), some (false, .lst (encL F lw)), some (false, .tup (p.map F.enc)), some (false, made), a, b]
theorem L_left_out {lw : List (List F.K)} (hb : LsB F h ls) (hp : p.length = ls.length) (hpp : ∀ a ∈ p, F.Ht h a) (hl : lw.length = ls.length) (lh : h ≤ 20) :
    fns tb (n + 6) i__law_left_out [.int F.p, .lst (encL F ls), .lst (encL F lw), .tup (p.map F.enc)] = some (F.enc (lof ls lw p)) := by
  rw [fns_succ (fn := f__law_left_out) rfl]
  have L0 := L_lint (n := n + 4) (F := F) (i := 1)
  rw [Fc.ofI_one] at L0
  have lb := hb.len
  obtain ⟨_, q, a, b, rfl⟩ : ∃ e', evS (fns tb (n + 5)) l__law_left_out_1 (oE F ls lw p (F.enc 1) none none) = some (.nx e') ∧ ∃ a b, e' = oE F ls lw p (F.enc (lok ls lw p ls.length)) a b := by
    refine at_rng (P := fun j e' => ∃ a b, e' = oE F ls lw p (F.enc (lok ls lw p j)) a b) (n := ls.length) (by simp [runFn, argsOf, startF, evS, ev, evM, keepD, seen, hid, shw, shl, sho, hid1, shl1, sho1, attrD, biD, binD, cmpD, outD, idxD, bindF, bindF.setAllF, bindT, setAll, asSeq, PyD.T.slots, wipeE, isNonD, isiD, tyOf, intPart, cutD, frzAll, frz1, lkD, putD, startI, outI, E.isNil, D.flat, flatL, D.nob, nobL, isL, flatO, PyD.getD', oE, encL]) (rgOk_sm (by omega) (by omega)) ⟨_, _, rfl⟩ ?_
    rintro j hj _ ⟨a, b, rfl⟩
    have h1 : ls[j]? = some (ls[j]'(by omega)) := List.getElem?_eq_getElem (by omega)
    have h2 : lw[j]? = some (lw[j]'(by omega)) := List.getElem?_eq_getElem (by omega)
    have h3 : p[j]? = some (p[j]'(by omega)) := List.getElem?_eq_getElem (by omega)
    have i1 : idxL (encL F ls) (j : Int) = some (.lst ((ls[j]'(by omega)).map F.enc)) := idxL_map (f := fun ys : List F.K => D.lst (ys.map F.enc)) h1
    have i2 : idxL (encL F lw) (j : Int) = some (.lst ((lw[j]'(by omega)).map F.enc)) := idxL_map (f := fun ys : List F.K => D.lst (ys.map F.enc)) h2
    have i3 : idxL (p.map F.enc) (j : Int) = some (F.enc (p[j]'(by omega))) := idxL_map h3
    have hx := hb.each _ (List.mem_of_getElem? h1)
    have ha := hpp _ (List.mem_of_getElem? h3)
    have hk := lok_ht hb hp hpp hl j (by omega)
    have ib : j * (12 * (2 * h + 1)) ≤ 6 * (12 * 41) := Nat.mul_le_mul (by omega) (by omega)
    rw [lok_succ h1 h2 h3]
    generalize ls[j]'(by omega) = xs at *
    generalize lw[j]'(by omega) = ys at *
    generalize p[j]'(by omega) = c at *
    obtain ⟨_, q, b', rfl⟩ : ∃ e', evS (fns tb (n + 5)) l__law_left_out_2 (oE F ls lw p (F.enc (lok ls lw p j)) (some (false, .int j)) b) = some (.nx e') ∧ ∃ b, e' = oE F ls lw p (F.enc (lo1 c ys (lok ls lw p j) (xs.take xs.length))) (some (false, .int j)) b := by
      refine at_go (P := fun i e' => ∃ b, e' = oE F ls lw p (F.enc (lo1 c ys (lok ls lw p j) (xs.take i))) (some (false, .int j)) b) (ys := xs) (g := F.enc) (for_idx (d := .lst (xs.map F.enc)) (by simp [runFn, argsOf, startF, evS, ev, evM, keepD, seen, hid, shw, shl, sho, hid1, shl1, sho1, attrD, biD, binD, cmpD, outD, idxD, bindF, bindF.setAllF, bindT, setAll, asSeq, PyD.T.slots, wipeE, isNonD, isiD, tyOf, intPart, cutD, frzAll, frz1, lkD, putD, startI, outI, E.isNil, D.flat, flatL, D.nob, nobL, isL, flatO, PyD.getD', oE, i1]) rfl) ⟨b, rfl⟩ ?_
      rintro i v hi _ ⟨b, rfl⟩
      have hv := hx.2 v (List.mem_of_getElem? hi)
      have hil := (List.getElem?_eq_some_iff.mp hi).1
      have e : lo1 c ys (lok ls lw p j) (xs.take (i + 1)) = if v ∈ ys then lo1 c ys (lok ls lw p j) (xs.take i) else lo1 c ys (lok ls lw p j) (xs.take i) * (c - v) := foldl_take1 (f := fun m v => if v ∈ ys then m else m * (c - v)) hi
      have q1 := inSeq_enc (x := v) (xs := ys)
      rw [e]
      by_cases m : v ∈ ys
      · rw [decide_eq_true m] at q1
        rw [if_pos m]
        exact ⟨_, rfl, oE F ls lw p (F.enc (lo1 c ys (lok ls lw p j) (xs.take i))) (some (false, .int j)) (some (false, F.enc v)), .inl (by simp [runFn, argsOf, startF, evS, ev, evM, keepD, seen, hid, shw, shl, sho, hid1, shl1, sho1, attrD, biD, binD, cmpD, outD, idxD, bindF, bindF.setAllF, bindT, setAll, asSeq, PyD.T.slots, wipeE, isNonD, isiD, tyOf, intPart, cutD, frzAll, frz1, lkD, putD, startI, outI, E.isNil, D.flat, flatL, D.nob, nobL, isL, flatO, PyD.getD', oE, i2, q1]), _, rfl⟩
      · rw [decide_eq_false m] at q1
        rw [if_neg m]
        have hm := lo1_ht (ys := ys) (xs := xs.take i) ha (fun y hy => hx.2 y (List.mem_of_mem_take hy)) hk
        have ib2 : (xs.take i).length * (2 * h + 1) ≤ 12 * 41 := Nat.mul_le_mul (by rw [List.length_take]; omega) (by omega)
        have LG := L_lgap (n := n + 1) ha hv (by omega)
        have LT := L_ltimes (n := n + 2) hm (ha.sub hv) (by omega)
        exact ⟨_, rfl, oE F ls lw p (F.enc (lo1 c ys (lok ls lw p j) (xs.take i) * (c - v))) (some (false, .int j)) (some (false, F.enc v)), .inl (by simp [runFn, argsOf, startF, evS, ev, evM, keepD, seen, hid, shw, shl, sho, hid1, shl1, sho1, attrD, biD, binD, cmpD, outD, idxD, bindF, bindF.setAllF, bindT, setAll, asSeq, PyD.T.slots, wipeE, isNonD, isiD, tyOf, intPart, cutD, frzAll, frz1, lkD, putD, startI, outI, E.isNil, D.flat, flatL, D.nob, nobL, isL, flatO, PyD.getD', oE, i2, i3, q1, LG, LT]), _, rfl⟩
    rw [List.take_length] at q
    exact ⟨_, rfl, _, .inl q, _, _, rfl⟩
  rw [lok_full hl hp] at q
  simp only [oE] at q
  simp [runFn, argsOf, startF, evS, ev, evM, keepD, seen, hid, shw, shl, sho, hid1, shl1, sho1, attrD, biD, binD, cmpD, outD, idxD, bindF, bindF.setAllF, bindT, setAll, asSeq, PyD.T.slots, wipeE, isNonD, isiD, tyOf, intPart, cutD, frzAll, frz1, lkD, putD, startI, outI, E.isNil, D.flat, flatL, D.nob, nobL, isL, flatO, PyD.getD', f__law_left_out, b__law_left_out, L0, q]
/-! ### products of two rows -/
theorem L_products {us vs : List F.K} (hu : ∀ u ∈ us, F.Ht h u) (hv : ∀ v ∈ vs, F.Ht k v) (l : h + k < 9000) (l1 : us.length ≤ 100) (l2 : vs.length ≤ 100) :
    fns tb (n + 4) i__law_products [.int F.p, .lst (us.map F.enc), .lst (vs.map F.enc)] = some (.lst ((us.flatMap fun u => vs.map fun v => u * v).map F.enc)) := by
  rw [fns_succ (fn := f__law_products) rfl]
  obtain ⟨_, q, a, rfl⟩ : ∃ e', evS (fns tb (n + 3)) l__law_products_1 [some (false, .int F.p), some (false, .lst (us.map F.enc)), some (false, .lst (vs.map F.enc)), some (false, .lst []), none, none] = some (.nx e') ∧ ∃ a, e' = [some (false, .int F.p), some (false, .lst (us.map F.enc)), some (false, .lst (vs.map F.enc)), some (false, .lst (((us.take us.length).flatMap fun u => vs.map fun v => u * v).map F.enc)), a, none] := by
    refine at_go (P := fun j e' => ∃ a, e' = [some (false, .int F.p), some (false, .lst (us.map F.enc)), some (false, .lst (vs.map F.enc)), some (false, .lst (((us.take j).flatMap fun u => vs.map fun v => u * v).map F.enc)), a, none]) (ys := us) (g := F.enc) (for_var (d := .lst (us.map F.enc)) (by simp [runFn, argsOf, startF, evS, ev, evM, keepD, seen, hid, shw, shl, sho, hid1, shl1, sho1, attrD, biD, binD, cmpD, outD, idxD, bindF, bindF.setAllF, bindT, setAll, asSeq, PyD.T.slots, wipeE, isNonD, isiD, tyOf, intPart, cutD, frzAll, frz1, lkD, putD, startI, outI, E.isNil, D.flat, flatL, D.nob, nobL, isL, flatO, PyD.getD']) rfl) ⟨none, rfl⟩ ?_
    rintro j u hj _ ⟨a, rfl⟩
    have hu1 := hu u (List.mem_of_getElem? hj)
    have hil := (List.getElem?_eq_some_iff.mp hj).1
    have e : ((us.take (j + 1)).flatMap fun u => vs.map fun v => u * v).map F.enc = ((us.take j).flatMap fun u => vs.map fun v => u * v).map F.enc ++ vs.map fun v => F.enc (u * v) := by
      rw [List.take_add_one, hj, List.flatMap_append, List.map_append]
      simp
    have ln : (((us.take j).flatMap fun u => vs.map fun v => u * v).map F.enc).length + vs.length ≤ LIM := by
      rw [List.length_map, len_flatMap (m := vs.length) (fun _ _ => by simp), List.length_take]
      have : min j us.length * vs.length ≤ 100 * 100 := Nat.mul_le_mul (by omega) l2
      unfold LIM; omega
    rw [e]
    generalize ((us.take j).flatMap fun u => vs.map fun v => u * v).map F.enc = W at *
    have c : ev (fns tb (n + 3)) c__law_products_2 (hid [some (false, .int F.p), some (false, .lst (us.map F.enc)), some (false, .lst (vs.map F.enc)), some (false, .lst W), some (false, F.enc u), none]) = some (.lst (vs.map fun v => F.enc (u * v))) := by
      refine lc_mp (ys := vs) (g := F.enc) (d := .lst (vs.map F.enc)) (by simp [runFn, argsOf, startF, evS, ev, evM, keepD, seen, hid, shw, shl, sho, hid1, shl1, sho1, attrD, biD, binD, cmpD, outD, idxD, bindF, bindF.setAllF, bindT, setAll, asSeq, PyD.T.slots, wipeE, isNonD, isiD, tyOf, intPart, cutD, frzAll, frz1, lkD, putD, startI, outI, E.isNil, D.flat, flatL, D.nob, nobL, isL, flatO, PyD.getD']) rfl (fun v hv1 => ?_) (by unfold LIM; omega)
      have LT := L_ltimes (n := n) hu1 (hv v hv1) l
      exact ⟨_, rfl, by simp [runFn, argsOf, startF, evS, ev, evM, keepD, seen, hid, shw, shl, sho, hid1, shl1, sho1, attrD, biD, binD, cmpD, outD, idxD, bindF, bindF.setAllF, bindT, setAll, asSeq, PyD.T.slots, wipeE, isNonD, isiD, tyOf, intPart, cutD, frzAll, frz1, lkD, putD, startI, outI, E.isNil, D.flat, flatL, D.nob, nobL, isL, flatO, PyD.getD', LT]⟩
    simp only [hid, hid1, List.map_cons, List.map_nil] at c
    refine ⟨_, rfl, [some (false, .int F.p), some (false, .lst (us.map F.enc)), some (false, .lst (vs.map F.enc)), some (false, .lst (W ++ vs.map fun v => F.enc (u * v))), some (false, F.enc u), none], .inl ?_, _, rfl⟩
    simp [runFn, argsOf, startF, evS, ev, evM, keepD, seen, hid, shw, shl, sho, hid1, shl1, sho1, attrD, biD, binD, cmpD, outD, idxD, bindF, bindF.setAllF, bindT, setAll, asSeq, PyD.T.slots, wipeE, isNonD, isiD, tyOf, intPart, cutD, frzAll, frz1, lkD, putD, startI, outI, E.isNil, D.flat, flatL, D.nob, nobL, isL, flatO, PyD.getD', c, ln]
  rw [List.take_length] at q
  simp [runFn, argsOf, startF, evS, ev, evM, keepD, seen, hid, shw, shl, sho, hid1, shl1, sho1, attrD, biD, binD, cmpD, outD, idxD, bindF, bindF.setAllF, bindT, setAll, asSeq, PyD.T.slots, wipeE, isNonD, isiD, tyOf, intPart, cutD, frzAll, frz1, lkD, putD, startI, outI, E.isNil, D.flat, flatL, D.nob, nobL, isL, flatO, PyD.getD', f__law_products, b__law_products, q]
/-! ### moved lists -/
noncomputable def mvl (ls : List (List F.K)) (ss ts : List F.K) : List (List F.K) := (ls.zip (ss.zip ts)).map fun q => q.1.map fun v => q.2.1 * v + q.2.2
theorem mvl_at {ss ts : List F.K} {j : Nat} {xs : List F.K} {s t : F.K} (h1 : ls[j]? = some xs) (h2 : ss[j]? = some s) (h3 : ts[j]? = some t) : (mvl ls ss ts)[j]? = some (xs.map fun v => s * v + t) := by
  unfold mvl
  have e : (ls.zip (ss.zip ts))[j]? = some (xs, s, t) := List.getElem?_zip_eq_some.mpr ⟨h1, List.getElem?_zip_eq_some.mpr ⟨h2, h3⟩⟩
  rw [List.getElem?_map, e]
  rfl
theorem mvl_len {ss ts : List F.K} (h1 : ss.length = ls.length) (h2 : ts.length = ls.length) : (mvl ls ss ts).length = ls.length := by
  unfold mvl
  rw [List.length_map, List.length_zip, List.length_zip]; omega
theorem L_moved_lists {ss ts : List F.K} (hb : LsB F h ls) (hs : ∀ s ∈ ss, F.Ht k s) (ht : ∀ t ∈ ts, F.Ht k t) (h1 : ss.length = ls.length) (h2 : ts.length = ls.length) (l : h ≤ 20) (l2 : k ≤ 20) :
    fns tb (n + 4) i__law_moved_lists [.int F.p, .lst (encL F ls), .lst (ss.map F.enc), .lst (ts.map F.enc)] = some (.lst (encL F (mvl ls ss ts))) := by
  rw [fns_succ (fn := f__law_moved_lists) rfl]
  have lb := hb.len
  obtain ⟨_, q, a, rfl⟩ : ∃ e', evS (fns tb (n + 3)) l__law_moved_lists_1 [some (false, .int F.p), some (false, .lst (encL F ls)), some (false, .lst (ss.map F.enc)), some (false, .lst (ts.map F.enc)), some (true, .lst []), none, none] = some (.nx e') ∧ ∃ a, e' = [some (false, .int F.p), some (false, .lst (encL F ls)), some (false, .lst (ss.map F.enc)), some (false, .lst (ts.map F.enc)), some (true, .lst (encL F ((mvl ls ss ts).take ls.length))), a, none] := by
    refine at_rng (P := fun j e' => ∃ a, e' = [some (false, .int F.p), some (false, .lst (encL F ls)), some (false, .lst (ss.map F.enc)), some (false, .lst (ts.map F.enc)), some (true, .lst (encL F ((mvl ls ss ts).take j))), a, none]) (n := ls.length) (by simp [runFn, argsOf, startF, evS, ev, evM, keepD, seen, hid, shw, shl, sho, hid1, shl1, sho1, attrD, biD, binD, cmpD, outD, idxD, bindF, bindF.setAllF, bindT, setAll, asSeq, PyD.T.slots, wipeE, isNonD, isiD, tyOf, intPart, cutD, frzAll, frz1, lkD, putD, startI, outI, E.isNil, D.flat, flatL, D.nob, nobL, isL, flatO, PyD.getD', encL]) (rgOk_sm (by omega) (by omega)) ⟨none, rfl⟩ ?_
    rintro j hj _ ⟨a, rfl⟩
    have g1 : ls[j]? = some (ls[j]'(by omega)) := List.getElem?_eq_getElem (by omega)
    have g2 : ss[j]? = some (ss[j]'(by omega)) := List.getElem?_eq_getElem (by omega)
    have g3 : ts[j]? = some (ts[j]'(by omega)) := List.getElem?_eq_getElem (by omega)
    have i1 : idxL (encL F ls) (j : Int) = some (.lst ((ls[j]'(by omega)).map F.enc)) := idxL_map (f := fun ys : List F.K => D.lst (ys.map F.enc)) g1
    have i2 : idxL (ss.map F.enc) (j : Int) = some (F.enc (ss[j]'(by omega))) := idxL_map g2
    have i3 : idxL (ts.map F.enc) (j : Int) = some (F.enc (ts[j]'(by omega))) := idxL_map g3
    have hx := hb.each _ (List.mem_of_getElem? g1)
    have hs1 := hs _ (List.mem_of_getElem? g2)
    have ht1 := ht _ (List.mem_of_getElem? g3)
    have em : encL F ((mvl ls ss ts).take (j + 1)) = encL F ((mvl ls ss ts).take j) ++ [.lst ((ls[j]'(by omega)).map fun v => F.enc (ss[j]'(by omega) * v + ts[j]'(by omega)))] := by
      rw [List.take_add_one, mvl_at g1 g2 g3]
      simp [encL]
    rw [em]
    generalize ls[j]'(by omega) = xs at *
    generalize ss[j]'(by omega) = s at *
    generalize ts[j]'(by omega) = t at *
    have hL : (encL F ((mvl ls ss ts).take j)).length < LIM := by
      rw [encL, List.length_map, List.length_take, mvl_len h1 h2]; unfold LIM; omega
    generalize encL F ((mvl ls ss ts).take j) = W at *
    have c : ev (fns tb (n + 3)) c__law_moved_lists_2 (hid [some (false, .int F.p), some (false, .lst (encL F ls)), some (false, .lst (ss.map F.enc)), some (false, .lst (ts.map F.enc)), some (true, .lst W), some (false, .int j), none]) = some (.lst (xs.map fun v => F.enc (s * v + t))) := by
      refine lc_mp (ys := xs) (g := F.enc) (d := .lst (xs.map F.enc)) (by simp [runFn, argsOf, startF, evS, ev, evM, keepD, seen, hid, shw, shl, sho, hid1, shl1, sho1, attrD, biD, binD, cmpD, outD, idxD, bindF, bindF.setAllF, bindT, setAll, asSeq, PyD.T.slots, wipeE, isNonD, isiD, tyOf, intPart, cutD, frzAll, frz1, lkD, putD, startI, outI, E.isNil, D.flat, flatL, D.nob, nobL, isL, flatO, PyD.getD', i1]) rfl (fun v hv1 => ?_) (by have := hx.1; unfold LIM; omega)
      have LT := L_ltimes (n := n) hs1 (hx.2 v hv1) (by omega)
      have LS := L_lsum (n := n) (hs1.mul (hx.2 v hv1)) ht1 (by omega)
      exact ⟨_, rfl, by simp [runFn, argsOf, startF, evS, ev, evM, keepD, seen, hid, shw, shl, sho, hid1, shl1, sho1, attrD, biD, binD, cmpD, outD, idxD, bindF, bindF.setAllF, bindT, setAll, asSeq, PyD.T.slots, wipeE, isNonD, isiD, tyOf, intPart, cutD, frzAll, frz1, lkD, putD, startI, outI, E.isNil, D.flat, flatL, D.nob, nobL, isL, flatO, PyD.getD', i2, i3, LT, LS]⟩
    simp only [hid, hid1, List.map_cons, List.map_nil] at c
    refine ⟨_, rfl, [some (false, .int F.p), some (false, .lst (encL F ls)), some (false, .lst (ss.map F.enc)), some (false, .lst (ts.map F.enc)), some (true, .lst (W ++ [.lst (xs.map fun v => F.enc (s * v + t))])), some (false, .int j), none], .inl ?_, _, rfl⟩
    simp [runFn, argsOf, startF, evS, ev, evM, keepD, seen, hid, shw, shl, sho, hid1, shl1, sho1, attrD, biD, binD, cmpD, outD, idxD, bindF, bindF.setAllF, bindT, setAll, asSeq, PyD.T.slots, wipeE, isNonD, isiD, tyOf, intPart, cutD, frzAll, frz1, lkD, putD, startI, outI, E.isNil, D.flat, flatL, D.nob, nobL, isL, flatO, PyD.getD', c, hL]
  rw [List.take_of_length_le (by rw [mvl_len h1 h2]; omega)] at q
  simp [runFn, argsOf, startF, evS, ev, evM, keepD, seen, hid, shw, shl, sho, hid1, shl1, sho1, attrD, biD, binD, cmpD, outD, idxD, bindF, bindF.setAllF, bindT, setAll, asSeq, PyD.T.slots, wipeE, isNonD, isiD, tyOf, intPart, cutD, frzAll, frz1, lkD, putD, startI, outI, E.isNil, D.flat, flatL, D.nob, nobL, isL, flatO, PyD.getD', f__law_moved_lists, b__law_moved_lists, q]
end
end PyD

namespace PyD
open PySem Lean.Grind
section
variable {F : Fc} {h k n H : Nat} {ls : List (List F.K)} {p : List F.K} {P : List Int}
/-! ### a ranking -/
theorem ixn_of {m : Nat} {i : Nat} (h : i < m) : ixN m (i : Int) = some i := by
  unfold ixN
  rw [if_pos (by omega), if_pos (by omega), Int.toNat_natCast]
theorem L_ranking (hP : Pool P) {at_ : Int} {m : Nat} (h0 : 0 ≤ at_) (h1 : at_ + m ≤ P.length) (hm : m ≤ 100) : ∃ rk : List Nat, fns tb (n + 1) i__law_ranking [.lst (P.map .int), .int at_, .int (m : Nat)] = some (.lst (rk.map fun k : Nat => D.int (k : Int))) ∧ rk.Perm (List.range m) := by
  rw [fns_succ (fn := f__law_ranking) rfl]
  have g : rgOk (m : Int) = true := rgOk_sm (by omega) (by omega)
  have r : limL (rangeD 0 (m : Nat)) = some (.lst (rangeD 0 (m : Nat))) := limL_of (by rw [range_len]; unfold LIM; omega)
  obtain ⟨_, q, L, N, w, rfl, q1, q2⟩ : ∃ e', evS (fns tb n) l__law_ranking_1 [some (false, .lst (P.map .int)), some (false, .int at_), some (false, .int (m : Nat)), some (true, .lst (rangeD 0 (m : Nat))), some (true, .lst []), none] = some (.nx e') ∧ ∃ (L N : List Nat) (w : Option (Bool × D)), e' = [some (false, .lst (P.map .int)), some (false, .int at_), some (false, .int (m : Nat)), some (true, .lst (L.map fun k : Nat => D.int (k : Int))), some (true, .lst (N.map fun k : Nat => D.int (k : Int))), w] ∧ (N ++ L).Perm (List.range m) ∧ N.length = (m : Int).toNat := by
    refine at_rng (P := fun j e' => ∃ (L N : List Nat) (w : Option (Bool × D)), e' = [some (false, .lst (P.map .int)), some (false, .int at_), some (false, .int (m : Nat)), some (true, .lst (L.map fun k : Nat => D.int (k : Int))), some (true, .lst (N.map fun k : Nat => D.int (k : Int))), w] ∧ (N ++ L).Perm (List.range m) ∧ N.length = j) (n := (m : Nat)) (by simp [runFn, argsOf, startF, evS, ev, evM, keepD, seen, hid, shw, shl, sho, hid1, shl1, sho1, attrD, biD, binD, cmpD, outD, idxD, bindF, bindF.setAllF, bindT, setAll, asSeq, PyD.T.slots, wipeE, isNonD, isiD, tyOf, intPart, cutD, frzAll, frz1, lkD, putD, startI, outI, E.isNil, D.flat, flatL, D.nob, nobL, isL, flatO, PyD.getD']) g ⟨List.range m, [], _, by rw [rangeD0]; rfl, .refl _, rfl⟩ ?_
    rintro j hj _ ⟨L, N, w, rfl, q1, q2⟩
    have ll := q1.length_eq
    rw [List.length_append, List.length_range] at ll
    have lp : 0 < (L.length : Int) := by omega
    obtain ⟨v, iv, v0, v1⟩ := pool_at hP (i := at_ + j) (by omega) (by omega)
    obtain ⟨e1, e2⟩ := emod_small (a := v) lp
    obtain ⟨i, hi⟩ : ∃ i : Nat, v % (L.length : Int) = i := ⟨(v % (L.length : Int)).toNat, by omega⟩
    have il : i < L.length := by omega
    have ix := ixn_of il
    have c1 : N.length < LIM ∧ L.length ≤ LIM := by unfold LIM; omega
    refine ⟨_, rfl, [some (false, .lst (P.map .int)), some (false, .int at_), some (false, .int (m : Nat)), some (true, .lst ((L.eraseIdx i).map fun k : Nat => D.int (k : Int))), some (true, .lst ((N ++ [L[i]]).map fun k : Nat => D.int (k : Int))), some (false, .int j)], .inl ?_, _, _, _, rfl, ?_, by simp; omega⟩
    · have lp2 : 0 < L.length := by omega
      simp [runFn, argsOf, startF, evS, ev, evM, keepD, seen, hid, shw, shl, sho, hid1, shl1, sho1, attrD, biD, binD, cmpD, outD, idxD, bindF, bindF.setAllF, bindT, setAll, asSeq, PyD.T.slots, wipeE, isNonD, isiD, tyOf, intPart, cutD, frzAll, frz1, lkD, putD, startI, outI, E.isNil, D.flat, flatL, D.nob, nobL, isL, flatO, PyD.getD', iv, lp2, hi, ix, il, c1, erase_map]
    · refine List.Perm.trans ?_ q1
      rw [List.append_assoc]
      exact List.Perm.append_left N (erase_perm il)
  have lq := q1.length_eq
  rw [List.length_append, List.length_range] at lq
  have lz : L = [] := List.eq_nil_of_length_eq_zero (by omega)
  subst lz
  rw [List.append_nil] at q1
  refine ⟨N, ?_, q1⟩
  have e1 : evS (fns tb n) (.asg 3 (.lrng (.rng1 (.var 2))) { own := true }) [some (false, .lst (P.map .int)), some (false, .int at_), some (false, .int (m : Nat)), none, none, none] = some (.nx [some (false, .lst (P.map .int)), some (false, .int at_), some (false, .int (m : Nat)), some (true, .lst (rangeD 0 (m : Nat))), none, none]) := by
    refine asg_of (m := { own := true }) (i := 3) ?_ rfl
    show (ev (fns tb n) (.rng1 (.var 2)) _).bind _ = _
    rw [ev_rng1 (n := (m : Nat)) (by simp [runFn, argsOf, startF, evS, ev, evM, keepD, seen, hid, shw, shl, sho, hid1, shl1, sho1, attrD, biD, binD, cmpD, outD, idxD, bindF, bindF.setAllF, bindT, setAll, asSeq, PyD.T.slots, wipeE, isNonD, isiD, tyOf, intPart, cutD, frzAll, frz1, lkD, putD, startI, outI, E.isNil, D.flat, flatL, D.nob, nobL, isL, flatO, PyD.getD']) g]
    exact r
  have ru : runFn (fns tb n) f__law_ranking [.lst (P.map .int), .int at_, .int (m : Nat)] = outD false (evS (fns tb n) b__law_ranking [some (false, .lst (P.map .int)), some (false, .int at_), some (false, .int (m : Nat)), none, none, none]) := rfl
  rw [ru]
  refine Eq.trans (congrArg (outD false) (?_ : _ = some (Out.rt false (.lst (N.map fun k : Nat => D.int (k : Int)))))) rfl
  refine (seq_nx e1).trans ?_
  refine (seq_nx (e := [some (false, .lst (P.map .int)), some (false, .int at_), some (false, .int (m : Nat)), some (true, .lst (rangeD 0 (m : Nat))), some (true, .lst []), none]) (by simp [runFn, argsOf, startF, evS, ev, evM, keepD, seen, hid, shw, shl, sho, hid1, shl1, sho1, attrD, biD, binD, cmpD, outD, idxD, bindF, bindF.setAllF, bindT, setAll, asSeq, PyD.T.slots, wipeE, isNonD, isiD, tyOf, intPart, cutD, frzAll, frz1, lkD, putD, startI, outI, E.isNil, D.flat, flatL, D.nob, nobL, isL, flatO, PyD.getD'])).trans ?_
  refine (seq_nx q).trans ?_
  simp [runFn, argsOf, startF, evS, ev, evM, keepD, seen, hid, shw, shl, sho, hid1, shl1, sho1, attrD, biD, binD, cmpD, outD, idxD, bindF, bindF.setAllF, bindT, setAll, asSeq, PyD.T.slots, wipeE, isNonD, isiD, tyOf, intPart, cutD, frzAll, frz1, lkD, putD, startI, outI, E.isNil, D.flat, flatL, D.nob, nobL, isL, flatO, PyD.getD']
/-! ### lesser lists -/
/-- ys holds some of the items of xs -/
def Few (xs ys : List F.K) : Prop := 1 ≤ ys.length ∧ ∃ r, (ys ++ r).Perm xs
inductive FewL : List (List F.K) → List (List F.K) → Prop
  | nil : FewL [] []
  | snoc {ls lw : List (List F.K)} {xs ys : List F.K} : FewL ls lw → Few xs ys → FewL (ls ++ [xs]) (lw ++ [ys])
theorem FewL.len {ls lw : List (List F.K)} (h : FewL ls lw) : lw.length = ls.length := by
  induction h with
  | nil => rfl
  | snoc _ _ ih => simp [ih]
theorem L_lesser (hP : Pool P) (hb : LsB F h ls) (h1 : ∀ xs ∈ ls, 1 ≤ xs.length) {at_ : Int} (h0 : 0 ≤ at_) (hl : at_ + 6 * ls.length + 14 ≤ P.length) :
    ∃ lw : List (List F.K), fns tb (n + 2) i__law_lesser [.lst (P.map .int), .int at_, .lst (encL F ls)] = some (.lst (encL F lw)) ∧ FewL ls lw := by
  rw [fns_succ (fn := f__law_lesser) rfl]
  have lb := hb.len
  obtain ⟨_, q, lw, a, b, c, d, rfl, q1⟩ : ∃ e', evS (fns tb (n + 1)) l__law_lesser_1 [some (false, .lst (P.map .int)), some (false, .int at_), some (false, .lst (encL F ls)), some (true, .lst []), none, none, none, none] = some (.nx e') ∧ ∃ (lw : List (List F.K)) (a b c d : Option (Bool × D)), e' = [some (false, .lst (P.map .int)), some (false, .int at_), some (false, .lst (encL F ls)), some (true, .lst (encL F lw)), a, b, c, d] ∧ FewL (ls.take (ls.length : Int).toNat) lw := by
    refine at_rng (P := fun j e' => ∃ (lw : List (List F.K)) (a b c d : Option (Bool × D)), e' = [some (false, .lst (P.map .int)), some (false, .int at_), some (false, .lst (encL F ls)), some (true, .lst (encL F lw)), a, b, c, d] ∧ FewL (ls.take j) lw) (n := ls.length) (by simp [runFn, argsOf, startF, evS, ev, evM, keepD, seen, hid, shw, shl, sho, hid1, shl1, sho1, attrD, biD, binD, cmpD, outD, idxD, bindF, bindF.setAllF, bindT, setAll, asSeq, PyD.T.slots, wipeE, isNonD, isiD, tyOf, intPart, cutD, frzAll, frz1, lkD, putD, startI, outI, E.isNil, D.flat, flatL, D.nob, nobL, isL, flatO, PyD.getD', encL]) (rgOk_sm (by omega) (by omega)) ⟨[], _, _, _, _, rfl, .nil⟩ ?_
    rintro j hj _ ⟨lw, a, b, c, d, rfl, q1⟩
    have g1 : ls[j]? = some (ls[j]'(by omega)) := List.getElem?_eq_getElem (by omega)
    have i1 : idxL (encL F ls) (j : Int) = some (.lst ((ls[j]'(by omega)).map F.enc)) := idxL_map (f := fun ys : List F.K => D.lst (ys.map F.enc)) g1
    have hx := hb.each _ (List.mem_of_getElem? g1)
    have hx1 := h1 _ (List.mem_of_getElem? g1)
    have et : ls.take (j + 1) = ls.take j ++ [ls[j]'(by omega)] := by rw [List.take_add_one, g1]; rfl
    have hlw := q1.len
    rw [List.length_take] at hlw
    rw [et]
    generalize ls[j]'(by omega) = xs at *
    have lp : 0 < (xs.length : Int) := by omega
    obtain ⟨u, du, u0, u1⟩ := L_draw (n := n) (at_ := at_ + 6 * (j : Nat)) (many := xs.length) hP (by omega) (by omega) lp
    have m6 : mulOk 6 (j : Int) = true := mulOk_l (by omega) (by omega)
    obtain ⟨_, q, N, L, b', rfl, q3, q4⟩ : ∃ e', evS (fns tb (n + 1)) l__law_lesser_2 [some (false, .lst (P.map .int)), some (false, .int at_), some (false, .lst (encL F ls)), some (true, .lst (encL F lw)), some (false, .int j), b, some (true, .lst (xs.map F.enc)), some (true, .lst [])] = some (.nx e') ∧ ∃ (N L : List F.K) (b : Option (Bool × D)), e' = [some (false, .lst (P.map .int)), some (false, .int at_), some (false, .lst (encL F ls)), some (true, .lst (encL F lw)), some (false, .int j), b, some (true, .lst (L.map F.enc)), some (true, .lst (N.map F.enc))] ∧ (N ++ L).Perm xs ∧ N.length = (1 + u).toNat := by
      refine at_rng (P := fun i e' => ∃ (N L : List F.K) (b : Option (Bool × D)), e' = [some (false, .lst (P.map .int)), some (false, .int at_), some (false, .lst (encL F ls)), some (true, .lst (encL F lw)), some (false, .int j), b, some (true, .lst (L.map F.enc)), some (true, .lst (N.map F.enc))] ∧ (N ++ L).Perm xs ∧ N.length = i) (n := 1 + u) (by simp [runFn, argsOf, startF, evS, ev, evM, keepD, seen, hid, shw, shl, sho, hid1, shl1, sho1, attrD, biD, binD, cmpD, outD, idxD, bindF, bindF.setAllF, bindT, setAll, asSeq, PyD.T.slots, wipeE, isNonD, isiD, tyOf, intPart, cutD, frzAll, frz1, lkD, putD, startI, outI, E.isNil, D.flat, flatL, D.nob, nobL, isL, flatO, PyD.getD', i1, m6, du]) (rgOk_sm (by omega) (by omega)) ⟨[], xs, _, rfl, .refl _, rfl⟩ ?_
      rintro i hi _ ⟨N, L, b, rfl, q3, q4⟩
      have ll := q3.length_eq
      rw [List.length_append] at ll
      have lp : 0 < (L.length : Int) := by omega
      obtain ⟨v, dv, v0, v1⟩ := L_draw (n := n) (at_ := at_ + 6 * (j : Nat) + 1 + i) (many := L.length) hP (by omega) (by omega) lp
      obtain ⟨t, rfl⟩ : ∃ t : Nat, v = t := ⟨v.toNat, by omega⟩
      have il : t < L.length := by omega
      have ix := ixn_of il
      have c1 : N.length < LIM ∧ L.length ≤ LIM := by unfold LIM; omega
      refine ⟨_, rfl, [some (false, .lst (P.map .int)), some (false, .int at_), some (false, .lst (encL F ls)), some (true, .lst (encL F lw)), some (false, .int j), some (false, .int i), some (true, .lst ((L.eraseIdx t).map F.enc)), some (true, .lst ((N ++ [L[t]]).map F.enc))], .inl ?_, _, _, _, rfl, ?_, by simp; omega⟩
      · simp [runFn, argsOf, startF, evS, ev, evM, keepD, seen, hid, shw, shl, sho, hid1, shl1, sho1, attrD, biD, binD, cmpD, outD, idxD, bindF, bindF.setAllF, bindT, setAll, asSeq, PyD.T.slots, wipeE, isNonD, isiD, tyOf, intPart, cutD, frzAll, frz1, lkD, putD, startI, outI, E.isNil, D.flat, flatL, D.nob, nobL, isL, flatO, PyD.getD', m6, dv, ix, il, c1, erase_map]
      · refine List.Perm.trans ?_ q3
        rw [List.append_assoc]
        exact List.Perm.append_left N (erase_perm il)
    have hL : (encL F lw).length < LIM := by rw [encL, List.length_map]; unfold LIM; omega
    refine ⟨_, rfl, [some (false, .lst (P.map .int)), some (false, .int at_), some (false, .lst (encL F ls)), some (true, .lst (encL F (lw ++ [N]))), some (false, .int j), b', some (true, .lst (L.map F.enc)), some (false, .lst (N.map F.enc))], .inl ?_, _, _, _, _, _, rfl, .snoc q1 ⟨by omega, L, q3⟩⟩
    refine (seq_nx (e := [some (false, .lst (P.map .int)), some (false, .int at_), some (false, .lst (encL F ls)), some (true, .lst (encL F lw)), some (false, .int j), b, some (true, .lst (xs.map F.enc)), some (true, .lst [])]) (by simp [runFn, argsOf, startF, evS, ev, evM, keepD, seen, hid, shw, shl, sho, hid1, shl1, sho1, attrD, biD, binD, cmpD, outD, idxD, bindF, bindF.setAllF, bindT, setAll, asSeq, PyD.T.slots, wipeE, isNonD, isiD, tyOf, intPart, cutD, frzAll, frz1, lkD, putD, startI, outI, E.isNil, D.flat, flatL, D.nob, nobL, isL, flatO, PyD.getD', i1])).trans ?_
    refine (seq_nx q).trans ?_
    have e : encL F (lw ++ [N]) = encL F lw ++ [.lst (N.map F.enc)] := by simp [encL]
    rw [e]
    generalize encL F lw = W at *
    simp [runFn, argsOf, startF, evS, ev, evM, keepD, seen, hid, shw, shl, sho, hid1, shl1, sho1, attrD, biD, binD, cmpD, outD, idxD, bindF, bindF.setAllF, bindT, setAll, asSeq, PyD.T.slots, wipeE, isNonD, isiD, tyOf, intPart, cutD, frzAll, frz1, lkD, putD, startI, outI, E.isNil, D.flat, flatL, D.nob, nobL, isL, flatO, PyD.getD', hL]
  rw [Int.toNat_natCast, List.take_length] at q1
  exact ⟨lw, by simp [runFn, argsOf, startF, evS, ev, evM, keepD, seen, hid, shw, shl, sho, hid1, shl1, sho1, attrD, biD, binD, cmpD, outD, idxD, bindF, bindF.setAllF, bindT, setAll, asSeq, PyD.T.slots, wipeE, isNonD, isiD, tyOf, intPart, cutD, frzAll, frz1, lkD, putD, startI, outI, E.isNil, D.flat, flatL, D.nob, nobL, isL, flatO, PyD.getD', f__law_lesser, b__law_lesser, q], q1⟩
end
end PyD

namespace PyD
open PySem Lean.Grind
theorem zipD3_map {α β γ : Type} {f : α → D} {g : β → D} {g' : γ → D} : ∀ {xs : List α} {ys : List β} {zs : List γ}, zipD3 (xs.map f) (ys.map g) (zs.map g') = (xs.zip (ys.zip zs)).map fun q => .tup [f q.1, g q.2.1, g' q.2.2]
  | [], _, _ => by simp [zipD3]
  | _ :: _, [], _ => by simp [zipD3]
  | _ :: _, _ :: _, [] => by simp [zipD3]
  | x :: xs, y :: ys, z :: zs => by simp [zipD3, zipD3_map]
theorem for_zip3 {Φ : Fns} {t : T} {a b c : E} {bd : S} {env : FEnv} {d : D} {xs : List D} (h : ev Φ (.zip3 a b c) (hid env) = some d) (hs : asSeq d = some xs) : evS Φ (.for_ t (.zip3 a b c) bd) env = forGo (fun x env => bindF t x env) (fun env => evS Φ bd env) xs env := by
  simp only [evS, h, Option.bind_some, hs]
section
variable {F : Fc} {h k n H : Nat} {ls : List (List F.K)} {p : List F.K}
theorem L_check_scales {ss : List F.K} (hs : ∀ s ∈ ss, s ≠ 0) : fns tb (n + 2) i_check_scales [.int F.p, .lst (ss.map F.enc)] = some .non := by
  rw [fns_succ (fn := f_check_scales) rfl]
  have L0 := L_number_of (n := n) (F := F) (i := 0)
  rw [Fc.ofI_zero] at L0
  have q := inSeq_enc (x := (0 : F.K)) (xs := ss)
  rw [decide_eq_false (fun c => hs 0 c rfl)] at q
  simp [runFn, argsOf, startF, evS, ev, evM, keepD, seen, hid, shw, shl, sho, hid1, shl1, sho1, attrD, biD, binD, cmpD, outD, idxD, bindF, bindF.setAllF, bindT, setAll, asSeq, PyD.T.slots, wipeE, isNonD, isiD, tyOf, intPart, cutD, frzAll, frz1, lkD, putD, startI, outI, E.isNil, D.flat, flatL, D.nob, nobL, isL, flatO, PyD.getD', f_check_scales, b_check_scales, L0, q]
theorem prodlen_map {α β : Type} (ls : List (List α)) (ms : List (List β)) (h : ls.map List.length = ms.map List.length) : prodlen ls = prodlen ms := by
  have : ∀ {γ : Type} (xs : List (List γ)) (s : Nat), xs.foldl (fun s xs => s * xs.length) s = (xs.map List.length).foldl (· * ·) s := by
    intro γ xs
    induction xs with
    | nil => intro s; rfl
    | cons x xs ih => intro s; exact ih _
  unfold prodlen
  rw [this, this, h]
theorem mvl_lens {ss ts : List F.K} (h1 : ss.length = ls.length) (h2 : ts.length = ls.length) : (mvl ls ss ts).map List.length = ls.map List.length := by
  refine List.ext_getElem (by simp [mvl_len h1 h2]) fun i a b => ?_
  rw [List.length_map] at a b
  have g1 : ls[i]? = some ls[i] := List.getElem?_eq_getElem b
  have g2 : ss[i]? = some (ss[i]'(by omega)) := List.getElem?_eq_getElem (by omega)
  have g3 : ts[i]? = some (ts[i]'(by omega)) := List.getElem?_eq_getElem (by omega)
  have e := mvl_at g1 g2 g3
  rw [List.getElem?_eq_getElem a] at e
  rw [List.getElem_map, List.getElem_map, Option.some.inj e, List.length_map]
theorem GridOk.mvl {ss ts : List F.K} (hg : GridOk F ls) (h1 : ss.length = ls.length) (h2 : ts.length = ls.length) (hs : ∀ s ∈ ss, s ≠ 0) : GridOk F (PyD.mvl ls ss ts) := by
  obtain ⟨a1, a2, a3, a4⟩ := hg
  refine ⟨by rw [mvl_len h1 h2]; exact a1, by rw [mvl_len h1 h2]; exact a2, fun ys hy => ?_, by rw [prodlen_map _ _ (mvl_lens h1 h2)]; exact a4⟩
  obtain ⟨i, hi, e⟩ := List.mem_iff_getElem.mp hy
  rw [mvl_len h1 h2] at hi
  have g1 : ls[i]? = some ls[i] := List.getElem?_eq_getElem hi
  have g2 : ss[i]? = some (ss[i]'(by omega)) := List.getElem?_eq_getElem (by omega)
  have g3 : ts[i]? = some (ts[i]'(by omega)) := List.getElem?_eq_getElem (by omega)
  have e2 := mvl_at g1 g2 g3
  rw [List.getElem?_eq_getElem (by rw [mvl_len h1 h2]; exact hi), e] at e2
  have := Option.some.inj e2
  subst this
  obtain ⟨b1, b2, b3⟩ := a3 _ (List.mem_of_getElem? g1)
  have hsn := hs _ (List.mem_of_getElem? g2)
  refine ⟨?_, by rw [List.length_map]; exact b2, by rw [List.length_map]; exact b3⟩
  rw [List.Nodup, List.pairwise_map]
  refine List.Pairwise.imp ?_ b1
  intro x y hxy c
  apply hxy
  grind
theorem L_moved {ss ts : List F.K} (hg : GridOk F ls) (hb : LsB F h ls) (hs : ∀ s ∈ ss, s ≠ 0 ∧ F.Ht k s) (ht : ∀ t ∈ ts, F.Ht k t) (h1 : ss.length = ls.length) (h2 : ts.length = ls.length) (l : h ≤ 20) (l2 : k ≤ 20) :
    fns tb (n + 6) i_moved [gridD F ls, .lst (ss.map F.enc), .tup (ts.map F.enc)] = some (gridD F (mvl ls ss ts)) := by
  rw [fns_succ (fn := f_moved) rfl]
  have lb := hb.len
  have LC := L_check_scales (n := n + 3) (F := F) (ss := ss) fun s h => (hs s h).1
  have LG := L_Grid (n := n) (hg.mvl h1 h2 fun s h => (hs s h).1)
  have zl : ((ls.zip (ss.zip ts))).length = ls.length := by rw [List.length_zip, List.length_zip]; omega
  obtain ⟨_, q, a, b, c, rfl⟩ : ∃ e', evS (fns tb (n + 5)) l_moved_1 [some (false, gridD F ls), some (false, .lst (ss.map F.enc)), some (false, .tup (ts.map F.enc)), some (true, .lst []), none, none, none, none] = some (.nx e') ∧ ∃ a b c, e' = [some (false, gridD F ls), some (false, .lst (ss.map F.enc)), some (false, .tup (ts.map F.enc)), some (true, .lst (encL F ((mvl ls ss ts).take (ls.zip (ss.zip ts)).length))), a, b, c, none] := by
    refine at_go (P := fun j e' => ∃ a b c, e' = [some (false, gridD F ls), some (false, .lst (ss.map F.enc)), some (false, .tup (ts.map F.enc)), some (true, .lst (encL F ((mvl ls ss ts).take j))), a, b, c, none]) (ys := ls.zip (ss.zip ts)) (g := fun q => .tup [.tup (q.1.map F.enc), F.enc q.2.1, F.enc q.2.2]) (for_zip3 (d := .lst ((ls.zip (ss.zip ts)).map fun q => .tup [.tup (q.1.map F.enc), F.enc q.2.1, F.enc q.2.2])) ?_ rfl) ⟨none, none, none, rfl⟩ ?_
    · have z := zipD3_map (f := fun xs : List F.K => D.tup (xs.map F.enc)) (g := F.enc) (g' := F.enc) (xs := ls) (ys := ss) (zs := ts)
      rw [← z]
      simp [runFn, argsOf, startF, evS, ev, evM, keepD, seen, hid, shw, shl, sho, hid1, shl1, sho1, attrD, biD, binD, cmpD, outD, idxD, bindF, bindF.setAllF, bindT, setAll, asSeq, PyD.T.slots, wipeE, isNonD, isiD, tyOf, intPart, cutD, frzAll, frz1, lkD, putD, startI, outI, E.isNil, D.flat, flatL, D.nob, nobL, isL, flatO, PyD.getD', seqOf, encP]
    · rintro j ⟨xs, s, t⟩ hj _ ⟨a, b, c, rfl⟩
      obtain ⟨g1, g⟩ := List.getElem?_zip_eq_some.mp hj
      obtain ⟨g2, g3⟩ := List.getElem?_zip_eq_some.mp g
      have hjl := (List.getElem?_eq_some_iff.mp g1).1
      have hx := hb.each _ (List.mem_of_getElem? g1)
      have hs1 := (hs _ (List.mem_of_getElem? g2)).2
      have ht1 := ht _ (List.mem_of_getElem? g3)
      have em : encL F ((mvl ls ss ts).take (j + 1)) = encL F ((mvl ls ss ts).take j) ++ [.lst (xs.map fun v => F.enc (s * v + t))] := by
        rw [List.take_add_one, mvl_at g1 g2 g3]
        simp [encL]
      rw [em]
      have hL : (encL F ((mvl ls ss ts).take j)).length < LIM := by
        rw [encL, List.length_map, List.length_take, mvl_len h1 h2]; unfold LIM; omega
      generalize encL F ((mvl ls ss ts).take j) = W at *
      have cc : ev (fns tb (n + 5)) c_moved_2 (hid [some (false, gridD F ls), some (false, .lst (ss.map F.enc)), some (false, .tup (ts.map F.enc)), some (true, .lst W), some (false, .tup (xs.map F.enc)), some (false, F.enc s), some (false, F.enc t), none]) = some (.lst (xs.map fun v => F.enc (s * v + t))) := by
        refine lc_mp (ys := xs) (g := F.enc) (d := .tup (xs.map F.enc)) (by simp [runFn, argsOf, startF, evS, ev, evM, keepD, seen, hid, shw, shl, sho, hid1, shl1, sho1, attrD, biD, binD, cmpD, outD, idxD, bindF, bindF.setAllF, bindT, setAll, asSeq, PyD.T.slots, wipeE, isNonD, isiD, tyOf, intPart, cutD, frzAll, frz1, lkD, putD, startI, outI, E.isNil, D.flat, flatL, D.nob, nobL, isL, flatO, PyD.getD']) rfl (fun v hv1 => ?_) (by have := hx.1; unfold LIM; simp only [] at this; omega)
        have LT := L_multiply (n := n + 3) hs1 (hx.2 v hv1) (by omega)
        have LS := L_add (n := n + 3) (hs1.mul (hx.2 v hv1)) ht1 (by omega)
        refine ⟨_, rfl, ?_⟩
        simp [runFn, argsOf, startF, evS, ev, evM, keepD, seen, hid, shw, shl, sho, hid1, shl1, sho1, attrD, biD, binD, cmpD, outD, idxD, bindF, bindF.setAllF, bindT, setAll, asSeq, PyD.T.slots, wipeE, isNonD, isiD, tyOf, intPart, cutD, frzAll, frz1, lkD, putD, startI, outI, E.isNil, D.flat, flatL, D.nob, nobL, isL, flatO, PyD.getD', LT, LS]
      simp only [hid, hid1, List.map_cons, List.map_nil] at cc
      refine ⟨_, rfl, [some (false, gridD F ls), some (false, .lst (ss.map F.enc)), some (false, .tup (ts.map F.enc)), some (true, .lst (W ++ [.lst (xs.map fun v => F.enc (s * v + t))])), some (false, .tup (xs.map F.enc)), some (false, F.enc s), some (false, F.enc t), none], .inl ?_, _, _, _, rfl⟩
      simp [runFn, argsOf, startF, evS, ev, evM, keepD, seen, hid, shw, shl, sho, hid1, shl1, sho1, attrD, biD, binD, cmpD, outD, idxD, bindF, bindF.setAllF, bindT, setAll, asSeq, PyD.T.slots, wipeE, isNonD, isiD, tyOf, intPart, cutD, frzAll, frz1, lkD, putD, startI, outI, E.isNil, D.flat, flatL, D.nob, nobL, isL, flatO, PyD.getD', cc, hL]
  rw [zl, List.take_of_length_le (by rw [mvl_len h1 h2]; omega)] at q
  generalize hW : gridD F (mvl ls ss ts) = W at *
  simp [runFn, argsOf, startF, evS, ev, evM, keepD, seen, hid, shw, shl, sho, hid1, shl1, sho1, attrD, biD, binD, cmpD, outD, idxD, bindF, bindF.setAllF, bindT, setAll, asSeq, PyD.T.slots, wipeE, isNonD, isiD, tyOf, intPart, cutD, frzAll, frz1, lkD, putD, startI, outI, E.isNil, D.flat, flatL, D.nob, nobL, isL, flatO, PyD.getD', f_moved, b_moved, LC, q, LG]
def rls {α : Type} (ls : List (List α)) (rk : List Nat) : List (List α) := rk.map fun k => ls.getD k []
theorem L_renamed {rk : List Nat} (hr : ∀ k ∈ rk, k < ls.length) (hl : rk.length ≤ 100) (hg : GridOk F (rls ls rk)) : fns tb (n + 6) i_renamed [gridD F ls, .lst (rk.map fun k : Nat => D.int (k : Int))] = some (gridD F (rls ls rk)) := by
  rw [fns_succ (fn := f_renamed) rfl]
  have LG := L_GridB (n := n) (o := false) (b := true) hg
  have c : ev (fns tb (n + 5)) c_renamed_1 (hid [some (false, gridD F ls), some (false, .lst (rk.map fun k : Nat => D.int (k : Int))), none]) = some (.lst (rk.map fun k => D.tup ((ls.getD k []).map F.enc))) := by
    refine lc_mp (ys := rk) (g := fun k : Nat => D.int (k : Int)) (d := .lst (rk.map fun k : Nat => D.int (k : Int))) (by simp [runFn, argsOf, startF, evS, ev, evM, keepD, seen, hid, shw, shl, sho, hid1, shl1, sho1, attrD, biD, binD, cmpD, outD, idxD, bindF, bindF.setAllF, bindT, setAll, asSeq, PyD.T.slots, wipeE, isNonD, isiD, tyOf, intPart, cutD, frzAll, frz1, lkD, putD, startI, outI, E.isNil, D.flat, flatL, D.nob, nobL, isL, flatO, PyD.getD']) rfl (fun k hk => ?_) (by unfold LIM; omega)
    have hk := hr k hk
    have i1 : idxL (encP F ls) (k : Int) = some (.tup ((ls.getD k []).map F.enc)) := by
      have e : ls[k]? = some (ls.getD k []) := by
        rw [List.getD_eq_getElem?_getD, List.getElem?_eq_getElem hk]; rfl
      exact idxL_map (f := fun ys : List F.K => D.tup (ys.map F.enc)) e
    exact ⟨_, rfl, by simp [runFn, argsOf, startF, evS, ev, evM, keepD, seen, hid, shw, shl, sho, hid1, shl1, sho1, attrD, biD, binD, cmpD, outD, idxD, bindF, bindF.setAllF, bindT, setAll, asSeq, PyD.T.slots, wipeE, isNonD, isiD, tyOf, intPart, cutD, frzAll, frz1, lkD, putD, startI, outI, E.isNil, D.flat, flatL, D.nob, nobL, isL, flatO, PyD.getD', i1]⟩
  simp only [hid, hid1, List.map_cons, List.map_nil] at c
  have e : (rk.map fun k => D.tup ((ls.getD k []).map F.enc)) = encB F true (rls ls rk) := by
    unfold encB rls
    rw [List.map_map]
    rfl
  rw [e] at c
  simp only [sq] at LG
  simp [runFn, argsOf, startF, evS, ev, evM, keepD, seen, hid, shw, shl, sho, hid1, shl1, sho1, attrD, biD, binD, cmpD, outD, idxD, bindF, bindF.setAllF, bindT, setAll, asSeq, PyD.T.slots, wipeE, isNonD, isiD, tyOf, intPart, cutD, frzAll, frz1, lkD, putD, startI, outI, E.isNil, D.flat, flatL, D.nob, nobL, isL, flatO, PyD.getD', f_renamed, b_renamed, c, LG]
theorem L_joined {ms : List (List F.K)} (h1 : ls.length ≤ 6) (h2 : ms.length ≤ 6) (hg : GridOk F (ls ++ ms)) : fns tb (n + 6) i_joined [gridD F ls, gridD F ms] = some (gridD F (ls ++ ms)) := by
  rw [fns_succ (fn := f_joined) rfl]
  have LG := L_GridB (n := n) (o := true) (b := true) hg
  have LC : fns tb (n + 5) i_check_fields [.int F.p, .int F.p] = some .non := by
    rw [fns_succ (fn := f_check_fields) rfl]
    simp [runFn, argsOf, startF, evS, ev, evM, keepD, seen, hid, shw, shl, sho, hid1, shl1, sho1, attrD, biD, binD, cmpD, outD, idxD, bindF, bindF.setAllF, bindT, setAll, asSeq, PyD.T.slots, wipeE, isNonD, isiD, tyOf, intPart, cutD, frzAll, frz1, lkD, putD, startI, outI, E.isNil, D.flat, flatL, D.nob, nobL, isL, flatO, PyD.getD', f_check_fields, b_check_fields]
  have hl : (encP F ls).length + (encP F ms).length ≤ LIM := by rw [encP_len, encP_len]; unfold LIM; omega
  have e : encP F ls ++ encP F ms = encB F true (ls ++ ms) := by
    unfold encB encP
    rw [List.map_append]
    rfl
  simp only [sq] at LG
  generalize hW : gridD F (ls ++ ms) = W at *
  simp [runFn, argsOf, startF, evS, ev, evM, keepD, seen, hid, shw, shl, sho, hid1, shl1, sho1, attrD, biD, binD, cmpD, outD, idxD, bindF, bindF.setAllF, bindT, setAll, asSeq, PyD.T.slots, wipeE, isNonD, isiD, tyOf, intPart, cutD, frzAll, frz1, lkD, putD, startI, outI, E.isNil, D.flat, flatL, D.nob, nobL, isL, flatO, PyD.getD', f_joined, b_joined, LC, hl, e, LG]
end
end PyD

namespace PyD
open PySem Lean.Grind
/-! ### keys made of numbers -/
def kQ (x : Rat) : NestedKey := .tup [.num x.num, .num (x.den : Int)]
def Fc.kK (F : Fc) (x : F.K) : NestedKey := match F, x with
  | .q, x => kQ x
  | .z p _, x => .num (Z.v (p := p) x : Nat)
section
variable {F : Fc} {h k n H : Nat} {ls : List (List F.K)} {p : List F.K}
theorem nkOf_enc {x : F.K} : nkOf (F.enc x) = some (F.kK x) := by
  cases F with
  | q => rfl
  | z p hp => rfl
theorem nkL_map {α : Type} {f : α → D} {g : α → NestedKey} (h : ∀ a, nkOf (f a) = some (g a)) : ∀ {xs : List α}, nkL (xs.map f) = some (xs.map g)
  | [] => rfl
  | x :: xs => by
    rw [List.map_cons, nkL, h, nkL_map h]
    rfl
theorem kK_inj {x y : F.K} (h : F.kK x = F.kK y) : x = y := by
  cases F with
  | q =>
    have h' : kQ x = kQ y := h
    unfold kQ at h'
    injection h' with h'
    injection h' with h1 h2
    injection h1 with h1
    injection h2 with h2 _
    injection h2 with h2
    exact Rat.ext h1 (by omega)
  | z p hp =>
    have h' : NestedKey.num (Z.v (p := p) x : Nat) = .num (Z.v (p := p) y : Nat) := h
    injection h' with h'
    exact Z.ext (by omega)
theorem kK_depth {x : F.K} : (F.kK x).depth ≤ 1 := by
  cases F with
  | q => exact (by decide : (1 : Nat) ≤ 1)
  | z p hp => exact Nat.zero_le _
/-- a point as a key -/
def kP (F : Fc) (p : List F.K) : NestedKey := .tup (p.map F.kK)
theorem depthAll_le' {ks : List NestedKey} {m : Nat} (h : ∀ k ∈ ks, k.depth ≤ m) : NestedKey.depthAll ks ≤ m := by
  induction ks with
  | nil => exact Nat.zero_le _
  | cons k ks ih =>
    show max k.depth (NestedKey.depthAll ks) ≤ m
    exact Nat.max_le.mpr ⟨h k (List.mem_cons_self ..), ih fun y hy => h y (List.mem_cons_of_mem _ hy)⟩
theorem nkey_pt : nkey (.tup (p.map F.enc)) = some (kP F p) := by
  unfold nkey
  have e : nkOf (.tup (p.map F.enc)) = some (kP F p) := by
    rw [nkOf, nkL_map (f := F.enc) (g := F.kK) fun _ => nkOf_enc]
    rfl
  simp only [e, Option.bind_some]
  refine if_pos ?_
  show NestedKey.depthAll (p.map F.kK) + 1 ≤ 8
  have := depthAll_le' (ks := p.map F.kK) (m := 1) fun k hk => by
    obtain ⟨x, _, rfl⟩ := List.mem_map.mp hk
    exact kK_depth
  omega
theorem kP_inj {p q : List F.K} (h : kP F p = kP F q) : p = q := by
  unfold kP at h
  injection h with h
  exact List.map_inj_right (fun _ _ e => kK_inj e) |>.mp h
theorem putN_new {α : Type} {kvs : List (NestedKey × α)} {q : NestedKey} {v : α} (h : q ∉ kvs.map (·.1)) : putN kvs q v = kvs ++ [(q, v)] := by
  unfold putN
  rw [if_neg]
  intro c
  obtain ⟨kv, h1, h2⟩ := List.any_eq_true.mp c
  exact h (List.mem_map.mpr ⟨kv, h1, of_decide_eq_true h2⟩)
theorem lookN_mem {α : Type} {q : NestedKey} {v : α} : ∀ {kvs : List (NestedKey × α)}, (kvs.map (·.1)).Nodup → (q, v) ∈ kvs → lookN kvs q = some v
  | (k, d) :: r, hn, hm => by
    unfold lookN
    rw [List.map_cons, List.nodup_cons] at hn
    rcases List.mem_cons.mp hm with e | hm
    · cases e
      rw [if_pos rfl]
    · rw [if_neg, lookN_mem hn.2 hm]
      intro c
      subst c
      exact hn.1 (List.mem_map.mpr ⟨_, hm, rfl⟩)
noncomputable def rpt (p : List F.K) (rk : List Nat) : List F.K := rk.map fun k => p.getD k 0
theorem pts_ok (hg : GridOk F ls) : (pts ls).length ≤ 64 := by rw [pts_len]; exact hg.2.2.2
def vE (F : Fc) (ls : List (List F.K)) (rk : List Nat) (vs : List F.K) (kvs : List (NestedKey × D)) (a b : Option (Bool × D)) : FEnv := [some (false, gridD F ls), some (false, .lst (rk.map fun k : Nat => D.int (k : Int))), some (false, .lst (vs.map F.enc)), some (true, .ndic kvs), a, b, none]
theorem L_renamed_values {rk : List Nat} {vs : List F.K} (hr : ∀ k ∈ rk, k < ls.length) (hl : rk.length ≤ 100) (hg : GridOk F ls) (hg2 : GridOk F (rls ls rk)) (hv : vs.length = (pts ls).length) (hn : ((pts ls).map (rpt · rk)).Nodup) (val : List F.K → F.K) (hval : ∀ q ∈ (pts ls).zip vs, val (rpt q.1 rk) = q.2)
    (hm : ∀ q ∈ pts (rls ls rk), ∃ p ∈ pts ls, rpt p rk = q) : fns tb (n + 7) i_renamed_values [gridD F ls, .lst (rk.map fun k : Nat => D.int (k : Int)), .lst (vs.map F.enc)] = some (.lst ((pts (rls ls rk)).map fun q => F.enc (val q))) := by
  rw [fns_succ (fn := f_renamed_values) rfl]
  have hp := pts_ok hg
  have LR := L_renamed (n := n) hr hl hg2
  obtain ⟨K, hK⟩ : ∃ K : List (NestedKey × D), K = ((pts ls).zip vs).map fun q => (kP F (rpt q.1 rk), F.enc q.2) := ⟨_, rfl⟩
  have hKk : K.map (·.1) = ((pts ls).map (rpt · rk)).map (kP F) := by
    rw [hK, List.map_map, List.map_map]
    refine List.ext_getElem (by simp [hv]) fun i a b => ?_
    simp
  have hKn : (K.map (·.1)).Nodup := by
    rw [hKk, List.Nodup, List.pairwise_map]
    exact List.Pairwise.imp (fun hne e => hne (kP_inj e)) hn
  have hKl : K.length = (pts ls).length := by rw [hK, List.length_map, List.length_zip]; omega
  obtain ⟨_, q, a, b, rfl⟩ : ∃ e', evS (fns tb (n + 6)) l_renamed_values_1 (vE F ls rk vs [] none none) = some (.nx e') ∧ ∃ a b, e' = vE F ls rk vs (K.take ((pts ls).zip vs).length) a b := by
    refine at_go (P := fun j e' => ∃ a b, e' = vE F ls rk vs (K.take j) a b) (ys := (pts ls).zip vs) (g := fun q => .tup [.tup (q.1.map F.enc), F.enc q.2]) (for_zip (d := .lst (((pts ls).zip vs).map fun q => .tup [.tup (q.1.map F.enc), F.enc q.2])) ?_ rfl) ⟨none, none, rfl⟩ ?_
    · have z := zipD_map (f := fun p : List F.K => D.tup (p.map F.enc)) (g := F.enc) (xs := pts ls) (ys := vs)
      rw [← z]
      simp [runFn, argsOf, startF, evS, ev, evM, keepD, seen, hid, shw, shl, sho, hid1, shl1, sho1, attrD, biD, binD, cmpD, outD, idxD, bindF, bindF.setAllF, bindT, setAll, asSeq, PyD.T.slots, wipeE, isNonD, isiD, tyOf, intPart, cutD, frzAll, frz1, lkD, putD, startI, outI, E.isNil, D.flat, flatL, D.nob, nobL, isL, flatO, PyD.getD', vE, encP]
    · rintro j ⟨p, v⟩ hj _ ⟨a, b, rfl⟩
      obtain ⟨g1, g2⟩ := List.getElem?_zip_eq_some.mp hj
      have hjl := (List.getElem?_eq_some_iff.mp hj).1
      have hpl := pts_each ls p (List.mem_of_getElem? g1)
      have hKj : K[j]? = some (kP F (rpt p rk), F.enc v) := by rw [hK, List.getElem?_map, hj]; rfl
      have hnew : kP F (rpt p rk) ∉ (K.take j).map (·.1) := by
        rw [List.map_take]
        intro c
        obtain ⟨i, hi, e⟩ := List.mem_iff_getElem.mp c
        rw [List.length_take] at hi
        rw [List.getElem_take] at e
        have e2 : (K.map (·.1))[j]? = some (kP F (rpt p rk)) := by rw [List.getElem?_map, hKj]; rfl
        obtain ⟨hj2, e3⟩ := List.getElem?_eq_some_iff.mp e2
        exact absurd ((List.getElem_inj hKn).mp (e.trans e3.symm)) (by omega)
      have cc : ev (fns tb (n + 6)) c_renamed_values_2 (shw [some (false, gridD F ls), some (false, .lst (rk.map fun k : Nat => D.int (k : Int))), some (false, .lst (vs.map F.enc)), some (true, .ndic (K.take j)), some (false, .tup (p.map F.enc)), some (false, F.enc v), none]) = some (.lst ((rpt p rk).map F.enc)) := by
        have e : (rpt p rk).map F.enc = rk.map fun k => F.enc (p.getD k 0) := by unfold rpt; rw [List.map_map]; rfl
        rw [e]
        refine lc_mp (ys := rk) (g := fun k : Nat => D.int (k : Int)) (d := .lst (rk.map fun k : Nat => D.int (k : Int))) (by simp [runFn, argsOf, startF, evS, ev, evM, keepD, seen, hid, shw, shl, sho, hid1, shl1, sho1, attrD, biD, binD, cmpD, outD, idxD, bindF, bindF.setAllF, bindT, setAll, asSeq, PyD.T.slots, wipeE, isNonD, isiD, tyOf, intPart, cutD, frzAll, frz1, lkD, putD, startI, outI, E.isNil, D.flat, flatL, D.nob, nobL, isL, flatO, PyD.getD']) rfl (fun k hk => ?_) (by unfold LIM; omega)
        have hk := hr k hk
        have i1 : idxL (p.map F.enc) (k : Int) = some (F.enc (p.getD k 0)) := by
          have e : p[k]? = some (p.getD k 0) := by
            rw [List.getD_eq_getElem?_getD, List.getElem?_eq_getElem (by omega)]; rfl
          exact idxL_map e
        generalize p.getD k 0 = z at *
        exact ⟨_, rfl, by simp [runFn, argsOf, startF, evS, ev, evM, keepD, seen, hid, shw, shl, sho, hid1, shl1, sho1, attrD, biD, binD, cmpD, outD, idxD, bindF, bindF.setAllF, bindT, setAll, asSeq, PyD.T.slots, wipeE, isNonD, isiD, tyOf, intPart, cutD, frzAll, frz1, lkD, putD, startI, outI, E.isNil, D.flat, flatL, D.nob, nobL, isL, flatO, PyD.getD', i1]⟩
      have fl : (D.tup ((rpt p rk).map F.enc)).flat = true := flatL_enc
      have et : K.take (j + 1) = K.take j ++ [(kP F (rpt p rk), F.enc v)] := by rw [List.take_add_one, hKj]; rfl
      have hL : (K.take j).length < LIM := by rw [List.length_take]; unfold LIM; omega
      rw [et, ← putN_new hnew]
      generalize K.take j = W at *
      refine ⟨_, rfl, vE F ls rk vs (putN W (kP F (rpt p rk)) (F.enc v)) (some (false, .tup (p.map F.enc))) (some (false, F.enc v)), .inl ?_, _, _, rfl⟩
      simp only [shw, List.map_cons, List.map_nil, Option.map_some, Option.map_none] at cc
      generalize rpt p rk = rp at *
      have nk := nkey_pt (F := F) (p := rp)
      simp only [D.flat] at fl
      simp [runFn, argsOf, startF, evS, ev, evM, keepD, seen, hid, shw, shl, sho, hid1, shl1, sho1, attrD, biD, binD, cmpD, outD, idxD, bindF, bindF.setAllF, bindT, setAll, asSeq, PyD.T.slots, wipeE, isNonD, isiD, tyOf, intPart, cutD, frzAll, frz1, lkD, putD, startI, outI, E.isNil, D.flat, flatL, D.nob, nobL, isL, flatO, PyD.getD', vE, cc, fl, nk, hL]
  rw [List.take_of_length_le (by rw [List.length_zip]; omega)] at q
  have cc : ev (fns tb (n + 6)) c_renamed_values_3 (hid [some (false, gridD F ls), some (false, .lst (rk.map fun k : Nat => D.int (k : Int))), some (false, .lst (vs.map F.enc)), some (false, .ndic K), a, b, none]) = some (.lst ((pts (rls ls rk)).map fun q => F.enc (val q))) := by
    have hp2 := pts_ok hg2
    refine lc_mp (ys := pts (rls ls rk)) (g := fun p => D.tup (p.map F.enc)) (d := .tup (encP F (pts (rls ls rk)))) ?_ rfl (fun q hq => ?_) (by unfold LIM; omega)
    · have e : ev (fns tb (n + 6)) (.call 19 (.cons (.var 0) (.cons (.var 1) .nil))) (hid [some (false, gridD F ls), some (false, .lst (rk.map fun k : Nat => D.int (k : Int))), some (false, .lst (vs.map F.enc)), some (false, .ndic K), a, b, none]) = some (gridD F (rls ls rk)) := by
        simp [runFn, argsOf, startF, evS, ev, evM, keepD, seen, hid, shw, shl, sho, hid1, shl1, sho1, attrD, biD, binD, cmpD, outD, idxD, bindF, bindF.setAllF, bindT, setAll, asSeq, PyD.T.slots, wipeE, isNonD, isiD, tyOf, intPart, cutD, frzAll, frz1, lkD, putD, startI, outI, E.isNil, D.flat, flatL, D.nob, nobL, isL, flatO, PyD.getD', LR]
      rw [ev, e]
      rfl
    · obtain ⟨p, hp1, rfl⟩ := hm q hq
      obtain ⟨i, hi, e⟩ := List.mem_iff_getElem.mp hp1
      have g1 : (pts ls)[i]? = some p := by rw [List.getElem?_eq_getElem hi, e]
      have g2 : vs[i]? = some (vs[i]'(by omega)) := List.getElem?_eq_getElem (by omega)
      have gz : ((pts ls).zip vs)[i]? = some (p, vs[i]'(by omega)) := List.getElem?_zip_eq_some.mpr ⟨g1, g2⟩
      have hv1 := hval _ (List.mem_of_getElem? gz)
      have lk : lookN K (kP F (rpt p rk)) = some (F.enc (val (rpt p rk))) := by
        refine lookN_mem hKn ?_
        rw [hK, hv1]
        exact List.mem_map.mpr ⟨_, List.mem_of_getElem? gz, rfl⟩
      generalize rpt p rk = rp at *
      have nk := nkey_pt (F := F) (p := rp)
      exact ⟨_, rfl, by simp [runFn, argsOf, startF, evS, ev, evM, keepD, seen, hid, shw, shl, sho, hid1, shl1, sho1, attrD, biD, binD, cmpD, outD, idxD, bindF, bindF.setAllF, bindT, setAll, asSeq, PyD.T.slots, wipeE, isNonD, isiD, tyOf, intPart, cutD, frzAll, frz1, lkD, putD, startI, outI, E.isNil, D.flat, flatL, D.nob, nobL, isL, flatO, PyD.getD', nk, lk]⟩
  simp only [hid, hid1, List.map_cons, List.map_nil] at cc
  simp only [vE] at q
  simp [runFn, argsOf, startF, evS, ev, evM, keepD, seen, hid, shw, shl, sho, hid1, shl1, sho1, attrD, biD, binD, cmpD, outD, idxD, bindF, bindF.setAllF, bindT, setAll, asSeq, PyD.T.slots, wipeE, isNonD, isiD, tyOf, intPart, cutD, frzAll, frz1, lkD, putD, startI, outI, E.isNil, D.flat, flatL, D.nob, nobL, isL, flatO, PyD.getD', f_renamed_values, b_renamed_values, q, cc]
end
end PyD

namespace PyD
open PySem Lean.Grind
section
variable {F : Fc} {h k n H : Nat} {ls lw : List (List F.K)} {p : List F.K}
theorem flatMap_congr2 {α β : Type} {f g : α → List β} : ∀ {xs : List α}, (∀ x ∈ xs, f x = g x) → xs.flatMap f = xs.flatMap g
  | [], _ => rfl
  | x :: xs, h => by
    rw [List.flatMap_cons, List.flatMap_cons, h x (List.mem_cons_self ..), flatMap_congr2 fun y hy => h y (List.mem_cons_of_mem _ hy)]
/-! ### products over lists -/
theorem wd_nil : wd' (F := F) [] [] = 1 := rfl
theorem wd_snoc {xs : List F.K} {v : F.K} (h : p.length = ls.length) : wd' (ls ++ [xs]) (p ++ [v]) = wd' ls p * dpr v xs := by
  unfold wd'
  rw [List.zip_append h.symm, List.map_append, List.foldl_append]
  rfl
theorem gws_wd (ls : List (List F.K)) : gws ls = (pts ls).map fun p => (wd' ls p)⁻¹ := by
  induction ls using snoc_ind with
  | h0 =>
    show [1] = [(1 : F.K)⁻¹]
    rw [Field.inv_one]
  | h1 ls xs ih =>
    rw [gws_snoc, pts_snoc, ih, List.map_flatMap, List.flatMap_map]
    refine flatMap_congr2 fun p hp => ?_
    rw [List.map_map]
    unfold wts
    rw [List.map_map]
    refine List.map_congr_left fun v _ => ?_
    show (wd' ls p)⁻¹ * (dpr v xs)⁻¹ = (wd' (ls ++ [xs]) (p ++ [v]))⁻¹
    rw [wd_snoc (pts_each _ p hp), Field.inv_mul]
theorem pts_nil : pts ([] : List (List F.K)) = [[]] := rfl
/-- the points of a grid -/
theorem mem_pts (ls : List (List F.K)) : ∀ {p : List F.K}, p ∈ pts ls ↔ PIn ls p := by
  induction ls using snoc_ind with
  | h0 =>
    intro p
    rw [pts_nil, List.mem_singleton]
    constructor
    · rintro rfl
      exact ⟨rfl, fun j xs a h _ => by simp at h⟩
    · rintro ⟨h, _⟩
      exact List.eq_nil_of_length_eq_zero h
  | h1 ls xs ih =>
    intro p
    rw [pts_snoc, List.mem_flatMap]
    constructor
    · rintro ⟨q, hq, hp⟩
      obtain ⟨v, hv, rfl⟩ := List.mem_map.mp hp
      obtain ⟨q1, q2⟩ := ih.mp hq
      refine ⟨by simp [q1], fun j ys a h1 h2 => ?_⟩
      rcases Nat.lt_or_ge j ls.length with c | c
      · rw [List.getElem?_append_left c] at h1
        rw [List.getElem?_append_left (by omega)] at h2
        exact q2 j ys a h1 h2
      · rw [List.getElem?_append_right c] at h1
        rw [List.getElem?_append_right (by omega)] at h2
        have e : j - ls.length = 0 := by
          have := (List.getElem?_eq_some_iff.mp h1).1
          simp at this
          omega
        rw [e] at h1
        rw [show j - q.length = 0 by omega] at h2
        cases h1
        cases h2
        exact hv
    · rintro ⟨q1, q2⟩
      obtain ⟨q, v, rfl, hq⟩ := snoc_of (e := p) (n := ls.length) (by rw [q1]; simp)
      refine ⟨q, ih.mpr ⟨hq, fun j ys a h1 h2 => ?_⟩, List.mem_map.mpr ⟨v, ?_, rfl⟩⟩
      · have hj := (List.getElem?_eq_some_iff.mp h1).1
        exact q2 j ys a (by rw [List.getElem?_append_left hj]; exact h1) (by rw [List.getElem?_append_left (by omega)]; exact h2)
      · exact q2 ls.length xs v (by simp) (by rw [List.getElem?_append_right (by omega), hq]; simp)
theorem pts_nodup (ls : List (List F.K)) : (∀ xs ∈ ls, xs.Nodup) → (pts ls).Nodup := by
  induction ls using snoc_ind with
  | h0 => intro _; rw [pts_nil]; simp
  | h1 ls xs ih =>
    intro hn
    have hx := hn xs (List.mem_append_right _ (List.mem_singleton.mpr rfl))
    rw [pts_snoc]
    unfold List.flatMap List.Nodup
    rw [List.pairwise_flatten]
    refine ⟨fun l hl => ?_, ?_⟩
    · obtain ⟨p, hp, rfl⟩ := List.mem_map.mp hl
      rw [List.pairwise_map]
      refine List.Pairwise.imp (fun hne e => hne ?_) hx
      simpa using e
    · rw [List.pairwise_map]
      refine List.Pairwise.imp_of_mem ?_ (ih fun ys hy => hn ys (List.mem_append_left _ hy))
      intro p q hp hq hpq
      intro r hr1 r2 hr2 er
      subst er
      obtain ⟨v, _, rfl⟩ := List.mem_map.mp hr1
      obtain ⟨w, _, e⟩ := List.mem_map.mp hr2
      exact hpq (List.append_inj_left' e rfl).symm
/-! ### moved lists -/
theorem dp_map {s t a : F.K} (hs : s ≠ 0) : ∀ {ys : List F.K}, H1.dp (s * a + t) (ys.map fun v => s * v + t) = s ^ ((ys.filter fun b => decide (b ≠ a)).length) * H1.dp a ys
  | [] => by
    show (1 : F.K) = s ^ 0 * 1
    rw [Semiring.pow_zero]; grind
  | b :: ys => by
    have ih := dp_map (s := s) (t := t) (a := a) hs (ys := ys)
    by_cases c : b = a
    · subst c
      simp [H1.dp, List.filter_cons]
      simpa using ih
    · have c2 : ¬ s * b + t = s * a + t := fun e => c (by grind)
      simp only [List.map_cons, H1.dp, if_neg c, if_neg c2, List.filter_cons, decide_eq_true c, ne_eq, not_false_eq_true, decide_true, if_true, List.length_cons]
      rw [ih, Semiring.pow_succ]
      grind
theorem filter_ne {a : F.K} : ∀ {xs : List F.K}, xs.Nodup → a ∈ xs → (xs.filter fun b => decide (b ≠ a)).length = xs.length - 1
  | [], _, h => nomatch h
  | x :: xs, hn, h => by
    rw [List.nodup_cons] at hn
    by_cases c : x = a
    · subst c
      have : (xs.filter fun b => decide (b ≠ x)) = xs := List.filter_eq_self.mpr fun b hb => decide_eq_true fun e => hn.1 (e ▸ hb)
      simp only [List.filter_cons, ne_eq, not_true_eq_false, decide_false, Bool.false_eq_true, if_false, List.length_cons]
      simp only [ne_eq] at this
      rw [this]
      omega
    · have h2 : a ∈ xs := by
        rcases List.mem_cons.mp h with e | e
        · exact absurd e.symm c
        · exact e
      have ih := filter_ne hn.2 h2
      have hl : 0 < xs.length := List.length_pos_of_mem h2
      simp only [List.filter_cons, ne_eq, c, not_false_eq_true, decide_true, if_true, List.length_cons]
      simp only [ne_eq] at ih
      omega
theorem inv_pow {s : F.K} : ∀ m : Nat, (s ^ m)⁻¹ = (s⁻¹) ^ m
  | 0 => by rw [Semiring.pow_zero, Semiring.pow_zero, Field.inv_one]
  | m + 1 => by rw [Semiring.pow_succ, Semiring.pow_succ, Field.inv_mul, inv_pow m]
theorem wts_mv {s t : F.K} {xs : List F.K} (hs : s ≠ 0) (hn : xs.Nodup) : wts (xs.map fun v => s * v + t) = (wts xs).map fun w => (s⁻¹) ^ (xs.length - 1) * w := by
  unfold wts
  rw [List.map_map, List.map_map]
  refine List.map_congr_left fun a ha => ?_
  show (dpr (s * a + t) (xs.map fun v => s * v + t))⁻¹ = (s⁻¹) ^ (xs.length - 1) * (dpr a xs)⁻¹
  rw [dpr_eq, dp_map hs, filter_ne hn ha, ← dpr_eq, Field.inv_mul, inv_pow]
theorem gws_mv : ∀ {ls : List (List F.K)} {ss ts : List F.K}, (∀ xs ∈ ls, xs.Nodup) → (∀ s ∈ ss, s ≠ 0) → ss.length = ls.length → ts.length = ls.length → gws (mvl ls ss ts) = (gws ls).map fun w => sca ls ss * w := by
  intro ls
  induction ls using snoc_ind with
  | h0 =>
    intro ss ts _ _ h1 h2
    obtain rfl := List.eq_nil_of_length_eq_zero h1
    obtain rfl := List.eq_nil_of_length_eq_zero h2
    show [(1 : F.K)] = [1 * 1]
    rw [Semiring.one_mul]
  | h1 ls xs ih =>
    intro ss ts hn hs h1 h2
    rw [List.length_append, List.length_singleton] at h1 h2
    obtain ⟨ss, s, rfl, l1⟩ := snoc_of h1
    obtain ⟨ts, t, rfl, l2⟩ := snoc_of h2
    have e1 : mvl (ls ++ [xs]) (ss ++ [s]) (ts ++ [t]) = mvl ls ss ts ++ [xs.map fun v => s * v + t] := by
      unfold mvl
      rw [List.zip_append (by omega), List.zip_append (by rw [List.length_zip]; omega), List.map_append]
      rfl
    have e2 : sca (ls ++ [xs]) (ss ++ [s]) = sca ls ss * (s⁻¹) ^ (xs.length - 1) := by
      unfold sca
      rw [List.zip_append (by omega), List.foldl_append]
      rfl
    rw [e1, e2, gws_snoc, gws_snoc, ih (fun ys hy => hn ys (List.mem_append_left _ hy)) (fun z hz => hs z (List.mem_append_left _ hz)) l1 l2,
      wts_mv (hs s (List.mem_append_right _ (List.mem_singleton.mpr rfl))) (hn xs (List.mem_append_right _ (List.mem_singleton.mpr rfl))), List.flatMap_map, List.map_flatMap]
    refine flatMap_congr2 fun w hw => ?_
    rw [List.map_map, List.map_map]
    refine List.map_congr_left fun f _ => ?_
    show sca ls ss * w * ((s⁻¹) ^ (xs.length - 1) * f) = sca ls ss * (s⁻¹) ^ (xs.length - 1) * (w * f)
    generalize (s⁻¹) ^ (xs.length - 1) = z
    generalize sca ls ss = y
    grind
/-! ### joined lists -/
theorem gws_app {ls : List (List F.K)} (ms : List (List F.K)) : gws (ls ++ ms) = (gws ls).flatMap fun u => (gws ms).map fun v => u * v := by
  induction ms using snoc_ind with
  | h0 =>
    have e : gws ([] : List (List F.K)) = [1] := rfl
    rw [List.append_nil, e]
    simp [Semiring.mul_one]
  | h1 ms xs ih =>
    rw [← List.append_assoc, gws_snoc, gws_snoc, ih, List.flatMap_assoc]
    refine flatMap_congr2 fun u hu => ?_
    rw [List.flatMap_map, List.map_flatMap]
    refine flatMap_congr2 fun v hv => ?_
    rw [List.map_map]
    refine List.map_congr_left fun f _ => ?_
    show u * v * f = u * (v * f)
    rw [Semiring.mul_assoc]
end
end PyD

namespace PyD
open PySem Lean.Grind
section
variable {F : Fc} {h k n H : Nat} {ls lw : List (List F.K)} {p : List F.K} {rk : List Nat}
/-! ### renamed lists -/
theorem rk_mem (hr : rk.Perm (List.range ls.length)) {k : Nat} : k ∈ rk ↔ k < ls.length := by rw [hr.mem_iff, List.mem_range]
theorem rk_nodup {N : Nat} (hr : rk.Perm (List.range N)) : rk.Nodup := hr.nodup_iff.mpr List.nodup_range
theorem rk_len {N : Nat} (hr : rk.Perm (List.range N)) : rk.length = N := by rw [hr.length_eq, List.length_range]
theorem getD_at {α : Type} {xs : List α} {i : Nat} {d : α} (h : i < xs.length) : xs[i]? = some (xs.getD i d) := by
  rw [List.getD_eq_getElem?_getD, List.getElem?_eq_getElem h]; rfl
theorem range_getD {α : Type} {xs : List α} {d : α} : ((List.range xs.length).map fun k => xs.getD k d) = xs := by
  refine List.ext_getElem (by simp) fun i a b => ?_
  have := getD_at (d := d) b
  rw [List.getElem?_eq_getElem b] at this
  rw [List.getElem_map, List.getElem_range]
  exact (Option.some.inj this).symm
theorem rls_perm (hr : rk.Perm (List.range ls.length)) : (rls ls rk).Perm ls := by
  have := hr.map fun k => ls.getD k []
  rwa [range_getD] at this
theorem prodlen_perm {α : Type} {xs ys : List (List α)} (h : xs.Perm ys) : prodlen xs = prodlen ys :=
  h.foldl_eq' (fun x _ y _ z => by rw [Nat.mul_assoc, Nat.mul_comm x.length, ← Nat.mul_assoc]) 1
theorem GridOk.perm {ms : List (List F.K)} (hg : GridOk F ls) (h : ms.Perm ls) : GridOk F ms := by
  obtain ⟨a1, a2, a3, a4⟩ := hg
  exact ⟨by rw [h.length_eq]; exact a1, by rw [h.length_eq]; exact a2, fun xs hx => a3 xs (h.mem_iff.mp hx), by rw [prodlen_perm h]; exact a4⟩
theorem wd_idx (h : p.length = ls.length) : wd' ls p = ((List.range ls.length).map fun k => dpr (p.getD k 0) (ls.getD k [])).foldl (· * ·) 1 := by
  unfold wd'
  congr 1
  refine List.ext_getElem (by simp [h]) fun i a b => ?_
  simp only [List.length_map, List.length_range] at b
  have e1 := getD_at (d := ([] : List F.K)) b
  have e2 := getD_at (d := (0 : F.K)) (xs := p) (i := i) (by omega)
  rw [List.getElem?_eq_getElem b] at e1
  rw [List.getElem?_eq_getElem (by omega)] at e2
  rw [List.getElem_map, List.getElem_map, List.getElem_zip, List.getElem_range, ← Option.some.inj e1, ← Option.some.inj e2]
theorem wd_ren (hr : rk.Perm (List.range ls.length)) (h : p.length = ls.length) : wd' (rls ls rk) (rpt p rk) = wd' ls p := by
  rw [wd_idx h]
  have e : wd' (rls ls rk) (rpt p rk) = (rk.map fun k => dpr (p.getD k 0) (ls.getD k [])).foldl (· * ·) 1 := by
    unfold wd' rls rpt
    rw [List.zip_map', List.map_map]
    rfl
  rw [e]
  exact (hr.map _).foldl_eq' (fun x _ y _ z => by grind) 1
theorem ren_at {j : Nat} (hj : j < rk.length) : (rls ls rk)[j]? = some (ls.getD rk[j] []) ∧ (rpt p rk)[j]? = some (p.getD rk[j] 0) := by
  unfold rls rpt
  rw [List.getElem?_map, List.getElem?_map, List.getElem?_eq_getElem hj]
  exact ⟨rfl, rfl⟩
theorem pin_ren (hr : rk.Perm (List.range ls.length)) (h : PIn ls p) : PIn (rls ls rk) (rpt p rk) := by
  refine ⟨by unfold rls rpt; simp, fun j xs a h1 h2 => ?_⟩
  have hj : j < rk.length := by
    have := (List.getElem?_eq_some_iff.mp h1).1
    unfold rls at this
    simpa using this
  obtain ⟨e1, e2⟩ := ren_at (ls := ls) (p := p) hj
  rw [e1] at h1
  rw [e2] at h2
  cases h1
  cases h2
  have hk := (rk_mem hr).mp (List.getElem_mem hj)
  exact h.2 rk[j] _ _ (getD_at hk) (getD_at (by rw [h.1]; exact hk))
/-- the way back -/
noncomputable def unr (rk : List Nat) (N : Nat) (q : List F.K) : List F.K := (List.range N).map fun k => q.getD (rk.idxOf k) 0
theorem unr_at {N : Nat} {q : List F.K} {k : Nat} (h : k < N) : (unr rk N q)[k]? = some (q.getD (rk.idxOf k) 0) := by
  unfold unr
  rw [List.getElem?_map, List.getElem?_range h]; rfl
theorem ren_unr {q : List F.K} (hr : rk.Perm (List.range ls.length)) (h : q.length = ls.length) : rpt (unr rk ls.length q) rk = q := by
  have hl := rk_len hr
  refine List.ext_getElem (by unfold rpt; simp [hl, h]) fun i a b => ?_
  have hi : i < rk.length := by omega
  have hk := (rk_mem hr).mp (List.getElem_mem hi)
  have e1 := (ren_at (F := F) (ls := ls) (p := unr rk ls.length q) hi).2
  rw [List.getElem?_eq_getElem a] at e1
  rw [Option.some.inj e1, List.getD_eq_getElem?_getD, unr_at hk]
  have e2 : rk.idxOf rk[i] = i := by
    have hm : rk.idxOf rk[i] < rk.length := List.idxOf_lt_length_iff.mpr (List.getElem_mem hi)
    exact (List.getElem_inj (rk_nodup hr)).mp (List.getElem_idxOf hm)
  rw [e2]
  have e3 := getD_at (d := (0 : F.K)) b
  rw [List.getElem?_eq_getElem b] at e3
  exact (Option.some.inj e3).symm
theorem pin_unr {q : List F.K} (hr : rk.Perm (List.range ls.length)) (h : PIn (rls ls rk) q) : PIn ls (unr rk ls.length q) := by
  have hl := rk_len hr
  have hq : q.length = ls.length := by rw [h.1]; unfold rls; simp [hl]
  refine ⟨by unfold unr; simp, fun j xs a h1 h2 => ?_⟩
  have hj := (List.getElem?_eq_some_iff.mp h1).1
  rw [unr_at hj] at h2
  have hm : j ∈ rk := (rk_mem hr).mpr hj
  have hi : rk.idxOf j < rk.length := List.idxOf_lt_length_iff.mpr hm
  have e := (ren_at (F := F) (ls := ls) (p := q) hi).1
  have e2 : rk[rk.idxOf j] = j := List.getElem_idxOf hi
  rw [e2] at e
  have e3 : ls.getD j [] = xs := by
    have := getD_at (d := ([] : List F.K)) hj
    rw [h1] at this
    exact (Option.some.inj this).symm
  rw [e3] at e
  cases h2
  exact h.2 _ _ _ e (getD_at (by rw [hq, ← hl]; exact hi))
theorem ren_mem (hr : rk.Perm (List.range ls.length)) {q : List F.K} (h : q ∈ pts (rls ls rk)) : ∃ p ∈ pts ls, rpt p rk = q := by
  have hq := (mem_pts _).mp h
  have hl := rk_len hr
  exact ⟨_, (mem_pts _).mpr (pin_unr hr hq), ren_unr hr (by rw [hq.1]; unfold rls; simp [hl])⟩
theorem rpt_inj (hr : rk.Perm (List.range ls.length)) {p q : List F.K} (hp : p.length = ls.length) (hq : q.length = ls.length) (e : rpt p rk = rpt q rk) : p = q := by
  refine List.ext_getElem (by omega) fun i a b => ?_
  have hm : i ∈ rk := (rk_mem hr).mpr (by omega)
  obtain ⟨j, hj, ej⟩ := List.mem_iff_getElem.mp hm
  have e1 := (ren_at (F := F) (ls := ls) (p := p) hj).2
  have e2 := (ren_at (F := F) (ls := ls) (p := q) hj).2
  rw [e, e2, ej] at e1
  have f1 := getD_at (d := (0 : F.K)) a
  have f2 := getD_at (d := (0 : F.K)) b
  rw [List.getElem?_eq_getElem a] at f1
  rw [List.getElem?_eq_getElem b] at f2
  rw [Option.some.inj f1, Option.some.inj f2]
  exact (Option.some.inj e1).symm
theorem ren_nodup (hr : rk.Perm (List.range ls.length)) (hn : ∀ xs ∈ ls, xs.Nodup) : ((pts ls).map (rpt · rk)).Nodup := by
  rw [List.Nodup, List.pairwise_map]
  refine List.Pairwise.imp_of_mem ?_ (pts_nodup ls hn)
  intro p q hp hq hne e
  exact hne (rpt_inj hr (pts_each _ p hp) (pts_each _ q hq) e)
theorem ren_pts (hr : rk.Perm (List.range ls.length)) (hn : ∀ xs ∈ ls, xs.Nodup) : ((pts ls).map (rpt · rk)).Perm (pts (rls ls rk)) := by
  refine (List.perm_ext_iff_of_nodup (ren_nodup hr hn) (pts_nodup _ fun xs hx => hn xs ((rls_perm hr).mem_iff.mp hx))).mpr fun q => ?_
  constructor
  · intro hq
    obtain ⟨p, hp, rfl⟩ := List.mem_map.mp hq
    exact (mem_pts _).mpr (pin_ren hr ((mem_pts _).mp hp))
  · intro hq
    obtain ⟨p, hp, e⟩ := ren_mem hr hq
    exact List.mem_map.mpr ⟨p, hp, e⟩
/-! ### sums -/
theorem sumf_perm {α : Type} {g : α → F.K} {xs ys : List α} (h : xs.Perm ys) : sumf g xs = sumf g ys := h.foldl_eq' (fun x _ y _ z => by grind) 0
theorem dot_scale {c : F.K} : ∀ {ws vs : List F.K}, dotK ((ws.map fun w => c * w).zip vs) = c * dotK (ws.zip vs)
  | [], vs => by
    show (0 : F.K) = c * 0
    grind
  | w :: ws, [] => by
    show (0 : F.K) = c * 0
    grind
  | w :: ws, v :: vs => by
    rw [List.map_cons, List.zip_cons_cons, List.zip_cons_cons, dotK_cons, dotK_cons, dot_scale]
    grind
theorem dot_map {α : Type} {f g : α → F.K} {xs : List α} : dotK ((xs.map f).zip (xs.map g)) = sumf (fun x => f x * g x) xs := by
  rw [List.zip_map', dotK_sumf, sumf_map]
theorem dot_ren (hr : rk.Perm (List.range ls.length)) (hn : ∀ xs ∈ ls, xs.Nodup) (val : List F.K → F.K) :
    dotK ((gws (rls ls rk)).zip ((pts (rls ls rk)).map val)) = dotK ((gws ls).zip ((pts ls).map fun p => val (rpt p rk))) := by
  rw [gws_wd, gws_wd, dot_map, dot_map, ← sumf_perm (ren_pts hr hn), sumf_map]
  refine sumf_congr fun p hp => ?_
  rw [wd_ren hr (pts_each _ p hp)]
/-! ### lesser lists -/
theorem dp_app {a : F.K} : ∀ {ys r : List F.K}, H1.dp a (ys ++ r) = H1.dp a ys * H1.dp a r
  | [], r => by
    show H1.dp a r = 1 * H1.dp a r
    grind
  | y :: ys, r => by
    have ih := dp_app (a := a) (ys := ys) (r := r)
    by_cases c : y = a
    · simp only [List.cons_append, H1.dp, if_pos c]; exact ih
    · simp only [List.cons_append, H1.dp, if_neg c, ih]; grind
theorem lo1_in {a : F.K} {ys : List F.K} : ∀ {xs : List F.K} {m : F.K}, (∀ u ∈ xs, u ∈ ys) → lo1 a ys m xs = m
  | [], m, _ => rfl
  | x :: xs, m, h => by
    have e : lo1 a ys m (x :: xs) = lo1 a ys (if x ∈ ys then m else m * (a - x)) xs := rfl
    rw [e, if_pos (h x (List.mem_cons_self ..))]
    exact lo1_in fun u hu => h u (List.mem_cons_of_mem _ hu)
theorem lo1_out {a : F.K} {ys : List F.K} : ∀ {xs : List F.K} {m : F.K}, (∀ u ∈ xs, u ∉ ys ∧ u ≠ a) → lo1 a ys m xs = m * H1.dp a xs
  | [], m, _ => by
    show m = m * 1
    grind
  | x :: xs, m, h => by
    have e : lo1 a ys m (x :: xs) = lo1 a ys (if x ∈ ys then m else m * (a - x)) xs := rfl
    obtain ⟨h1, h2⟩ := h x (List.mem_cons_self ..)
    rw [e, if_neg h1, lo1_out fun u hu => h u (List.mem_cons_of_mem _ hu)]
    simp only [H1.dp, if_neg h2]
    grind
theorem lo1_perm {a m : F.K} {ys xs xs' : List F.K} (h : xs.Perm xs') : lo1 a ys m xs = lo1 a ys m xs' := by
  refine h.foldl_eq' (fun x _ y _ z => ?_) m
  by_cases c1 : x ∈ ys <;> by_cases c2 : y ∈ ys <;> simp only [c1, c2, if_true, if_false]
  grind
theorem dpr_few {v m : F.K} {xs ys : List F.K} (hn : xs.Nodup) (h : Few xs ys) (hv : v ∈ ys) : m * dpr v xs = dpr v ys * lo1 v ys m xs ∧ v ∈ xs := by
  obtain ⟨_, r, hr⟩ := h
  have hn2 := List.nodup_append.mp (hr.nodup_iff.mpr hn)
  refine ⟨?_, hr.mem_iff.mp (List.mem_append_left _ hv)⟩
  have e1 : lo1 v ys m (ys ++ r) = lo1 v ys (lo1 v ys m ys) r := List.foldl_append
  rw [dpr_eq, dpr_eq, ← dp_perm hr, dp_app, ← lo1_perm hr, e1, lo1_in (fun _ h => h), lo1_out fun u hu => ⟨fun c => hn2.2.2 u c u hu rfl, fun c => hn2.2.2 v hv u hu c.symm⟩]
  grind
theorem wd_few (h : FewL ls lw) : (∀ xs ∈ ls, xs.Nodup) → ∀ {p : List F.K}, PIn lw p → wd' ls p = wd' lw p * lof ls lw p ∧ PIn ls p := by
  induction h with
  | nil =>
    intro _ p hp
    obtain rfl := List.eq_nil_of_length_eq_zero hp.1
    refine ⟨?_, hp⟩
    show (1 : F.K) = 1 * 1
    grind
  | @snoc ls lw xs ys hL hF ih =>
    intro hn p hp
    obtain ⟨q, v, rfl, hq⟩ := snoc_of (e := p) (n := lw.length) (by rw [hp.1]; simp)
    have hv : v ∈ ys := hp.2 lw.length ys v (by simp) (by rw [List.getElem?_append_right (by omega), hq]; simp)
    have hpq : PIn lw q := ⟨hq, fun j zs a h1 h2 => by
      have hj := (List.getElem?_eq_some_iff.mp h1).1
      exact hp.2 j zs a (by rw [List.getElem?_append_left hj]; exact h1) (by rw [List.getElem?_append_left (by omega)]; exact h2)⟩
    obtain ⟨i1, i2⟩ := ih (fun zs hz => hn zs (List.mem_append_left _ hz)) hpq
    have hxs := hn xs (List.mem_append_right _ (List.mem_singleton.mpr rfl))
    have e : lof (ls ++ [xs]) (lw ++ [ys]) (q ++ [v]) = lo1 v ys (lof ls lw q) xs := by
      unfold lof
      rw [List.zip_append (l₁ := lw) hq.symm, List.zip_append (by rw [List.length_zip]; have := hL.len; omega), List.foldl_append]
      rfl
    obtain ⟨d1, d2⟩ := dpr_few (m := lof ls lw q) hxs hF hv
    refine ⟨?_, ?_⟩
    · rw [wd_snoc i2.1, wd_snoc hq, e, i1]
      calc wd' lw q * lof ls lw q * dpr v xs = wd' lw q * (lof ls lw q * dpr v xs) := by grind
        _ = wd' lw q * dpr v ys * lo1 v ys (lof ls lw q) xs := by rw [d1]; grind
    · rw [← mem_pts, pts_snoc, List.mem_flatMap]
      exact ⟨q, (mem_pts _).mpr i2, List.mem_map.mpr ⟨v, d2, rfl⟩⟩
theorem gws_few (h : FewL ls lw) (hn : ∀ xs ∈ ls, xs.Nodup) : gws lw = (pts lw).map fun p => (wd' ls p)⁻¹ * lof ls lw p := by
  rw [gws_wd]
  refine List.map_congr_left fun p hp => ?_
  obtain ⟨e, hi⟩ := wd_few h hn ((mem_pts _).mp hp)
  have h1 := wd_ne ((mem_pts _).mp hp)
  have h2 := wd_ne hi
  rw [e] at h2 ⊢
  have h3 : lof ls lw p ≠ 0 := fun c => h2 (by rw [c]; grind)
  rw [Field.inv_mul]
  have := Field.mul_inv_cancel h3
  grind
theorem FewL.grid (h : FewL ls lw) : (∀ xs ∈ ls, xs.Nodup ∧ xs.length ≤ 12 ∧ ∀ x ∈ xs, F.Ht k x) → prodlen lw ≤ prodlen ls ∧ ∀ ys ∈ lw, ys.Nodup ∧ 1 ≤ ys.length ∧ ys.length ≤ 12 ∧ ∀ y ∈ ys, F.Ht k y := by
  induction h with
  | nil => exact fun _ => ⟨Nat.le_refl _, fun _ h => nomatch h⟩
  | @snoc ls lw xs ys hL hF ih =>
    intro hx
    obtain ⟨i1, i2⟩ := ih fun zs hz => hx zs (List.mem_append_left _ hz)
    obtain ⟨x1, x2, x3⟩ := hx xs (List.mem_append_right _ (List.mem_singleton.mpr rfl))
    obtain ⟨f1, r, hr⟩ := hF
    have hl := hr.length_eq
    rw [List.length_append] at hl
    refine ⟨by rw [prodlen_snoc, prodlen_snoc]; exact Nat.mul_le_mul i1 (by omega), fun zs hz => ?_⟩
    rcases List.mem_append.mp hz with hz | hz
    · exact i2 zs hz
    · obtain rfl := List.mem_singleton.mp hz
      exact ⟨(List.nodup_append.mp (hr.nodup_iff.mpr x1)).1, f1, by omega, fun y hy => x3 y (hr.mem_iff.mp (List.mem_append_left _ hy))⟩
end
end PyD

namespace PyD
open PySem Lean.Grind
/-! ### the numbers that are drawn from -/
def nq : List Rat := [⟨0, 1, by decide, by decide⟩, ⟨1, 1, by decide, by decide⟩, ⟨-1, 1, by decide, by decide⟩, ⟨1, 2, by decide, by decide⟩, ⟨3, 1, by decide, by decide⟩, ⟨-2, 3, by decide, by decide⟩, ⟨5, 4, by decide, by decide⟩, ⟨2, 1, by decide, by decide⟩, ⟨-7, 2, by decide, by decide⟩]
def nz (p : Nat) [Pr p] : List (Z p) := (List.range p).map (Z.mk p)
def nums (F : Fc) : List F.K := match F with
  | .q => nq
  | .z p h => haveI := h; nz p
theorem nq_nd : nq.Nodup := by decide
theorem nq_ht : ∀ x ∈ nq, x.num.natAbs < 2 ^ 4 ∧ x.den < 2 ^ 4 := by decide
section
variable {F : Fc} {n : Nat}
theorem nums_ok : NumsOk F (nums F) := by
  cases F with
  | q => exact ⟨nq_nd, by decide, by decide, nq_ht⟩
  | z p h =>
    haveI := h
    refine ⟨?_, ?_, ?_, fun _ _ => trivial⟩
    · show ((List.range p).map (Z.mk p)).Nodup
      rw [List.Nodup, List.pairwise_map]
      refine List.Pairwise.imp_of_mem ?_ List.nodup_range
      intro a b ha hb hab e
      have := congrArg Z.v e
      rw [Z.v_mk, Z.v_mk, Nat.mod_eq_of_lt (List.mem_range.mp ha), Nat.mod_eq_of_lt (List.mem_range.mp hb)] at this
      exact hab this
    · show 2 ≤ ((List.range p).map (Z.mk p)).length
      rw [List.length_map, List.length_range]
      exact Pr.two p
    · show ((List.range p).map (Z.mk p)).length ≤ 11
      rw [List.length_map, List.length_range]
      exact Pr.le p
theorem L_numbers : fns tb (n + 1) i__law_numbers [.int F.p] = some (.lst ((nums F).map F.enc)) := by
  rw [fns_succ (fn := f__law_numbers) rfl]
  cases F with
  | q =>
    simp [runFn, argsOf, startF, evS, ev, evM, keepD, seen, hid, shw, shl, sho, hid1, shl1, sho1, attrD, biD, binD, cmpD, outD, idxD, bindF, bindF.setAllF, bindT, setAll, asSeq, PyD.T.slots, wipeE, isNonD, isiD, tyOf, intPart, cutD, frzAll, frz1, lkD, putD, startI, outI, E.isNil, D.flat, flatL, D.nob, nobL, isL, flatO, PyD.getD', f__law_numbers, b__law_numbers, Fc.p]
    rfl
  | z p h =>
    haveI := h
    have p0 := Pr.pos p
    have p1 := Pr.le p
    have e : (nums (Fc.z p h)).map (Fc.z p h).enc = (List.range p).map fun i => D.int (i : Nat) := by
      show ((List.range p).map (Z.mk p)).map (fun x => D.int (x.v : Nat)) = _
      rw [List.map_map]
      refine List.map_congr_left fun i hi => ?_
      show D.int ((Z.mk p i).v : Nat) = _
      rw [Z.v_mk, Nat.mod_eq_of_lt (List.mem_range.mp hi)]
    have r : limL (rangeD 0 (p : Nat)) = some (.lst (rangeD 0 (p : Nat))) := limL_of (by rw [range_len]; unfold LIM; omega)
    have g : rgOk (p : Int) = true := rgOk_sm (by omega) (by omega)
    have g0 : rgOk 0 = true := rfl
    rw [e, ← rangeD0]
    have c : (0 : Int) < (p : Int) := by omega
    have w : ∀ en, ev (fns tb n) (.rng1 (.var 0)) (some (.int (p : Nat)) :: en) = some (.lst (rangeD 0 (p : Nat))) := fun en => ev_rng1 (by simp [ev]) g
    have r2 : runFn (fns tb n) f__law_numbers [.int (p : Nat)] = outD true (evS (fns tb n) b__law_numbers [some (false, .int (p : Nat))]) := rfl
    show runFn (fns tb n) f__law_numbers [.int (p : Nat)] = _
    rw [r2]
    have q : evS (fns tb n) b__law_numbers [some (false, .int (p : Nat))] = some (.rt true (.lst (rangeD 0 (p : Nat)))) := by
      have i1 : evS (fns tb n) (.iff (.cmp .gt (.var 0) (.int 0)) (.ret (.lrng (.rng1 (.var 0))) { own := true }) .skip) [some (false, .int (p : Nat))] = some (.rt true (.lst (rangeD 0 (p : Nat)))) := by
        refine (iff_t (by simp [runFn, argsOf, startF, evS, ev, evM, keepD, seen, hid, shw, shl, sho, hid1, shl1, sho1, attrD, biD, binD, cmpD, outD, idxD, bindF, bindF.setAllF, bindT, setAll, asSeq, PyD.T.slots, wipeE, isNonD, isiD, tyOf, intPart, cutD, frzAll, frz1, lkD, putD, startI, outI, E.isNil, D.flat, flatL, D.nob, nobL, isL, flatO, PyD.getD', p0])).trans ?_
        refine ret_of (m := { own := true }) ?_ rfl
        show (ev (fns tb n) (.rng1 (.var 0)) [some (.int (p : Nat))]).bind _ = _
        rw [w]
        exact r
      simp only [b__law_numbers, evS] at i1 ⊢
      rw [i1]
      rfl
    rw [q]
    rfl
/-- lists as the law draws them -/
def LsOk (F : Fc) (ls : List (List F.K)) : Prop := ∀ xs ∈ ls, xs.Nodup ∧ 1 ≤ xs.length ∧ xs.length ≤ 9 ∧ ∀ x ∈ xs, x ∈ nums F
theorem LsOk.ht {ls : List (List F.K)} (h : LsOk F ls) : ∀ xs ∈ ls, ∀ x ∈ xs, F.Ht 4 x := fun xs hx x hxx => nums_ok.2.2.2 x ((h xs hx).2.2.2 x hxx)
theorem L_right {ls : List (List F.K)} {ss ts : List F.K} (hls : LsOk F ls) (hl : ls.length ≤ 4) (h1 : ss.length = ls.length) (h2 : ts.length = ls.length) (hs : ∀ s ∈ ss, s ≠ 0 ∧ F.Ht 2 s) (ht : ∀ t ∈ ts, F.Ht 4 t) :
    fns tb (n + 7) i__law_lists_right [.int F.p, .lst (encL F ls), .lst (encL F (mvl ls ss ts)), .lst (ss.map F.enc)] = some (.bl true) := by
  rw [fns_succ (fn := f__law_lists_right) rfl]
  have hht := hls.ht
  obtain ⟨_, q, w4, w5, w6, rfl⟩ : ∃ e', evS (fns tb (n + 6)) l__law_lists_right_1 [some (false, .int F.p), some (false, .lst (encL F ls)), some (false, .lst (encL F (mvl ls ss ts))), some (false, .lst (ss.map F.enc)), none, none, none, none] = some (.nx e') ∧ ∃ w4 w5 w6, e' = [some (false, .int F.p), some (false, .lst (encL F ls)), some (false, .lst (encL F (mvl ls ss ts))), some (false, .lst (ss.map F.enc)), w4, w5, w6, none] := by
    refine at_rng (P := fun j e' => ∃ w4 w5 w6, e' = [some (false, .int F.p), some (false, .lst (encL F ls)), some (false, .lst (encL F (mvl ls ss ts))), some (false, .lst (ss.map F.enc)), w4, w5, w6, none]) (n := ls.length) (by simp [runFn, argsOf, startF, evS, ev, evM, keepD, seen, hid, shw, shl, sho, hid1, shl1, sho1, attrD, biD, binD, cmpD, outD, idxD, bindF, bindF.setAllF, bindT, setAll, asSeq, PyD.T.slots, wipeE, isNonD, isiD, tyOf, intPart, cutD, frzAll, frz1, lkD, putD, startI, outI, E.isNil, D.flat, flatL, D.nob, nobL, isL, flatO, PyD.getD', encL]) (rgOk_sm (by omega) (by omega)) ⟨_, _, _, rfl⟩ ?_
    rintro j hj _ ⟨w4, w5, w6, rfl⟩
    have g1 : ls[j]? = some (ls[j]'(by omega)) := List.getElem?_eq_getElem (by omega)
    have g2 : ss[j]? = some (ss[j]'(by omega)) := List.getElem?_eq_getElem (by omega)
    have g3 : ts[j]? = some (ts[j]'(by omega)) := List.getElem?_eq_getElem (by omega)
    have i1 : idxL (encL F ls) (j : Int) = some (.lst ((ls[j]'(by omega)).map F.enc)) := idxL_map (f := fun ys : List F.K => D.lst (ys.map F.enc)) g1
    have i2 : idxL (encL F (mvl ls ss ts)) (j : Int) = some (.lst (((ls[j]'(by omega)).map fun v => ss[j]'(by omega) * v + ts[j]'(by omega)).map F.enc)) := idxL_map (f := fun ys : List F.K => D.lst (ys.map F.enc)) (mvl_at g1 g2 g3)
    have i3 : idxL (ss.map F.enc) (j : Int) = some (F.enc (ss[j]'(by omega))) := idxL_map g2
    obtain ⟨x1, x2, x3, _⟩ := hls _ (List.mem_of_getElem? g1)
    have x4 := hht _ (List.mem_of_getElem? g1)
    obtain ⟨s0, s1⟩ := hs _ (List.mem_of_getElem? g2)
    have t1 := ht _ (List.mem_of_getElem? g3)
    generalize ls[j]'(by omega) = xs at *
    generalize ss[j]'(by omega) = s at *
    generalize ts[j]'(by omega) = t at *
    have hb : LsB F 4 [xs] := ⟨by simp, fun ys hy => by rw [List.mem_singleton.mp hy]; exact ⟨by omega, x4⟩⟩
    have e1 : ((xs.map fun v => [v]).map fun p => (wd' [xs] p)⁻¹) = wts xs := by
      unfold wts
      rw [List.map_map]
      refine List.map_congr_left fun v _ => ?_
      show (1 * dpr v xs)⁻¹ = (dpr v xs)⁻¹
      rw [Semiring.one_mul]
    have L1 := L_lweights (n := n + 1) (ls := [xs]) (ps := xs.map fun v => [v]) hb (fun p hp => by
      obtain ⟨v, hv, rfl⟩ := List.mem_map.mp hp
      refine ⟨rfl, fun j ys a h1 h2 => ?_⟩
      match j, h1, h2 with
      | 0, h1, h2 => cases h1; cases h2; exact hv) (by rw [List.length_map]; omega) (by omega)
    rw [e1] at L1
    have ex : xs.length * (2 * 4 + 1) ≤ 9 * 9 := Nat.mul_le_mul x3 (by omega)
    have L2 := L_list_weights (n := n + 2) (d := .lst (xs.map F.enc)) rfl x4 (by omega) (by omega) (by omega)
    have L3 := L_list_weights (n := n + 2) (d := .tup (xs.map F.enc)) rfl x4 (by omega) (by omega) (by omega)
    have ex2 : xs.length * (2 * 12 + 1) ≤ 9 * 25 := Nat.mul_le_mul x3 (by omega)
    have L4 := L_list_weights (n := n + 2) (h := 12) (d := .lst ((xs.map fun v => s * v + t).map F.enc)) rfl (fun y hy => by
      obtain ⟨v, hv, rfl⟩ := List.mem_map.mp hy
      exact ((s1.mul (x4 v hv)).add t1).up (by omega)) (by rw [List.length_map]; omega) (by rw [List.length_map]; omega) (by omega)
    rw [wts_mv s0 x1] at L4
    have hw : ∀ w ∈ wts xs, F.Ht 200 w := fun w hw => (wts_ht x4 w hw).up (by omega)
    have L5 := L_scaled (n := n + 1) (ls := [xs]) (ss := [s]) (ws := wts xs) hb (fun z hz => by rw [List.mem_singleton.mp hz]; exact ⟨s0, s1⟩) rfl hw (by rw [wts_len]; omega) (by omega) (by omega)
    have e2 : sca [xs] [s] = (s⁻¹) ^ (xs.length - 1) := by
      show (1 : F.K) * _ = _
      rw [Semiring.one_mul]
    rw [e2] at L5
    have R1 := L_row_is (n := n + 1) (F := F) (xs := wts xs) (by rw [wts_len]; omega)
    have R2 := L_row_is (n := n + 1) (F := F) (xs := (wts xs).map fun w => (s⁻¹) ^ (xs.length - 1) * w) (by rw [List.length_map, wts_len]; omega)
    have q1 : eqD (.lst [.lst (xs.map F.enc), .lst ((xs.map fun v => s * v + t).map F.enc)]) (.lst [.lst (xs.map F.enc), .lst ((xs.map fun v => s * v + t).map F.enc)]) = some true := by
      refine eqD_refl (k := 3) (.lst fun y hy => ?_) (by omega)
      rcases List.mem_cons.mp hy with rfl | hy
      · exact nice_lst
      · rw [List.mem_singleton.mp hy]; exact nice_lst
    have cc : ev (fns tb (n + 6)) c__law_lists_right_2 (hid [some (false, .int F.p), some (false, .lst (encL F ls)), some (false, .lst (encL F (mvl ls ss ts))), some (false, .lst (ss.map F.enc)), some (false, .int j), w5, w6, none]) = some (.lst (encP F (xs.map fun v => [v]))) := by
      have e : encP F (xs.map fun v => [v]) = xs.map fun v => D.tup [F.enc v] := by unfold encP; rw [List.map_map]; rfl
      rw [e]
      refine lc_mp (ys := xs) (g := F.enc) (d := .lst (xs.map F.enc)) (by simp [runFn, argsOf, startF, evS, ev, evM, keepD, seen, hid, shw, shl, sho, hid1, shl1, sho1, attrD, biD, binD, cmpD, outD, idxD, bindF, bindF.setAllF, bindT, setAll, asSeq, PyD.T.slots, wipeE, isNonD, isiD, tyOf, intPart, cutD, frzAll, frz1, lkD, putD, startI, outI, E.isNil, D.flat, flatL, D.nob, nobL, isL, flatO, PyD.getD', i1]) rfl (fun v hv => ⟨_, rfl, by simp [runFn, argsOf, startF, evS, ev, evM, keepD, seen, hid, shw, shl, sho, hid1, shl1, sho1, attrD, biD, binD, cmpD, outD, idxD, bindF, bindF.setAllF, bindT, setAll, asSeq, PyD.T.slots, wipeE, isNonD, isiD, tyOf, intPart, cutD, frzAll, frz1, lkD, putD, startI, outI, E.isNil, D.flat, flatL, D.nob, nobL, isL, flatO, PyD.getD']⟩) (by unfold LIM; omega)
    have enc1 : encL F [xs] = [.lst (xs.map F.enc)] := rfl
    have encs : [s].map F.enc = [F.enc s] := rfl
    rw [enc1] at L1 L5
    rw [encs] at L5
    generalize wts xs = W at *
    generalize (s⁻¹) ^ (xs.length - 1) = z at *
    generalize (W.map fun w => z * w).map F.enc = W2 at *
    generalize W.map F.enc = W1 at *
    generalize (xs.map fun v => s * v + t).map F.enc = Y at *
    generalize encP F (xs.map fun v => [v]) = Z at *
    generalize xs.map F.enc = X at *
    generalize encL F ls = A at *
    generalize encL F (mvl ls ss ts) = B at *
    generalize ss.map F.enc = C at *
    generalize F.enc s = c at *
    simp only [hid, hid1, List.map_cons, List.map_nil] at cc
    refine ⟨_, rfl, [some (false, .int F.p), some (false, .lst A), some (false, .lst B), some (false, .lst C), some (false, .int j), some (false, .lst W1), some (false, .lst [.lst X, .lst Y]), none], .inl ?_, _, _, _, rfl⟩
    refine (seq_nx (e := [some (false, .int F.p), some (false, .lst A), some (false, .lst B), some (false, .lst C), some (false, .int j), some (false, .lst W1), w6, none]) ?_).trans ?_
    · refine asg_of (m := {}) (i := 5) ?_ rfl
      simp only [seen, hid, hid1, List.map_cons, List.map_nil]
      simp [runFn, argsOf, startF, evS, ev, evM, keepD, seen, hid, shw, shl, sho, hid1, shl1, sho1, attrD, biD, binD, cmpD, outD, idxD, bindF, bindF.setAllF, bindT, setAll, asSeq, PyD.T.slots, wipeE, isNonD, isiD, tyOf, intPart, cutD, frzAll, frz1, lkD, putD, startI, outI, E.isNil, D.flat, flatL, D.nob, nobL, isL, flatO, PyD.getD', i1, cc, L1]
    refine (seq_nx (e := [some (false, .int F.p), some (false, .lst A), some (false, .lst B), some (false, .lst C), some (false, .int j), some (false, .lst W1), some (false, .lst [.lst X, .lst Y]), none]) (by simp [runFn, argsOf, startF, evS, ev, evM, keepD, seen, hid, shw, shl, sho, hid1, shl1, sho1, attrD, biD, binD, cmpD, outD, idxD, bindF, bindF.setAllF, bindT, setAll, asSeq, PyD.T.slots, wipeE, isNonD, isiD, tyOf, intPart, cutD, frzAll, frz1, lkD, putD, startI, outI, E.isNil, D.flat, flatL, D.nob, nobL, isL, flatO, PyD.getD', i1, i2])).trans ?_
    have k0 : idxL [D.lst X, .lst Y] 0 = some (.lst X) := rfl
    have k1 : idxL [D.lst X, .lst Y] 1 = some (.lst Y) := rfl
    refine (seq_nx (e := [some (false, .int F.p), some (false, .lst A), some (false, .lst B), some (false, .lst C), some (false, .int j), some (false, .lst W1), some (false, .lst [.lst X, .lst Y]), none]) (by simp [runFn, argsOf, startF, evS, ev, evM, keepD, seen, hid, shw, shl, sho, hid1, shl1, sho1, attrD, biD, binD, cmpD, outD, idxD, bindF, bindF.setAllF, bindT, setAll, asSeq, PyD.T.slots, wipeE, isNonD, isiD, tyOf, intPart, cutD, frzAll, frz1, lkD, putD, startI, outI, E.isNil, D.flat, flatL, D.nob, nobL, isL, flatO, PyD.getD', k0, L2, R1])).trans ?_
    refine (seq_nx (e := [some (false, .int F.p), some (false, .lst A), some (false, .lst B), some (false, .lst C), some (false, .int j), some (false, .lst W1), some (false, .lst [.lst X, .lst Y]), none]) (by simp [runFn, argsOf, startF, evS, ev, evM, keepD, seen, hid, shw, shl, sho, hid1, shl1, sho1, attrD, biD, binD, cmpD, outD, idxD, bindF, bindF.setAllF, bindT, setAll, asSeq, PyD.T.slots, wipeE, isNonD, isiD, tyOf, intPart, cutD, frzAll, frz1, lkD, putD, startI, outI, E.isNil, D.flat, flatL, D.nob, nobL, isL, flatO, PyD.getD', k1, i1, i3, L4, L5, R2])).trans ?_
    simp [runFn, argsOf, startF, evS, ev, evM, keepD, seen, hid, shw, shl, sho, hid1, shl1, sho1, attrD, biD, binD, cmpD, outD, idxD, bindF, bindF.setAllF, bindT, setAll, asSeq, PyD.T.slots, wipeE, isNonD, isiD, tyOf, intPart, cutD, frzAll, frz1, lkD, putD, startI, outI, E.isNil, D.flat, flatL, D.nob, nobL, isL, flatO, PyD.getD', i1, i2, q1, L3, R1]
  simp [runFn, argsOf, startF, evS, ev, evM, keepD, seen, hid, shw, shl, sho, hid1, shl1, sho1, attrD, biD, binD, cmpD, outD, idxD, bindF, bindF.setAllF, bindT, setAll, asSeq, PyD.T.slots, wipeE, isNonD, isiD, tyOf, intPart, cutD, frzAll, frz1, lkD, putD, startI, outI, E.isNil, D.flat, flatL, D.nob, nobL, isL, flatO, PyD.getD', f__law_lists_right, b__law_lists_right, q]
end
end PyD

namespace PyD
open PySem Lean.Grind
theorem findIdx_ok {α : Type} {p : α → Bool} {q : D → Bool} {g : α → D} : ∀ {ys : List α}, (∀ y ∈ ys, q (g y) = p y) → (∃ y ∈ ys, p y = true) → (ys.map g).findIdx? q = some (ys.findIdx p) ∧ ∃ y, ys[ys.findIdx p]? = some y ∧ p y = true
  | [], _, h => by obtain ⟨y, h, _⟩ := h; cases h
  | y :: ys, hq, h => by
    have e := hq y (List.mem_cons_self ..)
    cases c : p y with
    | true =>
      rw [c] at e
      simp [List.findIdx?_cons, List.findIdx_cons, e, c]
    | false =>
      rw [c] at e
      obtain ⟨i1, z, i2, i3⟩ := findIdx_ok (p := p) (q := q) (g := g) (ys := ys) (fun z hz => hq z (List.mem_cons_of_mem _ hz)) (by
        obtain ⟨z, hz, hp⟩ := h
        rcases List.mem_cons.mp hz with rfl | hz
        · rw [c] at hp; cases hp
        · exact ⟨z, hz, hp⟩)
      refine ⟨?_, z, ?_, i3⟩
      · simp [List.findIdx?_cons, List.findIdx_cons, e, c, i1]
      · simpa [List.findIdx_cons, c] using i2
open Classical in
/-- the first place of y -/
noncomputable def ix1 {α : Type} (ys : List α) (y : α) : Nat := ys.findIdx fun z => decide (z = y)
theorem ix1_at {α : Type} {ys : List α} {y : α} (h : y ∈ ys) : ys[ix1 ys y]? = some y := by
  classical
  unfold ix1
  have hl : ys.findIdx (fun z => decide (z = y)) < ys.length := List.findIdx_lt_length_of_exists ⟨y, h, by simp⟩
  rw [List.getElem?_eq_getElem hl]
  have := List.findIdx_getElem (w := hl)
  exact congrArg some (of_decide_eq_true this)
theorem ev_index {α : Type} {Φ : Fns} {a b : E} {en : Env} {ys : List α} {g : α → D} {y : α} {m : Nat} (h1 : ev Φ a en = some (.lst (ys.map g))) (h2 : ev Φ b en = some (g y)) (hn : ∀ y, Nice m (g y)) (hi : ∀ x y, g x = g y → x = y) (hm : m < 64) (h : y ∈ ys) :
    ev Φ (.index a b) en = some (.int (ix1 ys y : Nat)) := by
  classical
  have o1 : okEq (g y) = true := (hn y).ok (by omega)
  have o2 : okEq (.lst (ys.map g)) = true := (Nice.lst (k := m) fun z hz => by
    obtain ⟨x, _, rfl⟩ := List.mem_map.mp hz
    exact hn x).ok (by omega)
  have f := (findIdx_ok (p := fun z => decide (z = y)) (q := fun z => PyData.eqv z.py (g y).py) (g := g) (ys := ys) (fun z _ => by
    rw [eqv_dec (hn z) (hn y)]
    exact decide_eq_decide.mpr ⟨hi z y, fun e => by rw [e]⟩) ⟨y, h, by simp⟩).1
  simp only [ev, h1, h2, Option.bind_some, o1, o2, Bool.and_self, if_true, f, Option.map_some]
  rfl
section
variable {F : Fc} {h k n H : Nat} {ls lw : List (List F.K)} {p : List F.K} {rk : List Nat}
theorem nice_pt (p : List F.K) : Nice 2 (.tup (p.map F.enc)) := .tup fun y hy => by
  obtain ⟨x, _, rfl⟩ := List.mem_map.mp hy
  exact Fc.enc_nice
theorem tup_inj (p q : List F.K) (e : D.tup (p.map F.enc) = .tup (q.map F.enc)) : p = q := by
  injection e with e
  exact (List.map_inj_right fun _ _ e => Fc.enc_inj e).mp e
theorem prodlen_app {α : Type} (ls ms : List (List α)) : prodlen (ls ++ ms) = prodlen ls * prodlen ms := by
  induction ms using snoc_ind with
  | h0 => rw [List.append_nil]; simp [prodlen]
  | h1 ms xs ih => rw [← List.append_assoc, prodlen_snoc, prodlen_snoc, ih, Nat.mul_assoc]
/-- the places of the renamed points, and the way back -/
theorem home_at (hr : rk.Perm (List.range ls.length)) (hn : ∀ xs ∈ ls, xs.Nodup) {j : Nat} (hj : j < (pts ls).length) :
    ∃ (i : Nat) (p : List F.K), ((pts ls).map fun p => ix1 (pts (rls ls rk)) (rpt p rk))[i]? = some j ∧ (pts ls)[i]? = some p ∧ (pts (rls ls rk))[j]? = some (rpt p rk) := by
  have hp := ren_pts hr hn
  have hl := hp.length_eq
  rw [List.length_map] at hl
  have g : (pts (rls ls rk))[j]? = some ((pts (rls ls rk))[j]'(by omega)) := List.getElem?_eq_getElem (by omega)
  obtain ⟨p, hp1, e⟩ := ren_mem hr (List.mem_of_getElem? g)
  obtain ⟨i, hi, e2⟩ := List.mem_iff_getElem.mp hp1
  have gi : (pts ls)[i]? = some p := by rw [List.getElem?_eq_getElem hi, e2]
  refine ⟨i, p, ?_, gi, by rw [g, e]⟩
  rw [List.getElem?_map, gi, Option.map_some]
  have hm : rpt p rk ∈ pts (rls ls rk) := hp.mem_iff.mp (List.mem_map.mpr ⟨p, hp1, rfl⟩)
  have a1 := ix1_at hm
  rw [← e] at g
  have nd := pts_nodup (rls ls rk) fun xs hx => hn xs ((rls_perm hr).mem_iff.mp hx)
  obtain ⟨l1, e1⟩ := List.getElem?_eq_some_iff.mp a1
  have e3 : (pts (rls ls rk))[j]'(by omega) = rpt p rk := by
    have := List.getElem?_eq_getElem (l := pts (rls ls rk)) (i := j) (by omega)
    rw [g] at this
    exact (Option.some.inj this).symm
  exact congrArg some ((List.getElem_inj nd).mp (e1.trans e3.symm))
end
end PyD

namespace PyD
open PySem Lean.Grind
theorem field_at {i : Int} (h0 : 0 ≤ i) (h1 : i < 6) : ∃ F : Fc, idxL [D.int 2, .int 3, .int 5, .int 7, .int 11, .int 0] i = some (.int F.p) := by
  have c : i = 0 ∨ i = 1 ∨ i = 2 ∨ i = 3 ∨ i = 4 ∨ i = 5 := by omega
  rcases c with rfl | rfl | rfl | rfl | rfl | rfl
  · exact ⟨.z 2 ⟨by decide⟩, rfl⟩
  · exact ⟨.z 3 ⟨by decide⟩, rfl⟩
  · exact ⟨.z 5 ⟨by decide⟩, rfl⟩
  · exact ⟨.z 7 ⟨by decide⟩, rfl⟩
  · exact ⟨.z 11 ⟨by decide⟩, rfl⟩
  · exact ⟨.q, rfl⟩
section
variable {F : Fc} {n : Nat} {ls : List (List F.K)} {rk : List Nat}
/-- some numbers of each list, in the renamed order -/
def few (ls : List (List F.K)) (rk : List Nat) : List (List F.K) := ((rls ls rk).map fun xs => xs.take 2).take 2
theorem few_ok (hr : rk.Perm (List.range ls.length)) (h1 : 1 ≤ ls.length) (hls : LsOk F ls) : 1 ≤ (few ls rk).length ∧ (few ls rk).length ≤ 2 ∧ prodlen (few ls rk) ≤ 4 ∧ ∀ xs ∈ few ls rk, xs.Nodup ∧ 1 ≤ xs.length ∧ xs.length ≤ 2 ∧ ∀ x ∈ xs, F.Ht 4 x := by
  have hl : (rls ls rk).length = ls.length := (rls_perm hr).length_eq
  have he : ∀ xs ∈ few ls rk, xs.Nodup ∧ 1 ≤ xs.length ∧ xs.length ≤ 2 ∧ ∀ x ∈ xs, F.Ht 4 x := by
    intro xs hx
    obtain ⟨ys, hy, rfl⟩ := List.mem_map.mp (List.mem_of_mem_take hx)
    have hy' := (rls_perm hr).mem_iff.mp hy
    obtain ⟨a1, a2, a3, a4⟩ := hls ys hy'
    refine ⟨List.Sublist.nodup (List.take_sublist 2 ys) a1, by rw [List.length_take]; omega, by rw [List.length_take]; omega, fun x hx => hls.ht ys hy' x (List.mem_of_mem_take hx)⟩
  have l2 : (few ls rk).length = min 2 ls.length := by unfold few; rw [List.length_take, List.length_map, hl]
  refine ⟨by omega, by omega, ?_, he⟩
  match hf : few ls rk, l2 with
  | [], _ => simp [prodlen]
  | [a], _ =>
    have := he a (by rw [hf]; simp)
    simp [prodlen]; omega
  | [a, b], _ =>
    have h1 := he a (by rw [hf]; simp)
    have h2 := he b (by rw [hf]; simp)
    simp only [prodlen, List.foldl_cons, List.foldl_nil, Nat.one_mul]
    exact Nat.mul_le_mul h1.2.2.1 h2.2.2.1
  | _ :: _ :: _ :: _, l2 => simp at l2; omega
end
end PyD

namespace PyD
open PySem Lean.Grind
section
variable {F : Fc} {n : Nat} {ls : List (List F.K)} {rk : List Nat}
theorem seq_asgL {Φ : Fns} {N i : Nat} {xs ys : List D} {d : D} {e : E} {b : S} (hy : xs ++ [d] = ys) (hi : xs.length = i) (hN : i < N) (h : ev Φ e (pH N xs) = some d) : evS Φ (.seq (.asg i e {}) b) (pE N xs) = evS Φ b (pE N ys) := hy ▸ seq_asg hi hN h
theorem sJ {N j k : Nat} {xs : List D} {v : Option D} (h : k ≠ j) : ((((pH N xs).set k v)[j]?).join) = xs[j]? := by
  rw [List.getElem?_set_ne h, pH_at]
theorem oJ {N k : Nat} {xs : List D} {v : Option D} (hx : xs.length ≤ N) (h : k < N) : ((((pH N xs).set k v)[k]?).join) = v := pv_own (Φ := fun _ _ => none) hx h
theorem sJ2 {N j k k' : Nat} {xs : List D} {v v' : Option D} (h : k ≠ j) (h' : k' ≠ j) : (((((pH N xs).set k v).set k' v')[j]?).join) = xs[j]? := by
  rw [List.getElem?_set_ne h', List.getElem?_set_ne h, pH_at]
theorem sJ3 {N j k k' : Nat} {xs : List D} {v v' : Option D} (hx : xs.length ≤ N) (hj : j < N) (h : k = j) (h' : k' ≠ j) : (((((pH N xs).set k v).set k' v')[j]?).join) = v := by
  subst h
  rw [List.getElem?_set_ne h']
  exact oJ hx hj
theorem oJ2 {N k k' : Nat} {xs : List D} {v v' : Option D} (hx : xs.length ≤ N) (h : k' < N) : (((((pH N xs).set k v).set k' v')[k']?).join) = v' := by
  rw [List.getElem?_set_self (by rw [List.length_set, pH_len hx]; exact h)]
  rfl
theorem ev_ix {Φ : Fns} {a b : E} {en : Env} {x y z : D} (h1 : ev Φ a en = some x) (h2 : ev Φ b en = some y) (h3 : idxD x y = some z) : ev Φ (.idx a b) en = some z := by
  simp only [ev, h1, h2, Option.bind_some, h3]
theorem ev_c3 {Φ : Fns} {f : Nat} {a b c : E} {en : Env} {x y z w : D} (h1 : ev Φ a en = some x) (h2 : ev Φ b en = some y) (h3 : ev Φ c en = some z) (h : Φ f [x, y, z] = some w) : ev Φ (.call f (.cons a (.cons b (.cons c .nil)))) en = some w := by
  simp only [ev, h1, h2, h3, Option.bind_some, h]
theorem ev_c4 {Φ : Fns} {f : Nat} {a b c e : E} {en : Env} {x y z v w : D} (h1 : ev Φ a en = some x) (h2 : ev Φ b en = some y) (h3 : ev Φ c en = some z) (h4 : ev Φ e en = some v) (h : Φ f [x, y, z, v] = some w) : ev Φ (.call f (.cons a (.cons b (.cons c (.cons e .nil))))) en = some w := by
  simp only [ev, h1, h2, h3, h4, Option.bind_some, h]
theorem ev_c1 {Φ : Fns} {f : Nat} {a : E} {en : Env} {x w : D} (h1 : ev Φ a en = some x) (h : Φ f [x] = some w) : ev Φ (.call f (.cons a .nil)) en = some w := by
  simp only [ev, h1, Option.bind_some, h]
theorem ev_c2 {Φ : Fns} {f : Nat} {a b : E} {en : Env} {x y w : D} (h1 : ev Φ a en = some x) (h2 : ev Φ b en = some y) (h : Φ f [x, y] = some w) : ev Φ (.call f (.cons a (.cons b .nil))) en = some w := by
  simp only [ev, h1, h2, Option.bind_some, h]
theorem ev_not {Φ : Fns} {a : E} {en : Env} (h1 : ev Φ a en = some (.bl true)) : ev Φ (.not a) en = some (.bl false) := by
  simp [runFn, argsOf, startF, evS, ev, evM, keepD, seen, hid, shw, shl, sho, hid1, shl1, sho1, attrD, biD, binD, cmpD, outD, idxD, bindF, bindF.setAllF, bindT, setAll, asSeq, PyD.T.slots, wipeE, isNonD, isiD, tyOf, intPart, cutD, frzAll, frz1, lkD, putD, startI, outI, E.isNil, D.flat, flatL, D.nob, nobL, isL, flatO, PyD.getD', h1]
theorem ev_list {Φ : Fns} {a : E} {en : Env} {xs : List D} (h1 : ev Φ a en = some (.lst xs)) : ev Φ (.bi .list (.cons a .nil)) en = some (.lst xs) := by
  simp [runFn, argsOf, startF, evS, ev, evM, keepD, seen, hid, shw, shl, sho, hid1, shl1, sho1, attrD, biD, binD, cmpD, outD, idxD, bindF, bindF.setAllF, bindT, setAll, asSeq, PyD.T.slots, wipeE, isNonD, isiD, tyOf, intPart, cutD, frzAll, frz1, lkD, putD, startI, outI, E.isNil, D.flat, flatL, D.nob, nobL, isL, flatO, PyD.getD', h1]
theorem ev_tuple {Φ : Fns} {a : E} {en : Env} {xs : List D} (h1 : ev Φ a en = some (.lst xs)) : ev Φ (.bi .tuple (.cons a .nil)) en = some (.tup xs) := by
  simp [runFn, argsOf, startF, evS, ev, evM, keepD, seen, hid, shw, shl, sho, hid1, shl1, sho1, attrD, biD, binD, cmpD, outD, idxD, bindF, bindF.setAllF, bindT, setAll, asSeq, PyD.T.slots, wipeE, isNonD, isiD, tyOf, intPart, cutD, frzAll, frz1, lkD, putD, startI, outI, E.isNil, D.flat, flatL, D.nob, nobL, isL, flatO, PyD.getD', h1]
theorem ev_int {Φ : Fns} {en : Env} {i : Int} : ev Φ (.int i) en = some (.int i) := by simp only [ev]
theorem ev_sl2 {Φ : Fns} {a : E} {en : Env} {xs : List D} {i : Int} (h1 : ev Φ a en = some (.lst xs)) : ev Φ (.sl a .nil (.int i)) en = some (.lst (cutL xs none (some i))) := by
  simp [runFn, argsOf, startF, evS, ev, evM, keepD, seen, hid, shw, shl, sho, hid1, shl1, sho1, attrD, biD, binD, cmpD, outD, idxD, bindF, bindF.setAllF, bindT, setAll, asSeq, PyD.T.slots, wipeE, isNonD, isiD, tyOf, intPart, cutD, frzAll, frz1, lkD, putD, startI, outI, E.isNil, D.flat, flatL, D.nob, nobL, isL, flatO, PyD.getD', h1]
theorem ev_lenL {Φ : Fns} {a : E} {en : Env} {xs : List D} (h1 : ev Φ a en = some (.lst xs)) : ev Φ (.bi .len (.cons a .nil)) en = some (.int (xs.length : Nat)) := by
  simp [runFn, argsOf, startF, evS, ev, evM, keepD, seen, hid, shw, shl, sho, hid1, shl1, sho1, attrD, biD, binD, cmpD, outD, idxD, bindF, bindF.setAllF, bindT, setAll, asSeq, PyD.T.slots, wipeE, isNonD, isiD, tyOf, intPart, cutD, frzAll, frz1, lkD, putD, startI, outI, E.isNil, D.flat, flatL, D.nob, nobL, isL, flatO, PyD.getD', h1]
theorem ev_l1 {Φ : Fns} {a : E} {en : Env} {x : D} (h1 : ev Φ a en = some x) : ev Φ (.lst (.cons a .nil)) en = some (.lst [x]) := by
  simp [runFn, argsOf, startF, evS, ev, evM, keepD, seen, hid, shw, shl, sho, hid1, shl1, sho1, attrD, biD, binD, cmpD, outD, idxD, bindF, bindF.setAllF, bindT, setAll, asSeq, PyD.T.slots, wipeE, isNonD, isiD, tyOf, intPart, cutD, frzAll, frz1, lkD, putD, startI, outI, E.isNil, D.flat, flatL, D.nob, nobL, isL, flatO, PyD.getD', h1]
theorem ev_l2 {Φ : Fns} {a b : E} {en : Env} {x y : D} (h1 : ev Φ a en = some x) (h2 : ev Φ b en = some y) : ev Φ (.lst (.cons a (.cons b .nil))) en = some (.lst [x, y]) := by
  simp [runFn, argsOf, startF, evS, ev, evM, keepD, seen, hid, shw, shl, sho, hid1, shl1, sho1, attrD, biD, binD, cmpD, outD, idxD, bindF, bindF.setAllF, bindT, setAll, asSeq, PyD.T.slots, wipeE, isNonD, isiD, tyOf, intPart, cutD, frzAll, frz1, lkD, putD, startI, outI, E.isNil, D.flat, flatL, D.nob, nobL, isL, flatO, PyD.getD', h1, h2]
theorem ev_cat {Φ : Fns} {a b : E} {en : Env} {x y : List D} (h1 : ev Φ a en = some (.lst x)) (h2 : ev Φ b en = some (.lst y)) (h : x.length + y.length ≤ 100) : ev Φ (.bin .add a b) en = some (.lst (x ++ y)) := by
  have : x.length + y.length ≤ LIM := by unfold LIM; omega
  simp [runFn, argsOf, startF, evS, ev, evM, keepD, seen, hid, shw, shl, sho, hid1, shl1, sho1, attrD, biD, binD, cmpD, outD, idxD, bindF, bindF.setAllF, bindT, setAll, asSeq, PyD.T.slots, wipeE, isNonD, isiD, tyOf, intPart, cutD, frzAll, frz1, lkD, putD, startI, outI, E.isNil, D.flat, flatL, D.nob, nobL, isL, flatO, PyD.getD', h1, h2, this]
theorem ev_gt {Φ : Fns} {a b c : E} {en : Env} {x : Int} {y z : D} (h1 : ev Φ a en = some (.int x)) (h2 : ev Φ b en = some y) (h3 : ev Φ c en = some z) : ev Φ (.ite (.cmp .gt a (.int 0)) b c) en = some (if 0 < x then y else z) := by
  by_cases h : 0 < x <;> simp [runFn, argsOf, startF, evS, ev, evM, keepD, seen, hid, shw, shl, sho, hid1, shl1, sho1, attrD, biD, binD, cmpD, outD, idxD, bindF, bindF.setAllF, bindT, setAll, asSeq, PyD.T.slots, wipeE, isNonD, isiD, tyOf, intPart, cutD, frzAll, frz1, lkD, putD, startI, outI, E.isNil, D.flat, flatL, D.nob, nobL, isL, flatO, PyD.getD', h1, h2, h3, h]
/-- the law's steps, whatever the data -/
theorem law_steps {Φ : Fns} {sc pool dv p lists m points wts grid places high scaled turned rl others home along few fp small fg g1 r1 g2 r2 lower rows due lg t1 t2 t3 rv q : D} {pz : Int} {L0 scales shifts rk cut pl values : List D} (e1 : Φ i__law_pool [sc, .int 160] = some pool) (e2 : Φ i__law_draw [pool, .int 0, .int 6] = some dv) (e2b : idxD (.tup [.int 2, .int 3, .int 5, .int 7, .int 11, .int 0]) dv = some p) (ep : p = .int pz) (e3 : Φ i__law_lists [pool, p, if 0 < pz then .int 16 else .int 8] = some lists) (el : lists = .lst L0) (e4 : .int (L0.length : Nat) = m) (e5 : Φ i__law_points [lists] = some points)
    (c1 : ∀ xs, xs.length ≤ 31 → xs[1]? = some pool → xs[2]? = some p → xs[4]? = some m → ev Φ c_law_1 (pH 31 xs) = some (.lst scales))
    (c2 : ∀ xs, xs.length ≤ 31 → xs[1]? = some pool → xs[2]? = some p → xs[4]? = some m → ev Φ c_law_2 (pH 31 xs) = some (.lst shifts))
    (e8 : Φ i__law_ranking [pool, .int 48, m] = some (.lst rk)) (e9 : Φ i__law_weights [p, lists, points] = some wts) (e10 : Φ i__law_grid [p, lists] = some grid) (w1 : Φ i__law_twice [grid, p, wts] = some (.bl true)) (e11 : Φ i__law_moved_lists [p, lists, .lst scales, .lst shifts] = some places) (e11b : Φ i__law_lists_right [p, lists, places, .lst scales] = some (.bl true)) (e12 : Φ i_moved [grid, .lst scales, .tup shifts] = some high) (e13 : Φ i__law_scaled [p, lists, .lst scales, wts] = some scaled) (w2 : Φ i__law_twice [high, p, scaled] = some (.bl true)) (e14 : Φ i_renamed [grid, .lst rk] = some turned)
    (c3 : ∀ xs, xs.length ≤ 31 → xs[3]? = some lists → xs[8]? = some (.lst rk) → ev Φ c_law_3 (pH 31 xs) = some rl) (e15 : Φ i__law_points [rl] = some others)
    (c4 : ∀ xs, xs.length ≤ 31 → xs[5]? = some points → xs[8]? = some (.lst rk) → xs[15]? = some others → ev Φ c_law_4 (pH 31 xs) = some home)
    (c6 : ∀ xs, xs.length ≤ 31 → xs[5]? = some points → xs[9]? = some wts → xs[16]? = some home → ev Φ c_law_6 (pH 31 xs) = some along) (w3 : Φ i__law_twice [turned, p, along] = some (.bl true))
    (c7 : ∀ xs, xs.length ≤ 31 → xs[3]? = some lists → xs[8]? = some (.lst rk) → ev Φ c_law_7 (pH 31 xs) = some (.lst cut)) (e18 : .lst (cutL cut none (some 2)) = few) (e19p : Φ i__law_points [few] = some fp) (e19 : Φ i__law_weights [p, few, fp] = some small) (e20 : Φ i__law_grid [p, few] = some fg) (j1 : Φ i_joined [grid, fg] = some g1) (p1 : Φ i__law_products [p, wts, small] = some r1) (w4 : Φ i__law_twice [g1, p, r1] = some (.bl true)) (j2 : Φ i_joined [fg, high] = some g2) (p2 : Φ i__law_products [p, small, scaled] = some r2) (w5 : Φ i__law_twice [g2, p, r2] = some (.bl true))
    (e21 : Φ i__law_lesser [pool, .int 60, lists] = some lower) (e22 : Φ i__law_points [lower] = some rows)
    (c8 : ∀ xs, xs.length ≤ 31 → xs[2]? = some p → xs[3]? = some lists → xs[5]? = some points → xs[9]? = some wts → xs[20]? = some lower → xs[21]? = some rows → ev Φ c_law_8 (pH 31 xs) = some due) (e23 : Φ i__law_grid [p, lower] = some lg) (w6 : Φ i__law_twice [lg, p, due] = some (.bl true)) (ept : points = .lst pl) (epl : .int (pl.length : Nat) = q) (e24 : Φ i__law_told [pool, .int 90, p, q] = some (.lst values))
    (u1 : Φ i_weighed_sum [grid, .lst values] = some t1) (u2 : Φ i_weighed_sum [high, .lst values] = some t2) (u3 : Φ i_renamed_values [grid, .lst rk, .lst values] = some rv) (u4 : Φ i_weighed_sum [turned, rv] = some t3) (u5 : Φ i__law_added [p, wts, .lst values] = some t1) (u6 : Φ i__law_scaled [p, lists, .lst scales, .lst [t1]] = some (.lst [t2])) (u7 : Φ i__law_row_is [p, .lst [t1, t2, t3], .lst [t1, t2, t1]] = some (.bl true)) (q7 : eqD (.lst values) (.lst values) = some true) : evS Φ b_law (pE 31 [sc]) = some (.rt false (.bl true)) := by
  unfold b_law
  refine Eq.trans (seq_asgL (ys := [sc, pool]) rfl (by rfl) (by decide) (ev_c2 (pv rfl) ev_int e1)) ?_
  refine Eq.trans (seq_asgL (ys := [sc, pool, p]) rfl (by rfl) (by decide) (ev_ix (x := .tup [.int 2, .int 3, .int 5, .int 7, .int 11, .int 0]) (by simp only [ev, Option.bind_some]) (ev_c3 (pv rfl) ev_int ev_int e2) e2b)) ?_
  refine Eq.trans (seq_asgL (ys := [sc, pool, p, lists]) rfl (by rfl) (by decide) (ev_c3 (pv rfl) (pv rfl) (ev_gt (pv (ep ▸ rfl)) ev_int ev_int) e3)) ?_
  refine Eq.trans (seq_asgL (ys := [sc, pool, p, lists, m]) rfl (by rfl) (by decide) ((ev_lenL (pv (el ▸ rfl))).trans (congrArg some e4))) ?_
  refine Eq.trans (seq_asgL (ys := [sc, pool, p, lists, m, points]) rfl (by rfl) (by decide) (ev_c1 (pv rfl) e5)) ?_
  refine Eq.trans (seq_asgL (ys := [sc, pool, p, lists, m, points, .lst scales]) rfl (by rfl) (by decide) (c1 _ (by simp) rfl rfl rfl)) ?_
  refine Eq.trans (seq_asgL (ys := [sc, pool, p, lists, m, points, .lst scales, .lst shifts]) rfl (by rfl) (by decide) (c2 _ (by simp) rfl rfl rfl)) ?_
  refine Eq.trans (seq_asgL (ys := [sc, pool, p, lists, m, points, .lst scales, .lst shifts, .lst rk]) rfl (by rfl) (by decide) (ev_c3 (pv rfl) ev_int (pv rfl) e8)) ?_
  refine Eq.trans (seq_asgL (ys := [sc, pool, p, lists, m, points, .lst scales, .lst shifts, .lst rk, wts]) rfl (by rfl) (by decide) (ev_c3 (pv rfl) (pv rfl) (pv rfl) e9)) ?_
  refine Eq.trans (seq_asgL (ys := [sc, pool, p, lists, m, points, .lst scales, .lst shifts, .lst rk, wts, grid]) rfl (by rfl) (by decide) (ev_c2 (pv rfl) (pv rfl) e10)) ?_
  refine Eq.trans (seq_no (ev_not (ev_c3 (pv rfl) (pv rfl) (pv rfl) w1))) ?_
  refine Eq.trans (seq_asgL (ys := [sc, pool, p, lists, m, points, .lst scales, .lst shifts, .lst rk, wts, grid, places]) rfl (by rfl) (by decide) (ev_c4 (pv rfl) (pv rfl) (pv rfl) (pv rfl) e11)) ?_
  refine Eq.trans (seq_no (ev_not (ev_c4 (pv rfl) (pv rfl) (pv rfl) (pv rfl) e11b))) ?_
  refine Eq.trans (seq_asgL (ys := [sc, pool, p, lists, m, points, .lst scales, .lst shifts, .lst rk, wts, grid, places, high]) rfl (by rfl) (by decide) (ev_c3 (pv rfl) (ev_list (pv rfl)) (ev_tuple (pv rfl)) e12)) ?_
  refine Eq.trans (seq_asgL (ys := [sc, pool, p, lists, m, points, .lst scales, .lst shifts, .lst rk, wts, grid, places, high, scaled]) rfl (by rfl) (by decide) (ev_c4 (pv rfl) (pv rfl) (pv rfl) (pv rfl) e13)) ?_
  refine Eq.trans (seq_no (ev_not (ev_c3 (pv rfl) (pv rfl) (pv rfl) w2))) ?_
  refine Eq.trans (seq_asgL (ys := [sc, pool, p, lists, m, points, .lst scales, .lst shifts, .lst rk, wts, grid, places, high, scaled, turned]) rfl (by rfl) (by decide) (ev_c2 (pv rfl) (ev_list (pv rfl)) e14)) ?_
  refine Eq.trans (seq_asgL (ys := [sc, pool, p, lists, m, points, .lst scales, .lst shifts, .lst rk, wts, grid, places, high, scaled, turned, others]) rfl (by rfl) (by decide) (ev_c1 (c3 _ (by simp) rfl rfl) e15)) ?_
  refine Eq.trans (seq_asgL (ys := [sc, pool, p, lists, m, points, .lst scales, .lst shifts, .lst rk, wts, grid, places, high, scaled, turned, others, home]) rfl (by rfl) (by decide) (c4 _ (by simp) rfl rfl rfl)) ?_
  refine Eq.trans (seq_asgL (ys := [sc, pool, p, lists, m, points, .lst scales, .lst shifts, .lst rk, wts, grid, places, high, scaled, turned, others, home, along]) rfl (by rfl) (by decide) (c6 _ (by simp) rfl rfl rfl)) ?_
  refine Eq.trans (seq_no (ev_not (ev_c3 (pv rfl) (pv rfl) (pv rfl) w3))) ?_
  refine Eq.trans (seq_asgL (ys := [sc, pool, p, lists, m, points, .lst scales, .lst shifts, .lst rk, wts, grid, places, high, scaled, turned, others, home, along, few]) rfl (by rfl) (by decide) ((ev_sl2 (c7 _ (by simp) rfl rfl)).trans (congrArg some e18))) ?_
  refine Eq.trans (seq_asgL (ys := [sc, pool, p, lists, m, points, .lst scales, .lst shifts, .lst rk, wts, grid, places, high, scaled, turned, others, home, along, few, small]) rfl (by rfl) (by decide) (ev_c3 (pv rfl) (pv rfl) (ev_c1 (pv rfl) e19p) e19)) ?_
  refine Eq.trans (seq_no (ev_not (ev_c3 (ev_c2 (pv rfl) (ev_c2 (pv rfl) (pv rfl) e20) j1) (pv rfl) (ev_c3 (pv rfl) (pv rfl) (pv rfl) p1) w4))) ?_
  refine Eq.trans (seq_no (ev_not (ev_c3 (ev_c2 (ev_c2 (pv rfl) (pv rfl) e20) (pv rfl) j2) (pv rfl) (ev_c3 (pv rfl) (pv rfl) (pv rfl) p2) w5))) ?_
  refine Eq.trans (seq_asgL (ys := [sc, pool, p, lists, m, points, .lst scales, .lst shifts, .lst rk, wts, grid, places, high, scaled, turned, others, home, along, few, small, lower]) rfl (by rfl) (by decide) (ev_c3 (pv rfl) ev_int (pv rfl) e21)) ?_
  refine Eq.trans (seq_asgL (ys := [sc, pool, p, lists, m, points, .lst scales, .lst shifts, .lst rk, wts, grid, places, high, scaled, turned, others, home, along, few, small, lower, rows]) rfl (by rfl) (by decide) (ev_c1 (pv rfl) e22)) ?_
  refine Eq.trans (seq_asgL (ys := [sc, pool, p, lists, m, points, .lst scales, .lst shifts, .lst rk, wts, grid, places, high, scaled, turned, others, home, along, few, small, lower, rows, due]) rfl (by rfl) (by decide) (c8 _ (by simp) rfl rfl rfl rfl rfl rfl)) ?_
  refine Eq.trans (seq_no (ev_not (ev_c3 (ev_c2 (pv rfl) (pv rfl) e23) (pv rfl) (pv rfl) w6))) ?_
  refine Eq.trans (seq_asgL (ys := [sc, pool, p, lists, m, points, .lst scales, .lst shifts, .lst rk, wts, grid, places, high, scaled, turned, others, home, along, few, small, lower, rows, due, .lst values]) rfl (by rfl) (by decide) (ev_c4 (pv rfl) ev_int (pv rfl) ((ev_lenL (pv (ept ▸ rfl))).trans (congrArg some epl)) e24)) ?_
  refine Eq.trans (seq_asgL (ys := [sc, pool, p, lists, m, points, .lst scales, .lst shifts, .lst rk, wts, grid, places, high, scaled, turned, others, home, along, few, small, lower, rows, due, .lst values, .lst values]) rfl (by rfl) (by decide) (ev_list (pv rfl))) ?_
  -- the own list
  have R : pE 31 ([sc, pool, p, lists, m, points, .lst scales, .lst shifts, .lst rk, wts, grid, places, high, scaled, turned, others, home, along, few, small, lower, rows, due, .lst values, .lst values]) = [sc, pool, p, lists, m, points, .lst scales, .lst shifts, .lst rk, wts, grid, places, high, scaled, turned, others, home, along, few, small, lower, rows, due, .lst values, .lst values].map (fun d => some (false, d)) ++ [none, none, none, none, none, none] := rfl
  refine Eq.trans (congrArg _ R) ?_
  clear c1 c2 c3 c4 c6 c7 c8
  have l1 : 2 < LIM := by decide
  have l2 : 2 ≤ LIM := by decide
  have l3 : 3 ≤ LIM := by decide
  simp [runFn, argsOf, startF, evS, ev, evM, keepD, seen, hid, shw, shl, sho, hid1, shl1, sho1, attrD, biD, binD, cmpD, outD, idxD, bindF, bindF.setAllF, bindT, setAll, asSeq, PyD.T.slots, wipeE, isNonD, isiD, tyOf, intPart, cutD, frzAll, frz1, lkD, putD, startI, outI, E.isNil, D.flat, flatL, D.nob, nobL, isL, flatO, PyD.getD', u1, u2, u3, u4, u5, u6, u7, q7, w1, l1, l2, l3]
end
end PyD

namespace PyD
open PySem Lean.Grind
section
variable {F : Fc} {n : Nat} {ls : List (List F.K)} {rk : List Nat}
theorem gridOk_of (h1 : 1 ≤ ls.length) (h2 : ls.length ≤ 6) (h3 : prodlen ls ≤ 64) (h4 : ∀ xs ∈ ls, xs.Nodup ∧ 1 ≤ xs.length ∧ xs.length ≤ 12) : GridOk F ls := ⟨h1, h2, h4, h3⟩
theorem LB_of {h m : Nat} (hx : ∀ xs ∈ ls, xs.length ≤ m ∧ ∀ x ∈ xs, F.Ht h x) (hh : h < 400) : LB F ls (1 + m * (2 * h + 2)) := fun xs hm =>
  ⟨h, (hx xs hm).2, by have := Nat.mul_le_mul_right (2 * h + 2) (hx xs hm).1; omega, hh⟩
theorem LB.or {H : Nat} {ms : List (List F.K)} (h1 : LB F ls H) (h2 : LB F ms H) : LB F (ls ++ ms) H := fun xs hx => (List.mem_append.mp hx).elim (h1 xs) (h2 xs)
theorem LB.up {H H' : Nat} (h : LB F ls H) (l : H ≤ H') : LB F ls H' := fun xs hx => by
  obtain ⟨a, b, c, d⟩ := h xs hx
  exact ⟨a, b, by omega, d⟩
/-- the law's text -/
theorem law_run {sc : D} {P : List Int} (hsc : fns tb (n + 12) i__law_pool [sc, .int 160] = some (.lst (P.map .int))) (hP : Pool P) (hl : P.length = 160) : evS (fns tb (n + 12)) b_law (pE 31 [sc]) = some (.rt false (.bl true)) := by
  obtain ⟨v, dv, v0, v1⟩ := L_draw (n := n + 11) (at_ := 0) (many := 6) hP (by omega) (by omega) (by omega)
  obtain ⟨F, hF⟩ := field_at v0 v1
  obtain ⟨most, hmost⟩ : ∃ m : Int, m = if 0 < (F.p : Int) then 16 else 8 := ⟨_, rfl⟩
  have hm1 : MostOk most := by rw [hmost]; split <;> exact ⟨by omega, by omega⟩
  have hm2 : most ≤ 16 ∧ (F.p = 0 → most = 8) := by
    rw [hmost]
    constructor
    · split <;> omega
    · intro z; rw [if_neg (by omega)]
  obtain ⟨ls, h3, l1, l4, lp, lx⟩ := L_lists (n := n + 8) (F := F) (xs := nums F) (most := most) (fun m => L_numbers) nums_ok hP (by omega) hm1
  have hls : LsOk F ls := lx
  have hht := hls.ht
  have hg : GridOk F ls := gridOk_of l1 (by omega) (by omega) fun xs hx => ⟨(lx xs hx).1, (lx xs hx).2.1, by have := (lx xs hx).2.2.1; omega⟩
  have hnd : ∀ xs ∈ ls, xs.Nodup := fun xs hx => (lx xs hx).1
  have hb : LsB F 4 ls := ⟨by omega, fun xs hx => ⟨by have := (lx xs hx).2.2.1; omega, hht xs hx⟩⟩
  have hB : LB F ls 91 := LB_of (m := 9) (h := 4) (fun xs hx => ⟨(lx xs hx).2.2.1, hht xs hx⟩) (by omega)
  have hq : F.p = 0 → prodlen ls ≤ 8 := fun z => by have := hm2.2 z; omega
  have h5 := L_points (n := n + 11) (ls := ls) (fun xs hx => ⟨(lx xs hx).2.1, by have := (lx xs hx).2.2.1; omega⟩) (by omega) (by omega)
  obtain ⟨fs, hfs⟩ := choose_lt (P := fun (k : Nat) (x : F.K) => fns tb (n + 12) i__law_scale [.lst (P.map .int), .int (40 + (k : Int)), .int F.p] = some (F.enc x) ∧ x ≠ 0 ∧ F.Ht 2 x) (N := ls.length) 0 fun k hk => L_scale (n := n + 9) hP (by omega) (by omega)
  obtain ⟨ft, hft⟩ := choose_lt (P := fun (k : Nat) (x : F.K) => fns tb (n + 12) i__law_small [.lst (P.map .int), .int (44 + (k : Int)), .int F.p] = some (F.enc x) ∧ F.Ht 4 x) (N := ls.length) 0 fun k hk => L_small (n := n + 9) hP (by omega) (by omega)
  obtain ⟨ss, hss⟩ : ∃ ss, ss = (List.range ls.length).map fs := ⟨_, rfl⟩
  obtain ⟨ts, hts⟩ : ∃ ts, ts = (List.range ls.length).map ft := ⟨_, rfl⟩
  have s1 : ss.length = ls.length := by rw [hss]; simp
  have t1 : ts.length = ls.length := by rw [hts]; simp
  have s2 : ∀ s ∈ ss, s ≠ 0 ∧ F.Ht 2 s := fun s hs => by
    rw [hss] at hs
    obtain ⟨k, hk, rfl⟩ := List.mem_map.mp hs
    exact (hfs k (List.mem_range.mp hk)).2
  have t2 : ∀ t ∈ ts, F.Ht 4 t := fun t ht => by
    rw [hts] at ht
    obtain ⟨k, hk, rfl⟩ := List.mem_map.mp ht
    exact (hft k (List.mem_range.mp hk)).2
  have s3 : ∀ s ∈ ss, s ≠ 0 := fun s hs => (s2 s hs).1
  obtain ⟨rk, h8, hr⟩ := L_ranking (n := n + 11) (at_ := 48) (m := ls.length) hP (by omega) (by omega) (by omega)
  have hrl : ∀ k ∈ rk, k < ls.length := fun k hk => (rk_mem hr).mp hk
  have hrn := rk_len hr
  have hpl : (pts ls).length ≤ 16 := by rw [pts_len]; omega
  have h9 := L_lweights (n := n + 7) (ps := pts ls) hb (fun p hp => (mem_pts ls).mp hp) (by omega) (by omega)
  rw [← gws_wd] at h9
  have h10 := L_lgrid (n := n + 6) hg
  have w1 := L_twice (n := n + 6) hg hB (by omega)
  have h11 := L_moved_lists (n := n + 8) (k := 4) hb (fun s hs => (s2 s hs).2.up (by omega)) t2 s1 t1 (by omega) (by omega)
  have h11b := L_right (n := n + 5) hls l4 s1 t1 s2 t2
  have h12 := L_moved (n := n + 6) (k := 4) hg hb (fun s hs => ⟨s3 s hs, (s2 s hs).2.up (by omega)⟩) t2 s1 t1 (by omega) (by omega)
  have hgm := hg.mvl s1 t1 s3
  have hgw : ∀ w ∈ gws ls, F.Ht 365 w := fun w hw => (gws_ht ls hB w hw).up (by
    have : ls.length * 91 ≤ 4 * 91 := Nat.mul_le_mul_right _ l4
    omega)
  have h13 := L_scaled (n := n + 7) (H := 365) hb s2 s1 hgw (by rw [gws_len]; omega) (by omega) (by omega)
  rw [← gws_mv hnd s3 s1 t1] at h13
  have hmx : ∀ xs ∈ mvl ls ss ts, xs.length ≤ 9 ∧ ∀ x ∈ xs, F.Ht 12 x := fun xs hx => by
    unfold mvl at hx
    obtain ⟨q, hq, rfl⟩ := List.mem_map.mp hx
    have q1 := (List.of_mem_zip hq).1
    have q2 := List.of_mem_zip (List.of_mem_zip hq).2
    refine ⟨by rw [List.length_map]; exact (lx _ q1).2.2.1, fun x hx => ?_⟩
    obtain ⟨y, hy, rfl⟩ := List.mem_map.mp hx
    exact (((s2 _ q2.1).2.mul (hht _ q1 y hy)).add (t2 _ q2.2)).up (by omega)
  have hBm : LB F (mvl ls ss ts) 235 := LB_of (m := 9) (h := 12) hmx (by omega)
  have lml := mvl_len (ls := ls) s1 t1
  have w2 := L_twice (n := n + 6) hgm hBm (by omega)
  have hgr := hg.perm (rls_perm hr)
  have hrls : LsOk F (rls ls rk) := fun xs hx => hls xs ((rls_perm hr).mem_iff.mp hx)
  have lrl : (rls ls rk).length = ls.length := (rls_perm hr).length_eq
  have lrp : prodlen (rls ls rk) = prodlen ls := prodlen_perm (rls_perm hr)
  have hBr : LB F (rls ls rk) 91 := LB_of (m := 9) (h := 4) (fun xs hx => ⟨(hrls xs hx).2.2.1, hrls.ht xs hx⟩) (by omega)
  have h14 := L_renamed (n := n + 6) hrl (by omega) hgr
  have h15 := L_points (n := n + 11) (ls := rls ls rk) (fun xs hx => ⟨(hrls xs hx).2.1, by have := (hrls xs hx).2.2.1; omega⟩) (by omega) (by omega)
  have w3 := L_twice (n := n + 6) hgr hBr (by omega)
  obtain ⟨f1, f2, f3, f4⟩ := few_ok hr l1 hls
  have hgf : GridOk F (few ls rk) := gridOk_of f1 (by omega) (by omega) fun xs hx => ⟨(f4 xs hx).1, (f4 xs hx).2.1, by have := (f4 xs hx).2.2.1; omega⟩
  have hbf : LsB F 4 (few ls rk) := ⟨by omega, fun xs hx => ⟨by have := (f4 xs hx).2.2.1; omega, (f4 xs hx).2.2.2⟩⟩
  have hBf : LB F (few ls rk) 91 := LB_of (m := 9) (h := 4) (fun xs hx => ⟨by have := (f4 xs hx).2.2.1; omega, (f4 xs hx).2.2.2⟩) (by omega)
  have h19p := L_points (n := n + 11) (ls := few ls rk) (fun xs hx => ⟨(f4 xs hx).2.1, by have := (f4 xs hx).2.2.1; omega⟩) (by omega) (by omega)
  have h19 := L_lweights (n := n + 7) (ps := pts (few ls rk)) hbf (fun p hp => (mem_pts _).mp hp) (by rw [pts_len]; omega) (by omega)
  rw [← gws_wd] at h19
  have h20 := L_lgrid (n := n + 6) hgf
  have hj1 : GridOk F (ls ++ few ls rk) := gridOk_of (by simp; omega) (by simp; omega) (by rw [prodlen_app]; exact Nat.le_trans (Nat.mul_le_mul (show prodlen ls ≤ 16 by omega) f3) (by omega)) fun xs hx => (List.mem_append.mp hx).elim (hg.2.2.1 xs) (hgf.2.2.1 xs)
  have hj2 : GridOk F (few ls rk ++ mvl ls ss ts) := gridOk_of (by simp; omega) (by simp; omega) (by rw [prodlen_app, prodlen_map _ _ (mvl_lens (ls := ls) s1 t1)]; exact Nat.le_trans (Nat.mul_le_mul f3 (show prodlen ls ≤ 16 by omega)) (by omega)) fun xs hx => (List.mem_append.mp hx).elim (hgf.2.2.1 xs) (hgm.2.2.1 xs)
  have j1 := L_joined (n := n + 6) (ls := ls) (ms := few ls rk) (by omega) (by omega) hj1
  have j2 := L_joined (n := n + 6) (ls := few ls rk) (ms := mvl ls ss ts) (by omega) (by omega) hj2
  have w4 := L_twice (n := n + 6) hj1 ((hB.or hBf).up (show 91 ≤ 235 by omega)) (by simp; omega)
  have w5 := L_twice (n := n + 6) hj2 ((hBf.up (show 91 ≤ 235 by omega)).or hBm) (by simp; omega)
  have hgfw : ∀ w ∈ gws (few ls rk), F.Ht 365 w := fun w hw => (gws_ht _ hBf w hw).up (by
    have : (few ls rk).length * 91 ≤ 4 * 91 := Nat.mul_le_mul_right _ (by omega)
    omega)
  have hgmw : ∀ w ∈ gws (mvl ls ss ts), F.Ht 941 w := fun w hw => (gws_ht _ hBm w hw).up (by
    have : (mvl ls ss ts).length * 235 ≤ 4 * 235 := Nat.mul_le_mul_right _ (by omega)
    omega)
  have p1 := L_products (n := n + 8) hgw hgfw (by omega) (by rw [gws_len]; omega) (by rw [gws_len]; omega)
  have p2 := L_products (n := n + 8) hgfw hgmw (by omega) (by rw [gws_len]; omega) (by rw [gws_len, prodlen_map _ _ (mvl_lens (ls := ls) s1 t1)]; omega)
  rw [← gws_app] at p1 p2
  obtain ⟨lw, h21, hw⟩ := L_lesser (n := n + 10) (at_ := 60) hP hb (fun xs hx => (lx xs hx).2.1) (by omega) (by omega)
  have hwl := hw.len
  obtain ⟨g1, g2⟩ := hw.grid (k := 4) fun xs hx => ⟨hnd xs hx, (hb.each xs hx).1, (hb.each xs hx).2⟩
  have hgl : GridOk F lw := gridOk_of (by omega) (by omega) (by omega) fun xs hx => ⟨(g2 xs hx).1, (g2 xs hx).2.1, (g2 xs hx).2.2.1⟩
  have hBl : LB F lw 121 := LB_of (m := 12) (h := 4) (fun xs hx => ⟨(g2 xs hx).2.2.1, (g2 xs hx).2.2.2⟩) (by omega)
  have h22 := L_points (n := n + 11) (ls := lw) (fun xs hx => ⟨(g2 xs hx).2.1, (g2 xs hx).2.2.1⟩) (by omega) (by omega)
  have h23 := L_lgrid (n := n + 6) hgl
  have w6 := L_twice (n := n + 6) hgl hBl (by omega)
  obtain ⟨vs, h24, v2, v3⟩ := L_ltold (F := F) (n := n + 9) (at_ := 90) (many := ((pts ls).length : Nat)) hP (by omega) (by omega) (by omega) (by omega)
  have v2' : vs.length = (pts ls).length := by omega
  have lmul : ls.length * 91 ≤ 4 * 91 := Nat.mul_le_mul_right _ l4
  have pmul : F.p = 0 → prodlen ls * (365 + 4 + 1) ≤ 8 * 370 := fun z => Nat.mul_le_mul (hq z) (by omega)
  have pmul1 : F.p = 0 → prodlen ls * (1 + ls.length * 91 + 4 + 1) ≤ 8 * (1 + 4 * 91 + 4 + 1) := fun z => Nat.mul_le_mul (hq z) (by omega)
  have pmul2 : F.p = 0 → prodlen (mvl ls ss ts) * (1 + (mvl ls ss ts).length * 235 + 4 + 1) ≤ 8 * (1 + 4 * 235 + 4 + 1) := fun z => Nat.mul_le_mul (by rw [prodlen_map _ _ (mvl_lens (ls := ls) s1 t1)]; exact hq z) (by omega)
  have pmul3 : F.p = 0 → prodlen (rls ls rk) * (1 + (rls ls rk).length * 91 + 4 + 1) ≤ 8 * (1 + 4 * 91 + 4 + 1) := fun z => Nat.mul_le_mul (by rw [lrp]; exact hq z) (by omega)
  have u1 := L_weighed_sum (n := n + 6) (k := 4) (vs := vs) hg hB (by omega) v3 (fun z => by have := pmul1 z; omega) (by omega)
  have u2 := L_weighed_sum (n := n + 6) (k := 4) (vs := vs) hgm hBm (by omega) v3 (fun z => by have := pmul2 z; omega) (by omega)
  rw [gws_mv hnd s3 s1 t1, dot_scale] at u2
  have rn := ren_nodup (F := F) hr hnd
  obtain ⟨val, hval⟩ : ∃ val : List F.K → F.K, ∀ q ∈ (pts ls).zip vs, val (rpt q.1 rk) = q.2 := by
    refine ⟨fun q => vs.getD (ix1 ((pts ls).map (rpt · rk)) q) 0, fun q hq => ?_⟩
    obtain ⟨i, hi, e⟩ := List.mem_iff_getElem.mp hq
    have gz : ((pts ls).zip vs)[i]? = some q := by rw [List.getElem?_eq_getElem hi, e]
    obtain ⟨a1, a2⟩ := List.getElem?_zip_eq_some.mp gz
    have m1 : ((pts ls).map (rpt · rk))[i]? = some (rpt q.1 rk) := by rw [List.getElem?_map, a1]; rfl
    have m2 := ix1_at (List.mem_of_getElem? m1)
    obtain ⟨b1, b2⟩ := List.getElem?_eq_some_iff.mp m1
    obtain ⟨c1, c2⟩ := List.getElem?_eq_some_iff.mp m2
    have e3 := (List.getElem_inj rn).mp (c2.trans b2.symm)
    show vs.getD (ix1 ((pts ls).map (rpt · rk)) (rpt q.1 rk)) 0 = q.2
    rw [e3, List.getD_eq_getElem?_getD, a2]
    rfl
  have u3 := L_renamed_values (n := n + 5) hrl (by omega) hg hgr v2' rn val hval fun q hq => ren_mem hr hq
  have vval : ((pts ls).map fun p => val (rpt p rk)) = vs := by
    refine List.ext_getElem (by simp [v2']) fun i a b => ?_
    rw [List.length_map] at a
    rw [List.getElem_map]
    exact hval ((pts ls)[i], vs[i]) (List.mem_of_getElem? (List.getElem?_zip_eq_some.mpr ⟨List.getElem?_eq_getElem a, List.getElem?_eq_getElem b⟩))
  have u3e : ((pts (rls ls rk)).map fun q => F.enc (val q)) = ((pts (rls ls rk)).map val).map F.enc := by rw [List.map_map]; rfl
  rw [u3e] at u3
  have hvals : ∀ z ∈ (pts (rls ls rk)).map val, F.Ht 4 z := fun z hz => by
    obtain ⟨q, hq, rfl⟩ := List.mem_map.mp hz
    obtain ⟨p, hp, rfl⟩ := ren_mem hr hq
    have : val (rpt p rk) ∈ (pts ls).map fun p => val (rpt p rk) := List.mem_map.mpr ⟨p, hp, rfl⟩
    rw [vval] at this
    exact v3 _ this
  have u4 := L_weighed_sum (n := n + 6) (k := 4) (vs := (pts (rls ls rk)).map val) hgr hBr (by omega) hvals (fun z => by have := pmul3 z; omega) (by omega)
  rw [dot_ren hr hnd, vval] at u4
  have u5 := L_added (n := n + 7) (ws := gws ls) (vs := vs) (h := 365) (k := 4) (by rw [gws_len, v2', pts_len]) hgw v3 (by rw [gws_len]; omega) (fun z => by rw [gws_len]; have := pmul z; omega)
  have u5h : F.Ht 6000 (dotK ((gws ls).zip vs)) := by
    by_cases z : F.p = 0
    · refine (Fc.Ht.sum (f := fun q : F.K × F.K => q.1 * q.2) (h := 365 + 4) (xs := (gws ls).zip vs) (s := 0) (k := 1) (fun q hq => (hgw _ (List.of_mem_zip hq).1).mul (v3 _ (List.of_mem_zip hq).2)) Fc.Ht.zero).up ?_
      have e : ((gws ls).zip vs).length = prodlen ls := by rw [List.length_zip, gws_len, v2', pts_len]; omega
      rw [e]
      have := pmul z
      omega
    · exact ht_of' z
  have u6 := L_scaled (n := n + 7) (H := 6000) (ws := [dotK ((gws ls).zip vs)]) hb s2 s1 (fun w hw => by rw [List.mem_singleton.mp hw]; exact u5h) (by simp) (by omega) (by omega)
  have u7 := L_row_is (n := n + 7) (F := F) (xs := [dotK ((gws ls).zip vs), sca ls ss * dotK ((gws ls).zip vs), dotK ((gws ls).zip vs)]) (by simp)
  have q7 : eqD (.lst (vs.map F.enc)) (.lst (vs.map F.enc)) = some true := eqD_refl nice_lst (by omega)
  -- the comprehensions
  have lH : ∀ xs : List D, xs.length ≤ 31 → ∀ v : Option D, ∀ k : Nat, ((pH 31 xs).set k v).length = 31 := fun xs h v k => by rw [List.length_set, pH_len h]
  have c1 : ∀ xs, xs.length ≤ 31 → xs[1]? = some (.lst (P.map .int)) → xs[2]? = some (.int F.p) → xs[4]? = some (.int (ls.length : Nat)) → ev (fns tb (n + 12)) c_law_1 (pH 31 xs) = some (.lst (ss.map F.enc)) := fun xs hx a1 a2 a4 => by
    have e : ss.map F.enc = (List.range ls.length).map fun k => F.enc (fs k) := by rw [hss, List.map_map]; rfl
    rw [e]
    refine lc_pR (pv a4) (by omega) fun k hk => ?_
    have := (hfs k hk).1
    simp [runFn, argsOf, startF, evS, ev, evM, keepD, seen, hid, shw, shl, sho, hid1, shl1, sho1, attrD, biD, binD, cmpD, outD, idxD, bindF, bindF.setAllF, bindT, setAll, asSeq, PyD.T.slots, wipeE, isNonD, isiD, tyOf, intPart, cutD, frzAll, frz1, lkD, putD, startI, outI, E.isNil, D.flat, flatL, D.nob, nobL, isL, flatO, PyD.getD', sJ, oJ hx, sJ2, sJ3 hx, oJ2 hx, -List.getElem?_set_ne, -List.getElem?_set_self, a1, a2, this]
  have c2 : ∀ xs, xs.length ≤ 31 → xs[1]? = some (.lst (P.map .int)) → xs[2]? = some (.int F.p) → xs[4]? = some (.int (ls.length : Nat)) → ev (fns tb (n + 12)) c_law_2 (pH 31 xs) = some (.lst (ts.map F.enc)) := fun xs hx a1 a2 a4 => by
    have e : ts.map F.enc = (List.range ls.length).map fun k => F.enc (ft k) := by rw [hts, List.map_map]; rfl
    rw [e]
    refine lc_pR (pv a4) (by omega) fun k hk => ?_
    have := (hft k hk).1
    simp [runFn, argsOf, startF, evS, ev, evM, keepD, seen, hid, shw, shl, sho, hid1, shl1, sho1, attrD, biD, binD, cmpD, outD, idxD, bindF, bindF.setAllF, bindT, setAll, asSeq, PyD.T.slots, wipeE, isNonD, isiD, tyOf, intPart, cutD, frzAll, frz1, lkD, putD, startI, outI, E.isNil, D.flat, flatL, D.nob, nobL, isL, flatO, PyD.getD', sJ, oJ hx, sJ2, sJ3 hx, oJ2 hx, -List.getElem?_set_ne, -List.getElem?_set_self, a1, a2, this]
  have il : ∀ k, k < ls.length → idxL (encL F ls) (k : Int) = some (.lst ((ls.getD k []).map F.enc)) := fun k hk => idxL_map (f := fun ys : List F.K => D.lst (ys.map F.enc)) (getD_at hk)
  have c3 : ∀ xs, xs.length ≤ 31 → xs[3]? = some (.lst (encL F ls)) → xs[8]? = some (.lst (rk.map fun k : Nat => D.int (k : Int))) → ev (fns tb (n + 12)) c_law_3 (pH 31 xs) = some (.lst (encL F (rls ls rk))) := fun xs hx a3 a8 => by
    have e : encL F (rls ls rk) = rk.map fun k => .lst ((ls.getD k []).map F.enc) := by unfold encL rls; rw [List.map_map]; rfl
    rw [e]
    refine lc_pE (ys := rk) (g := fun k : Nat => D.int (k : Int)) (pv a8) rfl (fun k hk => ?_) (by unfold LIM; omega)
    have := il k (hrl k hk)
    generalize ls.getD k [] = z at *
    simp [runFn, argsOf, startF, evS, ev, evM, keepD, seen, hid, shw, shl, sho, hid1, shl1, sho1, attrD, biD, binD, cmpD, outD, idxD, bindF, bindF.setAllF, bindT, setAll, asSeq, PyD.T.slots, wipeE, isNonD, isiD, tyOf, intPart, cutD, frzAll, frz1, lkD, putD, startI, outI, E.isNil, D.flat, flatL, D.nob, nobL, isL, flatO, PyD.getD', sJ, oJ hx, sJ2, sJ3 hx, oJ2 hx, -List.getElem?_set_ne, -List.getElem?_set_self, a3, this]
  have c7 : ∀ xs, xs.length ≤ 31 → xs[3]? = some (.lst (encL F ls)) → xs[8]? = some (.lst (rk.map fun k : Nat => D.int (k : Int))) → ev (fns tb (n + 12)) c_law_7 (pH 31 xs) = some (.lst (encL F ((rls ls rk).map fun xs => xs.take 2))) := fun xs hx a3 a8 => by
    have e : encL F ((rls ls rk).map fun xs => xs.take 2) = rk.map fun k => .lst (((ls.getD k []).map F.enc).take 2) := by
      unfold encL rls
      rw [List.map_map, List.map_map]
      refine List.map_congr_left fun k _ => ?_
      show D.lst (((ls.getD k []).take 2).map F.enc) = _
      rw [List.map_take]
    rw [e]
    refine lc_pE (ys := rk) (g := fun k : Nat => D.int (k : Int)) (pv a8) rfl (fun k hk => ?_) (by unfold LIM; omega)
    have := il k (hrl k hk)
    generalize (ls.getD k []).map F.enc = z at *
    have mn : z.take (min 2 z.length) = z.take 2 := by
      rw [← List.take_take]
      simp
    simp [runFn, argsOf, startF, evS, ev, evM, keepD, seen, hid, shw, shl, sho, hid1, shl1, sho1, attrD, biD, binD, cmpD, outD, idxD, bindF, bindF.setAllF, bindT, setAll, asSeq, PyD.T.slots, wipeE, isNonD, isiD, tyOf, intPart, cutD, frzAll, frz1, lkD, putD, startI, outI, E.isNil, D.flat, flatL, D.nob, nobL, isL, flatO, PyD.getD', sJ, oJ hx, sJ2, sJ3 hx, oJ2 hx, -List.getElem?_set_ne, -List.getElem?_set_self, a3, this, cutL, sIx, mn]
  have ip : ∀ p ∈ pts ls, ∀ k, k < ls.length → idxL (p.map F.enc) (k : Int) = some (F.enc (p.getD k 0)) := fun p hp k hk => idxL_map (getD_at (by rw [pts_each ls p hp]; exact hk))
  have c4 : ∀ xs, xs.length ≤ 31 → xs[5]? = some (.lst (encP F (pts ls))) → xs[8]? = some (.lst (rk.map fun k : Nat => D.int (k : Int))) → xs[15]? = some (.lst (encP F (pts (rls ls rk)))) → ev (fns tb (n + 12)) c_law_4 (pH 31 xs) = some (.lst (((pts ls).map fun p => ix1 (pts (rls ls rk)) (rpt p rk)).map fun k : Nat => D.int (k : Int))) := fun xs hx a5 a8 a15 => by
    rw [List.map_map]
    refine lc_pE (ys := pts ls) (g := fun p => D.tup (p.map F.enc)) (pv a5) rfl (fun p hp => ?_) (by unfold LIM; omega)
    have cc : ev (fns tb (n + 12)) c_law_5 ((pH 31 xs).set 28 (some (.tup (p.map F.enc)))) = some (.lst ((rpt p rk).map F.enc)) := by
      have e : (rpt p rk).map F.enc = rk.map fun k => F.enc (p.getD k 0) := by unfold rpt; rw [List.map_map]; rfl
      rw [e]
      refine lc_en (ys := rk) (g := fun k : Nat => D.int (k : Int)) (d := .lst (rk.map fun k : Nat => D.int (k : Int))) (pv_set a8 (by omega)) rfl (fun k hk => ?_) (by unfold LIM; omega)
      have := ip p hp k (hrl k hk)
      generalize p.getD k 0 = z at *
      simp [runFn, argsOf, startF, evS, ev, evM, keepD, seen, hid, shw, shl, sho, hid1, shl1, sho1, attrD, biD, binD, cmpD, outD, idxD, bindF, bindF.setAllF, bindT, setAll, asSeq, PyD.T.slots, wipeE, isNonD, isiD, tyOf, intPart, cutD, frzAll, frz1, lkD, putD, startI, outI, E.isNil, D.flat, flatL, D.nob, nobL, isL, flatO, PyD.getD', sJ, oJ hx, sJ2, sJ3 hx, oJ2 hx, -List.getElem?_set_ne, -List.getElem?_set_self, this]
    have hm : rpt p rk ∈ pts (rls ls rk) := (ren_pts hr hnd).mem_iff.mp (List.mem_map.mpr ⟨p, hp, rfl⟩)
    exact ev_index (g := fun p : List F.K => D.tup (p.map F.enc)) (m := 2) (pv_set a15 (by omega)) (by rw [ev, ev, cc]; rfl) nice_pt tup_inj (by omega) hm
  have c6 : ∀ xs, xs.length ≤ 31 → xs[5]? = some (.lst (encP F (pts ls))) → xs[9]? = some (.lst ((gws ls).map F.enc)) → xs[16]? = some (.lst (((pts ls).map fun p => ix1 (pts (rls ls rk)) (rpt p rk)).map fun k : Nat => D.int (k : Int))) → ev (fns tb (n + 12)) c_law_6 (pH 31 xs) = some (.lst ((gws (rls ls rk)).map F.enc)) := fun xs hx a5 a9 a16 => by
    have lg : (gws (rls ls rk)).length = (pts ls).length := by rw [gws_len, lrp, pts_len]
    have e : (gws (rls ls rk)).map F.enc = (List.range (pts ls).length).map fun k => F.enc ((gws (rls ls rk)).getD k 0) := by
      have := range_getD (xs := gws (rls ls rk)) (d := (0 : F.K))
      rw [lg] at this
      conv => lhs; rw [← this]
      rw [List.map_map]
      rfl
    rw [e]
    refine lc_pR (n := (pts ls).length) ?_ (by omega) fun k hk => ?_
    · simp [runFn, argsOf, startF, evS, ev, evM, keepD, seen, hid, shw, shl, sho, hid1, shl1, sho1, attrD, biD, binD, cmpD, outD, idxD, bindF, bindF.setAllF, bindT, setAll, asSeq, PyD.T.slots, wipeE, isNonD, isiD, tyOf, intPart, cutD, frzAll, frz1, lkD, putD, startI, outI, E.isNil, D.flat, flatL, D.nob, nobL, isL, flatO, PyD.getD', a5, encP]
    · obtain ⟨i, p, m1, m2, m3⟩ := home_at hr hnd hk
      have hmem := List.mem_of_getElem? m1
      have b1 : ev (fns tb (n + 12)) (.var 16) ((pH 31 xs).set 27 (some (.int (k : Nat)))) = some (.lst (((pts ls).map fun p => ix1 (pts (rls ls rk)) (rpt p rk)).map fun k : Nat => D.int (k : Int))) := pv_set a16 (by decide)
      have b2 : ev (fns tb (n + 12)) (.var 27) ((pH 31 xs).set 27 (some (.int (k : Nat)))) = some (.int (k : Nat)) := pv_own hx (by decide)
      have inj : ∀ x y : Nat, D.int (x : Int) = D.int (y : Int) → x = y := fun x y e => Int.ofNat_inj.mp (D.int.inj e)
      have ie := ev_index (g := fun k : Nat => D.int (k : Int)) (m := 0) b1 b2 (fun _ => .int _) inj (by decide) hmem
      have i1 := ix1_at hmem
      rw [List.getElem?_map] at i1
      obtain ⟨q, hq, eq⟩ := Option.map_eq_some_iff.mp i1
      have hqm := List.mem_of_getElem? hq
      have hqr : rpt q rk ∈ pts (rls ls rk) := (ren_pts hr hnd).mem_iff.mp (List.mem_map.mpr ⟨q, hqm, rfl⟩)
      have z1 := ix1_at hqr
      rw [eq] at z1
      have z2 : (gws (rls ls rk)).getD k 0 = (wd' ls q)⁻¹ := by
        rw [gws_wd, List.getD_eq_getElem?_getD, List.getElem?_map, z1, Option.map_some, Option.getD_some, wd_ren hr (pts_each ls q hqm)]
      have z3 : (gws ls)[ix1 ((pts ls).map fun p => ix1 (pts (rls ls rk)) (rpt p rk)) k]? = some (wd' ls q)⁻¹ := by
        rw [gws_wd, List.getElem?_map, hq]
        rfl
      have z4 := idxL_map (f := F.enc) z3
      rw [z2]
      have a9' := pv_set (Φ := fns tb (n + 12)) (N := 31) (k := 27) (v := some (.int (k : Nat))) a9 (by omega)
      exact ev_ix a9' ie z4
  have c8 : ∀ xs, xs.length ≤ 31 → xs[2]? = some (.int F.p) → xs[3]? = some (.lst (encL F ls)) → xs[5]? = some (.lst (encP F (pts ls))) → xs[9]? = some (.lst ((gws ls).map F.enc)) → xs[20]? = some (.lst (encL F lw)) → xs[21]? = some (.lst (encP F (pts lw))) → ev (fns tb (n + 12)) c_law_8 (pH 31 xs) = some (.lst ((gws lw).map F.enc)) := fun xs hx a2 a3 a5 a9 a20 a21 => by
    have e : (gws lw).map F.enc = (pts lw).map fun p => F.enc ((wd' ls p)⁻¹ * lof ls lw p) := by rw [gws_few hw hnd, List.map_map]; rfl
    rw [e]
    refine lc_pE (ys := pts lw) (g := fun p => D.tup (p.map F.enc)) (pv a21) rfl (fun p hp => ?_) (by rw [pts_len]; unfold LIM; omega)
    obtain ⟨_, hin⟩ := wd_few hw hnd ((mem_pts lw).mp hp)
    have hpm := (mem_pts ls).mpr hin
    have hpp : ∀ a ∈ p, F.Ht 4 a := fun a ha => by
      obtain ⟨i, hi, e⟩ := List.mem_iff_getElem.mp ha
      have gi : ls[i]? = some (ls[i]'(by rw [← hin.1]; exact hi)) := List.getElem?_eq_getElem _
      exact (hb.each _ (List.mem_of_getElem? gi)).2 _ (hin.2 i _ a gi (by rw [List.getElem?_eq_getElem hi, e]))
    have LO := L_left_out (n := n + 6) hb hin.1 hpp hwl (by omega)
    have ie := ev_index (Φ := fns tb (n + 12)) (a := .var 5) (b := .var 29) (en := (pH 31 xs).set 29 (some (.tup (p.map F.enc)))) (g := fun p : List F.K => D.tup (p.map F.enc)) (m := 2) (pv_set a5 (by omega)) (pv_own hx (by omega)) nice_pt tup_inj (by omega) hpm
    have i1 := ix1_at hpm
    have z3 : (gws ls)[ix1 (pts ls) p]? = some (wd' ls p)⁻¹ := by
      rw [gws_wd, List.getElem?_map, i1]
      rfl
    have z4 := idxL_map (f := F.enc) z3
    have hok := lok_ht hb hin.1 hpp hwl ls.length (Nat.le_refl _)
    rw [lok_full hwl hin.1] at hok
    have lmul2 : ls.length * (12 * (2 * 4 + 1)) ≤ 4 * 108 := Nat.mul_le_mul l4 (by omega)
    have LT := L_ltimes (n := n + 9) (hgw _ (List.mem_of_getElem? z3)) hok (by omega)
    have a9' := pv_set (Φ := fns tb (n + 12)) (N := 31) (k := 29) (v := some (.tup (p.map F.enc))) a9 (by omega)
    have a2' := pv_set (Φ := fns tb (n + 12)) (N := 31) (k := 29) (v := some (.tup (p.map F.enc))) a2 (by omega)
    have a3' := pv_set (Φ := fns tb (n + 12)) (N := 31) (k := 29) (v := some (.tup (p.map F.enc))) a3 (by omega)
    have a20' := pv_set (Φ := fns tb (n + 12)) (N := 31) (k := 29) (v := some (.tup (p.map F.enc))) a20 (by omega)
    have ao := pv_own (Φ := fns tb (n + 12)) (N := 31) (k := 29) (v := some (.tup (p.map F.enc))) hx (by omega)
    exact ev_c3 a2' (ev_ix a9' ie z4) (ev_c4 a2' a3' a20' ao LO) LT
  -- the steps
  have e9 : D.lst (few ls rk |> encL F) = .lst (cutL (encL F ((rls ls rk).map fun xs => xs.take 2)) none (some 2)) := by
    unfold few cutL encL sIx
    simp [List.map_take]
  have LW : D.int ((encP F (pts ls)).length : Nat) = .int ((pts ls).length : Nat) := by simp [encP]
  have LLn : D.int ((encL F ls).length : Nat) = .int (ls.length : Nat) := by simp [encL]
  have e3 : (if 0 < (F.p : Int) then D.int 16 else D.int 8) = D.int most := by rw [hmost]; split <;> rfl
  generalize hite : (if 0 < (F.p : Int) then D.int 16 else D.int 8) = I at e3
  subst e3
  generalize hWR : gws (rls ls rk) = WR at *
  generalize hWL : gws lw = WL at *
  generalize hWM : gws (mvl ls ss ts) = WM at *
  generalize hWF : gws (few ls rk) = WF at *
  generalize hΦ : fns tb (n + 12) = Φ at *
  refine law_steps (Φ := Φ) (pz := F.p) (L0 := encL F ls) (pl := encP F (pts ls)) hsc dv hF rfl (hite ▸ h3) rfl LLn h5 c1 c2 h8 h9 h10 w1 h11 h11b h12 h13 w2 h14 c3 h15 c4 c6 w3 c7 e9.symm h19p h19 h20 j1 p1 w4 j2 p2 w5 h21 h22 c8 h23 w6 rfl LW h24 u1 u2 u3 u4 u5 u6 u7 q7
end
end PyD

namespace PyD
open PySem Lean.Grind
theorem L_law {ns : List Int} {n : Nat} (h : ns.length ≤ 63) : fns tb (n + 13) i_law [.ro (ns.map .int)] = some (.bl true) := by
  obtain ⟨P, hP, hl, hsc⟩ := L_pool (n := n + 11) (ns := ns) (c := 160) (by omega) (by omega) (by omega)
  have r : fns tb (n + 13) i_law [.ro (ns.map .int)] = outD false (evS (fns tb (n + 12)) b_law (pE 31 [.ro (ns.map .int)])) := rfl
  rw [r, law_run hsc hP (by rw [hl]; rfl)]
  rfl
end PyD

namespace PyD
theorem pure_law : ∀ ns : List Int, ns.length ≤ 63 → fns tb (40 + 1) i_law [.ro (ns.map .int)] = some (.bl true) := fun ns h => L_law (n := 28) h
end PyD

open PySem PySem.W PySem.Calls PyProof.Rows in
theorem PySem.Challenge.cw_weighedgrids_k19_weights_of_moved_and_le_holds : PySem.Challenge.rw_weighedgrids_k19_weights_of_moved_and_le.Holds := by
  w_on; o_law
  refine HandSHeadRun.head_imp (r := OpenLaw.row PySem.Challenge.rw_weighedgrids_k19_weights_of_moved_and_le) (q := view (OpenLaw.row PySem.Challenge.rw_weighedgrids_k19_weights_of_moved_and_le).prog [0, 69]) (H := PyD.hk) (ob := PyD.ob) (M := 4000) (loose := PyD.nms) (d := HandSHeadRun.topDef (OpenLaw.row PySem.Challenge.rw_weighedgrids_k19_weights_of_moved_and_le).prog 69) (kwd := []) PyD.ob_eq
    PyD.run (by kernel_rfl) (by kernel_rfl) (by kernel_rfl) (by rfl) (by first | assumption | decide +kernel) (by decide +kernel) ⟨rfl, rfl, rfl, rfl, rfl, by decide +kernel⟩ ?hw ?hc
  case hw => w_witness2
  case hc =>
    refine PyD.law_of (tb := PyD.tb) (W := PyD.wd) (fn := PyD.f_law) (i := 52) (n := 40) (m := 63) rfl (by decide) (by kernel_rfl) ⟨rfl, by decide, by decide⟩ rfl rfl rfl rfl rfl (by kernel_rfl) ?_ PyD.pure_law
    intro w mg h Y G
    obtain ⟨K, KX, c⟩ := Y
    exact ⟨K, KX, PyD.tabok KX G c⟩
