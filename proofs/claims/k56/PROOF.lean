import PyProof.Rows.All
import PyProof.P3Statements
import PyProof.EqLayable
import Wide.All
import OpenK.AllK
import Wide.FinOn
import HandS.ForMost
import HandS.Wide
import HandS.Gcd
import HandS.IsInst
import HandS.Deep
import HandS.Conv
import HandS.TupAny
import HandS.TupMul
import HandS.Zip
import HandS.Walk
import HandS.More
import HandS.Star
import HandS.Style
import KE.DataEq
import HandS.Head0
import HandS.Head1
import HandS.Head2
import HandS.Head3
import HandS.HeadEnd
import HandS.HeadHook1
import HandS.HeadHook2
import HandS.HeadHook3
import HandS.HeadHook4
import PySem.Challenge.RW_weighedgrids_k56_sums_of_lists
set_option Elab.async false
set_option linter.all false
set_option maxRecDepth 100000
set_option maxHeartbeats 0
/-! A pure reading of a part of Python: data without a heap, a small syntax, its interpreter. -/
namespace PyD
open PySem

inductive D where
  | non | bl (b : Bool) | int (i : Int) | str (x : Str)
  | tup (xs : List D) | lst (xs : List D)
  /-- a list that is walked only (the script) -/
  | ro (xs : List D)
  | dic (kvs : List (List Int × D))
  | obj (c : Nat) (fs : List (Str × D))

mutual
/-- the data that == compares; what has dicts or objects within is no such data -/
def D.py : D → PyData
  | .non => .none | .bl b => .bool b | .int i => .int i | .str x => .str x
  | .tup xs => .tuple (pyL xs) | .lst xs => .list (pyL xs)
  | .ro _ => .dict [] | .dic _ => .dict [] | .obj _ _ => .dict []
def pyL : List D → List PyData
  | [] => []
  | x :: xs => x.py :: pyL xs
end
mutual
/-- no list and no dict within -/
def D.flat : D → Bool
  | .non => true | .bl _ => true | .int _ => true | .str _ => true
  | .tup xs => flatL xs
  | .lst _ => false | .ro _ => false | .dic _ => false
  | .obj _ fs => flatF fs
def flatL : List D → Bool
  | [] => true
  | x :: xs => x.flat && flatL xs
def flatF : List (Str × D) → Bool
  | [] => true
  | x :: xs => x.2.flat && flatF xs
end
theorem pyL_map {xs : List D} : pyL xs = xs.map D.py := by
  induction xs with
  | nil => rfl
  | cons x xs ih => simp only [pyL, List.map_cons, ih]
theorem flatL_all {xs : List D} : flatL xs = xs.all D.flat := by
  induction xs with
  | nil => rfl
  | cons x xs ih => simp only [flatL, List.all_cons, ih]

abbrev LIM : Nat := 1000000
/-- the shape asked of what is compared -/
def okEq (d : D) : Bool := SeqAt.shaped d.py
def eqD (d e : D) : Option Bool := if okEq d && okEq e then some (PyData.eqv d.py e.py) else none

inductive Op | add | sub | mul | fdiv | mod | pow | eq | ne | lt | le | gt | ge | isin | notin
  deriving DecidableEq

def mulOk (i j : Int) : Bool := decide (i.natAbs < 18446744073709551616) || decide (j.natAbs < 18446744073709551616) || decide (i.natAbs.log2 + j.natAbs.log2 < 1000000)
def divOk (j : Int) : Bool := (decide (0 < j) && decide (j.natAbs.log2 < 9000)) || (decide (j ≠ 0) && decide (j.natAbs < 1073741824))

/-- lists multiplied -/
def repL (xs : List D) (k : Int) : List D := (List.replicate k.toNat xs).flatten

def asSeq : D → Option (List D)
  | .lst xs => some xs
  | .tup xs => some xs
  | .ro xs => some xs
  | _ => none

def binD : Op → D → D → Option D
  | .add, .int i, .int j => some (.int (i + j))
  | .add, .lst xs, .lst ys => if xs.length + ys.length ≤ LIM then some (.lst (xs ++ ys)) else none
  | .add, .tup xs, .tup ys => if xs.length + ys.length ≤ LIM then some (.tup (xs ++ ys)) else none
  | .sub, .int i, .int j => some (.int (i - j))
  | .mul, .int i, .int j => if mulOk i j then some (.int (i * j)) else none
  | .mul, .lst xs, .int k => if decide (-1000000 ≤ k) && decide (k ≤ 1000000) && decide (xs.length * k.toNat ≤ LIM) then some (.lst (repL xs k)) else none
  | .mul, .tup xs, .int k => if decide (2 ≤ k) && decide (k ≤ 1000) && decide (1 ≤ xs.length) && decide (xs.length ≤ 1000) then some (.tup (repL xs k)) else none
  | .fdiv, .int i, .int j => if divOk j then some (.int (i.fdiv j)) else none
  | .mod, .int i, .int j => if 0 < j then some (.int (i % j)) else none
  | .pow, .int i, .int j => if decide (0 ≤ j) && decide (j ≤ 1000) && decide (i.natAbs < 18446744073709551616) then some (.int (i ^ j.toNat)) else none
  | _, _, _ => none

def inSeq (x : D) (ys : List D) : Option Bool := if okEq x && okEq (.lst ys) then some (ys.any fun y => PyData.eqv y.py x.py) else none

def cmpD : Op → D → D → Option Bool
  | .eq, d, e => eqD d e
  | .ne, d, e => (eqD d e).map (!·)
  | .lt, .int i, .int j => some (decide (i < j))
  | .le, .int i, .int j => some (decide (i ≤ j))
  | .gt, .int i, .int j => some (decide (j < i))
  | .ge, .int i, .int j => some (decide (j ≤ i))
  | .isin, x, .lst ys => inSeq x ys
  | .isin, x, .tup ys => inSeq x ys
  | .notin, x, .lst ys => (inSeq x ys).map (!·)
  | .notin, x, .tup ys => (inSeq x ys).map (!·)
  | _, _, _ => none

def ixN (n : Nat) (i : Int) : Option Nat := if 0 ≤ i then (if i < n then some i.toNat else none) else if -(n : Int) ≤ i then some (i + n).toNat else none
def idxL {α : Type} (xs : List α) (i : Int) : Option α := (ixN xs.length i).bind fun j => xs[j]?
def idxD : D → D → Option D
  | .lst xs, .int i => idxL xs i
  | .tup xs, .int i => idxL xs i
  | _, _ => none

def sIx (n d : Nat) : Option Int → Nat
  | none => d
  | some v => if v < 0 then (v + (n : Int)).toNat else min v.toNat n
def cutL {α : Type} (xs : List α) (lo hi : Option Int) : List α := (xs.drop (sIx xs.length 0 lo)).take (sIx xs.length xs.length hi - sIx xs.length 0 lo)
def intPart : D → Option (Option Int)
  | .int i => some (some i)
  | _ => none
def cutD (d : D) (lo hi : Option Int) : Option D := match d with
  | .lst xs => some (.lst (cutL xs lo hi))
  | .tup xs => some (.tup (cutL xs lo hi))
  | _ => none

def isNonD : D → Bool
  | .non => true
  | _ => false
inductive Ty | int | bool | str | tuple | list | dict
  deriving DecidableEq
def tyOf : D → Option Ty
  | .bl _ => some .bool | .int _ => some .int | .str _ => some .str | .tup _ => some .tuple | .lst _ => some .list | .dic _ => some .dict
  | _ => none
/-- isinstance -/
def isiD (d : D) (t : Ty) : Option Bool := match d with
  | .non => some false
  | d => (tyOf d).map fun u => decide (u = t) || (decide (u = .bool) && decide (t = .int))

def intsOf : List D → Option (List Int)
  | [] => some []
  | .int i :: xs => (intsOf xs).map (i :: ·)
  | _ :: _ => none

inductive Bi | len | abs | int | min2 | max2 | sum | list | tuple | gcd
  deriving DecidableEq
def biD : Bi → List D → Option D
  | .len, [.lst xs] => some (.int xs.length)
  | .len, [.tup xs] => some (.int xs.length)
  | .abs, [.int i] => some (.int (if i < 0 then -i else i))
  | .int, [.int i] => some (.int i)
  | .int, [.bl b] => some (.int (if b then 1 else 0))
  | .min2, [.int i, .int j] => some (.int (if j < i then j else i))
  | .max2, [.int i, .int j] => some (.int (if j > i then j else i))
  | .sum, [.lst xs] => (intsOf xs).map fun ns => .int ns.sum
  | .list, [.lst xs] => some (.lst xs)
  | .list, [.tup xs] => some (.lst xs)
  | .tuple, [.lst xs] => some (.tup xs)
  | .tuple, [.tup xs] => some (.tup xs)
  | .gcd, [.int a, .int b] => some (.int ((Nat.gcd a.natAbs b.natAbs : Nat) : Int))
  | _, _ => none

/-- range as data -/
def rangeD (a b : Int) : List D := (List.range (b - a).toNat).map fun i => .int (a + (i : Nat))
def rgOk (a : Int) : Bool := decide (-1000000000 ≤ a) && decide (a ≤ 1000000000)
/-- range as a list, a tuple -/
def rgOkL (a b : Int) : Bool := rgOk a && rgOk b && decide ((b - a).toNat ≤ 16777216)
def enumD : Nat → List D → List D
  | _, [] => []
  | n, x :: xs => .tup [.int n, x] :: enumD (n + 1) xs
def zipD : List D → List D → List D
  | x :: xs, y :: ys => .tup [x, y] :: zipD xs ys
  | _, _ => []

/-- a target -/
inductive T | nm (i : Nat) | tp (is : List Nat)

inductive E where
  | var (i : Nat) | int (n : Int) | bl (b : Bool) | non | str (s : Str)
  | neg (a : E) | bin (o : Op) (a b : E) | cmp (o : Op) (a b : E) | chain (o o' : Op) (a b c : E)
  | isN (a : E) | notN (a : E)
  | and (a b : E) | or (a b : E) | one (a : E) | not (a : E) | ite (c a b : E)
  | nil | cons (a as : E)
  | tup (as : E) | lst (as : E)
  | call (f : Nat) (as : E) | bi (b : Bi) (as : E) | isi (a : E) (t : Ty)
  | idx (a i : E) | sl (a lo hi : E)
  | lc (t : T) (it c e : E)
  | lc2 (t : T) (it c : E) (t' : T) (it' c' e : E)
  | rng1 (a : E) | rng2 (a b : E) | enu (a : E) | zip (a b : E)
  | lrng (r : E) | trng (r : E)

def E.isNil : E → Bool
  | .nil => true
  | _ => false
abbrev Env := List (Option D)
def setAll : List Nat → List D → Env → Option Env
  | [], [], env => some env
  | i :: is, d :: ds, env => setAll is ds (env.set i (some d))
  | _, _, _ => none
def bindT : T → D → Env → Option Env
  | .nm i, d, env => some (env.set i (some d))
  | .tp is, .tup ds, env => setAll is ds env
  | .tp _, _, _ => none

def T.slots : T → List Nat
  | .nm i => [i]
  | .tp is => is
def wipeE (env : Env) : List Nat → Env
  | [] => env
  | i :: is => (wipeE env is).set i none
/-- the items that a comprehension keeps -/
def lcGo (bnd : D → Option Env) (c : Env → Option D) (e : Env → Option (List D)) : List D → Option (List D)
  | [] => some []
  | x :: xs => (bnd x).bind fun env => match c env with
    | some (.bl true) => (e env).bind fun ys => (lcGo bnd c e xs).map (ys ++ ·)
    | some (.bl false) => lcGo bnd c e xs
    | _ => none
def limL (xs : List D) : Option D := if xs.length ≤ LIM then some (.lst xs) else none

abbrev Fns := Nat → List D → Option D

def ev (Φ : Fns) : E → Env → Option D
  | .var i, env => (env[i]?).join
  | .int n, _ => some (.int n)
  | .bl b, _ => some (.bl b)
  | .non, _ => some .non
  | .str s, _ => some (.str s)
  | .neg a, env => (ev Φ a env).bind fun d => match d with
    | .int i => some (.int (-i))
    | _ => none
  | .bin o a b, env => (ev Φ a env).bind fun x => (ev Φ b env).bind fun y => binD o x y
  | .cmp o a b, env => (ev Φ a env).bind fun x => (ev Φ b env).bind fun y => (cmpD o x y).map .bl
  | .chain o o' a b c, env => (ev Φ a env).bind fun x => (ev Φ b env).bind fun y => (cmpD o x y).bind fun k =>
      if k then (ev Φ c env).bind fun z => (cmpD o' y z).map .bl else some (.bl false)
  | .isN a, env => (ev Φ a env).map fun d => .bl (isNonD d)
  | .notN a, env => (ev Φ a env).map fun d => .bl (!isNonD d)
  | .and a b, env => (ev Φ a env).bind fun d => match d with
    | .bl true => ev Φ b env
    | .bl false => some (.bl false)
    | _ => none
  | .or a b, env => (ev Φ a env).bind fun d => match d with
    | .bl true => some (.bl true)
    | .bl false => ev Φ b env
    | _ => none
  | .one a, env => ev Φ a env
  | .not a, env => (ev Φ a env).bind fun d => match d with
    | .bl b => some (.bl (!b))
    | _ => none
  | .ite c a b, env => (ev Φ c env).bind fun d => match d with
    | .bl true => ev Φ a env
    | .bl false => ev Φ b env
    | _ => none
  | .nil, _ => some (.tup [])
  | .cons a as, env => (ev Φ a env).bind fun d => (ev Φ as env).bind fun r => match r with
    | .tup ds => some (.tup (d :: ds))
    | _ => none
  | .tup as, env => ev Φ as env
  | .lst as, env => (ev Φ as env).bind fun r => match r with
    | .tup ds => some (.lst ds)
    | _ => none
  | .call f as, env => (ev Φ as env).bind fun r => match r with
    | .tup ds => Φ f ds
    | _ => none
  | .bi b as, env => (ev Φ as env).bind fun r => match r with
    | .tup ds => biD b ds
    | _ => none
  | .isi a t, env => (ev Φ a env).bind fun d => (isiD d t).map .bl
  | .idx a i, env => (ev Φ a env).bind fun x => (ev Φ i env).bind fun y => idxD x y
  | .sl a lo hi, env => (ev Φ a env).bind fun x => (if lo.isNil then some none else (ev Φ lo env).bind intPart).bind fun l => (if hi.isNil then some none else (ev Φ hi env).bind intPart).bind fun h => cutD x l h
  | .lc t it c e, env => ((ev Φ it env).bind asSeq).bind fun xs =>
      (lcGo (fun x => bindT t x (wipeE env t.slots)) (fun env => ev Φ c env) (fun env => (ev Φ e env).map fun y => [y]) xs).bind limL
  | .lc2 t it c t' it' c' e, env => ((ev Φ it env).bind asSeq).bind fun xs =>
      (lcGo (fun x => bindT t x (wipeE env (t.slots ++ t'.slots))) (fun env => ev Φ c env) (fun env => ((ev Φ it' env).bind asSeq).bind fun ys =>
        lcGo (fun x => bindT t' x (wipeE env t'.slots)) (fun env => ev Φ c' env) (fun env => (ev Φ e env).map fun y => [y]) ys) xs).bind limL
  | .rng1 a, env => (ev Φ a env).bind fun d => match d with
    | .int n => if rgOk n then some (.lst (rangeD 0 n)) else none
    | _ => none
  | .rng2 a b, env => (ev Φ a env).bind fun d => (ev Φ b env).bind fun d' => match d, d' with
    | .int m, .int n => if rgOk m && rgOk n then some (.lst (rangeD m n)) else none
    | _, _ => none
  | .enu a, env => (ev Φ a env).bind fun d => match d with
    | .lst xs => some (.lst (enumD 0 xs))
    | _ => none
  | .zip a b, env => (ev Φ a env).bind fun d => (ev Φ b env).bind fun d' => match d, d' with
    | .lst xs, .lst ys => some (.lst (zipD xs ys))
    | .tup xs, .tup ys => some (.lst (zipD xs ys))
    | _, _ => none
  | .lrng r, env => (ev Φ r env).bind fun d => match d with
    | .lst xs => limL xs
    | _ => none
  | .trng r, env => (ev Φ r env).bind fun d => match d with
    | .lst xs => if xs.length ≤ LIM then some (.tup xs) else none
    | _ => none

/-! ### statements -/
/-- how a value is read and kept: own: a list of one's own that may be changed; sh: the own lists are looked into, so the value must not hold on to them -/
structure Md where
  own : Bool := false
  sh : Bool := false

inductive S where
  | skip | doc | never | brk | cnt | retN
  | seq (a b : S)
  | asg (i : Nat) (e : E) (m : Md)
  | asgT (is : List Nat) (e : E)
  | par (i j : Nat) (a b : E) (m m' : Md)
  | app (i : Nat) (e : E) (m : Md)
  | appPop (i j : Nat) (e : E)
  | setI (i : Nat) (k e : E) (m : Md)
  | aug (i : Nat) (o : Op) (e : E)
  | iff (c : E) (a b : S)
  | for_ (t : T) (it : E) (b : S)
  | while_ (c : E) (b : S)
  | ret (e : E) (m : Md)
  | retv (i : Nat)
  | frz (is : List Nat) (s : S)

abbrev FEnv := List (Option (Bool × D))
def shw (env : FEnv) : Env := env.map (·.map (·.2))
def hid1 : Option (Bool × D) → Option D
  | some (false, d) => some d
  | _ => none
def hid (env : FEnv) : Env := env.map hid1
def frz1 (env : FEnv) (i : Nat) : FEnv := match (env[i]?).join with
  | some (_, d) => env.set i (some (false, d))
  | none => env
def frzAll (env : FEnv) (is : List Nat) : FEnv := is.foldl frz1 env

inductive Out | nx (env : FEnv) | bk (env : FEnv) | ct (env : FEnv) | rt (own : Bool) (d : D)

/-- a value that is kept in the mode m -/
def keepD (m : Md) (d : D) : Bool := match m.own, m.sh with
  | false, false => true
  | false, true => d.flat
  | true, false => (match d with | .lst _ => true | _ => false)
  | true, true => (match d with | .lst xs => flatL xs | _ => false)
def evM (Φ : Fns) (e : E) (m : Md) (env : FEnv) : Option D :=
  (ev Φ e (if m.sh then shw env else hid env)).bind fun d => if keepD m d then some d else none

def bindF : T → D → FEnv → Option FEnv
  | .nm i, d, env => some (env.set i (some (false, d)))
  | .tp is, .tup ds, env => setAllF is ds env
  | .tp _, _, _ => none
where
  setAllF : List Nat → List D → FEnv → Option FEnv
    | [], [], env => some env
    | i :: is, d :: ds, env => setAllF is ds (env.set i (some (false, d)))
    | _, _, _ => none

def forGo (bnd : D → FEnv → Option FEnv) (body : FEnv → Option Out) : List D → FEnv → Option Out
  | [], env => some (.nx env)
  | x :: xs, env => (bnd x env).bind fun env1 => match body env1 with
    | some (.nx e) => forGo bnd body xs e
    | some (.ct e) => forGo bnd body xs e
    | some (.bk e) => some (.nx e)
    | some (.rt o d) => some (.rt o d)
    | none => none
def whGo (c : FEnv → Option D) (body : FEnv → Option Out) : Nat → FEnv → Option Out
  | 0, _ => none
  | n + 1, env => match c env with
    | some (.bl true) => (match body env with
      | some (.nx e) => whGo c body n e
      | some (.ct e) => whGo c body n e
      | some (.bk e) => some (.nx e)
      | some (.rt o d) => some (.rt o d)
      | none => none)
    | some (.bl false) => some (.nx env)
    | _ => none
open Classical in
noncomputable def whAll (c : FEnv → Option D) (body : FEnv → Option Out) (env : FEnv) : Option Out :=
  if h : ∃ n, (whGo c body n env).isSome = true then whGo c body (choose h) env else none
theorem whGo_mono {c : FEnv → Option D} {body : FEnv → Option Out} : ∀ {n m : Nat} {env : FEnv} {o : Out}, whGo c body n env = some o → n ≤ m → whGo c body m env = some o
  | 0, _, _, _, h, _ => by simp [whGo] at h
  | n + 1, 0, _, _, _, l => by omega
  | n + 1, m + 1, env, o, h, l => by
    unfold whGo at h ⊢
    have hl : n ≤ m := by omega
    revert h
    cases hc : c env with
    | none => intro h; exact h
    | some d =>
      cases d <;> try (intro h; exact h)
      rename_i b
      cases b with
      | false => intro h; exact h
      | true =>
        dsimp only
        cases hb : body env with
        | none => intro h; exact h
        | some u =>
          cases u with
          | nx e => intro h; exact whGo_mono h hl
          | ct e => intro h; exact whGo_mono h hl
          | bk e => intro h; exact h
          | rt o d => intro h; exact h
theorem whAll_of {c : FEnv → Option D} {body : FEnv → Option Out} {n : Nat} {env : FEnv} {o : Out} (h : whGo c body n env = some o) : whAll c body env = some o := by
  have hx : ∃ n, (whGo c body n env).isSome = true := ⟨n, by rw [h]; rfl⟩
  unfold whAll
  rw [dif_pos hx]
  have h2 := Classical.choose_spec hx
  obtain ⟨o2, e2⟩ := Option.isSome_iff_exists.mp h2
  rcases Nat.le_total n (Classical.choose hx) with l | l
  · exact whGo_mono h l
  · have := whGo_mono e2 l
    rw [e2, ← this, h]
theorem whAll_ex {c : FEnv → Option D} {body : FEnv → Option Out} {env : FEnv} {o : Out} (h : whAll c body env = some o) : ∃ n, whGo c body n env = some o := by
  unfold whAll at h
  split at h
  · exact ⟨_, h⟩
  · cases h

noncomputable def evS (Φ : Fns) : S → FEnv → Option Out
  | .skip, env => some (.nx env)
  | .doc, env => some (.nx env)
  | .never, _ => none
  | .brk, env => some (.bk env)
  | .cnt, env => some (.ct env)
  | .retN, _ => some (.rt false .non)
  | .seq a b, env => (evS Φ a env).bind fun o => match o with
    | .nx e => evS Φ b e
    | o => some o
  | .asg i e m, env => (evM Φ e m env).map fun d => .nx (env.set i (some (m.own, d)))
  | .asgT is e, env => (ev Φ e (hid env)).bind fun d => (bindF (.tp is) d env).map .nx
  | .par i j a b m m', env => (evM Φ a m env).bind fun d => (evM Φ b m' env).map fun d' => .nx ((env.set i (some (m.own, d))).set j (some (m'.own, d')))
  | .app i e m, env => match (env[i]?).join with
    | some (true, .lst xs) => (evM Φ e m env).bind fun d => if xs.length < LIM then some (.nx (env.set i (some (true, .lst (xs ++ [d]))))) else none
    | _ => none
  | .appPop i j e, env => match (env[i]?).join, (env[j]?).join with
    | some (true, .lst xs), some (true, .lst ys) => (evM Φ e { sh := true } env).bind fun d => match d with
      | .int k => (ixN ys.length k).bind fun n => (ys[n]?).bind fun y =>
          if xs.length < LIM ∧ ys.length ≤ LIM ∧ i ≠ j then some (.nx ((env.set j (some (true, .lst (ys.eraseIdx n)))).set i (some (true, .lst (xs ++ [y]))))) else none
      | _ => none
    | _, _ => none
  | .setI i k e m, env => match (env[i]?).join with
    | some (true, .lst xs) => (evM Φ e m env).bind fun d => (evM Φ k { sh := true } env).bind fun q => match q with
      | .int z => (ixN xs.length z).map fun n => .nx (env.set i (some (true, .lst (xs.set n d))))
      | _ => none
    | _ => none
  | .aug i o e, env => match (env[i]?).join with
    | some (false, .int z) => (evM Φ e { sh := true } env).bind fun d => match d with
      | .int y => (binD o (.int z) (.int y)).map fun w => .nx (env.set i (some (false, w)))
      | _ => none
    | _ => none
  | .iff c a b, env => match ev Φ c (shw env) with
    | some (.bl true) => evS Φ a env
    | some (.bl false) => evS Φ b env
    | _ => none
  | .for_ t it b, env => match it with
    | .rng1 _ => ((ev Φ it (shw env)).bind asSeq).bind fun xs => forGo (fun x env => bindF t x env) (fun env => evS Φ b env) xs env
    | .rng2 _ _ => ((ev Φ it (shw env)).bind asSeq).bind fun xs => forGo (fun x env => bindF t x env) (fun env => evS Φ b env) xs env
    | _ => ((ev Φ it (hid env)).bind asSeq).bind fun xs => forGo (fun x env => bindF t x env) (fun env => evS Φ b env) xs env
  | .while_ c b, env => whAll (fun env => ev Φ c (shw env)) (fun env => evS Φ b env) env
  | .ret e m, env => (evM Φ e m env).map fun d => .rt m.own d
  | .retv i, env => match (env[i]?).join with
    | some (true, d) => some (.rt true d)
    | _ => none
  | .frz is s, env => evS Φ s (frzAll env is)

/-- a def: how many names, its body -/
structure Fn where
  name : Str
  ps : List Str
  names : List Str
  body : S
  fr : Bool := false
  star : Bool := false
/-- the parameters' data -/
def argsOf (fn : Fn) (ds : List D) : Option (List D) :=
  if fn.star then (if fn.ps.length - 1 ≤ ds.length ∧ ds.length ≤ LIM then some (ds.take (fn.ps.length - 1) ++ [.tup (ds.drop (fn.ps.length - 1))]) else none)
  else if ds.length = fn.ps.length then some ds else none
def startF (fn : Fn) (ds : List D) : FEnv := ds.map (fun d => some (false, d)) ++ List.replicate (fn.names.length - ds.length) none
def outD (fr : Bool) : Option Out → Option D
  | some (.rt o d) => if fr && !o then none else some d
  | some (.nx _) => if fr then none else some .non
  | _ => none
noncomputable def runFn (Φ : Fns) (fn : Fn) (ds : List D) : Option D :=
  (argsOf fn ds).bind fun ds => outD fn.fr (evS Φ fn.body (startF fn ds))
/-- the table, to a depth -/
noncomputable def fns (tb : List Fn) : Nat → Fns
  | 0, _, _ => none
  | n + 1, f, ds => match tb[f]? with
    | some fn => runFn (fns tb n) fn ds
    | none => none
end PyD

/-! Data in the heap, and how it stays. -/
namespace PyD
open PySem L2

mutual
inductive Dat (K : PySem.W.Frag) (M : Hp) : V → D → Prop
  | non : Dat K M .non .non
  | bl (b : Bool) : Dat K M (.bl b) (.bl b)
  | int (i : Int) : Dat K M (.int i) (.int i)
  | str (x : Str) : Dat K M (.str x) (.str x)
  | tup {a : Addr} {vs : List V} {ds : List D} : SqT K M a vs → DatL K M vs ds → Dat K M (.ref a) (.tup ds)
  | lst {a : Addr} {vs : List V} {ds : List D} : M a = some (.lst vs) → DatL K M vs ds → Dat K M (.ref a) (.lst ds)
  | ro {a : Addr} {vs : List V} {ds : List D} : SqL K M a vs → DatL K M vs ds → Dat K M (.ref a) (.ro ds)
inductive DatL (K : PySem.W.Frag) (M : Hp) : List V → List D → Prop
  | nil : DatL K M [] []
  | cons {v : V} {vs : List V} {d : D} {ds : List D} : Dat K M v d → DatL K M vs ds → DatL K M (v :: vs) (d :: ds)
end

theorem same_rd {H H' : Hp} {a : Addr} {u : HO} (e : Same H H') (h : Rd H a u) : Rd H' a u := by
  rcases h with h | ⟨o, h⟩
  · exact Or.inl (e a _ h)
  · exact Or.inr ⟨o, e a _ h⟩
theorem same_t {K : PySem.W.Frag} {H H' : Hp} {a : Addr} {xs : List V} (e : Same H H') (h : SqT K H a xs) : SqT K H' a xs := by
  rcases h with h | h
  · exact Or.inl (same_rd e h)
  · exact Or.inr h
section
variable {K : PySem.W.Frag} {M M' H H' H2 : Hp}
mutual
theorem Dat.mono (e : Same M M') : ∀ {v : V} {d : D}, Dat K M v d → Dat K M' v d
  | _, _, .non => .non
  | _, _, .bl b => .bl b
  | _, _, .int i => .int i
  | _, _, .str x => .str x
  | _, _, .tup h r => .tup (same_t e h) (DatL.mono e r)
  | _, _, .lst h r => .lst (e _ _ h) (DatL.mono e r)
  | _, _, .ro h r => .ro (Same.seq e h) (DatL.mono e r)
theorem DatL.mono (e : Same M M') : ∀ {vs : List V} {ds : List D}, DatL K M vs ds → DatL K M' vs ds
  | _, _, .nil => .nil
  | _, _, .cons h r => .cons (Dat.mono e h) (DatL.mono e r)
end
/-! what is flat leans on tuples alone -/
mutual
theorem Dat.flatly (e : ∀ a xs, SqT K M a xs → SqT K M' a xs) : ∀ {v : V} {d : D}, Dat K M v d → d.flat = true → Dat K M' v d
  | _, _, .non, _ => .non
  | _, _, .bl b, _ => .bl b
  | _, _, .int i, _ => .int i
  | _, _, .str x, _ => .str x
  | _, _, .tup h r, f => .tup (e _ _ h) (DatL.flatly e r f)
  | _, _, .lst _ _, f => nomatch f
  | _, _, .ro _ _, f => nomatch f
theorem DatL.flatly (e : ∀ a xs, SqT K M a xs → SqT K M' a xs) : ∀ {vs : List V} {ds : List D}, DatL K M vs ds → flatL ds = true → DatL K M' vs ds
  | _, _, .nil, _ => .nil
  | _, _, .cons h r, f => by
    have f' := Bool.and_eq_true_iff.mp f
    exact .cons (Dat.flatly e h f'.1) (DatL.flatly e r f'.2)
end
theorem DatL.length : ∀ {vs : List V} {ds : List D}, DatL K M vs ds → vs.length = ds.length
  | _, _, .nil => rfl
  | _, _, .cons _ r => by simp [DatL.length r]
theorem DatL.get : ∀ {vs : List V} {ds : List D}, DatL K M vs ds → ∀ {i : Nat} {d : D}, ds[i]? = some d → ∃ v, vs[i]? = some v ∧ Dat K M v d
  | _, _, .nil, i, d, h => by simp at h
  | _, _, .cons h r, 0, d, e => by
    have e' : _ = d := Option.some.inj e
    subst e'
    exact ⟨_, rfl, h⟩
  | _, _, .cons h r, i + 1, d, e => DatL.get r (by simpa using e)
theorem DatL.get' : ∀ {vs : List V} {ds : List D}, DatL K M vs ds → ∀ {i : Nat} {v : V}, vs[i]? = some v → ∃ d, ds[i]? = some d ∧ Dat K M v d
  | _, _, .nil, i, d, h => by simp at h
  | _, _, .cons h r, 0, d, e => by
    have e' : _ = d := Option.some.inj e
    subst e'
    exact ⟨_, rfl, h⟩
  | _, _, .cons h r, i + 1, d, e => DatL.get' r (by simpa using e)
theorem DatL.append : ∀ {vs ws : List V} {ds es : List D}, DatL K M vs ds → DatL K M ws es → DatL K M (vs ++ ws) (ds ++ es)
  | _, _, _, _, .nil, s => s
  | _, _, _, _, .cons h r, s => .cons h (DatL.append r s)
theorem DatL.take : ∀ {vs : List V} {ds : List D} (n : Nat), DatL K M vs ds → DatL K M (vs.take n) (ds.take n)
  | _, _, 0, _ => .nil
  | _, _, _ + 1, .nil => .nil
  | _, _, n + 1, .cons h r => .cons h (DatL.take n r)
theorem DatL.drop : ∀ {vs : List V} {ds : List D} (n : Nat), DatL K M vs ds → DatL K M (vs.drop n) (ds.drop n)
  | _, _, 0, r => r
  | _, _, _ + 1, .nil => .nil
  | _, _, n + 1, .cons _ r => DatL.drop n r
theorem DatL.set {v : V} {d : D} (h : Dat K M v d) : ∀ {vs : List V} {ds : List D} (n : Nat), DatL K M vs ds → DatL K M (vs.set n v) (ds.set n d)
  | _, _, _, .nil => .nil
  | _, _, 0, .cons _ r => .cons h r
  | _, _, n + 1, .cons q r => .cons q (DatL.set h n r)
theorem DatL.erase : ∀ {vs : List V} {ds : List D} (n : Nat), DatL K M vs ds → DatL K M (vs.eraseIdx n) (ds.eraseIdx n)
  | _, _, _, .nil => .nil
  | _, _, 0, .cons _ r => r
  | _, _, n + 1, .cons q r => .cons q (DatL.erase n r)
theorem DatL.rep {vs : List V} {ds : List D} (h : DatL K M vs ds) : ∀ k : Nat, DatL K M (List.replicate k vs).flatten (List.replicate k ds).flatten
  | 0 => .nil
  | k + 1 => by
    rw [List.replicate_succ, List.replicate_succ, List.flatten_cons, List.flatten_cons]
    exact h.append (DatL.rep h k)
theorem DatL.intsOf : ∀ {ns : List Int}, DatL K M (ns.map V.int) (ns.map D.int)
  | [] => .nil
  | _ :: _ => .cons (.int _) DatL.intsOf
theorem DatL.of_ints : ∀ {ns : List Int} {vs : List V} {ds : List D}, DatL K M vs ds → PyD.intsOf ds = some ns → vs = ns.map V.int
  | ns, _, _, .nil, h => by
    have e : [] = ns := Option.some.inj h
    subst e
    rfl
  | ns, _, _, .cons q r, h => by
    cases q with
    | int i =>
      simp only [PyD.intsOf, Option.map_eq_some_iff] at h
      obtain ⟨ms, h1, rfl⟩ := h
      rw [DatL.of_ints r h1]
      rfl
    | _ => simp [PyD.intsOf] at h

/-! as the data that == reads -/
mutual
theorem Dat.dp (e : Same M H) : ∀ {v : V} {d : D}, Dat K M v d → d.py.canLay0 = true → Dp K H v d.py
  | _, _, .non, _ => .non
  | _, _, .bl b, _ => .bl b
  | _, _, .int i, _ => .int i
  | _, _, .str x, _ => .str x
  | _, _, .tup h r, f => .tup (same_t e h) (DatL.dp e r (by simpa [D.py, PyData.canLay0] using f))
  | _, _, .lst h r, f => .lst (SqL.of (e _ _ h)) (DatL.dp e r (by simpa [D.py, PyData.canLay0] using f))
  | _, _, .ro _ _, f => nomatch f
theorem DatL.dp (e : Same M H) : ∀ {vs : List V} {ds : List D}, DatL K M vs ds → PyData.canLayAll0 (pyL ds) = true → DpAll K H vs (pyL ds)
  | _, _, .nil, _ => .nil
  | _, _, .cons h r, f => by
    simp only [pyL, PyData.canLayAll0, Bool.and_eq_true] at f
    exact .cons (Dat.dp e h f.1) (DatL.dp e r f.2)
end
end

/-! ### the frozen part and what is new -/
structure Xt (M M' H H' : Hp) : Prop where
  m : Same M M'
  h : Same H H'
  s : Same M' H'
  f : ∀ a, M' a ≠ none → M a ≠ none ∨ H a = none
section
variable {K : PySem.W.Frag} {M M1 M' H H1 H' : Hp}
theorem Xt.refl (s : Same M H) : Xt M M H H := ⟨Same.refl M, Same.refl H, s, fun _ h => .inl h⟩
theorem Xt.trans (a : Xt M M1 H H1) (b : Xt M1 M' H1 H') : Xt M M' H H' :=
  ⟨a.m.trans b.m, a.h.trans b.h, b.s, fun c h => (b.f c h).elim (a.f c) fun q => .inr (a.h.free q)⟩
theorem same_new {H : Hp} {p : Addr} {o : HO} (h : H p = none) : Same H (upd H p o) := fun a u e => by
  rw [upd_ne (ne_of_none e h)]
  exact e
/-- a new object, kept for good -/
theorem Xt.new {p : Addr} {o : HO} (s : Same M H) (hp : H p = none) : Xt M (upd M p o) H (upd H p o) := by
  have mp : M p = none := s.free hp
  refine ⟨same_new mp, same_new hp, fun a u e => ?_, fun a h => ?_⟩
  · by_cases q : a = p
    · subst q
      rw [upd_same] at e ⊢
      exact e
    · rw [upd_ne q] at e ⊢
      exact s a u e
  · by_cases q : a = p
    · subst q
      exact .inr hp
    · rw [upd_ne q] at h
      exact .inl h
/-- a new object, not kept -/
theorem Xt.newH {p : Addr} {o : HO} (s : Same M H) (hp : H p = none) : Xt M M H (upd H p o) :=
  ⟨Same.refl M, same_new hp, s.trans (same_new hp), fun _ h => .inl h⟩
/-- an object that is new since H is kept from now on -/
theorem Xt.keep {p : Addr} {o : HO} (x : Xt M M' H H') (hp : H p = none) (mp : M' p = none) (ho : H' p = some o) : Xt M (upd M' p o) H H' := by
  refine ⟨x.m.trans (same_new mp), x.h, fun a u e => ?_, fun a h => ?_⟩
  · by_cases q : a = p
    · subst q
      rw [upd_same] at e
      rw [← e]
      exact ho
    · rw [upd_ne q] at e
      exact x.s a u e
  · by_cases q : a = p
    · subst q
      exact .inr hp
    · rw [upd_ne q] at h
      exact x.f a h

/-- a value that was made: fr: a new list, not kept yet, its items kept -/
def Res (K : PySem.W.Frag) (M' H H' : Hp) : Bool → V → D → Prop
  | false, v, d => Dat K M' v d
  | true, v, d => ∃ l vs ds, v = .ref l ∧ d = .lst ds ∧ H l = none ∧ H' l = some (.lst vs) ∧ M' l = none ∧ DatL K M' vs ds
/-- the new list is kept -/
theorem Res.keep {fr : Bool} {v : V} {d : D} (x : Xt M M' H H') (r : Res K M' H H' fr v d) : ∃ M2, Xt M M2 H H' ∧ Dat K M2 v d := by
  cases fr with
  | false => exact ⟨M', x, r⟩
  | true =>
    obtain ⟨l, vs, ds, rfl, rfl, hl, h', ml, r⟩ := r
    exact ⟨upd M' l (.lst vs), x.keep hl ml h', .lst upd_same (r.mono (same_new ml))⟩

/-- the slots' data -/
structure Rd0 (K : PySem.W.Frag) (M : Hp) (σ : L2.St) (env : Env) : Prop where
  len : σ.length = env.length
  ix : ∀ (i : Nat) (d : D), env[i]? = some (some d) → ∃ v, σ[i]? = some (some v) ∧ Dat K M v d
theorem Rd0.mono {σ : L2.St} {env : Env} (e : Same M M') (r : Rd0 K M σ env) : Rd0 K M' σ env := ⟨r.len, fun i d h =>
  let ⟨v, h1, h2⟩ := r.ix i d h
  ⟨v, h1, h2.mono e⟩⟩
theorem Rd0.set {σ : L2.St} {env : Env} {i : Nat} {v : V} {d : D} (r : Rd0 K M σ env) (h : Dat K M v d) : Rd0 K M (σ.set i (some v)) (env.set i (some d)) := ⟨by simp [r.len], fun j e q => by
  have hl := r.len
  by_cases hj : i = j
  · subst hj
    have hi : i < env.length := by
      by_cases hi : i < env.length
      · exact hi
      · rw [List.getElem?_eq_none (by rw [List.length_set]; omega)] at q
        cases q
    rw [List.getElem?_set_self hi] at q
    cases q
    exact ⟨v, by rw [List.getElem?_set_self (by omega)], h⟩
  · rw [List.getElem?_set_ne hj] at q ⊢
    exact r.ix j e q⟩
theorem Rd0.wipe {σ : L2.St} {env : Env} (r : Rd0 K M σ env) : ∀ vs : List Nat, Rd0 K M (L2.wipe σ vs) (wipeE env vs)
  | [] => r
  | v :: vs => by
    have ih := Rd0.wipe r vs
    refine ⟨by unfold L2.wipe wipeE; simp [ih.len], fun j e q => ?_⟩
    unfold wipeE at q
    unfold L2.wipe
    by_cases hj : v = j
    · subst hj
      exfalso
      by_cases hi : v < (wipeE env vs).length
      · rw [List.getElem?_set_self hi] at q; cases q
      · rw [List.getElem?_eq_none (by rw [List.length_set]; omega)] at q; cases q
    · rw [List.getElem?_set_ne hj] at q ⊢
      exact ih.ix j e q
end
end PyD

/-! Expressions: the interpreter's reading is a reading of the layer. -/
namespace PyD
open PySem L2

/-- what a def promises: on data on which the table's function has a value, it hands back that value -/
def spOf (K : PySem.W.Frag) (Φ : Fns) (fr : Bool) (f : Nat) : Sp := fun vs H Q _ => ∃ M ds d, Same M H ∧ DatL K M vs ds ∧ Φ f ds = some d ∧ ∀ v M' H', Xt M M' H H' → Res K M' H H' fr v d → Q v H'

def biNames : List Str := ["len", "abs", "int", "min", "max", "sum", "list", "tuple", "isinstance", "bool", "str", "dict", "range", "enumerate", "zip", "reversed", "sorted", "all", "any"]

structure Ck where
  tb : List Fn
  N : List Str
  gcd : Bool
structure Gd (C : Ck) (n : Nat) (sc : Scope) (fnb : Str → Bool) (X : Cx) : Prop where
  hN : X.N = C.N
  nd : C.N.Nodup
  kind : sc.kind = .function
  sc : X.env.scope = sc
  calm : X.calm = true
  room : Room n X.A
  bi : ∀ nm ∈ biNames, X.mg nm = none
  gcd : C.gcd = true → X.mg "gcd" = some (.builtin "math.gcd")
  fn : ∀ (f : Nat) (fn : Fn), C.tb[f]? = some fn → ∃ a, X.mg fn.name = some (.ref a) ∧ PySem.W.keepIn X.K (.ref a) = true ∧ FnR X.prog X.w X.K X.mg X.base CX0 n a (spOf X.K (fns C.tb n) fn.fr f)
  xe : X.xe = fun _ _ => False
  fnb : ∀ x, fnb x = true → X.fn x = true

theorem Gd.hu {C : Ck} {n : Nat} {sc : Scope} {fnb : Str → Bool} {X : Cx} (G : Gd C n sc fnb X) : X.A.units + 65 < cLine := by
  have := G.room.un
  omega

/-! ### readings -/
def isL : D → Bool
  | .lst _ => true
  | _ => false
def tE (K : PySem.W.Frag) (Φ : Fns) (fr : Bool) (e : E) : TE := fun σ H Q => ∃ M env d, (fr = true → isL d = true) ∧ Same M H ∧ Rd0 K M σ env ∧ ev Φ e env = some d ∧ ∀ v M' H', Xt M M' H H' → Res K M' H H' fr v d → Q v H'
def tA (K : PySem.W.Frag) (Φ : Fns) (e : E) : TA := fun σ H Q => ∃ M env ds, Same M H ∧ Rd0 K M σ env ∧ ev Φ e env = some (.tup ds) ∧ ∀ vs M' H', Xt M M' H H' → DatL K M' vs ds → Q vs H'
def tT (K : PySem.W.Frag) (Φ : Fns) (e : E) : TT := fun σ H Q => ∃ M env b, Same M H ∧ Rd0 K M σ env ∧ ev Φ e env = some (.bl b) ∧ ∀ M' H', Xt M M' H H' → Q b H'
def evP (Φ : Fns) (e : E) (env : Env) : Option (Option Int) := if e.isNil then some none else (ev Φ e env).bind intPart
def tP (K : PySem.W.Frag) (Φ : Fns) (e : E) : TO := fun σ H Q => ∃ M env o, Same M H ∧ Rd0 K M σ env ∧ evP Φ e env = some o ∧ ∀ M' H', Xt M M' H H' → Q o H'

section
variable {X : Cx} {x y : Expr} {xs : List Expr} {Φ : Fns} {a b c e : E} {pos : Pos}
theorem pe_imp {t t' : TE} (h : PE X x t) (i : ∀ σ H Q, t' σ H Q → t σ H Q) : PE X x t' := ⟨fun pins s σ H Q I q => h.run pins s σ H Q I (i σ H Q q)⟩
theorem pa_imp {t t' : TA} (h : PA X xs t) (i : ∀ σ H Q, t' σ H Q → t σ H Q) : PA X xs t' := ⟨fun pos pins s σ H Q I q => h.run pos pins s σ H Q I (i σ H Q q)⟩
theorem pt_imp {t t' : TT} (h : PT X x t) (i : ∀ σ H Q, t' σ H Q → t σ H Q) : PT X x t' := ⟨fun pins s σ H Q I q => h.run pins s σ H Q I (i σ H Q q)⟩
theorem pw_imp {t t' : TT} (h : PW X x t) (i : ∀ σ H Q, t' σ H Q → t σ H Q) : PW X x t' := ⟨fun wh pins s σ H Q I q => h.run wh pins s σ H Q I (i σ H Q q)⟩
theorem po_imp {t t' : TO} {x : Option Expr} (h : PO X x t) (i : ∀ σ H Q, t' σ H Q → t σ H Q) : PO X x t' := by
  obtain ⟨h⟩ := h
  constructor
  intro pins s σ H Q I q
  exact h pins s σ H Q I (i σ H Q q)

/-- a new list, kept at once -/
theorem pe_keep (h : PE X x (tE X.K Φ true e)) (hl : ∀ env d, ev Φ e env = some d → isL d = true) : PE X x (tE X.K Φ false e) := pe_imp h fun σ H Q ⟨M, env, d, _, sm, rd, q, k⟩ => ⟨M, env, d, fun _ => hl env d q, sm, rd, q, fun v M' H' xt r => by
  obtain ⟨M2, x2, r2⟩ := Res.keep xt r
  exact k v M2 H' x2 r2⟩

theorem s_var {i : Nat} (h : PE X x (tVar i)) : PE X x (tE X.K Φ false (.var i)) := pe_imp h fun σ H Q ⟨M, env, d, _, sm, rd, q, k⟩ => by
  simp only [ev] at q
  have q' : env[i]? = some (some d) := by
    cases e : env[i]? with
    | none => rw [e] at q; cases q
    | some o => rw [e] at q; exact congrArg some q
  obtain ⟨v, h1, h2⟩ := rd.ix i d q'
  exact ⟨v, h1, k v M H (Xt.refl sm) h2⟩
theorem s_cst {v : V} {d : D} (h : PE X x (tC v)) (hd : ∀ M, Dat X.K M v d) (he : ∀ env, ev Φ e env = some d) : PE X x (tE X.K Φ false e) := pe_imp h fun σ H Q ⟨M, env, d', _, sm, rd, q, k⟩ => by
  rw [he] at q
  cases q
  exact k v M H (Xt.refl sm) (hd M)

/-- what is made behind an extension -/
theorem Res.back {K : PySem.W.Frag} {M' H H1 H' : Hp} {fr : Bool} {v : V} {d : D} (s : Same H H1) (r : Res K M' H1 H' fr v d) : Res K M' H H' fr v d := by
  cases fr with
  | false => exact r
  | true =>
    obtain ⟨l, vs, ds, e1, e2, hl, h'⟩ := r
    exact ⟨l, vs, ds, e1, e2, s.free hl, h'⟩
/-- a new list at p -/
theorem Res.new {K : PySem.W.Frag} {M H : Hp} {fr : Bool} {p : Addr} {vs : List V} {ds : List D} {Q : VK} (sm : Same M H) (hp : H p = none) (r : DatL K M vs ds)
    (k : ∀ v M' H', Xt M M' H H' → Res K M' H H' fr v (.lst ds) → Q v H') : Q (.ref p) (upd H p (.lst vs)) := by
  cases fr with
  | false => exact k _ _ _ (Xt.new sm hp) (.lst upd_same (r.mono (same_new (sm.free hp))))
  | true => exact k _ _ _ (Xt.newH sm hp) ⟨p, vs, ds, rfl, rfl, hp, upd_same, sm.free hp, r⟩
/-- a new tuple at p -/
theorem Res.newT {K : PySem.W.Frag} {M H : Hp} {p : Addr} {vs : List V} {ds : List D} {Q : VK} (sm : Same M H) (hp : H p = none) (r : DatL K M vs ds)
    (k : ∀ v M' H', Xt M M' H H' → Dat K M' v (.tup ds) → Q v H') : Q (.ref p) (upd H p (.tup vs)) :=
  k _ _ _ (Xt.new sm hp) (.tup (SqT.of upd_same) (r.mono (same_new (sm.free hp))))

/-- two operands -/
theorem two {fr : Bool} {f : D → D → Option D} {r : R2} (hb : ∀ env, ev Φ e env = (ev Φ a env).bind fun x => (ev Φ b env).bind fun y => f x y)
    (op : ∀ M H v w dx dy d Q, (fr = true → isL d = true) → Same M H → Dat X.K M v dx → Dat X.K M w dy → f dx dy = some d → (∀ z M' H', Xt M M' H H' → Res X.K M' H H' fr z d → Q z H') → r v w H Q)
    {σ : L2.St} {H : Hp} {Q : VK} (h : tE X.K Φ fr e σ H Q) : tOp r (tE X.K Φ false a) (tE X.K Φ false b) σ H Q := by
  obtain ⟨M, env, d, il, sm, rd, q, k⟩ := h
  rw [hb] at q
  obtain ⟨dx, q1, q⟩ := Option.bind_eq_some_iff.mp q
  obtain ⟨dy, q2, q3⟩ := Option.bind_eq_some_iff.mp q
  refine ⟨M, env, dx, (fun z => nomatch z), sm, rd, q1, fun v M1 H1 x1 r1 => ⟨M1, env, dy, (fun z => nomatch z), x1.s, rd.mono x1.m, q2, fun w M2 H2 x2 r2 => ?_⟩⟩
  exact op M2 H2 v w dx dy d Q il x2.s (Dat.mono x2.m r1) r2 q3 fun z M' H' x3 r3 => k z M' H' ((x1.trans x2).trans x3) (r3.back (x1.trans x2).h)
/-- one operand -/
theorem one1 {fr : Bool} {f : D → Option D} {r : V → Hp → VK → Prop} (hb : ∀ env, ev Φ e env = (ev Φ a env).bind f)
    (op : ∀ M H v dx d Q, (fr = true → isL d = true) → Same M H → Dat X.K M v dx → f dx = some d → (∀ z M' H', Xt M M' H H' → Res X.K M' H H' fr z d → Q z H') → r v H Q)
    {σ : L2.St} {H : Hp} {Q : VK} (h : tE X.K Φ fr e σ H Q) : tE X.K Φ false a σ H fun v H1 => r v H1 Q := by
  obtain ⟨M, env, d, il, sm, rd, q, k⟩ := h
  rw [hb] at q
  obtain ⟨dx, q1, q2⟩ := Option.bind_eq_some_iff.mp q
  refine ⟨M, env, dx, (fun z => nomatch z), sm, rd, q1, fun v M1 H1 x1 r1 => ?_⟩
  exact op M1 H1 v dx d Q il x1.s r1 q2 fun z M' H' x3 r3 => k z M' H' (x1.trans x3) (r3.back x1.h)

theorem mulOk_of {i j : Int} (h : mulOk i j = true) : IntMulOk i j := by
  unfold mulOk at h
  simp only [Bool.or_eq_true, decide_eq_true_eq] at h
  rcases h with (h | h) | h
  · exact CMul.ok (.inl ⟨by omega, by omega⟩)
  · exact CMul.ok (.inr ⟨by omega, by omega⟩)
  · exact CMulW.ok h
theorem op_mulO : OpR X (binaryOp .Mult) (rI (fun i j => mulOk i j = true) fun i j => .int (i * j)) := opI fun _ _ _ _ _ _ _ hc q => PyProof.Rows.mul_int q (mulOk_of hc)
theorem op_fdivO : OpR X (binaryOp .FloorDiv) (rI (fun _ j => divOk j = true) fun i j => .int (i.fdiv j)) := by
  intro pins s σ H x y v u Q I rx ry h
  obtain ⟨i, j, e1, e2, hc, q⟩ := h
  unfold divOk at hc
  simp only [Bool.or_eq_true, Bool.and_eq_true, decide_eq_true_eq] at hc
  rcases hc with hc | hc
  · refine op_fdivW pins s σ H x y v u Q I rx ry ⟨i, j, e1, e2, hc, ?_⟩
    have e : i.fdiv j = i / j := Int.fdiv_eq_ediv_of_nonneg i (by omega)
    have q' : Q (V.int (i.fdiv j)) H := q
    rw [e] at q'
    exact q'
  · exact op_fdivN pins s σ H x y v u Q I rx ry ⟨i, j, e1, e2, hc, q⟩

theorem LIM_le {n : Nat} (h : n ≤ LIM) : n ≤ sizeLine := Nat.le_trans h (by decide)
theorem LIM_lt {n : Nat} (h : n < LIM) : n < sizeLine := Nat.lt_of_lt_of_le h (by decide)
theorem nofr {fr : Bool} {d : D} (il : fr = true → isL d = true) (h : isL d = false) : fr = false := by
  cases fr with
  | false => rfl
  | true => rw [il rfl] at h; cases h

/-- + of intsOf, lists, tuples -/
theorem s_add {fr : Bool} (ha : PE X x (tE X.K Φ false a)) (hb : PE X y (tE X.K Φ false b)) : PE X (.BinOp x .Add y pos) (tE X.K Φ fr (.bin .add a b)) := by
  refine pe_imp (pe_op (op_add.or (op_cat.or op_catA)) ha hb) fun σ H Q h => two (fun _ => rfl) (fun M H v w dx dy d Q il sm hx hy q k => ?_) h
  cases hx with
  | int i =>
    cases hy with
    | int j =>
      cases q
      cases nofr il rfl
      exact .inl ⟨i, j, rfl, rfl, k _ M H (Xt.refl sm) (.int _)⟩
    | _ => cases q
  | lst h1 r1 =>
    cases hy with
    | lst h2 r2 =>
      simp only [binD] at q
      split at q
      · rename_i hl
        cases q
        refine .inr (.inl ⟨_, _, _, _, rfl, rfl, sm _ _ h1, sm _ _ h2, LIM_le (by rw [r1.length, r2.length]; exact hl), fun p hp => ?_⟩)
        exact Res.new sm hp (r1.append r2) k
      · cases q
    | _ => cases q
  | tup h1 r1 =>
    cases hy with
    | tup h2 r2 =>
      simp only [binD] at q
      split at q
      · rename_i hl
        cases q
        cases nofr il rfl
        refine .inr (.inr ⟨_, _, _, _, rfl, rfl, same_t sm h1, same_t sm h2, LIM_le (by rw [r1.length, r2.length]; exact hl), fun e => ?_, fun e1 e2 => ?_, fun e1 e2 p hp => ?_⟩)
        · subst e
          cases r1
          exact k _ M H (Xt.refl sm) (.tup h2 r2)
        · subst e2
          cases r2
          rw [List.append_nil] at k
          exact k _ M H (Xt.refl sm) (.tup h1 r1)
        · exact Res.newT sm hp (r1.append r2) k
      · cases q
    | _ => cases q
  | _ => cases q
theorem s_sub (ha : PE X x (tE X.K Φ false a)) (hb : PE X y (tE X.K Φ false b)) : PE X (.BinOp x .Sub y pos) (tE X.K Φ false (.bin .sub a b)) := by
  refine pe_imp (pe_op op_sub ha hb) fun σ H Q h => two (fun _ => rfl) (fun M H v w dx dy d Q il sm hx hy q k => ?_) h
  cases hx with
  | int i =>
    cases hy with
    | int j =>
      cases q
      exact ⟨i, j, rfl, rfl, k _ M H (Xt.refl sm) (.int _)⟩
    | _ => cases q
  | _ => cases q
theorem s_mul {fr : Bool} (ha : PE X x (tE X.K Φ false a)) (hb : PE X y (tE X.K Φ false b)) : PE X (.BinOp x .Mult y pos) (tE X.K Φ fr (.bin .mul a b)) := by
  refine pe_imp (pe_op (op_mulO.or (op_rep.or op_repT)) ha hb) fun σ H Q h => two (fun _ => rfl) (fun M H v w dx dy d Q il sm hx hy q k => ?_) h
  cases hx with
  | int i =>
    cases hy with
    | int j =>
      simp only [binD] at q
      split at q
      · rename_i hl
        cases q
        cases nofr il rfl
        exact .inl ⟨i, j, rfl, rfl, hl, k _ M H (Xt.refl sm) (.int _)⟩
      · cases q
    | _ => cases q
  | lst h1 r1 =>
    cases hy with
    | int z =>
      simp only [binD] at q
      split at q
      · rename_i hl
        simp only [Bool.and_eq_true, decide_eq_true_eq] at hl
        cases q
        refine .inr (.inl ⟨_, _, _, rfl, rfl, sm _ _ h1, by omega, by omega, LIM_le (by rw [r1.length]; exact hl.2), fun p hp => ?_⟩)
        exact Res.new sm hp (r1.rep _) k
      · cases q
    | _ => cases q
  | tup h1 r1 =>
    cases hy with
    | int z =>
      simp only [binD] at q
      split at q
      · rename_i hl
        simp only [Bool.and_eq_true, decide_eq_true_eq] at hl
        cases q
        cases nofr il rfl
        refine .inr (.inr ⟨_, _, _, rfl, rfl, same_t sm h1, ?_, by omega, by omega, by rw [r1.length]; omega, fun p hp => ?_⟩)
        · intro e
          subst e
          cases r1
          simp at hl
        · exact Res.newT sm hp (r1.rep _) k
      · cases q
    | _ => cases q
  | _ => cases q
theorem s_fdiv (ha : PE X x (tE X.K Φ false a)) (hb : PE X y (tE X.K Φ false b)) : PE X (.BinOp x .FloorDiv y pos) (tE X.K Φ false (.bin .fdiv a b)) := by
  refine pe_imp (pe_op op_fdivO ha hb) fun σ H Q h => two (fun _ => rfl) (fun M H v w dx dy d Q il sm hx hy q k => ?_) h
  cases hx with
  | int i =>
    cases hy with
    | int j =>
      simp only [binD] at q
      split at q
      · rename_i hl
        cases q
        exact ⟨i, j, rfl, rfl, hl, k _ M H (Xt.refl sm) (.int _)⟩
      · cases q
    | _ => cases q
  | _ => cases q
theorem s_mod (ha : PE X x (tE X.K Φ false a)) (hb : PE X y (tE X.K Φ false b)) : PE X (.BinOp x .Mod y pos) (tE X.K Φ false (.bin .mod a b)) := by
  refine pe_imp (pe_op op_mod ha hb) fun σ H Q h => two (fun _ => rfl) (fun M H v w dx dy d Q il sm hx hy q k => ?_) h
  cases hx with
  | int i =>
    cases hy with
    | int j =>
      simp only [binD] at q
      split at q
      · rename_i hl
        cases q
        exact ⟨i, j, rfl, rfl, hl, k _ M H (Xt.refl sm) (.int _)⟩
      · cases q
    | _ => cases q
  | _ => cases q
theorem s_pow (ha : PE X x (tE X.K Φ false a)) (hb : PE X y (tE X.K Φ false b)) : PE X (.BinOp x .Pow y pos) (tE X.K Φ false (.bin .pow a b)) := by
  refine pe_imp (pe_op op_pow ha hb) fun σ H Q h => two (fun _ => rfl) (fun M H v w dx dy d Q il sm hx hy q k => ?_) h
  cases hx with
  | int i =>
    cases hy with
    | int j =>
      simp only [binD] at q
      split at q
      · rename_i hl
        simp only [Bool.and_eq_true, decide_eq_true_eq] at hl
        cases q
        exact ⟨i, j, rfl, rfl, ⟨hl.1.1, by omega, by omega⟩, k _ M H (Xt.refl sm) (.int _)⟩
      · cases q
    | _ => cases q
  | _ => cases q
theorem s_neg (ha : PE X x (tE X.K Φ false a)) : PE X (.UnaryOp .USub x pos) (tE X.K Φ false (.neg a)) := by
  refine pe_imp (pe_un un_neg ha) fun σ H Q h => one1 (fun _ => rfl) (fun M H v dx d Q il sm hx q k => ?_) h
  cases hx with
  | int i =>
    cases q
    exact ⟨i, rfl, k _ M H (Xt.refl sm) (.int _)⟩
  | _ => cases q

/-! comparisons -/
theorem okEq_lay {d : D} (h : okEq d = true) : SeqAt.shaped d.py = true := h
theorem lay_of {d : D} (h : okEq d = true) : d.py.canLay0 = true := SeqAt.canLay_of_shaped h
theorem eqD_of {d e : D} {k : Bool} (h : eqD d e = some k) : okEq d = true ∧ okEq e = true ∧ k = PyData.eqv d.py e.py := by
  unfold eqD at h
  split at h
  · rename_i q
    cases h
    exact ⟨(Bool.and_eq_true_iff.mp q).1, (Bool.and_eq_true_iff.mp q).2, rfl⟩
  · cases h
/-- x in, x not in a tuple of data -/
def rInT (K : PySem.W.Frag) (neg : Bool) : R2 := fun x y H Q => ∃ d ds, Dp K H x d ∧ Dp K H y (.tuple ds) ∧ SeqAt.shaped d = true ∧ SeqAt.shaped (.list ds) = true ∧ Q (.bl (if neg then !ds.any fun z => PyData.eqv z d else ds.any fun z => PyData.eqv z d)) H
theorem canT {ds : List PyData} (h : SeqAt.shaped (.list ds) = true) : PyData.canLayAll0 ds = true := by
  have := SeqAt.canLay_of_shaped h
  simpa [PyData.canLay0] using this
theorem op_inT (hu : X.A.units + 65 < cLine) : OpR X (compareOp .In) (rInT X.K false) := by
  intro pins s σ H x y v u Q I rx ry h
  obtain ⟨d, ds, hd, he, sd, se, q⟩ := h
  obtain ⟨as, r1⟩ := Dp.reads I d x v hd rx
  obtain ⟨bs, r2⟩ := Dp.reads I (.tuple ds) y u he ry
  exact SeqAt.in_tuple_reads r2 r1 (canT se) (SeqAt.canLay_of_shaped sd) (PyProof.Rows.room_in_shaped sd hu) ⟨.bl _, H, I, rfl, q⟩
theorem op_notInT (hu : X.A.units + 65 < cLine) : OpR X (compareOp .NotIn) (rInT X.K true) := by
  intro pins s σ H x y v u Q I rx ry h
  obtain ⟨d, ds, hd, he, sd, se, q⟩ := h
  obtain ⟨as, r1⟩ := Dp.reads I d x v hd rx
  obtain ⟨bs, r2⟩ := Dp.reads I (.tuple ds) y u he ry
  exact SeqAt.notIn_tuple_reads r2 r1 (canT se) (SeqAt.canLay_of_shaped sd) (PyProof.Rows.room_in_shaped sd hu) ⟨.bl _, H, I, rfl, q⟩

/-- a comparison of values: op has the reading r, which cmpD o tells -/
structure CmpR (X : Cx) (o : Op) (op : CmpOp) (r : R2) : Prop where
  ok : OpR X (compareOp op) r
  rd : ∀ M H v w dx dy k (Q : VK), Same M H → Dat X.K M v dx → Dat X.K M w dy → cmpD o dx dy = some k → Q (.bl k) H → r v w H Q
theorem inSeq_of {x : D} {ys : List D} {k : Bool} (h : inSeq x ys = some k) : okEq x = true ∧ okEq (.lst ys) = true ∧ k = ys.any fun y => PyData.eqv y.py x.py := by
  unfold inSeq at h
  split at h
  · rename_i q
    cases h
    exact ⟨(Bool.and_eq_true_iff.mp q).1, (Bool.and_eq_true_iff.mp q).2, rfl⟩
  · cases h
theorem any_py (ys : List D) (x : PyData) : ((pyL ys).any fun z => PyData.eqv z x) = ys.any fun y => PyData.eqv y.py x := by
  induction ys with
  | nil => rfl
  | cons y ys ih => simp only [pyL, List.any_cons, ih]
def cmpOf : Op → Option CmpOp
  | .eq => some .Eq | .ne => some .NotEq | .lt => some .Lt | .le => some .LtE | .gt => some .Gt | .ge => some .GtE | .isin => some .In | .notin => some .NotIn
  | _ => none
theorem cmp_all (hu : X.A.units + 65 < cLine) {o : Op} {op : CmpOp} (h : cmpOf o = some op) : ∃ r, CmpR X o op r := by
  cases o <;> cases h
  · refine ⟨_, op_eqD (by omega), fun M H v w dx dy k Q sm hx hy q z => ?_⟩
    obtain ⟨h1, h2, rfl⟩ := eqD_of q
    exact ⟨_, _, hx.dp sm (lay_of h1), hy.dp sm (lay_of h2), h1, h2, z⟩
  · refine ⟨_, op_neD (by omega), fun M H v w dx dy k Q sm hx hy q z => ?_⟩
    obtain ⟨k', q', rfl⟩ := Option.map_eq_some_iff.mp q
    obtain ⟨h1, h2, rfl⟩ := eqD_of q'
    exact ⟨_, _, hx.dp sm (lay_of h1), hy.dp sm (lay_of h2), h1, h2, z⟩
  · exact ⟨_, op_lt, fun M H v w dx dy k Q sm hx hy q z => by cases hx <;> cases hy <;> cases q <;> exact ⟨_, _, rfl, rfl, z⟩⟩
  · exact ⟨_, op_le, fun M H v w dx dy k Q sm hx hy q z => by cases hx <;> cases hy <;> cases q <;> exact ⟨_, _, rfl, rfl, z⟩⟩
  · exact ⟨_, op_gt, fun M H v w dx dy k Q sm hx hy q z => by cases hx <;> cases hy <;> cases q <;> exact ⟨_, _, rfl, rfl, z⟩⟩
  · exact ⟨_, op_ge, fun M H v w dx dy k Q sm hx hy q z => by cases hx <;> cases hy <;> cases q <;> exact ⟨_, _, rfl, rfl, z⟩⟩
  · refine ⟨_, (op_inD hu).or (op_inT hu), fun M H v w dx dy k Q sm hx hy q z => ?_⟩
    cases hy with
    | lst h r =>
      obtain ⟨h1, h2, rfl⟩ := inSeq_of q
      exact .inl ⟨_, _, hx.dp sm (lay_of h1), (Dat.lst h r : Dat X.K M _ _).dp sm (lay_of h2), h1, h2, by rw [any_py]; exact z⟩
    | tup h r =>
      obtain ⟨h1, h2, rfl⟩ := inSeq_of q
      exact .inr ⟨_, _, hx.dp sm (lay_of h1), (Dat.tup h r : Dat X.K M _ _).dp sm (by have := lay_of h2; simpa [D.py, PyData.canLay0] using this), h1, h2, by rw [any_py]; exact z⟩
    | _ => cases q
  · refine ⟨_, (op_notInD hu).or (op_notInT hu), fun M H v w dx dy k Q sm hx hy q z => ?_⟩
    cases hy with
    | lst h r =>
      obtain ⟨k', q', rfl⟩ := Option.map_eq_some_iff.mp q
      obtain ⟨h1, h2, rfl⟩ := inSeq_of q'
      exact .inl ⟨_, _, hx.dp sm (lay_of h1), (Dat.lst h r : Dat X.K M _ _).dp sm (lay_of h2), h1, h2, by rw [any_py]; exact z⟩
    | tup h r =>
      obtain ⟨k', q', rfl⟩ := Option.map_eq_some_iff.mp q
      obtain ⟨h1, h2, rfl⟩ := inSeq_of q'
      exact .inr ⟨_, _, hx.dp sm (lay_of h1), (Dat.tup h r : Dat X.K M _ _).dp sm (by have := lay_of h2; simpa [D.py, PyData.canLay0] using this), h1, h2, by rw [any_py]; exact z⟩
    | _ => cases q
end
end PyD

/-! More expressions: comparisons, truth, displays, calls, subscripts. -/
namespace PyD
open PySem L2

section
variable {X : Cx} {x y z : Expr} {xs : List Expr} {Φ : Fns} {a b c e : E} {pos : Pos}

/-- a value that is a truth value, as a test -/
theorem pt_of (h : PE X x (tE X.K Φ false e)) (hs : ∀ whole, isTrue x X.env whole = (do let v ← whole; standAt x.pos; holding [v] (truthy v))) : PT X x (tT X.K Φ e) :=
  pt_imp (pt_val h hs) fun σ H Q ⟨M, env, b, sm, rd, q, k⟩ => ⟨M, env, .bl b, (fun z => nomatch z), sm, rd, q, fun v M' H' xt r => by cases r; exact ⟨b, rfl, k M' H' xt⟩⟩

/-! ### comparisons -/
theorem s_cmp {o : Op} {op : CmpOp} {r : R2} (c : CmpR X o op r) (ha : PE X x (tE X.K Φ false a)) (hb : PE X y (tE X.K Φ false b)) (hm : behindInMarks op y = false) :
    PE X (.Compare x [op] [y] pos) (tE X.K Φ false (.cmp o a b)) ∧ PT X (.Compare x [op] [y] pos) (tT X.K Φ (.cmp o a b)) := by
  have e1 : ∀ env, ev Φ (.cmp o a b) env = (ev Φ a env).bind fun x => (ev Φ b env).bind fun y => (cmpD o x y).map .bl := fun _ => rfl
  refine ⟨pe_imp (pe_cmpR c.ok ha hb hm) fun σ H Q h => two e1 (fun M H v w dx dy d Q il sm hx hy q k => ?_) h, pt_imp (pt_cmpR c.ok ha hb hm) fun σ H Q ⟨M, env, b', sm, rd, q, k⟩ => ?_⟩
  · obtain ⟨k', q', rfl⟩ := Option.map_eq_some_iff.mp q
    exact c.rd M H v w dx dy k' Q sm hx hy q' (k _ M H (Xt.refl sm) (.bl _))
  · refine two (fr := false) e1 (fun M H v w dx dy d Q il sm hx hy q k => ?_) ⟨M, env, .bl b', (fun z => nomatch z), sm, rd, q, fun v M' H' xt r => ?_⟩
    · obtain ⟨k', q', rfl⟩ := Option.map_eq_some_iff.mp q
      exact c.rd M H v w dx dy k' Q sm hx hy q' (k _ M H (Xt.refl sm) (.bl _))
    · cases r
      exact ⟨b', rfl, k M' H' xt⟩
theorem chainW {o o' : Op} {op op' : CmpOp} {r r' : R2} (co : CmpR X o op r) (co' : CmpR X o' op' r') {σ : L2.St} {H : Hp} {Q : VK} (h : tE X.K Φ false (.chain o o' a b c) σ H Q) :
    tChain r r' (tE X.K Φ false a) (tE X.K Φ false b) (tE X.K Φ false c) σ H Q := by
  obtain ⟨M, env, d, il, sm, rd, q, k⟩ := h
  simp only [ev] at q
  obtain ⟨dx, q1, q⟩ := Option.bind_eq_some_iff.mp q
  obtain ⟨dy, q2, q⟩ := Option.bind_eq_some_iff.mp q
  obtain ⟨k1, q3, q⟩ := Option.bind_eq_some_iff.mp q
  refine ⟨M, env, dx, (fun z => nomatch z), sm, rd, q1, fun v M1 H1 x1 r1 => ⟨M1, env, dy, (fun z => nomatch z), x1.s, rd.mono x1.m, q2, fun w M2 H2 x2 r2 => ?_⟩⟩
  refine co.rd M2 H2 v w dx dy k1 _ x2.s (Dat.mono x2.m r1) r2 q3 ⟨k1, rfl, ?_⟩
  have x12 := x1.trans x2
  cases k1 with
  | false =>
    rw [if_neg (by decide)] at q ⊢
    cases q
    exact k _ M2 H2 x12 (.bl _)
  | true =>
    rw [if_pos rfl] at q ⊢
    obtain ⟨dz, q4, q5⟩ := Option.bind_eq_some_iff.mp q
    obtain ⟨k2, q6, rfl⟩ := Option.map_eq_some_iff.mp q5
    refine ⟨M2, env, dz, (fun z => nomatch z), x12.s, rd.mono x12.m, q4, fun u M3 H3 x3 r3 => ?_⟩
    exact co'.rd M3 H3 w u dy dz k2 Q x3.s (Dat.mono x3.m r2) r3 q6 (k _ M3 H3 (x12.trans x3) (.bl _))
theorem s_chain {o o' : Op} {op op' : CmpOp} {r r' : R2} (co : CmpR X o op r) (co' : CmpR X o' op' r') (ha : PE X x (tE X.K Φ false a)) (hb : PE X y (tE X.K Φ false b)) (hc : PE X z (tE X.K Φ false c)) (hm : lastMarks [op, op'] [y, z] = false) :
    PE X (.Compare x [op, op'] [y, z] pos) (tE X.K Φ false (.chain o o' a b c)) ∧ PT X (.Compare x [op, op'] [y, z] pos) (tT X.K Φ (.chain o o' a b c)) := by
  refine ⟨pe_imp (pe_chain co.ok co'.ok ha hb hc hm) fun σ H Q h => chainW co co' h, pt_imp (pt_chain co.ok co'.ok ha hb hc hm) fun σ H Q ⟨M, env, b', sm, rd, q, k⟩ => ?_⟩
  refine chainW co co' ⟨M, env, .bl b', (fun z => nomatch z), sm, rd, q, fun v M' H' xt r => ?_⟩
  cases r
  exact ⟨b', rfl, k M' H' xt⟩
theorem dat_non {K : PySem.W.Frag} {M : Hp} {v : V} {d : D} (h : Dat K M v d) : decide (v = .non) = isNonD d := by
  cases h <;> rfl
theorem s_isN {j pos'} (ha : PE X x (tE X.K Φ false a)) : PE X (.Compare x [.Is] [.Constant .none j pos'] pos) (tE X.K Φ false (.isN a)) ∧ PT X (.Compare x [.Is] [.Constant .none j pos'] pos) (tT X.K Φ (.isN a)) := by
  have w : ∀ {σ : L2.St} {H : Hp} {Q : VK}, tE X.K Φ false (.isN a) σ H Q → tIsN (tE X.K Φ false a) σ H Q := fun {σ H Q} ⟨M, env, d, il, sm, rd, q, k⟩ => by
    simp only [ev] at q
    obtain ⟨dx, q1, rfl⟩ := Option.map_eq_some_iff.mp q
    refine ⟨M, env, dx, (fun z => nomatch z), sm, rd, q1, fun v M1 H1 x1 r1 => ?_⟩
    show Q (.bl (decide (v = .non))) H1
    rw [dat_non r1]
    exact k _ M1 H1 x1 (.bl _)
  refine ⟨pe_imp (pe_cmp (pc_isN ha) rfl) fun σ H Q h => w h, pt_imp (pt_cmp (pc_isN ha) rfl) fun σ H Q ⟨M, env, b', sm, rd, q, k⟩ => ?_⟩
  refine w ⟨M, env, .bl b', (fun z => nomatch z), sm, rd, q, fun v M' H' xt r => ?_⟩
  cases r
  exact ⟨b', rfl, k M' H' xt⟩
theorem s_notN {j pos'} (ha : PE X x (tE X.K Φ false a)) : PE X (.Compare x [.IsNot] [.Constant .none j pos'] pos) (tE X.K Φ false (.notN a)) ∧ PT X (.Compare x [.IsNot] [.Constant .none j pos'] pos) (tT X.K Φ (.notN a)) := by
  have w : ∀ {σ : L2.St} {H : Hp} {Q : VK}, tE X.K Φ false (.notN a) σ H Q → tNotN (tE X.K Φ false a) σ H Q := fun {σ H Q} ⟨M, env, d, il, sm, rd, q, k⟩ => by
    simp only [ev] at q
    obtain ⟨dx, q1, rfl⟩ := Option.map_eq_some_iff.mp q
    refine ⟨M, env, dx, (fun z => nomatch z), sm, rd, q1, fun v M1 H1 x1 r1 => ?_⟩
    show Q (.bl (!decide (v = .non))) H1
    rw [dat_non r1]
    exact k _ M1 H1 x1 (.bl _)
  refine ⟨pe_imp (pe_cmp (pc_notN ha) rfl) fun σ H Q h => w h, pt_imp (pt_cmp (pc_notN ha) rfl) fun σ H Q ⟨M, env, b', sm, rd, q, k⟩ => ?_⟩
  refine w ⟨M, env, .bl b', (fun z => nomatch z), sm, rd, q, fun v M' H' xt r => ?_⟩
  cases r
  exact ⟨b', rfl, k M' H' xt⟩

/-! ### and, or, not, a if c else b -/
theorem ev_bl_of {σ : L2.St} {M H : Hp} {env : Env} {Q : VK} {b : Bool} (sm : Same M H) (rd : Rd0 X.K M σ env) (q : ev Φ a env = some (.bl b)) (k : ∀ M' H', Xt M M' H H' → Q (.bl b) H') : tE X.K Φ false a σ H Q :=
  ⟨M, env, .bl b, (fun z => nomatch z), sm, rd, q, fun v M' H' xt r => by cases r; exact k M' H' xt⟩
theorem bl_ev {o : Option D} {f : D → Option D} {d : D} (h : (o.bind fun d => match d with | .bl true => f (.bl true) | .bl false => f (.bl false) | _ => none) = some d) : ∃ k, o = some (.bl k) ∧ f (.bl k) = some d := by
  obtain ⟨dx, q1, q2⟩ := Option.bind_eq_some_iff.mp h
  cases dx with
  | bl k => cases k <;> exact ⟨_, q1, q2⟩
  | _ => cases q2
theorem s_and {rest : List Expr} (ha : PE X x (tE X.K Φ false a)) (hb : PE X (.BoolOp .And (y :: rest) pos) (tE X.K Φ false b)) : PE X (.BoolOp .And (x :: y :: rest) pos) (tE X.K Φ false (.and a b)) :=
  pe_imp (pe_and ha hb) fun σ H Q ⟨M, env, d, il, sm, rd, q, k⟩ => by
    obtain ⟨k1, q1, q2⟩ := bl_ev (f := fun d => match d with | .bl true => ev Φ b env | _ => some (.bl false)) q
    refine ev_bl_of sm rd q1 fun M1 H1 x1 => ⟨k1, rfl, ?_⟩
    cases k1 with
    | true => exact ⟨M1, env, d, il, x1.s, rd.mono x1.m, q2, fun v M2 H2 x2 r2 => k v M2 H2 (x1.trans x2) r2⟩
    | false =>
      cases q2
      exact k _ M1 H1 x1 (.bl _)
theorem s_or {rest : List Expr} (ha : PE X x (tE X.K Φ false a)) (hb : PE X (.BoolOp .Or (y :: rest) pos) (tE X.K Φ false b)) : PE X (.BoolOp .Or (x :: y :: rest) pos) (tE X.K Φ false (.or a b)) :=
  pe_imp (pe_or ha hb) fun σ H Q ⟨M, env, d, il, sm, rd, q, k⟩ => by
    obtain ⟨k1, q1, q2⟩ := bl_ev (f := fun d => match d with | .bl true => some (.bl true) | _ => ev Φ b env) q
    refine ev_bl_of sm rd q1 fun M1 H1 x1 => ⟨k1, rfl, ?_⟩
    cases k1 with
    | false => exact ⟨M1, env, d, il, x1.s, rd.mono x1.m, q2, fun v M2 H2 x2 r2 => k v M2 H2 (x1.trans x2) r2⟩
    | true =>
      cases q2
      exact k _ M1 H1 x1 (.bl _)
theorem s_one {op} (ha : PE X x (tE X.K Φ false a)) : PE X (.BoolOp op [x] pos) (tE X.K Φ false (.one a)) := pe_imp (pe_one ha) fun σ H Q h => h
theorem s_not (ha : PE X x (tE X.K Φ false a)) : PE X (.UnaryOp .Not x pos) (tE X.K Φ false (.not a)) :=
  pe_imp (pe_not ha) fun σ H Q ⟨M, env, d, il, sm, rd, q, k⟩ => by
    simp only [ev] at q
    obtain ⟨dx, q1, q2⟩ := Option.bind_eq_some_iff.mp q
    cases dx with
    | bl k1 =>
      cases q2
      exact ev_bl_of sm rd q1 fun M1 H1 x1 => ⟨k1, rfl, k _ M1 H1 x1 (.bl _)⟩
    | _ => cases q2
theorem st_and {rest : List Expr} (ha : PT X x (tT X.K Φ a)) (hb : PW X (.BoolOp .And (y :: rest) pos) (tT X.K Φ b)) : PW X (.BoolOp .And (x :: y :: rest) pos) (tT X.K Φ (.and a b)) :=
  pw_imp (pw_and ha hb) fun σ H Q ⟨M, env, d, sm, rd, q, k⟩ => by
    obtain ⟨k1, q1, q2⟩ := bl_ev (f := fun d => match d with | .bl true => ev Φ b env | _ => some (.bl false)) q
    refine ⟨M, env, k1, sm, rd, q1, fun M1 H1 x1 => ?_⟩
    cases k1 with
    | true => exact iteT ⟨M1, env, d, x1.s, rd.mono x1.m, q2, fun M2 H2 x2 => k M2 H2 (x1.trans x2)⟩
    | false =>
      cases q2
      exact iteF (k M1 H1 x1)
theorem st_or {rest : List Expr} (ha : PT X x (tT X.K Φ a)) (hb : PW X (.BoolOp .Or (y :: rest) pos) (tT X.K Φ b)) : PW X (.BoolOp .Or (x :: y :: rest) pos) (tT X.K Φ (.or a b)) :=
  pw_imp (pw_or ha hb) fun σ H Q ⟨M, env, d, sm, rd, q, k⟩ => by
    obtain ⟨k1, q1, q2⟩ := bl_ev (f := fun d => match d with | .bl true => some (.bl true) | _ => ev Φ b env) q
    refine ⟨M, env, k1, sm, rd, q1, fun M1 H1 x1 => ?_⟩
    cases k1 with
    | false => exact iteF ⟨M1, env, d, x1.s, rd.mono x1.m, q2, fun M2 H2 x2 => k M2 H2 (x1.trans x2)⟩
    | true =>
      cases q2
      exact iteT (k M1 H1 x1)
theorem st_one {op} (h : op = BoolOp.And ∨ op = BoolOp.Or) (ha : PT X x (tT X.K Φ a)) : PW X (.BoolOp op [x] pos) (tT X.K Φ (.one a)) := by
  rcases h with rfl | rfl
  · exact pw_imp (pw_and1 ha) fun σ H Q h => h
  · exact pw_imp (pw_or1 ha) fun σ H Q h => h
theorem st_not (ha : PT X x (tT X.K Φ a)) : PT X (.UnaryOp .Not x pos) (tT X.K Φ (.not a)) :=
  pt_imp (pt_not ha) fun σ H Q ⟨M, env, d, sm, rd, q, k⟩ => by
    simp only [ev] at q
    obtain ⟨dx, q1, q2⟩ := Option.bind_eq_some_iff.mp q
    cases dx with
    | bl k1 =>
      cases q2
      exact ⟨M, env, k1, sm, rd, q1, fun M1 H1 x1 => k M1 H1 x1⟩
    | _ => cases q2
theorem s_ite {fr : Bool} (hc : PT X z (tT X.K Φ c)) (ha : PE X x (tE X.K Φ fr a)) (hb : PE X y (tE X.K Φ fr b)) : PE X (.IfExp z x y pos) (tE X.K Φ fr (.ite c a b)) :=
  pe_imp (pe_ifExp hc ha hb) fun σ H Q ⟨M, env, d, il, sm, rd, q, k⟩ => by
    obtain ⟨k1, q1, q2⟩ := bl_ev (f := fun d => match d with | .bl true => ev Φ a env | _ => ev Φ b env) q
    refine ⟨M, env, k1, sm, rd, q1, fun M1 H1 x1 => ?_⟩
    cases k1 with
    | true => exact iteT ⟨M1, env, d, il, x1.s, rd.mono x1.m, q2, fun v M2 H2 x2 r2 => k v M2 H2 (x1.trans x2) (r2.back x1.h)⟩
    | false => exact iteF ⟨M1, env, d, il, x1.s, rd.mono x1.m, q2, fun v M2 H2 x2 r2 => k v M2 H2 (x1.trans x2) (r2.back x1.h)⟩

/-! ### argument lists, displays -/
theorem s_nil : PA X [] (tA X.K Φ .nil) := pa_imp pa_nil fun σ H Q ⟨M, env, ds, sm, rd, q, k⟩ => by
  simp only [ev, Option.some.injEq, D.tup.injEq] at q
  subst q
  exact k [] M H (Xt.refl sm) .nil
theorem ev_cons {env : Env} {ds : List D} (h : ev Φ (.cons a b) env = some (.tup ds)) : ∃ d es, ds = d :: es ∧ ev Φ a env = some d ∧ ev Φ b env = some (.tup es) := by
  simp only [ev] at h
  obtain ⟨d, q1, h⟩ := Option.bind_eq_some_iff.mp h
  obtain ⟨r, q2, h⟩ := Option.bind_eq_some_iff.mp h
  cases r with
  | tup es =>
    cases h
    exact ⟨d, es, rfl, q1, q2⟩
  | _ => cases h
theorem s_cons (ha : PE X x (tE X.K Φ false a)) (hb : PA X xs (tA X.K Φ b)) (hs : starEach (x :: xs) X.env = (false, eval x X.env) :: starEach xs X.env) : PA X (x :: xs) (tA X.K Φ (.cons a b)) :=
  pa_imp (pa_cons ha hb hs) fun σ H Q ⟨M, env, ds, sm, rd, q, k⟩ => by
    obtain ⟨d, es, rfl, q1, q2⟩ := ev_cons q
    refine ⟨M, env, d, (fun z => nomatch z), sm, rd, q1, fun v M1 H1 x1 r1 => ⟨M1, env, es, x1.s, rd.mono x1.m, q2, fun vs M2 H2 x2 r2 => ?_⟩⟩
    exact k _ M2 H2 (x1.trans x2) (.cons (Dat.mono x2.m r1) r2)
/-- what a display of this many items may have -/
def lenA : E → Nat
  | .cons _ b => lenA b + 1
  | _ => 0
theorem ev_len : ∀ {a : E} {env : Env} {ds : List D}, ev Φ a env = some (.tup ds) → (∃ k, lenA a = k ∧ lenA a ≤ ds.length) := fun {a env ds} h => by
  refine ⟨_, rfl, ?_⟩
  induction a generalizing ds with
  | cons a b iha ihb =>
    obtain ⟨d, es, rfl, q1, q2⟩ := ev_cons h
    have := ihb q2
    simp only [lenA, List.length_cons]
    omega
  | _ => exact Nat.zero_le _
/-- the arguments are as many as written -/
def argsLen : E → Option Nat
  | .nil => some 0
  | .cons _ b => (argsLen b).map (· + 1)
  | _ => none
theorem ev_argsLen : ∀ {a : E} {env : Env} {ds : List D} {n : Nat}, ev Φ a env = some (.tup ds) → argsLen a = some n → ds.length = n := fun {a env ds n} h hn => by
  induction a generalizing ds n with
  | nil =>
    simp only [ev, Option.some.injEq, D.tup.injEq] at h
    cases hn
    subst h
    rfl
  | cons a b iha ihb =>
    obtain ⟨d, es, rfl, q1, q2⟩ := ev_cons h
    simp only [argsLen, Option.map_eq_some_iff] at hn
    obtain ⟨m, hm, rfl⟩ := hn
    rw [List.length_cons, ihb q2 hm]
  | _ => cases hn
theorem s_tup {k : Nat} {n : Nat} (hn : argsLen a = some n) (hl : n ≤ LIM) (ha : PA X xs (tA X.K Φ a)) : PE X (.Tuple xs k pos) (tE X.K Φ false (.tup a)) :=
  pe_imp (pe_tup ha) fun σ H Q ⟨M, env, d, il, sm, rd, q, k⟩ => by
    have hq : ∃ ds, d = .tup ds ∧ ev Φ a env = some (.tup ds) := by
      simp only [ev] at q
      cases a with
      | nil =>
        simp only [ev, Option.some.injEq] at q
        exact ⟨[], q.symm, by simp [ev]⟩
      | cons u w =>
        simp only [ev] at q
        obtain ⟨d1, q1, q'⟩ := Option.bind_eq_some_iff.mp q
        obtain ⟨r, q2, q'⟩ := Option.bind_eq_some_iff.mp q'
        cases r with
        | tup es =>
          cases q'
          exact ⟨_, rfl, by simp only [ev, q1, q2]; rfl⟩
        | _ => cases q'
      | _ => cases hn
    obtain ⟨ds, rfl, hq⟩ := hq
    refine ⟨M, env, ds, sm, rd, hq, fun vs M1 H1 x1 r1 => ⟨LIM_le (by rw [r1.length, ev_argsLen hq hn]; exact hl), fun p hp => ?_⟩⟩
    exact Res.newT x1.s hp r1 fun v M2 H2 x2 r2 => k v M2 H2 (x1.trans x2) r2
theorem s_lst {fr : Bool} {n : Nat} (hn : argsLen a = some n) (hl : n ≤ LIM) (ha : PA X xs (tA X.K Φ a)) : PE X (.List xs pos) (tE X.K Φ fr (.lst a)) :=
  pe_imp (pe_lst ha) fun σ H Q ⟨M, env, d, il, sm, rd, q, k⟩ => by
    simp only [ev] at q
    obtain ⟨r, q1, q⟩ := Option.bind_eq_some_iff.mp q
    cases r with
    | tup ds =>
      cases q
      refine ⟨M, env, ds, sm, rd, q1, fun vs M1 H1 x1 r1 => ⟨LIM_le (by rw [r1.length, ev_argsLen q1 hn]; exact hl), fun p hp => ?_⟩⟩
      exact Res.new (fr := fr) x1.s hp r1 fun v M2 H2 x2 r2 => k v M2 H2 (x1.trans x2) (r2.back x1.h)
    | _ => cases q

/-! ### calls -/
theorem ev_callee {env : Env} {f : List D → Option D} {d : D} (q : ((ev Φ a env).bind fun r => match r with | .tup ds => f ds | _ => none) = some d) : ∃ ds, ev Φ a env = some (.tup ds) ∧ f ds = some d := by
  obtain ⟨r, q1, q⟩ := Option.bind_eq_some_iff.mp q
  cases r with
  | tup ds => exact ⟨ds, q1, q⟩
  | _ => cases q
theorem pe_callR {n : Nat} {f : Addr} {sp : Sp} {t : TA} {nm : Str} {p : Pos} (F : FnR X.prog X.w X.K X.mg X.base CX0 n f sp) (hr : Room n X.A) (hg : Gl X nm) (hm : X.mg nm = some (.ref f)) (hk : PySem.W.keepIn X.K (.ref f) = true)
    (ha : PA X (x :: xs) t) (hdb : (nm == ("__debug__" : Str)) = false) (he : starEach (x :: xs) X.env = (false, eval x X.env) :: starEach xs X.env) (hpl : (backTo pos (starEach xs X.env)).any (·.1) = false) :
    PE X (.Call (.Name nm p) (x :: xs) [] pos) (fun σ H Q => t σ H fun vs H1 => sp vs H1 Q E0) := by
  refine ⟨fun pins s σ H Q I h => ?_⟩
  refine wpAny_Call_Name_kw (ld_glob I hg hm ?_ hdb)
  refine PySem.W.callWith_K (h₀ := X.base) I.ok.mod.kin hk (thn (ha.run pos pins s σ H _ I h) fun us s1 ⟨vs, H1, I1, r, q⟩ => ⟨I1.kIn, ?_⟩) he hpl
  exact wpAny_call (run_fnR F hr pass0 I1 r q)
theorem s_call {n : Nat} {f : Nat} {ad : Addr} {ffr fr : Bool} {nm : Str} {p : Pos} (F : FnR X.prog X.w X.K X.mg X.base CX0 n ad (spOf X.K Φ ffr f)) (hff : fr = true → ffr = true) (hr : Room n X.A) (hg : Gl X nm) (hm : X.mg nm = some (.ref ad)) (hk : PySem.W.keepIn X.K (.ref ad) = true)
    (ha : PA X (x :: xs) (tA X.K Φ a)) (hdb : (nm == ("__debug__" : Str)) = false) (he : starEach (x :: xs) X.env = (false, eval x X.env) :: starEach xs X.env) (hpl : (backTo pos (starEach xs X.env)).any (·.1) = false) :
    PE X (.Call (.Name nm p) (x :: xs) [] pos) (tE X.K Φ fr (.call f a)) :=
  pe_imp (pe_callR F hr hg hm hk ha hdb he hpl) fun σ H Q ⟨M, env, d, il, sm, rd, q, k⟩ => by
    obtain ⟨ds, q1, q2⟩ := ev_callee (f := Φ f) q
    refine ⟨M, env, ds, sm, rd, q1, fun vs M1 H1 x1 r1 => ⟨M1, ds, d, x1.s, r1, q2, fun v M2 H2 x2 r2 => ?_⟩⟩
    cases hffr : ffr with
    | false =>
      rw [hffr] at r2
      have : fr = false := by
        cases fr with
        | false => rfl
        | true => rw [hff rfl] at hffr; cases hffr
      subst this
      exact k v M2 H2 (x1.trans x2) r2
    | true =>
      rw [hffr] at r2
      cases fr with
      | true => exact k v M2 H2 (x1.trans x2) (r2.back x1.h)
      | false =>
        obtain ⟨M3, x3, r3⟩ := Res.keep x2 r2
        exact k v M3 H2 (x1.trans x3) r3
end
end PyD

/-! Built-ins, isinstance, subscripts, slices, ranges. -/
namespace PyD
open PySem L2

section
variable {X : Cx} {x y z : Expr} {xs : List Expr} {Φ : Fns} {a b c e : E} {pos : Pos}

theorem s_biW {bi : Bi} {fr : Bool} {r : List V → Hp → VK → Prop} (h : PE X x (tCB r (tA X.K Φ a)))
    (rd : ∀ M H vs ds d (Q : VK), (fr = true → isL d = true) → Same M H → DatL X.K M vs ds → biD bi ds = some d → (∀ z M' H', Xt M M' H H' → Res X.K M' H H' fr z d → Q z H') → r vs H Q) :
    PE X x (tE X.K Φ fr (.bi bi a)) :=
  pe_imp h fun σ H Q ⟨M, env, d, il, sm, rd0, q, k⟩ => by
    obtain ⟨ds, q1, q2⟩ := ev_callee (f := biD bi) q
    refine ⟨M, env, ds, sm, rd0, q1, fun vs M1 H1 x1 r1 => ?_⟩
    exact rd M1 H1 vs ds d Q il x1.s r1 q2 fun z M' H' x3 r3 => k z M' H' (x1.trans x3) (r3.back x1.h)

theorem datL1 {M : Hp} {vs : List V} {d : D} (h : DatL X.K M vs [d]) : ∃ v, vs = [v] ∧ Dat X.K M v d := by
  cases h with
  | cons h r =>
    cases r
    exact ⟨_, rfl, h⟩
theorem datL2 {M : Hp} {vs : List V} {d d' : D} (h : DatL X.K M vs [d, d']) : ∃ v w, vs = [v, w] ∧ Dat X.K M v d ∧ Dat X.K M w d' := by
  cases h with
  | cons h r =>
    obtain ⟨w, rfl, r'⟩ := datL1 r
    exact ⟨_, _, rfl, h, r'⟩

structure BiOk (X : Cx) (bi : Bi) (r : List V → Hp → VK → Prop) : Prop where
  rd : ∀ (fr : Bool) M H vs ds d (Q : VK), (fr = true → isL d = true) → Same M H → DatL X.K M vs ds → biD bi ds = some d → (∀ z M' H', Xt M M' H H' → Res X.K M' H H' fr z d → Q z H') → r vs H Q

/-! what a built-in gives, by its arguments -/
theorem biD1 {bi : Bi} {ds : List D} {d : D} (hb : bi = .len ∨ bi = .abs ∨ bi = .int ∨ bi = .sum ∨ bi = .list ∨ bi = .tuple) (h : biD bi ds = some d) : ∃ d1, ds = [d1] := by
  rcases ds with _ | ⟨d1, _ | ⟨d2, ds⟩⟩
  · rcases hb with rfl | rfl | rfl | rfl | rfl | rfl <;> cases h
  · exact ⟨d1, rfl⟩
  · rcases hb with rfl | rfl | rfl | rfl | rfl | rfl <;> cases d1 <;> cases h
theorem biD2 {bi : Bi} {ds : List D} {d : D} (hb : bi = .min2 ∨ bi = .max2 ∨ bi = .gcd) (h : biD bi ds = some d) : ∃ i j, ds = [.int i, .int j] := by
  rcases ds with _ | ⟨d1, _ | ⟨d2, _ | ⟨d3, ds⟩⟩⟩
  · rcases hb with rfl | rfl | rfl <;> cases h
  · rcases hb with rfl | rfl | rfl <;> cases d1 <;> cases h
  · rcases hb with rfl | rfl | rfl <;> cases d1 <;> cases d2 <;> first | exact ⟨_, _, rfl⟩ | cases h
  · rcases hb with rfl | rfl | rfl <;> cases d1 <;> cases d2 <;> cases h
theorem bi_len : BiOk X .len (fun xs H Q => ∃ p ys, xs = [.ref p] ∧ (SqL X.K H p ys ∨ SqT X.K H p ys) ∧ Q (.int ys.length) H) := by
  refine ⟨fun fr M H vs ds d Q il sm dl q k => ?_⟩
  obtain ⟨d1, rfl⟩ := biD1 (by simp) q
  obtain ⟨v, rfl, h⟩ := datL1 dl
  cases h with
  | lst h r =>
    cases q
    cases nofr il rfl
    exact ⟨_, _, rfl, .inl (SqL.of (sm _ _ h)), by rw [r.length]; exact k _ M H (Xt.refl sm) (.int _)⟩
  | tup h r =>
    cases q
    cases nofr il rfl
    exact ⟨_, _, rfl, .inr (same_t sm h), by rw [r.length]; exact k _ M H (Xt.refl sm) (.int _)⟩
  | _ => cases q
theorem bi_abs : BiOk X .abs (fun xs H Q => ∃ i, xs = [.int i] ∧ Q (.int (if i < 0 then -i else i)) H) := by
  refine ⟨fun fr M H vs ds d Q il sm dl q k => ?_⟩
  obtain ⟨d1, rfl⟩ := biD1 (by simp) q
  obtain ⟨v, rfl, h⟩ := datL1 dl
  cases h with
  | int i =>
    cases q
    cases nofr il rfl
    exact ⟨i, rfl, k _ M H (Xt.refl sm) (.int _)⟩
  | _ => cases q
theorem bi_int : BiOk X .int (fun xs H Q => (∃ i, xs = [.int i] ∧ Q (.int i) H) ∨ ∃ k, xs = [.bl k] ∧ Q (.int (if k then 1 else 0)) H) := by
  refine ⟨fun fr M H vs ds d Q il sm dl q k => ?_⟩
  obtain ⟨d1, rfl⟩ := biD1 (by simp) q
  obtain ⟨v, rfl, h⟩ := datL1 dl
  cases h with
  | int i =>
    cases q
    cases nofr il rfl
    exact .inl ⟨i, rfl, k _ M H (Xt.refl sm) (.int _)⟩
  | bl b =>
    cases q
    cases nofr il rfl
    exact .inr ⟨b, rfl, k _ M H (Xt.refl sm) (.int _)⟩
  | _ => cases q
theorem bi_min : BiOk X .min2 (fun xs H Q => ∃ i j, xs = [.int i, .int j] ∧ Q (.int (if j < i then j else i)) H) := by
  refine ⟨fun fr M H vs ds d Q il sm dl q k => ?_⟩
  obtain ⟨i, j, rfl⟩ := biD2 (by simp) q
  obtain ⟨v, w, rfl, h1, h2⟩ := datL2 dl
  cases h1
  cases h2
  cases q
  cases nofr il rfl
  exact ⟨i, j, rfl, k _ M H (Xt.refl sm) (.int _)⟩
theorem bi_max : BiOk X .max2 (fun xs H Q => ∃ i j, xs = [.int i, .int j] ∧ Q (.int (if j > i then j else i)) H) := by
  refine ⟨fun fr M H vs ds d Q il sm dl q k => ?_⟩
  obtain ⟨i, j, rfl⟩ := biD2 (by simp) q
  obtain ⟨v, w, rfl, h1, h2⟩ := datL2 dl
  cases h1
  cases h2
  cases q
  cases nofr il rfl
  exact ⟨i, j, rfl, k _ M H (Xt.refl sm) (.int _)⟩
theorem bi_gcd : BiOk X .gcd rGcd := by
  refine ⟨fun fr M H vs ds d Q il sm dl q k => ?_⟩
  obtain ⟨i, j, rfl⟩ := biD2 (by simp) q
  obtain ⟨v, w, rfl, h1, h2⟩ := datL2 dl
  cases h1
  cases h2
  cases q
  cases nofr il rfl
  exact ⟨i, j, rfl, k _ M H (Xt.refl sm) (.int _)⟩
theorem bi_sum : BiOk X .sum (rSum X.K) := by
  refine ⟨fun fr M H vs ds d Q il sm dl q k => ?_⟩
  obtain ⟨d1, rfl⟩ := biD1 (by simp) q
  obtain ⟨v, rfl, h⟩ := datL1 dl
  cases h with
  | lst h r =>
    simp only [biD] at q
    obtain ⟨ns, q1, rfl⟩ := Option.map_eq_some_iff.mp q
    cases nofr il rfl
    have e := r.of_ints q1
    subst e
    exact ⟨_, ns, rfl, SqL.of (sm _ _ h), k _ M H (Xt.refl sm) (.int _)⟩
  | _ => cases q
theorem bi_list : BiOk X .list (fun xs H Q => ∃ p ys, xs = [.ref p] ∧ (SqL X.K H p ys ∨ SqT X.K H p ys) ∧ ∀ l, H l = none → Q (.ref l) (upd H l (.lst ys))) := by
  refine ⟨fun fr M H vs ds d Q il sm dl q k => ?_⟩
  obtain ⟨d1, rfl⟩ := biD1 (by simp) q
  obtain ⟨v, rfl, h⟩ := datL1 dl
  cases h with
  | lst h r =>
    cases q
    exact ⟨_, _, rfl, .inl (SqL.of (sm _ _ h)), fun l hl => Res.new (fr := fr) sm hl r k⟩
  | tup h r =>
    cases q
    exact ⟨_, _, rfl, .inr (same_t sm h), fun l hl => Res.new (fr := fr) sm hl r k⟩
  | _ => cases q
theorem bi_tuple : BiOk X .tuple (fun xs H Q => ∃ p ys, xs = [.ref p] ∧ ((SqL X.K H p ys ∧ ∀ l, H l = none → Q (.ref l) (upd H l (.tup ys))) ∨ (SqT X.K H p ys ∧ Q (.ref p) H))) := by
  refine ⟨fun fr M H vs ds d Q il sm dl q k => ?_⟩
  obtain ⟨d1, rfl⟩ := biD1 (by simp) q
  obtain ⟨v, rfl, h⟩ := datL1 dl
  cases h with
  | lst h r =>
    cases q
    cases nofr il rfl
    exact ⟨_, _, rfl, .inl ⟨SqL.of (sm _ _ h), fun l hl => Res.newT sm hl r k⟩⟩
  | tup h r =>
    cases q
    cases nofr il rfl
    exact ⟨_, _, rfl, .inr ⟨same_t sm h, k _ M H (Xt.refl sm) (.tup h r)⟩⟩
  | _ => cases q

def biNm : Bi → Str
  | .len => "len" | .abs => "abs" | .int => "int" | .min2 => "min" | .max2 => "max" | .sum => "sum" | .list => "list" | .tuple => "tuple" | .gcd => "gcd"
theorem boot_abs' : bootBuiltins "abs" = some (.builtin "abs") := by decide +kernel
theorem boot_min' : bootBuiltins "min" = some (.builtin "min") := by decide +kernel
theorem boot_max' : bootBuiltins "max" = some (.builtin "max") := by decide +kernel
theorem boot_sum' : bootBuiltins "sum" = some (.builtin "sum") := by decide +kernel
theorem boot_len' : bootBuiltins "len" = some (.builtin "len") := by decide +kernel
theorem boot_int' : bootBuiltins "int" = some (.type "int") := by decide +kernel
theorem boot_list' : bootBuiltins "list" = some (.type "list") := by decide +kernel
theorem boot_tuple' : bootBuiltins "tuple" = some (.type "tuple") := by decide +kernel
theorem boot_isinstance' : bootBuiltins "isinstance" = some (.builtin "isinstance") := by decide +kernel
/-- a built-in by its name -/
theorem s_bi {bi : Bi} {fr : Bool} {p : Pos} (hc : X.calm = true) (hg : Gl X (biNm bi)) (hm : bi ≠ .gcd → X.mg (biNm bi) = none) (hgcd : bi = .gcd → X.mg "gcd" = some (.builtin "math.gcd"))
    (ha : PA X (x :: xs) (tA X.K Φ a)) (he : starEach (x :: xs) X.env = (false, eval x X.env) :: starEach xs X.env) (hpl : (backTo pos (starEach xs X.env)).any (·.1) = false) :
    PE X (.Call (.Name (biNm bi) p) (x :: xs) [] pos) (tE X.K Φ fr (.bi bi a)) := by
  cases bi with
  | len => exact s_biW (pe_callB call_len_seq hg (hm (by decide)) boot_len' ha (by decide) (by decide) he hpl) (bi_len.rd fr)
  | abs => exact s_biW (pe_callB call_abs hg (hm (by decide)) boot_abs' ha (by decide) (by decide) he hpl) (bi_abs.rd fr)
  | int => exact s_biW (pe_callTy call_int1 hg (hm (by decide)) boot_int' ha (by decide) (by decide) he hpl) (bi_int.rd fr)
  | min2 => exact s_biW (pe_callB (call_min2 hc) hg (hm (by decide)) boot_min' ha (by decide) (by decide) he hpl) (bi_min.rd fr)
  | max2 => exact s_biW (pe_callB (call_max2 hc) hg (hm (by decide)) boot_max' ha (by decide) (by decide) he hpl) (bi_max.rd fr)
  | sum => exact s_biW (pe_callB (cr_sum hc) hg (hm (by decide)) boot_sum' ha (by decide) (by decide) he hpl) (bi_sum.rd fr)
  | list => exact s_biW (pe_callTy call_list_of hg (hm (by decide)) boot_list' ha (by decide) (by decide) he hpl) (bi_list.rd fr)
  | tuple => exact s_biW (pe_callTy call_tuple_of hg (hm (by decide)) boot_tuple' ha (by decide) (by decide) he hpl) (bi_tuple.rd fr)
  | gcd => exact s_biW (pe_callBfun cr_gcd hg (hgcd rfl) ha (by decide) he hpl) (bi_gcd.rd fr)

/-! ### isinstance -/
def tyStr : Ty → String
  | .int => "int" | .bool => "bool" | .str => "str" | .tuple => "tuple" | .list => "list" | .dict => "dict"
def tyNm : Ty → Str
  | .int => "int" | .bool => "bool" | .str => "str" | .tuple => "tuple" | .list => "list" | .dict => "dict"
theorem boot_ty (t : Ty) : bootBuiltins (tyNm t) = some (.type (tyStr t)) := by cases t <;> decide +kernel
theorem kit_all (u t : Ty) : kitB (tyStr u) (tyStr t) = some (decide (u = t) || (decide (u = .bool) && decide (t = .int))) := by cases u <;> cases t <;> decide +kernel
theorem kit_non (t : Ty) : kitB "NoneType" (tyStr t) = some false := by cases t <;> decide +kernel
theorem tyx_t {K : PySem.W.Frag} {H : Hp} {a : Addr} {vs : List V} (h : SqT K H a vs) : TyX K H (.ref a) (.type "tuple") := by
  rcases h with (h | ⟨o, h⟩) | ⟨o, its, n, h, hc, _⟩
  · exact .base (.tup h)
  · exact .fTuple h
  · exact .kTuple h hc
theorem tyx_of {M H : Hp} {v : V} {d : D} {t : Ty} {k : Bool} (sm : Same M H) (h : Dat X.K M v d) (q : isiD d t = some k) : ∃ s, TyX X.K H v (.type s) ∧ kitB s (tyStr t) = some k := by
  cases h with
  | non =>
    cases q
    exact ⟨_, .base .non, kit_non t⟩
  | bl b =>
    cases q
    exact ⟨_, .base (.bl b), kit_all .bool t⟩
  | int b =>
    cases q
    exact ⟨_, .base (.int b), kit_all .int t⟩
  | str b =>
    cases q
    exact ⟨_, .base (.str b), kit_all .str t⟩
  | tup h r =>
    cases q
    exact ⟨_, tyx_t (same_t sm h), kit_all .tuple t⟩
  | lst h r =>
    cases q
    exact ⟨_, .base (.lst (sm _ _ h)), kit_all .list t⟩
  | ro h r => cases q
theorem s_isi {t : Ty} {p p2 : Pos} (hg : Gl X "isinstance") (hm : X.mg "isinstance" = none) (hg2 : Gl X (tyNm t)) (hm2 : X.mg (tyNm t) = none) (ha : PE X x (tE X.K Φ false a)) (hs : starEach [x, .Name (tyNm t) p2] X.env = (false, eval x X.env) :: starEach [.Name (tyNm t) p2] X.env) :
    PE X (.Call (.Name "isinstance" p) [x, .Name (tyNm t) p2] [] pos) (tE X.K Φ false (.isi a t)) := by
  have hn : tyNm t ≠ "__name__" := by cases t <;> decide
  have hd : (tyNm t == ("__debug__" : Str)) = false := by cases t <;> decide
  have h2 : PE X (.Name (tyNm t) p2) (tC (.ty (tyStr t))) := pe_bltn hg2 hm2 (boot_ty t) rfl hn hd
  refine pe_imp (pe_callB call_isi hg hm boot_isinstance' (pa_cons ha (pa_cons h2 pa_nil rfl) hs) (by decide) (by decide) hs rfl) fun σ H Q ⟨M, env, d, il, sm, rd0, q, k⟩ => ?_
  simp only [ev] at q
  obtain ⟨dx, q1, q⟩ := Option.bind_eq_some_iff.mp q
  obtain ⟨b, q2, rfl⟩ := Option.map_eq_some_iff.mp q
  refine ⟨M, env, dx, (fun z => nomatch z), sm, rd0, q1, fun v M1 H1 x1 r1 => ?_⟩
  obtain ⟨s, ty, kt⟩ := tyx_of (X := X) x1.s r1 q2
  exact ⟨v, .ty (tyStr t), .type s, .type (tyStr t), b, rfl, .ty _, ty, kit_ty kt, k _ M1 H1 x1 (.bl _)⟩

/-! ### subscripts, slices -/
theorem plainIx {y : Expr} (h : (match y with | .Slice _ _ _ _ => false | _ => true) = true) : PlainIx y := by
  intro o i
  cases y <;> first | rfl | cases h
theorem dat_at {M : Hp} {vs : List V} {ds : List D} {i : Int} {d : D} (r : DatL X.K M vs ds) (h : idxL ds i = some d) : ∃ v, atI vs i = some v ∧ Dat X.K M v d := by
  unfold idxL at h
  obtain ⟨j, h1, h2⟩ := Option.bind_eq_some_iff.mp h
  obtain ⟨v, h3, h4⟩ := r.get h2
  refine ⟨v, ?_, h4⟩
  unfold atI
  rw [r.length, show L2.ixN ds.length i = some j from h1]
  exact h3
theorem s_idx (ha : PE X x (tE X.K Φ false a)) (hb : PE X y (tE X.K Φ false b)) (hs : PlainIx y) : PE X (.Subscript x y pos) (tE X.K Φ false (.idx a b)) := by
  refine pe_imp (pe_ix (ix_list.or ix_tup) ha hb hs) fun σ H Q h => two (fun _ => rfl) (fun M H v w dx dy d Q il sm hx hy q k => ?_) h
  cases hx with
  | lst h1 r1 =>
    cases hy with
    | int i =>
      obtain ⟨u, h2, h3⟩ := dat_at r1 q
      exact .inl ⟨_, _, i, u, rfl, rfl, SqL.of (sm _ _ h1), h2, k u M H (Xt.refl sm) h3⟩
    | _ => cases q
  | tup h1 r1 =>
    cases hy with
    | int i =>
      obtain ⟨u, h2, h3⟩ := dat_at r1 q
      exact .inr ⟨_, _, i, u, rfl, rfl, same_t sm h1, h2, k u M H (Xt.refl sm) h3⟩
    | _ => cases q
  | _ => cases hy <;> cases q
theorem s_part (hn : a.isNil = false) (ha : PE X x (tE X.K Φ false a)) : PO X (some x) (tP X.K Φ a) :=
  po_imp (po_some ha) fun σ H Q ⟨M, env, o, sm, rd, q, k⟩ => by
    unfold evP at q
    rw [hn, if_neg (by decide)] at q
    obtain ⟨d, q1, q2⟩ := Option.bind_eq_some_iff.mp q
    refine ⟨M, env, d, (fun z => nomatch z), sm, rd, q1, fun v M1 H1 x1 r1 => ?_⟩
    cases r1 with
    | int i =>
      cases q2
      exact ⟨i, rfl, k M1 H1 x1⟩
    | _ => cases q2
theorem s_part0 : PO X none (tP X.K Φ .nil) := po_imp po_none fun σ H Q ⟨M, env, o, sm, rd, q, k⟩ => by
  cases q
  exact k M H (Xt.refl sm)
theorem cutL_eq {α : Type} (xs : List α) (lo hi : Option Int) : cutL xs lo hi = (xs.drop (HT.sIx xs.length 0 lo)).take (HT.sIx xs.length xs.length hi - HT.sIx xs.length 0 lo) := rfl
theorem dat_cut {M : Hp} {vs : List V} {ds : List D} {lo hi : Option Int} (r : DatL X.K M vs ds) : DatL X.K M (cutV vs lo hi) (cutL ds lo hi) := by
  rw [cutL_eq]
  unfold cutV
  rw [r.length]
  exact (r.drop _).take _
theorem s_sl {fr : Bool} {lo hi : Option Expr} {p2 : Pos} (ha : PE X x (tE X.K Φ false a)) (hb : PO X lo (tP X.K Φ b)) (hc : PO X hi (tP X.K Φ c)) : PE X (.Subscript x (.Slice lo hi none p2) pos) (tE X.K Φ fr (.sl a b c)) := by
  refine pe_imp (pe_slice (sl_list.or sl_tupA) ha hb hc) fun σ H Q ⟨M, env, d, il, sm, rd, q, k⟩ => ?_
  simp only [ev] at q
  obtain ⟨dx, q1, q⟩ := Option.bind_eq_some_iff.mp q
  obtain ⟨l, q2, q⟩ := Option.bind_eq_some_iff.mp q
  obtain ⟨h, q3, q4⟩ := Option.bind_eq_some_iff.mp q
  refine ⟨M, env, dx, (fun z => nomatch z), sm, rd, q1, fun v M1 H1 x1 r1 => ⟨M1, env, l, x1.s, rd.mono x1.m, q2, fun M2 H2 x2 => ⟨M2, env, h, x2.s, rd.mono (x1.m.trans x2.m), q3, fun M3 H3 x3 => ?_⟩⟩⟩
  have x13 := (x1.trans x2).trans x3
  have r3 := Dat.mono (x2.m.trans x3.m) r1
  cases r3 with
  | lst h1 r =>
    cases q4
    exact .inl ⟨_, _, rfl, SqL.of (x3.s _ _ h1), fun p hp => Res.new (fr := fr) x3.s hp (dat_cut r) fun v M' H' x4 r4 => k v M' H' (x13.trans x4) (r4.back x13.h)⟩
  | tup h1 r =>
    cases q4
    cases nofr il rfl
    refine .inr ⟨_, _, rfl, same_t x3.s h1, fun e => ?_, fun _ p hp => Res.newT x3.s hp (dat_cut r) fun v M' H' x4 r4 => k v M' H' (x13.trans x4) r4⟩
    refine k _ M3 H3 x13 (.tup h1 ?_)
    have z := dat_cut (lo := l) (hi := h) r
    have e2 : ∀ {α : Type} (xs : List α), HT.sIx xs.length 0 l = 0 → HT.sIx xs.length xs.length h = xs.length → cutL xs l h = xs := fun xs h1 h2 => by
      rw [cutL_eq, h1, h2]
      simp
    have e3 : cutV _ l h = _ := e2 _ e.1 e.2
    rw [e3] at z
    exact z
  | _ => cases q4

/-! ### ranges -/
theorem datL_range {M : Hp} (a : Int) : ∀ l : List Nat, DatL X.K M (l.map fun i => V.int (a + (i : Nat))) (l.map fun i => D.int (a + (i : Nat)))
  | [] => .nil
  | _ :: l => .cons (.int _) (datL_range a l)
theorem datL_rg {M : Hp} (a b : Int) : DatL X.K M (rgV a b) (rangeD a b) := datL_range a _
theorem rangeD_length (a b : Int) : (rangeD a b).length = (b - a).toNat := by simp [rangeD]
theorem rgOk_of {a : Int} (h : rgOk a = true) : -1000000000 ≤ a ∧ a ≤ 1000000000 := by
  unfold rgOk at h
  simpa using h
theorem prg_imp {t t' : L2.St → Hp → (Int → Int → Hp → Prop) → Prop} (h : PRg X x t) (i : ∀ σ H Q, t' σ H Q → t σ H Q) : PRg X x t' := fun pins s σ H Q I q => h pins s σ H Q I (i σ H Q q)
/-- a range's reading -/
def tRg (K : PySem.W.Frag) (Φ : Fns) (r : E) : L2.St → Hp → (Int → Int → Hp → Prop) → Prop := fun σ H Q => ∃ M env d, Same M H ∧ Rd0 K M σ env ∧ ev Φ r env = some d ∧ ∀ a b M' H', Xt M M' H H' → d = .lst (rangeD a b) → rgOk a = true → rgOk b = true → Q a b H'
theorem s_prg1 {p : Pos} (hg : Gl X "range") (hm : X.mg "range" = none) (ha : PE X x (tE X.K Φ false a)) (hs : starEach [x] X.env = (false, eval x X.env) :: starEach [] X.env) : PRg X (.Call (.Name "range" p) [x] [] pos) (tRg X.K Φ (.rng1 a)) :=
  prg_imp (prg_1 hg hm ha hs) fun σ H Q ⟨M, env, d, sm, rd, q, k⟩ => by
    simp only [ev] at q
    obtain ⟨dx, q1, q⟩ := Option.bind_eq_some_iff.mp q
    refine ⟨M, env, dx, (fun z => nomatch z), sm, rd, q1, fun v M1 H1 x1 r1 => ?_⟩
    cases r1 with
    | int i =>
      simp only [] at q
      split at q
      · rename_i h
        cases q
        exact ⟨i, rfl, k 0 i M1 H1 x1 rfl (by decide) h⟩
      · cases q
    | _ => cases q
theorem s_prg2 {p : Pos} (hg : Gl X "range") (hm : X.mg "range" = none) (ha : PE X x (tE X.K Φ false a)) (hb : PE X y (tE X.K Φ false b)) (hs : starEach [x, y] X.env = (false, eval x X.env) :: starEach [y] X.env)
    (hs2 : starEach [y] X.env = (false, eval y X.env) :: starEach [] X.env) (hpl : (backTo pos (starEach [y] X.env)).any (·.1) = false) : PRg X (.Call (.Name "range" p) [x, y] [] pos) (tRg X.K Φ (.rng2 a b)) :=
  prg_imp (prg_2 hg hm ha hb hs hs2 hpl) fun σ H Q ⟨M, env, d, sm, rd, q, k⟩ => by
    simp only [ev] at q
    obtain ⟨dx, q1, q⟩ := Option.bind_eq_some_iff.mp q
    obtain ⟨dy, q2, q⟩ := Option.bind_eq_some_iff.mp q
    refine ⟨M, env, dx, (fun z => nomatch z), sm, rd, q1, fun v M1 H1 x1 r1 => ⟨M1, env, dy, (fun z => nomatch z), x1.s, rd.mono x1.m, q2, fun w M2 H2 x2 r2 => ?_⟩⟩
    cases r1 with
    | int i =>
      cases r2 with
      | int j =>
        simp only [] at q
        split at q
        · rename_i h
          cases q
          have h' := Bool.and_eq_true_iff.mp h
          exact ⟨i, j, rfl, rfl, k i j M2 H2 (x1.trans x2) rfl h'.1 h'.2⟩
        · cases q
      | _ => cases q
    | _ => cases q
theorem rgOk_all {a b : Int} (h1 : rgOk a = true) (h2 : rgOk b = true) (hl : (rangeD a b).length ≤ LIM) : RgOk a b := by
  have h1 := rgOk_of h1
  have h2 := rgOk_of h2
  rw [rangeD_length] at hl
  have e : LIM = 1000000 := rfl
  refine ⟨by omega, by omega, by omega, by omega, by omega⟩
theorem s_lrng {fr : Bool} {p : Pos} (hc : X.calm = true) (hg : Gl X "list") (hm : X.mg "list" = none) (he : PRg X x (tRg X.K Φ a)) (hs : starEach [x] X.env = (false, eval x X.env) :: starEach [] X.env) : PE X (.Call (.Name "list" p) [x] [] pos) (tE X.K Φ fr (.lrng a)) :=
  pe_imp (pe_listRg hc hg hm he hs) fun σ H Q ⟨M, env, d, il, sm, rd, q, k⟩ => by
    simp only [ev] at q
    obtain ⟨dx, q1, q⟩ := Option.bind_eq_some_iff.mp q
    refine ⟨M, env, dx, sm, rd, q1, fun a b M1 H1 x1 e h1 h2 => ?_⟩
    subst e
    simp only [limL] at q
    split at q
    · rename_i hl
      cases q
      exact ⟨rgOk_all h1 h2 hl, fun p hp => Res.new (fr := fr) x1.s hp (datL_rg a b) fun v M' H' x4 r4 => k v M' H' (x1.trans x4) (r4.back x1.h)⟩
    · cases q
theorem s_trng {p : Pos} (hc : X.calm = true) (hg : Gl X "tuple") (hm : X.mg "tuple" = none) (he : PRg X x (tRg X.K Φ a)) (hs : starEach [x] X.env = (false, eval x X.env) :: starEach [] X.env) : PE X (.Call (.Name "tuple" p) [x] [] pos) (tE X.K Φ false (.trng a)) :=
  pe_imp (pe_tupRg hc hg hm he hs) fun σ H Q ⟨M, env, d, il, sm, rd, q, k⟩ => by
    simp only [ev] at q
    obtain ⟨dx, q1, q⟩ := Option.bind_eq_some_iff.mp q
    refine ⟨M, env, dx, sm, rd, q1, fun a b M1 H1 x1 e h1 h2 => ?_⟩
    subst e
    simp only [] at q
    split at q
    · rename_i hl
      cases q
      exact ⟨rgOk_all h1 h2 hl, fun p hp => Res.newT x1.s hp (datL_rg a b) fun v M' H' x4 r4 => k v M' H' (x1.trans x4) r4⟩
    · cases q
end
end PyD

/-! What is walked; targets; comprehensions. -/
namespace PyD
open PySem L2 RZ

/-- J walks over the items xs, which stand in M' -/
def ItOk (K : PySem.W.Frag) (M' : Hp) (J : It) (xs : List D) : Prop :=
  Walk J xs.length (fun H => ∃ Mc, Same M' Mc ∧ Same Mc H) (fun i H x H' => ∀ Mc, Same M' Mc → Same Mc H → ∃ d M2, xs[i]? = some d ∧ Xt Mc M2 H H' ∧ Dat K M2 x d)
def tI (K : PySem.W.Frag) (Φ : Fns) (e : E) : TI := fun σ H R => ∃ M env xs, Same M H ∧ Rd0 K M σ env ∧ (ev Φ e env).bind asSeq = some xs ∧ ∀ J M' H', Xt M M' H H' → ItOk K M' J xs → R J H'

section
variable {X : Cx} {x y z tg : Expr} {xs : List Expr} {Φ : Fns} {a b c e : E} {pos : Pos}
theorem PI_imp {t t' : TI} (h : PI X tg x t) (i : ∀ σ H R, t' σ H R → t σ H R) : PI X tg x t' := ⟨fun pins s σ H R I q => h.run pins s σ H R I (i σ H R q)⟩

theorem it_list {M : Hp} {p : Addr} {vs : List V} {ds : List D} (h : SqL X.K M p vs) (r : DatL X.K M vs ds) : ItOk X.K M (Itl X.K p) ds := by
  have w := walk_list (K := X.K) (a := p) (xs := vs)
  rw [r.length] at w
  refine w.mono (fun H ⟨Mc, h1, h2⟩ => Same.seq (h1.trans h2) h) fun i H v H' hi _ y Mc h1 h2 => ?_
  obtain ⟨e, y⟩ := y
  subst e
  obtain ⟨d, q1, q2⟩ := r.get' y
  exact ⟨d, Mc, q1, Xt.refl h2, q2.mono h1⟩
theorem it_tup {M : Hp} {p : Addr} {vs : List V} {ds : List D} (h : SqT X.K M p vs) (r : DatL X.K M vs ds) : ItOk X.K M (Itt X.K p) ds := by
  have w := walk_tup (K := X.K) (a := p) (xs := vs)
  rw [r.length] at w
  refine w.mono (fun H ⟨Mc, h1, h2⟩ => same_t (h1.trans h2) h) fun i H v H' hi _ y Mc h1 h2 => ?_
  obtain ⟨e, y⟩ := y
  subst e
  obtain ⟨d, q1, q2⟩ := r.get' y
  exact ⟨d, Mc, q1, Xt.refl h2, q2.mono h1⟩
theorem rangeD_get {a b : Int} {i : Nat} (h : i < (b - a).toNat) : (rangeD a b)[i]? = some (.int (a + (i : Nat))) := by
  unfold rangeD
  rw [List.getElem?_map, List.getElem?_range h]
  rfl
theorem it_range {M : Hp} {a b : Int} : ItOk X.K M (Itr a (b - a).toNat) (rangeD a b) := by
  have w := walk_range (lo := a) (n := (b - a).toNat)
  have e := rangeD_length a b
  unfold ItOk
  rw [e]
  refine w.mono (fun _ _ => trivial) fun i H v H' hi _ y Mc h1 h2 => ?_
  obtain ⟨e, y⟩ := y
  subst e y
  exact ⟨_, Mc, rangeD_get hi, Xt.refl h2, .int _⟩
theorem enumD_length : ∀ (n : Nat) (xs : List D), (enumD n xs).length = xs.length
  | _, [] => rfl
  | n, x :: xs => by simp [enumD, enumD_length (n + 1) xs]
theorem enumD_get : ∀ {n i : Nat} {xs : List D} {d : D}, xs[i]? = some d → (enumD n xs)[i]? = some (.tup [.int ((n + i : Nat) : Int), d])
  | n, 0, x :: xs, d, h => by
    cases h
    rfl
  | n, i + 1, x :: xs, d, h => by
    have h2 := enumD_get (n := n + 1) (i := i) (xs := xs) (d := d) (by simpa using h)
    show (enumD (n + 1) xs)[i]? = _
    rw [h2]
    have e : n + 1 + i = n + (i + 1) := by omega
    rw [e]
  | _, _, [], _, h => by simp at h
/-- a new pair -/
theorem pair_new {M H : Hp} {v w : V} {d d' : D} {p : Addr} (sm : Same M H) (hp : H p = none) (h1 : Dat X.K M v d) (h2 : Dat X.K M w d') : Xt M (upd M p (.tup [v, w])) H (upd H p (.tup [v, w])) ∧ Dat X.K (upd M p (.tup [v, w])) (.ref p) (.tup [d, d']) :=
  ⟨Xt.new sm hp, .tup (SqT.of upd_same) ((DatL.cons h1 (.cons h2 .nil)).mono (same_new (sm.free hp)))⟩
theorem it_enum {M : Hp} {p : Addr} {vs : List V} {ds : List D} (h : SqL X.K M p vs) (r : DatL X.K M vs ds) : ItOk X.K M (Ite X.K p) (enumD 0 ds) := by
  have w := walk_enum (K := X.K) (a := p) (xs := vs)
  rw [r.length] at w
  unfold ItOk
  rw [enumD_length]
  refine w.mono (fun H ⟨Mc, h1, h2⟩ => Same.seq (h1.trans h2) h) fun i H v H' hi _ y Mc h1 h2 => ?_
  obtain ⟨T, u, w, rfl, hT, rfl, q1, q2⟩ := y
  cases q1
  obtain ⟨d, q3, q4⟩ := r.get' q2
  obtain ⟨x1, r1⟩ := pair_new (X := X) h2 hT (.int (i : Nat)) (q4.mono h1)
  refine ⟨_, _, ?_, x1, r1⟩
  rw [enumD_get q3, Nat.zero_add]
theorem zipD_length : ∀ (xs ys : List D), (zipD xs ys).length = min xs.length ys.length
  | [], _ => by simp [zipD]
  | _ :: _, [] => by simp [zipD]
  | x :: xs, y :: ys => by simp only [zipD, List.length_cons, zipD_length xs ys]; omega
theorem zipD_get : ∀ {i : Nat} {xs ys : List D} {d d' : D}, xs[i]? = some d → ys[i]? = some d' → (zipD xs ys)[i]? = some (.tup [d, d'])
  | 0, x :: xs, y :: ys, d, d', h, h' => by
    cases h
    cases h'
    rfl
  | i + 1, x :: xs, y :: ys, d, d', h, h' => zipD_get (i := i) (xs := xs) (ys := ys) (by simpa using h) (by simpa using h')
  | _, [], _, _, _, h, _ => by simp at h
  | _, _ :: _, [], _, _, _, h => by simp at h
theorem zip_yld {M Mc H H' : Hp} {i : Nat} {v : V} {vs ws : List V} {ds es : List D} (r : DatL X.K M vs ds) (r' : DatL X.K M ws es) (h1 : Same M Mc) (h2 : Same Mc H) (y : YPair (fun i => vs[i]?) (fun i => ws[i]?) i H v H') :
    ∃ d M2, (zipD ds es)[i]? = some d ∧ Xt Mc M2 H H' ∧ Dat X.K M2 v d := by
  obtain ⟨T, u, w, rfl, hT, rfl, q1, q2⟩ := y
  obtain ⟨d, q3, q4⟩ := r.get' q1
  obtain ⟨d', q5, q6⟩ := r'.get' q2
  obtain ⟨x1, r1⟩ := pair_new (X := X) h2 hT (q4.mono h1) (q6.mono h1)
  exact ⟨_, _, zipD_get q3 q5, x1, r1⟩
theorem it_zipL {M : Hp} {p q : Addr} {vs ws : List V} {ds es : List D} (h : SqL X.K M p vs) (h' : SqL X.K M q ws) (r : DatL X.K M vs ds) (r' : DatL X.K M ws es) : ItOk X.K M (Itz X.K p q) (zipD ds es) := by
  have w := walk_zip (K := X.K) (a := p) (b := q) (xs := vs) (ys := ws) (n := (zipD ds es).length) (by rw [zipD_length, r.length, r'.length])
  exact w.mono (fun H ⟨Mc, h1, h2⟩ => ⟨Same.seq (h1.trans h2) h, Same.seq (h1.trans h2) h'⟩) fun i H v H' hi _ y Mc h1 h2 => zip_yld r r' h1 h2 y
theorem walk_zipT {K : PySem.W.Frag} {a b : Addr} {xs ys : List V} {n : Nat} (hn : n = min xs.length ys.length) : Walk (ItzT K a b) n (fun H => SqT K H a xs ∧ SqT K H b ys) (YPair (fun i => xs[i]?) (fun i => ys[i]?)) := by
  constructor
  · intro i H hi q
    obtain ⟨u, hu⟩ : ∃ u, xs[i]? = some u := ⟨xs[i]'(by omega), List.getElem?_eq_getElem (by omega)⟩
    obtain ⟨w, hw⟩ : ∃ w, ys[i]? = some w := ⟨ys[i]'(by omega), List.getElem?_eq_getElem (by omega)⟩
    exact ⟨xs, ys, u, w, q.1, q.2, hu, hw⟩
  · intro H q
    exact ⟨xs, ys, q.1, q.2, by omega⟩
  · rintro i H v H' _ q ⟨T, u, w, e1, e2, e3, e4, e5⟩
    exact ⟨T, u, w, e1, e2, e3, e4 xs q.1, e5 ys q.2⟩
theorem it_zipT {M : Hp} {p q : Addr} {vs ws : List V} {ds es : List D} (h : SqT X.K M p vs) (h' : SqT X.K M q ws) (r : DatL X.K M vs ds) (r' : DatL X.K M ws es) : ItOk X.K M (ItzT X.K p q) (zipD ds es) := by
  have w := walk_zipT (K := X.K) (a := p) (b := q) (xs := vs) (ys := ws) (n := (zipD ds es).length) (by rw [zipD_length, r.length, r'.length])
  exact w.mono (fun H ⟨Mc, h1, h2⟩ => ⟨same_t (h1.trans h2) h, same_t (h1.trans h2) h'⟩) fun i H v H' hi _ y Mc h1 h2 => zip_yld r r' h1 h2 y

/-- a list, a tuple that is walked -/
theorem i_seq (ha : PE X x (tE X.K Φ false a)) : PI X tg x (tI X.K Φ a) := by
  refine ⟨fun pins s σ H R I ⟨M, env, xs, sm, rd, q, k⟩ => ?_⟩
  obtain ⟨d, q1, q2⟩ := Option.bind_eq_some_iff.mp q
  cases d with
  | tup ds =>
    cases q2
    refine (pi_tup ha).run pins s σ H R I ⟨M, env, _, (fun z => nomatch z), sm, rd, q1, fun v M1 H1 x1 r1 => ?_⟩
    cases r1 with
    | tup h r => exact ⟨_, rfl, ⟨_, same_t x1.s h⟩, k _ M1 H1 x1 (it_tup h r)⟩
  | lst ds =>
    cases q2
    refine (pi_list ha).run pins s σ H R I ⟨M, env, _, (fun z => nomatch z), sm, rd, q1, fun v M1 H1 x1 r1 => ?_⟩
    cases r1 with
    | lst h r => exact ⟨_, rfl, ⟨_, SqL.of (x1.s _ _ h)⟩, k _ M1 H1 x1 (it_list (SqL.of h) r)⟩
  | ro ds =>
    cases q2
    refine (pi_list ha).run pins s σ H R I ⟨M, env, _, (fun z => nomatch z), sm, rd, q1, fun v M1 H1 x1 r1 => ?_⟩
    cases r1 with
    | ro h r => exact ⟨_, rfl, ⟨_, Same.seq x1.s h⟩, k _ M1 H1 x1 (it_list h r)⟩
  | _ => cases q2
/-- a range that is walked -/
def tIR (K : PySem.W.Frag) (Φ : Fns) (e : E) : TI := fun σ H R => ∃ M env xs, Same M H ∧ Rd0 K M σ env ∧ (ev Φ e env).bind asSeq = some xs ∧ ∀ a b M' H', Xt M M' H H' → xs = rangeD a b → R (Itr a (b - a).toNat) H'
theorem i_ofR (h : PI X tg x (tIR X.K Φ e)) : PI X tg x (tI X.K Φ e) := PI_imp h fun σ H R ⟨M, env, xs, sm, rd, q, k⟩ => ⟨M, env, xs, sm, rd, q, fun a b M' H' xt e => k _ M' H' xt (by rw [e]; exact it_range)⟩
theorem i_rng1 {p : Pos} (hg : Gl X "range") (hm : X.mg "range" = none) (ha : PA X [x] (tA X.K Φ (.cons a .nil))) (hs : starEach [x] X.env = [(false, eval x X.env)]) : PI X tg (.Call (.Name "range" p) [x] [] pos) (tIR X.K Φ (.rng1 a)) := by
  refine PI_imp (pi_range1 hg hm ha hs) fun σ H R ⟨M, env, xs, sm, rd, q, k⟩ => ?_
  obtain ⟨d, q1, q2⟩ := Option.bind_eq_some_iff.mp q
  simp only [ev] at q1
  obtain ⟨dx, q3, q1⟩ := Option.bind_eq_some_iff.mp q1
  refine ⟨M, env, [dx], sm, rd, by simp only [ev, q3]; rfl, fun vs M1 H1 x1 r1 => ?_⟩
  obtain ⟨v, rfl, r⟩ := datL1 (X := X) r1
  cases r with
  | int i =>
    simp only [] at q1
    split at q1
    · rename_i h
      cases q1
      cases q2
      have h' := rgOk_of h
      refine ⟨i, rfl, by omega, by omega, ?_⟩
      have w := k 0 i M1 H1 x1 rfl
      rw [Int.sub_zero] at w
      exact w
    · cases q1
  | _ => cases q1
theorem i_rng2 {p : Pos} (hg : Gl X "range") (hm : X.mg "range" = none) (ha : PA X [x, y] (tA X.K Φ (.cons a (.cons b .nil)))) (hs : starEach [x, y] X.env = [(false, eval x X.env), (false, eval y X.env)]) (hs2 : starEach [y] X.env = [(false, eval y X.env)]) :
    PI X tg (.Call (.Name "range" p) [x, y] [] pos) (tIR X.K Φ (.rng2 a b)) := by
  refine PI_imp (pi_range2 hg hm ha hs hs2) fun σ H R ⟨M, env, xs, sm, rd, q, k⟩ => ?_
  obtain ⟨d, q1, q2⟩ := Option.bind_eq_some_iff.mp q
  simp only [ev] at q1
  obtain ⟨dx, q3, q1⟩ := Option.bind_eq_some_iff.mp q1
  obtain ⟨dy, q4, q1⟩ := Option.bind_eq_some_iff.mp q1
  refine ⟨M, env, [dx, dy], sm, rd, by simp only [ev, q3, q4]; rfl, fun vs M1 H1 x1 r1 => ?_⟩
  obtain ⟨v, w, rfl, r, r'⟩ := datL2 (X := X) r1
  cases r with
  | int i =>
    cases r' with
    | int j =>
      simp only [] at q1
      split at q1
      · rename_i h
        cases q1
        cases q2
        have h' := Bool.and_eq_true_iff.mp h
        have h1 := rgOk_of h'.1
        have h2 := rgOk_of h'.2
        exact ⟨i, j, rfl, ⟨by omega, by omega, by omega, by omega⟩, k i j M1 H1 x1 rfl⟩
      · cases q1
    | _ => cases q1
  | _ => cases q1
theorem i_enum {p tpos : Pos} {elts : List Expr} {kk : Nat} (hg : Gl X "enumerate") (hm : X.mg "enumerate" = none) (ha : PA X [x] (tA X.K Φ (.cons a .nil))) (hs : starEach [x] X.env = [(false, eval x X.env)]) : PI X (.Tuple elts kk tpos) (.Call (.Name "enumerate" p) [x] [] pos) (tI X.K Φ (.enu a)) := by
  refine PI_imp (pi_enum hg hm ha hs) fun σ H R ⟨M, env, xs, sm, rd, q, k⟩ => ?_
  obtain ⟨d, q1, q2⟩ := Option.bind_eq_some_iff.mp q
  simp only [ev] at q1
  obtain ⟨dx, q3, q1⟩ := Option.bind_eq_some_iff.mp q1
  refine ⟨M, env, [dx], sm, rd, by simp only [ev, q3]; rfl, fun vs M1 H1 x1 r1 => ?_⟩
  obtain ⟨v, rfl, r⟩ := datL1 (X := X) r1
  cases r with
  | lst h r =>
    cases q1
    cases q2
    exact ⟨_, _, rfl, SqL.of (x1.s _ _ h), k _ M1 H1 x1 (it_enum (SqL.of h) r)⟩
  | _ => cases q1
theorem i_zip {p tpos : Pos} {elts : List Expr} {kk : Nat} (hg : Gl X "zip") (hm : X.mg "zip" = none) (ha : PA X [x, y] (tA X.K Φ (.cons a (.cons b .nil)))) (hs : starEach [x, y] X.env = (false, eval x X.env) :: starEach [y] X.env) (hpl : (backTo pos (starEach [y] X.env)).any (·.1) = false) :
    PI X (.Tuple elts kk tpos) (.Call (.Name "zip" p) [x, y] [] pos) (tI X.K Φ (.zip a b)) := by
  refine PI_imp (pi_zipA hg hm ha hs hpl) fun σ H R ⟨M, env, xs, sm, rd, q, k⟩ => ?_
  obtain ⟨d, q1, q2⟩ := Option.bind_eq_some_iff.mp q
  simp only [ev] at q1
  obtain ⟨dx, q3, q1⟩ := Option.bind_eq_some_iff.mp q1
  obtain ⟨dy, q4, q1⟩ := Option.bind_eq_some_iff.mp q1
  refine ⟨M, env, [dx, dy], sm, rd, by simp only [ev, q3, q4]; rfl, fun vs M1 H1 x1 r1 => ?_⟩
  obtain ⟨v, w, rfl, r, r'⟩ := datL2 (X := X) r1
  cases r with
  | lst h r =>
    cases r' with
    | lst h' r' =>
      cases q1
      cases q2
      exact ⟨_, _, _, _, rfl, .inl ⟨SqL.of (x1.s _ _ h), SqL.of (x1.s _ _ h'), k _ M1 H1 x1 (it_zipL (SqL.of h) (SqL.of h') r r')⟩⟩
    | _ => cases q1
  | tup h r =>
    cases r' with
    | tup h' r' =>
      cases q1
      cases q2
      exact ⟨_, _, _, _, rfl, .inr ⟨same_t x1.s h, same_t x1.s h', k _ M1 H1 x1 (it_zipT h h' r r')⟩⟩
    | _ => cases q1
  | _ => cases q1

/-! ### targets -/
def gSeq : List Nat → TGs
  | [] => gNil
  | i :: is => gCons (gName i) (gSeq is)
def gT (K : PySem.W.Frag) : T → TG
  | .nm i => gName i
  | .tp is => gTup K is.length (gSeq is)
theorem wipe_at (σ : L2.St) : ∀ (vs : List Nat) (j : Nat), (wipe σ vs)[j]? = if j ∈ vs then (σ[j]?).map (fun _ => none) else σ[j]?
  | [], j => by simp [wipe]
  | v :: vs, j => by
    have ih := wipe_at σ vs j
    unfold wipe
    by_cases hj : v = j
    · subst hj
      have hl : (wipe σ vs).length = σ.length := wipe_length σ vs
      by_cases hv : v < σ.length
      · rw [List.getElem?_set_self (by omega), if_pos (by simp), List.getElem?_eq_getElem hv]
        rfl
      · rw [List.getElem?_eq_none (by rw [List.length_set]; omega), if_pos (by simp), List.getElem?_eq_none (by omega)]
        rfl
    · rw [List.getElem?_set_ne hj, ih]
      by_cases hm : j ∈ vs
      · rw [if_pos hm, if_pos (by simp [hm])]
      · rw [if_neg hm, if_neg (by simp [hm, Ne.symm hj])]
theorem wipe_set {σ : L2.St} {vs : List Nat} {i : Nat} {o : Option V} (hi : i ∈ vs) : wipe (σ.set i o) vs = wipe σ vs := by
  apply List.ext_getElem?
  intro j
  rw [wipe_at, wipe_at]
  by_cases hj : j ∈ vs
  · rw [if_pos hj, if_pos hj]
    by_cases e : i = j
    · subst e
      by_cases hl : i < σ.length
      · rw [List.getElem?_set_self hl, List.getElem?_eq_getElem hl]
        rfl
      · rw [List.getElem?_eq_none (by rw [List.length_set]; omega), List.getElem?_eq_none (by omega)]
    · rw [List.getElem?_set_ne e]
  · rw [if_neg hj, if_neg hj, List.getElem?_set_ne (fun e => hj (by rw [← e]; exact hi))]
theorem wipe_wipe (σ : L2.St) (vs : List Nat) : wipe (wipe σ vs) vs = wipe σ vs := by
  apply List.ext_getElem?
  intro j
  rw [wipe_at, wipe_at]
  by_cases hj : j ∈ vs
  · rw [if_pos hj, if_pos hj, Option.map_map]
    rfl
  · rw [if_neg hj, if_neg hj]
theorem gSeq_ok {K : PySem.W.Frag} {M H : Hp} {vs0 : List Nat} {P : L2.St → Hp → Prop} : ∀ {is : List Nat} {vs : List V} {ds : List D} {σ : L2.St} {env env' : Env}, (∀ i ∈ is, i ∈ vs0) → Rd0 K M σ env → DatL K M vs ds → setAll is ds env = some env' →
    (∀ σ2, wipe σ2 vs0 = wipe σ vs0 → Rd0 K M σ2 env' → P σ2 H) → gSeq is vs σ H P
  | [], _, _, σ, env, env', _, rd, .nil, q, k => by
    cases q
    exact ⟨rfl, k σ rfl rd⟩
  | i :: is, _, _, σ, env, env', hi, rd, .cons h r, q, k => ⟨_, _, rfl, gSeq_ok (fun j hj => hi j (List.mem_cons_of_mem _ hj)) (rd.set h) r q fun σ2 e rd2 => k σ2 (e.trans (wipe_set (hi i List.mem_cons_self))) rd2⟩
  | [], _, _, _, _, _, _, _, .cons _ _, q, _ => by cases q
  | _ :: _, _, _, _, _, _, _, _, .nil, q, _ => by cases q
theorem setAll_len : ∀ {is : List Nat} {ds : List D} {env env' : Env}, setAll is ds env = some env' → ds.length = is.length
  | [], [], _, _, _ => rfl
  | i :: is, d :: ds, env, env', h => by simp [setAll_len (is := is) (ds := ds) h]
  | [], _ :: _, _, _, h => by cases h
  | _ :: _, [], _, _, h => by cases h
theorem gT_ok {K : PySem.W.Frag} {M H : Hp} {t : T} {vs0 : List Nat} {P : L2.St → Hp → Prop} {v : V} {d : D} {σ : L2.St} {env env' : Env} (hi : ∀ i ∈ t.slots, i ∈ vs0) (sm : Same M H) (rd : Rd0 K M σ env) (h : Dat K M v d) (q : bindT t d env = some env')
    (k : ∀ σ2, wipe σ2 vs0 = wipe σ vs0 → Rd0 K M σ2 env' → P σ2 H) : gT K t v σ H P := by
  cases t with
  | nm i =>
    cases q
    exact k _ (wipe_set (hi i (by simp [T.slots]))) (rd.set h)
  | tp is =>
    cases h with
    | tup h r => exact ⟨_, _, rfl, same_t sm h, by rw [r.length]; exact setAll_len q, gSeq_ok hi rd r q k⟩
    | _ => cases q

/-! ### comprehensions -/
theorem tt_yes : PTs X [] (tT X.K Φ (.bl true)) := ⟨fun pins s σ H Q I ⟨M, env, b, sm, rd, q, k⟩ => pts_nil.run pins s σ H Q I (by cases q; exact k M H (Xt.refl sm))⟩
theorem s_lc {fr : Bool} {t : T} {ix tx elt : Expr} {ifs : List Expr} {scope : Scope} {own : List (Str × Nat)} {it : E} (hc : X.calm = true) (hN : X.N.Nodup) (hi : PI X tx ix (tI X.K Φ it)) (ok : BlkOk X.N X.env.scope scope own) (how : own.map (·.2) = t.slots)
    (hg : ∀ (s : Shared) (H : Hp) (C : Addr) (cl : List (Str × Addr)) (fp : List Addr), PG (X.blk s H scope (compEnvC scope cl C X.env) fp) tx (gT X.K t))
    (ht : ∀ (s : Shared) (H : Hp) (C : Addr) (cl : List (Str × Addr)) (fp : List Addr), PTs (X.blk s H scope (compEnvC scope cl C X.env) fp) ifs (tT X.K Φ c))
    (he : ∀ (s : Shared) (H : Hp) (C : Addr) (cl : List (Str × Addr)) (fp : List Addr), PE (X.blk s H scope (compEnvC scope cl C X.env) fp) elt (tE X.K Φ false e)) {σ : L2.St} {H : Hp} {Q : VK}
    (h : tE X.K Φ fr (.lc t it c e) σ H Q) : tLc (tI X.K Φ it) (gT X.K t) (tT X.K Φ c) (tE X.K Φ false e) (own.map (·.2)) σ H Q := by
  obtain ⟨M, env, d, il, sm, rd, q, k⟩ := h
  simp only [ev] at q
  obtain ⟨xs, q1, q⟩ := Option.bind_eq_some_iff.mp q
  obtain ⟨r, q2, q⟩ := Option.bind_eq_some_iff.mp q
  rw [how]
  have hr : d = .lst r ∧ r.length ≤ LIM := by
    unfold limL at q
    split at q
    · rename_i hl
      cases q
      exact ⟨rfl, hl⟩
    · cases q
  obtain ⟨rfl, hl⟩ := hr
  refine ⟨M, env, xs, sm, rd, q1, fun J M1 H1 x1 okJ D hD => ?_⟩
  have mD := x1.s.free hD
  refine lc_it okJ (fun i Hc => ∃ Mc acc ra rest, Xt M1 Mc H1 Hc ∧ Mc D = none ∧ Hc D = some (.lst acc) ∧ DatL X.K Mc acc ra ∧ lcGo (fun x => bindT t x (wipeE env t.slots)) (fun env => ev Φ c env) (fun env => (ev Φ e env).map fun y => [y]) (xs.drop i) = some rest ∧ ra ++ rest = r)
    ⟨M1, [], [], r, Xt.newH x1.s hD, mD, upd_same, .nil, by rw [List.drop_zero]; exact q2, rfl⟩ ?_ ?_ ?_
  · rintro i Hc hi ⟨Mc, acc, ra, rest, xt, _⟩
    exact ⟨Mc, xt.m, xt.s⟩
  · rintro i x Hc H' hi ⟨Mc, acc, ra, rest, xt, mcD, hcD, dl, lg, er⟩ y
    obtain ⟨d, M2, q3, x2, r2⟩ := y Mc xt.m xt.s
    rw [List.drop_eq_getElem_cons hi] at lg
    have ed : xs[i] = d := by rw [List.getElem?_eq_getElem hi] at q3; exact Option.some.inj q3
    rw [ed] at lg
    simp only [lcGo] at lg
    obtain ⟨env1, q4, lg⟩ := Option.bind_eq_some_iff.mp lg
    have rdw : Rd0 X.K M2 (wipe σ t.slots) (wipeE env t.slots) := ((rd.mono x1.m).mono (xt.m.trans x2.m)).wipe _
    have xt2 := xt.trans x2
    have noD : ∀ {M3 H3 : Hp}, Xt Mc M3 Hc H3 → M3 D = none := fun {M3 H3} x3 => by
      cases z : M3 D with
      | none => rfl
      | some o =>
        rcases x3.f D (by rw [z]; exact fun z => nomatch z) with u | u
        · exact absurd mcD u
        · rw [hcD] at u; cases u
    refine gT_ok (vs0 := t.slots) (fun _ z => z) x2.s rdw r2 q4 fun σ2 hw rd2 => ⟨by rw [hw, wipe_wipe], ?_⟩
    split at lg
    · rename_i q5
      obtain ⟨ys, q6, lg⟩ := Option.bind_eq_some_iff.mp lg
      obtain ⟨yd, q7, rfl⟩ := Option.map_eq_some_iff.mp q6
      obtain ⟨rest', q8, rfl⟩ := Option.map_eq_some_iff.mp lg
      refine ⟨M2, env1, true, x2.s, rd2, q5, fun M3 H3 x3 => iteT ⟨M3, env1, yd, (fun z => nomatch z), x3.s, rd2.mono x3.m, q7, fun v M4 H4 x4 r4 => ?_⟩⟩
      have x24 := (x2.trans x3).trans x4
      have m4 := noD x24
      have h4 : H4 D = some (.lst acc) := x24.h _ _ hcD
      have hal : acc.length < LIM := by
        have := dl.length
        have e2 : r.length = ra.length + (rest'.length + 1) := by rw [← er]; simp
        omega
      refine ⟨acc, h4, LIM_lt hal, M4, acc ++ [v], ra ++ [yd], rest', ?_, m4, upd_same, (dl.mono x24.m).append (.cons r4 .nil), q8, by rw [← er]; simp⟩
      have x14 := xt.trans x24
      refine ⟨x14.m, fun b o eb => ?_, fun b o eb => ?_, x14.f⟩
      · rw [upd_ne (ne_of_none eb hD)]
        exact x14.h b o eb
      · rw [upd_ne (ne_of_none eb m4)]
        exact x14.s b o eb
    · rename_i q5
      refine ⟨M2, env1, false, x2.s, rd2, q5, fun M3 H3 x3 => iteF ?_⟩
      have x23 := x2.trans x3
      exact ⟨M3, acc, ra, rest, xt.trans x23, noD x23, x23.h _ _ hcD, dl.mono x23.m, lg, er⟩
    · cases lg
  · rintro Hc ⟨Mc, acc, ra, rest, xt, mcD, hcD, dl, lg, er⟩
    rw [List.drop_length] at lg
    cases lg
    rw [List.append_nil] at er
    subst er
    have xf := x1.trans xt
    have h0 : H D = none := x1.h.free hD
    cases fr with
    | true => exact k _ Mc Hc xf ⟨D, acc, ra, rfl, rfl, h0, hcD, mcD, dl⟩
    | false => exact k _ _ Hc (xf.keep h0 mcD hcD) (.lst upd_same (dl.mono (same_new mcD)))
end
end PyD

/-! Comprehensions with two clauses. -/
namespace PyD
open PySem L2 RZ

/-- a comprehension's loop from any start -/
theorem lc_from {J : It} {n : Nat} {G : Hp → Prop} {Y : Nat → Hp → V → Hp → Prop} (w : Walk J n G Y) {F : V → Hp → (Hp → Prop) → Prop} {Hs : Hp} {Qd : Hp → Prop} (Pv : Nat → Hp → Prop) (start : Pv 0 Hs) (inG : ∀ i H, i ≤ n → Pv i H → G H)
    (turn : ∀ i x H H', i < n → Pv i H → Y i H x H' → F x H' (Pv (i + 1))) (last : ∀ H, Pv n H → Qd H) :
    ∃ W : Nat → Nat → Hp → Prop, (∃ m, W 0 m Hs) ∧ ∀ i m H, W i m H → (J.stop i H ∧ Qd H) ∨ (J.go i H ∧ ∃ Nx : Hp → Prop, (∀ H', Nx H' → ∃ m', m' < m ∧ W (i + 1) m' H') ∧ ∀ x H', J.yld i H x H' → F x H' Nx) := by
  refine ⟨fun i m H => i ≤ n ∧ m + i = n ∧ Pv i H, ⟨n, Nat.zero_le _, rfl, start⟩, ?_⟩
  intro i m H ⟨h1, h2, h3⟩
  have g := inG i H h1 h3
  rcases Nat.lt_or_ge i n with lt | ge
  · right
    refine ⟨w.goes i H lt g, Pv (i + 1), ?_, ?_⟩
    · intro H' h4
      exact ⟨m - 1, by omega, lt, by omega, h4⟩
    · intro x H' y
      exact turn i x H H' lt h3 (w.yields i H x H' lt g y)
  · have : i = n := by omega
    subst this
    exact .inl ⟨w.stops H g, last H h3⟩

section
variable {X : Cx} {Φ : Fns} {c e c' : E}
theorem no_D {M M3 H H3 : Hp} {D : Addr} {o : HO} (x3 : Xt M M3 H H3) (m : M D = none) (h : H D = some o) : M3 D = none := by
  cases z : M3 D with
  | none => rfl
  | some u =>
    rcases x3.f D (by rw [z]; exact fun z => nomatch z) with u | u
    · exact absurd m u
    · rw [h] at u; cases u
/-- the new list at D grows -/
theorem Xt.grow {M M' H H' : Hp} {D : Addr} {o : HO} (x : Xt M M' H H') (hD : H D = none) (mD : M' D = none) : Xt M M' H (upd H' D o) :=
  ⟨x.m, fun b u eb => by rw [upd_ne (ne_of_none eb hD)]; exact x.h b u eb, fun b u eb => by rw [upd_ne (ne_of_none eb mD)]; exact x.s b u eb, x.f⟩

theorem s_lc2 {fr : Bool} {t t' : T} {own : List (Str × Nat)} {it it' : E} (how : own.map (·.2) = t.slots ++ t'.slots) {σ : L2.St} {H : Hp} {Q : VK}
    (h : tE X.K Φ fr (.lc2 t it c t' it' c' e) σ H Q) : tLc2 (tI X.K Φ it) (gT X.K t) (tT X.K Φ c) (tI X.K Φ it') (gT X.K t') (tT X.K Φ c') (tE X.K Φ false e) (own.map (·.2)) t'.slots σ H Q := by
  obtain ⟨M, env, d, il, sm, rd, q, k⟩ := h
  simp only [ev] at q
  obtain ⟨xs, q1, q⟩ := Option.bind_eq_some_iff.mp q
  obtain ⟨r, q2, q⟩ := Option.bind_eq_some_iff.mp q
  rw [how]
  have hr : d = .lst r ∧ r.length ≤ LIM := by
    unfold limL at q
    split at q
    · rename_i hl
      cases q
      exact ⟨rfl, hl⟩
    · cases q
  obtain ⟨rfl, hl⟩ := hr
  refine ⟨M, env, xs, sm, rd, q1, fun J M1 H1 x1 okJ D hD => ?_⟩
  have mD := x1.s.free hD
  generalize hgo : (fun x => bindT t x (wipeE env (t.slots ++ t'.slots))) = bnd at q2
  generalize hin : (fun env => ((ev Φ it' env).bind asSeq).bind fun ys => lcGo (fun x => bindT t' x (wipeE env t'.slots)) (fun env => ev Φ c' env) (fun env => (ev Φ e env).map fun y => [y]) ys) = inn at q2
  refine lc_from okJ (F := fun x H' Nx => gT X.K t x (wipe σ (t.slots ++ t'.slots)) H' fun σ2 H2 => wipe σ2 (t.slots ++ t'.slots) = wipe σ (t.slots ++ t'.slots) ∧ tT X.K Φ c σ2 H2 fun b H3 =>
    if b = true then tI X.K Φ it' σ2 H3 fun J1 H4 => ∃ W1 : Nat → Nat → Hp → Prop, (∃ m, W1 0 m H4) ∧ ∀ j k H, W1 j k H →
      (J1.stop j H ∧ Nx H) ∨ (J1.go j H ∧ ∃ Nx1 : Hp → Prop, (∀ H', Nx1 H' → ∃ k', k' < k ∧ W1 (j + 1) k' H') ∧ ∀ x H', J1.yld j H x H' → gT X.K t' x (wipe σ2 t'.slots) H' fun σ3 H5 => wipe σ3 t'.slots = wipe σ2 t'.slots ∧ tT X.K Φ c' σ3 H5 fun b H6 =>
        if b = true then tE X.K Φ false e σ3 H6 fun y H7 => ∃ acc, H7 D = some (.lst acc) ∧ acc.length < sizeLine ∧ Nx1 (upd H7 D (.lst (acc ++ [y]))) else Nx1 H6)
    else Nx H3)
    (fun i Hc => ∃ Mc acc ra rest, Xt M1 Mc H1 Hc ∧ Mc D = none ∧ Hc D = some (.lst acc) ∧ DatL X.K Mc acc ra ∧ lcGo bnd (fun env => ev Φ c env) inn (xs.drop i) = some rest ∧ ra ++ rest = r)
    ⟨M1, [], [], r, Xt.newH x1.s hD, mD, upd_same, .nil, by rw [List.drop_zero]; exact q2, rfl⟩ ?_ ?_ ?_
  · rintro i Hc hi ⟨Mc, acc, ra, rest, xt, _⟩
    exact ⟨Mc, xt.m, xt.s⟩
  · rintro i x Hc H' hi ⟨Mc, acc, ra, rest, xt, mcD, hcD, dl, lg, er⟩ y
    obtain ⟨d, M2, q3, x2, r2⟩ := y Mc xt.m xt.s
    rw [List.drop_eq_getElem_cons hi] at lg
    have ed : xs[i] = d := by rw [List.getElem?_eq_getElem hi] at q3; exact Option.some.inj q3
    rw [ed] at lg
    simp only [lcGo] at lg
    obtain ⟨env1, q4, lg⟩ := Option.bind_eq_some_iff.mp lg
    have rdw : Rd0 X.K M2 (wipe σ (t.slots ++ t'.slots)) (wipeE env (t.slots ++ t'.slots)) := ((rd.mono x1.m).mono (xt.m.trans x2.m)).wipe _
    have xt2 := xt.trans x2
    rw [← hgo] at q4
    refine gT_ok (vs0 := t.slots ++ t'.slots) (fun _ z => List.mem_append_left _ z) x2.s rdw r2 q4 fun σ2 hw rd2 => ⟨by rw [hw, wipe_wipe], ?_⟩
    split at lg
    · rename_i q5
      obtain ⟨zs, q6, lg⟩ := Option.bind_eq_some_iff.mp lg
      obtain ⟨rest', q8, rfl⟩ := Option.map_eq_some_iff.mp lg
      rw [← hin] at q6
      obtain ⟨ys, q9, q10⟩ := Option.bind_eq_some_iff.mp q6
      refine ⟨M2, env1, true, x2.s, rd2, q5, fun M3 H3 x3 => iteT ⟨M3, env1, ys, x3.s, rd2.mono x3.m, q9, fun J1 M4 H4 x4 okJ1 => ?_⟩⟩
      have x24 := (x2.trans x3).trans x4
      have m4 := no_D x24 mcD hcD
      refine lc_from okJ1 (F := fun x H' Nx1 => gT X.K t' x (wipe σ2 t'.slots) H' fun σ3 H5 => wipe σ3 t'.slots = wipe σ2 t'.slots ∧ tT X.K Φ c' σ3 H5 fun b H6 =>
        if b = true then tE X.K Φ false e σ3 H6 fun y H7 => ∃ acc, H7 D = some (.lst acc) ∧ acc.length < sizeLine ∧ Nx1 (upd H7 D (.lst (acc ++ [y]))) else Nx1 H6)
        (fun j Hd => ∃ Md acc1 ra1 rest1, Same M4 Md ∧ Xt M1 Md H1 Hd ∧ Md D = none ∧ Hd D = some (.lst acc1) ∧ DatL X.K Md acc1 ra1 ∧ lcGo (fun x => bindT t' x (wipeE env1 t'.slots)) (fun env => ev Φ c' env) (fun env => (ev Φ e env).map fun y => [y]) (ys.drop j) = some rest1 ∧ ra1 ++ (rest1 ++ rest') = r)
        ⟨M4, acc, ra, zs, Same.refl _, xt.trans x24, m4, x24.h _ _ hcD, dl.mono x24.m, by rw [List.drop_zero]; exact q10, er⟩ ?_ ?_ ?_
      · rintro j Hd hj ⟨Md, acc1, ra1, rest1, s4, xd, _⟩
        exact ⟨Md, s4, xd.s⟩
      · rintro j u Hd H5 hj ⟨Md, acc1, ra1, rest1, s4, xd, mdD, hdD, dl1, lg1, er1⟩ y1
        obtain ⟨d1, M5, q11, x5, r5⟩ := y1 Md s4 xd.s
        rw [List.drop_eq_getElem_cons hj] at lg1
        have ed1 : ys[j] = d1 := by rw [List.getElem?_eq_getElem hj] at q11; exact Option.some.inj q11
        rw [ed1] at lg1
        simp only [lcGo] at lg1
        obtain ⟨env2, q12, lg1⟩ := Option.bind_eq_some_iff.mp lg1
        have rdw1 : Rd0 X.K M5 (wipe σ2 t'.slots) (wipeE env1 t'.slots) := (rd2.mono ((x3.m.trans x4.m).trans (s4.trans x5.m))).wipe _
        refine gT_ok (vs0 := t'.slots) (fun _ z => z) x5.s rdw1 r5 q12 fun σ3 hw3 rd3 => ⟨by rw [hw3, wipe_wipe], ?_⟩
        split at lg1
        · rename_i q13
          obtain ⟨ws, q14, lg1⟩ := Option.bind_eq_some_iff.mp lg1
          obtain ⟨yd, q15, rfl⟩ := Option.map_eq_some_iff.mp q14
          obtain ⟨rest2, q16, rfl⟩ := Option.map_eq_some_iff.mp lg1
          refine ⟨M5, env2, true, x5.s, rd3, q13, fun M6 H6 x6 => iteT ⟨M6, env2, yd, (fun z => nomatch z), x6.s, rd3.mono x6.m, q15, fun v M7 H7 x7 r7 => ?_⟩⟩
          have x57 := (x5.trans x6).trans x7
          have m7 := no_D x57 mdD hdD
          have hal : acc1.length < LIM := by
            have := dl1.length
            have e2 : r.length = ra1.length + (rest2.length + 1 + rest'.length) := by rw [← er1]; simp; omega
            omega
          exact ⟨acc1, x57.h _ _ hdD, LIM_lt hal, M7, acc1 ++ [v], ra1 ++ [yd], rest2, s4.trans x57.m, (xd.trans x57).grow hD m7, m7, upd_same, (dl1.mono x57.m).append (.cons r7 .nil), q16, by rw [← er1]; simp⟩
        · rename_i q13
          refine ⟨M5, env2, false, x5.s, rd3, q13, fun M6 H6 x6 => iteF ?_⟩
          have x56 := x5.trans x6
          exact ⟨M6, acc1, ra1, rest1, s4.trans x56.m, xd.trans x56, no_D x56 mdD hdD, x56.h _ _ hdD, dl1.mono x56.m, lg1, er1⟩
        · cases lg1
      · rintro Hd ⟨Md, acc1, ra1, rest1, s4, xd, mdD, hdD, dl1, lg1, er1⟩
        rw [List.drop_length] at lg1
        cases lg1
        exact ⟨Md, acc1, ra1, rest', xd, mdD, hdD, dl1, q8, er1⟩
    · rename_i q5
      refine ⟨M2, env1, false, x2.s, rd2, q5, fun M3 H3 x3 => iteF ?_⟩
      have x23 := x2.trans x3
      exact ⟨M3, acc, ra, rest, xt.trans x23, no_D x23 mcD hcD, x23.h _ _ hcD, dl.mono x23.m, lg, er⟩
    · cases lg
  · rintro Hc ⟨Mc, acc, ra, rest, xt, mcD, hcD, dl, lg, er⟩
    rw [List.drop_length] at lg
    cases lg
    rw [List.append_nil] at er
    subst er
    have xf := x1.trans xt
    have h0 : H D = none := x1.h.free hD
    cases fr with
    | true => exact k _ Mc Hc xf ⟨D, acc, ra, rfl, rfl, h0, hcD, mcD, dl⟩
    | false => exact k _ _ Hc (xf.keep h0 mcD hcD) (.lst upd_same (dl.mono (same_new mcD)))
end
end PyD

/-! Statements. -/
namespace PyD
open PySem L2 RZ

/-- how slots, heap and the interpreter's environment lie: M0, H0: at the entry; M: the frozen part -/
structure Rel (K : PySem.W.Frag) (M0 H0 M : Hp) (σ : L2.St) (env : FEnv) (H : Hp) : Prop where
  len : σ.length = env.length
  sub : Same M H
  m0 : Same M0 M
  h0 : Same H0 H
  fr : ∀ a, M a ≠ none → M0 a ≠ none ∨ H0 a = none
  im : ∀ (i : Nat) (d : D), env[i]? = some (some (false, d)) → ∃ v, σ[i]? = some (some v) ∧ Dat K M v d
  mu : ∀ (i : Nat) (d : D), env[i]? = some (some (true, d)) → ∃ l vs ds, d = .lst ds ∧ σ[i]? = some (some (.ref l)) ∧ M l = none ∧ H0 l = none ∧ H l = some (.lst vs) ∧ DatL K M vs ds
  sep : ∀ (i j : Nat) (d e : D) (l : Addr), env[i]? = some (some (true, d)) → env[j]? = some (some (true, e)) → σ[i]? = some (some (.ref l)) → σ[j]? = some (some (.ref l)) → i = j

section
variable {K : PySem.W.Frag} {M0 H0 M M' H H' : Hp} {σ : L2.St} {env : FEnv} {Φ : Fns}

theorem map_at {α β : Type} {f : α → β} {l : List α} {i : Nat} {b : β} (h : (l.map f)[i]? = some b) : ∃ a, l[i]? = some a ∧ f a = b := by
  rw [List.getElem?_map] at h
  exact Option.map_eq_some_iff.mp h
theorem Rel.hid (r : Rel K M0 H0 M σ env H) : Rd0 K M σ (PyD.hid env) := by
  refine ⟨by simp [PyD.hid, r.len], fun i d h => ?_⟩
  obtain ⟨o, h1, h2⟩ := map_at h
  cases o with
  | none => cases h2
  | some p =>
    obtain ⟨b, d'⟩ := p
    cases b with
    | false =>
      have e : d' = d := Option.some.inj h2
      subst e
      exact r.im i d' h1
    | true => cases h2

/-- the address of an own list -/
def MuAt (σ : L2.St) (env : FEnv) (a : Addr) : Prop := ∃ (i : Nat) (d : D), env[i]? = some (some (true, d)) ∧ σ[i]? = some (some (.ref a))
open Classical in
/-- the frozen part with the own lists -/
noncomputable def plus (M H : Hp) (σ : L2.St) (env : FEnv) : Hp := fun a => if MuAt σ env a then H a else M a
open Classical in
/-- without them again -/
noncomputable def minus (M' : Hp) (σ : L2.St) (env : FEnv) : Hp := fun a => if MuAt σ env a then none else M' a
theorem Rel.muNone (r : Rel K M0 H0 M σ env H) {a : Addr} (h : MuAt σ env a) : M a = none ∧ H0 a = none ∧ ∃ vs, H a = some (.lst vs) := by
  obtain ⟨i, d, h1, h2⟩ := h
  obtain ⟨l, vs, ds, _, e, ml, hl, hh, _⟩ := r.mu i d h1
  rw [h2] at e
  cases e
  exact ⟨ml, hl, vs, hh⟩
theorem Rel.plus (r : Rel K M0 H0 M σ env H) : Same M (plus M H σ env) ∧ Same (plus M H σ env) H ∧ Rd0 K (plus M H σ env) σ (shw env) := by
  have s1 : Same M (PyD.plus M H σ env) := fun a o e => by
    unfold PyD.plus
    split
    · rename_i h
      rw [(r.muNone h).1] at e
      cases e
    · exact e
  refine ⟨s1, fun a o e => ?_, by simp [shw, r.len], fun i d h => ?_⟩
  · unfold PyD.plus at e
    split at e
    · exact e
    · exact r.sub a o e
  · obtain ⟨o, h1, h2⟩ := map_at h
    cases o with
    | none => cases h2
    | some p =>
      obtain ⟨b, d'⟩ := p
      have e : d' = d := Option.some.inj h2
      subst e
      cases b with
      | false =>
        obtain ⟨v, q1, q2⟩ := r.im i d' h1
        exact ⟨v, q1, q2.mono s1⟩
      | true =>
        obtain ⟨l, vs, ds, rfl, q1, ml, _, hl, q2⟩ := r.mu i d' h1
        exact ⟨_, q1, .lst (by unfold PyD.plus; rw [if_pos ⟨i, _, h1, q1⟩]; exact hl) (q2.mono s1)⟩
/-- behind an evaluation over the frozen part with the own lists -/
theorem Rel.minus (r : Rel K M0 H0 M σ env H) (x : Xt (PyD.plus M H σ env) M' H H') : Xt M (PyD.minus M' σ env) H H' ∧ ∀ a xs, SqT K M' a xs → SqT K (PyD.minus M' σ env) a xs := by
  have notT : ∀ {a : Addr} {u : HO}, MuAt σ env a → M' a = some u → ∃ vs, u = .lst vs := fun {a u} h e => by
    obtain ⟨_, _, vs, hl⟩ := r.muNone h
    have h1 := x.h a _ hl
    have h2 := x.s a u e
    rw [h1] at h2
    exact ⟨vs, (Option.some.inj h2).symm⟩
  refine ⟨⟨fun a o e => ?_, x.h, fun a o e => ?_, fun a h => ?_⟩, fun a xs h => ?_⟩
  · unfold PyD.minus
    split
    · rename_i h
      rw [(r.muNone h).1] at e
      cases e
    · exact x.m a o (r.plus.1 a o e)
  · unfold PyD.minus at e
    split at e
    · cases e
    · exact x.s a o e
  · unfold PyD.minus at h
    split at h
    · exact absurd rfl h
    · rename_i hn
      rcases x.f a h with z | z
      · left
        unfold PyD.plus at z
        rw [if_neg hn] at z
        exact z
      · exact .inr z
  · rcases h with (h | ⟨o, h⟩) | h
    · refine .inl (.inl ?_)
      unfold PyD.minus
      split
      · rename_i hm
        obtain ⟨vs, e⟩ := notT hm h
        cases e
      · exact h
    · refine .inl (.inr ⟨o, ?_⟩)
      unfold PyD.minus
      split
      · rename_i hm
        obtain ⟨vs, e⟩ := notT hm h
        cases e
      · exact h
    · exact .inr h

theorem keepD_isL {m : Md} {d : D} (h : keepD m d = true) : m.own = true → isL d = true := fun e => by
  obtain ⟨o, s⟩ := m
  cases e
  cases s <;> cases d <;> first | rfl | cases h
/-- an expression in a mode -/
theorem evM_ok {m : Md} {e : E} {d : D} {Q : VK} (r : Rel K M0 H0 M σ env H) (q : evM Φ e m env = some d) (k : ∀ v M' H', Xt M M' H H' → Res K M' H H' m.own v d → Q v H') : tE K Φ m.own e σ H Q := by
  unfold evM at q
  obtain ⟨d', q1, q2⟩ := Option.bind_eq_some_iff.mp q
  split at q2
  · rename_i hk
    cases q2
    cases hs : m.sh with
    | false =>
      rw [hs, if_neg (by decide)] at q1
      exact ⟨M, _, d, keepD_isL hk, r.sub, r.hid, q1, k⟩
    | true =>
      rw [hs, if_pos rfl] at q1
      obtain ⟨s1, s2, rd⟩ := r.plus
      refine ⟨_, _, d, keepD_isL hk, s2, rd, q1, fun v M' H' x res => ?_⟩
      obtain ⟨x2, ht⟩ := r.minus x
      refine k v _ H' x2 ?_
      unfold keepD at hk
      cases ho : m.own with
      | false =>
        rw [ho, hs] at hk
        rw [ho] at res
        exact Dat.flatly ht res hk
      | true =>
        rw [ho, hs] at hk
        rw [ho] at res
        obtain ⟨l, vs, ds, e1, e2, hl, h1, h2, h3⟩ := res
        subst e2
        refine ⟨l, vs, ds, e1, rfl, hl, h1, ?_, DatL.flatly ht h3 hk⟩
        unfold PyD.minus
        split
        · rfl
        · exact h2
  · cases q2

theorem Rel.step (r : Rel K M0 H0 M σ env H) (x : Xt M M' H H') : Rel K M0 H0 M' σ env H' := by
  refine ⟨r.len, x.s, r.m0.trans x.m, r.h0.trans x.h, fun a h => ?_, fun i d h => ?_, fun i d h => ?_, r.sep⟩
  · rcases x.f a h with z | z
    · exact r.fr a z
    · exact .inr (r.h0.free z)
  · obtain ⟨v, q1, q2⟩ := r.im i d h
    exact ⟨v, q1, q2.mono x.m⟩
  · obtain ⟨l, vs, ds, e, q1, ml, h0, hl, q2⟩ := r.mu i d h
    refine ⟨l, vs, ds, e, q1, ?_, h0, x.h _ _ hl, q2.mono x.m⟩
    cases z : M' l with
    | none => rfl
    | some u =>
      rcases x.f l (by rw [z]; exact fun z => nomatch z) with w | w
      · exact absurd ml w
      · rw [hl] at w; cases w
theorem set_at {α : Type} {l : List α} {i j : Nat} {a b : α} (h : (l.set i a)[j]? = some b) : (i = j ∧ a = b ∧ j < l.length) ∨ (i ≠ j ∧ l[j]? = some b) := by
  by_cases e : i = j
  · subst e
    by_cases hl : i < l.length
    · rw [List.getElem?_set_self hl] at h
      exact .inl ⟨rfl, Option.some.inj h, hl⟩
    · rw [List.getElem?_eq_none (by rw [List.length_set]; omega)] at h
      cases h
  · rw [List.getElem?_set_ne e] at h
    exact .inr ⟨e, h⟩
/-- a slot is stored -/
theorem Rel.set {own : Bool} {v : V} {d : D} {Hb : Hp} (r : Rel K M0 H0 M σ env H) (i : Nat) (res : Res K M Hb H own v d) (hb : Same H0 Hb) (ne : ∀ (j : Nat) (e : D) (l : Addr), i ≠ j → env[j]? = some (some (true, e)) → σ[j]? = some (some (.ref l)) → own = true → v ≠ .ref l) :
    Rel K M0 H0 M (σ.set i (some v)) (env.set i (some (own, d))) H := by
  refine ⟨by simp [r.len], r.sub, r.m0, r.h0, r.fr, fun j e h => ?_, fun j e h => ?_, fun j j' e e' l h h' h1 h2 => ?_⟩
  · rcases set_at h with ⟨rfl, h1, hl⟩ | ⟨hj, h1⟩
    · cases h1
      exact ⟨v, List.getElem?_set_self (by rw [r.len]; exact hl), res⟩
    · rw [List.getElem?_set_ne hj]
      exact r.im j e h1
  · rcases set_at h with ⟨rfl, h1, hl⟩ | ⟨hj, h1⟩
    · cases h1
      obtain ⟨l, vs, ds, e1, e2, hbl, hl2, ml, dl⟩ := res
      subst e1
      exact ⟨l, vs, ds, e2, List.getElem?_set_self (by rw [r.len]; exact hl), ml, hb.free hbl, hl2, dl⟩
    · rw [List.getElem?_set_ne hj]
      exact r.mu j e h1
  · rcases set_at h with ⟨rfl, q1, _⟩ | ⟨hj, q1⟩
    · rcases set_at h' with ⟨rfl, q2, _⟩ | ⟨hj', q2⟩
      · rfl
      · exfalso
        rw [List.getElem?_set_ne hj'] at h2
        rcases set_at h1 with ⟨_, q3, _⟩ | ⟨q3, _⟩
        · cases q1
          cases q3
          exact ne j' e' l hj' q2 h2 rfl rfl
        · exact q3 rfl
    · rcases set_at h' with ⟨rfl, q2, _⟩ | ⟨hj', q2⟩
      · exfalso
        rw [List.getElem?_set_ne hj] at h1
        rcases set_at h2 with ⟨_, q3, _⟩ | ⟨q3, _⟩
        · cases q2
          cases q3
          exact ne j e l hj q1 h1 rfl rfl
        · exact q3 rfl
      · rw [List.getElem?_set_ne hj] at h1
        rw [List.getElem?_set_ne hj'] at h2
        exact r.sep j j' e e' l q1 q2 h1 h2
/-- what was just made is stored -/
theorem Rel.asg {own : Bool} {v : V} {d : D} (r : Rel K M0 H0 M σ env H) (i : Nat) (x : Xt M M' H H') (res : Res K M' H H' own v d) : Rel K M0 H0 M' (σ.set i (some v)) (env.set i (some (own, d))) H' := by
  refine (r.step x).set i res r.h0 fun j e l hj h1 h2 ho hv => ?_
  subst ho
  obtain ⟨l', vs, ds, e1, e2, hbl, _⟩ := res
  rw [hv] at e1
  cases e1
  obtain ⟨_, _, vs', hl⟩ := r.muNone ⟨j, e, h1, h2⟩
  rw [hbl] at hl
  cases hl
/-- an own list is changed in place -/
theorem Rel.put {i : Nat} {l : Addr} {d : D} {vs : List V} {ds : List D} (r : Rel K M0 H0 M σ env H) (h : env[i]? = some (some (true, d))) (hs : σ[i]? = some (some (.ref l))) (dl : DatL K M vs ds) :
    Rel K M0 H0 M σ (env.set i (some (true, .lst ds))) (upd H l (.lst vs)) := by
  obtain ⟨ml, h0l, _⟩ := r.muNone ⟨i, d, h, hs⟩
  have hi : i < env.length := (List.getElem?_eq_some_iff.mp h).1
  refine ⟨by simp [r.len], fun a o e => ?_, r.m0, fun a o e => ?_, r.fr, fun j e hj => ?_, fun j e hj => ?_, fun j j' e e' l' q1 q2 => ?_⟩
  · rw [upd_ne (ne_of_none e ml)]
    exact r.sub a o e
  · rw [upd_ne (ne_of_none e h0l)]
    exact r.h0 a o e
  · rcases set_at hj with ⟨_, q, _⟩ | ⟨_, q⟩
    · cases q
    · exact r.im j e q
  · rcases set_at hj with ⟨rfl, q, _⟩ | ⟨hne, q⟩
    · cases q
      exact ⟨l, vs, ds, rfl, hs, ml, h0l, upd_same, dl⟩
    · obtain ⟨l', vs', ds', e1, q1, m', h', hl', dl'⟩ := r.mu j e q
      refine ⟨l', vs', ds', e1, q1, m', h', ?_, dl'⟩
      rw [upd_ne]
      · exact hl'
      · intro z
        subst z
        exact hne (r.sep i j d e l' h q hs q1)
  · intro q3 q4
    rcases set_at q1 with ⟨z1, _, _⟩ | ⟨_, p1⟩
    · rcases set_at q2 with ⟨z2, _, _⟩ | ⟨_, p2⟩
      · omega
      · subst z1
        exact r.sep i j' d e' l' h p2 q3 q4
    · rcases set_at q2 with ⟨z2, _, _⟩ | ⟨_, p2⟩
      · subst z2
        exact r.sep j i e d l' p1 h q3 q4
      · exact r.sep j j' e e' l' p1 p2 q3 q4
/-- an own list is frozen -/
theorem Rel.frz1 (r : Rel K M0 H0 M σ env H) (i : Nat) : ∃ M', Same M M' ∧ Rel K M0 H0 M' σ (PyD.frz1 env i) H := by
  unfold PyD.frz1
  split
  · rename_i b d hj
    have h : env[i]? = some (some (b, d)) := by
      cases e : env[i]? with
      | none => rw [e] at hj; cases hj
      | some o => rw [e] at hj; exact congrArg some hj
    have hi : i < env.length := (List.getElem?_eq_some_iff.mp h).1
    cases b with
    | false =>
      refine ⟨M, Same.refl M, ?_⟩
      have e : env.set i (some (false, d)) = env := by
        apply List.ext_getElem?
        intro j
        by_cases hj : i = j
        · subst hj
          rw [List.getElem?_set_self hi, h]
        · rw [List.getElem?_set_ne hj]
      rw [e]
      exact r
    | true =>
      obtain ⟨l, vs, ds, rfl, q1, ml, h0l, hl, dl⟩ := r.mu i d h
      have s1 : Same M (upd M l (.lst vs)) := same_new ml
      refine ⟨upd M l (.lst vs), s1, by simp [r.len], fun a o e => ?_, r.m0.trans s1, r.h0, fun a e => ?_, fun j e hj => ?_, fun j e hj => ?_, fun j j' e e' l' p1 p2 => ?_⟩
      · by_cases q : a = l
        · subst q
          rw [upd_same] at e
          rw [← e]
          exact hl
        · rw [upd_ne q] at e
          exact r.sub a o e
      · by_cases q : a = l
        · subst q
          exact .inr h0l
        · rw [upd_ne q] at e
          exact r.fr a e
      · rcases set_at hj with ⟨rfl, q, _⟩ | ⟨_, q⟩
        · cases q
          exact ⟨_, q1, .lst upd_same (dl.mono s1)⟩
        · obtain ⟨v, w1, w2⟩ := r.im j e q
          exact ⟨v, w1, w2.mono s1⟩
      · rcases set_at hj with ⟨rfl, q, _⟩ | ⟨hne, q⟩
        · cases q
        · obtain ⟨l', vs', ds', e1, w1, m', h', hl', dl'⟩ := r.mu j e q
          refine ⟨l', vs', ds', e1, w1, ?_, h', hl', dl'.mono s1⟩
          rw [upd_ne]
          · exact m'
          · intro z
            subst z
            exact hne (r.sep i j _ e l' h q q1 w1)
      · rcases set_at p1 with ⟨_, z, _⟩ | ⟨_, p1⟩
        · cases z
        · rcases set_at p2 with ⟨_, z, _⟩ | ⟨_, p2⟩
          · cases z
          · exact r.sep j j' e e' l' p1 p2
  · exact ⟨M, Same.refl M, r⟩
theorem Rel.frzAll : ∀ {is : List Nat} {M : Hp} {env : FEnv}, Rel K M0 H0 M σ env H → ∃ M', Same M M' ∧ Rel K M0 H0 M' σ (PyD.frzAll env is) H
  | [], M, env, r => ⟨M, Same.refl M, r⟩
  | i :: is, M, env, r => by
    obtain ⟨M1, s1, r1⟩ := r.frz1 i
    obtain ⟨M2, s2, r2⟩ := Rel.frzAll (is := is) r1
    exact ⟨M2, s1.trans s2, r2⟩
theorem Rel.one (r : Rel K M0 H0 M σ env H) (i : Nat) {v : V} {d : D} (h : Dat K M v d) : Rel K M0 H0 M (σ.set i (some v)) (env.set i (some (false, d))) H :=
  r.set (own := false) (Hb := H) i h r.h0 fun j e l hj h1 h2 ho => nomatch ho
theorem setAllF_len : ∀ {is : List Nat} {ds : List D} {env env' : FEnv}, bindF.setAllF is ds env = some env' → ds.length = is.length
  | [], [], _, _, _ => rfl
  | i :: is, d :: ds, env, env', h => by
    simp [setAllF_len (is := is) (ds := ds) h]
  | [], _ :: _, _, _, h => by cases h
  | _ :: _, [], _, _, h => by cases h
theorem Rel.bindS {P : L2.St → Hp → Prop} : ∀ {is : List Nat} {vs : List V} {ds : List D} {σ : L2.St} {env env' : FEnv}, Rel K M0 H0 M σ env H → DatL K M vs ds → bindF.setAllF is ds env = some env' → (∀ σ', Rel K M0 H0 M σ' env' H → P σ' H) → gSeq is vs σ H P
  | [], _, _, σ, env, env', r, .nil, q, k => by
    cases q
    exact ⟨rfl, k σ r⟩
  | i :: is, _, _, σ, env, env', r, .cons h dl, q, k => ⟨_, _, rfl, Rel.bindS (r.one i h) dl q k⟩
  | [], _, _, _, _, _, _, .cons _ _, q, _ => by cases q
  | _ :: _, _, _, _, _, _, _, .nil, q, _ => by cases q
theorem Rel.bind {t : T} {v : V} {d : D} {env' : FEnv} {P : L2.St → Hp → Prop} (r : Rel K M0 H0 M σ env H) (h : Dat K M v d) (q : bindF t d env = some env') (k : ∀ σ', Rel K M0 H0 M σ' env' H → P σ' H) : gT K t v σ H P := by
  cases t with
  | nm i =>
    cases q
    exact k _ (r.one i h)
  | tp is =>
    cases h with
    | tup h dl => exact ⟨_, _, rfl, same_t r.sub h, by rw [dl.length]; exact setAllF_len q, Rel.bindS r dl q k⟩
    | _ => cases q

/-! ### readings of statements -/
def OutOk (K : PySem.W.Frag) (M0 H0 M : Hp) (D : Ends) : Out → Prop
  | .nx env => ∀ σ' M' H', Rel K M0 H0 M' σ' env H' → Same M M' → D.nx σ' H'
  | .bk env => ∀ σ' M' H', Rel K M0 H0 M' σ' env H' → Same M M' → D.bk σ' H'
  | .ct env => ∀ σ' M' H', Rel K M0 H0 M' σ' env H' → Same M M' → D.ct σ' H'
  | .rt own d => ∀ v M' H', Xt M0 M' H0 H' → Res K M' H0 H' own v d → D.rt v H'
def tS (K : PySem.W.Frag) (Φ : Fns) (s : S) : TS := fun D σ H => ∃ M0 H0 M env out, Rel K M0 H0 M σ env H ∧ evS Φ s env = some out ∧ OutOk K M0 H0 M D out
theorem OutOk.mono {D : Ends} {M1 : Hp} {out : Out} (h : OutOk K M0 H0 M D out) (s : Same M M1) : OutOk K M0 H0 M1 D out := by
  cases out with
  | nx env => exact fun σ' M' H' r s' => h σ' M' H' r (s.trans s')
  | bk env => exact fun σ' M' H' r s' => h σ' M' H' r (s.trans s')
  | ct env => exact fun σ' M' H' r s' => h σ' M' H' r (s.trans s')
  | rt own d => exact h
theorem Rel.xt (r : Rel K M0 H0 M σ env H) : Xt M0 M H0 H := ⟨r.m0, r.h0, r.sub, r.fr⟩

section
variable {X : Cx} {x y z tg : Expr} {xs : List Expr} {a b c e : E} {pos pos' : Pos} {st : Stmt} {sts sts' : List Stmt} {s s' : S}
theorem ps_imp {t t' : TS} (h : PS X st t) (i : ∀ D σ H, t' D σ H → t D σ H) : PS X st t' := ⟨fun pins s σ H D I q => h.run pins s σ H D I (i D σ H q)⟩
theorem pss_imp {t t' : TS} (h : PSs X sts t) (i : ∀ D σ H, t' D σ H → t D σ H) : PSs X sts t' := ⟨fun pins s σ H D I q => h.run pins s σ H D I (i D σ H q)⟩

theorem w_skip : PSs X [] (tS X.K Φ .skip) := pss_imp pss_nil fun D σ H ⟨M0, H0, M, env, out, r, q, k⟩ => by
  cases q
  exact k σ M H r (Same.refl M)
theorem w_one (h : PS X st (tS X.K Φ s)) : PSs X [st] (tS X.K Φ s) := pss_one h
theorem w_cons (h1 : PS X st (tS X.K Φ s)) (h2 : PSs X sts (tS X.K Φ s')) : PSs X (st :: sts) (tS X.K Φ (.seq s s')) :=
  pss_imp (pss_cons h1 h2) fun D σ H ⟨M0, H0, M, env, out, r, q, k⟩ => by
    simp only [evS] at q
    obtain ⟨o, q1, q2⟩ := Option.bind_eq_some_iff.mp q
    refine ⟨M0, H0, M, env, o, r, q1, ?_⟩
    cases o with
    | nx env1 => exact fun σ1 M1 H1 r1 s1 => ⟨M0, H0, M1, env1, out, r1, q2, k.mono s1⟩
    | bk env1 => cases q2; exact k
    | ct env1 => cases q2; exact k
    | rt own d => cases q2; exact k
theorem w_frz {is : List Nat} (h : PSs X sts (tS X.K Φ s)) : PSs X sts (tS X.K Φ (.frz is s)) :=
  pss_imp h fun D σ H ⟨M0, H0, M, env, out, r, q, k⟩ => by
    simp only [evS] at q
    obtain ⟨M1, s1, r1⟩ := Rel.frzAll (is := is) r
    exact ⟨M0, H0, M1, _, out, r1, q, k.mono s1⟩
theorem w_frz1 {is : List Nat} (h : PS X st (tS X.K Φ s)) : PS X st (tS X.K Φ (.frz is s)) :=
  ps_imp h fun D σ H ⟨M0, H0, M, env, out, r, q, k⟩ => by
    simp only [evS] at q
    obtain ⟨M1, s1, r1⟩ := Rel.frzAll (is := is) r
    exact ⟨M0, H0, M1, _, out, r1, q, k.mono s1⟩
theorem w_never : PS X st (tS X.K Φ .never) := ps_imp ps_never fun D σ H ⟨M0, H0, M, env, out, r, q, k⟩ => by cases q
theorem w_nevers : PSs X sts (tS X.K Φ .never) := pss_imp pss_never fun D σ H ⟨M0, H0, M, env, out, r, q, k⟩ => by cases q
theorem w_brk : PS X (.Break pos) (tS X.K Φ .brk) := ps_imp ps_break fun D σ H ⟨M0, H0, M, env, out, r, q, k⟩ => by
  cases q
  exact k σ M H r (Same.refl M)
theorem w_cnt : PS X (.Continue pos) (tS X.K Φ .cnt) := ps_imp ps_continue fun D σ H ⟨M0, H0, M, env, out, r, q, k⟩ => by
  cases q
  exact k σ M H r (Same.refl M)
theorem w_pass : PS X (.Pass pos) (tS X.K Φ .skip) := ps_imp ps_pass fun D σ H ⟨M0, H0, M, env, out, r, q, k⟩ => by
  cases q
  exact k σ M H r (Same.refl M)
theorem w_doc {u : Str} {j : Nat} : PS X (.Expr (.Constant (.str u) j pos) pos') (tS X.K Φ .doc) := ps_imp ps_doc fun D σ H ⟨M0, H0, M, env, out, r, q, k⟩ => by
  cases q
  exact k σ M H r (Same.refl M)
theorem w_retN : PS X (.Return none pos) (tS X.K Φ .retN) := ps_imp ps_retN fun D σ H ⟨M0, H0, M, env, out, r, q, k⟩ => by
  cases q
  exact k _ M H r.xt .non
theorem w_ret {m : Md} (h : PE X x (tE X.K Φ m.own e)) : PS X (.Return (some x) pos) (tS X.K Φ (.ret e m)) := ps_imp (ps_ret h) fun D σ H ⟨M0, H0, M, env, out, r, q, k⟩ => by
  simp only [evS] at q
  obtain ⟨d, q1, rfl⟩ := Option.map_eq_some_iff.mp q
  exact evM_ok r q1 fun v M' H' xt res => k v M' H' (r.xt.trans xt) (res.back r.h0)
theorem join_at {α : Type} {l : List (Option α)} {i : Nat} {a : α} (h : (l[i]?).join = some a) : l[i]? = some (some a) := by
  cases e : l[i]? with
  | none => rw [e] at h; cases h
  | some o => rw [e] at h; exact congrArg some h
theorem w_retv {i : Nat} (h : PE X x (tVar i)) : PS X (.Return (some x) pos) (tS X.K Φ (.retv i)) := ps_imp (ps_ret h) fun D σ H ⟨M0, H0, M, env, out, r, q, k⟩ => by
  simp only [evS] at q
  split at q
  · rename_i d hj
    cases q
    obtain ⟨l, vs, ds, rfl, q1, ml, h0l, hl, dl⟩ := r.mu i d (join_at hj)
    exact ⟨_, q1, k _ M H r.xt ⟨l, vs, ds, rfl, rfl, h0l, hl, ml, dl⟩⟩
  · cases q
/-- x = e -/
theorem w_asg {i : Nat} {m : Md} (h : PS X st (tAsg (tE X.K Φ m.own e) (gName i))) : PS X st (tS X.K Φ (.asg i e m)) := ps_imp h fun D σ H ⟨M0, H0, M, env, out, r, q, k⟩ => by
  simp only [evS] at q
  obtain ⟨d, q1, rfl⟩ := Option.map_eq_some_iff.mp q
  exact evM_ok r q1 fun v M' H' xt res => k _ M' H' (r.asg i xt res) xt.m
/-- the same over another reading of the value -/
theorem w_asg2 {i : Nat} {m : Md} {te : TE} (h : PS X st (tAsg te (gName i))) (hw : ∀ σ H Q, tE X.K Φ m.own e σ H Q → te σ H Q) : PS X st (tS X.K Φ (.asg i e m)) := ps_imp h fun D σ H ⟨M0, H0, M, env, out, r, q, k⟩ => by
  simp only [evS] at q
  obtain ⟨d, q1, rfl⟩ := Option.map_eq_some_iff.mp q
  exact hw σ H _ (evM_ok r q1 fun v M' H' xt res => k _ M' H' (r.asg i xt res) xt.m)
/-- a, b = e -/
theorem w_asgT {is : List Nat} (h : PS X st (tAsg (tE X.K Φ false e) (gT X.K (.tp is)))) : PS X st (tS X.K Φ (.asgT is e)) := ps_imp h fun D σ H ⟨M0, H0, M, env, out, r, q, k⟩ => by
  simp only [evS] at q
  obtain ⟨d, q1, q⟩ := Option.bind_eq_some_iff.mp q
  obtain ⟨env', q2, rfl⟩ := Option.map_eq_some_iff.mp q
  exact ⟨M, _, d, (fun z => nomatch z), r.sub, r.hid, q1, fun v M' H' xt res => (r.step xt).bind (t := .tp is) res q2 fun σ' r' => k σ' M' H' r' xt.m⟩
theorem w_if {bs cs : List Stmt} (hc : PT X x (tT X.K Φ c)) (h1 : PSs X bs (tS X.K Φ s)) (h2 : PSs X cs (tS X.K Φ s')) : PS X (.If x bs cs pos) (tS X.K Φ (.iff c s s')) := ps_imp (ps_if hc h1 h2) fun D σ H ⟨M0, H0, M, env, out, r, q, k⟩ => by
  simp only [evS] at q
  obtain ⟨s1, s2, rd⟩ := r.plus
  split at q
  · rename_i hb
    refine ⟨_, _, true, s2, rd, hb, fun M' H' xt => iteT ?_⟩
    have x2 : Xt M M H H' := ⟨Same.refl M, xt.h, r.sub.trans xt.h, fun _ h => .inl h⟩
    exact ⟨M0, H0, M, env, out, r.step x2, q, k⟩
  · rename_i hb
    refine ⟨_, _, false, s2, rd, hb, fun M' H' xt => iteF ?_⟩
    have x2 : Xt M M H H' := ⟨Same.refl M, xt.h, r.sub.trans xt.h, fun _ h => .inl h⟩
    exact ⟨M0, H0, M, env, out, r.step x2, q, k⟩
  · cases q
theorem w_while (hx : X.xe = fun _ _ => False) (hc : PT X x (tT X.K Φ c)) (h1 : PSs X sts (tS X.K Φ s)) : PS X (.While x sts [] pos) (tS X.K Φ (.while_ c s)) := ps_imp (ps_while (by rw [hx]; exact PassesOwn.never) hc h1) fun D σ H ⟨M0, H0, M, env, out, r, q, k⟩ => by
  simp only [evS] at q
  obtain ⟨n, q⟩ := whAll_ex q
  refine ⟨fun m σ H => ∃ M1 env, Rel X.K M0 H0 M1 σ env H ∧ Same M M1 ∧ whGo (fun env => ev Φ c (shw env)) (fun env => evS Φ s env) m env = some out, ⟨n, M, env, r, Same.refl M, q⟩, ?_⟩
  rintro m σ1 H1 ⟨M1, env1, r1, sm1, q1⟩
  obtain ⟨s1, s2, rd⟩ := r1.plus
  cases m with
  | zero => cases q1
  | succ m =>
    simp only [whGo] at q1
    split at q1
    · rename_i hb
      refine ⟨_, _, true, s2, rd, hb, fun M' H' xt => iteT ?_⟩
      have x2 : Xt M1 M1 H1 H' := ⟨Same.refl M1, xt.h, r1.sub.trans xt.h, fun _ h => .inl h⟩
      refine ⟨fun σ' H'' => ∃ M2 env2, Rel X.K M0 H0 M2 σ' env2 H'' ∧ Same M M2 ∧ whGo (fun env => ev Φ c (shw env)) (fun env => evS Φ s env) m env2 = some out, fun σ' H'' h => ⟨m, Nat.lt_succ_self m, h⟩, ?_⟩
      split at q1
      · rename_i e hs
        exact ⟨M0, H0, M1, env1, .nx e, r1.step x2, hs, fun σ' M' H' r' s' => ⟨M', e, r', sm1.trans s', q1⟩⟩
      · rename_i e hs
        exact ⟨M0, H0, M1, env1, .ct e, r1.step x2, hs, fun σ' M' H' r' s' => ⟨M', e, r', sm1.trans s', q1⟩⟩
      · rename_i e hs
        cases q1
        exact ⟨M0, H0, M1, env1, .bk e, r1.step x2, hs, fun σ' M' H' r' s' => k σ' M' H' r' (sm1.trans s')⟩
      · rename_i o d hs
        cases q1
        exact ⟨M0, H0, M1, env1, .rt o d, r1.step x2, hs, k⟩
      · cases q1
    · rename_i hb
      cases q1
      refine ⟨_, _, false, s2, rd, hb, fun M' H' xt => iteF ?_⟩
      have x2 : Xt M1 M1 H1 H' := ⟨Same.refl M1, xt.h, r1.sub.trans xt.h, fun _ h => .inl h⟩
      exact k σ1 M1 H' (r1.step x2) sm1
    · cases q1
/-- the loop itself -/
theorem forW {t : T} {J : It} {xs : List D} {D : Ends} {Mi : Hp} {out : Out} (r : Rel X.K M0 H0 M σ env H) (ok : ItOk X.K Mi J xs) (smi : Same Mi M) (q : forGo (fun x env => bindF t x env) (fun env => evS Φ s env) xs env = some out) (k : OutOk X.K M0 H0 M D out) :
    ∃ W : Nat → Nat → L2.St → Hp → Prop, (∃ m, W 0 m σ H) ∧ ∀ i m σ H, W i m σ H →
      (J.stop i H ∧ D.nx σ H) ∨ (J.go i H ∧ ∃ N : L2.St → Hp → Prop, (∀ σ' H', N σ' H' → ∃ m', m' < m ∧ W (i + 1) m' σ' H') ∧ ∀ x H', J.yld i H x H' → gT X.K t x σ H' fun σ2 H2 => tS X.K Φ s { D with nx := N, ct := N, bk := D.nx } σ2 H2) := by
  refine for_it ok (fun i σ H => ∃ M1 env1, Rel X.K M0 H0 M1 σ env1 H ∧ Same M M1 ∧ Same Mi M1 ∧ forGo (fun x env => bindF t x env) (fun env => evS Φ s env) (xs.drop i) env1 = some out) ⟨M, env, r, Same.refl M, smi, by rw [List.drop_zero]; exact q⟩ ?_ ?_ ?_
  · rintro i σ1 H1 hi ⟨M1, env1, r1, s1, s2, _⟩
    exact ⟨M1, s2, r1.sub⟩
  · rintro i v σ1 H1 H2 hi ⟨M1, env1, r1, s1, s2, q1⟩ y
    obtain ⟨d, M2, q3, x2, res⟩ := y M1 s2 r1.sub
    rw [List.drop_eq_getElem_cons hi] at q1
    have ed : xs[i] = d := by rw [List.getElem?_eq_getElem hi] at q3; exact Option.some.inj q3
    rw [ed] at q1
    simp only [forGo] at q1
    obtain ⟨env2, q4, q1⟩ := Option.bind_eq_some_iff.mp q1
    refine (r1.step x2).bind res q4 fun σ2 r2 => ?_
    have s12 := s1.trans x2.m
    split at q1
    · rename_i e hs
      exact ⟨M0, H0, M2, env2, .nx e, r2, hs, fun σ' M' H' r' s' => ⟨M', e, r', s12.trans s', s2.trans (x2.m.trans s'), q1⟩⟩
    · rename_i e hs
      exact ⟨M0, H0, M2, env2, .ct e, r2, hs, fun σ' M' H' r' s' => ⟨M', e, r', s12.trans s', s2.trans (x2.m.trans s'), q1⟩⟩
    · rename_i e hs
      cases q1
      exact ⟨M0, H0, M2, env2, .bk e, r2, hs, fun σ' M' H' r' s' => k σ' M' H' r' (s12.trans s')⟩
    · rename_i o d hs
      cases q1
      exact ⟨M0, H0, M2, env2, .rt o d, r2, hs, k⟩
    · cases q1
  · rintro σ1 H1 ⟨M1, env1, r1, s1, s2, q1⟩
    rw [List.drop_length] at q1
    cases q1
    exact k σ1 M1 H1 r1 s1
/-- a for over what is frozen -/
theorem w_for {t : T} {it : E} (hx : X.xe = fun _ _ => False) (hc : X.calm = true) (hi : PI X tg x (tI X.K Φ it)) (hg : PG X tg (gT X.K t)) (hb : PSs X sts (tS X.K Φ s)) (hs : ∀ v, foldedSetIterable x X.env v = pure v)
    (hit : ∀ a b, it ≠ .rng1 a ∧ it ≠ .rng2 a b) : PS X (.For tg x sts [] pos) (tS X.K Φ (.for_ t it s)) := ps_imp (ps_for (by rw [hx]; exact PassesOwn.never) hc hi hg hb hs) fun D σ H ⟨M0, H0, M, env, out, r, q, k⟩ => by
  have q' : ((ev Φ it (hid env)).bind asSeq).bind (fun xs => forGo (fun x env => bindF t x env) (fun env => evS Φ s env) xs env) = some out := by
    cases it <;> first | exact q | exact absurd rfl (hit _ .nil).1 | exact absurd rfl (hit .nil _).2 | exact absurd rfl (hit _ _).2
  obtain ⟨ds, q1, q2⟩ := Option.bind_eq_some_iff.mp q'
  exact ⟨M, _, ds, r.sub, r.hid, q1, fun J M' H' xt ok => forW (r.step xt) ok (Same.refl _) q2 (k.mono xt.m)⟩
/-- a for over a range: the bounds may look into own lists -/
theorem w_forR {t : T} {it : E} (hx : X.xe = fun _ _ => False) (hc : X.calm = true) (hi : PI X tg x (tIR X.K Φ it)) (hg : PG X tg (gT X.K t)) (hb : PSs X sts (tS X.K Φ s)) (hs : ∀ v, foldedSetIterable x X.env v = pure v)
    (hit : (∃ a, it = .rng1 a) ∨ ∃ a b, it = .rng2 a b) : PS X (.For tg x sts [] pos) (tS X.K Φ (.for_ t it s)) := ps_imp (ps_for (by rw [hx]; exact PassesOwn.never) hc hi hg hb hs) fun D σ H ⟨M0, H0, M, env, out, r, q, k⟩ => by
  have q' : ((ev Φ it (shw env)).bind asSeq).bind (fun xs => forGo (fun x env => bindF t x env) (fun env => evS Φ s env) xs env) = some out := by
    rcases hit with ⟨a, rfl⟩ | ⟨a, b, rfl⟩ <;> exact q
  obtain ⟨ds, q1, q2⟩ := Option.bind_eq_some_iff.mp q'
  obtain ⟨s1, s2, rd⟩ := r.plus
  refine ⟨_, _, ds, s2, rd, q1, fun a b M' H' xt e => ?_⟩
  obtain ⟨x2, ht⟩ := r.minus xt
  subst e
  exact forW (r.step x2) it_range (Same.refl _) q2 (k.mono x2.m)

/-! ### own lists -/
theorem Rel.own {i : Nat} {d : D} (r : Rel K M0 H0 M σ env H) (h : (env[i]?).join = some (true, d)) : ∃ l vs ds, d = .lst ds ∧ env[i]? = some (some (true, .lst ds)) ∧ σ[i]? = some (some (.ref l)) ∧ H l = some (.lst vs) ∧ DatL K M vs ds := by
  obtain ⟨l, vs, ds, rfl, q1, _, _, hl, dl⟩ := r.mu i d (join_at h)
  exact ⟨l, vs, ds, rfl, join_at h, q1, hl, dl⟩
/-- xs.append(e) -/
theorem w_app {i : Nat} {m : Md} (hm : m.own = false) (h : PS X st (tDrop (tBM X.K "list" rAppend (tVar i) (tCons (tE X.K Φ false e) tNil)))) : PS X st (tS X.K Φ (.app i e m)) := ps_imp h fun D σ H ⟨M0, H0, M, env, out, r, q, k⟩ => by
  simp only [evS] at q
  split at q
  · rename_i xs hj
    obtain ⟨d, q1, q2⟩ := Option.bind_eq_some_iff.mp q
    split at q2
    · rename_i hl
      cases q2
      obtain ⟨l, vs, ds, e1, h1, q3, hll, dl⟩ := r.own hj
      cases e1
      refine ⟨_, q3, .inl ⟨rfl, _, SqL.of hll⟩, ?_⟩
      have hk : tE X.K Φ m.own e σ H fun v H' => rAppend (.ref l) [v] H' fun _ H2 => D.nx σ H2 := evM_ok r q1 fun v M' H' xt res => by
        rw [hm] at res
        refine ⟨l, vs, v, rfl, rfl, xt.h _ _ hll, LIM_lt (by rw [dl.length]; exact hl), ?_⟩
        exact k _ M' _ ((r.step xt).put h1 q3 ((dl.mono xt.m).append (.cons res .nil))) xt.m
      rw [hm] at hk
      exact hk
    · cases q2
  · cases q
/-- xs[k] = e -/
theorem w_setI {i : Nat} {m : Md} (hm : m.own = false) (h : PS X st (tAsg (tE X.K Φ false e) (gSub (tVar i) (tE X.K Φ false a) rSetL))) : PS X st (tS X.K Φ (.setI i a e m)) := ps_imp h fun D σ H ⟨M0, H0, M, env, out, r, q, k⟩ => by
  simp only [evS] at q
  split at q
  · rename_i xs hj
    obtain ⟨d, q1, q2⟩ := Option.bind_eq_some_iff.mp q
    obtain ⟨z, q3, q4⟩ := Option.bind_eq_some_iff.mp q2
    obtain ⟨l, vs, ds, e1, h1, q5, hll, dl⟩ := r.own hj
    cases e1
    have hk : tE X.K Φ m.own e σ H fun v H' => gSub (tVar i) (tE X.K Φ false a) rSetL v σ H' D.nx := evM_ok r q1 fun v M' H' xt res => by
      rw [hm] at res
      have r1 := r.step xt
      refine ⟨_, q5, ?_⟩
      refine evM_ok (m := { sh := true }) r1 q3 fun w M2 H2 xt2 res2 => ?_
      have r2 := r1.step xt2
      cases res2 with
      | int zz =>
        simp only [] at q4
        obtain ⟨n, q6, rfl⟩ := Option.map_eq_some_iff.mp q4
        refine ⟨l, vs, zz, n, rfl, rfl, (xt.trans xt2).h _ _ hll, by rw [dl.length]; exact q6, ?_⟩
        exact k _ M2 _ (r2.put h1 q5 (DatL.set (Dat.mono xt2.m res) n (dl.mono (xt.trans xt2).m))) (xt.trans xt2).m
      | _ => cases q4
    rw [hm] at hk
    exact hk
  · cases q
theorem ixN_seq' {n : Nat} {k : Int} {j : Nat} (h : PyD.ixN n k = some j) (hn : n ≤ LIM) : seqIndex? k n = some j ∧ -(2 ^ 63) ≤ k ∧ k < 2 ^ 63 := by
  obtain ⟨h1, h2, h3, h4⟩ := L2.ixN_seq (show L2.ixN n k = some j from h)
  have e : LIM = 1000000 := rfl
  exact ⟨h1, by omega, by omega⟩
/-- xs.append(ys.pop(k)) -/
theorem w_appPop {i j : Nat} (h : PS X st (tDrop (tBM X.K "list" rAppend (tVar i) (tCons (tBM X.K "list" rPopAt (tVar j) (tCons (tE X.K Φ false e) tNil)) tNil)))) : PS X st (tS X.K Φ (.appPop i j e)) := ps_imp h fun D σ H ⟨M0, H0, M, env, out, r, q, k⟩ => by
  simp only [evS] at q
  split at q
  · rename_i xs ys hj hj2
    obtain ⟨d, q1, q2⟩ := Option.bind_eq_some_iff.mp q
    obtain ⟨l, vs, ds, e1, h1, q3, hll, dl⟩ := r.own hj
    cases e1
    obtain ⟨l2, vs2, ds2, e1, h2, q4, hll2, dl2⟩ := r.own hj2
    cases e1
    refine ⟨_, q3, .inl ⟨rfl, _, SqL.of hll⟩, ?_⟩
    refine ⟨_, q4, .inl ⟨rfl, _, SqL.of hll2⟩, ?_⟩
    refine evM_ok (m := { sh := true }) r q1 fun w M2 H2 xt2 res2 => ?_
    cases res2 with
    | int z =>
      simp only [] at q2
      obtain ⟨n, q5, q6⟩ := Option.bind_eq_some_iff.mp q2
      obtain ⟨y, q7, q8⟩ := Option.bind_eq_some_iff.mp q6
      split at q8
      · rename_i hc
        cases q8
        obtain ⟨hc1, hc2, hc3⟩ := hc
        obtain ⟨v, q9, q10⟩ := dl2.get q7
        obtain ⟨b1, b2, b3⟩ := ixN_seq' q5 hc2
        have r1 := r.step xt2
        have hne : l ≠ l2 := fun z => hc3 (r.sep i j _ _ l h1 h2 q3 (by rw [z]; exact q4))
        refine ⟨l2, vs2, z, n, v, rfl, rfl, xt2.h _ _ hll2, b2, b3, by rw [dl2.length]; exact b1, q9, ?_⟩
        have r2 := r1.put h2 q4 ((dl2.mono xt2.m).erase n)
        have hi2 : (env.set j (some (true, PyD.D.lst (ys.eraseIdx n))))[i]? = some (some (true, .lst xs)) := by rw [List.getElem?_set_ne (Ne.symm hc3)]; exact h1
        refine ⟨l, vs, v, rfl, rfl, by rw [upd_ne hne]; exact xt2.h _ _ hll, LIM_lt (by rw [dl.length]; exact hc1), ?_⟩
        exact k _ M2 _ (r2.put hi2 q3 ((dl.mono xt2.m).append (.cons (q10.mono xt2.m) .nil))) xt2.m
      · cases q8
    | _ => cases q2
  · cases q
/-- x op= e, two intsOf -/
theorem w_aug {i : Nat} {o : Op} {r0 : R2} (hr : ∀ (z y w : Int) (H : Hp) (Q : VK), binD o (.int z) (.int y) = some (.int w) → Q (.int w) H → r0 (.int z) (.int y) H Q) (ho : ∀ z y w, binD o (.int z) (.int y) = some w → ∃ u, w = .int u)
    (h : PS X st (tAug i (tE X.K Φ false e) r0)) : PS X st (tS X.K Φ (.aug i o e)) := ps_imp h fun D σ H ⟨M0, H0, M, env, out, r, q, k⟩ => by
  simp only [evS] at q
  split at q
  · rename_i z hj
    obtain ⟨d, q1, q2⟩ := Option.bind_eq_some_iff.mp q
    obtain ⟨v, q3, q4⟩ := r.im i _ (join_at hj)
    cases q4
    refine ⟨_, q3, ?_⟩
    refine evM_ok (m := { sh := true }) r q1 fun w M2 H2 xt2 res2 => ?_
    cases res2 with
    | int y =>
      simp only [] at q2
      obtain ⟨u, q5, rfl⟩ := Option.map_eq_some_iff.mp q2
      obtain ⟨u', rfl⟩ := ho z y u q5
      exact hr z y u' H2 _ q5 (k _ M2 H2 ((r.step xt2).one i (.int u')) xt2.m)
    | _ => cases q2
  · cases q
/-- a, b = e1, e2 -/
theorem w_par {i j : Nat} {m m' : Md} {ta : TA} (hij : i ≠ j) (h : PS X st (tPar i j ta)) (ht : ∀ σ H Q, tE X.K Φ m.own a σ H (fun v H1 => tE X.K Φ m'.own b σ H1 fun w H2 => Q [v, w] H2) → ta σ H Q) : PS X st (tS X.K Φ (.par i j a b m m')) := ps_imp h fun D σ H ⟨M0, H0, M, env, out, r, q, k⟩ => by
  simp only [evS] at q
  obtain ⟨d, q1, q⟩ := Option.bind_eq_some_iff.mp q
  obtain ⟨d', q2, rfl⟩ := Option.map_eq_some_iff.mp q
  refine ht σ H _ (evM_ok r q1 fun v M1 H1 xt1 res1 => evM_ok (r.step xt1) q2 fun w M2 H2 xt2 res2 => ⟨v, w, rfl, ?_⟩)
  have r1 := r.step xt1
  have r2 := r1.step xt2
  have res1' : Res X.K M2 H H2 m.own v d := by
    cases ho : m.own with
    | false =>
      rw [ho] at res1
      exact Dat.mono xt2.m res1
    | true =>
      rw [ho] at res1
      obtain ⟨l, vs, ds, e1, e2, hl, h1, m1, dl⟩ := res1
      exact ⟨l, vs, ds, e1, e2, hl, xt2.h _ _ h1, no_D xt2 m1 h1, dl.mono xt2.m⟩
  have r3 := r2.set i res1' r.h0 (fun j' e l hj h1 h2 ho hv => by
    rw [ho] at res1
    obtain ⟨l', vs, ds, e1, e2, hl, _⟩ := res1
    rw [hv] at e1
    cases e1
    obtain ⟨_, _, vs', hl'⟩ := r.muNone ⟨j', e, h1, h2⟩
    rw [hl] at hl'
    cases hl')
  refine k _ M2 H2 (r3.set j res2 r1.h0 fun j' e l hj h1 h2 ho hv => ?_) (xt1.m.trans xt2.m)
  rw [ho] at res2
  obtain ⟨l', vs, ds, e1, e2, hl, _⟩ := res2
  rw [hv] at e1
  cases e1
  rcases set_at h1 with ⟨rfl, q3, hlen⟩ | ⟨hne, q3⟩
  · have hown : m.own = true := congrArg Prod.fst (Option.some.inj q3)
    rw [hown] at res1
    obtain ⟨l2, vs2, ds2, e3, e4, hl2, h3, _⟩ := res1
    rw [List.getElem?_set_self (by rw [r.len]; exact hlen)] at h2
    rw [e3] at h2
    cases h2
    rw [hl] at h3
    cases h3
  · rw [List.getElem?_set_ne hne] at h2
    obtain ⟨_, _, vs', hl'⟩ := r1.muNone ⟨j', e, q3, h2⟩
    rw [hl] at hl'
    cases hl'
end
end
end PyD

/-! The checker, and what it is worth. -/
namespace PyD
open PySem L2 RZ

/-! ### shapes -/
def plainX : Expr → Bool
  | .Starred _ _ => false
  | .Slice _ _ _ _ => false
  | .Set _ _ _ => false
  | _ => true
def isComp : Expr → Bool
  | .ListComp _ _ _ _ => true
  | .SetComp _ _ _ _ => true
  | .DictComp _ _ _ _ _ => true
  | _ => false
def isBO : Expr → Bool
  | .BoolOp _ _ _ => true
  | _ => false
theorem star_of {x : Expr} {xs : List Expr} {env : PySem.Env} (h : plainX x = true) : starEach (x :: xs) env = (false, eval x env) :: starEach xs env := by
  cases x <;> first | rfl | cases h
theorem fold_of {x : Expr} {env : PySem.Env} (h : plainX x = true) : ∀ v, foldedSetIterable x env v = pure v := by
  intro v
  cases x <;> first | rfl | cases h
theorem ix_of {x : Expr} (h : plainX x = true) : PlainIx x := by
  intro o i
  cases x <;> first | rfl | cases h
def plainAll (xs : List Expr) : Bool := xs.all plainX
theorem any_of {pos : Pos} {env : PySem.Env} : ∀ {xs : List Expr}, plainAll xs = true → (backTo pos (starEach xs env)).any (·.1) = false
  | [], _ => rfl
  | x :: xs, h => by
    simp only [plainAll, List.all_cons, Bool.and_eq_true] at h
    rw [star_of h.1]
    show (false || (backTo pos (starEach xs env)).any (·.1)) = false
    rw [Bool.false_or]
    exact any_of (xs := xs) h.2
theorem swaps_of {x : Expr} {t : Option Expr} {l : Nat} {env : PySem.Env} (h : isComp x = false) : swapsWith x t l env = pure false := by
  cases x <;> first | rfl | cases h
theorem block_of {env : PySem.Env} (h : env.scope.kind = .function) : env.blockKind = .function := by
  unfold Env.blockKind
  rw [h]
  rfl
/-- whether a comprehension is stored straight into the name -/
def swB (sc : Scope) (y : Str) (py : Pos) (s : Scope) (p : Pos) : Bool :=
  (match sc.names.lookup y with | some .local => true | _ => false) && (py.line == p.line) && !(s.names.any fun (n, k) => n == y && (k == .local || k == .cell))
theorem swapsLc {elt : Expr} {gs : List Comprehension} {s : Scope} {p py : Pos} {y : Str} {l : Nat} {env : PySem.Env} (hk : env.scope.kind = .function) : swapsWith (.ListComp elt gs s p) (some (.Name y py)) l env = pure (swB env.scope y py s p) := by
  unfold swapsWith swB
  simp only [block_of hk, Expr.pos]
  have e : (env.kindOf y == some NameKind.local) = (match env.scope.names.lookup y with | some .local => true | _ => false) := by
    show (env.scope.names.lookup y == some NameKind.local) = _
    cases env.scope.names.lookup y with
    | none => rfl
    | some k => cases k <;> rfl
  rw [e]
  show pure (true && _ && _ && _) = pure _
  rw [Bool.true_and]

/-! ### names -/
def isV (sc : Scope) (x : Str) : Bool := match sc.names.lookup x with
  | some .local => true
  | some .cell => true
  | some .free => true
  | _ => false
def isG (sc : Scope) (x : Str) : Bool := match sc.names.lookup x with
  | some .globalImplicit => true
  | _ => false
def okNm (x : Str) : Bool := !(x == ("__debug__" : Str)) && !(x == ("__classdict__" : Str))
theorem vis_of {sc : Scope} {x : Str} (h : isV sc x = true) : Vis sc x := by
  unfold isV at h
  split at h
  · exact .inl (by assumption)
  · exact .inr (.inl (by assumption))
  · exact .inr (.inr (by assumption))
  · cases h
theorem gl_of {X : Cx} {sc : Scope} {x : Str} (e : X.env.scope = sc) (h : isG sc x = true) : Gl X x := by
  unfold isG at h
  split at h
  · show X.env.scope.names.lookup x = some .globalImplicit
    rw [e]
    assumption
  · cases h
/-- a name that is stored -/
def isSt (sc : Scope) (fb : Str → Bool) (x : Str) : Bool := match sc.names.lookup x with
  | some .local => true
  | some .cell => fb x
  | _ => false
theorem st_of {X : Cx} {sc : Scope} {fb : Str → Bool} {x : Str} (e : X.env.scope = sc) (hf : ∀ x, fb x = true → X.fn x = true) (h : isSt sc fb x = true) : Loc X.env.scope x ∧ (X.fn x = true ∨ X.env.scope.names.lookup x = some .local) := by
  unfold isSt at h
  rw [e]
  split at h
  · rename_i q
    exact ⟨.inl q, .inr q⟩
  · rename_i q
    exact ⟨.inr q, .inl (hf x h)⟩
  · cases h

/-! ### targets -/
def chkTs (C : Ck) (sc : Scope) (fb : Str → Bool) : List Nat → List Expr → Bool
  | [], [] => true
  | i :: is, .Name x _ :: xs => decide (C.N[i]? = some x) && isSt sc fb x && chkTs C sc fb is xs
  | _, _ => false
def chkT (C : Ck) (sc : Scope) (fb : Str → Bool) : T → Expr → Bool
  | .nm i, .Name x _ => decide (C.N[i]? = some x) && isSt sc fb x
  | .tp is, .Tuple xs _ _ => chkTs C sc fb is xs
  | _, _ => false
section
variable {C : Ck} {n : Nat} {sc : Scope} {fb : Str → Bool} {X : Cx}
theorem pg_nm {i : Nat} {x : Str} {pos : Pos} (G : Gd C n sc fb X) (h1 : C.N[i]? = some x) (h2 : isSt sc fb x = true) : PG X (.Name x pos) (gName i) := by
  obtain ⟨a, b⟩ := st_of G.sc G.fnb h2
  exact pg_name (by rw [G.hN]; exact G.nd) (by rw [G.hN]; exact h1) a b
theorem pgs_of (G : Gd C n sc fb X) : ∀ {is : List Nat} {xs : List Expr}, chkTs C sc fb is xs = true → PGs X xs (gSeq is) ∧ (assignEach xs X.env).length = is.length ∧ (assignEach xs X.env).findIdx? (·.1) = none
  | [], [], _ => ⟨pgs_nil, rfl, rfl⟩
  | i :: is, .Name x p :: xs, h => by
    simp only [chkTs, Bool.and_eq_true, decide_eq_true_eq] at h
    obtain ⟨h1, h2, h3⟩ := pgs_of G (is := is) (xs := xs) h.2
    refine ⟨pgs_cons (pg_nm G h.1.1 h.1.2) h1 rfl, ?_, ?_⟩
    · show (assignEach xs X.env).length + 1 = _
      rw [h2]
      rfl
    · show ((false, assign (.Name x p) X.env) :: assignEach xs X.env).findIdx? (·.1) = none
      rw [List.findIdx?_cons, h3]
      rfl
theorem pg_of (G : Gd C n sc fb X) {t : T} {x : Expr} (h : chkT C sc fb t x = true) : PG X x (gT X.K t) := by
  cases t with
  | nm i =>
    cases x <;> first | cases h | skip
    simp only [chkT, Bool.and_eq_true, decide_eq_true_eq] at h
    exact pg_nm G h.1 h.2
  | tp is =>
    cases x <;> first | cases h | skip
    obtain ⟨h1, h2, h3⟩ := pgs_of G (show chkTs C sc fb is _ = true from h)
    exact pg_tup G.calm h1 h2 h3
end

/-! ### expressions -/
def freshE (tb : List Fn) : E → Bool
  | .lst _ => true
  | .lc _ _ _ _ => true
  | .lc2 _ _ _ _ _ _ _ => true
  | .lrng _ => true
  | .bin .add _ _ => true
  | .bin .mul _ _ => true
  | .bi .list _ => true
  | .sl _ _ _ => true
  | .call f _ => (tb[f]?).elim false (·.fr)
  | .ite _ a b => freshE tb a && freshE tb b
  | _ => false
def okT : E → Bool
  | .ite _ _ _ => false
  | .and a b => okT a && okT b
  | .or a b => okT a && okT b
  | .not a => okT a
  | .one a => okT a
  | .nil => false
  | .cons _ _ => false
  | .rng1 _ => false
  | .rng2 _ _ => false
  | .enu _ => false
  | .zip _ _ => false
  | _ => true

inductive Tg | e (x : Expr) | a (xs : List Expr) | i (tx x : Expr)
def Tg.val : Tg → Option Expr
  | .e x => some x
  | .i _ x => if plainX x then some x else none
  | .a _ => none
def isTupX : Expr → Bool
  | .Tuple _ _ _ => true
  | _ => false
def binOf : Op → Option Operator
  | .add => some .Add | .sub => some .Sub | .mul => some .Mult | .fdiv => some .FloorDiv | .mod => some .Mod | .pow => some .Pow
  | _ => none
/-- a comprehension's own names, by their places -/
def ownOf (N : List Str) (is : List Nat) : List (Str × Nat) := is.map fun i => ((N[i]?).getD "", i)
def cellIn (s : Scope) : Str → Bool := fun x => s.names.lookup x == some .cell

def isTrueE : E → Bool
  | .bl b => b
  | _ => false
def isRg : E → Bool
  | .rng1 _ => true
  | .rng2 _ _ => true
  | _ => false
def chk (C : Ck) : E → Scope → (Str → Bool) → Tg → Bool
  | .var i, sc, _, t => match t.val with
    | some (.Name x _) => decide (C.N[i]? = some x) && isV sc x && okNm x
    | _ => false
  | .int n, _, _, t => match t.val with
    | some (.Constant (.int m) _ _) => decide (n = m)
    | _ => false
  | .bl b, _, _, t => match t.val with
    | some (.Constant (.bool c) _ _) => decide (b = c)
    | _ => false
  | .non, _, _, t => match t.val with
    | some (.Constant .none _ _) => true
    | _ => false
  | .str s, _, _, t => match t.val with
    | some (.Constant (.str u) _ _) => decide (s = u)
    | _ => false
  | .neg a, sc, fb, t => match t.val with
    | some (.UnaryOp .USub x _) => chk C a sc fb (.e x)
    | _ => false
  | .bin o a b, sc, fb, t => match t.val with
    | some (.BinOp x op y _) => decide (binOf o = some op) && chk C a sc fb (.e x) && chk C b sc fb (.e y)
    | _ => false
  | .cmp o a b, sc, fb, t => match t.val with
    | some (.Compare x [op] [y] _) => decide (cmpOf o = some op) && chk C a sc fb (.e x) && chk C b sc fb (.e y) && !(behindInMarks op y)
    | _ => false
  | .chain o o' a b c, sc, fb, t => match t.val with
    | some (.Compare x [op, op'] [y, z] _) => decide (cmpOf o = some op) && decide (cmpOf o' = some op') && chk C a sc fb (.e x) && chk C b sc fb (.e y) && chk C c sc fb (.e z) && !(lastMarks [op, op'] [y, z])
    | _ => false
  | .isN a, sc, fb, t => match t.val with
    | some (.Compare x [.Is] [.Constant .none _ _] _) => chk C a sc fb (.e x)
    | _ => false
  | .notN a, sc, fb, t => match t.val with
    | some (.Compare x [.IsNot] [.Constant .none _ _] _) => chk C a sc fb (.e x)
    | _ => false
  | .and a b, sc, fb, t => match t.val with
    | some (.BoolOp .And (x :: y :: r) p) => chk C a sc fb (.e x) && chk C b sc fb (.e (.BoolOp .And (y :: r) p))
    | _ => false
  | .or a b, sc, fb, t => match t.val with
    | some (.BoolOp .Or (x :: y :: r) p) => chk C a sc fb (.e x) && chk C b sc fb (.e (.BoolOp .Or (y :: r) p))
    | _ => false
  | .one a, sc, fb, t => match t.val with
    | some (.BoolOp _ [x] _) => chk C a sc fb (.e x)
    | _ => false
  | .not a, sc, fb, t => match t.val with
    | some (.UnaryOp .Not x _) => chk C a sc fb (.e x)
    | _ => false
  | .ite c a b, sc, fb, t => match t.val with
    | some (.IfExp z x y _) => okT c && chk C c sc fb (.e z) && chk C a sc fb (.e x) && chk C b sc fb (.e y)
    | _ => false
  | .nil, _, _, .a [] => true
  | .nil, _, _, _ => false
  | .cons a b, sc, fb, .a (x :: xs) => plainX x && chk C a sc fb (.e x) && chk C b sc fb (.a xs)
  | .cons _ _, _, _, _ => false
  | .tup a, sc, fb, t => match t.val with
    | some (.Tuple xs _ _) => (argsLen a).isSome && decide ((argsLen a).getD 0 ≤ LIM) && chk C a sc fb (.a xs)
    | _ => false
  | .lst a, sc, fb, t => match t.val with
    | some (.List xs _) => (argsLen a).isSome && decide ((argsLen a).getD 0 ≤ LIM) && chk C a sc fb (.a xs)
    | _ => false
  | .call f a, sc, fb, t => match t.val with
    | some (.Call (.Name x _) (y :: ys) [] _) => decide ((C.tb[f]?).map (·.name) = some x) && isG sc x && okNm x && plainAll (y :: ys) && chk C a sc fb (.a (y :: ys))
    | _ => false
  | .bi b a, sc, fb, t => match t.val with
    | some (.Call (.Name x _) (y :: ys) [] _) => decide (x = biNm b) && isG sc x && (!decide (b = .gcd) || C.gcd) && plainAll (y :: ys) && chk C a sc fb (.a (y :: ys))
    | _ => false
  | .isi a ty, sc, fb, t => match t.val with
    | some (.Call (.Name x _) [y, .Name z _] [] _) => decide (x = "isinstance") && isG sc x && decide (z = tyNm ty) && isG sc z && plainX y && chk C a sc fb (.e y)
    | _ => false
  | .idx a i, sc, fb, t => match t.val with
    | some (.Subscript x y _) => plainX y && chk C a sc fb (.e x) && chk C i sc fb (.e y)
    | _ => false
  | .sl a lo hi, sc, fb, t => match t.val with
    | some (.Subscript x (.Slice l h none _) _) => chk C a sc fb (.e x) && (match l with | none => lo.isNil | some l => !lo.isNil && chk C lo sc fb (.e l)) && (match h with | none => hi.isNil | some h => !hi.isNil && chk C hi sc fb (.e h))
    | _ => false
  | .lc tt it c e, sc, fb, t => match t.val with
    | some (.ListComp elt [⟨tx, ix, ifs, k⟩] s _) => decide (k = 0) && plainX ix && blkC C.N sc s (ownOf C.N tt.slots) && chk C it sc fb (.i tx ix) && chkT C (relS s sc) (cellIn s) tt tx &&
        (match ifs with | [] => isTrueE c | [y] => okT c && chk C c (relS s sc) (cellIn s) (.e y) | _ => false) && chk C e (relS s sc) (cellIn s) (.e elt)
    | _ => false
  | .lc2 tt it c tt' it' c' e, sc, fb, t => match t.val with
    | some (.ListComp elt [⟨tx, ix, ifs, k⟩, ⟨tx', ix', ifs', k'⟩] s _) => decide (k = 0) && decide (k' = 0) && plainX ix && plainX ix' && blkC C.N sc s (ownOf C.N (tt.slots ++ tt'.slots)) && chk C it sc fb (.i tx ix) && chkT C (relS s sc) (cellIn s) tt tx &&
        (match ifs with | [] => isTrueE c | [y] => okT c && chk C c (relS s sc) (cellIn s) (.e y) | _ => false) &&
        chk C it' (relS s sc) (cellIn s) (.i tx' ix') && chkT C (relS s sc) (cellIn s) tt' tx' &&
        (match ifs' with | [] => isTrueE c' | [y] => okT c' && chk C c' (relS s sc) (cellIn s) (.e y) | _ => false) && chk C e (relS s sc) (cellIn s) (.e elt)
    | _ => false
  | .rng1 a, sc, fb, t => match t with
    | .i _ (.Call (.Name x _) [y] [] _) => decide (x = "range") && isG sc x && plainX y && chk C a sc fb (.e y)
    | _ => false
  | .rng2 a b, sc, fb, t => match t with
    | .i _ (.Call (.Name x _) [y, z] [] _) => decide (x = "range") && isG sc x && plainX y && plainX z && chk C a sc fb (.e y) && chk C b sc fb (.e z)
    | _ => false
  | .enu a, sc, fb, t => match t with
    | .i tx (.Call (.Name x _) [y] [] _) => isTupX tx && decide (x = "enumerate") && isG sc x && plainX y && chk C a sc fb (.e y)
    | _ => false
  | .zip a b, sc, fb, t => match t with
    | .i tx (.Call (.Name x _) [y, z] [] _) => isTupX tx && decide (x = "zip") && isG sc x && plainX y && plainX z && chk C a sc fb (.e y) && chk C b sc fb (.e z)
    | _ => false
  | .lrng r, sc, fb, t => match t.val with
    | some (.Call (.Name x _) [y] [] _) => decide (x = "list") && isG sc x && plainX y && isRg r && chk C r sc fb (.i y y)
    | _ => false
  | .trng r, sc, fb, t => match t.val with
    | some (.Call (.Name x _) [y] [] _) => decide (x = "tuple") && isG sc x && plainX y && isRg r && chk C r sc fb (.i y y)
    | _ => false
end PyD

/-! What the checker accepts is read by the interpreter: expressions. -/
namespace PyD
open PySem L2 RZ

structure SndE (C : Ck) (n : Nat) (X : Cx) (sc : Scope) (fb : Str → Bool) (e : E) (x : Expr) : Prop where
  pe : PE X x (tE X.K (fns C.tb n) false e)
  fr : freshE C.tb e = true → PE X x (tE X.K (fns C.tb n) true e)
  pt : okT e = true → PT X x (tT X.K (fns C.tb n) e)
  pw : isBO x = true → okT e = true → PW X x (tT X.K (fns C.tb n) e)
  asg : ∀ (m : Md) (i : Nat) (nm : Str) (py spos : Pos), (m.own = true → freshE C.tb e = true) → C.N[i]? = some nm → isSt sc fb nm = true → PS X (.Assign [.Name nm py] x spos) (tS X.K (fns C.tb n) (.asg i e m))
def Snd (C : Ck) (n : Nat) (X : Cx) (sc : Scope) (fb : Str → Bool) (e : E) : Tg → Prop
  | .e x => SndE C n X sc fb e x
  | .a xs => PA X xs (tA X.K (fns C.tb n) e)
  | .i tx x => PI X tx x (tI X.K (fns C.tb n) e) ∧ (isRg e = true → PI X tx x (tIR X.K (fns C.tb n) e) ∧ PRg X x (tRg X.K (fns C.tb n) e))

section
variable {C : Ck} {n : Nat} {sc : Scope} {fb : Str → Bool} {X : Cx} {e : E} {x : Expr}
theorem asg_plain (G : Gd C n sc fb X) (hx : isComp x = false) (pe : PE X x (tE X.K (fns C.tb n) false e)) (fr : freshE C.tb e = true → PE X x (tE X.K (fns C.tb n) true e)) :
    ∀ (m : Md) (i : Nat) (nm : Str) (py spos : Pos), (m.own = true → freshE C.tb e = true) → C.N[i]? = some nm → isSt sc fb nm = true → PS X (.Assign [.Name nm py] x spos) (tS X.K (fns C.tb n) (.asg i e m)) := by
  intro m i nm py spos hm hi hs
  obtain ⟨a, b⟩ := st_of G.sc G.fnb hs
  have pe' : PE X x (tE X.K (fns C.tb n) m.own e) := by
    cases ho : m.own with
    | false => exact pe
    | true => exact fr (hm ho)
  exact w_asg (ps_set (by rw [G.hN]; exact G.nd) (by rw [G.hN]; exact hi) a pe' (swaps_of hx) b)
theorem mk_plain (G : Gd C n sc fb X) (hx : isComp x = false) (hb : isBO x = false) (pe : PE X x (tE X.K (fns C.tb n) false e)) (fr : freshE C.tb e = true → PE X x (tE X.K (fns C.tb n) true e))
    (ht : ∀ whole, isTrue x X.env whole = (do let v ← whole; standAt x.pos; holding [v] (truthy v))) : SndE C n X sc fb e x :=
  ⟨pe, fr, fun _ => pt_of pe ht, (fun h => nomatch hb.symm.trans h), asg_plain G hx pe fr⟩
theorem mk_test (G : Gd C n sc fb X) (hx : isComp x = false) (hb : isBO x = false) (hf : freshE C.tb e = false) (pe : PE X x (tE X.K (fns C.tb n) false e)) (pt : okT e = true → PT X x (tT X.K (fns C.tb n) e)) : SndE C n X sc fb e x :=
  ⟨pe, (fun h => nomatch hf.symm.trans h), pt, (fun h => nomatch hb.symm.trans h), asg_plain G hx pe (fun h => nomatch hf.symm.trans h)⟩

/-- the value nodes -/
theorem snd_val (H : ∀ sc fb X x, Gd C n sc fb X → chk C e sc fb (.e x) = true → SndE C n X sc fb e x) (hr : isRg e = false) (hv : ∀ sc fb t, chk C e sc fb t = true → ∃ x, t.val = some x ∧ chk C e sc fb (.e x) = true) :
    ∀ (t : Tg) sc fb X, Gd C n sc fb X → chk C e sc fb t = true → Snd C n X sc fb e t := by
  intro t sc fb X G h
  obtain ⟨x, h1, h2⟩ := hv sc fb t h
  have s := H sc fb X x G h2
  cases t with
  | e y =>
    cases h1
    exact s
  | a xs => cases h1
  | i tx y =>
    have : y = x := by
      unfold Tg.val at h1
      simp only [] at h1
      split at h1
      · exact Option.some.inj h1
      · cases h1
    subst this
    exact ⟨i_seq s.pe, fun q => nomatch hr.symm.trans q⟩
theorem val_e {x : Expr} : (Tg.e x).val = some x := rfl

theorem isL_add {Φ : Fns} {a b : E} : freshE C.tb (.bin .add a b) = true := rfl

theorem snd_var {i : Nat} (G : Gd C n sc fb X) (h : chk C (.var i) sc fb (.e x) = true) : SndE C n X sc fb (.var i) x := by
  simp only [chk, Tg.val] at h
  split at h
  · rename_i nm p he
    cases he
    simp only [Bool.and_eq_true, decide_eq_true_eq, okNm, Bool.not_eq_true'] at h
    have hv := vis_of h.1.2
    rw [← G.sc] at hv
    exact mk_plain G rfl rfl (s_var (pe_var (by rw [G.hN]; exact h.1.1) hv h.2.1 h.2.2)) (fun h => nomatch h) (fun _ => rfl)
  · cases h
theorem snd_int {k : Int} (G : Gd C n sc fb X) (h : chk C (.int k) sc fb (.e x) = true) : SndE C n X sc fb (.int k) x := by
  simp only [chk, Tg.val] at h
  split at h
  · rename_i m _ p he
    cases he
    cases of_decide_eq_true h
    exact mk_plain G rfl rfl (s_cst pe_int (fun _ => .int _) (fun _ => rfl)) (fun h => nomatch h) (fun _ => rfl)
  · cases h
theorem snd_bl {k : Bool} (G : Gd C n sc fb X) (h : chk C (.bl k) sc fb (.e x) = true) : SndE C n X sc fb (.bl k) x := by
  simp only [chk, Tg.val] at h
  split at h
  · rename_i m _ p he
    cases he
    cases of_decide_eq_true h
    exact mk_plain G rfl rfl (s_cst pe_bl (fun _ => .bl _) (fun _ => rfl)) (fun h => nomatch h) (fun _ => rfl)
  · cases h
theorem snd_non (G : Gd C n sc fb X) (h : chk C .non sc fb (.e x) = true) : SndE C n X sc fb .non x := by
  simp only [chk, Tg.val] at h
  split at h
  · rename_i _ p he
    cases he
    exact mk_plain G rfl rfl (s_cst pe_non (fun _ => .non) (fun _ => rfl)) (fun h => nomatch h) (fun _ => rfl)
  · cases h
theorem snd_str {k : Str} (G : Gd C n sc fb X) (h : chk C (.str k) sc fb (.e x) = true) : SndE C n X sc fb (.str k) x := by
  simp only [chk, Tg.val] at h
  split at h
  · rename_i m _ p he
    cases he
    cases of_decide_eq_true h
    exact mk_plain G rfl rfl (s_cst pe_str (fun _ => .str _) (fun _ => rfl)) (fun h => nomatch h) (fun _ => rfl)
  · cases h

variable {a b c : E}
/-- what the induction gives for a part -/
structure IH (C : Ck) (n : Nat) (a : E) : Prop where
  all : ∀ (t : Tg) sc fb X, Gd C n sc fb X → chk C a sc fb t = true → Snd C n X sc fb a t
theorem IH.ex (h : IH C n a) (G : Gd C n sc fb X) (q : chk C a sc fb (.e x) = true) : SndE C n X sc fb a x := h.all (.e x) sc fb X G q
theorem IH.ar {xs : List Expr} (h : IH C n a) (G : Gd C n sc fb X) (q : chk C a sc fb (.a xs) = true) : PA X xs (tA X.K (fns C.tb n) a) := h.all (.a xs) sc fb X G q

theorem snd_neg (ha : IH C n a) (G : Gd C n sc fb X) (h : chk C (.neg a) sc fb (.e x) = true) : SndE C n X sc fb (.neg a) x := by
  simp only [chk, Tg.val] at h
  split at h
  · rename_i y p he
    cases he
    exact mk_plain G rfl rfl (s_neg (ha.ex G h).pe) (fun h => nomatch h) (fun _ => rfl)
  · cases h
theorem snd_bin {o : Op} (ha : IH C n a) (hb : IH C n b) (G : Gd C n sc fb X) (h : chk C (.bin o a b) sc fb (.e x) = true) : SndE C n X sc fb (.bin o a b) x := by
  simp only [chk, Tg.val] at h
  split at h
  · rename_i y op z p he
    cases he
    simp only [Bool.and_eq_true, decide_eq_true_eq] at h
    obtain ⟨⟨h1, h2⟩, h3⟩ := h
    have pa := (ha.ex G h2).pe
    have pb := (hb.ex G h3).pe
    cases o <;> cases h1
    · exact mk_plain G rfl rfl (s_add pa pb) (fun _ => s_add pa pb) (fun _ => rfl)
    · exact mk_plain G rfl rfl (s_sub pa pb) (fun h => nomatch h) (fun _ => rfl)
    · exact mk_plain G rfl rfl (s_mul pa pb) (fun _ => s_mul pa pb) (fun _ => rfl)
    · exact mk_plain G rfl rfl (s_fdiv pa pb) (fun h => nomatch h) (fun _ => rfl)
    · exact mk_plain G rfl rfl (s_mod pa pb) (fun h => nomatch h) (fun _ => rfl)
    · exact mk_plain G rfl rfl (s_pow pa pb) (fun h => nomatch h) (fun _ => rfl)
  · cases h
theorem snd_cmp {o : Op} (ha : IH C n a) (hb : IH C n b) (G : Gd C n sc fb X) (h : chk C (.cmp o a b) sc fb (.e x) = true) : SndE C n X sc fb (.cmp o a b) x := by
  simp only [chk, Tg.val] at h
  split at h
  · rename_i y op z p he
    cases he
    simp only [Bool.and_eq_true, decide_eq_true_eq, Bool.not_eq_true'] at h
    obtain ⟨⟨⟨h1, h2⟩, h3⟩, h4⟩ := h
    obtain ⟨r, cr⟩ := cmp_all (X := X) G.hu h1
    obtain ⟨q1, q2⟩ := s_cmp cr (ha.ex G h2).pe (hb.ex G h3).pe (pos := p) h4
    exact mk_test G rfl rfl rfl q1 (fun _ => q2)
  · cases h
theorem snd_chain {o o' : Op} (ha : IH C n a) (hb : IH C n b) (hc : IH C n c) (G : Gd C n sc fb X) (h : chk C (.chain o o' a b c) sc fb (.e x) = true) : SndE C n X sc fb (.chain o o' a b c) x := by
  simp only [chk, Tg.val] at h
  split at h
  · rename_i y op op' z w p he
    cases he
    simp only [Bool.and_eq_true, decide_eq_true_eq, Bool.not_eq_true'] at h
    obtain ⟨⟨⟨⟨⟨h1, h2⟩, h3⟩, h4⟩, h5⟩, h6⟩ := h
    obtain ⟨r, cr⟩ := cmp_all (X := X) G.hu h1
    obtain ⟨r', cr'⟩ := cmp_all (X := X) G.hu h2
    obtain ⟨q1, q2⟩ := s_chain cr cr' (ha.ex G h3).pe (hb.ex G h4).pe (hc.ex G h5).pe (pos := p) h6
    exact mk_test G rfl rfl rfl q1 (fun _ => q2)
  · cases h
theorem snd_isN (ha : IH C n a) (G : Gd C n sc fb X) (h : chk C (.isN a) sc fb (.e x) = true) : SndE C n X sc fb (.isN a) x := by
  simp only [chk, Tg.val] at h
  split at h
  · rename_i y j p1 p he
    cases he
    obtain ⟨q1, q2⟩ := s_isN (ha.ex G h).pe (pos := p) (pos' := p1) (j := j)
    exact mk_test G rfl rfl rfl q1 (fun _ => q2)
  · cases h
theorem snd_notN (ha : IH C n a) (G : Gd C n sc fb X) (h : chk C (.notN a) sc fb (.e x) = true) : SndE C n X sc fb (.notN a) x := by
  simp only [chk, Tg.val] at h
  split at h
  · rename_i y j p1 p he
    cases he
    obtain ⟨q1, q2⟩ := s_notN (ha.ex G h).pe (pos := p) (pos' := p1) (j := j)
    exact mk_test G rfl rfl rfl q1 (fun _ => q2)
  · cases h
theorem snd_and (ha : IH C n a) (hb : IH C n b) (G : Gd C n sc fb X) (h : chk C (.and a b) sc fb (.e x) = true) : SndE C n X sc fb (.and a b) x := by
  simp only [chk, Tg.val] at h
  split at h
  · rename_i y z r p he
    cases he
    simp only [Bool.and_eq_true] at h
    have sa := ha.ex G h.1
    have sb := hb.ex G h.2
    have pe := s_and sa.pe sb.pe
    have pw : okT (.and a b) = true → PW X (.BoolOp .And (y :: z :: r) p) (tT X.K (fns C.tb n) (.and a b)) := fun q => by
      have q' := Bool.and_eq_true_iff.mp q
      exact st_and (sa.pt q'.1) (sb.pw rfl q'.2)
    exact ⟨pe, (fun h => nomatch h), fun q => (pw q).pt, fun _ q => pw q, asg_plain G rfl pe (fun h => nomatch h)⟩
  · cases h
theorem snd_or (ha : IH C n a) (hb : IH C n b) (G : Gd C n sc fb X) (h : chk C (.or a b) sc fb (.e x) = true) : SndE C n X sc fb (.or a b) x := by
  simp only [chk, Tg.val] at h
  split at h
  · rename_i y z r p he
    cases he
    simp only [Bool.and_eq_true] at h
    have sa := ha.ex G h.1
    have sb := hb.ex G h.2
    have pe := s_or sa.pe sb.pe
    have pw : okT (.or a b) = true → PW X (.BoolOp .Or (y :: z :: r) p) (tT X.K (fns C.tb n) (.or a b)) := fun q => by
      have q' := Bool.and_eq_true_iff.mp q
      exact st_or (sa.pt q'.1) (sb.pw rfl q'.2)
    exact ⟨pe, (fun h => nomatch h), fun q => (pw q).pt, fun _ q => pw q, asg_plain G rfl pe (fun h => nomatch h)⟩
  · cases h
theorem snd_one (ha : IH C n a) (G : Gd C n sc fb X) (h : chk C (.one a) sc fb (.e x) = true) : SndE C n X sc fb (.one a) x := by
  simp only [chk, Tg.val] at h
  split at h
  · rename_i op y p he
    cases he
    have sa := ha.ex G h
    have pe := s_one (op := op) (pos := p) sa.pe
    have pw : okT (.one a) = true → PW X (.BoolOp op [y] p) (tT X.K (fns C.tb n) (.one a)) := fun q => st_one (by cases op <;> simp) (sa.pt q)
    exact ⟨pe, (fun h => nomatch h), fun q => (pw q).pt, fun _ q => pw q, asg_plain G rfl pe (fun h => nomatch h)⟩
  · cases h
theorem snd_not (ha : IH C n a) (G : Gd C n sc fb X) (h : chk C (.not a) sc fb (.e x) = true) : SndE C n X sc fb (.not a) x := by
  simp only [chk, Tg.val] at h
  split at h
  · rename_i y p he
    cases he
    have sa := ha.ex G h
    exact mk_test G rfl rfl rfl (s_not sa.pe) (fun q => st_not (sa.pt q))
  · cases h
theorem snd_ite (hc : IH C n c) (ha : IH C n a) (hb : IH C n b) (G : Gd C n sc fb X) (h : chk C (.ite c a b) sc fb (.e x) = true) : SndE C n X sc fb (.ite c a b) x := by
  simp only [chk, Tg.val] at h
  split at h
  · rename_i z y w p he
    cases he
    simp only [Bool.and_eq_true] at h
    obtain ⟨⟨⟨h0, h1⟩, h2⟩, h3⟩ := h
    have sc' := (hc.ex G h1).pt h0
    have sa := ha.ex G h2
    have sb := hb.ex G h3
    have pe := s_ite (pos := p) sc' sa.pe sb.pe
    have fr : freshE C.tb (.ite c a b) = true → PE X (.IfExp z y w p) (tE X.K (fns C.tb n) true (.ite c a b)) := fun q => by
      have q' := Bool.and_eq_true_iff.mp q
      exact s_ite sc' (sa.fr q'.1) (sb.fr q'.2)
    exact ⟨pe, fr, (fun q => nomatch q), (fun q => nomatch q), asg_plain G rfl pe fr⟩
  · cases h
theorem argsSome {a : E} (h : (argsLen a).isSome = true) : argsLen a = some ((argsLen a).getD 0) := by
  cases e : argsLen a with
  | none => rw [e] at h; cases h
  | some k => rfl
theorem snd_tup (ha : IH C n a) (G : Gd C n sc fb X) (h : chk C (.tup a) sc fb (.e x) = true) : SndE C n X sc fb (.tup a) x := by
  simp only [chk, Tg.val] at h
  split at h
  · rename_i xs k p he
    cases he
    simp only [Bool.and_eq_true, decide_eq_true_eq] at h
    exact mk_plain G rfl rfl (s_tup (argsSome h.1.1) h.1.2 (ha.ar G h.2)) (fun h => nomatch h) (fun _ => rfl)
  · cases h
theorem snd_lst (ha : IH C n a) (G : Gd C n sc fb X) (h : chk C (.lst a) sc fb (.e x) = true) : SndE C n X sc fb (.lst a) x := by
  simp only [chk, Tg.val] at h
  split at h
  · rename_i xs p he
    cases he
    simp only [Bool.and_eq_true, decide_eq_true_eq] at h
    exact mk_plain G rfl rfl (s_lst (argsSome h.1.1) h.1.2 (ha.ar G h.2)) (fun _ => s_lst (argsSome h.1.1) h.1.2 (ha.ar G h.2)) (fun _ => rfl)
  · cases h
theorem plain_cons {y : Expr} {ys : List Expr} (h : plainAll (y :: ys) = true) : plainX y = true ∧ plainAll ys = true := by
  simpa [plainAll] using h
theorem snd_call {f : Nat} (ha : IH C n a) (G : Gd C n sc fb X) (h : chk C (.call f a) sc fb (.e x) = true) : SndE C n X sc fb (.call f a) x := by
  simp only [chk, Tg.val] at h
  split at h
  · rename_i nm p1 y ys p he
    cases he
    simp only [Bool.and_eq_true, decide_eq_true_eq, okNm, Bool.not_eq_true'] at h
    obtain ⟨⟨⟨⟨h1, h2⟩, h3⟩, h4⟩, h5⟩ := h
    obtain ⟨fn, hf, rfl⟩ := Option.map_eq_some_iff.mp h1
    obtain ⟨ad, m1, m2, m3⟩ := G.fn f fn hf
    obtain ⟨p2, p3⟩ := plain_cons h4
    have pa := ha.ar G h5
    refine mk_plain G rfl rfl (s_call m3 (fun h => nomatch h) G.room (gl_of G.sc h2) m1 m2 pa h3.1 (star_of p2) (any_of p3)) (fun q => ?_) (fun _ => rfl)
    refine s_call m3 (fun _ => ?_) G.room (gl_of G.sc h2) m1 m2 pa h3.1 (star_of p2) (any_of p3)
    simpa [freshE, hf] using q
  · cases h
theorem biNm_mem (b : Bi) (h : b ≠ .gcd) : biNm b ∈ biNames := by
  cases b <;> first | exact absurd rfl h | decide
theorem snd_bi {bi : Bi} (ha : IH C n a) (G : Gd C n sc fb X) (h : chk C (.bi bi a) sc fb (.e x) = true) : SndE C n X sc fb (.bi bi a) x := by
  simp only [chk, Tg.val] at h
  split at h
  · rename_i nm p1 y ys p he
    cases he
    simp only [Bool.and_eq_true, decide_eq_true_eq, Bool.or_eq_true, Bool.not_eq_true', decide_eq_false_iff_not] at h
    obtain ⟨⟨⟨⟨rfl, h2⟩, h3⟩, h4⟩, h5⟩ := h
    obtain ⟨p2, p3⟩ := plain_cons h4
    have pa := ha.ar G h5
    have hg : bi = .gcd → X.mg "gcd" = some (.builtin "math.gcd") := fun e => by
      rcases h3 with q | q
      · exact absurd e q
      · exact G.gcd q
    have mk : ∀ fr, PE X (.Call (.Name (biNm bi) p1) (y :: ys) [] p) (tE X.K (fns C.tb n) fr (.bi bi a)) := fun fr => s_bi G.calm (gl_of G.sc h2) (fun e => G.bi _ (biNm_mem bi e)) hg pa (star_of p2) (any_of p3)
    exact mk_plain G rfl rfl (mk false) (fun _ => mk true) (fun _ => rfl)
  · cases h
theorem tyNm_mem (t : Ty) : tyNm t ∈ biNames := by cases t <;> decide
theorem snd_isi {ty : Ty} (ha : IH C n a) (G : Gd C n sc fb X) (h : chk C (.isi a ty) sc fb (.e x) = true) : SndE C n X sc fb (.isi a ty) x := by
  simp only [chk, Tg.val] at h
  split at h
  · rename_i nm p1 y z p2 p he
    cases he
    simp only [Bool.and_eq_true, decide_eq_true_eq] at h
    obtain ⟨⟨⟨⟨⟨rfl, h2⟩, rfl⟩, h4⟩, h5⟩, h6⟩ := h
    exact mk_plain G rfl rfl (s_isi (gl_of G.sc h2) (G.bi _ (by decide)) (gl_of G.sc h4) (G.bi _ (tyNm_mem ty)) (ha.ex G h6).pe (star_of h5)) (fun h => nomatch h) (fun _ => rfl)
  · cases h
theorem snd_idx (ha : IH C n a) (hb : IH C n b) (G : Gd C n sc fb X) (h : chk C (.idx a b) sc fb (.e x) = true) : SndE C n X sc fb (.idx a b) x := by
  simp only [chk, Tg.val] at h
  split at h
  · rename_i y z p he
    cases he
    simp only [Bool.and_eq_true] at h
    exact mk_plain G rfl rfl (s_idx (ha.ex G h.1.2).pe (hb.ex G h.2).pe (ix_of h.1.1)) (fun h => nomatch h) (fun _ => rfl)
  · cases h
theorem part_of {l : Option Expr} (ha : IH C n a) (G : Gd C n sc fb X) (h : (match l with | none => a.isNil | some l => !a.isNil && chk C a sc fb (.e l)) = true) : PO X l (tP X.K (fns C.tb n) a) := by
  cases l with
  | none =>
    have : a = .nil := by cases a <;> first | rfl | cases h
    subst this
    exact s_part0
  | some l =>
    simp only [Bool.and_eq_true, Bool.not_eq_true'] at h
    exact s_part h.1 (ha.ex G h.2).pe
theorem snd_sl (ha : IH C n a) (hb : IH C n b) (hc : IH C n c) (G : Gd C n sc fb X) (h : chk C (.sl a b c) sc fb (.e x) = true) : SndE C n X sc fb (.sl a b c) x := by
  simp only [chk, Tg.val] at h
  split at h
  · rename_i y l u p1 p he
    cases he
    simp only [Bool.and_eq_true] at h
    have pa := (ha.ex G h.1.1).pe
    have pb := part_of hb G h.1.2
    have pc := part_of hc G h.2
    exact mk_plain G rfl rfl (s_sl pa pb pc) (fun _ => s_sl pa pb pc) (fun _ => rfl)
  · cases h
theorem snd_lrng (ha : IH C n a) (G : Gd C n sc fb X) (h : chk C (.lrng a) sc fb (.e x) = true) : SndE C n X sc fb (.lrng a) x := by
  simp only [chk, Tg.val] at h
  split at h
  · rename_i nm p1 y p he
    cases he
    simp only [Bool.and_eq_true, decide_eq_true_eq] at h
    obtain ⟨⟨⟨⟨rfl, h2⟩, h3⟩, hr⟩, h4⟩ := h
    have pr := ((ha.all (.i y y) sc fb X G h4).2 hr).2
    have mk : ∀ fr, PE X (.Call (.Name "list" p1) [y] [] p) (tE X.K (fns C.tb n) fr (.lrng a)) := fun fr => s_lrng G.calm (gl_of G.sc h2) (G.bi _ (by decide)) pr (star_of h3)
    exact mk_plain G rfl rfl (mk false) (fun _ => mk true) (fun _ => rfl)
  · cases h
theorem snd_trng (ha : IH C n a) (G : Gd C n sc fb X) (h : chk C (.trng a) sc fb (.e x) = true) : SndE C n X sc fb (.trng a) x := by
  simp only [chk, Tg.val] at h
  split at h
  · rename_i nm p1 y p he
    cases he
    simp only [Bool.and_eq_true, decide_eq_true_eq] at h
    obtain ⟨⟨⟨⟨rfl, h2⟩, h3⟩, hr⟩, h4⟩ := h
    have pr := ((ha.all (.i y y) sc fb X G h4).2 hr).2
    exact mk_plain G rfl rfl (s_trng G.calm (gl_of G.sc h2) (G.bi _ (by decide)) pr (star_of h3)) (fun h => nomatch h) (fun _ => rfl)
  · cases h

/-! ### comprehensions -/
theorem Gd.blk {scope : Scope} (G : Gd C n sc fb X) (hk : scope.kind = .function) (s : Shared) (H : Hp) (A : Addr) (cl : List (Str × Addr)) (fp : List Addr) : Gd C n (relS scope sc) (cellIn scope) (X.blk s H scope (compEnvC scope cl A X.env) fp) where
  hN := G.hN
  nd := G.nd
  kind := hk
  sc := by
    rw [← G.sc]
    rfl
  calm := G.calm
  room := G.room
  bi := G.bi
  gcd := G.gcd
  fn := G.fn
  xe := rfl
  fnb := fun _ h => h
theorem own_slots (N : List Str) (is : List Nat) : (ownOf N is).map (·.2) = is := by
  unfold ownOf
  rw [List.map_map]
  exact List.map_id' is
theorem ifs_of {ifs : List Expr} {X : Cx} {sc : Scope} {fb : Str → Bool} (hc : IH C n c) (G : Gd C n sc fb X) (h : (match ifs with | [] => isTrueE c | [y] => okT c && chk C c sc fb (.e y) | _ => false) = true) : PTs X ifs (tT X.K (fns C.tb n) c) := by
  match ifs, h with
  | [], h =>
    have : c = .bl true := by
      cases c with
      | bl b =>
        cases b with
        | true => rfl
        | false => cases h
      | _ => cases h
    subst this
    exact tt_yes
  | [y], h =>
    have h' := Bool.and_eq_true_iff.mp h
    exact pts_one ((hc.ex G h'.2).pt h'.1)
theorem asg_comp {elt : Expr} {gs : List Comprehension} {scope : Scope} {p : Pos} (G : Gd C n sc fb X) (pe : ∀ fr, PE X (.ListComp elt gs scope p) (tE X.K (fns C.tb n) fr e))
    (set : ∀ (i : Nat) (nm : Str) (py spos : Pos) (m : Md), X.N[i]? = some nm → X.env.scope.names.lookup nm = some .local → swapsWith (.ListComp elt gs scope p) (some (.Name nm py)) spos.line X.env = pure true → PS X (.Assign [.Name nm py] (.ListComp elt gs scope p) spos) (tS X.K (fns C.tb n) (.asg i e m))) :
    ∀ (m : Md) (i : Nat) (nm : Str) (py spos : Pos), (m.own = true → freshE C.tb e = true) → C.N[i]? = some nm → isSt sc fb nm = true → PS X (.Assign [.Name nm py] (.ListComp elt gs scope p) spos) (tS X.K (fns C.tb n) (.asg i e m)) := by
  intro m i nm py spos hm hi hs
  have hk : X.env.scope.kind = .function := by rw [G.sc]; exact G.kind
  have hsw := swapsLc (elt := elt) (gs := gs) (s := scope) (p := p) (py := py) (y := nm) (l := spos.line) hk
  obtain ⟨a, b⟩ := st_of G.sc G.fnb hs
  cases hb : swB X.env.scope nm py scope p with
  | true =>
    rw [hb] at hsw
    refine set i nm py spos m (by rw [G.hN]; exact hi) ?_ hsw
    unfold swB at hb
    simp only [Bool.and_eq_true] at hb
    have hb1 := hb.1.1
    split at hb1
    · assumption
    · cases hb1
  | false =>
    rw [hb] at hsw
    exact w_asg (ps_set (by rw [G.hN]; exact G.nd) (by rw [G.hN]; exact hi) a (pe m.own) hsw b)
theorem snd_lc {t : T} {it : E} (hi : IH C n it) (hc : IH C n c) (he : IH C n e) (G : Gd C n sc fb X) (h : chk C (.lc t it c e) sc fb (.e x) = true) : SndE C n X sc fb (.lc t it c e) x := by
  simp only [chk, Tg.val] at h
  split at h
  · rename_i elt tx ix ifs k scope p hx
    cases hx
    simp only [Bool.and_eq_true, decide_eq_true_eq] at h
    obtain ⟨⟨⟨⟨⟨⟨rfl, h2⟩, h3⟩, h4⟩, h5⟩, h6⟩, h7⟩ := h
    have ok0 := blkOk_by h3
    have ok : BlkOk X.N X.env.scope scope (ownOf C.N t.slots) := by rw [G.hN, G.sc]; exact ok0
    have hN : X.N.Nodup := by rw [G.hN]; exact G.nd
    have pi := (hi.all (.i tx ix) sc fb X G h4).1
    have pg : ∀ (s : Shared) (H : Hp) (A : Addr) (cl : List (Str × Addr)) (fp : List Addr), PG (X.blk s H scope (compEnvC scope cl A X.env) fp) tx (gT X.K t) := fun s H A cl fp => pg_of (G.blk ok0.kind s H A cl fp) h5
    have pts : ∀ (s : Shared) (H : Hp) (A : Addr) (cl : List (Str × Addr)) (fp : List Addr), PTs (X.blk s H scope (compEnvC scope cl A X.env) fp) ifs (tT X.K (fns C.tb n) c) := fun s H A cl fp => ifs_of hc (G.blk ok0.kind s H A cl fp) h6
    have pel : ∀ (s : Shared) (H : Hp) (A : Addr) (cl : List (Str × Addr)) (fp : List Addr), PE (X.blk s H scope (compEnvC scope cl A X.env) fp) elt (tE X.K (fns C.tb n) false e) := fun s H A cl fp => (he.ex (G.blk ok0.kind s H A cl fp) h7).pe
    have hw : ∀ {fr : Bool} {σ : L2.St} {H : Hp} {Q : VK}, tE X.K (fns C.tb n) fr (.lc t it c e) σ H Q → tLc (tI X.K (fns C.tb n) it) (gT X.K t) (tT X.K (fns C.tb n) c) (tE X.K (fns C.tb n) false e) ((ownOf C.N t.slots).map (·.2)) σ H Q :=
      fun {fr σ H Q} q => s_lc G.calm hN pi ok (own_slots _ _) pg pts pel q
    have pe : ∀ fr, PE X (.ListComp elt [⟨tx, ix, ifs, 0⟩] scope p) (tE X.K (fns C.tb n) fr (.lc t it c e)) := fun fr => pe_imp (pe_lc G.calm hN pi ok pg pts pel (fold_of h2)) fun σ H Q q => hw q
    refine ⟨pe false, fun _ => pe true, fun _ => pt_of (pe false) (fun _ => rfl), (fun q => nomatch q), asg_comp G pe fun i nm py spos m hi hl hsw => ?_⟩
    exact w_asg2 (ps_setLc G.calm hN hi hl hsw pi ok pg pts pel (fold_of h2)) fun σ H Q q => hw q
  · cases h
theorem fold_all {x : Expr} (h : plainX x = true) : ∀ env v, foldedSetIterable x env v = pure v := fun env => fold_of h
theorem snd_lc2 {t t' : T} {it it' c' : E} (hi : IH C n it) (hc : IH C n c) (hi' : IH C n it') (hc' : IH C n c') (he : IH C n e) (G : Gd C n sc fb X) (h : chk C (.lc2 t it c t' it' c' e) sc fb (.e x) = true) : SndE C n X sc fb (.lc2 t it c t' it' c' e) x := by
  simp only [chk, Tg.val] at h
  split at h
  · rename_i elt tx ix ifs k tx' ix' ifs' k' scope p hx
    cases hx
    simp only [Bool.and_eq_true, decide_eq_true_eq] at h
    obtain ⟨⟨⟨⟨⟨⟨⟨⟨⟨⟨⟨rfl, rfl⟩, h2⟩, h2'⟩, h3⟩, h4⟩, h5⟩, h6⟩, h4'⟩, h5'⟩, h6'⟩, h7⟩ := h
    have ok0 := blkOk_by h3
    have ok : BlkOk X.N X.env.scope scope (ownOf C.N (t.slots ++ t'.slots)) := by rw [G.hN, G.sc]; exact ok0
    have hN : X.N.Nodup := by rw [G.hN]; exact G.nd
    have pi := (hi.all (.i tx ix) sc fb X G h4).1
    have pg : ∀ (s : Shared) (H : Hp) (A : Addr) (cl : List (Str × Addr)) (fp : List Addr), PG (X.blk s H scope (compEnvC scope cl A X.env) fp) tx (gT X.K t) := fun s H A cl fp => pg_of (G.blk ok0.kind s H A cl fp) h5
    have pts : ∀ (s : Shared) (H : Hp) (A : Addr) (cl : List (Str × Addr)) (fp : List Addr), PTs (X.blk s H scope (compEnvC scope cl A X.env) fp) ifs (tT X.K (fns C.tb n) c) := fun s H A cl fp => ifs_of hc (G.blk ok0.kind s H A cl fp) h6
    have pi1 : ∀ (s : Shared) (H : Hp) (A : Addr) (cl : List (Str × Addr)) (fp : List Addr), PI (X.blk s H scope (compEnvC scope cl A X.env) fp) tx' ix' (tI X.K (fns C.tb n) it') := fun s H A cl fp => (hi'.all (.i tx' ix') _ _ _ (G.blk ok0.kind s H A cl fp) h4').1
    have pg1 : ∀ (s : Shared) (H : Hp) (A : Addr) (cl : List (Str × Addr)) (fp : List Addr), PG (X.blk s H scope (compEnvC scope cl A X.env) fp) tx' (gT X.K t') := fun s H A cl fp => pg_of (G.blk ok0.kind s H A cl fp) h5'
    have pts1 : ∀ (s : Shared) (H : Hp) (A : Addr) (cl : List (Str × Addr)) (fp : List Addr), PTs (X.blk s H scope (compEnvC scope cl A X.env) fp) ifs' (tT X.K (fns C.tb n) c') := fun s H A cl fp => ifs_of hc' (G.blk ok0.kind s H A cl fp) h6'
    have pel : ∀ (s : Shared) (H : Hp) (A : Addr) (cl : List (Str × Addr)) (fp : List Addr), PE (X.blk s H scope (compEnvC scope cl A X.env) fp) elt (tE X.K (fns C.tb n) false e) := fun s H A cl fp => (he.ex (G.blk ok0.kind s H A cl fp) h7).pe
    have hv : ∀ i ∈ t'.slots, i ∈ (ownOf C.N (t.slots ++ t'.slots)).map (·.2) := fun i q => by rw [own_slots]; exact List.mem_append_right _ q
    have pe : ∀ fr, PE X (.ListComp elt [⟨tx, ix, ifs, 0⟩, ⟨tx', ix', ifs', 0⟩] scope p) (tE X.K (fns C.tb n) fr (.lc2 t it c t' it' c' e)) := fun fr => pe_imp (pe_lc2 G.calm hN pi ok hv pg pts pi1 pg1 pts1 pel (fold_of h2) (fold_all h2')) fun σ H Q q => s_lc2 (own_slots _ _) q
    refine ⟨pe false, fun _ => pe true, fun _ => pt_of (pe false) (fun _ => rfl), (fun q => nomatch q), asg_comp G pe fun i nm py spos m hi hl hsw => ?_⟩
    exact w_asg2 (ps_setLc2 G.calm hN hi hl hsw pi ok hv pg pts pi1 pg1 pts1 pel (fold_of h2) (fold_all h2')) fun σ H Q q => s_lc2 (own_slots _ _) q
  · cases h

/-! ### what is only walked -/
theorem snd_rng1 (ha : IH C n a) (t : Tg) (G : Gd C n sc fb X) (h : chk C (.rng1 a) sc fb t = true) : Snd C n X sc fb (.rng1 a) t := by
  simp only [chk] at h
  split at h
  · rename_i tx nm p1 y p
    simp only [Bool.and_eq_true, decide_eq_true_eq] at h
    obtain ⟨⟨⟨rfl, h2⟩, h3⟩, h4⟩ := h
    have pa := (ha.ex G h4).pe
    have g := gl_of G.sc h2
    have m := G.bi "range" (by decide)
    have r := i_rng1 (tg := tx) (pos := p) (p := p1) g m (s_cons pa s_nil (star_of h3)) (star_of h3)
    exact ⟨i_ofR r, fun _ => ⟨r, s_prg1 g m pa (star_of h3)⟩⟩
  · cases h
theorem snd_rng2 (ha : IH C n a) (hb : IH C n b) (t : Tg) (G : Gd C n sc fb X) (h : chk C (.rng2 a b) sc fb t = true) : Snd C n X sc fb (.rng2 a b) t := by
  simp only [chk] at h
  split at h
  · rename_i tx nm p1 y z p
    simp only [Bool.and_eq_true, decide_eq_true_eq] at h
    obtain ⟨⟨⟨⟨⟨rfl, h2⟩, h3⟩, h3'⟩, h4⟩, h5⟩ := h
    have pa := (ha.ex G h4).pe
    have pb := (hb.ex G h5).pe
    have g := gl_of G.sc h2
    have m := G.bi "range" (by decide)
    have e1 : starEach [y, z] X.env = (false, eval y X.env) :: starEach [z] X.env := star_of h3
    have e2 : starEach [z] X.env = (false, eval z X.env) :: starEach [] X.env := star_of h3'
    have r := i_rng2 (tg := tx) (pos := p) (p := p1) g m (s_cons pa (s_cons pb s_nil e2) e1) (by rw [e1, e2]; rfl) (by rw [e2]; rfl)
    exact ⟨i_ofR r, fun _ => ⟨r, s_prg2 g m pa pb e1 e2 (any_of (by simp [plainAll, h3']))⟩⟩
  · cases h
theorem tup_shape {x : Expr} (h : isTupX x = true) : ∃ es k p, x = .Tuple es k p := by
  cases x <;> first | exact ⟨_, _, _, rfl⟩ | cases h
theorem snd_enu (ha : IH C n a) (t : Tg) (G : Gd C n sc fb X) (h : chk C (.enu a) sc fb t = true) : Snd C n X sc fb (.enu a) t := by
  simp only [chk] at h
  split at h
  · rename_i tx nm p1 y p
    simp only [Bool.and_eq_true, decide_eq_true_eq] at h
    obtain ⟨⟨⟨⟨h1, rfl⟩, h2⟩, h3⟩, h4⟩ := h
    obtain ⟨es, k, p2, rfl⟩ := tup_shape h1
    exact ⟨i_enum (gl_of G.sc h2) (G.bi _ (by decide)) (s_cons (ha.ex G h4).pe s_nil (star_of h3)) (star_of h3), fun q => nomatch q⟩
  · cases h
theorem snd_zip (ha : IH C n a) (hb : IH C n b) (t : Tg) (G : Gd C n sc fb X) (h : chk C (.zip a b) sc fb t = true) : Snd C n X sc fb (.zip a b) t := by
  simp only [chk] at h
  split at h
  · rename_i tx nm p1 y z p
    simp only [Bool.and_eq_true, decide_eq_true_eq] at h
    obtain ⟨⟨⟨⟨⟨⟨h1, rfl⟩, h2⟩, h3⟩, h3'⟩, h4⟩, h5⟩ := h
    obtain ⟨es, k, p2, rfl⟩ := tup_shape h1
    exact ⟨i_zip (gl_of G.sc h2) (G.bi _ (by decide)) (s_cons (ha.ex G h4).pe (s_cons (hb.ex G h5).pe s_nil (star_of h3')) (star_of h3)) (star_of h3) (any_of (by simp [plainAll, h3'])), fun q => nomatch q⟩
  · cases h
end

theorem hv_of {C : Ck} {e : E} (h : ∀ sc fb t, chk C e sc fb t = (match t.val with | some x => chk C e sc fb (.e x) | none => false)) : ∀ sc fb t, chk C e sc fb t = true → ∃ x, t.val = some x ∧ chk C e sc fb (.e x) = true := by
  intro sc fb t q
  rw [h] at q
  split at q
  · exact ⟨_, by assumption, q⟩
  · cases q
theorem snd {C : Ck} {n : Nat} : ∀ e : E, IH C n e := by
  intro e
  induction e with
  | var i => exact ⟨snd_val (fun _ _ _ _ G h => snd_var G h) rfl (hv_of fun sc fb t => by unfold chk; cases t.val <;> rfl)⟩
  | int i => exact ⟨snd_val (fun _ _ _ _ G h => snd_int G h) rfl (hv_of fun sc fb t => by unfold chk; cases t.val <;> rfl)⟩
  | bl i => exact ⟨snd_val (fun _ _ _ _ G h => snd_bl G h) rfl (hv_of fun sc fb t => by unfold chk; cases t.val <;> rfl)⟩
  | non => exact ⟨snd_val (fun _ _ _ _ G h => snd_non G h) rfl (hv_of fun sc fb t => by unfold chk; cases t.val <;> rfl)⟩
  | str i => exact ⟨snd_val (fun _ _ _ _ G h => snd_str G h) rfl (hv_of fun sc fb t => by unfold chk; cases t.val <;> rfl)⟩
  | neg a ha => exact ⟨snd_val (fun _ _ _ _ G h => snd_neg ha G h) rfl (hv_of fun sc fb t => by unfold chk; cases t.val <;> rfl)⟩
  | bin o a b ha hb => exact ⟨snd_val (fun _ _ _ _ G h => snd_bin ha hb G h) rfl (hv_of fun sc fb t => by unfold chk; cases t.val <;> rfl)⟩
  | cmp o a b ha hb => exact ⟨snd_val (fun _ _ _ _ G h => snd_cmp ha hb G h) rfl (hv_of fun sc fb t => by unfold chk; cases t.val <;> rfl)⟩
  | chain o o' a b c ha hb hc => exact ⟨snd_val (fun _ _ _ _ G h => snd_chain ha hb hc G h) rfl (hv_of fun sc fb t => by unfold chk; cases t.val <;> rfl)⟩
  | isN a ha => exact ⟨snd_val (fun _ _ _ _ G h => snd_isN ha G h) rfl (hv_of fun sc fb t => by unfold chk; cases t.val <;> rfl)⟩
  | notN a ha => exact ⟨snd_val (fun _ _ _ _ G h => snd_notN ha G h) rfl (hv_of fun sc fb t => by unfold chk; cases t.val <;> rfl)⟩
  | and a b ha hb => exact ⟨snd_val (fun _ _ _ _ G h => snd_and ha hb G h) rfl (hv_of fun sc fb t => by unfold chk; cases t.val <;> rfl)⟩
  | or a b ha hb => exact ⟨snd_val (fun _ _ _ _ G h => snd_or ha hb G h) rfl (hv_of fun sc fb t => by unfold chk; cases t.val <;> rfl)⟩
  | one a ha => exact ⟨snd_val (fun _ _ _ _ G h => snd_one ha G h) rfl (hv_of fun sc fb t => by unfold chk; cases t.val <;> rfl)⟩
  | not a ha => exact ⟨snd_val (fun _ _ _ _ G h => snd_not ha G h) rfl (hv_of fun sc fb t => by unfold chk; cases t.val <;> rfl)⟩
  | ite c a b hc ha hb => exact ⟨snd_val (fun _ _ _ _ G h => snd_ite hc ha hb G h) rfl (hv_of fun sc fb t => by unfold chk; cases t.val <;> rfl)⟩
  | nil => exact ⟨fun t sc fb X G h => by
      cases t with
      | a xs =>
        cases xs with
        | nil => exact s_nil
        | cons x xs => unfold chk at h; cases h
      | e x => unfold chk at h; cases h
      | i tx x => unfold chk at h; cases h⟩
  | cons a b ha hb => exact ⟨fun t sc fb X G h => by
      cases t with
      | a xs =>
        cases xs with
        | nil => unfold chk at h; cases h
        | cons x xs =>
          unfold chk at h
          simp only [Bool.and_eq_true] at h
          exact s_cons (ha.ex G h.1.2).pe (hb.ar G h.2) (star_of h.1.1)
      | e x => unfold chk at h; cases h
      | i tx x => unfold chk at h; cases h⟩
  | tup a ha => exact ⟨snd_val (fun _ _ _ _ G h => snd_tup ha G h) rfl (hv_of fun sc fb t => by unfold chk; cases t.val <;> rfl)⟩
  | lst a ha => exact ⟨snd_val (fun _ _ _ _ G h => snd_lst ha G h) rfl (hv_of fun sc fb t => by unfold chk; cases t.val <;> rfl)⟩
  | call f a ha => exact ⟨snd_val (fun _ _ _ _ G h => snd_call ha G h) rfl (hv_of fun sc fb t => by unfold chk; cases t.val <;> rfl)⟩
  | bi b a ha => exact ⟨snd_val (fun _ _ _ _ G h => snd_bi ha G h) rfl (hv_of fun sc fb t => by unfold chk; cases t.val <;> rfl)⟩
  | isi a ty ha => exact ⟨snd_val (fun _ _ _ _ G h => snd_isi ha G h) rfl (hv_of fun sc fb t => by unfold chk; cases t.val <;> rfl)⟩
  | idx a b ha hb => exact ⟨snd_val (fun _ _ _ _ G h => snd_idx ha hb G h) rfl (hv_of fun sc fb t => by unfold chk; cases t.val <;> rfl)⟩
  | sl a b c ha hb hc => exact ⟨snd_val (fun _ _ _ _ G h => snd_sl ha hb hc G h) rfl (hv_of fun sc fb t => by unfold chk; cases t.val <;> rfl)⟩
  | lc t it c e hi hc he => exact ⟨snd_val (fun _ _ _ _ G h => snd_lc hi hc he G h) rfl (hv_of fun sc fb t => by unfold chk; cases t.val <;> rfl)⟩
  | lc2 t it c t' it' c' e hi hc hi' hc' he => exact ⟨snd_val (fun _ _ _ _ G h => snd_lc2 hi hc hi' hc' he G h) rfl (hv_of fun sc fb t => by unfold chk; cases t.val <;> rfl)⟩
  | rng1 a ha => exact ⟨fun t sc fb X G h => snd_rng1 ha t G h⟩
  | rng2 a b ha hb => exact ⟨fun t sc fb X G h => snd_rng2 ha hb t G h⟩
  | enu a ha => exact ⟨fun t sc fb X G h => snd_enu ha t G h⟩
  | zip a b ha hb => exact ⟨fun t sc fb X G h => snd_zip ha hb t G h⟩
  | lrng a ha => exact ⟨snd_val (fun _ _ _ _ G h => snd_lrng ha G h) rfl (hv_of fun sc fb t => by unfold chk; cases t.val <;> rfl)⟩
  | trng a ha => exact ⟨snd_val (fun _ _ _ _ G h => snd_trng ha G h) rfl (hv_of fun sc fb t => by unfold chk; cases t.val <;> rfl)⟩
end PyD

/-! What the checker accepts is read by the interpreter: statements. -/
namespace PyD
open PySem L2 RZ

theorem sole_of {x t : Expr} {l : Nat} {env : PySem.Env} (ht : (match t with | .Name _ _ => false | _ => true) = true) : swapsWithSole [t] x l env = pure false := by
  show swapsWith x (some t) l env = pure false
  cases x <;> first | rfl | (cases t <;> first | rfl | cases ht)
theorem stores_none {x t : Expr} {env : PySem.Env} (hx : isTupX x = false) : swappedStores [t] x env = pure none := by
  cases t <;> first | rfl | (cases x <;> first | rfl | cases hx)
theorem stores_none2 {x t : Expr} {env : PySem.Env} (ht : (match t with | .Tuple _ _ _ => false | .List _ _ => false | _ => true) = true) : swappedStores [t] x env = pure none := by
  cases t <;> first | rfl | cases ht
def swOk (sc : Scope) (x y : Str) (px py : Pos) (vs : List Expr) : Bool :=
  decide (sc.names.lookup x = some .local) && decide (sc.names.lookup y = some .local) && (py.line == px.line) && !(x == y) && !(vs.any fun | .Starred .. => true | _ => false) && !(vs.all (foldedForSure 8)) && !(vs.all (constantsAlone 8))
theorem stores_two {x y : Str} {px py pt : Pos} {kt k2 : Nat} {pt2 : Pos} {a b : Expr} {env : PySem.Env} (hk : env.scope.kind = .function) (pa : plainX a = true) (pb : plainX b = true) (h : swOk env.scope x y px py [a, b] = true) :
    swappedStores [.Tuple [.Name x px, .Name y py] kt pt] (.Tuple [a, b] k2 pt2) env = pure (some [x, y]) := by
  unfold swOk at h
  simp only [Bool.and_eq_true, decide_eq_true_eq, Bool.not_eq_true'] at h
  obtain ⟨⟨⟨⟨⟨⟨h1, h2⟩, h3⟩, h4⟩, h5⟩, h6⟩, h7⟩ := h
  have e1 : env.kindOf x = some .local := h1
  have e2 : env.kindOf y = some .local := h2
  have e3 : (some NameKind.local == some NameKind.local) = true := by decide
  have hb : (env.blockKind != ScopeKind.function) = false := by rw [block_of hk]; decide
  have hpx : (Expr.Name x px).pos.line = px.line := rfl
  unfold swappedStores
  simp only [List.length_cons, List.length_nil, hb, h5, h6, h7, e1, e2, e3, h3, hpx, List.head?_cons, Option.map_some, Option.getD_some, List.filterMap_cons, List.filterMap_nil, beq_self_eq_true, Bool.and_self, if_true, Bool.or_false, bne_self_eq_false, Bool.not_true, Bool.false_eq_true, if_false, Bool.and_true, Bool.true_and, Bool.or_true, Bool.true_or, Nat.reduceAdd, Nat.reduceBEq]
  have hd : ([x, y] : List Str).eraseDups.length = 2 := by
    have q : (y == x) = false := by rw [BEq.comm]; exact h4
    simp [List.eraseDups_cons, q]
  simp [hd]
  intro hc
  exfalso
  rcases hc with hc | hc
  · split at hc
    · cases pa
    · cases hc
  · split at hc
    · cases pb
    · cases hc

inductive TgS | one (s : Stmt) | blk (ss : List Stmt)
def TgS.sole : TgS → Option Stmt
  | .one s => some s
  | .blk [s] => some s
  | .blk _ => none
def TgS.list : TgS → List Stmt
  | .one s => [s]
  | .blk ss => ss
def nameOk (C : Ck) (i : Nat) (x : Str) (sc : Scope) : Bool := decide (C.N[i]? = some x) && isV sc x && okNm x
def augOf : Op → Option Operator
  | .add => some .Add
  | .sub => some .Sub
  | _ => none

def chkS (C : Ck) (sc : Scope) : S → TgS → Bool
  | .skip, t => match t with
    | .blk [] => true
    | .blk [.Pass _] => true
    | .one (.Pass _) => true
    | _ => false
  | .doc, t => match t.sole with
    | some (.Expr (.Constant (.str _) _ _) _) => true
    | _ => false
  | .never, _ => true
  | .brk, t => match t.sole with
    | some (.Break _) => true
    | _ => false
  | .cnt, t => match t.sole with
    | some (.Continue _) => true
    | _ => false
  | .retN, t => match t.sole with
    | some (.Return none _) => true
    | _ => false
  | .seq a b, t => match t with
    | .blk (s :: ss) => chkS C sc a (.one s) && chkS C sc b (.blk ss)
    | _ => false
  | .frz _ s, t => chkS C sc s t
  | .asg i e m, t => match t.sole with
    | some (.Assign [.Name x _] y _) => (!m.own || freshE C.tb e) && decide (C.N[i]? = some x) && isSt sc (fun _ => true) x && chk C e sc (fun _ => true) (.e y)
    | _ => false
  | .asgT is e, t => match t.sole with
    | some (.Assign [.Tuple xs k p] y _) => chkT C sc (fun _ => true) (.tp is) (.Tuple xs k p) && !(isTupX y) && chk C e sc (fun _ => true) (.e y)
    | _ => false
  | .par i j a b m m', t => match t.sole with
    | some (.Assign [.Tuple [.Name x px, .Name y py] _ _] (.Tuple [u, w] _ _) _) => (!m.own || freshE C.tb a) && (!m'.own || freshE C.tb b) && decide (C.N[i]? = some x) && decide (C.N[j]? = some y) && decide (i ≠ j) && swOk sc x y px py [u, w] && plainX u && plainX w &&
        chk C a sc (fun _ => true) (.e u) && chk C b sc (fun _ => true) (.e w)
    | _ => false
  | .app i e m, t => match t.sole with
    | some (.Expr (.Call (.Attribute (.Name x _) f ap) [y] [] cp) _) => decide (f = "append") && nameOk C i x sc && !m.own && (ap.endLine == cp.line) && plainX y && chk C e sc (fun _ => true) (.e y)
    | _ => false
  | .appPop i j e, t => match t.sole with
    | some (.Expr (.Call (.Attribute (.Name x _) f ap) [.Call (.Attribute (.Name z _) g ap2) [y] [] cp2] [] cp) _) => decide (f = "append") && decide (g = "pop") && nameOk C i x sc && nameOk C j z sc && (ap.endLine == cp.line) && (ap2.endLine == cp2.line) && plainX y && chk C e sc (fun _ => true) (.e y)
    | _ => false
  | .setI i k e m, t => match t.sole with
    | some (.Assign [.Subscript (.Name x _) y _] z _) => nameOk C i x sc && !m.own && plainX y && chk C k sc (fun _ => true) (.e y) && chk C e sc (fun _ => true) (.e z)
    | _ => false
  | .aug i o e, t => match t.sole with
    | some (.AugAssign (.Name x _) op y _) => decide (augOf o = some op) && decide (C.N[i]? = some x) && isSt sc (fun _ => true) x && chk C e sc (fun _ => true) (.e y)
    | _ => false
  | .iff c a b, t => match t.sole with
    | some (.If x ys zs _) => okT c && chk C c sc (fun _ => true) (.e x) && chkS C sc a (.blk ys) && chkS C sc b (.blk zs)
    | _ => false
  | .for_ tt it b, t => match t.sole with
    | some (.For tx ix ys [] _) => plainX ix && chkT C sc (fun _ => true) tt tx && chk C it sc (fun _ => true) (.i tx ix) && chkS C sc b (.blk ys)
    | _ => false
  | .while_ c b, t => match t.sole with
    | some (.While x ys [] _) => okT c && chk C c sc (fun _ => true) (.e x) && chkS C sc b (.blk ys)
    | _ => false
  | .ret e m, t => match t.sole with
    | some (.Return (some y) _) => (!m.own || freshE C.tb e) && chk C e sc (fun _ => true) (.e y)
    | _ => false
  | .retv i, t => match t.sole with
    | some (.Return (some (.Name x _)) _) => nameOk C i x sc
    | _ => false

def SndS (C : Ck) (n : Nat) (X : Cx) (s : S) : TgS → Prop
  | .one st => PS X st (tS X.K (fns C.tb n) s)
  | .blk sts => PSs X sts (tS X.K (fns C.tb n) s)
section
variable {C : Ck} {n : Nat} {sc : Scope} {X : Cx} {s : S} {st : Stmt}
theorem sole_sound {t : TgS} (h : t.sole = some st) (q : PS X st (tS X.K (fns C.tb n) s)) : SndS C n X s t := by
  cases t with
  | one u =>
    cases h
    exact q
  | blk us =>
    match us, h with
    | [u], h =>
      cases h
      exact w_one q
theorem pv_of {i : Nat} {x : Str} {p : Pos} (G : Gd C n sc (fun _ => true) X) (h : nameOk C i x sc = true) : PE X (.Name x p) (tVar i) := by
  unfold nameOk okNm at h
  simp only [Bool.and_eq_true, decide_eq_true_eq, Bool.not_eq_true'] at h
  have hv := vis_of h.1.2
  rw [← G.sc] at hv
  exact pe_var (by rw [G.hN]; exact h.1.1) hv h.2.1 h.2.2
theorem few_of {y : Expr} {cp : Pos} {env : PySem.Env} (h : plainX y = true) : ((backTo cp (starEach [y] env)).all (fun x => !x.1) && (backToKw cp (keywordEach [] env)).all (fun x => x.1.isSome)
      && decide (([y] : List Expr).length + ([] : List Keyword).length + (if ([] : List Keyword).isEmpty then 0 else 1) < 30)) = true := by
  rw [star_of h]
  rfl
theorem pe_own {e : E} {y : Expr} {m : Md} (h : SndE C n X sc (fun _ => true) e y) (q : (!m.own || freshE C.tb e) = true) : PE X y (tE X.K (fns C.tb n) m.own e) := by
  cases ho : m.own with
  | false => exact h.pe
  | true =>
    rw [ho] at q
    exact h.fr (by simpa using q)
theorem not_own {m : Md} (h : (!m.own) = true) : m.own = false := by simpa using h
theorem sndS : ∀ (s : S) (t : TgS) X, Gd C n sc (fun _ => true) X → chkS C sc s t = true → SndS C n X s t := by
  intro s
  induction s with
  | skip =>
    intro t X G h
    simp only [chkS] at h
    split at h
    · exact w_skip
    · exact w_one w_pass
    · exact w_pass
    · cases h
  | doc =>
    intro t X G h
    simp only [chkS] at h
    split at h
    · rename_i ht
      exact sole_sound ht w_doc
    · cases h
  | never =>
    intro t X G h
    cases t with
    | one st => exact w_never
    | blk sts => exact w_nevers
  | brk =>
    intro t X G h
    simp only [chkS] at h
    split at h
    · rename_i ht
      exact sole_sound ht w_brk
    · cases h
  | cnt =>
    intro t X G h
    simp only [chkS] at h
    split at h
    · rename_i ht
      exact sole_sound ht w_cnt
    · cases h
  | retN =>
    intro t X G h
    simp only [chkS] at h
    split at h
    · rename_i ht
      exact sole_sound ht w_retN
    · cases h
  | seq a b ha hb =>
    intro t X G h
    simp only [chkS] at h
    split at h
    · simp only [Bool.and_eq_true] at h
      exact w_cons (ha _ X G h.1) (hb _ X G h.2)
    · cases h
  | frz is s hs =>
    intro t X G h
    simp only [chkS] at h
    have q := hs t X G h
    cases t with
    | one st => exact w_frz1 q
    | blk sts => exact w_frz q
  | asg i e m =>
    intro t X G h
    simp only [chkS] at h
    split at h
    · rename_i ht
      simp only [Bool.and_eq_true, decide_eq_true_eq, Bool.or_eq_true, Bool.not_eq_true'] at h
      obtain ⟨⟨⟨h1, h2⟩, h3⟩, h4⟩ := h
      have q := (snd e).ex G h4
      exact sole_sound ht (q.asg m i _ _ _ (fun ho => by rcases h1 with z | z; · rw [ho] at z; cases z
                                                         · exact z) h2 h3)
    · cases h
  | asgT is e =>
    intro t X G h
    simp only [chkS] at h
    split at h
    · rename_i ht
      simp only [Bool.and_eq_true, Bool.not_eq_true'] at h
      have q := (snd e).ex G h.2
      exact sole_sound ht (w_asgT (ps_asg q.pe (pg_of G h.1.1) (sole_of rfl) (stores_none h.1.2) rfl))
    · cases h
  | par i j a b m m' =>
    intro t X G h
    simp only [chkS] at h
    split at h
    · rename_i ht
      simp only [Bool.and_eq_true, decide_eq_true_eq] at h
      obtain ⟨⟨⟨⟨⟨⟨⟨⟨⟨h1, h1'⟩, h2⟩, h2'⟩, h3⟩, h4⟩, h5⟩, h5'⟩, h6⟩, h7⟩ := h
      have qa := pe_own ((snd a).ex G h6) h1
      have qb := pe_own ((snd b).ex G h7) h1'
      have hk : X.env.scope.kind = .function := by rw [G.sc]; exact G.kind
      have h4' := h4
      unfold swOk at h4'
      simp only [Bool.and_eq_true, decide_eq_true_eq] at h4'
      refine sole_sound ht (w_par h3 (ps_par G.calm (by rw [G.hN]; exact G.nd) (by rw [G.hN]; exact h2) (by rw [G.hN]; exact h2') h3 (by rw [G.sc]; exact h4'.1.1.1.1.1.1) (by rw [G.sc]; exact h4'.1.1.1.1.1.2)
        (pa_cons qa (pa_cons qb pa_nil (star_of h5')) (star_of h5)) (stores_two hk h5 h5' (by rw [G.sc]; exact h4)) (sole_of rfl)) fun σ H Q z => z)
    · cases h
  | app i e m =>
    intro t X G h
    simp only [chkS] at h
    split at h
    · rename_i ht
      simp only [Bool.and_eq_true, decide_eq_true_eq] at h
      obtain ⟨⟨⟨⟨⟨rfl, h1⟩, h2⟩, h3⟩, h4⟩, h5⟩ := h
      have q := (snd e).ex G h5
      exact sole_sound ht (w_app (not_own h2) (ps_expr (pe_bm PySem.F.plainAttrs_list PySem.F.slot_list_append PySem.F.type_list_append mt_append (pv_of G h1) (pa_cons q.pe pa_nil (star_of h4)) rfl (few_of h4) h3 (star_of h4) rfl) rfl))
    · cases h
  | appPop i j e =>
    intro t X G h
    simp only [chkS] at h
    split at h
    · rename_i ht
      simp only [Bool.and_eq_true, decide_eq_true_eq] at h
      obtain ⟨⟨⟨⟨⟨⟨⟨rfl, rfl⟩, h1⟩, h1'⟩, h3⟩, h3'⟩, h4⟩, h5⟩ := h
      have q := (snd e).ex G h5
      exact sole_sound ht (w_appPop (ps_expr (pe_bm PySem.F.plainAttrs_list PySem.F.slot_list_append PySem.F.type_list_append mt_append (pv_of G h1)
        (pa_cons (pe_bm PySem.F.plainAttrs_list PySem.F.slot_list_pop PySem.F.type_list_pop mt_popAt (pv_of G h1') (pa_cons q.pe pa_nil (star_of h4)) rfl (few_of h4) h3' (star_of h4) rfl) pa_nil rfl) rfl rfl h3 rfl rfl) rfl))
    · cases h
  | setI i k e m =>
    intro t X G h
    simp only [chkS] at h
    split at h
    · rename_i x p y p2 z p3 ht
      simp only [Bool.and_eq_true] at h
      obtain ⟨⟨⟨⟨h1, h2⟩, h3⟩, h4⟩, h5⟩ := h
      have qk := (snd k).ex G h4
      have qe := (snd e).ex G h5
      refine sole_sound ht (w_setI (not_own h2) (ps_asg qe.pe (pg_sub (pv_of G h1) qk.pe set_list (fun v => ?_)) (sole_of rfl) (stores_none2 rfl) rfl))
      cases y <;> first | rfl | cases h3
    · cases h
  | aug i o e =>
    intro t X G h
    simp only [chkS] at h
    split at h
    · rename_i x p op y p2 ht
      simp only [Bool.and_eq_true, decide_eq_true_eq] at h
      obtain ⟨⟨⟨h1, h2⟩, h3⟩, h4⟩ := h
      have qe := (snd e).ex G h4
      obtain ⟨u, w⟩ := st_of G.sc G.fnb h3
      have hN : X.N.Nodup := by rw [G.hN]; exact G.nd
      have hi : X.N[i]? = some x := by rw [G.hN]; exact h2
      cases o <;> cases h1
      · refine sole_sound ht (w_aug (r0 := ipI fun i j => i + j) (fun z y w H Q q k => ?_) (fun z y w q => ⟨z + y, (Option.some.inj q).symm⟩) (ps_aug hN hi u qe.pe ip_add w))
        cases q
        exact ⟨z, y, rfl, rfl, k⟩
      · refine sole_sound ht (w_aug (r0 := ipI fun i j => i - j) (fun z y w H Q q k => ?_) (fun z y w q => ⟨z - y, (Option.some.inj q).symm⟩) (ps_aug hN hi u qe.pe ip_sub w))
        cases q
        exact ⟨z, y, rfl, rfl, k⟩
    · cases h
  | iff c a b ha hb =>
    intro t X G h
    simp only [chkS] at h
    split at h
    · rename_i ht
      simp only [Bool.and_eq_true] at h
      exact sole_sound ht (w_if (((snd c).ex G h.1.1.2).pt h.1.1.1) (ha _ X G h.1.2) (hb _ X G h.2))
    · cases h
  | for_ tt it b hb =>
    intro t X G h
    simp only [chkS] at h
    split at h
    · rename_i ht
      simp only [Bool.and_eq_true] at h
      obtain ⟨⟨⟨h1, h2⟩, h3⟩, h4⟩ := h
      have pi := (snd it).all (.i _ _) sc (fun _ => true) X G h3
      have pg := pg_of G h2
      have pb := hb _ X G h4
      refine sole_sound ht ?_
      cases hr : isRg it with
      | true =>
        refine w_forR G.xe G.calm (pi.2 hr).1 pg pb (fold_of h1) ?_
        cases it <;> first | exact .inl ⟨_, rfl⟩ | exact .inr ⟨_, _, rfl⟩ | cases hr
      | false =>
        refine w_for G.xe G.calm pi.1 pg pb (fold_of h1) fun u w => ⟨fun z => ?_, fun z => ?_⟩ <;> (subst z; cases hr)
    · cases h
  | while_ c b hb =>
    intro t X G h
    simp only [chkS] at h
    split at h
    · rename_i ht
      simp only [Bool.and_eq_true] at h
      exact sole_sound ht (w_while G.xe (((snd c).ex G h.1.2).pt h.1.1) (hb _ X G h.2))
    · cases h
  | ret e m =>
    intro t X G h
    simp only [chkS] at h
    split at h
    · rename_i ht
      simp only [Bool.and_eq_true] at h
      exact sole_sound ht (w_ret (pe_own ((snd e).ex G h.2) h.1))
    · cases h
  | retv i =>
    intro t X G h
    simp only [chkS] at h
    split at h
    · rename_i ht
      exact sole_sound ht (w_retv (pv_of G h))
    · cases h
end
end PyD

/-! Defs: the whole table. -/
namespace PyD
open PySem L2 RZ StX PyProof.Rows

/-- a def of the text, as the table has it -/
structure FnAt (K : PySem.W.Frag) (mg : Str → Option Value) (tb : List Fn) (gcd : Bool) (fn : Fn) (ad : Addr) (st : Stmt) : Prop where
  m : mg fn.name = some (.ref ad)
  ok : ∃ qual fd, Fun K fn.name qual st ad fd ∧
    (fn.star = false → ∀ (kV doc pm : Value) (an : Option Addr) (cdv ct : Value) (us : List Value), us.length = fn.ps.length → bindArgs (PySem.W.fnOf fn.name qual (defArgs st) (defBody st) (defScope st) .none kV doc pm an cdv ct) ⟨us, []⟩ = pure (fn.ps.zip us)) ∧
    (fn.star = true → ∃ ps pv, fn.ps = ps ++ [pv] ∧ ∀ (kV doc pm : Value) (an : Option Addr) (cdv ct : Value) (us rest : List Value), us.length = ps.length → bindArgs (PySem.W.fnOf fn.name qual (defArgs st) (defBody st) (defScope st) .none kV doc pm an cdv ct) ⟨us ++ rest, []⟩ = (newTuple rest >>= fun t => pure (ps.zip us ++ [(pv, t)])))
  sc : FnScope fn.names fn.ps (defScope st)
  ck : chkS { tb := tb, N := fn.names, gcd := gcd } (defScope st) fn.body (.blk (defBody st)) = true
structure TabOk (K : PySem.W.Frag) (mg : Str → Option Value) (tb : List Fn) (gcd : Bool) : Prop where
  fn : ∀ (f : Nat) (fn : Fn), tb[f]? = some fn → ∃ ad st, FnAt K mg tb gcd fn ad st
  bi : ∀ nm ∈ biNames, mg nm = none
  gcd : gcd = true → mg "gcd" = some (.builtin "math.gcd")

section
variable {P : Program} {w : World} {K : PySem.W.Frag} {mg : Str → Option Value} {base : Heap} {tb : List Fn} {gcd : Bool}
/-- what the body asks -/
def spB (K : PySem.W.Frag) (Φ : Fns) (fn : Fn) : Sp := fun vs H Q _ => ∃ M ds d, Same M H ∧ DatL K M vs ds ∧ ds.length = fn.ps.length ∧ outD fn.fr (evS Φ fn.body (startF fn ds)) = some d ∧ ∀ v M' H', Xt M M' H H' → Res K M' H H' fn.fr v d → Q v H'
theorem start_rel {M H : Hp} {fn : Fn} {vs : List V} {ds : List D} (sm : Same M H) (dl : DatL K M vs ds) : Rel K M H M (L2.start fn.names vs) (startF fn ds) H := by
  have hl := dl.length
  have noMu : ∀ (i : Nat) (d : D), (startF fn ds)[i]? = some (some (true, d)) → False := fun i d h => by
    unfold startF at h
    rw [List.getElem?_append] at h
    split at h
    · rw [List.getElem?_map] at h
      cases e : ds[i]? with
      | none => rw [e] at h; cases h
      | some u => rw [e] at h; cases h
    · rw [List.getElem?_replicate] at h
      split at h <;> cases h
  refine ⟨by simp [L2.start, startF, hl], sm, Same.refl M, Same.refl H, fun a h => .inl h, fun i d h => ?_, fun i d h => (noMu i d h).elim, fun i j d e l h => (noMu i d h).elim⟩
  unfold startF at h
  unfold L2.start
  rw [List.getElem?_append] at h ⊢
  split at h
  · rename_i hi
    rw [List.length_map] at hi
    rw [List.getElem?_map] at h
    cases e : ds[i]? with
    | none => rw [e] at h; cases h
    | some u =>
      rw [e] at h
      cases h
      obtain ⟨v, q1, q2⟩ := dl.get e
      refine ⟨v, ?_, q2⟩
      rw [if_pos (by rw [List.length_map, hl]; exact hi), List.getElem?_map, q1]
      rfl
  · rw [List.getElem?_replicate] at h
    split at h <;> cases h
theorem body_ok {fn : Fn} {n : Nat} {qual : Str} {st : Stmt} {ad : Addr} (T : TabOk K mg tb gcd) (ih : ∀ (f : Nat) (fn : Fn), tb[f]? = some fn → ∃ a, mg fn.name = some (.ref a) ∧ PySem.W.keepIn K (.ref a) = true ∧ FnR P w K mg base CX0 n a (spOf K (fns tb n) fn.fr f))
    (S : FnScope fn.names fn.ps (defScope st)) (ck : chkS { tb := tb, N := fn.names, gcd := gcd } (defScope st) fn.body (.blk (defBody st)) = true)
    (cdv : Value) (A : Around) (outer : List PySem.Env) (s : Shared) (H : Hp) (vs : List V) (Q : VK) (E : XK) (hr : Room n (A.deeper (envOfC qual (defScope st) s.heap.objs.size ad cdv))) (h : spB K (fns tb n) fn vs H Q E) :
    ∃ t, PSs (cxOf CX0 P w K mg base fn.names qual (defScope st) ad cdv A outer s H E).nox (defBody st) t ∧ t { nx := fun _ H' => Q .non H', rt := Q } (L2.start fn.names vs) H := by
  have G : Gd { tb := tb, N := fn.names, gcd := gcd } n (defScope st) (fun _ => true) (cxOf CX0 P w K mg base fn.names qual (defScope st) ad cdv A outer s H E).nox :=
    ⟨rfl, S.nd, S.kind, rfl, rfl, hr, T.bi, T.gcd, ih, rfl, fun _ _ => rfl⟩
  refine ⟨_, sndS _ (.blk (defBody st)) _ G ck, ?_⟩
  obtain ⟨M, ds, d, sm, dl, hl, q, k⟩ := h
  cases ho : evS (fns tb n) fn.body (startF fn ds) with
  | none => rw [ho] at q; cases q
  | some out =>
    rw [ho] at q
    refine ⟨M, H, M, startF fn ds, out, start_rel sm dl, ho, ?_⟩
    cases out with
    | nx env =>
      simp only [outD] at q
      split at q
      · cases q
      · rename_i hf
        cases q
        have hf' : fn.fr = false := by simpa using hf
        rw [hf'] at k
        exact fun σ' M' H' r s' => k _ M' H' r.xt .non
    | bk env => cases q
    | ct env => cases q
    | rt own d' =>
      simp only [outD] at q
      split at q
      · cases q
      · rename_i hc
        cases q
        intro v M' H' xt res
        cases hf : fn.fr with
        | false =>
          rw [hf] at k
          obtain ⟨M2, x2, r2⟩ := Res.keep xt res
          exact k v M2 H' x2 r2
        | true =>
          rw [hf] at k hc
          have : own = true := by simpa using hc
          subst this
          exact k v M' H' xt res
theorem datL_take {M : Hp} {vs : List V} {ds : List D} (dl : DatL K M vs ds) (n : Nat) : DatL K M (vs.take n) (ds.take n) := dl.take n
theorem tab_all (T : TabOk K mg tb gcd) : ∀ (n f : Nat) (fn : Fn), tb[f]? = some fn → ∃ a, mg fn.name = some (.ref a) ∧ PySem.W.keepIn K (.ref a) = true ∧ FnR P w K mg base CX0 n a (spOf K (fns tb n) fn.fr f)
  | 0, f, fn, h => by
    obtain ⟨ad, st, F⟩ := T.fn f fn h
    obtain ⟨qual, fd, F1, _⟩ := F.ok
    refine ⟨ad, F.m, F1.kp, fun A outer s H us vs Q E hr e0 r hs => ?_⟩
    obtain ⟨M, ds, d, _, _, q, _⟩ := hs
    cases q
  | n + 1, f, fn, h => by
    obtain ⟨ad, st, F⟩ := T.fn f fn h
    obtain ⟨qual, fd, F1, hb, hbs⟩ := F.ok
    have ih : ∀ (f : Nat) (fn : Fn), tb[f]? = some fn → ∃ a, mg fn.name = some (.ref a) ∧ PySem.W.keepIn K (.ref a) = true ∧ FnR P w K mg base CX0 n a (spOf K (fns tb n) fn.fr f) := fun f fn h => tab_all T n f fn h
    refine ⟨ad, F.m, F1.kp, ?_⟩
    have hfn : ∀ ds, fns tb (n + 1) f ds = runFn (fns tb n) fn ds := fun ds => by
      show (match tb[f]? with | some fn => runFn (fns tb n) fn ds | none => none) = _
      rw [h]
    cases hst : fn.star with
    | false =>
      have B := F1.binds (hb hst)
      have ok : FnOk P w K mg base CX0 (n + 1) ad fd fn.ps (spB K (fns tb n) fn) := F1.ok F.sc (fun vs H Q E ⟨M, ds, d, sm, dl, hl, _⟩ => by rw [dl.length, hl]) fun cdv A outer s H vs Q E hr hs => body_ok T ih F.sc F.ck cdv A outer s H vs Q E hr hs
      refine (FnOk.raw ok B .nil).imp fun vs H Q E ⟨M, ds, d, sm, dl, q, k⟩ => ?_
      rw [List.append_nil]
      rw [hfn] at q
      unfold runFn argsOf at q
      rw [hst] at q
      simp only [Bool.false_eq_true, if_false] at q
      obtain ⟨ds', q1, q2⟩ := Option.bind_eq_some_iff.mp q
      split at q1
      · rename_i hl
        cases q1
        exact ⟨M, ds, d, sm, dl, hl, q2, k⟩
      · cases q1
    | true =>
      obtain ⟨ps, pv, eps, hbind⟩ := hbs hst
      obtain ⟨oc, od, kV, doc, pm, an, cdv, ct, osl, rfl, lk, hcd⟩ := F1.ex
      have S : FnScope fn.names (ps ++ [pv]) (defScope st) := by rw [← eps]; exact F.sc
      have R := fn_star (CX := CX0) (P := P) (w := w) (mg := mg) (base := base) (k := n) (sp := spB K (fns tb n) fn) lk hcd S cxUp_none (hbind kV doc pm an cdv ct) fun A outer s H vs Q E hr hs => by
        obtain ⟨t, h1, h2⟩ := body_ok T ih F.sc F.ck cdv A outer s H vs Q E hr hs
        exact ⟨t, h1.nox, h2⟩
      refine R.imp fun vs H Q E ⟨M, ds, d, sm, dl, q, k⟩ => ?_
      rw [hfn] at q
      unfold runFn argsOf at q
      rw [hst] at q
      simp only [if_true] at q
      obtain ⟨ds', q1, q2⟩ := Option.bind_eq_some_iff.mp q
      have hpl : fn.ps.length - 1 = ps.length := by rw [eps]; simp
      rw [hpl] at q1
      split at q1
      · rename_i hl
        cases q1
        have hvl := dl.length
        refine ⟨vs.take ps.length, vs.drop ps.length, (List.take_append_drop _ _).symm, by rw [List.length_take]; omega, LIM_le (by rw [List.length_drop]; omega), fun p hp => ?_⟩
        have x1 := Xt.new (o := .tup (vs.drop ps.length)) sm hp
        refine ⟨upd M p (.tup (vs.drop ps.length)), _, d, x1.s, (dl.take ps.length |>.mono x1.m).append (.cons (.tup (SqT.of upd_same) ((dl.drop ps.length).mono x1.m)) .nil), ?_, q2, fun v M' H' x2 r2 => k v M' H' (x1.trans x2) (r2.back x1.h)⟩
        rw [List.length_append, List.length_take, eps, List.length_append]
        simp only [List.length_cons, List.length_nil]
        omega
      · cases q1
end
end PyD

/-! From the head's facts to the table, to the law. -/
namespace PyD
open PySem L2 RZ StX PyProof.Rows
theorem fun_of {K : PySem.W.Frag} {x qual : Str} {st : Stmt} {f : Addr} {fd : FuncData} (F : FunD K x qual (defArgs st) (defBody st) (defScope st) [] [] f fd) : Fun K x qual st f fd := by
  obtain ⟨oc, od, dV, kV, doc, pm, an, cdv, ct, osl, rfl, lk, hcd, hd, hk⟩ := F.ex
  rcases hd with ⟨_, rfl⟩ | ⟨hd, _⟩
  · exact ⟨⟨oc, od, kV, doc, pm, an, cdv, ct, osl, rfl, lk, hcd⟩, F.kp⟩
  · exact absurd rfl hd
/-- what the end needs of the table -/
theorem law_of {l : PySem.W.OpenLaw} {q : Program} {loose : List Str} {XP : (Str → Option Value) → Heap → Prop} {YP : World → Heap → Prop} {d : DefRec} {tb : List Fn} {gcd : Bool} {fn : Fn} {i n m : Nat}
    (hn : l.most = some m) (hn2 : m ≤ sizeLine) (hdf : d.params.defaults = []) (hr : Room (n + 1) callerA) (hi : tb[i]? = some fn) (hst : fn.star = false) (hps : fn.ps = (["script"] : List Str)) (hfr : fn.fr = false) (hnm : d.name = fn.name)
    (F : ∀ (w : World) (mg : Str → Option Value) (h : Heap), YP w h → h.Ns mainGlobals mg → ∃ K : PySem.W.Frag, K.In h ∧ TabOk K mg tb gcd)
    (pure : ∀ ns : List Int, ns.length ≤ m → fns tb (n + 1) i [.ro (ns.map .int)] = some (.bl true)) :
    PySem.W.WalkO q loose XP YP l.row.toRowW d [] (fun f vs => PySem.call f vs) := by
  refine walk_ofE (n := m) (k := n + 1) (x := "script") (CX := CX0) hn hn2 hdf hr (fun w mg fa h Y G hmg => ?_) (fun _ _ _ _ z => z)
  obtain ⟨K, KX, T⟩ := F w mg h Y G
  obtain ⟨ad, st, A⟩ := T.fn i fn hi
  obtain ⟨qual, fd, F1, hb, _⟩ := A.ok
  have e1 : mg fn.name = some (.ref fa) := by rw [← hnm]; exact hmg
  have e := e1.symm.trans A.m
  cases e
  have hb' := hb hst
  have hbt : ∀ (s : Shared) (u : Value), BindsTo s fd ⟨[u], []⟩ [("script", u)] := fun s u => by
    obtain ⟨oc, od, kV, doc, pm, an, cdv, ct, osl, rfl, lk, hcd⟩ := F1.ex
    have := hb' kV doc pm an cdv ct [u] (by rw [hps]; rfl)
    rw [hps] at this
    exact .of_eq this
  refine ⟨K, fd, spB K (fns tb n) fn, KX, hbt, fun H a ns hl _ hS => ?_, fun base KX' G' => ?_⟩
  · have p := pure ns hl
    have p2 : runFn (fns tb n) fn [.ro (ns.map .int)] = some (.bl true) := by
      have : fns tb (n + 1) i [.ro (ns.map .int)] = runFn (fns tb n) fn [.ro (ns.map .int)] := by
        show (match tb[i]? with | some fn => runFn (fns tb n) fn _ | none => none) = _
        rw [hi]
      rw [← this]; exact p
    unfold runFn argsOf at p2
    rw [hst, hps] at p2
    simp only [Bool.false_eq_true, if_false, List.length_cons, List.length_nil, if_true, Option.bind_some] at p2
    have dl : ∀ ns : List Int, DatL K H (ns.map V.int) (ns.map D.int) := fun ns => by
      induction ns with
      | nil => exact .nil
      | cons x xs ih => exact .cons (.int x) ih
    refine ⟨H, [.ro (ns.map .int)], .bl true, Same.refl H, .cons (.ro hS (dl ns)) .nil, by rw [hps]; rfl, p2, fun v M' H' _ r => ?_⟩
    rw [hfr] at r
    cases r
    rfl
  · have hps' := hps
    rw [← hps]
    exact F1.ok A.sc (fun vs H Q E ⟨M, ds, d, sm, dl, hl, _⟩ => by rw [dl.length, hl]) fun cdv A' outer s H vs Q E hr hs => body_ok T (fun f fn h => tab_all T n f fn h) A.sc A.ck cdv A' outer s H vs Q E hr hs
end PyD

/-! The plain side: rules to reckon with. -/
namespace PyD
open PySem

noncomputable instance : DecidableEq D := fun _ _ => Classical.propDecidable _

/-! ### what == sees as it stands -/
inductive Nice : Nat → D → Prop
  | int {k : Nat} (i : Int) : Nice k (.int i)
  | non {k : Nat} : Nice k .non
  | tup {k : Nat} {xs : List D} : (∀ x ∈ xs, Nice k x) → Nice (k + 1) (.tup xs)
  | lst {k : Nat} {xs : List D} : (∀ x ∈ xs, Nice k x) → Nice (k + 1) (.lst xs)
theorem Nice.up {k : Nat} {d : D} (h : Nice k d) : ∀ {m : Nat}, k ≤ m → Nice m d := by
  induction h with
  | int i => intro m _; exact .int i
  | non => intro m _; exact .non
  | tup h ih => intro m l; obtain ⟨m, rfl⟩ : ∃ m', m = m' + 1 := ⟨m - 1, by omega⟩; exact .tup fun x hx => ih x hx (by omega)
  | lst h ih => intro m l; obtain ⟨m, rfl⟩ : ∃ m', m = m' + 1 := ⟨m - 1, by omega⟩; exact .lst fun x hx => ih x hx (by omega)
theorem depthAll_le {k : Nat} {xs : List D} (h : ∀ x ∈ xs, x.py.depth ≤ k) : PyData.depthAll (pyL xs) ≤ k := by
  induction xs with
  | nil => simp [pyL, PyData.depthAll]
  | cons x xs ih =>
    simp only [pyL, PyData.depthAll]
    have h1 := h x (List.mem_cons_self ..)
    have h2 := ih fun y hy => h y (List.mem_cons_of_mem _ hy)
    omega
theorem canAll {xs : List D} (h : ∀ x ∈ xs, x.py.canLay0 = true) : PyData.canLayAll0 (pyL xs) = true := by
  induction xs with
  | nil => simp [pyL, PyData.canLayAll0]
  | cons x xs ih =>
    simp only [pyL, PyData.canLayAll0, Bool.and_eq_true]
    exact ⟨h x (List.mem_cons_self ..), ih fun y hy => h y (List.mem_cons_of_mem _ hy)⟩
theorem Nice.shp {k : Nat} {d : D} (h : Nice k d) : d.py.canLay0 = true ∧ d.py.depth ≤ k := by
  induction h with
  | int i => exact ⟨by simp [D.py, PyData.canLay0], by simp [D.py, PyData.depth]⟩
  | non => exact ⟨by simp [D.py, PyData.canLay0], by simp [D.py, PyData.depth]⟩
  | tup h ih =>
    refine ⟨?_, ?_⟩
    · simp only [D.py, PyData.canLay0]; exact canAll fun x hx => (ih x hx).1
    · simp only [D.py, PyData.depth]; exact Nat.succ_le_succ (depthAll_le fun x hx => (ih x hx).2)
  | lst h ih =>
    refine ⟨?_, ?_⟩
    · simp only [D.py, PyData.canLay0]; exact canAll fun x hx => (ih x hx).1
    · simp only [D.py, PyData.depth]; exact Nat.succ_le_succ (depthAll_le fun x hx => (ih x hx).2)
theorem Nice.ok {k : Nat} {d : D} (h : Nice k d) (hk : k ≤ 64) : okEq d = true := by
  obtain ⟨h1, h2⟩ := h.shp
  unfold okEq SeqAt.shaped
  rw [h1, Bool.true_and, decide_eq_true_eq]
  omega
theorem eqvAll_nice {xs : List D} : ∀ {ys : List D}, (∀ x ∈ xs, ∀ y : D, (∃ k, Nice k y) → (PyData.eqv x.py y.py = true ↔ x = y)) → (∀ y ∈ ys, ∃ k, Nice k y) → (PyData.eqvAll (pyL xs) (pyL ys) = true ↔ xs = ys) := by
  induction xs with
  | nil =>
    intro ys h hy
    cases ys with
    | nil => simp [pyL, PyData.eqvAll]
    | cons y ys => simp [pyL, PyData.eqvAll]
  | cons x xs ih =>
    intro ys h hy
    cases ys with
    | nil => simp [pyL, PyData.eqvAll]
    | cons y ys =>
      simp only [pyL, PyData.eqvAll, Bool.and_eq_true, List.cons.injEq]
      rw [h x (List.mem_cons_self ..) y (hy y (List.mem_cons_self ..)), ih (fun a ha => h a (List.mem_cons_of_mem _ ha)) (fun a ha => hy a (List.mem_cons_of_mem _ ha))]
theorem Nice.eqv {k : Nat} {d : D} (h : Nice k d) : ∀ {e : D} {m : Nat}, Nice m e → (PyData.eqv d.py e.py = true ↔ d = e) := by
  induction h with
  | int i => intro e m he; cases he <;> simp [D.py, PyData.eqv]
  | non => intro e m he; cases he <;> simp [D.py, PyData.eqv]
  | tup h ih =>
    intro e m he
    cases he with
    | tup h2 =>
      simp only [D.py, PyData.eqv, D.tup.injEq]
      exact eqvAll_nice (fun x hx y ⟨_, hy⟩ => ih x hx hy) fun y hy => ⟨_, h2 y hy⟩
    | _ => simp [D.py, PyData.eqv]
  | lst h ih =>
    intro e m he
    cases he with
    | lst h2 =>
      simp only [D.py, PyData.eqv, D.lst.injEq]
      exact eqvAll_nice (fun x hx y ⟨_, hy⟩ => ih x hx hy) fun y hy => ⟨_, h2 y hy⟩
    | _ => simp [D.py, PyData.eqv]
theorem eqv_dec {k m : Nat} {d e : D} (h : Nice k d) (h2 : Nice m e) : PyData.eqv d.py e.py = decide (d = e) := by
  rw [Bool.eq_iff_iff, h.eqv h2, decide_eq_true_eq]
theorem eqD_nice {k m : Nat} {d e : D} (h : Nice k d) (h2 : Nice m e) (hk : k ≤ 64) (hm : m ≤ 64) : eqD d e = some (decide (d = e)) := by
  unfold eqD
  rw [h.ok hk, h2.ok hm, eqv_dec h h2]
  rfl
theorem inSeq_nice {k m : Nat} {d : D} {ys : List D} (h : Nice k d) (h2 : ∀ y ∈ ys, Nice m y) (hk : k ≤ 64) (hm : m < 64) : inSeq d ys = some (decide (d ∈ ys)) := by
  unfold inSeq
  rw [h.ok hk, (Nice.lst h2).ok hm]
  simp only [Bool.and_self, if_true, Option.some.injEq]
  rw [Bool.eq_iff_iff, List.any_eq_true, decide_eq_true_eq]
  constructor
  · rintro ⟨y, hy, e⟩
    rw [(h2 y hy).eqv h] at e
    rw [← e]; exact hy
  · intro hd
    exact ⟨d, hd, ((h2 d hd).eqv h).mpr rfl⟩
@[simp] theorem eqD_int (i j : Int) : eqD (.int i) (.int j) = some (decide (i = j)) := by
  rw [eqD_nice (Nice.int (k := 0) i) (Nice.int (k := 0) j) (by omega) (by omega)]
  simp

/-! ### loops -/
theorem lcGo_flat {bnd : D → Option Env} {c : Env → Option D} {e : Env → Option (List D)} {p : D → Bool} {g : D → List D} : ∀ {xs : List D},
    (∀ x ∈ xs, ∃ env, bnd x = some env ∧ c env = some (.bl (p x)) ∧ (p x = true → e env = some (g x))) → lcGo bnd c e xs = some ((xs.filter p).flatMap g)
  | [], _ => rfl
  | x :: xs, h => by
    obtain ⟨env, h1, h2, h3⟩ := h x (List.mem_cons_self ..)
    have ih := lcGo_flat (xs := xs) fun y hy => h y (List.mem_cons_of_mem _ hy)
    unfold lcGo
    rw [h1, Option.bind_some, h2]
    cases hp : p x with
    | true =>
      simp only [h3 hp, Option.bind_some, ih, Option.map_some, List.filter_cons, hp, if_true, List.flatMap_cons]
    | false =>
      simp only [ih, List.filter_cons, hp, Bool.false_eq_true, if_false]
theorem lcGo_map {bnd : D → Option Env} {c : Env → Option D} {e : Env → Option (List D)} {f : D → D} {xs : List D}
    (h : ∀ x ∈ xs, ∃ env, bnd x = some env ∧ c env = some (.bl true) ∧ e env = some [f x]) : lcGo bnd c e xs = some (xs.map f) := by
  rw [lcGo_flat (p := fun _ => true) (g := fun x => [f x]) fun x hx => ?_]
  · congr 1
    rw [List.filter_eq_self.mpr (fun _ _ => rfl)]
    induction xs with
    | nil => rfl
    | cons x xs ih => rw [List.flatMap_cons, ih (fun y hy => h y (List.mem_cons_of_mem _ hy))]; rfl
  · obtain ⟨env, h1, h2, h3⟩ := h x hx
    exact ⟨env, h1, h2, fun _ => h3⟩
theorem lcGo_filt {bnd : D → Option Env} {c : Env → Option D} {e : Env → Option (List D)} {p : D → Bool} {f : D → D} {xs : List D}
    (h : ∀ x ∈ xs, ∃ env, bnd x = some env ∧ c env = some (.bl (p x)) ∧ (p x = true → e env = some [f x])) : lcGo bnd c e xs = some ((xs.filter p).map f) := by
  rw [lcGo_flat (p := p) (g := fun x => [f x]) h]
  congr 1
  induction xs.filter p with
  | nil => rfl
  | cons x xs ih => rw [List.flatMap_cons, ih]; rfl
/-- a loop whose body always goes on: R holds between a state and the names, step is a turn -/
theorem forGo_inv {σ : Type} {R : σ → FEnv → Prop} {step : σ → D → σ} {bnd : D → FEnv → Option FEnv} {body : FEnv → Option Out} : ∀ {xs : List D} {s : σ} {env : FEnv},
    (∀ x ∈ xs, ∀ s env, R s env → ∃ env1, bnd x env = some env1 ∧ ∃ e', (body env1 = some (.nx e') ∨ body env1 = some (.ct e')) ∧ R (step s x) e') → R s env →
      ∃ e', forGo bnd body xs env = some (.nx e') ∧ R (xs.foldl step s) e'
  | [], s, env, _, r => ⟨env, rfl, r⟩
  | x :: xs, s, env, h, r => by
    obtain ⟨env1, h1, e', h2, r'⟩ := h x (List.mem_cons_self ..) s env r
    obtain ⟨e2, h3, r2⟩ := forGo_inv (xs := xs) (fun y hy => h y (List.mem_cons_of_mem _ hy)) r'
    refine ⟨e2, ?_, r2⟩
    unfold forGo
    rw [h1, Option.bind_some]
    rcases h2 with h2 | h2 <;> rw [h2] <;> exact h3
/-- the same with the state not told: an invariant -/
theorem forGo_keep {R : FEnv → Prop} {bnd : D → FEnv → Option FEnv} {body : FEnv → Option Out} {xs : List D} {env : FEnv}
    (h : ∀ x ∈ xs, ∀ env, R env → ∃ env1, bnd x env = some env1 ∧ ∃ e', (body env1 = some (.nx e') ∨ body env1 = some (.ct e')) ∧ R e') (r : R env) :
      ∃ e', forGo bnd body xs env = some (.nx e') ∧ R e' := by
  obtain ⟨e', h1, h2⟩ := forGo_inv (σ := Unit) (R := fun _ e => R e) (step := fun _ _ => ()) (s := ()) (fun x hx _ env r => h x hx env r) r
  exact ⟨e', h1, h2⟩
/-- with the place: at the i-th turn from below -/
theorem forGo_at {P : Nat → FEnv → Prop} {bnd : D → FEnv → Option FEnv} {body : FEnv → Option Out} : ∀ {xs : List D} {i : Nat} {env : FEnv},
    (∀ j x, xs[j]? = some x → ∀ env, P (i + j) env → ∃ env1, bnd x env = some env1 ∧ ∃ e', (body env1 = some (.nx e') ∨ body env1 = some (.ct e')) ∧ P (i + j + 1) e') → P i env →
      ∃ e', forGo bnd body xs env = some (.nx e') ∧ P (i + xs.length) e'
  | [], i, env, _, r => ⟨env, rfl, r⟩
  | x :: xs, i, env, h, r => by
    obtain ⟨env1, h1, e', h2, r'⟩ := h 0 x rfl env r
    obtain ⟨e2, h3, r2⟩ := forGo_at (P := P) (xs := xs) (i := i + 1) (fun j y hy env r => by
      have := h (j + 1) y hy env (by rw [show i + (j + 1) = i + 1 + j by omega]; exact r)
      rw [show i + (j + 1) + 1 = i + 1 + j + 1 by omega] at this
      exact this) r'
    refine ⟨e2, ?_, by rw [show i + (x :: xs).length = i + 1 + xs.length by simp; omega]; exact r2⟩
    unfold forGo
    rw [h1, Option.bind_some]
    rcases h2 with h2 | h2 <;> rw [h2] <;> exact h3
theorem fns_succ {tb : List Fn} {n i : Nat} {fn : Fn} {ds : List D} (h : tb[i]? = some fn) : fns tb (n + 1) i ds = runFn (fns tb n) fn ds := by
  show (match tb[i]? with | some fn => runFn (fns tb n) fn ds | none => none) = _
  rw [h]
theorem mem_range {a b : Int} {x : D} : x ∈ rangeD a b ↔ ∃ i : Int, x = .int i ∧ a ≤ i ∧ i < b := by
  unfold rangeD
  rw [List.mem_map]
  constructor
  · rintro ⟨j, hj, rfl⟩
    rw [List.mem_range] at hj
    exact ⟨_, rfl, by omega, by omega⟩
  · rintro ⟨i, rfl, h1, h2⟩
    exact ⟨(i - a).toNat, by rw [List.mem_range]; omega, by congr 1; omega⟩
theorem range_len {a b : Int} : (rangeD a b).length = (b - a).toNat := by simp [rangeD]
/-! ### what the operators ask -/
theorem log2_small {n : Nat} (h : n < 2 ^ 64) : n.log2 < 64 := by
  by_cases h0 : n = 0
  · subst h0; decide
  · exact (Nat.log2_lt h0).mpr h
theorem divOk_of {j : Int} (h : 0 < j) (hb : j < 2 ^ 64) : divOk j = true := by
  unfold divOk
  have := log2_small (n := j.natAbs) (by omega)
  have h2 : decide (j.natAbs.log2 < 9000) = true := decide_eq_true (by omega)
  rw [decide_eq_true h, h2]
  rfl
theorem mulOk_l {i j : Int} (h : -(2 ^ 64) < i) (h2 : i < 2 ^ 64) : mulOk i j = true := by
  unfold mulOk
  have : decide (i.natAbs < 18446744073709551616) = true := decide_eq_true (by omega)
  rw [this]; rfl
theorem mulOk_r {i j : Int} (h : -(2 ^ 64) < j) (h2 : j < 2 ^ 64) : mulOk i j = true := by
  unfold mulOk
  have : decide (j.natAbs < 18446744073709551616) = true := decide_eq_true (by omega)
  rw [this]; simp
theorem fdiv_pos {i j : Int} (h : 0 < j) : i.fdiv j = i / j := Int.fdiv_eq_ediv_of_nonneg _ (by omega)
theorem emod_small {a n : Int} (h : 0 < n) : 0 ≤ a % n ∧ a % n < n := ⟨Int.emod_nonneg _ (by omega), Int.emod_lt_of_pos _ h⟩
theorem idxL_nat {α : Type} {xs : List α} {i : Nat} (h : i < xs.length) : idxL xs (i : Int) = some xs[i] := by
  unfold idxL ixN
  rw [if_pos (by omega), if_pos (by omega)]
  simp
theorem idxL_int {α : Type} {xs : List α} {i : Int} (h : 0 ≤ i) (h2 : i < xs.length) : idxL xs i = some (xs[i.toNat]'(by omega)) := by
  obtain ⟨k, rfl⟩ : ∃ k : Nat, i = k := ⟨i.toNat, by omega⟩
  simp only [Int.toNat_natCast]
  exact idxL_nat (by omega)
theorem whGo_t {c : FEnv → Option D} {body : FEnv → Option Out} {n : Nat} {env e : FEnv} (hc : c env = some (.bl true)) (hb : body env = some (.nx e)) : whGo c body (n + 1) env = whGo c body n e := by
  conv => lhs; unfold whGo
  rw [hc, hb]
theorem whGo_f {c : FEnv → Option D} {body : FEnv → Option Out} {n : Nat} {env : FEnv} (hc : c env = some (.bl false)) : whGo c body (n + 1) env = some (.nx env) := by
  conv => lhs; unfold whGo
  rw [hc]
/-! ### the loops' and the comprehensions' heads -/
section
variable {Φ : Fns} {t t' : T} {it it' a a' e c : E} {b : S} {env : FEnv} {en : Env} {d : D} {xs : List D}
theorem for_rng1 {n : Int} (h : ev Φ a (shw env) = some (.int n)) (hr : rgOk n = true) : evS Φ (.for_ t (.rng1 a) b) env = forGo (fun x env => bindF t x env) (fun env => evS Φ b env) (rangeD 0 n) env := by
  simp [evS, ev, h, hr, asSeq]
theorem for_rng2 {m n : Int} (h : ev Φ a (shw env) = some (.int m)) (h' : ev Φ a' (shw env) = some (.int n)) (hr : rgOk m = true) (hr' : rgOk n = true) : evS Φ (.for_ t (.rng2 a a') b) env = forGo (fun x env => bindF t x env) (fun env => evS Φ b env) (rangeD m n) env := by
  simp [evS, ev, h, h', hr, hr', asSeq]
theorem for_var {i : Nat} (h : ev Φ (.var i) (hid env) = some d) (hs : asSeq d = some xs) : evS Φ (.for_ t (.var i) b) env = forGo (fun x env => bindF t x env) (fun env => evS Φ b env) xs env := by
  simp only [evS, h, Option.bind_some, hs]
theorem for_tup (h : ev Φ (.tup a) (hid env) = some d) (hs : asSeq d = some xs) : evS Φ (.for_ t (.tup a) b) env = forGo (fun x env => bindF t x env) (fun env => evS Φ b env) xs env := by
  simp only [evS, h, Option.bind_some, hs]
theorem for_call {f : Nat} (h : ev Φ (.call f a) (hid env) = some d) (hs : asSeq d = some xs) : evS Φ (.for_ t (.call f a) b) env = forGo (fun x env => bindF t x env) (fun env => evS Φ b env) xs env := by
  simp only [evS, h, Option.bind_some, hs]
theorem for_zip (h : ev Φ (.zip a a') (hid env) = some d) (hs : asSeq d = some xs) : evS Φ (.for_ t (.zip a a') b) env = forGo (fun x env => bindF t x env) (fun env => evS Φ b env) xs env := by
  simp only [evS, h, Option.bind_some, hs]
theorem for_enu (h : ev Φ (.enu a) (hid env) = some d) (hs : asSeq d = some xs) : evS Φ (.for_ t (.enu a) b) env = forGo (fun x env => bindF t x env) (fun env => evS Φ b env) xs env := by
  simp only [evS, h, Option.bind_some, hs]
theorem limL_of (h : xs.length ≤ LIM) : limL xs = some (.lst xs) := if_pos h
theorem lc_filt {p : D → Bool} {f : D → D} (h1 : ev Φ it en = some d) (h2 : asSeq d = some xs) (h3 : ∀ x ∈ xs, ∃ en', bindT t x (wipeE en t.slots) = some en' ∧ ev Φ c en' = some (.bl (p x)) ∧ (p x = true → ev Φ e en' = some (f x))) (h4 : xs.length ≤ LIM) :
    ev Φ (.lc t it c e) en = some (.lst ((xs.filter p).map f)) := by
  simp only [ev, h1, Option.bind_some, h2]
  rw [lcGo_filt (p := p) (f := f) fun x hx => ?_]
  · rw [Option.bind_some, limL_of]
    rw [List.length_map]
    exact Nat.le_trans (List.length_filter_le ..) h4
  · obtain ⟨en', e1, e2, e3⟩ := h3 x hx
    exact ⟨en', e1, e2, fun hp => by rw [e3 hp]; rfl⟩
theorem lc_map {f : D → D} (h1 : ev Φ it en = some d) (h2 : asSeq d = some xs) (h3 : ∀ x ∈ xs, ∃ en', bindT t x (wipeE en t.slots) = some en' ∧ ev Φ e en' = some (f x)) (h4 : xs.length ≤ LIM) :
    ev Φ (.lc t it (.bl true) e) en = some (.lst (xs.map f)) := by
  rw [lc_filt (p := fun _ => true) (f := f) h1 h2 (fun x hx => ?_) h4]
  · rw [List.filter_eq_self.mpr (fun _ _ => rfl)]
  · obtain ⟨en', e1, e2⟩ := h3 x hx
    exact ⟨en', e1, by simp [ev], fun _ => e2⟩
theorem lc2_all {g : D → List D} {f : D → D → D} (h1 : ev Φ it en = some d) (h2 : asSeq d = some xs)
    (h3 : ∀ x ∈ xs, ∃ en' d', bindT t x (wipeE en (t.slots ++ t'.slots)) = some en' ∧ ev Φ it' en' = some d' ∧ asSeq d' = some (g x) ∧ ∀ y ∈ g x, ∃ e2, bindT t' y (wipeE en' t'.slots) = some e2 ∧ ev Φ e e2 = some (f x y))
    (h4 : (xs.flatMap fun x => (g x).map (f x)).length ≤ LIM) :
    ev Φ (.lc2 t it (.bl true) t' it' (.bl true) e) en = some (.lst (xs.flatMap fun x => (g x).map (f x))) := by
  simp only [ev, h1, Option.bind_some, h2]
  rw [lcGo_flat (p := fun _ => true) (g := fun x => (g x).map (f x)) fun x hx => ?_]
  · rw [Option.bind_some, List.filter_eq_self.mpr (fun _ _ => rfl), limL_of h4]
  · obtain ⟨en', d', e1, e2, e3, e4⟩ := h3 x hx
    refine ⟨en', e1, rfl, fun _ => ?_⟩
    simp only [e2, Option.bind_some, e3]
    refine lcGo_map fun y hy => ?_
    obtain ⟨e5, q1, q2⟩ := e4 y hy
    exact ⟨e5, q1, rfl, by rw [q2]; rfl⟩
end
section
variable {Φ : Fns} {t : T} {a a' it : E} {b : S} {env : FEnv}
/-- a loop over range(n): P i holds ahead of the i-th turn -/
theorem at_rng {P : Nat → FEnv → Prop} {n : Int} (h : ev Φ a (shw env) = some (.int n)) (hr : rgOk n = true) (init : P 0 env)
    (step : ∀ j : Nat, (j : Int) < n → ∀ e, P j e → ∃ e1, bindF t (.int j) e = some e1 ∧ ∃ e', (evS Φ b e1 = some (.nx e') ∨ evS Φ b e1 = some (.ct e')) ∧ P (j + 1) e') :
    ∃ e', evS Φ (.for_ t (.rng1 a) b) env = some (.nx e') ∧ P n.toNat e' := by
  rw [for_rng1 h hr]
  have k := forGo_at (P := P) (xs := rangeD 0 n) (i := 0) (env := env) (bnd := fun x env => bindF t x env) (body := fun env => evS Φ b env) (fun j x hx e pe => ?_) init
  · rw [range_len] at k
    simpa using k
  · obtain ⟨hj, rfl⟩ := List.getElem?_eq_some_iff.mp hx
    rw [range_len] at hj
    have ex : (rangeD 0 n)[j] = D.int j := by simp [rangeD]
    rw [Nat.zero_add] at pe ⊢
    obtain ⟨e1, h1, e', h2, h3⟩ := step j (by omega) e pe
    rw [ex]
    exact ⟨e1, h1, e', h2, h3⟩
/-- a loop over a list of data -/
theorem at_var {P : Nat → FEnv → Prop} {i : Nat} {d : D} {xs : List D} (h : ev Φ (.var i) (hid env) = some d) (hs : asSeq d = some xs) (init : P 0 env)
    (step : ∀ (j : Nat) (x : D), xs[j]? = some x → ∀ e, P j e → ∃ e1, bindF t x e = some e1 ∧ ∃ e', (evS Φ b e1 = some (.nx e') ∨ evS Φ b e1 = some (.ct e')) ∧ P (j + 1) e') :
    ∃ e', evS Φ (.for_ t (.var i) b) env = some (.nx e') ∧ P xs.length e' := by
  rw [for_var h hs]
  have k := forGo_at (P := P) (xs := xs) (i := 0) (env := env) (bnd := fun x env => bindF t x env) (body := fun env => evS Φ b env) (fun j x hx e pe => ?_) init
  · simpa using k
  · rw [Nat.zero_add] at pe ⊢
    exact step j x hx e pe
/-- the same by a fold: R between a state and the names -/
theorem fo_var {σ : Type} {R : σ → FEnv → Prop} {f : σ → D → σ} {s : σ} {i : Nat} {d : D} {xs : List D} (h : ev Φ (.var i) (hid env) = some d) (hs : asSeq d = some xs) (init : R s env)
    (step : ∀ x ∈ xs, ∀ s e, R s e → ∃ e1, bindF t x e = some e1 ∧ ∃ e', (evS Φ b e1 = some (.nx e') ∨ evS Φ b e1 = some (.ct e')) ∧ R (f s x) e') :
    ∃ e', evS Φ (.for_ t (.var i) b) env = some (.nx e') ∧ R (xs.foldl f s) e' := by
  rw [for_var h hs]
  exact forGo_inv step init
end
section
variable {Φ : Fns} {a b : S} {c : E} {env e : FEnv} {o : Out}
theorem seq_nx (h : evS Φ a env = some (.nx e)) : evS Φ (.seq a b) env = evS Φ b e := by simp only [evS, h, Option.bind_some]
theorem iff_t (h : ev Φ c (shw env) = some (.bl true)) : evS Φ (.iff c a b) env = evS Φ a env := by simp only [evS, h]
theorem iff_f (h : ev Φ c (shw env) = some (.bl false)) : evS Φ (.iff c a b) env = evS Φ b env := by simp only [evS, h]
theorem asg_of {i : Nat} {x : E} {m : Md} {d : D} (h : ev Φ x (if m.sh then shw env else hid env) = some d) (k : keepD m d = true) : evS Φ (.asg i x m) env = some (.nx (env.set i (some (m.own, d)))) := by
  simp only [evS, evM, h, Option.bind_some, k, if_true, Option.map_some]
theorem ret_of {x : E} {m : Md} {d : D} (h : ev Φ x (if m.sh then shw env else hid env) = some d) (k : keepD m d = true) : evS Φ (.ret x m) env = some (.rt m.own d) := by
  simp only [evS, evM, h, Option.bind_some, k, if_true, Option.map_some]
end
/-- a loop that may leave by a return -/
theorem forGo_some {R : FEnv → Prop} {q : D → Option D} {o : Bool} {bnd : D → FEnv → Option FEnv} {body : FEnv → Option Out} : ∀ {xs : List D} {env : FEnv},
    (∀ x ∈ xs, ∀ env, R env → ∃ env1, bnd x env = some env1 ∧ (match q x with
      | some d => body env1 = some (.rt o d)
      | none => ∃ e', (body env1 = some (.nx e') ∨ body env1 = some (.ct e')) ∧ R e')) → R env →
    (match xs.findSome? q with
      | some d => forGo bnd body xs env = some (.rt o d)
      | none => ∃ e', forGo bnd body xs env = some (.nx e') ∧ R e')
  | [], env, _, r => ⟨env, rfl, r⟩
  | x :: xs, env, h, r => by
    obtain ⟨env1, h1, h2⟩ := h x (List.mem_cons_self ..) env r
    rw [List.findSome?_cons]
    cases hq : q x with
    | some d =>
      rw [hq] at h2
      simp only [forGo, h1, Option.bind_some, h2]
    | none =>
      rw [hq] at h2
      obtain ⟨e', h3, r'⟩ := h2
      have ih := forGo_some (xs := xs) (fun y hy => h y (List.mem_cons_of_mem _ hy)) r'
      have e : forGo bnd body (x :: xs) env = forGo bnd body xs e' := by
        conv => lhs; unfold forGo
        rw [h1, Option.bind_some]
        rcases h3 with h3 | h3 <;> rw [h3]
      rw [e]
      exact ih
/-! ### each once -/
noncomputable def dd1 (acc : List D) (x : D) : List D := if x ∈ acc then acc else acc ++ [x]
noncomputable def dd (xs : List D) : List D := xs.foldl dd1 []
theorem dd_snoc {xs : List D} {x : D} : dd (xs ++ [x]) = dd1 (dd xs) x := by simp [dd, List.foldl_append]
theorem mem_dd1 {acc : List D} {x y : D} : y ∈ dd1 acc x ↔ y ∈ acc ∨ y = x := by
  unfold dd1
  split
  · rename_i h
    exact ⟨.inl, fun k => k.elim id fun e => e ▸ h⟩
  · simp
theorem mem_foldl_dd {xs : List D} : ∀ {acc : List D} {y : D}, y ∈ xs.foldl dd1 acc ↔ y ∈ acc ∨ y ∈ xs := by
  induction xs with
  | nil => intro acc y; simp
  | cons x xs ih => intro acc y; rw [List.foldl_cons, ih, mem_dd1, List.mem_cons, or_assoc]
theorem mem_dd {xs : List D} {y : D} : y ∈ dd xs ↔ y ∈ xs := by
  unfold dd
  rw [mem_foldl_dd]
  simp
theorem foldl_dd_len {xs : List D} : ∀ {acc : List D}, (xs.foldl dd1 acc).length ≤ acc.length + xs.length := by
  induction xs with
  | nil => intro acc; simp
  | cons x xs ih =>
    intro acc
    rw [List.foldl_cons]
    have h1 : (dd1 acc x).length ≤ acc.length + 1 := by unfold dd1; split <;> simp
    have h2 := ih (acc := dd1 acc x)
    simp only [List.length_cons]
    omega
theorem dd_len {xs : List D} : (dd xs).length ≤ xs.length := by
  have := foldl_dd_len (xs := xs) (acc := [])
  simpa [dd] using this
theorem foldl_dd_in {xs acc : List D} (h : ∀ x ∈ xs, x ∈ acc) : xs.foldl dd1 acc = acc := by
  induction xs with
  | nil => rfl
  | cons x xs ih =>
    rw [List.foldl_cons]
    have : dd1 acc x = acc := if_pos (h x (List.mem_cons_self ..))
    rw [this]
    exact ih fun y hy => h y (List.mem_cons_of_mem _ hy)
theorem snocRec {P : List D → Prop} (h0 : P []) (h1 : ∀ xs x, P xs → P (xs ++ [x])) (xs : List D) : P xs := by
  have : P xs.reverse.reverse := by
    induction xs.reverse with
    | nil => exact h0
    | cons x ys ih => rw [List.reverse_cons]; exact h1 _ _ ih
  rwa [List.reverse_reverse] at this
theorem dd_flatMap {g : D → List D} (xs : List D) : dd ((dd xs).flatMap g) = dd (xs.flatMap g) := by
  induction xs using snocRec with
  | h0 => rfl
  | h1 xs x ih =>
    rw [dd_snoc, List.flatMap_append]
    have e : dd (xs.flatMap g ++ [x].flatMap g) = (g x).foldl dd1 (dd (xs.flatMap g)) := by
      simp [dd, List.foldl_append]
    rw [e]
    by_cases h : x ∈ dd xs
    · have : dd1 (dd xs) x = dd xs := if_pos h
      rw [this, ih, foldl_dd_in]
      intro y hy
      rw [mem_dd]
      exact List.mem_flatMap.mpr ⟨x, mem_dd.mp h, hy⟩
    · have : dd1 (dd xs) x = dd xs ++ [x] := if_neg h
      rw [this, List.flatMap_append, ← ih]
      simp [dd, List.foldl_append]
theorem dd_one {x : D} : dd [x] = [x] := by simp [dd, dd1]
/-! ### places -/
def nth (xs : List D) : D → D
  | .int j => xs.getD j.toNat .non
  | _ => .non
theorem nth_nat {xs : List D} {j : Nat} : nth xs (.int j) = xs.getD j .non := by simp [nth]
theorem idx_nth {xs : List D} {i : Int} (h : 0 ≤ i) (h2 : i < xs.length) : idxL xs i = some (nth xs (.int i)) := by
  rw [idxL_int h h2]
  simp only [nth]
  rw [List.getD_eq_getElem?_getD, List.getElem?_eq_getElem (by omega)]
  rfl
theorem nth_mem {xs : List D} {i : Int} (h : 0 ≤ i) (h2 : i < xs.length) : nth xs (.int i) ∈ xs := by
  simp only [nth]
  rw [List.getD_eq_getElem?_getD, List.getElem?_eq_getElem (by omega)]
  exact List.getElem_mem _
theorem range_nth {xs : List D} {a : Nat} {β : Type} {g : D → β} : (rangeD a xs.length).map (fun t => g (nth xs t)) = (xs.drop a).map g := by
  refine List.ext_getElem (by simp [range_len]) fun i h1 h2 => ?_
  simp only [List.length_map, range_len, List.length_drop] at h1 h2
  simp only [List.getElem_map, List.getElem_drop, rangeD]
  congr 1
  simp only [List.getElem_range]
  have : (a : Int) + (i : Int) = ((a + i : Nat) : Int) := by omega
  rw [this, nth_nat, List.getD_eq_getElem?_getD, List.getElem?_eq_getElem (by omega)]
  rfl
theorem range0_nth {xs : List D} {β : Type} {g : D → β} : (rangeD 0 xs.length).map (fun t => g (nth xs t)) = xs.map g := by
  have := range_nth (xs := xs) (a := 0) (g := g)
  simpa using this
def eIx : D → Nat
  | .tup [.int i, _] => i.toNat
  | _ => 0
def eIt : D → D
  | .tup [_, x] => x
  | _ => .non
theorem enumD_eq {xs : List D} : ∀ {k : Nat}, enumD k xs = (List.range xs.length).map fun i => .tup [.int ((k + i : Nat) : Int), xs.getD i .non] := by
  induction xs with
  | nil => intro k; rfl
  | cons x xs ih =>
    intro k
    rw [enumD, ih, List.length_cons, List.range_succ_eq_map, List.map_cons, List.map_map]
    simp only [Nat.add_zero, List.getD_cons_zero, List.cons.injEq, true_and]
    refine List.map_congr_left fun i _ => ?_
    simp only [Function.comp, List.getD_cons_succ]
    rw [show k + 1 + i = k + i.succ by omega]
theorem ev_rng1 {Φ : Fns} {a : E} {en : Env} {n : Int} (h : ev Φ a en = some (.int n)) (hr : rgOk n = true) : ev Φ (.rng1 a) en = some (.lst (rangeD 0 n)) := by
  simp only [ev, h, Option.bind_some, hr, if_true]
theorem ev_rng2 {Φ : Fns} {a a' : E} {en : Env} {m n : Int} (h : ev Φ a en = some (.int m)) (h' : ev Φ a' en = some (.int n)) (hr : rgOk m = true) (hr' : rgOk n = true) : ev Φ (.rng2 a a') en = some (.lst (rangeD m n)) := by
  simp only [ev, h, h', Option.bind_some, hr, hr', Bool.and_self, if_true]
theorem rgOk_sm {n : Int} (h : -1000000 ≤ n) (h2 : n ≤ 1000000) : rgOk n = true := by
  unfold rgOk
  rw [decide_eq_true (show -1000000000 ≤ n by omega), decide_eq_true (show n ≤ 1000000000 by omega)]
  rfl
end PyD

namespace PyD
open PySem L2 RZ StX PyProof.Rows
/-! ### the text -/
def top (i : Nat) : Stmt := PySem.Challenge.pw_weighedgrids_k56_sums_of_lists.main.body.getD i (.Pass ⟨0, 0, 0, 0⟩)
def b_lowest : S :=
      (.seq (.asg 2 (.bi .gcd (.cons (.var 0) (.cons (.var 1) .nil))) {})
      (.seq (.iff (.cmp .lt (.var 1) (.int 0))
      (.asg 2 (.neg (.var 2)) {})
      .skip)
      (.ret (.tup (.cons (.bin .fdiv (.var 0) (.var 2)) (.cons (.bin .fdiv (.var 1) (.var 2)) .nil))) {})))

def b_number_of : S :=
      (.seq (.iff (.cmp .gt (.var 0) (.int 0))
      (.ret (.bin .mod (.var 1) (.var 0)) {})
      .skip)
      (.ret (.tup (.cons (.var 1) (.cons (.int 1) .nil))) {}))

def b_add : S :=
      (.seq (.iff (.cmp .gt (.var 0) (.int 0))
      (.ret (.bin .mod (.bin .add (.var 1) (.var 2)) (.var 0)) {})
      .skip)
      (.ret (.call 0 (.cons (.bin .add (.bin .mul (.idx (.var 1) (.int 0)) (.idx (.var 2) (.int 1))) (.bin .mul (.idx (.var 2) (.int 0)) (.idx (.var 1) (.int 1)))) (.cons (.bin .mul (.idx (.var 1) (.int 1)) (.idx (.var 2) (.int 1))) .nil))) {}))

def l_different_1 : S :=
      (.for_ (.nm 2) (.var 0)
      (.iff (.cmp .notin (.var 2) (.var 1))
      (.app 1 (.var 2) {})
      .skip))
def b_different : S :=
      (.seq (.asg 1 (.lst .nil) { own := true })
      (.seq l_different_1
      (.retv 1)))

def c_values_taken_1 : E :=
      (.lc (.tp [2, 3]) (.zip (.var 0) (.var 1)) (.cmp .notin (.var 3) (.tup (.cons (.int 0) (.cons (.tup (.cons (.int 0) (.cons (.int 1) .nil))) .nil)))) (.var 2))
def b_values_taken : S :=
      (.ret (.call 3 (.cons c_values_taken_1 .nil)) {})

def c_sums_of_2 : E :=
      (.lc2 (.nm 4) (.var 2) (.bl true) (.nm 5) (.var 3) (.bl true) (.call 2 (.cons (.var 0) (.cons (.var 4) (.cons (.var 5) .nil)))))
def l_sums_of_1 : S :=
      (.for_ (.nm 3) (.var 1)
      (.asg 2 (.call 3 (.cons c_sums_of_2 .nil)) { own := true, sh := true }))
def b_sums_of : S :=
      (.seq (.asg 2 (.lst (.cons (.call 1 (.cons (.var 0) (.cons (.int 0) .nil))) .nil)) { own := true })
      (.seq l_sums_of_1
      (.retv 2)))

def c_unlike_sums_1 : E :=
      (.lc2 (.tp [3, 4]) (.enu (.var 1)) (.bl true) (.nm 2) (.sl (.var 1) (.bin .add (.var 3) (.int 1)) .nil) (.bl true) (.call 2 (.cons (.var 0) (.cons (.var 4) (.cons (.var 2) .nil)))))
def b_unlike_sums : S :=
      (.ret (.call 3 (.cons c_unlike_sums_1 .nil)) { own := true })

def c_sum_bound_1 : E :=
      (.lc (.nm 3) (.var 1) (.bl true) (.bin .sub (.var 3) (.int 1)))
def b_sum_bound : S :=
      (.seq (.asg 2 (.bin .add (.int 1) (.bi .sum (.cons c_sum_bound_1 .nil))) {})
      (.seq (.iff (.cmp .gt (.var 0) (.int 0))
      (.ret (.bi .min2 (.cons (.var 0) (.cons (.var 2) .nil))) {})
      .skip)
      (.ret (.var 2) {})))

def l_new_sum_2 : S :=
      (.for_ (.nm 5) (.var 2)
      (.iff (.cmp .notin (.call 2 (.cons (.var 0) (.cons (.var 4) (.cons (.var 5) .nil)))) (.var 3))
      (.ret (.tup (.cons (.var 4) (.cons (.var 5) .nil))) {})
      .skip))
def l_new_sum_1 : S :=
      (.for_ (.nm 4) (.var 1)
      l_new_sum_2)
def b_new_sum : S :=
      (.seq l_new_sum_1
      (.ret .non {}))

def l__law_pool_2 : S :=
      (.for_ (.nm 5) (.rng1 (.var 1))
      (.iff (.cmp .gt (.var 6) (.int 0))
      (.seq (.app 2 (.bin .mod (.var 6) (.int 1000)) {})
      (.asg 6 (.bin .fdiv (.var 6) (.int 1000)) {}))
      .skip))
def l__law_pool_3 : S :=
      (.for_ (.nm 5) (.rng1 (.int 6))
      (.seq (.asg 7 (.bin .mod (.bi .int (.cons (.bin .add (.bin .mul (.var 7) (.int 48271)) (.int 11)) .nil)) (.int 2147483647)) {})
      (.app 2 (.bin .mod (.bin .fdiv (.var 7) (.int 7)) (.int 1000)) {})))
def l__law_pool_1 : S :=
      (.for_ (.nm 4) (.var 0)
      (.seq (.asg 6 (.ite (.cmp .ge (.var 4) (.int 0)) (.bin .mul (.int 2) (.bi .int (.cons (.var 4) .nil))) (.bin .sub (.bin .mul (.neg (.int 2)) (.bi .int (.cons (.var 4) .nil))) (.int 1))) {})
      (.seq (.asg 3 (.bin .mod (.bi .int (.cons (.bin .add (.bin .mul (.var 3) (.int 31)) (.var 6)) .nil)) (.int 2147483629)) {})
      (.iff (.cmp .ge (.var 6) (.bin .pow (.int 10) (.int 18)))
      l__law_pool_2
      (.seq (.asg 7 (.bin .mod (.bi .int (.cons (.bin .add (.bin .mul (.bin .add (.var 6) (.int 5)) (.int 40692)) (.int 977)) .nil)) (.int 2147483399)) {})
      l__law_pool_3)))))
def l__law_pool_4 : S :=
      (.for_ (.nm 5) (.rng1 (.var 1))
      (.seq (.asg 3 (.bin .mod (.bi .int (.cons (.bin .add (.bin .mul (.var 3) (.int 69621)) (.int 13)) .nil)) (.int 2147483629)) {})
      (.app 2 (.bin .mod (.bin .fdiv (.var 3) (.int 11)) (.int 1000)) {})))
def b__law_pool : S :=
      (.seq (.asg 2 (.lst .nil) { own := true })
      (.seq (.asg 3 (.int 7) {})
      (.seq l__law_pool_1
      (.seq l__law_pool_4
      (.frz [2] (.ret (.sl (.var 2) .nil (.var 1)) {}))))))

def l__law_common_1 : S :=
      (.while_ (.cmp .ne (.var 1) (.int 0))
      (.par 0 1 (.var 1) (.bin .mod (.bi .int (.cons (.var 0) .nil)) (.var 1)) {} {}))
def b__law_common : S :=
      (.seq (.asg 0 (.bi .abs (.cons (.var 0) .nil)) {})
      (.seq (.asg 1 (.bi .abs (.cons (.var 1) .nil)) {})
      (.seq l__law_common_1
      (.ret (.var 0) {}))))

def b__law_number : S :=
      (.seq (.iff (.cmp .gt (.var 0) (.int 0))
      (.ret (.bin .mod (.bi .int (.cons (.var 1) .nil)) (.var 0)) {})
      .skip)
      (.seq (.par 4 5 (.bin .sub (.bin .mod (.bi .int (.cons (.var 1) .nil)) (.int 19)) (.int 9)) (.bin .add (.int 1) (.bin .mod (.bi .int (.cons (.var 2) .nil)) (.int 4))) {} {})
      (.seq (.asg 3 (.call 10 (.cons (.var 4) (.cons (.var 5) .nil))) {})
      (.ret (.tup (.cons (.bin .fdiv (.var 4) (.var 3)) (.cons (.bin .fdiv (.var 5) (.var 3)) .nil))) {}))))

def b__law_sum : S :=
      (.seq (.iff (.cmp .gt (.var 0) (.int 0))
      (.ret (.bin .mod (.bi .int (.cons (.bin .add (.var 1) (.var 2)) .nil)) (.var 0)) {})
      .skip)
      (.seq (.par 4 5 (.bin .add (.bin .mul (.idx (.var 1) (.int 0)) (.idx (.var 2) (.int 1))) (.bin .mul (.idx (.var 2) (.int 0)) (.idx (.var 1) (.int 1)))) (.bin .mul (.idx (.var 1) (.int 1)) (.idx (.var 2) (.int 1))) {} {})
      (.seq (.asg 3 (.call 10 (.cons (.var 4) (.cons (.var 5) .nil))) {})
      (.ret (.tup (.cons (.bin .fdiv (.var 4) (.var 3)) (.cons (.bin .fdiv (.var 5) (.var 3)) .nil))) {}))))

def l__law_unlike_1 : S :=
      (.for_ (.nm 2) (.var 0)
      (.iff (.cmp .notin (.var 2) (.var 1))
      (.app 1 (.var 2) {})
      .skip))
def b__law_unlike : S :=
      (.seq (.asg 1 (.lst .nil) { own := true })
      (.seq l__law_unlike_1
      (.frz [1] (.ret (.var 1) {}))))

def c__law_list_1 : E :=
      (.lc (.nm 6) (.rng1 (.bin .mod (.idx (.var 0) (.var 1)) (.var 4))) (.bl true) (.call 11 (.cons (.var 2) (.cons (.idx (.var 0) (.bin .add (.bin .add (.var 1) (.int 1)) (.bin .mul (.int 2) (.var 6)))) (.cons (.idx (.var 0) (.bin .add (.bin .add (.var 1) (.int 2)) (.bin .mul (.int 2) (.var 6)))) .nil)))))
def b__law_list : S :=
      (.seq (.asg 5 c__law_list_1 {})
      (.ret (.ite (.var 3) (.call 13 (.cons (.var 5) .nil)) (.var 5)) {}))

def c__law_sums_3 : E :=
      (.lc (.nm 6) (.var 3) (.bl true) (.call 12 (.cons (.var 0) (.cons (.var 5) (.cons (.var 6) .nil)))))
def l__law_sums_2 : S :=
      (.for_ (.nm 5) (.var 2)
      (.asg 4 (.bin .add (.var 4) c__law_sums_3) {}))
def l__law_sums_1 : S :=
      (.for_ (.nm 3) (.var 1)
      (.seq (.asg 4 (.lst .nil) {})
      (.seq l__law_sums_2
      (.asg 2 (.var 4) {}))))
def b__law_sums : S :=
      (.seq (.asg 2 (.lst (.cons (.ite (.cmp .gt (.var 0) (.int 0)) (.int 0) (.tup (.cons (.int 0) (.cons (.int 1) .nil)))) .nil)) {})
      (.seq l__law_sums_1
      (.ret (.call 13 (.cons (.var 2) .nil)) {})))

def l__law_six_1 : S :=
      (.for_ (.nm 3) (.rng1 (.int 6))
      (.seq (.asg 6 (.call 14 (.cons (.var 0) (.cons (.bin .add (.int 120) (.bin .mul (.int 25) (.var 3))) (.cons (.var 1) (.cons (.var 2) (.cons (.int 13) .nil)))))) {})
      (.seq (.app 4 (.sl (.var 6) .nil (.var 5)) {})
      (.asg 5 (.bin .fdiv (.var 5) (.bi .max2 (.cons (.int 1) (.cons (.bi .len (.cons (.idx (.var 4) (.neg (.int 1))) .nil)) .nil)))) { sh := true }))))
def b__law_six : S :=
      (.seq (.par 4 5 (.lst .nil) (.int 1000) { own := true } {})
      (.seq l__law_six_1
      (.frz [4] (.ret (.var 4) {}))))

def l__law_is_2 : S :=
      (.for_ (.nm 5) (.var 4)
      (.iff (.or (.not (.isi (.var 5) .int)) (.one (.isi (.var 5) .bool)))
      (.ret (.bl false) {})
      .skip))
def l__law_is_1 : S :=
      (.for_ (.nm 3) (.rng1 (.bi .len (.cons (.var 2) .nil)))
      (.seq (.asg 4 (.ite (.cmp .gt (.var 0) (.int 0)) (.lst (.cons (.idx (.var 1) (.var 3)) .nil)) (.idx (.var 1) (.var 3))) {})
      (.seq (.iff (.and (.cmp .eq (.var 0) (.int 0)) (.one (.or (.not (.isi (.idx (.var 1) (.var 3)) .tuple)) (.one (.cmp .ne (.bi .len (.cons (.idx (.var 1) (.var 3)) .nil)) (.int 2))))))
      (.ret (.bl false) {})
      .skip)
      (.seq l__law_is_2
      (.iff (.cmp .ne (.idx (.var 1) (.var 3)) (.idx (.var 2) (.var 3)))
      (.ret (.bl false) {})
      .skip)))))
def b__law_is : S :=
      (.seq (.iff (.or (.not (.isi (.var 1) .list)) (.one (.cmp .ne (.bi .len (.cons (.var 1) .nil)) (.bi .len (.cons (.var 2) .nil)))))
      (.ret (.bl false) {})
      .skip)
      (.seq l__law_is_1
      (.ret (.bl true) {})))

def c__law_taken_1 : E :=
      (.lc (.nm 4) (.rng1 (.bi .min2 (.cons (.int 65) (.cons (.bi .len (.cons (.var 2) .nil)) .nil)))) (.cmp .ne (.var 4) (.var 5)) (.idx (.var 2) (.var 4)))
def l__law_taken_2 : S :=
      (.for_ (.nm 4) (.rng1 (.bin .mod (.idx (.var 0) (.int 54)) (.int 7)))
      (.iff (.cmp .gt (.bi .len (.cons (.var 2) .nil)) (.int 0))
      (.app 3 (.idx (.var 2) (.bin .mod (.idx (.var 0) (.bin .add (.int 55) (.var 4))) (.bi .len (.cons (.var 2) .nil)))) {})
      .skip))
def b__law_taken : S :=
      (.seq (.iff (.cmp .eq (.bin .mod (.idx (.var 0) (.int 50)) (.int 4)) (.int 0))
      (.ret (.sl (.var 2) .nil (.int 64)) {})
      .skip)
      (.seq (.iff (.and (.cmp .eq (.bin .mod (.idx (.var 0) (.int 50)) (.int 4)) (.int 1)) (.one (.cmp .gt (.bi .len (.cons (.var 2) .nil)) (.int 0))))
      (.seq (.asg 5 (.bin .mod (.idx (.var 0) (.int 51)) (.bi .min2 (.cons (.int 65) (.cons (.bi .len (.cons (.var 2) .nil)) .nil)))) {})
      (.ret c__law_taken_1 {}))
      .skip)
      (.seq (.asg 3 (.lst (.cons (.call 11 (.cons (.var 1) (.cons (.idx (.var 0) (.int 52)) (.cons (.idx (.var 0) (.int 53)) .nil)))) .nil)) { own := true })
      (.seq l__law_taken_2
      (.frz [3] (.ret (.var 3) {}))))))

def l__law_pair_2 : S :=
      (.for_ (.nm 5) (.var 2)
      (.iff (.cmp .notin (.call 12 (.cons (.var 0) (.cons (.var 4) (.cons (.var 5) .nil)))) (.var 3))
      (.ret (.tup (.cons (.var 4) (.cons (.var 5) .nil))) {})
      .skip))
def l__law_pair_1 : S :=
      (.for_ (.nm 4) (.var 1)
      l__law_pair_2)
def b__law_pair : S :=
      (.seq l__law_pair_1
      (.ret .non {}))

def c__law_bounds_1 : E :=
      (.lc (.nm 8) (.rng1 (.bin .mod (.idx (.var 0) (.int 69)) (.int 5))) (.bl true) (.bin .add (.int 1) (.bin .mod (.idx (.var 0) (.bin .add (.int 70) (.var 8))) (.int 9))))
def l__law_bounds_2 : S :=
      (.for_ (.nm 4) (.var 2)
      (.asg 3 (.bin .sub (.bin .add (.var 3) (.var 4)) (.int 1)) {}))
def l__law_bounds_3 : S :=
      (.for_ (.nm 6) (.tup (.cons (.var 2) (.cons (.bi .tuple (.cons (.var 2) .nil)) .nil)))
      (.seq (.asg 7 (.call 7 (.cons (.var 1) (.cons (.var 6) .nil))) {})
      (.iff (.or (.not (.isi (.var 7) .int)) (.or (.isi (.var 7) .bool) (.one (.cmp .ne (.var 7) (.var 3)))))
      (.ret (.bl false) {})
      .skip)))
def b__law_bounds : S :=
      (.seq (.asg 2 c__law_bounds_1 { own := true })
      (.seq (.iff (.cmp .eq (.bin .mod (.idx (.var 0) (.int 75)) (.int 5)) (.int 0))
      (.app 2 (.bin .add (.int 1) (.bin .mul (.idx (.var 0) (.int 76)) (.idx (.var 0) (.int 77)))) {})
      .skip)
      (.seq (.asg 3 (.int 1) {})
      (.seq (.frz [2] l__law_bounds_2)
      (.seq (.iff (.chain .lt .lt (.int 0) (.var 1) (.var 3))
      (.asg 3 (.var 1) {})
      .skip)
      (.seq (.asg 5 (.bi .list (.cons (.var 2) .nil)) {})
      (.seq l__law_bounds_3
      (.ret (.cmp .eq (.var 2) (.var 5)) {}))))))))

def c__law_pairs_2 : E :=
      (.lc (.nm 4) (.rng2 (.bin .add (.var 3) (.int 1)) (.bi .len (.cons (.var 1) .nil))) (.bl true) (.call 12 (.cons (.var 0) (.cons (.idx (.var 1) (.var 3)) (.cons (.idx (.var 1) (.var 4)) .nil)))))
def l__law_pairs_1 : S :=
      (.for_ (.nm 3) (.rng1 (.bi .len (.cons (.var 1) .nil)))
      (.asg 2 (.bin .add (.var 2) c__law_pairs_2) {}))
def b__law_pairs : S :=
      (.seq (.asg 2 (.lst .nil) {})
      (.seq l__law_pairs_1
      (.ret (.call 13 (.cons (.var 2) .nil)) {})))

def c__law_side_1 : E :=
      (.lc (.nm 4) (.rng1 (.bi .len (.cons (.var 2) .nil))) (.bl true) (.call 11 (.cons (.var 1) (.cons (.idx (.var 0) (.bin .add (.int 80) (.bin .mul (.int 2) (.var 4)))) (.cons (.idx (.var 0) (.bin .add (.int 81) (.bin .mul (.int 2) (.var 4)))) .nil)))))
def l__law_side_2 : S :=
      (.for_ (.nm 4) (.rng1 (.bi .len (.cons (.var 3) .nil)))
      (.iff (.cmp .eq (.bin .mod (.idx (.var 0) (.bin .add (.int 104) (.var 4))) (.int 3)) (.int 0))
      (.setI 3 (.var 4) (.ite (.cmp .gt (.var 1) (.int 0)) (.int 0) (.tup (.cons (.int 0) (.cons (.int 1) .nil)))) {})
      .skip))
def c__law_side_3 : E :=
      (.lc (.nm 4) (.rng1 (.bi .len (.cons (.var 2) .nil))) (.cmp .ne (.idx (.var 3) (.var 4)) (.var 5)) (.idx (.var 2) (.var 4)))
def b__law_side : S :=
      (.seq (.asg 3 c__law_side_1 { own := true })
      (.seq l__law_side_2
      (.seq (.asg 5 (.ite (.cmp .gt (.var 1) (.int 0)) (.int 0) (.tup (.cons (.int 0) (.cons (.int 1) .nil)))) {})
      (.seq (.frz [3] (.asg 6 (.call 13 (.cons c__law_side_3 .nil)) {}))
      (.seq (.asg 7 (.lst (.cons (.bi .list (.cons (.var 2) .nil)) (.cons (.bi .list (.cons (.var 3) .nil)) .nil))) {})
      (.ret (.and (.call 17 (.cons (.var 1) (.cons (.call 4 (.cons (.var 2) (.cons (.var 3) .nil))) (.cons (.var 6) .nil)))) (.one (.cmp .eq (.lst (.cons (.var 2) (.cons (.var 3) .nil))) (.var 7)))) {}))))))

def b_law : S :=
      (.seq (.asg 1 (.call 9 (.cons (.var 0) (.cons (.int 280) .nil))) {})
      (.seq (.asg 2 (.idx (.tup (.cons (.int 2) (.cons (.int 3) (.cons (.int 5) (.cons (.int 7) (.cons (.int 11) (.cons (.int 0) .nil))))))) (.bin .mod (.idx (.var 1) (.int 0)) (.int 6))) {})
      (.seq (.asg 3 (.cmp .eq (.bin .mod (.idx (.var 1) (.int 1)) (.int 2)) (.int 0)) {})
      (.seq (.par 13 14 (.call 14 (.cons (.var 1) (.cons (.int 2) (.cons (.var 2) (.cons (.var 3) (.cons (.int 7) .nil)))))) (.call 14 (.cons (.var 1) (.cons (.int 16) (.cons (.var 2) (.cons (.var 3) (.cons (.int 7) .nil)))))) {} {})
      (.seq (.asg 4 (.call 14 (.cons (.var 1) (.cons (.int 30) (.cons (.var 2) (.cons (.var 3) (.cons (.int 7) .nil)))))) {})
      (.seq (.iff (.cmp .eq (.bin .mod (.idx (.var 1) (.int 116)) (.int 4)) (.int 0))
      (.seq (.asg 15 (.call 16 (.cons (.var 1) (.cons (.var 2) (.cons (.var 3) .nil)))) {})
      (.seq (.iff (.not (.call 17 (.cons (.var 2) (.cons (.call 5 (.cons (.var 2) (.cons (.idx (.var 15) (.int 0)) (.cons (.idx (.var 15) (.int 1)) (.cons (.idx (.var 15) (.int 2)) (.cons (.idx (.var 15) (.int 3)) (.cons (.idx (.var 15) (.int 4)) (.cons (.idx (.var 15) (.int 5)) .nil)))))))) (.cons (.call 15 (.cons (.var 2) (.cons (.var 15) .nil))) .nil)))))
      (.ret (.bl false) {})
      .skip)
      (.par 13 14 (.call 14 (.cons (.var 1) (.cons (.int 145) (.cons (.var 2) (.cons (.var 3) (.cons (.int 13) .nil)))))) (.call 14 (.cons (.var 1) (.cons (.int 170) (.cons (.var 2) (.cons (.var 3) (.cons (.int 13) .nil)))))) {} {})))
      .skip)
      (.seq (.asg 5 (.lst (.cons (.bi .list (.cons (.var 13) .nil)) (.cons (.bi .list (.cons (.var 14) .nil)) (.cons (.bi .list (.cons (.var 4) .nil)) .nil)))) {})
      (.seq (.iff (.not (.call 17 (.cons (.var 2) (.cons (.call 5 (.cons (.var 2) .nil)) (.cons (.call 15 (.cons (.var 2) (.cons (.lst .nil) .nil))) .nil)))))
      (.ret (.bl false) {})
      .skip)
      (.seq (.iff (.not (.call 17 (.cons (.var 2) (.cons (.call 5 (.cons (.var 2) (.cons (.var 14) .nil))) (.cons (.call 13 (.cons (.var 14) .nil)) .nil)))))
      (.ret (.bl false) {})
      .skip)
      (.seq (.asg 6 (.call 15 (.cons (.var 2) (.cons (.lst (.cons (.var 13) (.cons (.var 14) .nil))) .nil))) {})
      (.seq (.asg 7 (.call 5 (.cons (.var 2) (.cons (.var 13) (.cons (.var 14) .nil)))) { own := true })
      (.seq (.iff (.not (.call 17 (.cons (.var 2) (.cons (.var 7) (.cons (.var 6) .nil)))))
      (.ret (.bl false) {})
      .skip)
      (.seq (.app 7 (.var 6) {})
      (.seq (.iff (.not (.call 17 (.cons (.var 2) (.cons (.call 5 (.cons (.var 2) (.cons (.var 13) (.cons (.var 14) .nil)))) (.cons (.var 6) .nil)))))
      (.ret (.bl false) {})
      .skip)
      (.seq (.iff (.not (.call 17 (.cons (.var 2) (.cons (.call 5 (.cons (.var 2) (.cons (.var 4) (.cons (.var 13) (.cons (.var 14) .nil))))) (.cons (.call 15 (.cons (.var 2) (.cons (.lst (.cons (.var 4) (.cons (.var 13) (.cons (.var 14) .nil)))) .nil))) .nil)))))
      (.ret (.bl false) {})
      .skip)
      (.seq (.asg 8 (.call 21 (.cons (.var 2) (.cons (.var 4) .nil))) {})
      (.seq (.asg 7 (.call 6 (.cons (.var 2) (.cons (.var 4) .nil))) { own := true })
      (.seq (.iff (.not (.call 17 (.cons (.var 2) (.cons (.var 7) (.cons (.var 8) .nil)))))
      (.ret (.bl false) {})
      .skip)
      (.seq (.app 7 (.var 8) {})
      (.seq (.iff (.not (.call 17 (.cons (.var 2) (.cons (.call 6 (.cons (.var 2) (.cons (.var 4) .nil))) (.cons (.var 8) .nil)))))
      (.ret (.bl false) {})
      .skip)
      (.seq (.iff (.not (.call 17 (.cons (.var 2) (.cons (.call 6 (.cons (.var 2) (.cons (.var 13) .nil))) (.cons (.call 21 (.cons (.var 2) (.cons (.var 13) .nil))) .nil)))))
      (.ret (.bl false) {})
      .skip)
      (.seq (.asg 9 (.call 18 (.cons (.var 1) (.cons (.var 2) (.cons (.var 6) .nil)))) {})
      (.seq (.asg 10 (.bi .list (.cons (.var 9) .nil)) {})
      (.seq (.asg 11 (.call 8 (.cons (.var 2) (.cons (.var 13) (.cons (.var 14) (.cons (.var 9) .nil))))) {})
      (.seq (.asg 12 (.call 19 (.cons (.var 2) (.cons (.var 13) (.cons (.var 14) (.cons (.var 9) .nil))))) {})
      (.seq (.iff (.and (.isN (.var 12)) (.one (.notN (.var 11))))
      (.ret (.bl false) {})
      .skip)
      (.seq (.iff (.and (.notN (.var 12)) (.one (.or (.not (.isi (.var 11) .tuple)) (.one (.not (.call 17 (.cons (.var 2) (.cons (.bi .list (.cons (.var 11) .nil)) (.cons (.bi .list (.cons (.var 12) .nil)) .nil)))))))))
      (.ret (.bl false) {})
      .skip)
      (.seq (.iff (.or (.cmp .ne (.lst (.cons (.var 13) (.cons (.var 14) (.cons (.var 4) .nil)))) (.var 5)) (.one (.cmp .ne (.var 9) (.var 10))))
      (.ret (.bl false) {})
      .skip)
      (.ret (.and (.call 20 (.cons (.var 1) (.cons (.var 2) .nil))) (.one (.call 22 (.cons (.var 1) (.cons (.var 2) (.cons (.bin .add (.var 13) (.var 4)) .nil)))))) {})))))))))))))))))))))))))))))

def f_lowest : Fn := { name := "lowest", ps := ["n", "d"], names := ["n", "d", "common"], body := b_lowest }
def f_number_of : Fn := { name := "number_of", ps := ["prime", "n"], names := ["prime", "n"], body := b_number_of }
def f_add : Fn := { name := "add", ps := ["prime", "a", "b"], names := ["prime", "a", "b"], body := b_add }
def f_different : Fn := { name := "different", ps := ["numbers"], names := ["numbers", "found", "number"], body := b_different, fr := true }
def f_values_taken : Fn := { name := "values_taken", ps := ["values", "side"], names := ["values", "side", "value", "other"], body := b_values_taken }
def f_sums_of : Fn := { name := "sums_of", ps := ["prime", "lists"], names := ["prime", "lists", "sums", "numbers", "a", "b"], body := b_sums_of, fr := true, star := true }
def f_unlike_sums : Fn := { name := "unlike_sums", ps := ["prime", "numbers"], names := ["prime", "numbers", "b", "index", "a"], body := b_unlike_sums, fr := true }
def f_sum_bound : Fn := { name := "sum_bound", ps := ["prime", "lengths"], names := ["prime", "lengths", "bound", "length"], body := b_sum_bound }
def f_new_sum : Fn := { name := "new_sum", ps := ["prime", "first", "second", "taken"], names := ["prime", "first", "second", "taken", "a", "b"], body := b_new_sum }
def f__law_pool : Fn := { name := "_law_pool", ps := ["script", "count"], names := ["script", "count", "pool", "total", "cell", "k", "left", "mixed"], body := b__law_pool }
def f__law_common : Fn := { name := "_law_common", ps := ["a", "b"], names := ["a", "b"], body := b__law_common }
def f__law_number : Fn := { name := "_law_number", ps := ["prime", "a", "b"], names := ["prime", "a", "b", "common", "n", "d"], body := b__law_number }
def f__law_sum : Fn := { name := "_law_sum", ps := ["prime", "a", "b"], names := ["prime", "a", "b", "common", "n", "d"], body := b__law_sum }
def f__law_unlike : Fn := { name := "_law_unlike", ps := ["numbers"], names := ["numbers", "found", "number"], body := b__law_unlike }
def f__law_list : Fn := { name := "_law_list", ps := ["pool", "at", "prime", "single", "most"], names := ["pool", "at", "prime", "single", "most", "numbers", "k"], body := b__law_list }
def f__law_sums : Fn := { name := "_law_sums", ps := ["prime", "lists"], names := ["prime", "lists", "sums", "numbers", "wider", "number", "other"], body := b__law_sums }
def f__law_six : Fn := { name := "_law_six", ps := ["pool", "prime", "single"], names := ["pool", "prime", "single", "k", "lists", "room", "numbers"], body := b__law_six }
def f__law_is : Fn := { name := "_law_is", ps := ["prime", "told", "due"], names := ["prime", "told", "due", "k", "parts", "part"], body := b__law_is }
def f__law_taken : Fn := { name := "_law_taken", ps := ["pool", "prime", "sums"], names := ["pool", "prime", "sums", "taken", "k", "spared"], body := b__law_taken }
def f__law_pair : Fn := { name := "_law_pair", ps := ["prime", "first", "second", "taken"], names := ["prime", "first", "second", "taken", "a", "b"], body := b__law_pair }
def f__law_bounds : Fn := { name := "_law_bounds", ps := ["pool", "prime"], names := ["pool", "prime", "lengths", "due", "length", "kept", "handed", "told", "k"], body := b__law_bounds }
def f__law_pairs : Fn := { name := "_law_pairs", ps := ["prime", "numbers"], names := ["prime", "numbers", "sums", "i", "j"], body := b__law_pairs }
def f__law_side : Fn := { name := "_law_side", ps := ["pool", "prime", "values"], names := ["pool", "prime", "values", "side", "k", "zero", "due", "kept"], body := b__law_side }
def f_law : Fn := { name := "law", ps := ["script"], names := ["script", "pool", "prime", "single", "third", "kept", "due", "told", "pairs", "taken", "spare", "pair", "chosen", "first", "second", "six"], body := b_law }
abbrev i_lowest : Nat := 0
abbrev i_number_of : Nat := 1
abbrev i_add : Nat := 2
abbrev i_different : Nat := 3
abbrev i_values_taken : Nat := 4
abbrev i_sums_of : Nat := 5
abbrev i_unlike_sums : Nat := 6
abbrev i_sum_bound : Nat := 7
abbrev i_new_sum : Nat := 8
abbrev i__law_pool : Nat := 9
abbrev i__law_common : Nat := 10
abbrev i__law_number : Nat := 11
abbrev i__law_sum : Nat := 12
abbrev i__law_unlike : Nat := 13
abbrev i__law_list : Nat := 14
abbrev i__law_sums : Nat := 15
abbrev i__law_six : Nat := 16
abbrev i__law_is : Nat := 17
abbrev i__law_taken : Nat := 18
abbrev i__law_pair : Nat := 19
abbrev i__law_bounds : Nat := 20
abbrev i__law_pairs : Nat := 21
abbrev i__law_side : Nat := 22
abbrev i_law : Nat := 23
def tb : List Fn := [f_lowest, f_number_of, f_add, f_different, f_values_taken, f_sums_of, f_unlike_sums, f_sum_bound, f_new_sum, f__law_pool, f__law_common, f__law_number, f__law_sum, f__law_unlike, f__law_list, f__law_sums, f__law_six, f__law_is, f__law_taken, f__law_pair, f__law_bounds, f__law_pairs, f__law_side, f_law]
theorem ck_lowest : chkS { tb := tb, N := ["n", "d", "common"], gcd := true } (defScope (top 2)) b_lowest (.blk (defBody (top 2))) = true := by decide +kernel
theorem sc_lowest : FnScope ["n", "d", "common"] ["n", "d"] (defScope (top 2)) := ⟨rfl, rfl, rfl, by decide +kernel, rfl, by decide +kernel, by decide +kernel⟩
theorem ck_number_of : chkS { tb := tb, N := ["prime", "n"], gcd := true } (defScope (top 3)) b_number_of (.blk (defBody (top 3))) = true := by decide +kernel
theorem sc_number_of : FnScope ["prime", "n"] ["prime", "n"] (defScope (top 3)) := ⟨rfl, rfl, rfl, by decide +kernel, rfl, by decide +kernel, by decide +kernel⟩
theorem ck_add : chkS { tb := tb, N := ["prime", "a", "b"], gcd := true } (defScope (top 4)) b_add (.blk (defBody (top 4))) = true := by decide +kernel
theorem sc_add : FnScope ["prime", "a", "b"] ["prime", "a", "b"] (defScope (top 4)) := ⟨rfl, rfl, rfl, by decide +kernel, rfl, by decide +kernel, by decide +kernel⟩
theorem ck_different : chkS { tb := tb, N := ["numbers", "found", "number"], gcd := true } (defScope (top 6)) b_different (.blk (defBody (top 6))) = true := by decide +kernel
theorem sc_different : FnScope ["numbers", "found", "number"] ["numbers"] (defScope (top 6)) := ⟨rfl, rfl, rfl, by decide +kernel, rfl, by decide +kernel, by decide +kernel⟩
theorem ck_values_taken : chkS { tb := tb, N := ["values", "side", "value", "other"], gcd := true } (defScope (top 7)) b_values_taken (.blk (defBody (top 7))) = true := by decide +kernel
theorem sc_values_taken : FnScope ["values", "side", "value", "other"] ["values", "side"] (defScope (top 7)) := ⟨rfl, rfl, rfl, by decide +kernel, rfl, by decide +kernel, by decide +kernel⟩
theorem ck_sums_of : chkS { tb := tb, N := ["prime", "lists", "sums", "numbers", "a", "b"], gcd := true } (defScope (top 8)) b_sums_of (.blk (defBody (top 8))) = true := by decide +kernel
theorem sc_sums_of : FnScope ["prime", "lists", "sums", "numbers", "a", "b"] ["prime", "lists"] (defScope (top 8)) := ⟨rfl, rfl, rfl, by decide +kernel, rfl, by decide +kernel, by decide +kernel⟩
theorem ck_unlike_sums : chkS { tb := tb, N := ["prime", "numbers", "b", "index", "a"], gcd := true } (defScope (top 9)) b_unlike_sums (.blk (defBody (top 9))) = true := by decide +kernel
theorem sc_unlike_sums : FnScope ["prime", "numbers", "b", "index", "a"] ["prime", "numbers"] (defScope (top 9)) := ⟨rfl, rfl, rfl, by decide +kernel, rfl, by decide +kernel, by decide +kernel⟩
theorem ck_sum_bound : chkS { tb := tb, N := ["prime", "lengths", "bound", "length"], gcd := true } (defScope (top 10)) b_sum_bound (.blk (defBody (top 10))) = true := by decide +kernel
theorem sc_sum_bound : FnScope ["prime", "lengths", "bound", "length"] ["prime", "lengths"] (defScope (top 10)) := ⟨rfl, rfl, rfl, by decide +kernel, rfl, by decide +kernel, by decide +kernel⟩
theorem ck_new_sum : chkS { tb := tb, N := ["prime", "first", "second", "taken", "a", "b"], gcd := true } (defScope (top 11)) b_new_sum (.blk (defBody (top 11))) = true := by decide +kernel
theorem sc_new_sum : FnScope ["prime", "first", "second", "taken", "a", "b"] ["prime", "first", "second", "taken"] (defScope (top 11)) := ⟨rfl, rfl, rfl, by decide +kernel, rfl, by decide +kernel, by decide +kernel⟩
theorem ck__law_pool : chkS { tb := tb, N := ["script", "count", "pool", "total", "cell", "k", "left", "mixed"], gcd := true } (defScope (top 13)) b__law_pool (.blk (defBody (top 13))) = true := by decide +kernel
theorem sc__law_pool : FnScope ["script", "count", "pool", "total", "cell", "k", "left", "mixed"] ["script", "count"] (defScope (top 13)) := ⟨rfl, rfl, rfl, by decide +kernel, rfl, by decide +kernel, by decide +kernel⟩
theorem ck__law_common : chkS { tb := tb, N := ["a", "b"], gcd := true } (defScope (top 14)) b__law_common (.blk (defBody (top 14))) = true := by decide +kernel
theorem sc__law_common : FnScope ["a", "b"] ["a", "b"] (defScope (top 14)) := ⟨rfl, rfl, rfl, by decide +kernel, rfl, by decide +kernel, by decide +kernel⟩
theorem ck__law_number : chkS { tb := tb, N := ["prime", "a", "b", "common", "n", "d"], gcd := true } (defScope (top 15)) b__law_number (.blk (defBody (top 15))) = true := by decide +kernel
theorem sc__law_number : FnScope ["prime", "a", "b", "common", "n", "d"] ["prime", "a", "b"] (defScope (top 15)) := ⟨rfl, rfl, rfl, by decide +kernel, rfl, by decide +kernel, by decide +kernel⟩
theorem ck__law_sum : chkS { tb := tb, N := ["prime", "a", "b", "common", "n", "d"], gcd := true } (defScope (top 16)) b__law_sum (.blk (defBody (top 16))) = true := by decide +kernel
theorem sc__law_sum : FnScope ["prime", "a", "b", "common", "n", "d"] ["prime", "a", "b"] (defScope (top 16)) := ⟨rfl, rfl, rfl, by decide +kernel, rfl, by decide +kernel, by decide +kernel⟩
theorem ck__law_unlike : chkS { tb := tb, N := ["numbers", "found", "number"], gcd := true } (defScope (top 17)) b__law_unlike (.blk (defBody (top 17))) = true := by decide +kernel
theorem sc__law_unlike : FnScope ["numbers", "found", "number"] ["numbers"] (defScope (top 17)) := ⟨rfl, rfl, rfl, by decide +kernel, rfl, by decide +kernel, by decide +kernel⟩
theorem ck__law_list : chkS { tb := tb, N := ["pool", "at", "prime", "single", "most", "numbers", "k"], gcd := true } (defScope (top 18)) b__law_list (.blk (defBody (top 18))) = true := by decide +kernel
theorem sc__law_list : FnScope ["pool", "at", "prime", "single", "most", "numbers", "k"] ["pool", "at", "prime", "single", "most"] (defScope (top 18)) := ⟨rfl, rfl, rfl, by decide +kernel, rfl, by decide +kernel, by decide +kernel⟩
theorem ck__law_sums : chkS { tb := tb, N := ["prime", "lists", "sums", "numbers", "wider", "number", "other"], gcd := true } (defScope (top 19)) b__law_sums (.blk (defBody (top 19))) = true := by decide +kernel
theorem sc__law_sums : FnScope ["prime", "lists", "sums", "numbers", "wider", "number", "other"] ["prime", "lists"] (defScope (top 19)) := ⟨rfl, rfl, rfl, by decide +kernel, rfl, by decide +kernel, by decide +kernel⟩
theorem ck__law_six : chkS { tb := tb, N := ["pool", "prime", "single", "k", "lists", "room", "numbers"], gcd := true } (defScope (top 20)) b__law_six (.blk (defBody (top 20))) = true := by decide +kernel
theorem sc__law_six : FnScope ["pool", "prime", "single", "k", "lists", "room", "numbers"] ["pool", "prime", "single"] (defScope (top 20)) := ⟨rfl, rfl, rfl, by decide +kernel, rfl, by decide +kernel, by decide +kernel⟩
theorem ck__law_is : chkS { tb := tb, N := ["prime", "told", "due", "k", "parts", "part"], gcd := true } (defScope (top 21)) b__law_is (.blk (defBody (top 21))) = true := by decide +kernel
theorem sc__law_is : FnScope ["prime", "told", "due", "k", "parts", "part"] ["prime", "told", "due"] (defScope (top 21)) := ⟨rfl, rfl, rfl, by decide +kernel, rfl, by decide +kernel, by decide +kernel⟩
theorem ck__law_taken : chkS { tb := tb, N := ["pool", "prime", "sums", "taken", "k", "spared"], gcd := true } (defScope (top 22)) b__law_taken (.blk (defBody (top 22))) = true := by decide +kernel
theorem sc__law_taken : FnScope ["pool", "prime", "sums", "taken", "k", "spared"] ["pool", "prime", "sums"] (defScope (top 22)) := ⟨rfl, rfl, rfl, by decide +kernel, rfl, by decide +kernel, by decide +kernel⟩
theorem ck__law_pair : chkS { tb := tb, N := ["prime", "first", "second", "taken", "a", "b"], gcd := true } (defScope (top 23)) b__law_pair (.blk (defBody (top 23))) = true := by decide +kernel
theorem sc__law_pair : FnScope ["prime", "first", "second", "taken", "a", "b"] ["prime", "first", "second", "taken"] (defScope (top 23)) := ⟨rfl, rfl, rfl, by decide +kernel, rfl, by decide +kernel, by decide +kernel⟩
theorem ck__law_bounds : chkS { tb := tb, N := ["pool", "prime", "lengths", "due", "length", "kept", "handed", "told", "k"], gcd := true } (defScope (top 24)) b__law_bounds (.blk (defBody (top 24))) = true := by decide +kernel
theorem sc__law_bounds : FnScope ["pool", "prime", "lengths", "due", "length", "kept", "handed", "told", "k"] ["pool", "prime"] (defScope (top 24)) := ⟨rfl, rfl, rfl, by decide +kernel, rfl, by decide +kernel, by decide +kernel⟩
theorem ck__law_pairs : chkS { tb := tb, N := ["prime", "numbers", "sums", "i", "j"], gcd := true } (defScope (top 25)) b__law_pairs (.blk (defBody (top 25))) = true := by decide +kernel
theorem sc__law_pairs : FnScope ["prime", "numbers", "sums", "i", "j"] ["prime", "numbers"] (defScope (top 25)) := ⟨rfl, rfl, rfl, by decide +kernel, rfl, by decide +kernel, by decide +kernel⟩
theorem ck__law_side : chkS { tb := tb, N := ["pool", "prime", "values", "side", "k", "zero", "due", "kept"], gcd := true } (defScope (top 26)) b__law_side (.blk (defBody (top 26))) = true := by decide +kernel
theorem sc__law_side : FnScope ["pool", "prime", "values", "side", "k", "zero", "due", "kept"] ["pool", "prime", "values"] (defScope (top 26)) := ⟨rfl, rfl, rfl, by decide +kernel, rfl, by decide +kernel, by decide +kernel⟩
theorem ck_law : chkS { tb := tb, N := ["script", "pool", "prime", "single", "third", "kept", "due", "told", "pairs", "taken", "spare", "pair", "chosen", "first", "second", "six"], gcd := true } (defScope (top 27)) b_law (.blk (defBody (top 27))) = true := by decide +kernel
theorem sc_law : FnScope ["script", "pool", "prime", "single", "third", "kept", "due", "told", "pairs", "taken", "spare", "pair", "chosen", "first", "second", "six"] ["script"] (defScope (top 27)) := ⟨rfl, rfl, rfl, by decide +kernel, rfl, by decide +kernel, by decide +kernel⟩
end PyD

namespace PyD
open PySem L2 RZ StX PyProof.Rows
/-! ### the head -/
def dfs : List He.DefD := [
  ⟨("lowest", none), "lowest", "lowest", defArgs (top 2), defBody (top 2), defScope (top 2), [], []⟩,
  ⟨("number_of", none), "number_of", "number_of", defArgs (top 3), defBody (top 3), defScope (top 3), [], []⟩,
  ⟨("add", none), "add", "add", defArgs (top 4), defBody (top 4), defScope (top 4), [], []⟩,
  ⟨("different", none), "different", "different", defArgs (top 6), defBody (top 6), defScope (top 6), [], []⟩,
  ⟨("values_taken", none), "values_taken", "values_taken", defArgs (top 7), defBody (top 7), defScope (top 7), [], []⟩,
  ⟨("sums_of", none), "sums_of", "sums_of", defArgs (top 8), defBody (top 8), defScope (top 8), [], []⟩,
  ⟨("unlike_sums", none), "unlike_sums", "unlike_sums", defArgs (top 9), defBody (top 9), defScope (top 9), [], []⟩,
  ⟨("sum_bound", none), "sum_bound", "sum_bound", defArgs (top 10), defBody (top 10), defScope (top 10), [], []⟩,
  ⟨("new_sum", none), "new_sum", "new_sum", defArgs (top 11), defBody (top 11), defScope (top 11), [], []⟩,
  ⟨("_law_pool", none), "_law_pool", "_law_pool", defArgs (top 13), defBody (top 13), defScope (top 13), [], []⟩,
  ⟨("_law_common", none), "_law_common", "_law_common", defArgs (top 14), defBody (top 14), defScope (top 14), [], []⟩,
  ⟨("_law_number", none), "_law_number", "_law_number", defArgs (top 15), defBody (top 15), defScope (top 15), [], []⟩,
  ⟨("_law_sum", none), "_law_sum", "_law_sum", defArgs (top 16), defBody (top 16), defScope (top 16), [], []⟩,
  ⟨("_law_unlike", none), "_law_unlike", "_law_unlike", defArgs (top 17), defBody (top 17), defScope (top 17), [], []⟩,
  ⟨("_law_list", none), "_law_list", "_law_list", defArgs (top 18), defBody (top 18), defScope (top 18), [], []⟩,
  ⟨("_law_sums", none), "_law_sums", "_law_sums", defArgs (top 19), defBody (top 19), defScope (top 19), [], []⟩,
  ⟨("_law_six", none), "_law_six", "_law_six", defArgs (top 20), defBody (top 20), defScope (top 20), [], []⟩,
  ⟨("_law_is", none), "_law_is", "_law_is", defArgs (top 21), defBody (top 21), defScope (top 21), [], []⟩,
  ⟨("_law_taken", none), "_law_taken", "_law_taken", defArgs (top 22), defBody (top 22), defScope (top 22), [], []⟩,
  ⟨("_law_pair", none), "_law_pair", "_law_pair", defArgs (top 23), defBody (top 23), defScope (top 23), [], []⟩,
  ⟨("_law_bounds", none), "_law_bounds", "_law_bounds", defArgs (top 24), defBody (top 24), defScope (top 24), [], []⟩,
  ⟨("_law_pairs", none), "_law_pairs", "_law_pairs", defArgs (top 25), defBody (top 25), defScope (top 25), [], []⟩,
  ⟨("_law_side", none), "_law_side", "_law_side", defArgs (top 26), defBody (top 26), defScope (top 26), [], []⟩,
  ⟨("law", none), "law", "law", defArgs (top 27), defBody (top 27), defScope (top 27), [], []⟩]
def fas : List He.Fa := [.glo "lowest", .glo "number_of", .glo "add", .glo "different", .glo "values_taken", .glo "sums_of", .glo "unlike_sums", .glo "sum_bound", .glo "new_sum", .glo "_law_pool", .glo "_law_common", .glo "_law_number", .glo "_law_sum", .glo "_law_unlike", .glo "_law_list", .glo "_law_sums", .glo "_law_six", .glo "_law_is", .glo "_law_taken", .glo "_law_pair", .glo "_law_bounds", .glo "_law_pairs", .glo "_law_side", .glo "law"]
def fre : List He.Fa := biNames.map .free
def exb (K : PySem.W.Frag) : Bool := He.eqO (PySem.W.nsIn K mainGlobals "gcd") (some (some (.builtin "math.gcd")))
abbrev R : PySem.W.OpenRow := PySem.W.OpenLaw.row PySem.Challenge.rw_weighedgrids_k56_sums_of_lists
abbrev hk : PySem.W.Hook := He.hookX 4 (fas ++ fre) dfs [] [] exb
def ob (s : PySem.W.SharedT) : He.AlX := He.obsX 4 (fas ++ fre) dfs [] [] exb (HandSHeadRun.getT s)
theorem ob_eq (s : PySem.W.SharedT) : ob s = hk.obs s.abs := He.obsX_eq (HandSHeadRun.getT_eq s)
def nm0 : List Str := ["gcd", "lowest", "number_of", "add", "different", "values_taken", "sums_of", "unlike_sums", "sum_bound", "new_sum", "_law_pool", "_law_common", "_law_number", "_law_sum", "_law_unlike", "_law_list", "_law_sums", "_law_six", "_law_is", "_law_taken", "_law_pair", "_law_bounds", "_law_pairs", "_law_side"]
def nms : List Str := nm0
theorem run (w : World) : HandSHeadRun.RunEqI R (PySem.W.view R.prog [0, 27]) hk ob 4000 nms w := by
  unfold HandSHeadRun.RunEqI; kernel_rfl
theorem tabok {w : World} {h : Heap} {mg : Str → Option Value} {K : PySem.W.Frag} (KX : K.In h) (G : h.Ns mainGlobals mg) (c : He.SaysX (fas ++ fre) dfs [] [] exb w h K) : TabOk K mg tb true := by
  refine ⟨fun f fn hf => ?_, fun nm hn => ?_, ?_⟩
  · match f, hf with
    | 0, hf =>
      obtain rfl : f_lowest = fn := Option.some.inj hf
      obtain ⟨fd, F⟩ := c.t.d.def_ 0 (d := ⟨("lowest", none), "lowest", "lowest", defArgs (top 2), defBody (top 2), defScope (top 2), [], []⟩) rfl
      exact ⟨_, top 2, He.glo_ok KX G (c.t.d.fact 0 (f := .glo "lowest") rfl), ⟨_, fd, fun_of F, fun _ _ _ _ _ _ _ us hl => match us, hl with | [_, _], _ => rfl, (fun h => by cases h)⟩, sc_lowest, ck_lowest⟩
    | 1, hf =>
      obtain rfl : f_number_of = fn := Option.some.inj hf
      obtain ⟨fd, F⟩ := c.t.d.def_ 1 (d := ⟨("number_of", none), "number_of", "number_of", defArgs (top 3), defBody (top 3), defScope (top 3), [], []⟩) rfl
      exact ⟨_, top 3, He.glo_ok KX G (c.t.d.fact 1 (f := .glo "number_of") rfl), ⟨_, fd, fun_of F, fun _ _ _ _ _ _ _ us hl => match us, hl with | [_, _], _ => rfl, (fun h => by cases h)⟩, sc_number_of, ck_number_of⟩
    | 2, hf =>
      obtain rfl : f_add = fn := Option.some.inj hf
      obtain ⟨fd, F⟩ := c.t.d.def_ 2 (d := ⟨("add", none), "add", "add", defArgs (top 4), defBody (top 4), defScope (top 4), [], []⟩) rfl
      exact ⟨_, top 4, He.glo_ok KX G (c.t.d.fact 2 (f := .glo "add") rfl), ⟨_, fd, fun_of F, fun _ _ _ _ _ _ _ us hl => match us, hl with | [_, _, _], _ => rfl, (fun h => by cases h)⟩, sc_add, ck_add⟩
    | 3, hf =>
      obtain rfl : f_different = fn := Option.some.inj hf
      obtain ⟨fd, F⟩ := c.t.d.def_ 3 (d := ⟨("different", none), "different", "different", defArgs (top 6), defBody (top 6), defScope (top 6), [], []⟩) rfl
      exact ⟨_, top 6, He.glo_ok KX G (c.t.d.fact 3 (f := .glo "different") rfl), ⟨_, fd, fun_of F, fun _ _ _ _ _ _ _ us hl => match us, hl with | [_], _ => rfl, (fun h => by cases h)⟩, sc_different, ck_different⟩
    | 4, hf =>
      obtain rfl : f_values_taken = fn := Option.some.inj hf
      obtain ⟨fd, F⟩ := c.t.d.def_ 4 (d := ⟨("values_taken", none), "values_taken", "values_taken", defArgs (top 7), defBody (top 7), defScope (top 7), [], []⟩) rfl
      exact ⟨_, top 7, He.glo_ok KX G (c.t.d.fact 4 (f := .glo "values_taken") rfl), ⟨_, fd, fun_of F, fun _ _ _ _ _ _ _ us hl => match us, hl with | [_, _], _ => rfl, (fun h => by cases h)⟩, sc_values_taken, ck_values_taken⟩
    | 5, hf =>
      obtain rfl : f_sums_of = fn := Option.some.inj hf
      obtain ⟨fd, F⟩ := c.t.d.def_ 5 (d := ⟨("sums_of", none), "sums_of", "sums_of", defArgs (top 8), defBody (top 8), defScope (top 8), [], []⟩) rfl
      exact ⟨_, top 8, He.glo_ok KX G (c.t.d.fact 5 (f := .glo "sums_of") rfl), ⟨_, fd, fun_of F, (fun h => by cases h), fun _ => ⟨["prime"], "lists", rfl, fun kV doc pm an cdv ct => bind_star1 (p1 := "prime") (pv := "lists") (B := fun us => bindArgs (PySem.W.fnOf "sums_of" "sums_of" (defArgs (top 8)) (defBody (top 8)) (defScope (top 8)) .none kV doc pm an cdv ct) ⟨us, []⟩) (fun _ => rfl) (fun _ _ _ => rfl)⟩⟩, sc_sums_of, ck_sums_of⟩
    | 6, hf =>
      obtain rfl : f_unlike_sums = fn := Option.some.inj hf
      obtain ⟨fd, F⟩ := c.t.d.def_ 6 (d := ⟨("unlike_sums", none), "unlike_sums", "unlike_sums", defArgs (top 9), defBody (top 9), defScope (top 9), [], []⟩) rfl
      exact ⟨_, top 9, He.glo_ok KX G (c.t.d.fact 6 (f := .glo "unlike_sums") rfl), ⟨_, fd, fun_of F, fun _ _ _ _ _ _ _ us hl => match us, hl with | [_, _], _ => rfl, (fun h => by cases h)⟩, sc_unlike_sums, ck_unlike_sums⟩
    | 7, hf =>
      obtain rfl : f_sum_bound = fn := Option.some.inj hf
      obtain ⟨fd, F⟩ := c.t.d.def_ 7 (d := ⟨("sum_bound", none), "sum_bound", "sum_bound", defArgs (top 10), defBody (top 10), defScope (top 10), [], []⟩) rfl
      exact ⟨_, top 10, He.glo_ok KX G (c.t.d.fact 7 (f := .glo "sum_bound") rfl), ⟨_, fd, fun_of F, fun _ _ _ _ _ _ _ us hl => match us, hl with | [_, _], _ => rfl, (fun h => by cases h)⟩, sc_sum_bound, ck_sum_bound⟩
    | 8, hf =>
      obtain rfl : f_new_sum = fn := Option.some.inj hf
      obtain ⟨fd, F⟩ := c.t.d.def_ 8 (d := ⟨("new_sum", none), "new_sum", "new_sum", defArgs (top 11), defBody (top 11), defScope (top 11), [], []⟩) rfl
      exact ⟨_, top 11, He.glo_ok KX G (c.t.d.fact 8 (f := .glo "new_sum") rfl), ⟨_, fd, fun_of F, fun _ _ _ _ _ _ _ us hl => match us, hl with | [_, _, _, _], _ => rfl, (fun h => by cases h)⟩, sc_new_sum, ck_new_sum⟩
    | 9, hf =>
      obtain rfl : f__law_pool = fn := Option.some.inj hf
      obtain ⟨fd, F⟩ := c.t.d.def_ 9 (d := ⟨("_law_pool", none), "_law_pool", "_law_pool", defArgs (top 13), defBody (top 13), defScope (top 13), [], []⟩) rfl
      exact ⟨_, top 13, He.glo_ok KX G (c.t.d.fact 9 (f := .glo "_law_pool") rfl), ⟨_, fd, fun_of F, fun _ _ _ _ _ _ _ us hl => match us, hl with | [_, _], _ => rfl, (fun h => by cases h)⟩, sc__law_pool, ck__law_pool⟩
    | 10, hf =>
      obtain rfl : f__law_common = fn := Option.some.inj hf
      obtain ⟨fd, F⟩ := c.t.d.def_ 10 (d := ⟨("_law_common", none), "_law_common", "_law_common", defArgs (top 14), defBody (top 14), defScope (top 14), [], []⟩) rfl
      exact ⟨_, top 14, He.glo_ok KX G (c.t.d.fact 10 (f := .glo "_law_common") rfl), ⟨_, fd, fun_of F, fun _ _ _ _ _ _ _ us hl => match us, hl with | [_, _], _ => rfl, (fun h => by cases h)⟩, sc__law_common, ck__law_common⟩
    | 11, hf =>
      obtain rfl : f__law_number = fn := Option.some.inj hf
      obtain ⟨fd, F⟩ := c.t.d.def_ 11 (d := ⟨("_law_number", none), "_law_number", "_law_number", defArgs (top 15), defBody (top 15), defScope (top 15), [], []⟩) rfl
      exact ⟨_, top 15, He.glo_ok KX G (c.t.d.fact 11 (f := .glo "_law_number") rfl), ⟨_, fd, fun_of F, fun _ _ _ _ _ _ _ us hl => match us, hl with | [_, _, _], _ => rfl, (fun h => by cases h)⟩, sc__law_number, ck__law_number⟩
    | 12, hf =>
      obtain rfl : f__law_sum = fn := Option.some.inj hf
      obtain ⟨fd, F⟩ := c.t.d.def_ 12 (d := ⟨("_law_sum", none), "_law_sum", "_law_sum", defArgs (top 16), defBody (top 16), defScope (top 16), [], []⟩) rfl
      exact ⟨_, top 16, He.glo_ok KX G (c.t.d.fact 12 (f := .glo "_law_sum") rfl), ⟨_, fd, fun_of F, fun _ _ _ _ _ _ _ us hl => match us, hl with | [_, _, _], _ => rfl, (fun h => by cases h)⟩, sc__law_sum, ck__law_sum⟩
    | 13, hf =>
      obtain rfl : f__law_unlike = fn := Option.some.inj hf
      obtain ⟨fd, F⟩ := c.t.d.def_ 13 (d := ⟨("_law_unlike", none), "_law_unlike", "_law_unlike", defArgs (top 17), defBody (top 17), defScope (top 17), [], []⟩) rfl
      exact ⟨_, top 17, He.glo_ok KX G (c.t.d.fact 13 (f := .glo "_law_unlike") rfl), ⟨_, fd, fun_of F, fun _ _ _ _ _ _ _ us hl => match us, hl with | [_], _ => rfl, (fun h => by cases h)⟩, sc__law_unlike, ck__law_unlike⟩
    | 14, hf =>
      obtain rfl : f__law_list = fn := Option.some.inj hf
      obtain ⟨fd, F⟩ := c.t.d.def_ 14 (d := ⟨("_law_list", none), "_law_list", "_law_list", defArgs (top 18), defBody (top 18), defScope (top 18), [], []⟩) rfl
      exact ⟨_, top 18, He.glo_ok KX G (c.t.d.fact 14 (f := .glo "_law_list") rfl), ⟨_, fd, fun_of F, fun _ _ _ _ _ _ _ us hl => match us, hl with | [_, _, _, _, _], _ => rfl, (fun h => by cases h)⟩, sc__law_list, ck__law_list⟩
    | 15, hf =>
      obtain rfl : f__law_sums = fn := Option.some.inj hf
      obtain ⟨fd, F⟩ := c.t.d.def_ 15 (d := ⟨("_law_sums", none), "_law_sums", "_law_sums", defArgs (top 19), defBody (top 19), defScope (top 19), [], []⟩) rfl
      exact ⟨_, top 19, He.glo_ok KX G (c.t.d.fact 15 (f := .glo "_law_sums") rfl), ⟨_, fd, fun_of F, fun _ _ _ _ _ _ _ us hl => match us, hl with | [_, _], _ => rfl, (fun h => by cases h)⟩, sc__law_sums, ck__law_sums⟩
    | 16, hf =>
      obtain rfl : f__law_six = fn := Option.some.inj hf
      obtain ⟨fd, F⟩ := c.t.d.def_ 16 (d := ⟨("_law_six", none), "_law_six", "_law_six", defArgs (top 20), defBody (top 20), defScope (top 20), [], []⟩) rfl
      exact ⟨_, top 20, He.glo_ok KX G (c.t.d.fact 16 (f := .glo "_law_six") rfl), ⟨_, fd, fun_of F, fun _ _ _ _ _ _ _ us hl => match us, hl with | [_, _, _], _ => rfl, (fun h => by cases h)⟩, sc__law_six, ck__law_six⟩
    | 17, hf =>
      obtain rfl : f__law_is = fn := Option.some.inj hf
      obtain ⟨fd, F⟩ := c.t.d.def_ 17 (d := ⟨("_law_is", none), "_law_is", "_law_is", defArgs (top 21), defBody (top 21), defScope (top 21), [], []⟩) rfl
      exact ⟨_, top 21, He.glo_ok KX G (c.t.d.fact 17 (f := .glo "_law_is") rfl), ⟨_, fd, fun_of F, fun _ _ _ _ _ _ _ us hl => match us, hl with | [_, _, _], _ => rfl, (fun h => by cases h)⟩, sc__law_is, ck__law_is⟩
    | 18, hf =>
      obtain rfl : f__law_taken = fn := Option.some.inj hf
      obtain ⟨fd, F⟩ := c.t.d.def_ 18 (d := ⟨("_law_taken", none), "_law_taken", "_law_taken", defArgs (top 22), defBody (top 22), defScope (top 22), [], []⟩) rfl
      exact ⟨_, top 22, He.glo_ok KX G (c.t.d.fact 18 (f := .glo "_law_taken") rfl), ⟨_, fd, fun_of F, fun _ _ _ _ _ _ _ us hl => match us, hl with | [_, _, _], _ => rfl, (fun h => by cases h)⟩, sc__law_taken, ck__law_taken⟩
    | 19, hf =>
      obtain rfl : f__law_pair = fn := Option.some.inj hf
      obtain ⟨fd, F⟩ := c.t.d.def_ 19 (d := ⟨("_law_pair", none), "_law_pair", "_law_pair", defArgs (top 23), defBody (top 23), defScope (top 23), [], []⟩) rfl
      exact ⟨_, top 23, He.glo_ok KX G (c.t.d.fact 19 (f := .glo "_law_pair") rfl), ⟨_, fd, fun_of F, fun _ _ _ _ _ _ _ us hl => match us, hl with | [_, _, _, _], _ => rfl, (fun h => by cases h)⟩, sc__law_pair, ck__law_pair⟩
    | 20, hf =>
      obtain rfl : f__law_bounds = fn := Option.some.inj hf
      obtain ⟨fd, F⟩ := c.t.d.def_ 20 (d := ⟨("_law_bounds", none), "_law_bounds", "_law_bounds", defArgs (top 24), defBody (top 24), defScope (top 24), [], []⟩) rfl
      exact ⟨_, top 24, He.glo_ok KX G (c.t.d.fact 20 (f := .glo "_law_bounds") rfl), ⟨_, fd, fun_of F, fun _ _ _ _ _ _ _ us hl => match us, hl with | [_, _], _ => rfl, (fun h => by cases h)⟩, sc__law_bounds, ck__law_bounds⟩
    | 21, hf =>
      obtain rfl : f__law_pairs = fn := Option.some.inj hf
      obtain ⟨fd, F⟩ := c.t.d.def_ 21 (d := ⟨("_law_pairs", none), "_law_pairs", "_law_pairs", defArgs (top 25), defBody (top 25), defScope (top 25), [], []⟩) rfl
      exact ⟨_, top 25, He.glo_ok KX G (c.t.d.fact 21 (f := .glo "_law_pairs") rfl), ⟨_, fd, fun_of F, fun _ _ _ _ _ _ _ us hl => match us, hl with | [_, _], _ => rfl, (fun h => by cases h)⟩, sc__law_pairs, ck__law_pairs⟩
    | 22, hf =>
      obtain rfl : f__law_side = fn := Option.some.inj hf
      obtain ⟨fd, F⟩ := c.t.d.def_ 22 (d := ⟨("_law_side", none), "_law_side", "_law_side", defArgs (top 26), defBody (top 26), defScope (top 26), [], []⟩) rfl
      exact ⟨_, top 26, He.glo_ok KX G (c.t.d.fact 22 (f := .glo "_law_side") rfl), ⟨_, fd, fun_of F, fun _ _ _ _ _ _ _ us hl => match us, hl with | [_, _, _], _ => rfl, (fun h => by cases h)⟩, sc__law_side, ck__law_side⟩
    | 23, hf =>
      obtain rfl : f_law = fn := Option.some.inj hf
      obtain ⟨fd, F⟩ := c.t.d.def_ 23 (d := ⟨("law", none), "law", "law", defArgs (top 27), defBody (top 27), defScope (top 27), [], []⟩) rfl
      exact ⟨_, top 27, He.glo_ok KX G (c.t.d.fact 23 (f := .glo "law") rfl), ⟨_, fd, fun_of F, fun _ _ _ _ _ _ _ us hl => match us, hl with | [_], _ => rfl, (fun h => by cases h)⟩, sc_law, ck_law⟩
    | n + 24, hf => cases hf
  · have hm : He.Fa.free nm ∈ fas ++ fre := List.mem_append_right _ (List.mem_map_of_mem hn)
    obtain ⟨j, hj⟩ := List.getElem?_of_mem hm
    exact He.free_ok KX G (c.t.d.fact j hj)
  · intro _
    exact PySem.W.mg_of KX G (He.eqO_ok c.more)
end PyD

namespace PyD
open PySem
theorem gcd_pos {a d : Int} (h : 0 < d) : 0 < (Nat.gcd a.natAbs d.natAbs : Int) := by
  have : 0 < Nat.gcd a.natAbs d.natAbs := Nat.gcd_pos_of_pos_right _ (by omega)
  omega
theorem gcd_le {a d : Int} (h : 0 < d) : (Nat.gcd a.natAbs d.natAbs : Int) ≤ d := by
  have : Nat.gcd a.natAbs d.natAbs ≤ d.natAbs := Nat.gcd_le_right _ (by omega)
  omega
/-- a fraction in lowest terms -/
def low (a d : Int) : D := .tup [.int (a / (Nat.gcd a.natAbs d.natAbs : Nat)), .int (d / (Nat.gcd a.natAbs d.natAbs : Nat))]
theorem L_lowest {n : Nat} {a d : Int} (h : 0 < d) (hd : d < 2 ^ 64) : fns tb (n + 1) i_lowest [.int a, .int d] = some (low a d) := by
  rw [fns_succ (fn := f_lowest) rfl]
  have h1 : ¬ d < 0 := by omega
  have h2 := gcd_pos (a := a) h
  have h3 := gcd_le (a := a) h
  have h4 := divOk_of h2 (by omega)
  simp [runFn, argsOf, startF, evS, ev, evM, keepD, hid, shw, hid1, biD, binD, cmpD, outD, idxD, bindF, bindF.setAllF, bindT, setAll, asSeq, T.slots, wipeE, isNonD, isiD, tyOf, intPart, cutD, frzAll, frz1, E.isNil, f_lowest, b_lowest, h1, h4, fdiv_pos h2, low]
theorem L_number_of {n : Nat} {p a : Int} : fns tb (n + 1) i_number_of [.int p, .int a] = some (if 0 < p then .int (a % p) else .tup [.int a, .int 1]) := by
  rw [fns_succ (fn := f_number_of) rfl]
  by_cases h : 0 < p <;> simp [runFn, argsOf, startF, evS, ev, evM, keepD, hid, shw, hid1, biD, binD, cmpD, outD, idxD, bindF, bindF.setAllF, bindT, setAll, asSeq, T.slots, wipeE, isNonD, isiD, tyOf, intPart, cutD, frzAll, frz1, E.isNil, f_number_of, b_number_of, h]
theorem L_add_p {n : Nat} {p a b : Int} (h : 0 < p) : fns tb (n + 2) i_add [.int p, .int a, .int b] = some (.int ((a + b) % p)) := by
  rw [fns_succ (fn := f_add) rfl]
  simp [runFn, argsOf, startF, evS, ev, evM, keepD, hid, shw, hid1, biD, binD, cmpD, outD, idxD, bindF, bindF.setAllF, bindT, setAll, asSeq, T.slots, wipeE, isNonD, isiD, tyOf, intPart, cutD, frzAll, frz1, E.isNil, f_add, b_add, h]
theorem L_add_q {n : Nat} {a1 b1 a2 b2 : Int} (h1 : 0 < b1) (h1' : b1 < 2 ^ 30) (h2 : 0 < b2) (h2' : b2 < 2 ^ 30) : fns tb (n + 2) i_add [.int 0, .tup [.int a1, .int b1], .tup [.int a2, .int b2]] = some (low (a1 * b2 + a2 * b1) (b1 * b2)) := by
  rw [fns_succ (fn := f_add) rfl]
  have h3 : 0 < b1 * b2 := Int.mul_pos h1 h2
  have h4 : b1 * b2 < 2 ^ 64 := by
    have : b1 * b2 ≤ 2 ^ 30 * 2 ^ 30 := Int.mul_le_mul (by omega) (by omega) (by omega) (by omega)
    omega
  have m1 : mulOk a1 b2 = true := mulOk_r (by omega) (by omega)
  have m2 : mulOk a2 b1 = true := mulOk_r (by omega) (by omega)
  have m3 : mulOk b1 b2 = true := mulOk_r (by omega) (by omega)
  have L := L_lowest (n := n) (a := a1 * b2 + a2 * b1) h3 h4
  simp [runFn, argsOf, startF, evS, ev, evM, keepD, hid, shw, hid1, biD, binD, cmpD, outD, idxD, bindF, bindF.setAllF, bindT, setAll, asSeq, T.slots, wipeE, isNonD, isiD, tyOf, intPart, cutD, frzAll, frz1, E.isNil, f_add, b_add, idxL, ixN, m1, m2, m3, L]
theorem whGo_common {Φ : Fns} : ∀ (b a : Nat), evS Φ l__law_common_1 [some (false, .int (a : Int)), some (false, .int (b : Int))] = some (.nx [some (false, .int (Nat.gcd a b : Nat)), some (false, .int 0)]) := by
  intro b a
  unfold l__law_common_1 evS
  refine whAll_of (n := b + 1) ?_
  revert a
  suffices h : ∀ i, b < i → ∀ a : Nat, whGo (fun env => ev Φ (.cmp .ne (.var 1) (.int 0)) (shw env)) (fun env => evS Φ (.par 0 1 (.var 1) (.bin .mod (.bi .int (.cons (.var 0) .nil)) (.var 1)) {} {}) env) i [some (false, .int (a : Int)), some (false, .int (b : Int))] = some (.nx [some (false, .int (Nat.gcd a b : Nat)), some (false, .int 0)]) from fun a => h _ (by omega) a
  induction b using Nat.strongRecOn with
  | _ b ih =>
    intro i hi a
    obtain ⟨i, rfl⟩ : ∃ i', i = i' + 1 := ⟨i - 1, by omega⟩
    by_cases hb : b = 0
    · subst hb
      rw [whGo_f (by simp [runFn, argsOf, startF, evS, ev, evM, keepD, hid, shw, hid1, biD, binD, cmpD, outD, idxD, bindF, bindF.setAllF, bindT, setAll, asSeq, T.slots, wipeE, isNonD, isiD, tyOf, intPart, cutD, frzAll, frz1, E.isNil])]
      simp
    · have h := ih (a % b) (Nat.mod_lt _ (by omega)) i (by have := Nat.mod_lt a (show 0 < b by omega); omega) b
      have e : ((a : Int) % (b : Int)) = ((a % b : Nat) : Int) := by simp
      have g : Nat.gcd a b = Nat.gcd b (a % b) := by rw [Nat.gcd_comm a b, Nat.gcd_rec b a, Nat.gcd_comm]
      rw [g, ← h, whGo_t (e := [some (false, .int (b : Int)), some (false, .int ((a % b : Nat) : Int))]) (by simp [runFn, argsOf, startF, evS, ev, evM, keepD, hid, shw, hid1, biD, binD, cmpD, outD, idxD, bindF, bindF.setAllF, bindT, setAll, asSeq, T.slots, wipeE, isNonD, isiD, tyOf, intPart, cutD, frzAll, frz1, E.isNil, hb]) (by simp [runFn, argsOf, startF, evS, ev, evM, keepD, hid, shw, hid1, biD, binD, cmpD, outD, idxD, bindF, bindF.setAllF, bindT, setAll, asSeq, T.slots, wipeE, isNonD, isiD, tyOf, intPart, cutD, frzAll, frz1, E.isNil, hb, Nat.pos_of_ne_zero])]
theorem L_common {n : Nat} {a b : Int} : fns tb (n + 1) i__law_common [.int a, .int b] = some (.int (Nat.gcd a.natAbs b.natAbs : Nat)) := by
  rw [fns_succ (fn := f__law_common) rfl]
  have ab : ∀ z : Int, (if z < 0 then -z else z) = (z.natAbs : Int) := fun z => by split <;> omega
  simp [runFn, argsOf, startF, evS, ev, evM, keepD, hid, shw, hid1, biD, binD, cmpD, outD, idxD, bindF, bindF.setAllF, bindT, setAll, asSeq, T.slots, wipeE, isNonD, isiD, tyOf, intPart, cutD, frzAll, frz1, E.isNil, f__law_common, b__law_common, ab, whGo_common]
/-- a law's number -/
def lnum (p a b : Int) : D := if 0 < p then .int (a % p) else low (a % 19 - 9) (1 + b % 4)
theorem L_number {n : Nat} {p a b : Int} (h : 0 ≤ p) : fns tb (n + 2) i__law_number [.int p, .int a, .int b] = some (lnum p a b) := by
  rw [fns_succ (fn := f__law_number) rfl]
  have hd : 0 < 1 + b % 4 := by omega
  have h2 := gcd_pos (a := a % 19 - 9) hd
  have h3 := gcd_le (a := a % 19 - 9) hd
  have h4 := divOk_of h2 (by omega)
  by_cases hp : 0 < p <;> simp [runFn, argsOf, startF, evS, ev, evM, keepD, hid, shw, hid1, biD, binD, cmpD, outD, idxD, bindF, bindF.setAllF, bindT, setAll, asSeq, T.slots, wipeE, isNonD, isiD, tyOf, intPart, cutD, frzAll, frz1, E.isNil, f__law_number, b__law_number, hp, L_common, h4, lnum, low, fdiv_pos h2]
theorem L_sum_p {n : Nat} {p a b : Int} (h : 0 < p) : fns tb (n + 2) i__law_sum [.int p, .int a, .int b] = some (.int ((a + b) % p)) := by
  rw [fns_succ (fn := f__law_sum) rfl]
  simp [runFn, argsOf, startF, evS, ev, evM, keepD, hid, shw, hid1, biD, binD, cmpD, outD, idxD, bindF, bindF.setAllF, bindT, setAll, asSeq, T.slots, wipeE, isNonD, isiD, tyOf, intPart, cutD, frzAll, frz1, E.isNil, f__law_sum, b__law_sum, h]
theorem L_sum_q {n : Nat} {a1 b1 a2 b2 : Int} (h1 : 0 < b1) (h1' : b1 < 2 ^ 30) (h2 : 0 < b2) (h2' : b2 < 2 ^ 30) : fns tb (n + 2) i__law_sum [.int 0, .tup [.int a1, .int b1], .tup [.int a2, .int b2]] = some (low (a1 * b2 + a2 * b1) (b1 * b2)) := by
  rw [fns_succ (fn := f__law_sum) rfl]
  have h3 : 0 < b1 * b2 := Int.mul_pos h1 h2
  have h4 : b1 * b2 < 2 ^ 64 := by
    have : b1 * b2 ≤ 2 ^ 30 * 2 ^ 30 := Int.mul_le_mul (by omega) (by omega) (by omega) (by omega)
    omega
  have m1 : mulOk a1 b2 = true := mulOk_r (by omega) (by omega)
  have m2 : mulOk a2 b1 = true := mulOk_r (by omega) (by omega)
  have m3 : mulOk b1 b2 = true := mulOk_r (by omega) (by omega)
  have h5 := gcd_pos (a := a1 * b2 + a2 * b1) h3
  have h6 := gcd_le (a := a1 * b2 + a2 * b1) h3
  have h7 := divOk_of h5 (by omega)
  simp [runFn, argsOf, startF, evS, ev, evM, keepD, hid, shw, hid1, biD, binD, cmpD, outD, idxD, bindF, bindF.setAllF, bindT, setAll, asSeq, T.slots, wipeE, isNonD, isiD, tyOf, intPart, cutD, frzAll, frz1, E.isNil, f__law_sum, b__law_sum, idxL, ixN, m1, m2, m3, L_common, h7, low, fdiv_pos h5]
end PyD

namespace PyD
open PySem
/-- the numbers of a pool -/
def Pool (P : List Int) : Prop := ∀ x ∈ P, 0 ≤ x ∧ x < 1000
theorem Pool.app {P : List Int} {x : Int} (h : Pool P) (h0 : 0 ≤ x) (h1 : x < 1000) : Pool (P ++ [x]) := by
  intro y hy
  rcases List.mem_append.mp hy with hy | hy
  · exact h y hy
  · rw [List.mem_singleton.mp hy]; exact ⟨h0, h1⟩
section
variable {Φ : Fns} {sc : D} {c : Int}
def pEnv (sc : D) (c : Int) (P : List Int) (t : D) (w4 w5 w6 w7 : Option (Bool × D)) : FEnv := [some (false, sc), some (false, .int c), some (true, .lst (P.map .int)), some (false, t), w4, w5, w6, w7]
theorem pool_2 {P : List Int} {t : D} {w4 w5 w7 : Option (Bool × D)} {l : Int} (hc : 0 ≤ c) (hc2 : c ≤ 1000) (hP : Pool P) (hl : P.length ≤ 100000) :
    ∃ e', evS Φ l__law_pool_2 (pEnv sc c P t w4 w5 (some (false, .int l)) w7) = some (.nx e') ∧ ∃ P' w5' l', e' = pEnv sc c P' t w4 w5' (some (false, .int l')) w7 ∧ Pool P' ∧ P'.length ≤ P.length + c.toNat := by
  refine at_rng (P := fun i e' => ∃ P' w5' l', e' = pEnv sc c P' t w4 w5' (some (false, .int l')) w7 ∧ Pool P' ∧ P'.length ≤ P.length + i) (n := c) (by simp [runFn, argsOf, startF, evS, ev, evM, keepD, hid, shw, hid1, biD, binD, cmpD, outD, idxD, bindF, bindF.setAllF, bindT, setAll, asSeq, T.slots, wipeE, isNonD, isiD, tyOf, intPart, cutD, frzAll, frz1, E.isNil, pEnv]) (by simp [rgOk]; omega) ⟨P, w5, l, rfl, hP, Nat.le_refl _⟩ ?_
  rintro j hj _ ⟨P', w5', l', rfl, q1, q2⟩
  refine ⟨_, rfl, ?_⟩
  by_cases h0 : 0 < l'
  · refine ⟨pEnv sc c (P' ++ [l' % 1000]) t w4 (some (false, .int j)) (some (false, .int (l' / 1000))) w7, .inl ?_, P' ++ [l' % 1000], _, _, rfl, q1.app (by omega) (by omega), by rw [List.length_append]; simp; omega⟩
    have hd : divOk 1000 = true := by decide
    have hL : P'.length < LIM := by unfold LIM; omega
    simp [runFn, argsOf, startF, evS, ev, evM, keepD, hid, shw, hid1, biD, binD, cmpD, outD, idxD, bindF, bindF.setAllF, bindT, setAll, asSeq, T.slots, wipeE, isNonD, isiD, tyOf, intPart, cutD, frzAll, frz1, E.isNil, pEnv, h0, hL, hd, fdiv_pos]
  · refine ⟨pEnv sc c P' t w4 (some (false, .int j)) (some (false, .int l')) w7, .inl ?_, P', _, _, rfl, q1, by omega⟩
    simp [runFn, argsOf, startF, evS, ev, evM, keepD, hid, shw, hid1, biD, binD, cmpD, outD, idxD, bindF, bindF.setAllF, bindT, setAll, asSeq, T.slots, wipeE, isNonD, isiD, tyOf, intPart, cutD, frzAll, frz1, E.isNil, pEnv, h0]
theorem pool_3 {P : List Int} {t : D} {w4 w5 w6 : Option (Bool × D)} {m : Int} (hP : Pool P) (hl : P.length ≤ 100000) :
    ∃ e', evS Φ l__law_pool_3 (pEnv sc c P t w4 w5 w6 (some (false, .int m))) = some (.nx e') ∧ ∃ P' w5' m', e' = pEnv sc c P' t w4 w5' w6 (some (false, .int m')) ∧ Pool P' ∧ P'.length ≤ P.length + 6 := by
  refine at_rng (P := fun i e' => ∃ P' w5' m', e' = pEnv sc c P' t w4 w5' w6 (some (false, .int m')) ∧ Pool P' ∧ P'.length ≤ P.length + i) (n := 6) (by simp [runFn, argsOf, startF, evS, ev, evM, keepD, hid, shw, hid1, biD, binD, cmpD, outD, idxD, bindF, bindF.setAllF, bindT, setAll, asSeq, T.slots, wipeE, isNonD, isiD, tyOf, intPart, cutD, frzAll, frz1, E.isNil, pEnv]) (by decide) ⟨P, w5, m, rfl, hP, Nat.le_refl _⟩ ?_
  rintro j hj _ ⟨P', w5', m', rfl, q1, q2⟩
  refine ⟨_, rfl, ?_⟩
  refine ⟨pEnv sc c (P' ++ [(m' * 48271 + 11) % 2147483647 / 7 % 1000]) t w4 (some (false, .int j)) w6 (some (false, .int ((m' * 48271 + 11) % 2147483647))), .inl ?_, _, _, _, rfl, q1.app (by omega) (by omega), by rw [List.length_append]; simp; omega⟩
  have hd : divOk 7 = true := by decide
  have hL : P'.length < LIM := by unfold LIM; omega
  have hm : mulOk m' 48271 = true := mulOk_r (by decide) (by decide)
  simp [runFn, argsOf, startF, evS, ev, evM, keepD, hid, shw, hid1, biD, binD, cmpD, outD, idxD, bindF, bindF.setAllF, bindT, setAll, asSeq, T.slots, wipeE, isNonD, isiD, tyOf, intPart, cutD, frzAll, frz1, E.isNil, pEnv, hL, hd, hm, fdiv_pos]
theorem pool_1 {ns : List Int} {w4 w5 w6 w7 : Option (Bool × D)} (hc : 0 ≤ c) (hc2 : c ≤ 1000) (hn : ns.length ≤ 63) :
    ∃ e', evS Φ l__law_pool_1 (pEnv (.ro (ns.map .int)) c [] (.int 7) w4 w5 w6 w7) = some (.nx e') ∧ ∃ P' t w4 w5' w6 w7, e' = pEnv (.ro (ns.map .int)) c P' (.int t) w4 w5' w6 w7 ∧ Pool P' ∧ P'.length ≤ (ns.map D.int).length * 1006 := by
  refine at_var (d := .ro (ns.map .int)) (xs := ns.map .int) (P := fun i e' => ∃ P' t w4 w5' w6 w7, e' = pEnv (.ro (ns.map .int)) c P' (.int t) w4 w5' w6 w7 ∧ Pool P' ∧ P'.length ≤ i * 1006)
    (by simp [runFn, argsOf, startF, evS, ev, evM, keepD, hid, shw, hid1, biD, binD, cmpD, outD, idxD, bindF, bindF.setAllF, bindT, setAll, asSeq, T.slots, wipeE, isNonD, isiD, tyOf, intPart, cutD, frzAll, frz1, E.isNil, pEnv]) rfl ⟨[], 7, w4, w5, w6, w7, rfl, (fun x h => nomatch h), Nat.zero_le _⟩ ?_
  rintro j x hx _ ⟨P', t, w4, w5, w6, w7, rfl, q1, q2⟩
  obtain ⟨hj, rfl⟩ := List.getElem?_eq_some_iff.mp hx
  rw [List.length_map] at hj
  rw [List.getElem_map]
  generalize ns[j] = z
  refine ⟨pEnv (.ro (ns.map .int)) c P' (.int t) (some (false, .int z)) w5 w6 w7, rfl, ?_⟩
  have hm2 : ∀ z : Int, mulOk 2 z = true := fun z => mulOk_l (by decide) (by decide)
  have hm2' : ∀ z : Int, mulOk (-2) z = true := fun z => mulOk_l (by decide) (by decide)
  have hm31 : ∀ z : Int, mulOk z 31 = true := fun z => mulOk_r (by decide) (by decide)
  have hm4 : ∀ z : Int, mulOk z 40692 = true := fun z => mulOk_r (by decide) (by decide)
  obtain ⟨l, hl⟩ : ∃ l : Int, l = if 0 ≤ z then 2 * z else -2 * z - 1 := ⟨_, rfl⟩
  have t1 : evS Φ (.asg 6 (.ite (.cmp .ge (.var 4) (.int 0)) (.bin .mul (.int 2) (.bi .int (.cons (.var 4) .nil))) (.bin .sub (.bin .mul (.neg (.int 2)) (.bi .int (.cons (.var 4) .nil))) (.int 1))) {}) (pEnv (.ro (ns.map .int)) c P' (.int t) (some (false, .int z)) w5 w6 w7) = some (.nx (pEnv (.ro (ns.map .int)) c P' (.int t) (some (false, .int z)) w5 (some (false, .int l)) w7)) := by
    by_cases hz : 0 ≤ z <;> simp [runFn, argsOf, startF, evS, ev, evM, keepD, hid, shw, hid1, biD, binD, cmpD, outD, idxD, bindF, bindF.setAllF, bindT, setAll, asSeq, T.slots, wipeE, isNonD, isiD, tyOf, intPart, cutD, frzAll, frz1, E.isNil, pEnv, hz, hm2, hm2', hl]
  have t2 : ∀ e, (∃ e', e = some (Out.nx e') ∧ ∃ P' t w4 w5' w6 w7, e' = pEnv (.ro (ns.map .int)) c P' (.int t) w4 w5' w6 w7 ∧ Pool P' ∧ P'.length ≤ (j + 1) * 1006) → ∃ e', (e = some (.nx e') ∨ e = some (.ct e')) ∧ ∃ P' t w4 w5' w6 w7, e' = pEnv (.ro (ns.map .int)) c P' (.int t) w4 w5' w6 w7 ∧ Pool P' ∧ P'.length ≤ (j + 1) * 1006 := fun e ⟨e', h1, h2⟩ => ⟨e', .inl h1, h2⟩
  apply t2
  clear t2
  have hjl : P'.length ≤ 100000 := by omega
  by_cases h18 : 1000000000000000000 ≤ l
  · obtain ⟨e', h1, P2, w5', l', rfl, q3, q4⟩ := pool_2 (Φ := Φ) (sc := .ro (ns.map .int)) (t := .int ((t * 31 + l) % 2147483629)) (w4 := some (false, .int z)) (w5 := w5) (w7 := w7) (l := l) hc hc2 q1 hjl
    refine ⟨_, Eq.trans ?_ h1, P2, _, _, _, _, _, rfl, q3, by omega⟩
    rw [seq_nx t1]
    simp [runFn, argsOf, startF, evS, ev, evM, keepD, hid, shw, hid1, biD, binD, cmpD, outD, idxD, bindF, bindF.setAllF, bindT, setAll, asSeq, T.slots, wipeE, isNonD, isiD, tyOf, intPart, cutD, frzAll, frz1, E.isNil, pEnv, hm31, h18]
  · obtain ⟨e', h1, P2, w5', l', rfl, q3, q4⟩ := pool_3 (Φ := Φ) (sc := .ro (ns.map .int)) (c := c) (t := .int ((t * 31 + l) % 2147483629)) (w4 := some (false, .int z)) (w5 := w5) (w6 := some (false, .int l)) (m := ((l + 5) * 40692 + 977) % 2147483399) q1 hjl
    refine ⟨_, Eq.trans ?_ h1, P2, _, _, _, _, _, rfl, q3, by omega⟩
    rw [seq_nx t1]
    simp [runFn, argsOf, startF, evS, ev, evM, keepD, hid, shw, hid1, biD, binD, cmpD, outD, idxD, bindF, bindF.setAllF, bindT, setAll, asSeq, T.slots, wipeE, isNonD, isiD, tyOf, intPart, cutD, frzAll, frz1, E.isNil, pEnv, hm31, hm4, h18]
theorem pool_4 {P : List Int} {sc : D} {t : Int} {w4 w5 w6 w7 : Option (Bool × D)} (hc : 0 ≤ c) (hc2 : c ≤ 1000) (hP : Pool P) (hl : P.length ≤ 100000) :
    ∃ e', evS Φ l__law_pool_4 (pEnv sc c P (.int t) w4 w5 w6 w7) = some (.nx e') ∧ ∃ P' t w5', e' = pEnv sc c P' (.int t) w4 w5' w6 w7 ∧ Pool P' ∧ P'.length = P.length + c.toNat := by
  refine at_rng (P := fun i e' => ∃ P' t w5', e' = pEnv sc c P' (.int t) w4 w5' w6 w7 ∧ Pool P' ∧ P'.length = P.length + i) (n := c) (by simp [runFn, argsOf, startF, evS, ev, evM, keepD, hid, shw, hid1, biD, binD, cmpD, outD, idxD, bindF, bindF.setAllF, bindT, setAll, asSeq, T.slots, wipeE, isNonD, isiD, tyOf, intPart, cutD, frzAll, frz1, E.isNil, pEnv]) (by simp [rgOk]; omega) ⟨P, t, w5, rfl, hP, rfl⟩ ?_
  rintro j hj _ ⟨P', t, w5', rfl, q1, q2⟩
  refine ⟨_, rfl, ?_⟩
  refine ⟨pEnv sc c (P' ++ [(t * 69621 + 13) % 2147483629 / 11 % 1000]) (.int ((t * 69621 + 13) % 2147483629)) w4 (some (false, .int j)) w6 w7, .inl ?_, _, _, _, rfl, q1.app (by omega) (by omega), by rw [List.length_append]; simp; omega⟩
  have hd : divOk 11 = true := by decide
  have hL : P'.length < LIM := by unfold LIM; omega
  have hm : mulOk t 69621 = true := mulOk_r (by decide) (by decide)
  simp [runFn, argsOf, startF, evS, ev, evM, keepD, hid, shw, hid1, biD, binD, cmpD, outD, idxD, bindF, bindF.setAllF, bindT, setAll, asSeq, T.slots, wipeE, isNonD, isiD, tyOf, intPart, cutD, frzAll, frz1, E.isNil, pEnv, hL, hd, hm, fdiv_pos]
end
/-- what a pool is -/
theorem L_pool {n : Nat} {c : Int} {ns : List Int} (hc : 0 ≤ c) (hc2 : c ≤ 1000) (hn : ns.length ≤ 63) :
    ∃ P : List Int, Pool P ∧ P.length = c.toNat ∧ fns tb (n + 1) i__law_pool [.ro (ns.map .int), .int c] = some (.lst (P.map .int)) := by
  obtain ⟨_, h1, P1, t, w4, w5, w6, w7, rfl, p1, p2⟩ := pool_1 (Φ := fns tb n) (ns := ns) (c := c) (w4 := none) (w5 := none) (w6 := none) (w7 := none) hc hc2 hn
  rw [List.length_map] at p2
  obtain ⟨_, h2, P2, t', w5', rfl, p3, p4⟩ := pool_4 (Φ := fns tb n) (sc := .ro (ns.map .int)) (t := t) (w4 := w4) (w5 := w5) (w6 := w6) (w7 := w7) hc hc2 p1 (by omega)
  refine ⟨P2.take c.toNat, fun x hx => p3 x (List.mem_of_mem_take hx), by rw [List.length_take]; omega, ?_⟩
  rw [fns_succ (fn := f__law_pool) rfl]
  simp only [pEnv, List.map_nil] at h1 h2
  have h3 : ¬ c < 0 := by omega
  have h4 : min c.toNat P2.length = c.toNat := by omega
  simp [runFn, argsOf, startF, evS, ev, evM, keepD, hid, shw, hid1, biD, binD, cmpD, outD, idxD, bindF, bindF.setAllF, bindT, setAll, asSeq, T.slots, wipeE, isNonD, isiD, tyOf, intPart, cutD, frzAll, frz1, E.isNil, f__law_pool, b__law_pool, h1, h2, cutL, sIx, h3, h4, List.map_take]
end PyD

namespace PyD
open PySem
/-- a number of the field p: its denominator at most B -/
inductive Nm (p B : Int) : D → Prop
  | i {x : Int} : 0 < p → 0 ≤ x → x < p → Nm p B (.int x)
  | q {a d : Int} : p = 0 → 0 < d → d ≤ B → Nat.gcd a.natAbs d.natAbs = 1 → Nm p B (.tup [.int a, .int d])
theorem Nm.nice {p B : Int} {x : D} (h : Nm p B x) : Nice 1 x := by
  cases h with
  | i => exact .int _
  | q =>
    refine .tup fun x hx => ?_
    rcases List.mem_cons.mp hx with rfl | hx
    · exact .int _
    · rw [List.mem_singleton.mp hx]; exact .int _
theorem Nm.up {p B C : Int} {x : D} (h : Nm p B x) (l : B ≤ C) : Nm p C x := by
  cases h with
  | i h1 h2 h3 => exact .i h1 h2 h3
  | q h1 h2 h3 h4 => exact .q h1 h2 (by omega) h4
theorem low_ok {B a d : Int} (h : 0 < d) (hB : d ≤ B) : Nm 0 B (low a d) := by
  have g := gcd_pos (a := a) h
  generalize hg : (Nat.gcd a.natAbs d.natAbs) = k at g
  have hk : 0 < k := by omega
  have d1 : (k : Int) ∣ a := by rw [← hg]; exact Int.ofNat_dvd_left.mpr (Nat.gcd_dvd_left _ _)
  have d2 : (k : Int) ∣ d := by rw [← hg]; exact Int.ofNat_dvd_left.mpr (Nat.gcd_dvd_right _ _)
  unfold low
  rw [hg]
  refine .q rfl (Int.ediv_pos_of_pos_of_dvd h (by omega) d2) (Int.le_trans (Int.ediv_le_self _ (by omega)) hB) ?_
  rw [Int.natAbs_ediv_of_dvd d1, Int.natAbs_ediv_of_dvd d2, Int.natAbs_natCast, ← hg]
  exact Nat.gcd_div_gcd_div_gcd_of_pos_right (by omega)
def sm (p : Int) : D → D → D
  | .int x, .int y => .int ((x + y) % p)
  | .tup [.int a1, .int b1], .tup [.int a2, .int b2] => low (a1 * b2 + a2 * b1) (b1 * b2)
  | _, _ => .non
theorem sm_ok {p B C : Int} {x y : D} (hx : Nm p B x) (hy : Nm p C y) : Nm p (B * C) (sm p x y) := by
  cases hx with
  | i h1 h2 h3 =>
    cases hy with
    | i h4 h5 h6 => exact .i h1 (Int.emod_nonneg _ (by omega)) (Int.emod_lt_of_pos _ h1)
    | q h4 => omega
  | q h1 h2 h3 h4 =>
    cases hy with
    | i h5 => omega
    | q h5 h6 h7 h8 =>
      subst h1
      exact low_ok (Int.mul_pos h2 h6) (Int.mul_le_mul h3 h7 (by omega) (by omega))
theorem L_add {n : Nat} {p B C : Int} {x y : D} (hx : Nm p B x) (hy : Nm p C y) (hB : B < 2 ^ 30) (hC : C < 2 ^ 30) : fns tb (n + 2) i_add [.int p, x, y] = some (sm p x y) := by
  cases hx with
  | i h1 h2 h3 =>
    cases hy with
    | i h4 h5 h6 => exact L_add_p h1
    | q h4 => omega
  | q h1 h2 h3 h4 =>
    cases hy with
    | i h5 => omega
    | q h5 h6 h7 h8 =>
      subst h1
      exact L_add_q h2 (by omega) h6 (by omega)
theorem L_sum {n : Nat} {p B C : Int} {x y : D} (hx : Nm p B x) (hy : Nm p C y) (hB : B < 2 ^ 30) (hC : C < 2 ^ 30) : fns tb (n + 2) i__law_sum [.int p, x, y] = some (sm p x y) := by
  cases hx with
  | i h1 h2 h3 =>
    cases hy with
    | i h4 h5 h6 => exact L_sum_p h1
    | q h4 => omega
  | q h1 h2 h3 h4 =>
    cases hy with
    | i h5 => omega
    | q h5 h6 h7 h8 =>
      subst h1
      exact L_sum_q h2 (by omega) h6 (by omega)
theorem lnum_ok {p a b : Int} (h : 0 ≤ p) : Nm p 4 (lnum p a b) := by
  unfold lnum
  split
  · rename_i hp
    exact .i hp (Int.emod_nonneg _ (by omega)) (Int.emod_lt_of_pos _ hp)
  · have : p = 0 := by omega
    subst this
    exact low_ok (by omega) (by omega)
def zero (p : Int) : D := if 0 < p then .int 0 else .tup [.int 0, .int 1]
theorem zero_ok {p : Int} (h : 0 ≤ p) : Nm p 1 (zero p) := by
  unfold zero
  split
  · rename_i hp
    exact .i hp (by omega) hp
  · have : p = 0 := by omega
    exact .q this (by omega) (by omega) rfl
theorem L_zero {n : Nat} {p : Int} : fns tb (n + 1) i_number_of [.int p, .int 0] = some (zero p) := by
  rw [L_number_of]
  unfold zero
  split <;> simp
theorem sm_zero {p B : Int} {x : D} (h : Nm p B x) : sm p (zero p) x = x := by
  cases h with
  | i h1 h2 h3 => simp [zero, h1, sm, Int.emod_eq_of_lt h2 h3]
  | q h1 h2 h3 h4 =>
    subst h1
    simp [zero, sm, low, h4]
/-! ### each once, by the two -/
theorem each_loop {Φ : Fns} {xs : List D} {l : S} {k : Nat} (hl : l = .for_ (.nm 2) (.var 0) (.iff (.cmp .notin (.var 2) (.var 1)) (.app 1 (.var 2) {}) .skip)) (h : ∀ x ∈ xs, Nice k x) (hk : k < 64) (hn : xs.length ≤ LIM) :
    ∃ w, evS Φ l [some (false, .lst xs), some (true, .lst []), none] = some (.nx [some (false, .lst xs), some (true, .lst (dd xs)), w]) := by
  subst hl
  obtain ⟨e', h1, w, rfl⟩ := at_var (Φ := Φ) (t := .nm 2) (i := 0) (b := .iff (.cmp .notin (.var 2) (.var 1)) (.app 1 (.var 2) {}) .skip) (env := [some (false, .lst xs), some (true, .lst []), none]) (d := .lst xs) (xs := xs)
    (P := fun j e => ∃ w, e = [some (false, .lst xs), some (true, .lst (dd (xs.take j))), w]) (by simp [runFn, argsOf, startF, evS, ev, evM, keepD, hid, shw, hid1, biD, binD, cmpD, outD, idxD, bindF, bindF.setAllF, bindT, setAll, asSeq, T.slots, wipeE, isNonD, isiD, tyOf, intPart, cutD, frzAll, frz1, E.isNil]) rfl ⟨none, by simp [dd]⟩ (by
      rintro j x hx _ ⟨w, rfl⟩
      refine ⟨_, rfl, [some (false, .lst xs), some (true, .lst (dd (xs.take (j + 1)))), some (false, x)], .inl ?_, _, rfl⟩
      obtain ⟨hj, hx'⟩ := List.getElem?_eq_some_iff.mp hx
      have e : dd (xs.take (j + 1)) = dd1 (dd (xs.take j)) x := by rw [List.take_succ, hx, Option.toList_some, dd_snoc]
      have hm : x ∈ xs := hx' ▸ List.getElem_mem hj
      have hl2 : (dd (xs.take j)).length < LIM := by
        have := dd_len (xs := xs.take j)
        rw [List.length_take] at this
        omega
      have hin := inSeq_nice (h x hm) (ys := dd (xs.take j)) (m := k) (fun y hy => h y (List.mem_of_mem_take (mem_dd.mp hy))) (by omega) hk
      rw [e]
      by_cases hc : x ∈ dd (xs.take j)
      · simp [runFn, argsOf, startF, evS, ev, evM, keepD, hid, shw, hid1, biD, binD, cmpD, outD, idxD, bindF, bindF.setAllF, bindT, setAll, asSeq, T.slots, wipeE, isNonD, isiD, tyOf, intPart, cutD, frzAll, frz1, E.isNil, hin, hc, dd1]
      · simp [runFn, argsOf, startF, evS, ev, evM, keepD, hid, shw, hid1, biD, binD, cmpD, outD, idxD, bindF, bindF.setAllF, bindT, setAll, asSeq, T.slots, wipeE, isNonD, isiD, tyOf, intPart, cutD, frzAll, frz1, E.isNil, hin, hc, dd1, hl2])
  rw [List.take_length] at h1
  exact ⟨w, h1⟩
theorem L_different {n k : Nat} {xs : List D} (h : ∀ x ∈ xs, Nice k x) (hk : k < 64) (hn : xs.length ≤ LIM) : fns tb (n + 1) i_different [.lst xs] = some (.lst (dd xs)) := by
  rw [fns_succ (fn := f_different) rfl]
  obtain ⟨w, h1⟩ := each_loop (Φ := fns tb n) (l := l_different_1) rfl h hk hn
  simp [runFn, argsOf, startF, evS, ev, evM, keepD, hid, shw, hid1, biD, binD, cmpD, outD, idxD, bindF, bindF.setAllF, bindT, setAll, asSeq, T.slots, wipeE, isNonD, isiD, tyOf, intPart, cutD, frzAll, frz1, E.isNil, f_different, b_different, h1]
theorem L_unlike {n k : Nat} {xs : List D} (h : ∀ x ∈ xs, Nice k x) (hk : k < 64) (hn : xs.length ≤ LIM) : fns tb (n + 1) i__law_unlike [.lst xs] = some (.lst (dd xs)) := by
  rw [fns_succ (fn := f__law_unlike) rfl]
  obtain ⟨w, h1⟩ := each_loop (Φ := fns tb n) (l := l__law_unlike_1) rfl h hk hn
  simp [runFn, argsOf, startF, evS, ev, evM, keepD, hid, shw, hid1, biD, binD, cmpD, outD, idxD, bindF, bindF.setAllF, bindT, setAll, asSeq, T.slots, wipeE, isNonD, isiD, tyOf, intPart, cutD, frzAll, frz1, E.isNil, f__law_unlike, b__law_unlike, h1]
end PyD

namespace PyD
open PySem
def nxs (p : Int) (s l : List D) : List D := s.flatMap fun a => l.map (sm p a)
def Ts (p : Int) (ls : List (List D)) : List D := ls.foldl (nxs p) [zero p]
theorem Ts_snoc {p : Int} {ls : List (List D)} {l : List D} : Ts p (ls ++ [l]) = nxs p (Ts p ls) l := by simp [Ts, List.foldl_append]
theorem nxs_len {p : Int} {s l : List D} : (nxs p s l).length = s.length * l.length := by
  unfold nxs
  induction s with
  | nil => simp
  | cons a s ih => rw [List.flatMap_cons, List.length_append, ih, List.length_map, List.length_cons, Nat.succ_mul, Nat.add_comm]
theorem nxs_ok {p B : Int} {s l : List D} (hs : ∀ x ∈ s, Nm p B x) (hl : ∀ x ∈ l, Nm p 4 x) : ∀ x ∈ nxs p s l, Nm p (B * 4) x := by
  intro x hx
  obtain ⟨a, ha, hx⟩ := List.mem_flatMap.mp hx
  obtain ⟨b, hb, rfl⟩ := List.mem_map.mp hx
  exact sm_ok (hs a ha) (hl b hb)
theorem Ts_ok {p : Int} (hp : 0 ≤ p) {ls : List (List D)} (hl : ∀ l ∈ ls, ∀ x ∈ l, Nm p 4 x) : ∀ {j : Nat}, ∀ x ∈ Ts p (ls.take j), Nm p (4 ^ j) x
  | 0, x, hx => by
    rw [List.take_zero] at hx
    have : x = zero p := by simpa [Ts] using hx
    rw [this]; exact zero_ok hp
  | j + 1, x, hx => by
    rw [List.take_succ] at hx
    cases e : ls[j]? with
    | none =>
      rw [e] at hx
      simp only [Option.toList_none, List.append_nil] at hx
      refine (Ts_ok hp hl x hx).up ?_
      rw [Int.pow_succ]
      have : (0 : Int) < 4 ^ j := Int.pow_pos (by decide)
      omega
    | some l =>
      rw [e, Option.toList_some, Ts_snoc] at hx
      rw [Int.pow_succ]
      exact nxs_ok (fun y hy => Ts_ok hp hl y hy) (hl l (List.mem_of_getElem? e)) x hx
theorem pow4 {j : Nat} (h : j ≤ 6) : (4 : Int) ^ j < 2 ^ 30 := by
  have : j = 0 ∨ j = 1 ∨ j = 2 ∨ j = 3 ∨ j = 4 ∨ j = 5 ∨ j = 6 := by omega
  rcases this with rfl | rfl | rfl | rfl | rfl | rfl | rfl <;> decide
theorem Nm.flat {p B : Int} {x : D} (h : Nm p B x) : x.flat = true := by
  cases h <;> simp [D.flat, flatL]
theorem flat_of {p B : Int} {xs : List D} (h : ∀ x ∈ xs, Nm p B x) : flatL xs = true := by
  rw [flatL_all, List.all_eq_true]
  exact fun x hx => (h x hx).flat
theorem dd_nxs {p : Int} {s l : List D} : dd (nxs p (dd s) l) = dd (nxs p s l) := dd_flatMap s
section
variable {n : Nat} {p : Int} {ls : List (List D)}
theorem L_sums_of (hp : 0 ≤ p) (hl : ∀ l ∈ ls, ∀ x ∈ l, Nm p 4 x) (h6 : ls.length ≤ 6) (hT : ∀ j, (Ts p (ls.take j)).length ≤ LIM) :
    fns tb (n + 4) i_sums_of (.int p :: ls.map .lst) = some (.lst (dd (Ts p ls))) := by
  rw [fns_succ (fn := f_sums_of) rfl]
  have hz : dd (Ts p []) = [zero p] := by simp [Ts, dd_one]
  have key : ∃ e', evS (fns tb (n + 3)) l_sums_of_1 [some (false, .int p), some (false, .tup (ls.map .lst)), some (true, .lst [zero p]), none, none, none] = some (.nx e') ∧ ∃ w, e' = [some (false, .int p), some (false, .tup (ls.map .lst)), some (true, .lst (dd (Ts p (ls.take (ls.map D.lst).length)))), w, none, none] := by
    refine at_var (d := .tup (ls.map .lst)) (xs := ls.map .lst) (P := fun j e' => ∃ w, e' = [some (false, .int p), some (false, .tup (ls.map .lst)), some (true, .lst (dd (Ts p (ls.take j)))), w, none, none]) (by simp [runFn, argsOf, startF, evS, ev, evM, keepD, hid, shw, hid1, biD, binD, cmpD, outD, idxD, bindF, bindF.setAllF, bindT, setAll, asSeq, T.slots, wipeE, isNonD, isiD, tyOf, intPart, cutD, frzAll, frz1, E.isNil]) rfl ⟨none, by rw [List.take_zero, hz]⟩ ?_
    rintro j x hx _ ⟨w, rfl⟩
    obtain ⟨hj, rfl⟩ := List.getElem?_eq_some_iff.mp hx
    rw [List.length_map] at hj
    rw [List.getElem_map]
    have hmem : ls[j] ∈ ls := List.getElem_mem hj
    have hs : ls[j]? = some ls[j] := List.getElem?_eq_getElem hj
    have hTj := hT (j + 1)
    have et : Ts p (ls.take (j + 1)) = nxs p (Ts p (ls.take j)) ls[j] := by rw [List.take_succ, hs, Option.toList_some, Ts_snoc]
    have hok := Ts_ok hp hl (j := j)
    rw [et] at hTj
    generalize ls[j] = l at *
    generalize Ts p (ls.take j) = s at *
    have hdl := dd_len (xs := s)
    have hlen : (nxs p (dd s) l).length ≤ LIM := by
      rw [nxs_len] at hTj ⊢
      exact Nat.le_trans (Nat.mul_le_mul_right _ hdl) hTj
    have c : ev (fns tb (n + 3)) c_sums_of_2 [some (.int p), some (.tup (ls.map .lst)), some (.lst (dd s)), some (.lst l), none, none] = some (.lst (nxs p (dd s) l)) := by
      refine lc2_all (d := .lst (dd s)) (g := fun _ => l) (f := sm p) (by simp [runFn, argsOf, startF, evS, ev, evM, keepD, hid, shw, hid1, biD, binD, cmpD, outD, idxD, bindF, bindF.setAllF, bindT, setAll, asSeq, T.slots, wipeE, isNonD, isiD, tyOf, intPart, cutD, frzAll, frz1, E.isNil]) rfl (fun x hx => ?_) hlen
      refine ⟨_, .lst l, rfl, by simp [runFn, argsOf, startF, evS, ev, evM, keepD, hid, shw, hid1, biD, binD, cmpD, outD, idxD, bindF, bindF.setAllF, bindT, setAll, asSeq, T.slots, wipeE, isNonD, isiD, tyOf, intPart, cutD, frzAll, frz1, E.isNil], rfl, fun y hy => ⟨_, rfl, ?_⟩⟩
      have := L_add (n := n + 1) (hok x (mem_dd.mp hx)) (hl l hmem y hy) (pow4 (by omega)) (by decide)
      simp [runFn, argsOf, startF, evS, ev, evM, keepD, hid, shw, hid1, biD, binD, cmpD, outD, idxD, bindF, bindF.setAllF, bindT, setAll, asSeq, T.slots, wipeE, isNonD, isiD, tyOf, intPart, cutD, frzAll, frz1, E.isNil, this]
    refine ⟨_, rfl, [some (false, .int p), some (false, .tup (ls.map .lst)), some (true, .lst (dd (nxs p s l))), some (false, .lst l), none, none], .inl ?_, _, by rw [et]⟩
    have hn := nxs_ok (p := p) (B := 4 ^ j) (fun x hx => hok x (mem_dd.mp hx)) (hl l hmem)
    have d := L_different (n := n + 2) (xs := nxs p (dd s) l) (fun x hx => (hn x hx).nice) (by decide) hlen
    rw [dd_nxs] at d
    have fl : flatL (dd (nxs p s l)) = true := flat_of (p := p) (B := 4 ^ j * 4) fun x hx => by rw [mem_dd, ← mem_dd, ← dd_nxs, mem_dd] at hx; exact hn x hx
    simp [runFn, argsOf, startF, evS, ev, evM, keepD, hid, shw, hid1, biD, binD, cmpD, outD, idxD, bindF, bindF.setAllF, bindT, setAll, asSeq, T.slots, wipeE, isNonD, isiD, tyOf, intPart, cutD, frzAll, frz1, E.isNil, c, d, fl]
  rw [List.length_map, List.take_length] at key
  obtain ⟨_, h1, w, rfl⟩ := key
  have z := L_zero (n := n + 2) (p := p)
  have hlim : ls.length + 1 ≤ LIM := by unfold LIM; omega
  simp [runFn, argsOf, startF, evS, ev, evM, keepD, hid, shw, hid1, biD, binD, cmpD, outD, idxD, bindF, bindF.setAllF, bindT, setAll, asSeq, T.slots, wipeE, isNonD, isiD, tyOf, intPart, cutD, frzAll, frz1, E.isNil, f_sums_of, b_sums_of, z, h1, hlim]
theorem sums_2 {Φ : Fns} {w3 w5 : Option (Bool × D)} {u : D} {s l : List D} {B : Int} (hΦ : ∀ x y, Nm p B x → Nm p 4 y → Φ i__law_sum [.int p, x, y] = some (sm p x y)) (hs : ∀ x ∈ s, Nm p B x) (hl : ∀ x ∈ l, Nm p 4 x) (hn : (nxs p s l).length ≤ LIM) (hln : l.length ≤ LIM) :
    ∃ e', evS Φ l__law_sums_2 [some (false, .int p), some (false, u), some (false, .lst s), some (false, .lst l), some (false, .lst []), w5, none] = some (.nx e') ∧ ∃ w, e' = [some (false, .int p), some (false, u), some (false, .lst s), some (false, .lst l), some (false, .lst (nxs p (s.take s.length) l)), w, none] := by
  refine at_var (d := .lst s) (xs := s) (P := fun j e' => ∃ w, e' = [some (false, .int p), some (false, u), some (false, .lst s), some (false, .lst l), some (false, .lst (nxs p (s.take j) l)), w, none]) (by simp [runFn, argsOf, startF, evS, ev, evM, keepD, hid, shw, hid1, biD, binD, cmpD, outD, idxD, bindF, bindF.setAllF, bindT, setAll, asSeq, T.slots, wipeE, isNonD, isiD, tyOf, intPart, cutD, frzAll, frz1, E.isNil]) rfl ⟨w5, rfl⟩ ?_
  rintro j x hx _ ⟨w, rfl⟩
  have c : ev Φ c__law_sums_3 [some (.int p), some u, some (.lst s), some (.lst l), some (.lst (nxs p (s.take j) l)), some x, none] = some (.lst (l.map (sm p x))) := by
    refine lc_map (d := .lst l) (by simp [runFn, argsOf, startF, evS, ev, evM, keepD, hid, shw, hid1, biD, binD, cmpD, outD, idxD, bindF, bindF.setAllF, bindT, setAll, asSeq, T.slots, wipeE, isNonD, isiD, tyOf, intPart, cutD, frzAll, frz1, E.isNil]) rfl (fun y hy => ⟨_, rfl, ?_⟩) hln
    have := hΦ x y (hs x (List.mem_of_getElem? hx)) (hl y hy)
    simp [runFn, argsOf, startF, evS, ev, evM, keepD, hid, shw, hid1, biD, binD, cmpD, outD, idxD, bindF, bindF.setAllF, bindT, setAll, asSeq, T.slots, wipeE, isNonD, isiD, tyOf, intPart, cutD, frzAll, frz1, E.isNil, this]
  have e : nxs p (s.take (j + 1)) l = nxs p (s.take j) l ++ l.map (sm p x) := by
    rw [List.take_succ, hx, Option.toList_some]
    simp [nxs]
  refine ⟨_, rfl, [some (false, .int p), some (false, u), some (false, .lst s), some (false, .lst l), some (false, .lst (nxs p (s.take (j + 1)) l)), some (false, x), none], .inl ?_, _, rfl⟩
  have hj : j < s.length := (List.getElem?_eq_some_iff.mp hx).1
  have h1 : (nxs p (s.take j) l).length + l.length ≤ LIM := by
    rw [nxs_len] at hn ⊢
    rw [List.length_take]
    have : min j s.length * l.length + l.length = (min j s.length + 1) * l.length := by rw [Nat.add_mul, Nat.one_mul]
    rw [this]
    exact Nat.le_trans (Nat.mul_le_mul_right _ (by omega)) hn
  rw [e]
  simp [runFn, argsOf, startF, evS, ev, evM, keepD, hid, shw, hid1, biD, binD, cmpD, outD, idxD, bindF, bindF.setAllF, bindT, setAll, asSeq, T.slots, wipeE, isNonD, isiD, tyOf, intPart, cutD, frzAll, frz1, E.isNil, c, h1]
theorem L_sums (hp : 0 ≤ p) (hl : ∀ l ∈ ls, ∀ x ∈ l, Nm p 4 x) (h6 : ls.length ≤ 6) (hT : ∀ j, (Ts p (ls.take j)).length ≤ LIM) (hL : ∀ l ∈ ls, l.length ≤ LIM) :
    fns tb (n + 4) i__law_sums [.int p, .lst (ls.map .lst)] = some (.lst (dd (Ts p ls))) := by
  rw [fns_succ (fn := f__law_sums) rfl]
  have key : ∃ e', evS (fns tb (n + 3)) l__law_sums_1 [some (false, .int p), some (false, .lst (ls.map .lst)), some (false, .lst [zero p]), none, none, none, none] = some (.nx e') ∧ ∃ w1 w2 w3, e' = [some (false, .int p), some (false, .lst (ls.map .lst)), some (false, .lst (Ts p (ls.take (ls.map D.lst).length))), w1, w2, w3, none] := by
    refine at_var (d := .lst (ls.map .lst)) (xs := ls.map .lst) (P := fun j e' => ∃ w1 w2 w3, e' = [some (false, .int p), some (false, .lst (ls.map .lst)), some (false, .lst (Ts p (ls.take j))), w1, w2, w3, none]) (by simp [runFn, argsOf, startF, evS, ev, evM, keepD, hid, shw, hid1, biD, binD, cmpD, outD, idxD, bindF, bindF.setAllF, bindT, setAll, asSeq, T.slots, wipeE, isNonD, isiD, tyOf, intPart, cutD, frzAll, frz1, E.isNil]) rfl ⟨none, none, none, rfl⟩ ?_
    rintro j x hx _ ⟨w1, w2, w3, rfl⟩
    obtain ⟨hj, rfl⟩ := List.getElem?_eq_some_iff.mp hx
    rw [List.length_map] at hj
    rw [List.getElem_map]
    have hmem : ls[j] ∈ ls := List.getElem_mem hj
    have hs : ls[j]? = some ls[j] := List.getElem?_eq_getElem hj
    have hTj := hT (j + 1)
    have et : Ts p (ls.take (j + 1)) = nxs p (Ts p (ls.take j)) ls[j] := by rw [List.take_succ, hs, Option.toList_some, Ts_snoc]
    have hok := Ts_ok hp hl (j := j)
    rw [et] at hTj
    generalize ls[j] = l at *
    generalize Ts p (ls.take j) = s at *
    refine ⟨_, rfl, ?_⟩
    obtain ⟨_, h1, w, rfl⟩ := sums_2 (Φ := fns tb (n + 3)) (w3 := none) (w5 := w3) (u := .lst (ls.map .lst)) (fun x y hx hy => L_sum (n := n + 1) hx hy (pow4 (j := j) (by omega)) (by decide)) hok (hl l hmem) hTj (hL l hmem)
    rw [List.take_length] at h1
    refine ⟨[some (false, .int p), some (false, .lst (ls.map .lst)), some (false, .lst (nxs p s l)), some (false, .lst l), some (false, .lst (nxs p s l)), w, none], .inl ?_, _, _, _, by rw [et]⟩
    simp [runFn, argsOf, startF, evS, ev, evM, keepD, hid, shw, hid1, biD, binD, cmpD, outD, idxD, bindF, bindF.setAllF, bindT, setAll, asSeq, T.slots, wipeE, isNonD, isiD, tyOf, intPart, cutD, frzAll, frz1, E.isNil, h1]
  rw [List.length_map, List.take_length] at key
  obtain ⟨_, h1, w1, w2, w3, rfl⟩ := key
  have hok := Ts_ok hp hl (j := ls.length)
  rw [List.take_length] at hok
  have hTl := hT ls.length
  rw [List.take_length] at hTl
  have d := L_unlike (n := n + 2) (xs := Ts p ls) (fun x hx => (hok x hx).nice) (by decide) hTl
  by_cases h : 0 < p
  · simp only [zero, h, if_true] at h1
    simp [runFn, argsOf, startF, evS, ev, evM, keepD, hid, shw, hid1, biD, binD, cmpD, outD, idxD, bindF, bindF.setAllF, bindT, setAll, asSeq, T.slots, wipeE, isNonD, isiD, tyOf, intPart, cutD, frzAll, frz1, E.isNil, f__law_sums, b__law_sums, h1, h, d]
  · simp only [zero, h, if_false] at h1
    simp [runFn, argsOf, startF, evS, ev, evM, keepD, hid, shw, hid1, biD, binD, cmpD, outD, idxD, bindF, bindF.setAllF, bindT, setAll, asSeq, T.slots, wipeE, isNonD, isiD, tyOf, intPart, cutD, frzAll, frz1, E.isNil, f__law_sums, b__law_sums, h1, h, d]
end
end PyD

namespace PyD
open PySem
/-- the sums of two at unlike places -/
def Prs (p : Int) (xs : List D) (k : Nat) : List D := (List.range k).flatMap fun i => (xs.drop (i + 1)).map (sm p (xs.getD i .non))
theorem Prs_len {p : Int} {xs : List D} : ∀ {k : Nat}, (Prs p xs k).length ≤ k * xs.length
  | 0 => by simp [Prs]
  | k + 1 => by
    have ih := Prs_len (p := p) (xs := xs) (k := k)
    have : Prs p xs (k + 1) = Prs p xs k ++ (xs.drop (k + 1)).map (sm p (xs.getD k .non)) := by simp [Prs, List.range_succ]
    rw [this, List.length_append, List.length_map, List.length_drop, Nat.succ_mul]
    omega
theorem Prs_ok {p : Int} {xs : List D} (h : ∀ x ∈ xs, Nm p 4 x) {k : Nat} (hk : k ≤ xs.length) : ∀ x ∈ Prs p xs k, Nm p 16 x := by
  intro x hx
  obtain ⟨i, hi, hx⟩ := List.mem_flatMap.mp hx
  obtain ⟨y, hy, rfl⟩ := List.mem_map.mp hx
  rw [List.mem_range] at hi
  have : xs.getD i .non ∈ xs := by
    rw [List.getD_eq_getElem?_getD, List.getElem?_eq_getElem (by omega)]
    exact List.getElem_mem _
  exact sm_ok (h _ this) (h y (List.mem_of_mem_drop hy))
section
variable {n : Nat} {p : Int} {xs : List D}
theorem L_unlike_sums (h : ∀ x ∈ xs, Nm p 4 x) (hn : xs.length ≤ 100) : fns tb (n + 4) i_unlike_sums [.int p, .lst xs] = some (.lst (dd (Prs p xs xs.length))) := by
  rw [fns_succ (fn := f_unlike_sums) rfl]
  have hlen := Prs_len (p := p) (xs := xs) (k := xs.length)
  have hlen2 : (Prs p xs xs.length).length ≤ LIM := by
    have : xs.length * xs.length ≤ 100 * 100 := Nat.mul_le_mul hn hn
    unfold LIM; omega
  have e : ((enumD 0 xs).flatMap fun t => (xs.drop (eIx t + 1)).map (sm p (eIt t))) = Prs p xs xs.length := by
    rw [enumD_eq, List.flatMap_map]
    simp [Prs, eIx, eIt]
  have c : ev (fns tb (n + 3)) c_unlike_sums_1 [some (.int p), some (.lst xs), none, none, none] = some (.lst (Prs p xs xs.length)) := by
    rw [← e]
    refine lc2_all (d := .lst (enumD 0 xs)) (g := fun t => xs.drop (eIx t + 1)) (f := fun t => sm p (eIt t)) (by simp [runFn, argsOf, startF, evS, ev, evM, keepD, hid, shw, hid1, biD, binD, cmpD, outD, idxD, bindF, bindF.setAllF, bindT, setAll, asSeq, T.slots, wipeE, isNonD, isiD, tyOf, intPart, cutD, frzAll, frz1, E.isNil]) rfl (fun t ht => ?_) (by rw [e]; exact hlen2)
    rw [enumD_eq] at ht
    obtain ⟨i, hi, rfl⟩ := List.mem_map.mp ht
    rw [List.mem_range] at hi
    have hm : xs.getD i .non ∈ xs := by
      rw [List.getD_eq_getElem?_getD, List.getElem?_eq_getElem (by omega)]
      exact List.getElem_mem _
    generalize xs.getD i .non = x at *
    refine ⟨[some (.int p), some (.lst xs), none, some (.int i), some x], .lst (xs.drop (i + 1)), by simp [runFn, argsOf, startF, evS, ev, evM, keepD, hid, shw, hid1, biD, binD, cmpD, outD, idxD, bindF, bindF.setAllF, bindT, setAll, asSeq, T.slots, wipeE, isNonD, isiD, tyOf, intPart, cutD, frzAll, frz1, E.isNil], ?_, by simp [asSeq, eIx], fun y hy => ⟨[some (.int p), some (.lst xs), some y, some (.int i), some x], rfl, ?_⟩⟩
    · have h1 : ¬ ((i : Int) + 1 < 0) := by omega
      have h2 : min (i + 1) xs.length = i + 1 := by omega
      simp [runFn, argsOf, startF, evS, ev, evM, keepD, hid, shw, hid1, biD, binD, cmpD, outD, idxD, bindF, bindF.setAllF, bindT, setAll, asSeq, T.slots, wipeE, isNonD, isiD, tyOf, intPart, cutD, frzAll, frz1, E.isNil, cutL, sIx, h1, h2, List.take_of_length_le]
    · have := L_add (n := n + 1) (h x hm) (h y (List.mem_of_mem_drop hy)) (by decide) (by decide)
      simp [runFn, argsOf, startF, evS, ev, evM, keepD, hid, shw, hid1, biD, binD, cmpD, outD, idxD, bindF, bindF.setAllF, bindT, setAll, asSeq, T.slots, wipeE, isNonD, isiD, tyOf, intPart, cutD, frzAll, frz1, E.isNil, this, eIt]
  have d := L_different (n := n + 2) (xs := Prs p xs xs.length) (fun x hx => (Prs_ok h (Nat.le_refl _) x hx).nice) (by decide) hlen2
  simp [runFn, argsOf, startF, evS, ev, evM, keepD, hid, shw, hid1, biD, binD, cmpD, outD, idxD, bindF, bindF.setAllF, bindT, setAll, asSeq, T.slots, wipeE, isNonD, isiD, tyOf, intPart, cutD, frzAll, frz1, E.isNil, f_unlike_sums, b_unlike_sums, c, d]
theorem L_pairs (h : ∀ x ∈ xs, Nm p 4 x) (hn : xs.length ≤ 100) : fns tb (n + 4) i__law_pairs [.int p, .lst xs] = some (.lst (dd (Prs p xs xs.length))) := by
  rw [fns_succ (fn := f__law_pairs) rfl]
  have hP : ∀ k, k ≤ xs.length → (Prs p xs k).length + xs.length ≤ LIM := fun k hk => by
    have := Prs_len (p := p) (xs := xs) (k := k)
    have : k * xs.length ≤ 100 * 100 := Nat.mul_le_mul (by omega) hn
    unfold LIM; omega
  have key : ∃ e', evS (fns tb (n + 3)) l__law_pairs_1 [some (false, .int p), some (false, .lst xs), some (false, .lst []), none, none] = some (.nx e') ∧ ∃ w, e' = [some (false, .int p), some (false, .lst xs), some (false, .lst (Prs p xs (xs.length : Int).toNat)), w, none] := by
    refine at_rng (n := xs.length) (P := fun j e' => ∃ w, e' = [some (false, .int p), some (false, .lst xs), some (false, .lst (Prs p xs j)), w, none]) (by simp [runFn, argsOf, startF, evS, ev, evM, keepD, hid, shw, hid1, biD, binD, cmpD, outD, idxD, bindF, bindF.setAllF, bindT, setAll, asSeq, T.slots, wipeE, isNonD, isiD, tyOf, intPart, cutD, frzAll, frz1, E.isNil]) (rgOk_sm (by omega) (by omega)) ⟨none, rfl⟩ ?_
    rintro j hj _ ⟨w, rfl⟩
    have hj' : j < xs.length := by omega
    have hm : xs.getD j .non ∈ xs := by
      rw [List.getD_eq_getElem?_getD, List.getElem?_eq_getElem (by omega)]
      exact List.getElem_mem _
    have ij : idxL xs (j : Int) = some (xs.getD j .non) := by rw [idx_nth (by omega) (by omega), nth_nat]
    have e : Prs p xs (j + 1) = Prs p xs j ++ (xs.drop (j + 1)).map (sm p (xs.getD j .non)) := by simp [Prs, List.range_succ]
    generalize xs.getD j .non = x at *
    have c : ev (fns tb (n + 3)) c__law_pairs_2 [some (.int p), some (.lst xs), some (.lst (Prs p xs j)), some (.int j), none] = some (.lst ((xs.drop (j + 1)).map (sm p x))) := by
      rw [← range_nth]
      refine lc_map (d := .lst (rangeD ((j + 1 : Nat) : Int) xs.length)) ?_ rfl (fun y hy => ⟨[some (.int p), some (.lst xs), some (.lst (Prs p xs j)), some (.int j), some y], rfl, ?_⟩) (Nat.le_trans (by rw [range_len]; omega) (hP 0 (Nat.zero_le _)))
      · have ej : ((j + 1 : Nat) : Int) = (j : Int) + 1 := by omega
        rw [ej]
        exact ev_rng2 (by simp [runFn, argsOf, startF, evS, ev, evM, keepD, hid, shw, hid1, biD, binD, cmpD, outD, idxD, bindF, bindF.setAllF, bindT, setAll, asSeq, T.slots, wipeE, isNonD, isiD, tyOf, intPart, cutD, frzAll, frz1, E.isNil]) (by simp [runFn, argsOf, startF, evS, ev, evM, keepD, hid, shw, hid1, biD, binD, cmpD, outD, idxD, bindF, bindF.setAllF, bindT, setAll, asSeq, T.slots, wipeE, isNonD, isiD, tyOf, intPart, cutD, frzAll, frz1, E.isNil]) (rgOk_sm (by omega) (by omega)) (rgOk_sm (by omega) (by omega))
      · obtain ⟨z, rfl, z1, z2⟩ := mem_range.mp hy
        have iz := idx_nth (xs := xs) (i := z) (by omega) z2
        have := L_sum (n := n + 1) (h x hm) (h _ (nth_mem (xs := xs) (i := z) (by omega) z2)) (by decide) (by decide)
        simp [runFn, argsOf, startF, evS, ev, evM, keepD, hid, shw, hid1, biD, binD, cmpD, outD, idxD, bindF, bindF.setAllF, bindT, setAll, asSeq, T.slots, wipeE, isNonD, isiD, tyOf, intPart, cutD, frzAll, frz1, E.isNil, ij, iz, this]
    refine ⟨_, rfl, [some (false, .int p), some (false, .lst xs), some (false, .lst (Prs p xs (j + 1))), some (false, .int j), none], .inl ?_, _, rfl⟩
    have h1 : (Prs p xs j).length + ((xs.drop (j + 1)).map (sm p x)).length ≤ LIM := by
      refine Nat.le_trans ?_ (hP j (by omega))
      rw [List.length_map, List.length_drop]; omega
    rw [List.length_map, List.length_drop] at h1
    rw [e]
    simp [runFn, argsOf, startF, evS, ev, evM, keepD, hid, shw, hid1, biD, binD, cmpD, outD, idxD, bindF, bindF.setAllF, bindT, setAll, asSeq, T.slots, wipeE, isNonD, isiD, tyOf, intPart, cutD, frzAll, frz1, E.isNil, c, h1]
  rw [Int.toNat_natCast] at key
  obtain ⟨_, h1, w, rfl⟩ := key
  have d := L_unlike (n := n + 2) (xs := Prs p xs xs.length) (fun x hx => (Prs_ok h (Nat.le_refl _) x hx).nice) (by decide) (Nat.le_trans (Nat.le_add_right _ _) (hP xs.length (Nat.le_refl _)))
  simp [runFn, argsOf, startF, evS, ev, evM, keepD, hid, shw, hid1, biD, binD, cmpD, outD, idxD, bindF, bindF.setAllF, bindT, setAll, asSeq, T.slots, wipeE, isNonD, isiD, tyOf, intPart, cutD, frzAll, frz1, E.isNil, f__law_pairs, b__law_pairs, h1, d]
end
end PyD

namespace PyD
open PySem
noncomputable def nin (p : Int) (S tk : List D) (a : D) : Option D := S.findSome? fun b => if sm p a b ∈ tk then none else some (.tup [a, b])
noncomputable def npair (p : Int) (F S tk : List D) : Option D := F.findSome? (nin p S tk)
section
variable {n : Nat} {p : Int}
theorem pair_loops {Φ : Fns} {f k : Nat} {l1 l2 : S} {F S tk : List D} (hl2 : l2 = .for_ (.nm 5) (.var 2) (.iff (.cmp .notin (.call f (.cons (.var 0) (.cons (.var 4) (.cons (.var 5) .nil)))) (.var 3)) (.ret (.tup (.cons (.var 4) (.cons (.var 5) .nil))) {}) .skip))
    (hl1 : l1 = .for_ (.nm 4) (.var 1) l2) (hΦ : ∀ x y, Nm p 4 x → Nm p 4 y → Φ f [.int p, x, y] = some (sm p x y)) (hF : ∀ x ∈ F, Nm p 4 x) (hS : ∀ x ∈ S, Nm p 4 x) (ht : ∀ x ∈ tk, Nice k x) (hk : k < 64) :
    match npair p F S tk with
    | some d => evS Φ l1 [some (false, .int p), some (false, .lst F), some (false, .lst S), some (false, .lst tk), none, none] = some (.rt false d)
    | none => ∃ e', evS Φ l1 [some (false, .int p), some (false, .lst F), some (false, .lst S), some (false, .lst tk), none, none] = some (.nx e') ∧ ∃ w1 w2, e' = [some (false, .int p), some (false, .lst F), some (false, .lst S), some (false, .lst tk), w1, w2] := by
  subst hl1
  subst hl2
  rw [for_var (d := .lst F) (xs := F) (by simp [runFn, argsOf, startF, evS, ev, evM, keepD, hid, shw, hid1, biD, binD, cmpD, outD, idxD, bindF, bindF.setAllF, bindT, setAll, asSeq, T.slots, wipeE, isNonD, isiD, tyOf, intPart, cutD, frzAll, frz1, E.isNil]) rfl]
  refine forGo_some (R := fun e => ∃ w1 w2, e = [some (false, .int p), some (false, .lst F), some (false, .lst S), some (false, .lst tk), w1, w2]) ?_ ⟨none, none, rfl⟩
  rintro a ha _ ⟨w1, w2, rfl⟩
  refine ⟨_, rfl, ?_⟩
  rw [for_var (d := .lst S) (xs := S) (by simp [runFn, argsOf, startF, evS, ev, evM, keepD, hid, shw, hid1, biD, binD, cmpD, outD, idxD, bindF, bindF.setAllF, bindT, setAll, asSeq, T.slots, wipeE, isNonD, isiD, tyOf, intPart, cutD, frzAll, frz1, E.isNil]) rfl]
  have key := forGo_some (o := false) (bnd := fun x env => bindF (.nm 5) x env) (body := fun env => evS Φ (.iff (.cmp .notin (.call f (.cons (.var 0) (.cons (.var 4) (.cons (.var 5) .nil)))) (.var 3)) (.ret (.tup (.cons (.var 4) (.cons (.var 5) .nil))) {}) .skip) env) (xs := S) (env := [some (false, .int p), some (false, .lst F), some (false, .lst S), some (false, .lst tk), some (false, a), w2]) (q := fun b => if sm p a b ∈ tk then none else some (.tup [a, b])) (R := fun e => ∃ w2, e = [some (false, .int p), some (false, .lst F), some (false, .lst S), some (false, .lst tk), some (false, a), w2]) (by
    rintro b hb _ ⟨w2, rfl⟩
    refine ⟨_, rfl, ?_⟩
    have c := hΦ a b (hF a ha) (hS b hb)
    have hin := inSeq_nice (d := sm p a b) (ys := tk) (sm_ok (hF a ha) (hS b hb)).nice ht (by decide) hk
    by_cases h : sm p a b ∈ tk
    · simp only [h, if_true]
      refine ⟨[some (false, .int p), some (false, .lst F), some (false, .lst S), some (false, .lst tk), some (false, a), some (false, b)], .inl ?_, _, rfl⟩
      simp [runFn, argsOf, startF, evS, ev, evM, keepD, hid, shw, hid1, biD, binD, cmpD, outD, idxD, bindF, bindF.setAllF, bindT, setAll, asSeq, T.slots, wipeE, isNonD, isiD, tyOf, intPart, cutD, frzAll, frz1, E.isNil, c, hin, h]
    · simp only [h, if_false]
      simp [runFn, argsOf, startF, evS, ev, evM, keepD, hid, shw, hid1, biD, binD, cmpD, outD, idxD, bindF, bindF.setAllF, bindT, setAll, asSeq, T.slots, wipeE, isNonD, isiD, tyOf, intPart, cutD, frzAll, frz1, E.isNil, c, hin, h]) ⟨w2, rfl⟩
  show match nin p S tk a with
    | some d => _
    | none => _
  revert key
  unfold nin
  cases S.findSome? _ with
  | some d => exact id
  | none =>
    rintro ⟨e', h1, w, rfl⟩
    exact ⟨_, .inl h1, _, _, rfl⟩
theorem L_new_sum {k : Nat} {F S tk : List D} (hF : ∀ x ∈ F, Nm p 4 x) (hS : ∀ x ∈ S, Nm p 4 x) (ht : ∀ x ∈ tk, Nice k x) (hk : k < 64) :
    fns tb (n + 3) i_new_sum [.int p, .lst F, .lst S, .lst tk] = some ((npair p F S tk).getD .non) := by
  rw [fns_succ (fn := f_new_sum) rfl]
  have key := pair_loops (Φ := fns tb (n + 2)) (f := i_add) (l1 := l_new_sum_1) (l2 := l_new_sum_2) rfl rfl (fun x y hx hy => L_add hx hy (by decide) (by decide)) hF hS ht hk
  cases h : npair p F S tk with
  | some d =>
    rw [h] at key
    simp [runFn, argsOf, startF, evS, ev, evM, keepD, hid, shw, hid1, biD, binD, cmpD, outD, idxD, bindF, bindF.setAllF, bindT, setAll, asSeq, T.slots, wipeE, isNonD, isiD, tyOf, intPart, cutD, frzAll, frz1, E.isNil, f_new_sum, b_new_sum, key]
  | none =>
    rw [h] at key
    obtain ⟨e', h1, w1, w2, rfl⟩ := key
    simp [runFn, argsOf, startF, evS, ev, evM, keepD, hid, shw, hid1, biD, binD, cmpD, outD, idxD, bindF, bindF.setAllF, bindT, setAll, asSeq, T.slots, wipeE, isNonD, isiD, tyOf, intPart, cutD, frzAll, frz1, E.isNil, f_new_sum, b_new_sum, h1]
theorem L_pair {k : Nat} {F S tk : List D} (hF : ∀ x ∈ F, Nm p 4 x) (hS : ∀ x ∈ S, Nm p 4 x) (ht : ∀ x ∈ tk, Nice k x) (hk : k < 64) :
    fns tb (n + 3) i__law_pair [.int p, .lst F, .lst S, .lst tk] = some ((npair p F S tk).getD .non) := by
  rw [fns_succ (fn := f__law_pair) rfl]
  have key := pair_loops (Φ := fns tb (n + 2)) (f := i__law_sum) (l1 := l__law_pair_1) (l2 := l__law_pair_2) rfl rfl (fun x y hx hy => L_sum hx hy (by decide) (by decide)) hF hS ht hk
  cases h : npair p F S tk with
  | some d =>
    rw [h] at key
    simp [runFn, argsOf, startF, evS, ev, evM, keepD, hid, shw, hid1, biD, binD, cmpD, outD, idxD, bindF, bindF.setAllF, bindT, setAll, asSeq, T.slots, wipeE, isNonD, isiD, tyOf, intPart, cutD, frzAll, frz1, E.isNil, f__law_pair, b__law_pair, key]
  | none =>
    rw [h] at key
    obtain ⟨e', h1, w1, w2, rfl⟩ := key
    simp [runFn, argsOf, startF, evS, ev, evM, keepD, hid, shw, hid1, biD, binD, cmpD, outD, idxD, bindF, bindF.setAllF, bindT, setAll, asSeq, T.slots, wipeE, isNonD, isiD, tyOf, intPart, cutD, frzAll, frz1, E.isNil, f__law_pair, b__law_pair, h1]
theorem npair_ok {F S tk : List D} {d : D} (hF : ∀ x ∈ F, Nm p 4 x) (hS : ∀ x ∈ S, Nm p 4 x) (h : npair p F S tk = some d) : ∃ a b, d = .tup [a, b] ∧ Nm p 4 a ∧ Nm p 4 b := by
  obtain ⟨a, ha, h1⟩ := List.exists_of_findSome?_eq_some h
  obtain ⟨b, hb, h2⟩ := List.exists_of_findSome?_eq_some h1
  split at h2
  · cases h2
  · cases h2
    exact ⟨a, b, rfl, hF a ha, hS b hb⟩
/-! ### the judge of a list -/
theorem is_2 {Φ : Fns} {u v k : D} {w : Option (Bool × D)} {ps : List D} {d : D} (hd : asSeq d = some ps) (h : ∀ x ∈ ps, ∃ i, x = .int i) :
    ∃ e', evS Φ l__law_is_2 [some (false, .int p), some (false, u), some (false, v), some (false, k), some (false, d), w] = some (.nx e') ∧ ∃ w, e' = [some (false, .int p), some (false, u), some (false, v), some (false, k), some (false, d), w] := by
  refine at_var (d := d) (xs := ps) (P := fun j e' => ∃ w, e' = [some (false, .int p), some (false, u), some (false, v), some (false, k), some (false, d), w]) (by simp [runFn, argsOf, startF, evS, ev, evM, keepD, hid, shw, hid1, biD, binD, cmpD, outD, idxD, bindF, bindF.setAllF, bindT, setAll, asSeq, T.slots, wipeE, isNonD, isiD, tyOf, intPart, cutD, frzAll, frz1, E.isNil]) hd ⟨w, rfl⟩ ?_
  rintro j x hx _ ⟨w, rfl⟩
  obtain ⟨i, rfl⟩ := h x (List.mem_of_getElem? hx)
  refine ⟨_, rfl, [some (false, .int p), some (false, u), some (false, v), some (false, k), some (false, d), some (false, .int i)], .inl ?_, _, rfl⟩
  simp [runFn, argsOf, startF, evS, ev, evM, keepD, hid, shw, hid1, biD, binD, cmpD, outD, idxD, bindF, bindF.setAllF, bindT, setAll, asSeq, T.slots, wipeE, isNonD, isiD, tyOf, intPart, cutD, frzAll, frz1, E.isNil]
theorem L_is {B : Int} {xs : List D} (hp : 0 ≤ p) (h : ∀ x ∈ xs, Nm p B x) (hn : xs.length ≤ LIM) : fns tb (n + 1) i__law_is [.int p, .lst xs, .lst xs] = some (.bl true) := by
  rw [fns_succ (fn := f__law_is) rfl]
  have key : ∃ e', evS (fns tb n) l__law_is_1 [some (false, .int p), some (false, .lst xs), some (false, .lst xs), none, none, none] = some (.nx e') ∧ ∃ w1 w2 w3, e' = [some (false, .int p), some (false, .lst xs), some (false, .lst xs), w1, w2, w3] := by
    refine at_rng (n := xs.length) (P := fun j e' => ∃ w1 w2 w3, e' = [some (false, .int p), some (false, .lst xs), some (false, .lst xs), w1, w2, w3]) (by simp [runFn, argsOf, startF, evS, ev, evM, keepD, hid, shw, hid1, biD, binD, cmpD, outD, idxD, bindF, bindF.setAllF, bindT, setAll, asSeq, T.slots, wipeE, isNonD, isiD, tyOf, intPart, cutD, frzAll, frz1, E.isNil]) (rgOk_sm (by omega) (by have : LIM = 1000000 := rfl; omega)) ⟨none, none, none, rfl⟩ ?_
    rintro j hj _ ⟨w1, w2, w3, rfl⟩
    have hx := nth_mem (xs := xs) (i := j) (by omega) hj
    have ix := idx_nth (xs := xs) (i := j) (by omega) hj
    generalize nth xs (.int j) = x at *
    have hnx := h x hx
    refine ⟨_, rfl, ?_⟩
    have hq : eqD x x = some true := by rw [eqD_nice hnx.nice hnx.nice (by decide) (by decide)]; simp
    cases hnx with
    | i h1 h2 h3 =>
      rename_i z
      obtain ⟨_, h4, w, rfl⟩ := is_2 (Φ := fns tb n) (p := p) (u := .lst xs) (v := .lst xs) (k := .int j) (w := w3) (ps := [.int z]) (d := .lst [.int z]) rfl (fun x hx => ⟨z, List.mem_singleton.mp hx⟩)
      have hne : ¬ p = 0 := by omega
      refine ⟨[some (false, .int p), some (false, .lst xs), some (false, .lst xs), some (false, .int j), some (false, .lst [.int z]), w], .inl ?_, _, _, _, rfl⟩
      simp [runFn, argsOf, startF, evS, ev, evM, keepD, hid, shw, hid1, biD, binD, cmpD, outD, idxD, bindF, bindF.setAllF, bindT, setAll, asSeq, T.slots, wipeE, isNonD, isiD, tyOf, intPart, cutD, frzAll, frz1, E.isNil, ix, h1, hne, h4]
    | q h1 h2 h3 h4 =>
      rename_i a d
      subst h1
      obtain ⟨_, h4, w, rfl⟩ := is_2 (Φ := fns tb n) (p := 0) (u := .lst xs) (v := .lst xs) (k := .int j) (w := w3) (ps := [.int a, .int d]) (d := .tup [.int a, .int d]) rfl (fun x hx => by
        rcases List.mem_cons.mp hx with rfl | hx
        · exact ⟨_, rfl⟩
        · exact ⟨_, List.mem_singleton.mp hx⟩)
      refine ⟨[some (false, .int 0), some (false, .lst xs), some (false, .lst xs), some (false, .int j), some (false, .tup [.int a, .int d]), w], .inl ?_, _, _, _, rfl⟩
      simp [runFn, argsOf, startF, evS, ev, evM, keepD, hid, shw, hid1, biD, binD, cmpD, outD, idxD, bindF, bindF.setAllF, bindT, setAll, asSeq, T.slots, wipeE, isNonD, isiD, tyOf, intPart, cutD, frzAll, frz1, E.isNil, ix, h4, hq]
  obtain ⟨_, h1, w1, w2, w3, rfl⟩ := key
  simp [runFn, argsOf, startF, evS, ev, evM, keepD, hid, shw, hid1, biD, binD, cmpD, outD, idxD, bindF, bindF.setAllF, bindT, setAll, asSeq, T.slots, wipeE, isNonD, isiD, tyOf, intPart, cutD, frzAll, frz1, E.isNil, f__law_is, b__law_is, h1]
end
end PyD

namespace PyD
open PySem
/-- a pool at a place -/
def pat (P : List Int) (i : Int) : Int := P.getD i.toNat 0
theorem idx_pool {P : List Int} {i : Int} (h : 0 ≤ i) (h2 : i < P.length) : idxL (P.map D.int) i = some (.int (pat P i)) := by
  rw [idxL_int h (by rw [List.length_map]; exact h2), List.getElem_map]
  simp only [pat]
  rw [List.getD_eq_getElem?_getD, List.getElem?_eq_getElem (by omega)]
  rfl
theorem pat_ok {P : List Int} (hP : Pool P) (i : Int) : 0 ≤ pat P i ∧ pat P i < 1000 := by
  unfold pat
  rw [List.getD_eq_getElem?_getD]
  cases h : P[i.toNat]? with
  | none => simp
  | some x => exact hP x (List.mem_of_getElem? h)
theorem ints_map {L : List Int} : intsOf (L.map D.int) = some L := by
  induction L with
  | nil => rfl
  | cons x L ih => simp [intsOf, ih]
theorem foldl_due {L : List Int} : ∀ {s : Int}, L.foldl (fun s l => s + l - 1) s = s + (L.map (· - 1)).sum := by
  induction L with
  | nil => simp
  | cons x L ih => intro s; rw [List.foldl_cons, ih, List.map_cons, List.sum_cons]; omega
section
variable {n : Nat} {p : Int} {P : List Int}
def bdue (p : Int) (L : List Int) : Int := if 0 < p ∧ p < 1 + (L.map (· - 1)).sum then p else 1 + (L.map (· - 1)).sum
theorem L_sum_bound {L : List Int} {d : D} (hd : asSeq d = some (L.map .int)) (hL : L.length ≤ LIM) : fns tb (n + 1) i_sum_bound [.int p, d] = some (.int (bdue p L)) := by
  rw [fns_succ (fn := f_sum_bound) rfl]
  have c : ev (fns tb n) c_sum_bound_1 [some (.int p), some d, none, none] = some (.lst ((L.map (· - 1)).map .int)) := by
    have e : (L.map (· - 1)).map D.int = (L.map D.int).map fun t => match t with | .int i => .int (i - 1) | _ => .non := by
      simp [List.map_map, Function.comp]
    rw [e]
    refine lc_map (d := d) (by simp [runFn, argsOf, startF, evS, ev, evM, keepD, hid, shw, hid1, biD, binD, cmpD, outD, idxD, bindF, bindF.setAllF, bindT, setAll, asSeq, T.slots, wipeE, isNonD, isiD, tyOf, intPart, cutD, frzAll, frz1, E.isNil]) hd (fun x hx => ?_) (by rw [List.length_map]; exact hL)
    obtain ⟨i, _, rfl⟩ := List.mem_map.mp hx
    exact ⟨_, rfl, by simp [runFn, argsOf, startF, evS, ev, evM, keepD, hid, shw, hid1, biD, binD, cmpD, outD, idxD, bindF, bindF.setAllF, bindT, setAll, asSeq, T.slots, wipeE, isNonD, isiD, tyOf, intPart, cutD, frzAll, frz1, E.isNil]⟩
  unfold bdue
  generalize L.map (· - 1) = M at *
  have im := ints_map (L := M)
  by_cases h : 0 < p
  · by_cases h2 : p < 1 + M.sum
    · have h3 : ¬ (1 + M.sum < p) := by omega
      simp [runFn, argsOf, startF, evS, ev, evM, keepD, hid, shw, hid1, biD, binD, cmpD, outD, idxD, bindF, bindF.setAllF, bindT, setAll, asSeq, T.slots, wipeE, isNonD, isiD, tyOf, intPart, cutD, frzAll, frz1, E.isNil, f_sum_bound, b_sum_bound, c, im, h, h2, h3]
    · by_cases h3 : 1 + M.sum < p
      · simp [runFn, argsOf, startF, evS, ev, evM, keepD, hid, shw, hid1, biD, binD, cmpD, outD, idxD, bindF, bindF.setAllF, bindT, setAll, asSeq, T.slots, wipeE, isNonD, isiD, tyOf, intPart, cutD, frzAll, frz1, E.isNil, f_sum_bound, b_sum_bound, c, im, h, h2, h3]
      · have : p = 1 + M.sum := by omega
        simp [runFn, argsOf, startF, evS, ev, evM, keepD, hid, shw, hid1, biD, binD, cmpD, outD, idxD, bindF, bindF.setAllF, bindT, setAll, asSeq, T.slots, wipeE, isNonD, isiD, tyOf, intPart, cutD, frzAll, frz1, E.isNil, f_sum_bound, b_sum_bound, c, im, h, h2, h3, ← this]
  · simp [runFn, argsOf, startF, evS, ev, evM, keepD, hid, shw, hid1, biD, binD, cmpD, outD, idxD, bindF, bindF.setAllF, bindT, setAll, asSeq, T.slots, wipeE, isNonD, isiD, tyOf, intPart, cutD, frzAll, frz1, E.isNil, f_sum_bound, b_sum_bound, c, im, h]
theorem bounds_2 {Φ : Fns} {u pr : D} {w4 w5 w6 w7 w8 : Option (Bool × D)} {L : List Int} :
    ∃ e', evS Φ l__law_bounds_2 [some (false, u), some (false, pr), some (false, .lst (L.map .int)), some (false, .int 1), none, none, none, none, none] = some (.nx e') ∧ ∃ w, e' = [some (false, u), some (false, pr), some (false, .lst (L.map .int)), some (false, .int (1 + (L.map (· - 1)).sum)), w, none, none, none, none] := by
  have key : ∃ e', evS Φ l__law_bounds_2 [some (false, u), some (false, pr), some (false, .lst (L.map .int)), some (false, .int 1), none, none, none, none, none] = some (.nx e') ∧ ∃ w, e' = [some (false, u), some (false, pr), some (false, .lst (L.map .int)), some (false, .int ((L.map D.int).foldl (fun s x => match x with | .int l => s + l - 1 | _ => s) 1)), w, none, none, none, none] := by
    refine fo_var (d := .lst (L.map .int)) (xs := L.map .int) (R := fun s e' => ∃ w, e' = [some (false, u), some (false, pr), some (false, .lst (L.map .int)), some (false, .int s), w, none, none, none, none]) (by simp [runFn, argsOf, startF, evS, ev, evM, keepD, hid, shw, hid1, biD, binD, cmpD, outD, idxD, bindF, bindF.setAllF, bindT, setAll, asSeq, T.slots, wipeE, isNonD, isiD, tyOf, intPart, cutD, frzAll, frz1, E.isNil]) rfl ⟨none, rfl⟩ ?_
    rintro x hx s _ ⟨w, rfl⟩
    obtain ⟨i, _, rfl⟩ := List.mem_map.mp hx
    exact ⟨_, rfl, _, .inl (by simp [runFn, argsOf, startF, evS, ev, evM, keepD, hid, shw, hid1, biD, binD, cmpD, outD, idxD, bindF, bindF.setAllF, bindT, setAll, asSeq, T.slots, wipeE, isNonD, isiD, tyOf, intPart, cutD, frzAll, frz1, E.isNil]; rfl), _, rfl⟩
  rw [List.foldl_map] at key
  simp only [foldl_due] at key
  exact key
theorem bounds_3 {Φ : Fns} {u : D} {w4 : Option (Bool × D)} {L M : List Int} (hΦ : ∀ d, asSeq d = some (L.map .int) → Φ i_sum_bound [.int p, d] = some (.int (bdue p L))) (hL : L.length ≤ LIM) :
    ∃ e', evS Φ l__law_bounds_3 [some (false, u), some (false, .int p), some (false, .lst (L.map .int)), some (false, .int (bdue p L)), w4, some (false, .lst (M.map .int)), none, none, none] = some (.nx e') ∧ ∃ w6 w7, e' = [some (false, u), some (false, .int p), some (false, .lst (L.map .int)), some (false, .int (bdue p L)), w4, some (false, .lst (M.map .int)), w6, w7, none] := by
  unfold l__law_bounds_3
  rw [for_tup (d := .tup [.lst (L.map .int), .tup (L.map .int)]) (xs := [.lst (L.map .int), .tup (L.map .int)]) (by simp [runFn, argsOf, startF, evS, ev, evM, keepD, hid, shw, hid1, biD, binD, cmpD, outD, idxD, bindF, bindF.setAllF, bindT, setAll, asSeq, T.slots, wipeE, isNonD, isiD, tyOf, intPart, cutD, frzAll, frz1, E.isNil]) rfl]
  refine forGo_keep (R := fun e' => ∃ w6 w7, e' = [some (false, u), some (false, .int p), some (false, .lst (L.map .int)), some (false, .int (bdue p L)), w4, some (false, .lst (M.map .int)), w6, w7, none]) ?_ ⟨none, none, rfl⟩
  rintro x hx _ ⟨w6, w7, rfl⟩
  have hd : asSeq x = some (L.map .int) := by
    rcases List.mem_cons.mp hx with rfl | hx
    · rfl
    · rw [List.mem_singleton.mp hx]; rfl
  refine ⟨_, rfl, [some (false, u), some (false, .int p), some (false, .lst (L.map .int)), some (false, .int (bdue p L)), w4, some (false, .lst (M.map .int)), some (false, x), some (false, .int (bdue p L)), none], .inl ?_, _, _, rfl⟩
  have := hΦ x hd
  simp [runFn, argsOf, startF, evS, ev, evM, keepD, hid, shw, hid1, biD, binD, cmpD, outD, idxD, bindF, bindF.setAllF, bindT, setAll, asSeq, T.slots, wipeE, isNonD, isiD, tyOf, intPart, cutD, frzAll, frz1, E.isNil, this]
theorem nice_ints {L : List Int} : ∀ x ∈ L.map D.int, Nice 0 x := by
  intro x hx
  obtain ⟨i, _, rfl⟩ := List.mem_map.mp hx
  exact .int _
theorem L_bounds (hP : Pool P) (hn : P.length = 280) : fns tb (n + 2) i__law_bounds [.lst (P.map .int), .int p] = some (.bl true) := by
  rw [fns_succ (fn := f__law_bounds) rfl]
  have hk := pat_ok hP 69
  have c : ∃ L : List Int, L.length ≤ 4 ∧ ev (fns tb (n + 1)) c__law_bounds_1 [some (.lst (P.map .int)), some (.int p), none, none, none, none, none, none, none] = some (.lst (L.map .int)) := by
    refine ⟨(List.range (pat P 69 % 5 - 0).toNat).map fun i : Nat => 1 + pat P (70 + (0 + (i : Int))) % 9, by simp; omega, ?_⟩
    have e : ((List.range (pat P 69 % 5 - 0).toNat).map fun i : Nat => 1 + pat P (70 + (0 + (i : Int))) % 9).map D.int = (rangeD 0 (pat P 69 % 5)).map fun t => match t with | .int i => .int (1 + pat P (70 + i) % 9) | _ => .non := by
      simp [rangeD, List.map_map, Function.comp]
    rw [e]
    refine lc_map (d := .lst (rangeD 0 (pat P 69 % 5))) ?_ rfl (fun x hx => ?_) (by rw [range_len]; unfold LIM; omega)
    · exact ev_rng1 (by simp [runFn, argsOf, startF, evS, ev, evM, keepD, hid, shw, hid1, biD, binD, cmpD, outD, idxD, bindF, bindF.setAllF, bindT, setAll, asSeq, T.slots, wipeE, isNonD, isiD, tyOf, intPart, cutD, frzAll, frz1, E.isNil, idx_pool (P := P) (i := 69) (by omega) (by omega)]) (rgOk_sm (by omega) (by omega))
    · obtain ⟨i, rfl, h1, h2⟩ := mem_range.mp hx
      exact ⟨_, rfl, by simp [runFn, argsOf, startF, evS, ev, evM, keepD, hid, shw, hid1, biD, binD, cmpD, outD, idxD, bindF, bindF.setAllF, bindT, setAll, asSeq, T.slots, wipeE, isNonD, isiD, tyOf, intPart, cutD, frzAll, frz1, E.isNil, idx_pool (P := P) (i := 70 + i) (by omega) (by omega)]⟩
  obtain ⟨L, hL, c⟩ := c
  obtain ⟨L', hL', h1⟩ : ∃ L' : List Int, L'.length ≤ 5 ∧ evS (fns tb (n + 1)) (.iff (.cmp .eq (.bin .mod (.idx (.var 0) (.int 75)) (.int 5)) (.int 0)) (.app 2 (.bin .add (.int 1) (.bin .mul (.idx (.var 0) (.int 76)) (.idx (.var 0) (.int 77)))) {}) .skip) [some (false, .lst (P.map .int)), some (false, .int p), some (true, .lst (L.map .int)), none, none, none, none, none, none] = some (.nx [some (false, .lst (P.map .int)), some (false, .int p), some (true, .lst (L'.map .int)), none, none, none, none, none, none]) := by
    have i75 := idx_pool (P := P) (i := 75) (by omega) (by omega)
    have i76 := idx_pool (P := P) (i := 76) (by omega) (by omega)
    have i77 := idx_pool (P := P) (i := 77) (by omega) (by omega)
    have hk := pat_ok hP 76
    have hm : mulOk (pat P 76) (pat P 77) = true := mulOk_l (by omega) (by omega)
    by_cases h : pat P 75 % 5 = 0
    · refine ⟨L ++ [1 + pat P 76 * pat P 77], by simp; omega, ?_⟩
      have hl : L.length < LIM := by unfold LIM; omega
      simp [runFn, argsOf, startF, evS, ev, evM, keepD, hid, shw, hid1, biD, binD, cmpD, outD, idxD, bindF, bindF.setAllF, bindT, setAll, asSeq, T.slots, wipeE, isNonD, isiD, tyOf, intPart, cutD, frzAll, frz1, E.isNil, i75, i76, i77, hm, h, hl]
    · exact ⟨L, by omega, by simp [runFn, argsOf, startF, evS, ev, evM, keepD, hid, shw, hid1, biD, binD, cmpD, outD, idxD, bindF, bindF.setAllF, bindT, setAll, asSeq, T.slots, wipeE, isNonD, isiD, tyOf, intPart, cutD, frzAll, frz1, E.isNil, i75, h]⟩
  have hlim : L'.length ≤ LIM := by unfold LIM; omega
  obtain ⟨_, h2, w4, rfl⟩ := bounds_2 (Φ := fns tb (n + 1)) (u := .lst (P.map .int)) (pr := .int p) (w4 := none) (w5 := none) (w6 := none) (w7 := none) (w8 := none) (L := L')
  obtain ⟨_, h3, w6, w7, rfl⟩ := bounds_3 (Φ := fns tb (n + 1)) (p := p) (u := .lst (P.map .int)) (w4 := w4) (L := L') (M := L') (fun d hd => L_sum_bound hd hlim) hlim
  have hq : eqD (.lst (L'.map .int)) (.lst (L'.map .int)) = some true := by
    rw [eqD_nice (.lst nice_ints) (.lst nice_ints) (by decide) (by decide)]; simp
  have s1 : evS (fns tb (n + 1)) (.asg 2 c__law_bounds_1 { own := true }) [some (false, .lst (P.map .int)), some (false, .int p), none, none, none, none, none, none, none] = some (.nx [some (false, .lst (P.map .int)), some (false, .int p), some (true, .lst (L.map .int)), none, none, none, none, none, none]) := asg_of (d := .lst (L.map .int)) c rfl
  have body : evS (fns tb (n + 1)) b__law_bounds [some (false, .lst (P.map .int)), some (false, .int p), none, none, none, none, none, none, none] = some (.rt false (.bl true)) := by
    unfold b__law_bounds
    rw [seq_nx s1, seq_nx h1]
    unfold bdue at h3
    by_cases h : 0 < p ∧ p < 1 + (L'.map (· - 1)).sum
    · simp only [h, and_self, if_true] at h3
      simp [runFn, argsOf, startF, evS, ev, evM, keepD, hid, shw, hid1, biD, binD, cmpD, outD, idxD, bindF, bindF.setAllF, bindT, setAll, asSeq, T.slots, wipeE, isNonD, isiD, tyOf, intPart, cutD, frzAll, frz1, E.isNil, h2, h3, h, hq]
    · simp only [h, if_false] at h3
      by_cases hp : 0 < p
      · have h' : ¬ p < 1 + (L'.map (· - 1)).sum := fun k => h ⟨hp, k⟩
        simp [runFn, argsOf, startF, evS, ev, evM, keepD, hid, shw, hid1, biD, binD, cmpD, outD, idxD, bindF, bindF.setAllF, bindT, setAll, asSeq, T.slots, wipeE, isNonD, isiD, tyOf, intPart, cutD, frzAll, frz1, E.isNil, h2, h3, h', hp, hq]
      · simp [runFn, argsOf, startF, evS, ev, evM, keepD, hid, shw, hid1, biD, binD, cmpD, outD, idxD, bindF, bindF.setAllF, bindT, setAll, asSeq, T.slots, wipeE, isNonD, isiD, tyOf, intPart, cutD, frzAll, frz1, E.isNil, h2, h3, hp, hq]
  simp [runFn, argsOf, startF, f__law_bounds, body, outD]
end
end PyD

namespace PyD
open PySem
theorem getD_mem {xs : List D} {i : Nat} (h : i < xs.length) : xs.getD i .non ∈ xs := by
  rw [List.getD_eq_getElem?_getD, List.getElem?_eq_getElem h]
  exact List.getElem_mem _
theorem zipD_eq {vs : List D} : ∀ {ss : List D}, vs.length = ss.length → zipD vs ss = (List.range vs.length).map fun i => .tup [vs.getD i .non, ss.getD i .non] := by
  induction vs with
  | nil => intro ss h; rfl
  | cons v vs ih =>
    intro ss h
    cases ss with
    | nil => cases h
    | cons s ss =>
      rw [zipD, ih (by simpa using h), List.length_cons, List.range_succ_eq_map, List.map_cons, List.map_map]
      rfl
def eFst : D → D
  | .tup [x, _] => x
  | _ => .non
def eSnd : D → D
  | .tup [_, x] => x
  | _ => .non
section
variable {n : Nat} {p : Int} {P : List Int}
/-- the values where the side is not zero -/
noncomputable def tkn (p : Int) (vs ss : List D) : List D := ((List.range vs.length).filter fun i => decide (ss.getD i .non ≠ zero p)).map fun i => vs.getD i .non
theorem in_zero {B : Int} {x : D} (h : Nm p B x) : x ∈ [D.int 0, .tup [.int 0, .int 1]] ↔ x = zero p := by
  cases h with
  | i h1 h2 h3 => simp [zero, h1]
  | q h1 h2 h3 h4 => subst h1; simp [zero]
theorem tkn_ok {vs ss : List D} (hv : ∀ x ∈ vs, Nm p 4 x) : ∀ x ∈ tkn p vs ss, Nm p 4 x := by
  intro x hx
  obtain ⟨i, hi, rfl⟩ := List.mem_map.mp hx
  exact hv _ (getD_mem (List.mem_range.mp (List.mem_filter.mp hi).1))
theorem tkn_len {vs ss : List D} : (tkn p vs ss).length ≤ vs.length := by
  unfold tkn
  rw [List.length_map]
  refine Nat.le_trans (List.length_filter_le ..) ?_
  rw [List.length_range]
  exact Nat.le_refl _
theorem L_values_taken {vs ss : List D} (hv : ∀ x ∈ vs, Nm p 4 x) (hs : ∀ x ∈ ss, Nm p 4 x) (hl : vs.length = ss.length) (hn : vs.length ≤ LIM) :
    fns tb (n + 2) i_values_taken [.lst vs, .lst ss] = some (.lst (dd (tkn p vs ss))) := by
  rw [fns_succ (fn := f_values_taken) rfl]
  have c : ev (fns tb (n + 1)) c_values_taken_1 [some (.lst vs), some (.lst ss), none, none] = some (.lst (tkn p vs ss)) := by
    have e : tkn p vs ss = ((zipD vs ss).filter fun t => decide (eSnd t ∉ [D.int 0, .tup [.int 0, .int 1]])).map eFst := by
      rw [zipD_eq hl, List.filter_map, List.map_map]
      unfold tkn
      have : (List.range vs.length).filter (fun i => decide (ss.getD i .non ≠ zero p)) = (List.range vs.length).filter ((fun t => decide (eSnd t ∉ [D.int 0, .tup [.int 0, .int 1]])) ∘ fun i => .tup [vs.getD i .non, ss.getD i .non]) := by
        refine List.filter_congr fun i hi => ?_
        have q := in_zero (hs _ (getD_mem (xs := ss) (i := i) (by rw [← hl]; exact List.mem_range.mp hi)))
        by_cases hz : ss.getD i .non = zero p
        · exact (decide_eq_false (fun k => k hz)).trans (decide_eq_false (p := ¬ (eSnd (.tup [vs.getD i .non, ss.getD i .non]) ∈ [D.int 0, .tup [.int 0, .int 1]])) (fun k => k (q.mpr hz))).symm
        · exact (decide_eq_true hz).trans (decide_eq_true (p := ¬ (eSnd (.tup [vs.getD i .non, ss.getD i .non]) ∈ [D.int 0, .tup [.int 0, .int 1]])) (fun k => hz (q.mp k))).symm
      rw [this]
      rfl
    rw [e]
    refine lc_filt (d := .lst (zipD vs ss)) (by simp [runFn, argsOf, startF, evS, ev, evM, keepD, hid, shw, hid1, biD, binD, cmpD, outD, idxD, bindF, bindF.setAllF, bindT, setAll, asSeq, T.slots, wipeE, isNonD, isiD, tyOf, intPart, cutD, frzAll, frz1, E.isNil]) rfl (fun t ht => ?_) (by rw [zipD_eq hl]; simpa using hn)
    rw [zipD_eq hl] at ht
    obtain ⟨i, hi, rfl⟩ := List.mem_map.mp ht
    have h1 := hs _ (getD_mem (xs := ss) (i := i) (by rw [← hl]; exact List.mem_range.mp hi))
    generalize ss.getD i .non = s at *
    generalize vs.getD i .non = v at *
    refine ⟨[some (.lst vs), some (.lst ss), some v, some s], rfl, ?_, fun _ => by simp [runFn, argsOf, startF, evS, ev, evM, keepD, hid, shw, hid1, biD, binD, cmpD, outD, idxD, bindF, bindF.setAllF, bindT, setAll, asSeq, T.slots, wipeE, isNonD, isiD, tyOf, intPart, cutD, frzAll, frz1, E.isNil, eFst]⟩
    have hin := inSeq_nice (d := s) (ys := [D.int 0, .tup [.int 0, .int 1]]) (k := 1) (m := 1) h1.nice (by
      intro y hy
      rcases List.mem_cons.mp hy with rfl | hy
      · exact .int _
      · rw [List.mem_singleton.mp hy]
        exact .tup fun x hx => by
          rcases List.mem_cons.mp hx with rfl | hx
          · exact .int _
          · rw [List.mem_singleton.mp hx]
            exact .int _) (by decide) (by decide)
    simp only [runFn, argsOf, startF, evS, ev, evM, keepD, hid, shw, hid1, biD, binD, cmpD, outD, idxD, bindF, bindF.setAllF, bindT, setAll, asSeq, T.slots, wipeE, isNonD, isiD, tyOf, intPart, cutD, frzAll, frz1, E.isNil, Option.bind_some, List.getElem?_cons_zero, List.getElem?_cons_succ, Option.join, id, hin, Option.map_some, eSnd]
    simp
  have d := L_different (n := n) (xs := tkn p vs ss) (fun x hx => (tkn_ok hv x hx).nice) (by decide) (Nat.le_trans tkn_len hn)
  simp [runFn, argsOf, startF, evS, ev, evM, keepD, hid, shw, hid1, biD, binD, cmpD, outD, idxD, bindF, bindF.setAllF, bindT, setAll, asSeq, T.slots, wipeE, isNonD, isiD, tyOf, intPart, cutD, frzAll, frz1, E.isNil, f_values_taken, b_values_taken, c, d]
theorem L_list {at_ most : Int} {single : Bool} (hp : 0 ≤ p) (hP : Pool P) (h0 : 0 ≤ at_) (h1 : 1 ≤ most) (h2 : at_ + 2 * most ≤ P.length) (h3 : most ≤ 1000) :
    ∃ xs : List D, (∀ x ∈ xs, Nm p 4 x) ∧ (xs.length : Int) < most ∧ fns tb (n + 3) i__law_list [.lst (P.map .int), .int at_, .int p, .bl single, .int most] = some (.lst xs) := by
  have ha := idx_pool (P := P) (i := at_) h0 (by omega)
  have hm := Int.emod_lt_of_pos (pat P at_) (show 0 < most by omega)
  have hm0 := Int.emod_nonneg (pat P at_) (show most ≠ 0 by omega)
  obtain ⟨xs, hx⟩ : ∃ xs, xs = (rangeD 0 (pat P at_ % most)).map fun t => match t with | .int k => lnum p (pat P (at_ + 1 + 2 * k)) (pat P (at_ + 2 + 2 * k)) | _ => .non := ⟨_, rfl⟩
  have hok : ∀ x ∈ xs, Nm p 4 x := by
    intro x hxm
    rw [hx] at hxm
    obtain ⟨t, ht, rfl⟩ := List.mem_map.mp hxm
    obtain ⟨k, rfl, _, _⟩ := mem_range.mp ht
    exact lnum_ok hp
  have hlen : (xs.length : Int) < most := by rw [hx, List.length_map, range_len]; omega
  have hL : xs.length ≤ LIM := by have : LIM = 1000000 := rfl; omega
  have c : ev (fns tb (n + 2)) c__law_list_1 [some (.lst (P.map .int)), some (.int at_), some (.int p), some (.bl single), some (.int most), none, none] = some (.lst xs) := by
    rw [hx]
    refine lc_map (d := .lst (rangeD 0 (pat P at_ % most))) ?_ rfl (fun t ht => ?_) (by rw [hx, List.length_map] at hL; exact hL)
    · exact ev_rng1 (by simp [runFn, argsOf, startF, evS, ev, evM, keepD, hid, shw, hid1, biD, binD, cmpD, outD, idxD, bindF, bindF.setAllF, bindT, setAll, asSeq, T.slots, wipeE, isNonD, isiD, tyOf, intPart, cutD, frzAll, frz1, E.isNil, ha]; omega) (rgOk_sm (by omega) (by omega))
    · obtain ⟨k, rfl, k1, k2⟩ := mem_range.mp ht
      have i1 := idx_pool (P := P) (i := at_ + 1 + 2 * k) (by omega) (by omega)
      have i2 := idx_pool (P := P) (i := at_ + 2 + 2 * k) (by omega) (by omega)
      have hmul : mulOk 2 k = true := mulOk_l (by decide) (by decide)
      have hnum := L_number (n := n) (a := pat P (at_ + 1 + 2 * k)) (b := pat P (at_ + 2 + 2 * k)) hp
      exact ⟨_, rfl, by simp [runFn, argsOf, startF, evS, ev, evM, keepD, hid, shw, hid1, biD, binD, cmpD, outD, idxD, bindF, bindF.setAllF, bindT, setAll, asSeq, T.slots, wipeE, isNonD, isiD, tyOf, intPart, cutD, frzAll, frz1, E.isNil, i1, i2, hmul, hnum]⟩
  have hdd : ∀ x ∈ dd xs, Nm p 4 x := fun x hx => hok x (mem_dd.mp hx)
  have hddl := dd_len (xs := xs)
  have d := L_unlike (n := n + 1) (xs := xs) (fun x hx => (hok x hx).nice) (by decide) hL
  cases single with
  | true =>
    refine ⟨dd xs, hdd, by omega, ?_⟩
    rw [fns_succ (fn := f__law_list) rfl]
    simp [runFn, argsOf, startF, evS, ev, evM, keepD, hid, shw, hid1, biD, binD, cmpD, outD, idxD, bindF, bindF.setAllF, bindT, setAll, asSeq, T.slots, wipeE, isNonD, isiD, tyOf, intPart, cutD, frzAll, frz1, E.isNil, f__law_list, b__law_list, c, d]
  | false =>
    refine ⟨xs, hok, hlen, ?_⟩
    rw [fns_succ (fn := f__law_list) rfl]
    simp [runFn, argsOf, startF, evS, ev, evM, keepD, hid, shw, hid1, biD, binD, cmpD, outD, idxD, bindF, bindF.setAllF, bindT, setAll, asSeq, T.slots, wipeE, isNonD, isiD, tyOf, intPart, cutD, frzAll, frz1, E.isNil, f__law_list, b__law_list, c]
end
end PyD

namespace PyD
open PySem
theorem idx_last {α : Type} {xs : List α} {x : α} : idxL (xs ++ [x]) (-1) = some x := by
  unfold idxL ixN
  rw [if_neg (by decide), if_pos (by rw [List.length_append]; simp; omega)]
  simp
  have : (-1 + ((xs.length : Int) + 1)).toNat = xs.length := by omega
  rw [this]
  simp
theorem cut_to {α : Type} {xs : List α} {h : Int} (h0 : 0 ≤ h) : cutL xs none (some h) = xs.take h.toNat := by
  simp only [cutL, sIx, if_neg (show ¬ h < 0 by omega), List.drop_zero, Nat.sub_zero]
  by_cases hl : h.toNat ≤ xs.length
  · rw [Nat.min_eq_left hl]
  · rw [Nat.min_eq_right (by omega), List.take_of_length_le (Nat.le_refl _), List.take_of_length_le (by omega)]
section
variable {n : Nat} {p : Int} {P : List Int}
theorem L_six {single : Bool} (hp : 0 ≤ p) (hP : Pool P) (hn : P.length = 280) :
    ∃ ls : List (List D), ls.length = 6 ∧ (∀ l ∈ ls, (∀ x ∈ l, Nm p 4 x) ∧ l.length ≤ 12) ∧ (∀ j, (Ts p (ls.take j)).length ≤ 1000) ∧ fns tb (n + 4) i__law_six [.lst (P.map .int), .int p, .bl single] = some (.lst (ls.map .lst)) := by
  have key : ∃ e', evS (fns tb (n + 3)) l__law_six_1 [some (false, .lst (P.map .int)), some (false, .int p), some (false, .bl single), none, some (true, .lst []), some (false, .int 1000), none] = some (.nx e') ∧
      ∃ (ls : List (List D)) (room : Int) (w3 w6 : _), e' = [some (false, .lst (P.map .int)), some (false, .int p), some (false, .bl single), w3, some (true, .lst (ls.map .lst)), some (false, .int room), w6] ∧ ls.length = (6 : Int).toNat ∧ (∀ l ∈ ls, (∀ x ∈ l, Nm p 4 x) ∧ l.length ≤ 12) ∧ (∀ i, (Ts p (ls.take i)).length ≤ 1000) ∧ 0 ≤ room ∧ (Ts p ls).length * room.toNat ≤ 1000 := by
    refine at_rng (n := 6) (P := fun j e' => ∃ (ls : List (List D)) (room : Int) (w3 w6 : _), e' = [some (false, .lst (P.map .int)), some (false, .int p), some (false, .bl single), w3, some (true, .lst (ls.map .lst)), some (false, .int room), w6] ∧ ls.length = j ∧ (∀ l ∈ ls, (∀ x ∈ l, Nm p 4 x) ∧ l.length ≤ 12) ∧ (∀ i, (Ts p (ls.take i)).length ≤ 1000) ∧ 0 ≤ room ∧ (Ts p ls).length * room.toNat ≤ 1000) (by simp [runFn, argsOf, startF, evS, ev, evM, keepD, hid, shw, hid1, biD, binD, cmpD, outD, idxD, bindF, bindF.setAllF, bindT, setAll, asSeq, T.slots, wipeE, isNonD, isiD, tyOf, intPart, cutD, frzAll, frz1, E.isNil]) (by decide) ⟨[], 1000, none, none, rfl, rfl, (fun l h => nomatch h), (fun i => by simp [Ts]), by decide, by simp [Ts]⟩ ?_
    rintro j hj _ ⟨ls, room, w3, w6, rfl, q1, q2, q3, q4, q5⟩
    refine ⟨_, rfl, ?_⟩
    obtain ⟨xs, x1, x2, x3⟩ := L_list (n := n) (P := P) (at_ := 120 + 25 * j) (most := 13) (single := single) hp hP (by omega) (by omega) (by omega) (by omega)
    have hm : mulOk 25 (j : Int) = true := mulOk_l (by decide) (by decide)
    obtain ⟨l, hl⟩ : ∃ l, l = xs.take room.toNat := ⟨_, rfl⟩
    have hl1 : ∀ x ∈ l, Nm p 4 x := fun x hx => x1 x (List.mem_of_mem_take (hl ▸ hx))
    have hl2 : l.length ≤ 12 := by rw [hl, List.length_take]; omega
    have hl3 : l.length ≤ room.toNat := by rw [hl, List.length_take]; omega
    have hlim : ls.length < LIM := by unfold LIM; omega
    have hd : divOk (max 1 (l.length : Int)) = true := divOk_of (by omega) (by omega)
    have hmax : (if 1 < (l.length : Int) then (l.length : Int) else 1) = max 1 (l.length : Int) := by split <;> omega
    have hT : (Ts p (ls ++ [l])).length = (Ts p ls).length * l.length := by rw [Ts_snoc, nxs_len]
    refine ⟨[some (false, .lst (P.map .int)), some (false, .int p), some (false, .bl single), some (false, .int j), some (true, .lst ((ls ++ [l]).map .lst)), some (false, .int (room / max 1 (l.length : Int))), some (false, .lst xs)], .inl ?_, ls ++ [l], _, _, _, rfl, ?_, ?_, ?_, ?_, ?_⟩
    · have hc := cut_to (xs := xs) q4
      rw [← hl] at hc
      have s1 : evS (fns tb (n + 3)) (.asg 6 (.call 14 (.cons (.var 0) (.cons (.bin .add (.int 120) (.bin .mul (.int 25) (.var 3))) (.cons (.var 1) (.cons (.var 2) (.cons (.int 13) .nil)))))) {}) [some (false, .lst (P.map .int)), some (false, .int p), some (false, .bl single), some (false, .int j), some (true, .lst (ls.map .lst)), some (false, .int room), w6] = some (.nx [some (false, .lst (P.map .int)), some (false, .int p), some (false, .bl single), some (false, .int j), some (true, .lst (ls.map .lst)), some (false, .int room), some (false, .lst xs)]) := by
        simp [runFn, argsOf, startF, evS, ev, evM, keepD, hid, shw, hid1, biD, binD, cmpD, outD, idxD, bindF, bindF.setAllF, bindT, setAll, asSeq, T.slots, wipeE, isNonD, isiD, tyOf, intPart, cutD, frzAll, frz1, E.isNil, hm, x3]
      refine (seq_nx s1).trans ?_
      have s2 : evS (fns tb (n + 3)) (.app 4 (.sl (.var 6) .nil (.var 5)) {}) [some (false, .lst (P.map .int)), some (false, .int p), some (false, .bl single), some (false, .int j), some (true, .lst (ls.map .lst)), some (false, .int room), some (false, .lst xs)] = some (.nx [some (false, .lst (P.map .int)), some (false, .int p), some (false, .bl single), some (false, .int j), some (true, .lst ((ls ++ [l]).map .lst)), some (false, .int room), some (false, .lst xs)]) := by
        simp [runFn, argsOf, startF, evS, ev, evM, keepD, hid, shw, hid1, biD, binD, cmpD, outD, idxD, bindF, bindF.setAllF, bindT, setAll, asSeq, T.slots, wipeE, isNonD, isiD, tyOf, intPart, cutD, frzAll, frz1, E.isNil, hc, hlim]
      refine (seq_nx s2).trans ?_
      have hi : idxL ((ls ++ [l]).map D.lst) (-1) = some (.lst l) := by rw [List.map_append]; exact idx_last
      have hf : room.fdiv (max 1 (l.length : Int)) = room / max 1 (l.length : Int) := fdiv_pos (by omega)
      generalize (ls ++ [l]).map D.lst = LL at *
      simp [runFn, argsOf, startF, evS, ev, evM, keepD, hid, shw, hid1, biD, binD, cmpD, outD, idxD, bindF, bindF.setAllF, bindT, setAll, asSeq, T.slots, wipeE, isNonD, isiD, tyOf, intPart, cutD, frzAll, frz1, E.isNil, hi, hmax, hd, hf, D.flat]
    · rw [List.length_append, q1]; rfl
    · intro l' hl'
      rcases List.mem_append.mp hl' with hl' | hl'
      · exact q2 l' hl'
      · rw [List.mem_singleton.mp hl']; exact ⟨hl1, hl2⟩
    · intro i
      by_cases hi : i ≤ ls.length
      · rw [List.take_append_of_le_length hi]; exact q3 i
      · rw [List.take_of_length_le (by rw [List.length_append]; simp; omega), hT]
        exact Nat.le_trans (Nat.mul_le_mul_left _ hl3) q5
    · exact Int.ediv_nonneg q4 (by omega)
    · rw [hT, Nat.mul_assoc]
      refine Nat.le_trans (Nat.mul_le_mul_left _ ?_) q5
      have h1 : (l.length : Int) * (room / max 1 (l.length : Int)) ≤ room := by
        by_cases h0 : l.length = 0
        · rw [h0]; simpa using q4
        · have : max 1 (l.length : Int) = l.length := by omega
          rw [this]
          exact Int.mul_ediv_self_le (by omega)
      have h2 : 0 ≤ room / max 1 (l.length : Int) := Int.ediv_nonneg q4 (by omega)
      have h3 : ((l.length * (room / max 1 (l.length : Int)).toNat : Nat) : Int) = (l.length : Int) * (room / max 1 (l.length : Int)) := by
        rw [Int.natCast_mul, Int.toNat_of_nonneg h2]
      omega
  obtain ⟨_, h1, ls, room, w3, w6, rfl, q1, q2, q3, q4, q5⟩ := key
  refine ⟨ls, q1, q2, q3, ?_⟩
  rw [fns_succ (fn := f__law_six) rfl]
  simp [runFn, argsOf, startF, evS, ev, evM, keepD, hid, shw, hid1, biD, binD, cmpD, outD, idxD, bindF, bindF.setAllF, bindT, setAll, asSeq, T.slots, wipeE, isNonD, isiD, tyOf, intPart, cutD, frzAll, frz1, E.isNil, f__law_six, b__law_six, h1]
end
end PyD

namespace PyD
open PySem
section
variable {n : Nat} {p B : Int} {P : List Int}
theorem L_taken {xs : List D} (hp : 0 ≤ p) (hB : 4 ≤ B) (hP : Pool P) (hn : P.length = 280) (hx : ∀ x ∈ xs, Nm p B x) (hl : xs.length ≤ LIM) :
    ∃ tk : List D, (∀ x ∈ tk, Nm p B x) ∧ fns tb (n + 3) i__law_taken [.lst (P.map .int), .int p, .lst xs] = some (.lst tk) := by
  rw [fns_succ (fn := f__law_taken) rfl]
  have i50 := idx_pool (P := P) (i := 50) (by omega) (by omega)
  by_cases h0 : pat P 50 % 4 = 0
  · refine ⟨xs.take 64, fun x h => hx x (List.mem_of_mem_take h), ?_⟩
    have hc := cut_to (xs := xs) (h := 64) (by decide)
    have : (64 : Int).toNat = 64 := rfl
    rw [this] at hc
    simp [runFn, argsOf, startF, evS, ev, evM, keepD, hid, shw, hid1, biD, binD, cmpD, outD, idxD, bindF, bindF.setAllF, bindT, setAll, asSeq, T.slots, wipeE, isNonD, isiD, tyOf, intPart, cutD, frzAll, frz1, E.isNil, f__law_taken, b__law_taken, i50, h0, hc]
  by_cases h1 : pat P 50 % 4 = 1 ∧ 0 < xs.length
  · obtain ⟨h1, h2⟩ := h1
    have i51 := idx_pool (P := P) (i := 51) (by omega) (by omega)
    have hm : (if (xs.length : Int) < 65 then (xs.length : Int) else 65) = min 65 (xs.length : Int) := by split <;> omega
    have hpos : 0 < min 65 (xs.length : Int) := by omega
    obtain ⟨sp, hsp⟩ : ∃ sp, sp = pat P 51 % min 65 (xs.length : Int) := ⟨_, rfl⟩
    obtain ⟨zs, hzs⟩ : ∃ zs, zs = ((rangeD 0 (min 65 (xs.length : Int))).filter fun t => match t with | .int k => !decide (k = sp) | _ => false).map (nth xs) := ⟨_, rfl⟩
    have c : ev (fns tb (n + 2)) c__law_taken_1 [some (.lst (P.map .int)), some (.int p), some (.lst xs), none, none, some (.int sp)] = some (.lst zs) := by
      rw [hzs]
      refine lc_filt (d := .lst (rangeD 0 (min 65 (xs.length : Int)))) ?_ rfl (fun t ht => ?_) (by rw [range_len]; unfold LIM; omega)
      · exact ev_rng1 (by simp [runFn, argsOf, startF, evS, ev, evM, keepD, hid, shw, hid1, biD, binD, cmpD, outD, idxD, bindF, bindF.setAllF, bindT, setAll, asSeq, T.slots, wipeE, isNonD, isiD, tyOf, intPart, cutD, frzAll, frz1, E.isNil, hm]) (rgOk_sm (by omega) (by omega))
      · obtain ⟨k, rfl, k1, k2⟩ := mem_range.mp ht
        have ik := idx_nth (xs := xs) (i := k) (by omega) (by omega)
        exact ⟨_, rfl, by simp [runFn, argsOf, startF, evS, ev, evM, keepD, hid, shw, hid1, biD, binD, cmpD, outD, idxD, bindF, bindF.setAllF, bindT, setAll, asSeq, T.slots, wipeE, isNonD, isiD, tyOf, intPart, cutD, frzAll, frz1, E.isNil], fun _ => by simp [runFn, argsOf, startF, evS, ev, evM, keepD, hid, shw, hid1, biD, binD, cmpD, outD, idxD, bindF, bindF.setAllF, bindT, setAll, asSeq, T.slots, wipeE, isNonD, isiD, tyOf, intPart, cutD, frzAll, frz1, E.isNil, ik]⟩
    refine ⟨zs, ?_, ?_⟩
    · intro x hxm
      rw [hzs] at hxm
      obtain ⟨t, ht, rfl⟩ := List.mem_map.mp hxm
      obtain ⟨k, rfl, k1, k2⟩ := mem_range.mp (List.mem_filter.mp ht).1
      exact hx _ (nth_mem (by omega) (by omega))
    · simp [runFn, argsOf, startF, evS, ev, evM, keepD, hid, shw, hid1, biD, binD, cmpD, outD, idxD, bindF, bindF.setAllF, bindT, setAll, asSeq, T.slots, wipeE, isNonD, isiD, tyOf, intPart, cutD, frzAll, frz1, E.isNil, f__law_taken, b__law_taken, i50, i51, h1, h2, hm, hpos, ← hsp, c]
  · have i52 := idx_pool (P := P) (i := 52) (by omega) (by omega)
    have i53 := idx_pool (P := P) (i := 53) (by omega) (by omega)
    have i54 := idx_pool (P := P) (i := 54) (by omega) (by omega)
    have hnum := L_number (n := n) (a := pat P 52) (b := pat P 53) hp
    have h54 := emod_small (a := pat P 54) (n := 7) (by decide)
    have key : ∃ e', evS (fns tb (n + 2)) l__law_taken_2 [some (false, .lst (P.map .int)), some (false, .int p), some (false, .lst xs), some (true, .lst [lnum p (pat P 52) (pat P 53)]), none, none] = some (.nx e') ∧ ∃ tk w, e' = [some (false, .lst (P.map .int)), some (false, .int p), some (false, .lst xs), some (true, .lst tk), w, none] ∧ (∀ x ∈ tk, Nm p B x) ∧ tk.length ≤ 1 + (pat P 54 % 7).toNat := by
      refine at_rng (n := pat P 54 % 7) (P := fun j e' => ∃ tk w, e' = [some (false, .lst (P.map .int)), some (false, .int p), some (false, .lst xs), some (true, .lst tk), w, none] ∧ (∀ x ∈ tk, Nm p B x) ∧ tk.length ≤ 1 + j) (by simp [runFn, argsOf, startF, evS, ev, evM, keepD, hid, shw, hid1, biD, binD, cmpD, outD, idxD, bindF, bindF.setAllF, bindT, setAll, asSeq, T.slots, wipeE, isNonD, isiD, tyOf, intPart, cutD, frzAll, frz1, E.isNil, i54]) (rgOk_sm (by omega) (by omega)) ⟨_, none, rfl, (fun x h => by rw [List.mem_singleton.mp h]; exact (lnum_ok hp).up hB), Nat.le_refl _⟩ ?_
      rintro j hj _ ⟨tk, w, rfl, q1, q2⟩
      refine ⟨_, rfl, ?_⟩
      by_cases hz : 0 < xs.length
      · have ij := idx_pool (P := P) (i := 55 + j) (by omega) (by omega)
        have hk := emod_small (a := pat P (55 + j)) (n := (xs.length : Int)) (by omega)
        have ik := idx_nth (xs := xs) hk.1 hk.2
        have hlim : tk.length < LIM := by unfold LIM; omega
        refine ⟨[some (false, .lst (P.map .int)), some (false, .int p), some (false, .lst xs), some (true, .lst (tk ++ [nth xs (.int (pat P (55 + j) % xs.length))])), some (false, .int j), none], .inl ?_, _, _, rfl, fun x h => ?_, by rw [List.length_append]; simp; omega⟩
        · simp [runFn, argsOf, startF, evS, ev, evM, keepD, hid, shw, hid1, biD, binD, cmpD, outD, idxD, bindF, bindF.setAllF, bindT, setAll, asSeq, T.slots, wipeE, isNonD, isiD, tyOf, intPart, cutD, frzAll, frz1, E.isNil, ij, ik, hz, hlim]
        · rcases List.mem_append.mp h with h | h
          · exact q1 x h
          · rw [List.mem_singleton.mp h]; exact hx _ (nth_mem hk.1 hk.2)
      · refine ⟨[some (false, .lst (P.map .int)), some (false, .int p), some (false, .lst xs), some (true, .lst tk), some (false, .int j), none], .inl ?_, _, _, rfl, q1, by omega⟩
        simp [runFn, argsOf, startF, evS, ev, evM, keepD, hid, shw, hid1, biD, binD, cmpD, outD, idxD, bindF, bindF.setAllF, bindT, setAll, asSeq, T.slots, wipeE, isNonD, isiD, tyOf, intPart, cutD, frzAll, frz1, E.isNil, hz]
    obtain ⟨_, h2, tk, w, rfl, q1, _⟩ := key
    refine ⟨tk, q1, ?_⟩
    by_cases h3 : pat P 50 % 4 = 1
    · have h4 : ¬ 0 < xs.length := fun k => h1 ⟨h3, k⟩
      simp [runFn, argsOf, startF, evS, ev, evM, keepD, hid, shw, hid1, biD, binD, cmpD, outD, idxD, bindF, bindF.setAllF, bindT, setAll, asSeq, T.slots, wipeE, isNonD, isiD, tyOf, intPart, cutD, frzAll, frz1, E.isNil, f__law_taken, b__law_taken, i50, i52, i53, h3, h4, hnum, h2]
    · simp [runFn, argsOf, startF, evS, ev, evM, keepD, hid, shw, hid1, biD, binD, cmpD, outD, idxD, bindF, bindF.setAllF, bindT, setAll, asSeq, T.slots, wipeE, isNonD, isiD, tyOf, intPart, cutD, frzAll, frz1, E.isNil, f__law_taken, b__law_taken, i50, i52, i53, h0, h3, hnum, h2]
end
end PyD

namespace PyD
open PySem
theorem mem_set {xs : List D} {i : Nat} {d x : D} (h : x ∈ xs.set i d) : x ∈ xs ∨ x = d := List.mem_or_eq_of_mem_set h
theorem ixN_nat {n i : Nat} (h : i < n) : ixN n (i : Int) = some i := by
  unfold ixN
  rw [if_pos (by omega), if_pos (by omega)]
  simp
section
variable {n : Nat} {p : Int} {P : List Int}
theorem tkn_eq {vs ss : List D} : ((rangeD 0 (vs.length : Int)).filter fun t => !decide (nth ss t = zero p)).map (nth vs) = tkn p vs ss := by
  unfold tkn rangeD
  rw [List.filter_map, List.map_map]
  have e1 : ((vs.length : Int) - 0).toNat = vs.length := by omega
  rw [e1]
  have e2 : (List.range vs.length).filter ((fun t => !decide (nth ss t = zero p)) ∘ fun i : Nat => D.int (0 + (i : Int))) = (List.range vs.length).filter (fun i => decide (ss.getD i .non ≠ zero p)) := by
    refine List.filter_congr fun i _ => ?_
    simp [Function.comp, nth]
  rw [e2]
  refine List.map_congr_left fun i _ => ?_
  simp [Function.comp, nth]
theorem nice_lst {B : Int} {xs : List D} (h : ∀ x ∈ xs, Nm p B x) : Nice 2 (.lst xs) := .lst fun x hx => (h x hx).nice
theorem nice_l2 {k : Nat} {a b : D} (h : Nice k a) (h2 : Nice k b) : Nice (k + 1) (.lst [a, b]) := .lst fun x hx => by
  rcases List.mem_cons.mp hx with rfl | hx
  · exact h
  · rw [List.mem_singleton.mp hx]; exact h2
theorem nice_l3 {k : Nat} {a b c : D} (h : Nice k a) (h2 : Nice k b) (h3 : Nice k c) : Nice (k + 1) (.lst [a, b, c]) := .lst fun x hx => by
  rcases List.mem_cons.mp hx with rfl | hx
  · exact h
  · rcases List.mem_cons.mp hx with rfl | hx
    · exact h2
    · rw [List.mem_singleton.mp hx]; exact h3
theorem eqD_self {k : Nat} {d : D} (h : Nice k d) (hk : k ≤ 64) : eqD d d = some true := by rw [eqD_nice h h hk hk]; simp
theorem L_side {vs : List D} (hp : 0 ≤ p) (hP : Pool P) (hn : P.length = 280) (hv : ∀ x ∈ vs, Nm p 4 x) (hl : vs.length ≤ 18) :
    fns tb (n + 4) i__law_side [.lst (P.map .int), .int p, .lst vs] = some (.bl true) := by
  rw [fns_succ (fn := f__law_side) rfl]
  have hlim : vs.length ≤ LIM := by have : LIM = 1000000 := rfl; omega
  obtain ⟨s0, hs0⟩ : ∃ s0, s0 = (rangeD 0 (vs.length : Int)).map fun t => match t with | .int k => lnum p (pat P (80 + 2 * k)) (pat P (81 + 2 * k)) | _ => .non := ⟨_, rfl⟩
  have c1 : ev (fns tb (n + 3)) c__law_side_1 [some (.lst (P.map .int)), some (.int p), some (.lst vs), none, none, none, none, none] = some (.lst s0) := by
    rw [hs0]
    refine lc_map (d := .lst (rangeD 0 (vs.length : Int))) ?_ rfl (fun t ht => ?_) (by rw [range_len]; omega)
    · exact ev_rng1 (by simp [runFn, argsOf, startF, evS, ev, evM, keepD, hid, shw, hid1, biD, binD, cmpD, outD, idxD, bindF, bindF.setAllF, bindT, setAll, asSeq, T.slots, wipeE, isNonD, isiD, tyOf, intPart, cutD, frzAll, frz1, E.isNil]) (rgOk_sm (by omega) (by omega))
    · obtain ⟨k, rfl, k1, k2⟩ := mem_range.mp ht
      have i1 := idx_pool (P := P) (i := 80 + 2 * k) (by omega) (by omega)
      have i2 := idx_pool (P := P) (i := 81 + 2 * k) (by omega) (by omega)
      have hmul : mulOk 2 k = true := mulOk_l (by decide) (by decide)
      have hnum := L_number (n := n + 1) (a := pat P (80 + 2 * k)) (b := pat P (81 + 2 * k)) hp
      exact ⟨_, rfl, by simp [runFn, argsOf, startF, evS, ev, evM, keepD, hid, shw, hid1, biD, binD, cmpD, outD, idxD, bindF, bindF.setAllF, bindT, setAll, asSeq, T.slots, wipeE, isNonD, isiD, tyOf, intPart, cutD, frzAll, frz1, E.isNil, i1, i2, hmul, hnum]⟩
  have h0 : ∀ x ∈ s0, Nm p 4 x := by
    intro x hx
    rw [hs0] at hx
    obtain ⟨t, ht, rfl⟩ := List.mem_map.mp hx
    obtain ⟨k, rfl, _, _⟩ := mem_range.mp ht
    exact lnum_ok hp
  have hl0 : s0.length = vs.length := by rw [hs0, List.length_map, range_len]; omega
  have z4 : Nm p 4 (zero p) := (zero_ok hp).up (by decide)
  obtain ⟨_, h2, ss, w, rfl, q1, q2⟩ : ∃ e', evS (fns tb (n + 3)) l__law_side_2 [some (false, .lst (P.map .int)), some (false, .int p), some (false, .lst vs), some (true, .lst s0), none, none, none, none] = some (.nx e') ∧
      ∃ ss w, e' = [some (false, .lst (P.map .int)), some (false, .int p), some (false, .lst vs), some (true, .lst ss), w, none, none, none] ∧ (∀ x ∈ ss, Nm p 4 x) ∧ ss.length = vs.length := by
    refine at_rng (n := s0.length) (P := fun j e' => ∃ ss w, e' = [some (false, .lst (P.map .int)), some (false, .int p), some (false, .lst vs), some (true, .lst ss), w, none, none, none] ∧ (∀ x ∈ ss, Nm p 4 x) ∧ ss.length = vs.length) (by simp [runFn, argsOf, startF, evS, ev, evM, keepD, hid, shw, hid1, biD, binD, cmpD, outD, idxD, bindF, bindF.setAllF, bindT, setAll, asSeq, T.slots, wipeE, isNonD, isiD, tyOf, intPart, cutD, frzAll, frz1, E.isNil]) (rgOk_sm (by omega) (by omega)) ⟨s0, none, rfl, h0, hl0⟩ ?_
    rintro j hj _ ⟨ss, w, rfl, q1, q2⟩
    refine ⟨_, rfl, ?_⟩
    have ij := idx_pool (P := P) (i := 104 + j) (by omega) (by omega)
    have ix := ixN_nat (n := ss.length) (i := j) (by omega)
    by_cases hz : pat P (104 + j) % 3 = 0
    · refine ⟨[some (false, .lst (P.map .int)), some (false, .int p), some (false, .lst vs), some (true, .lst (ss.set j (zero p))), some (false, .int j), none, none, none], .inl ?_, _, _, rfl, fun x hx => ?_, by rw [List.length_set]; exact q2⟩
      · unfold zero
        by_cases h : 0 < p <;> simp [runFn, argsOf, startF, evS, ev, evM, keepD, hid, shw, hid1, biD, binD, cmpD, outD, idxD, bindF, bindF.setAllF, bindT, setAll, asSeq, T.slots, wipeE, isNonD, isiD, tyOf, intPart, cutD, frzAll, frz1, E.isNil, ij, ix, hz, h, D.flat]
      · rcases mem_set hx with hx | rfl
        · exact q1 x hx
        · exact z4
    · refine ⟨[some (false, .lst (P.map .int)), some (false, .int p), some (false, .lst vs), some (true, .lst ss), some (false, .int j), none, none, none], .inl ?_, _, _, rfl, q1, q2⟩
      simp [runFn, argsOf, startF, evS, ev, evM, keepD, hid, shw, hid1, biD, binD, cmpD, outD, idxD, bindF, bindF.setAllF, bindT, setAll, asSeq, T.slots, wipeE, isNonD, isiD, tyOf, intPart, cutD, frzAll, frz1, E.isNil, ij, hz]
  have c3 : ev (fns tb (n + 3)) c__law_side_3 [some (.lst (P.map .int)), some (.int p), some (.lst vs), some (.lst ss), hid1 w, some (zero p), none, none] = some (.lst (tkn p vs ss)) := by
    rw [← tkn_eq]
    refine lc_filt (d := .lst (rangeD 0 (vs.length : Int))) ?_ rfl (fun t ht => ?_) (by rw [range_len]; omega)
    · exact ev_rng1 (by simp [runFn, argsOf, startF, evS, ev, evM, keepD, hid, shw, hid1, biD, binD, cmpD, outD, idxD, bindF, bindF.setAllF, bindT, setAll, asSeq, T.slots, wipeE, isNonD, isiD, tyOf, intPart, cutD, frzAll, frz1, E.isNil]) (rgOk_sm (by omega) (by omega))
    · obtain ⟨k, rfl, k1, k2⟩ := mem_range.mp ht
      have i1 := idx_nth (xs := vs) (i := k) (by omega) (by omega)
      have i2 := idx_nth (xs := ss) (i := k) (by omega) (by omega)
      have hq := eqD_nice (q1 _ (nth_mem (xs := ss) (i := k) (by omega) (by omega))).nice z4.nice (by decide) (by decide)
      exact ⟨_, rfl, by simp [runFn, argsOf, startF, evS, ev, evM, keepD, hid, shw, hid1, biD, binD, cmpD, outD, idxD, bindF, bindF.setAllF, bindT, setAll, asSeq, T.slots, wipeE, isNonD, isiD, tyOf, intPart, cutD, frzAll, frz1, E.isNil, i2, hq], fun _ => by simp [runFn, argsOf, startF, evS, ev, evM, keepD, hid, shw, hid1, biD, binD, cmpD, outD, idxD, bindF, bindF.setAllF, bindT, setAll, asSeq, T.slots, wipeE, isNonD, isiD, tyOf, intPart, cutD, frzAll, frz1, E.isNil, i1]⟩
  have ht := tkn_ok (ss := ss) hv
  have htl := Nat.le_trans (tkn_len (p := p) (vs := vs) (ss := ss)) hlim
  have d1 := L_unlike (n := n + 2) (xs := tkn p vs ss) (fun x hx => (ht x hx).nice) (by decide) htl
  have d2 := L_values_taken (n := n + 1) hv q1 q2.symm hlim
  have d3 := L_is (n := n + 2) (B := 4) (xs := dd (tkn p vs ss)) hp (fun x hx => ht x (mem_dd.mp hx)) (Nat.le_trans dd_len htl)
  have hq : eqD (.lst [.lst vs, .lst ss]) (.lst [.lst vs, .lst ss]) = some true := eqD_self (nice_l2 (nice_lst hv) (nice_lst q1)) (by decide)
  have s1 : evS (fns tb (n + 3)) (.asg 3 c__law_side_1 { own := true }) [some (false, .lst (P.map .int)), some (false, .int p), some (false, .lst vs), none, none, none, none, none] = some (.nx [some (false, .lst (P.map .int)), some (false, .int p), some (false, .lst vs), some (true, .lst s0), none, none, none, none]) := asg_of (d := .lst s0) c1 rfl
  have s3 : evS (fns tb (n + 3)) (.asg 5 (.ite (.cmp .gt (.var 1) (.int 0)) (.int 0) (.tup (.cons (.int 0) (.cons (.int 1) .nil)))) {}) [some (false, .lst (P.map .int)), some (false, .int p), some (false, .lst vs), some (true, .lst ss), w, none, none, none] = some (.nx [some (false, .lst (P.map .int)), some (false, .int p), some (false, .lst vs), some (true, .lst ss), w, some (false, zero p), none, none]) := by
    unfold zero
    by_cases h : 0 < p <;> simp [runFn, argsOf, startF, evS, ev, evM, keepD, hid, shw, hid1, biD, binD, cmpD, outD, idxD, bindF, bindF.setAllF, bindT, setAll, asSeq, T.slots, wipeE, isNonD, isiD, tyOf, intPart, cutD, frzAll, frz1, E.isNil, h]
  have body : evS (fns tb (n + 3)) b__law_side [some (false, .lst (P.map .int)), some (false, .int p), some (false, .lst vs), none, none, none, none, none] = some (.rt false (.bl true)) := by
    unfold b__law_side
    rw [seq_nx s1, seq_nx h2, seq_nx s3]
    simp only [hid1] at c3
    simp [runFn, argsOf, startF, evS, ev, evM, keepD, hid, shw, hid1, biD, binD, cmpD, outD, idxD, bindF, bindF.setAllF, bindT, setAll, asSeq, T.slots, wipeE, isNonD, isiD, tyOf, intPart, cutD, frzAll, frz1, E.isNil, c3, d1, d2, d3, hq]
  simp [runFn, argsOf, startF, f__law_side, body, outD]
end
end PyD

namespace PyD
open PySem
theorem snocRecG {α : Type} {P : List α → Prop} (h0 : P []) (h1 : ∀ xs x, P xs → P (xs ++ [x])) (xs : List α) : P xs := by
  have : P xs.reverse.reverse := by
    induction xs.reverse with
    | nil => exact h0
    | cons x ys ih => rw [List.reverse_cons]; exact h1 _ _ ih
  rwa [List.reverse_reverse] at this
section
variable {n : Nat} {p : Int} {P : List Int}
theorem Ts_len {ls : List (List D)} (h : ∀ l ∈ ls, l.length ≤ 12) : (Ts p ls).length ≤ 12 ^ ls.length := by
  induction ls using snocRecG with
  | h0 => simp [Ts]
  | h1 ls l ih =>
    rw [Ts_snoc, nxs_len, List.length_append, Nat.pow_add]
    exact Nat.mul_le_mul (ih fun l hl => h l (List.mem_append_left _ hl)) (by simpa using h l (by simp))
theorem Ts_lim {ls : List (List D)} (h : ∀ l ∈ ls, l.length ≤ 12) (h3 : ls.length ≤ 3) (j : Nat) : (Ts p (ls.take j)).length ≤ LIM := by
  refine Nat.le_trans (Ts_len fun l hl => h l (List.mem_of_mem_take hl)) ?_
  have h1 : (ls.take j).length ≤ 3 := by rw [List.length_take]; omega
  exact Nat.le_trans (Nat.pow_le_pow_right (by decide) h1) (by decide)
theorem Ts_one {S : List D} (h : ∀ x ∈ S, Nm p 4 x) : Ts p [S] = S := by
  show nxs p [zero p] S = S
  unfold nxs
  rw [List.flatMap_cons, List.flatMap_nil, List.append_nil]
  conv => rhs; rw [← List.map_id S]
  exact List.map_congr_left fun x hx => sm_zero (h x hx)
/-- the sums told, due: alike, good -/
theorem sums_all (hp : 0 ≤ p) {ls : List (List D)} (h : ∀ l ∈ ls, (∀ x ∈ l, Nm p 4 x) ∧ l.length ≤ 12) (h6 : ls.length ≤ 6) (hT : ∀ j, (Ts p (ls.take j)).length ≤ LIM) :
    ∃ X : List D, X = dd (Ts p ls) ∧ (∀ x ∈ X, Nm p (4 ^ ls.length) x) ∧ X.length ≤ LIM ∧ fns tb (n + 4) i_sums_of (.int p :: ls.map .lst) = some (.lst X) ∧ fns tb (n + 4) i__law_sums [.int p, .lst (ls.map .lst)] = some (.lst X) ∧ fns tb (n + 4) i__law_is [.int p, .lst X, .lst X] = some (.bl true) := by
  have h1 := Ts_ok hp (fun l hl => (h l hl).1) (j := ls.length)
  rw [List.take_length] at h1
  have h2 : ∀ x ∈ dd (Ts p ls), Nm p (4 ^ ls.length) x := fun x hx => h1 x (mem_dd.mp hx)
  have h3 := hT ls.length
  rw [List.take_length] at h3
  have h4 := Nat.le_trans dd_len h3
  exact ⟨_, rfl, h2, h4, L_sums_of hp (fun l hl => (h l hl).1) h6 hT, L_sums hp (fun l hl => (h l hl).1) h6 hT (fun l hl => by have := (h l hl).2; have : LIM = 1000000 := rfl; omega), L_is (n := n + 3) hp h2 h4⟩
theorem L_six_idx {ls : List (List D)} (h : ls.length = 6) : ∃ a b c d e f, ls = [a, b, c, d, e, f] := by
  match ls, h with
  | [a, b, c, d, e, f], _ => exact ⟨a, b, c, d, e, f, rfl⟩
theorem prime_ok {k : Int} (h : 0 ≤ k) (h6 : k < 6) : ∃ p : Int, 0 ≤ p ∧ idxL [D.int 2, .int 3, .int 5, .int 7, .int 11, .int 0] k = some (.int p) := by
  have : k = 0 ∨ k = 1 ∨ k = 2 ∨ k = 3 ∨ k = 4 ∨ k = 5 := by omega
  rcases this with rfl | rfl | rfl | rfl | rfl | rfl
  · exact ⟨2, by decide, rfl⟩
  · exact ⟨3, by decide, rfl⟩
  · exact ⟨5, by decide, rfl⟩
  · exact ⟨7, by decide, rfl⟩
  · exact ⟨11, by decide, rfl⟩
  · exact ⟨0, by decide, rfl⟩
end
/-- the law's names from the middle on -/
def EL (sc : D) (P : List Int) (p : Int) (si : Bool) (TT F S : List D) (w kept due told pairs taken spare pair chosen : Option (Bool × D)) : FEnv := [some (false, sc), some (false, .lst (P.map .int)), some (false, .int p), some (false, .bl si), some (false, .lst TT), kept, due, told, pairs, taken, spare, pair, chosen, some (false, .lst F), some (false, .lst S), w]
theorem L_law {n : Nat} {ns : List Int} (hns : ns.length ≤ 63) : fns tb (n + 5) i_law [.ro (ns.map .int)] = some (.bl true) := by
  rw [fns_succ (fn := f_law) rfl]
  obtain ⟨P, hP, hn, h1⟩ := L_pool (n := n + 3) (c := 280) (ns := ns) (by decide) (by decide) hns
  replace hn : P.length = 280 := hn
  have i0 := idx_pool (P := P) (i := 0) (by omega) (by omega)
  have i1 := idx_pool (P := P) (i := 1) (by omega) (by omega)
  have i116 := idx_pool (P := P) (i := 116) (by omega) (by omega)
  have k0 := emod_small (a := pat P 0) (n := 6) (by decide)
  obtain ⟨p, hp, h2⟩ := prime_ok k0.1 k0.2
  obtain ⟨single, hsi⟩ : ∃ b : Bool, b = decide (pat P 1 % 2 = 0) := ⟨_, rfl⟩
  obtain ⟨F0, a1, a2, a3⟩ := L_list (n := n + 1) (P := P) (at_ := 2) (most := 7) (single := single) hp hP (by omega) (by omega) (by omega) (by omega)
  obtain ⟨S0, b1, b2, b3⟩ := L_list (n := n + 1) (P := P) (at_ := 16) (most := 7) (single := single) hp hP (by omega) (by omega) (by omega) (by omega)
  obtain ⟨TT, c1, c2, c3⟩ := L_list (n := n + 1) (P := P) (at_ := 30) (most := 7) (single := single) hp hP (by omega) (by omega) (by omega) (by omega)
  obtain ⟨F1, d1, d2, d3⟩ := L_list (n := n + 1) (P := P) (at_ := 145) (most := 13) (single := single) hp hP (by omega) (by omega) (by omega) (by omega)
  obtain ⟨S1, e1, e2, e3⟩ := L_list (n := n + 1) (P := P) (at_ := 170) (most := 13) (single := single) hp hP (by omega) (by omega) (by omega) (by omega)
  obtain ⟨ls, f1, f2, f3, f4⟩ := L_six (n := n) (p := p) (single := single) hp hP hn
  obtain ⟨X6, _, g1, g2, g3, g4, g5⟩ := sums_all (n := n) hp f2 (by omega) (fun j => Nat.le_trans (f3 j) (by decide))
  obtain ⟨q1, q2, q3, q4, q5, q6, rfl⟩ := L_six_idx f1
  simp only [List.map_cons, List.map_nil] at f4 g3 g4
  obtain ⟨F, S, w, hF, hS, hFl, hSl, hh⟩ : ∃ F S w, (∀ x ∈ F, Nm p 4 x) ∧ (∀ x ∈ S, Nm p 4 x) ∧ F.length ≤ 12 ∧ S.length ≤ 12 ∧ evS (fns tb (n + 4)) (.iff (.cmp .eq (.bin .mod (.idx (.var 1) (.int 116)) (.int 4)) (.int 0))
      (.seq (.asg 15 (.call 16 (.cons (.var 1) (.cons (.var 2) (.cons (.var 3) .nil)))) {})
      (.seq (.iff (.not (.call 17 (.cons (.var 2) (.cons (.call 5 (.cons (.var 2) (.cons (.idx (.var 15) (.int 0)) (.cons (.idx (.var 15) (.int 1)) (.cons (.idx (.var 15) (.int 2)) (.cons (.idx (.var 15) (.int 3)) (.cons (.idx (.var 15) (.int 4)) (.cons (.idx (.var 15) (.int 5)) .nil)))))))) (.cons (.call 15 (.cons (.var 2) (.cons (.var 15) .nil))) .nil)))))
      (.ret (.bl false) {})
      .skip)
      (.par 13 14 (.call 14 (.cons (.var 1) (.cons (.int 145) (.cons (.var 2) (.cons (.var 3) (.cons (.int 13) .nil)))))) (.call 14 (.cons (.var 1) (.cons (.int 170) (.cons (.var 2) (.cons (.var 3) (.cons (.int 13) .nil)))))) {} {})))
      .skip) [some (false, .ro (ns.map .int)), some (false, .lst (P.map .int)), some (false, .int p), some (false, .bl single), some (false, .lst TT), none, none, none, none, none, none, none, none, some (false, .lst F0), some (false, .lst S0), none] = some (.nx [some (false, .ro (ns.map .int)), some (false, .lst (P.map .int)), some (false, .int p), some (false, .bl single), some (false, .lst TT), none, none, none, none, none, none, none, none, some (false, .lst F), some (false, .lst S), w]) := by
    by_cases h : pat P 116 % 4 = 0
    · refine ⟨F1, S1, some (false, .lst [.lst q1, .lst q2, .lst q3, .lst q4, .lst q5, .lst q6]), d1, e1, by omega, by omega, ?_⟩
      have j0 : idxL [D.lst q1, .lst q2, .lst q3, .lst q4, .lst q5, .lst q6] 0 = some (.lst q1) := rfl
      have j1 : idxL [D.lst q1, .lst q2, .lst q3, .lst q4, .lst q5, .lst q6] 1 = some (.lst q2) := rfl
      have j2 : idxL [D.lst q1, .lst q2, .lst q3, .lst q4, .lst q5, .lst q6] 2 = some (.lst q3) := rfl
      have j3 : idxL [D.lst q1, .lst q2, .lst q3, .lst q4, .lst q5, .lst q6] 3 = some (.lst q4) := rfl
      have j4 : idxL [D.lst q1, .lst q2, .lst q3, .lst q4, .lst q5, .lst q6] 4 = some (.lst q5) := rfl
      have j5 : idxL [D.lst q1, .lst q2, .lst q3, .lst q4, .lst q5, .lst q6] 5 = some (.lst q6) := rfl
      simp [runFn, argsOf, startF, evS, ev, evM, keepD, hid, shw, hid1, biD, binD, cmpD, outD, idxD, bindF, bindF.setAllF, bindT, setAll, asSeq, T.slots, wipeE, isNonD, isiD, tyOf, intPart, cutD, frzAll, frz1, E.isNil, i116, h, f4, g3, g4, g5, d3, e3, j0, j1, j2, j3, j4, j5]
    · refine ⟨F0, S0, none, a1, b1, by omega, by omega, ?_⟩
      simp [runFn, argsOf, startF, evS, ev, evM, keepD, hid, shw, hid1, biD, binD, cmpD, outD, idxD, bindF, bindF.setAllF, bindT, setAll, asSeq, T.slots, wipeE, isNonD, isiD, tyOf, intPart, cutD, frzAll, frz1, E.isNil, i116, h]
  have hTl : TT.length ≤ 12 := by omega
  obtain ⟨X0, x0, o1, o2, o3, o4, o5⟩ := sums_all (n := n) (ls := []) hp (fun l h => nomatch h) (by decide) (Ts_lim (fun l h => nomatch h) (by decide))
  have m1 : ∀ l ∈ [S], (∀ x ∈ l, Nm p 4 x) ∧ l.length ≤ 12 := fun l h => by rw [List.mem_singleton.mp h]; exact ⟨hS, hSl⟩
  have m2 : ∀ l ∈ [F, S], (∀ x ∈ l, Nm p 4 x) ∧ l.length ≤ 12 := fun l h => by
    rcases List.mem_cons.mp h with rfl | h
    · exact ⟨hF, hFl⟩
    · exact m1 l h
  have m3 : ∀ l ∈ [TT, F, S], (∀ x ∈ l, Nm p 4 x) ∧ l.length ≤ 12 := fun l h => by
    rcases List.mem_cons.mp h with rfl | h
    · exact ⟨c1, hTl⟩
    · exact m2 l h
  obtain ⟨X1, x1, r1, r2, r3, r4, r5⟩ := sums_all (n := n) (ls := [S]) hp m1 (by simp) (Ts_lim (fun l h => (m1 l h).2) (by simp))
  obtain ⟨X2, x2, s1, s2, s3, s4, s5⟩ := sums_all (n := n) (ls := [F, S]) hp m2 (by simp) (Ts_lim (fun l h => (m2 l h).2) (by simp))
  obtain ⟨X3, x3, t1, t2, t3, t4, t5⟩ := sums_all (n := n) (ls := [TT, F, S]) hp m3 (by simp) (Ts_lim (fun l h => (m3 l h).2) (by simp))
  rw [Ts_one hS] at x1
  have hLIM : LIM = 1000000 := rfl
  have r6 := L_unlike (n := n + 3) (xs := S) (fun x hx => (hS x hx).nice) (by decide) (by omega)
  rw [← x1] at r6
  simp only [List.map_cons, List.map_nil] at o3 o4 r3 r4 s3 s4 t3 t4
  have u1 := L_unlike_sums (n := n) (p := p) (xs := TT) c1 (by omega)
  have u2 := L_pairs (n := n) (p := p) (xs := TT) c1 (by omega)
  have u3 := L_is (n := n + 3) (B := 16) (xs := dd (Prs p TT TT.length)) hp (fun x hx => Prs_ok c1 (Nat.le_refl _) x (mem_dd.mp hx)) (Nat.le_trans dd_len (Nat.le_trans Prs_len (by have := Nat.mul_le_mul hTl hTl; omega)))
  have v1 := L_unlike_sums (n := n) (p := p) (xs := F) hF (by omega)
  have v2 := L_pairs (n := n) (p := p) (xs := F) hF (by omega)
  have v3 := L_is (n := n + 3) (B := 16) (xs := dd (Prs p F F.length)) hp (fun x hx => Prs_ok hF (Nat.le_refl _) x (mem_dd.mp hx)) (Nat.le_trans dd_len (Nat.le_trans Prs_len (by have := Nat.mul_le_mul hFl hFl; omega)))
  obtain ⟨tk, k1, k2⟩ := L_taken (n := n + 1) (P := P) (B := 16) (xs := X2) hp (by decide) hP hn s1 s2
  have y1 := L_new_sum (n := n + 1) (p := p) (k := 1) (F := F) (S := S) (tk := tk) hF hS (fun x hx => (k1 x hx).nice) (by decide)
  have y2 := L_pair (n := n + 1) (p := p) (k := 1) (F := F) (S := S) (tk := tk) hF hS (fun x hx => (k1 x hx).nice) (by decide)
  have z1 := L_bounds (n := n + 2) (p := p) hP hn
  have z2 := L_side (n := n) (p := p) (P := P) (vs := F ++ TT) hp hP hn (fun x hx => (List.mem_append.mp hx).elim (hF x) (c1 x)) (by rw [List.length_append]; omega)
  have w1 : eqD (.lst [.lst F, .lst S, .lst TT]) (.lst [.lst F, .lst S, .lst TT]) = some true := eqD_self (nice_l3 (nice_lst hF) (nice_lst hS) (nice_lst c1)) (by decide)
  have w2 : eqD (.lst tk) (.lst tk) = some true := eqD_self (nice_lst k1) (by decide)
  have lA : X2.length < LIM := by rw [x2]; exact Nat.lt_of_le_of_lt (Nat.le_trans dd_len (Ts_len fun l hl => (m2 l hl).2)) (show 12 ^ 2 < 1000000 by decide)
  have lB : (dd (Prs p TT TT.length)).length < LIM := Nat.lt_of_le_of_lt (Nat.le_trans dd_len (Nat.le_trans Prs_len (Nat.mul_le_mul hTl hTl))) (by decide)
  have lC : F.length + TT.length ≤ LIM := by omega
  have hsi' : (.bl single : D) = .bl (decide (pat P 1 % 2 = 0)) := by rw [hsi]
  have body : evS (fns tb (n + 4)) b_law [some (false, .ro (ns.map .int)), none, none, none, none, none, none, none, none, none, none, none, none, none, none, none] = some (.rt false (.bl true)) := by
    unfold b_law
    refine (seq_nx (e := [some (false, .ro (ns.map .int)), some (false, .lst (P.map .int)), none, none, none, none, none, none, none, none, none, none, none, none, none, none]) (by simp [runFn, argsOf, startF, evS, ev, evM, keepD, hid, shw, hid1, biD, binD, cmpD, outD, idxD, bindF, bindF.setAllF, bindT, setAll, asSeq, T.slots, wipeE, isNonD, isiD, tyOf, intPart, cutD, frzAll, frz1, E.isNil, h1])).trans ?_
    refine (seq_nx (e := [some (false, .ro (ns.map .int)), some (false, .lst (P.map .int)), some (false, .int p), none, none, none, none, none, none, none, none, none, none, none, none, none]) (by simp [runFn, argsOf, startF, evS, ev, evM, keepD, hid, shw, hid1, biD, binD, cmpD, outD, idxD, bindF, bindF.setAllF, bindT, setAll, asSeq, T.slots, wipeE, isNonD, isiD, tyOf, intPart, cutD, frzAll, frz1, E.isNil, i0, h2])).trans ?_
    refine (seq_nx (e := [some (false, .ro (ns.map .int)), some (false, .lst (P.map .int)), some (false, .int p), some (false, .bl single), none, none, none, none, none, none, none, none, none, none, none, none]) (by simp [runFn, argsOf, startF, evS, ev, evM, keepD, hid, shw, hid1, biD, binD, cmpD, outD, idxD, bindF, bindF.setAllF, bindT, setAll, asSeq, T.slots, wipeE, isNonD, isiD, tyOf, intPart, cutD, frzAll, frz1, E.isNil, i1, hsi])).trans ?_
    refine (seq_nx (e := [some (false, .ro (ns.map .int)), some (false, .lst (P.map .int)), some (false, .int p), some (false, .bl single), none, none, none, none, none, none, none, none, none, some (false, .lst F0), some (false, .lst S0), none]) (by simp [runFn, argsOf, startF, evS, ev, evM, keepD, hid, shw, hid1, biD, binD, cmpD, outD, idxD, bindF, bindF.setAllF, bindT, setAll, asSeq, T.slots, wipeE, isNonD, isiD, tyOf, intPart, cutD, frzAll, frz1, E.isNil, a3, b3])).trans ?_
    refine (seq_nx (e := [some (false, .ro (ns.map .int)), some (false, .lst (P.map .int)), some (false, .int p), some (false, .bl single), some (false, .lst TT), none, none, none, none, none, none, none, none, some (false, .lst F0), some (false, .lst S0), none]) (by simp [runFn, argsOf, startF, evS, ev, evM, keepD, hid, shw, hid1, biD, binD, cmpD, outD, idxD, bindF, bindF.setAllF, bindT, setAll, asSeq, T.slots, wipeE, isNonD, isiD, tyOf, intPart, cutD, frzAll, frz1, E.isNil, c3])).trans ?_
    refine (seq_nx hh).trans ?_
    clear hh h1 h2 i0 i1 i116 a3 b3 c3 d3 e3 f4 g3 g4 g5 hsi hsi'
    show evS (fns tb (n + 4)) _ (EL (.ro (ns.map .int)) P p single TT F S w none none none none none none none none) = _
    refine (seq_nx (e := EL (.ro (ns.map .int)) P p single TT F S w (some (false, .lst [.lst F, .lst S, .lst TT])) none none none none none none none) (by simp [runFn, argsOf, startF, evS, ev, evM, keepD, hid, shw, hid1, biD, binD, cmpD, outD, idxD, bindF, bindF.setAllF, bindT, setAll, asSeq, T.slots, wipeE, isNonD, isiD, tyOf, intPart, cutD, frzAll, frz1, E.isNil, EL])).trans ?_
    refine (seq_nx (e := EL (.ro (ns.map .int)) P p single TT F S w (some (false, .lst [.lst F, .lst S, .lst TT])) none none none none none none none) (by simp [runFn, argsOf, startF, evS, ev, evM, keepD, hid, shw, hid1, biD, binD, cmpD, outD, idxD, bindF, bindF.setAllF, bindT, setAll, asSeq, T.slots, wipeE, isNonD, isiD, tyOf, intPart, cutD, frzAll, frz1, E.isNil, EL, o3, o4, o5])).trans ?_
    refine (seq_nx (e := EL (.ro (ns.map .int)) P p single TT F S w (some (false, .lst [.lst F, .lst S, .lst TT])) none none none none none none none) (by simp [runFn, argsOf, startF, evS, ev, evM, keepD, hid, shw, hid1, biD, binD, cmpD, outD, idxD, bindF, bindF.setAllF, bindT, setAll, asSeq, T.slots, wipeE, isNonD, isiD, tyOf, intPart, cutD, frzAll, frz1, E.isNil, EL, r3, r5, r6])).trans ?_
    refine (seq_nx (e := EL (.ro (ns.map .int)) P p single TT F S w (some (false, .lst [.lst F, .lst S, .lst TT])) (some (false, .lst X2)) none none none none none none) (by simp [runFn, argsOf, startF, evS, ev, evM, keepD, hid, shw, hid1, biD, binD, cmpD, outD, idxD, bindF, bindF.setAllF, bindT, setAll, asSeq, T.slots, wipeE, isNonD, isiD, tyOf, intPart, cutD, frzAll, frz1, E.isNil, EL, s4])).trans ?_
    refine (seq_nx (e := EL (.ro (ns.map .int)) P p single TT F S w (some (false, .lst [.lst F, .lst S, .lst TT])) (some (false, .lst X2)) (some (true, .lst X2)) none none none none none) (by simp [runFn, argsOf, startF, evS, ev, evM, keepD, hid, shw, hid1, biD, binD, cmpD, outD, idxD, bindF, bindF.setAllF, bindT, setAll, asSeq, T.slots, wipeE, isNonD, isiD, tyOf, intPart, cutD, frzAll, frz1, E.isNil, EL, s3])).trans ?_
    refine (seq_nx (e := EL (.ro (ns.map .int)) P p single TT F S w (some (false, .lst [.lst F, .lst S, .lst TT])) (some (false, .lst X2)) (some (true, .lst X2)) none none none none none) (by simp [runFn, argsOf, startF, evS, ev, evM, keepD, hid, shw, hid1, biD, binD, cmpD, outD, idxD, bindF, bindF.setAllF, bindT, setAll, asSeq, T.slots, wipeE, isNonD, isiD, tyOf, intPart, cutD, frzAll, frz1, E.isNil, EL, s5])).trans ?_
    refine (seq_nx (e := EL (.ro (ns.map .int)) P p single TT F S w (some (false, .lst [.lst F, .lst S, .lst TT])) (some (false, .lst X2)) (some (true, .lst (X2 ++ [.lst X2]))) none none none none none) (by simp [runFn, argsOf, startF, evS, ev, evM, keepD, hid, shw, hid1, biD, binD, cmpD, outD, idxD, bindF, bindF.setAllF, bindT, setAll, asSeq, T.slots, wipeE, isNonD, isiD, tyOf, intPart, cutD, frzAll, frz1, E.isNil, EL, lA])).trans ?_
    refine (seq_nx (e := EL (.ro (ns.map .int)) P p single TT F S w (some (false, .lst [.lst F, .lst S, .lst TT])) (some (false, .lst X2)) (some (true, .lst (X2 ++ [.lst X2]))) none none none none none) (by simp [runFn, argsOf, startF, evS, ev, evM, keepD, hid, shw, hid1, biD, binD, cmpD, outD, idxD, bindF, bindF.setAllF, bindT, setAll, asSeq, T.slots, wipeE, isNonD, isiD, tyOf, intPart, cutD, frzAll, frz1, E.isNil, EL, s3, s5])).trans ?_
    refine (seq_nx (e := EL (.ro (ns.map .int)) P p single TT F S w (some (false, .lst [.lst F, .lst S, .lst TT])) (some (false, .lst X2)) (some (true, .lst (X2 ++ [.lst X2]))) none none none none none) (by simp [runFn, argsOf, startF, evS, ev, evM, keepD, hid, shw, hid1, biD, binD, cmpD, outD, idxD, bindF, bindF.setAllF, bindT, setAll, asSeq, T.slots, wipeE, isNonD, isiD, tyOf, intPart, cutD, frzAll, frz1, E.isNil, EL, t3, t4, t5])).trans ?_
    refine (seq_nx (e := EL (.ro (ns.map .int)) P p single TT F S w (some (false, .lst [.lst F, .lst S, .lst TT])) (some (false, .lst X2)) (some (true, .lst (X2 ++ [.lst X2]))) (some (false, .lst (dd (Prs p TT TT.length)))) none none none none) (by simp [runFn, argsOf, startF, evS, ev, evM, keepD, hid, shw, hid1, biD, binD, cmpD, outD, idxD, bindF, bindF.setAllF, bindT, setAll, asSeq, T.slots, wipeE, isNonD, isiD, tyOf, intPart, cutD, frzAll, frz1, E.isNil, EL, u2])).trans ?_
    refine (seq_nx (e := EL (.ro (ns.map .int)) P p single TT F S w (some (false, .lst [.lst F, .lst S, .lst TT])) (some (false, .lst X2)) (some (true, .lst (dd (Prs p TT TT.length)))) (some (false, .lst (dd (Prs p TT TT.length)))) none none none none) (by simp [runFn, argsOf, startF, evS, ev, evM, keepD, hid, shw, hid1, biD, binD, cmpD, outD, idxD, bindF, bindF.setAllF, bindT, setAll, asSeq, T.slots, wipeE, isNonD, isiD, tyOf, intPart, cutD, frzAll, frz1, E.isNil, EL, u1])).trans ?_
    refine (seq_nx (e := EL (.ro (ns.map .int)) P p single TT F S w (some (false, .lst [.lst F, .lst S, .lst TT])) (some (false, .lst X2)) (some (true, .lst (dd (Prs p TT TT.length)))) (some (false, .lst (dd (Prs p TT TT.length)))) none none none none) (by simp [runFn, argsOf, startF, evS, ev, evM, keepD, hid, shw, hid1, biD, binD, cmpD, outD, idxD, bindF, bindF.setAllF, bindT, setAll, asSeq, T.slots, wipeE, isNonD, isiD, tyOf, intPart, cutD, frzAll, frz1, E.isNil, EL, u3])).trans ?_
    refine (seq_nx (e := EL (.ro (ns.map .int)) P p single TT F S w (some (false, .lst [.lst F, .lst S, .lst TT])) (some (false, .lst X2)) (some (true, .lst (dd (Prs p TT TT.length) ++ [.lst (dd (Prs p TT TT.length))]))) (some (false, .lst (dd (Prs p TT TT.length)))) none none none none) (by simp [runFn, argsOf, startF, evS, ev, evM, keepD, hid, shw, hid1, biD, binD, cmpD, outD, idxD, bindF, bindF.setAllF, bindT, setAll, asSeq, T.slots, wipeE, isNonD, isiD, tyOf, intPart, cutD, frzAll, frz1, E.isNil, EL, lB])).trans ?_
    refine (seq_nx (e := EL (.ro (ns.map .int)) P p single TT F S w (some (false, .lst [.lst F, .lst S, .lst TT])) (some (false, .lst X2)) (some (true, .lst (dd (Prs p TT TT.length) ++ [.lst (dd (Prs p TT TT.length))]))) (some (false, .lst (dd (Prs p TT TT.length)))) none none none none) (by simp [runFn, argsOf, startF, evS, ev, evM, keepD, hid, shw, hid1, biD, binD, cmpD, outD, idxD, bindF, bindF.setAllF, bindT, setAll, asSeq, T.slots, wipeE, isNonD, isiD, tyOf, intPart, cutD, frzAll, frz1, E.isNil, EL, u1, u3])).trans ?_
    refine (seq_nx (e := EL (.ro (ns.map .int)) P p single TT F S w (some (false, .lst [.lst F, .lst S, .lst TT])) (some (false, .lst X2)) (some (true, .lst (dd (Prs p TT TT.length) ++ [.lst (dd (Prs p TT TT.length))]))) (some (false, .lst (dd (Prs p TT TT.length)))) none none none none) (by simp [runFn, argsOf, startF, evS, ev, evM, keepD, hid, shw, hid1, biD, binD, cmpD, outD, idxD, bindF, bindF.setAllF, bindT, setAll, asSeq, T.slots, wipeE, isNonD, isiD, tyOf, intPart, cutD, frzAll, frz1, E.isNil, EL, v1, v2, v3])).trans ?_
    refine (seq_nx (e := EL (.ro (ns.map .int)) P p single TT F S w (some (false, .lst [.lst F, .lst S, .lst TT])) (some (false, .lst X2)) (some (true, .lst (dd (Prs p TT TT.length) ++ [.lst (dd (Prs p TT TT.length))]))) (some (false, .lst (dd (Prs p TT TT.length)))) (some (false, .lst tk)) none none none) (by simp [runFn, argsOf, startF, evS, ev, evM, keepD, hid, shw, hid1, biD, binD, cmpD, outD, idxD, bindF, bindF.setAllF, bindT, setAll, asSeq, T.slots, wipeE, isNonD, isiD, tyOf, intPart, cutD, frzAll, frz1, E.isNil, EL, k2])).trans ?_
    refine (seq_nx (e := EL (.ro (ns.map .int)) P p single TT F S w (some (false, .lst [.lst F, .lst S, .lst TT])) (some (false, .lst X2)) (some (true, .lst (dd (Prs p TT TT.length) ++ [.lst (dd (Prs p TT TT.length))]))) (some (false, .lst (dd (Prs p TT TT.length)))) (some (false, .lst tk)) (some (false, .lst tk)) none none) (by simp [runFn, argsOf, startF, evS, ev, evM, keepD, hid, shw, hid1, biD, binD, cmpD, outD, idxD, bindF, bindF.setAllF, bindT, setAll, asSeq, T.slots, wipeE, isNonD, isiD, tyOf, intPart, cutD, frzAll, frz1, E.isNil, EL])).trans ?_
    refine (seq_nx (e := EL (.ro (ns.map .int)) P p single TT F S w (some (false, .lst [.lst F, .lst S, .lst TT])) (some (false, .lst X2)) (some (true, .lst (dd (Prs p TT TT.length) ++ [.lst (dd (Prs p TT TT.length))]))) (some (false, .lst (dd (Prs p TT TT.length)))) (some (false, .lst tk)) (some (false, .lst tk)) (some (false, (npair p F S tk).getD .non)) none) (by simp [runFn, argsOf, startF, evS, ev, evM, keepD, hid, shw, hid1, biD, binD, cmpD, outD, idxD, bindF, bindF.setAllF, bindT, setAll, asSeq, T.slots, wipeE, isNonD, isiD, tyOf, intPart, cutD, frzAll, frz1, E.isNil, EL, y1])).trans ?_
    refine (seq_nx (e := EL (.ro (ns.map .int)) P p single TT F S w (some (false, .lst [.lst F, .lst S, .lst TT])) (some (false, .lst X2)) (some (true, .lst (dd (Prs p TT TT.length) ++ [.lst (dd (Prs p TT TT.length))]))) (some (false, .lst (dd (Prs p TT TT.length)))) (some (false, .lst tk)) (some (false, .lst tk)) (some (false, (npair p F S tk).getD .non)) (some (false, (npair p F S tk).getD .non))) (by simp [runFn, argsOf, startF, evS, ev, evM, keepD, hid, shw, hid1, biD, binD, cmpD, outD, idxD, bindF, bindF.setAllF, bindT, setAll, asSeq, T.slots, wipeE, isNonD, isiD, tyOf, intPart, cutD, frzAll, frz1, E.isNil, EL, y2])).trans ?_
    have fin : evS (fns tb (n + 4)) (.ret (.and (.call 20 (.cons (.var 1) (.cons (.var 2) .nil))) (.one (.call 22 (.cons (.var 1) (.cons (.var 2) (.cons (.bin .add (.var 13) (.var 4)) .nil)))))) {}) (EL (.ro (ns.map .int)) P p single TT F S w (some (false, .lst [.lst F, .lst S, .lst TT])) (some (false, .lst X2)) (some (true, .lst (dd (Prs p TT TT.length) ++ [.lst (dd (Prs p TT TT.length))]))) (some (false, .lst (dd (Prs p TT TT.length)))) (some (false, .lst tk)) (some (false, .lst tk)) (some (false, (npair p F S tk).getD .non)) (some (false, (npair p F S tk).getD .non))) = some (.rt false (.bl true)) := by
      simp [runFn, argsOf, startF, evS, ev, evM, keepD, hid, shw, hid1, biD, binD, cmpD, outD, idxD, bindF, bindF.setAllF, bindT, setAll, asSeq, T.slots, wipeE, isNonD, isiD, tyOf, intPart, cutD, frzAll, frz1, E.isNil, EL, z1, z2, lC]
    cases hc : npair p F S tk with
    | none =>
      rw [hc] at fin
      simp only [Option.getD_none] at fin ⊢
      refine (seq_nx (e := EL (.ro (ns.map .int)) P p single TT F S w (some (false, .lst [.lst F, .lst S, .lst TT])) (some (false, .lst X2)) (some (true, .lst (dd (Prs p TT TT.length) ++ [.lst (dd (Prs p TT TT.length))]))) (some (false, .lst (dd (Prs p TT TT.length)))) (some (false, .lst tk)) (some (false, .lst tk)) (some (false, .non)) (some (false, .non))) (by simp [runFn, argsOf, startF, evS, ev, evM, keepD, hid, shw, hid1, biD, binD, cmpD, outD, idxD, bindF, bindF.setAllF, bindT, setAll, asSeq, T.slots, wipeE, isNonD, isiD, tyOf, intPart, cutD, frzAll, frz1, E.isNil, EL])).trans ?_
      refine (seq_nx (e := EL (.ro (ns.map .int)) P p single TT F S w (some (false, .lst [.lst F, .lst S, .lst TT])) (some (false, .lst X2)) (some (true, .lst (dd (Prs p TT TT.length) ++ [.lst (dd (Prs p TT TT.length))]))) (some (false, .lst (dd (Prs p TT TT.length)))) (some (false, .lst tk)) (some (false, .lst tk)) (some (false, .non)) (some (false, .non))) (by simp [runFn, argsOf, startF, evS, ev, evM, keepD, hid, shw, hid1, biD, binD, cmpD, outD, idxD, bindF, bindF.setAllF, bindT, setAll, asSeq, T.slots, wipeE, isNonD, isiD, tyOf, intPart, cutD, frzAll, frz1, E.isNil, EL])).trans ?_
      refine (seq_nx (e := EL (.ro (ns.map .int)) P p single TT F S w (some (false, .lst [.lst F, .lst S, .lst TT])) (some (false, .lst X2)) (some (true, .lst (dd (Prs p TT TT.length) ++ [.lst (dd (Prs p TT TT.length))]))) (some (false, .lst (dd (Prs p TT TT.length)))) (some (false, .lst tk)) (some (false, .lst tk)) (some (false, .non)) (some (false, .non))) (by simp [runFn, argsOf, startF, evS, ev, evM, keepD, hid, shw, hid1, biD, binD, cmpD, outD, idxD, bindF, bindF.setAllF, bindT, setAll, asSeq, T.slots, wipeE, isNonD, isiD, tyOf, intPart, cutD, frzAll, frz1, E.isNil, EL, w1, w2])).trans ?_
      exact fin
    | some d =>
      obtain ⟨aa, bb, rfl, n1, n2⟩ := npair_ok hF hS hc
      rw [hc] at fin
      simp only [Option.getD_some] at fin ⊢
      have y3 := L_is (n := n + 3) (B := 4) (xs := [aa, bb]) hp (fun x hx => by
        rcases List.mem_cons.mp hx with rfl | hx
        · exact n1
        · rw [List.mem_singleton.mp hx]; exact n2) (show 2 ≤ 1000000 by decide)
      refine (seq_nx (e := EL (.ro (ns.map .int)) P p single TT F S w (some (false, .lst [.lst F, .lst S, .lst TT])) (some (false, .lst X2)) (some (true, .lst (dd (Prs p TT TT.length) ++ [.lst (dd (Prs p TT TT.length))]))) (some (false, .lst (dd (Prs p TT TT.length)))) (some (false, .lst tk)) (some (false, .lst tk)) (some (false, .tup [aa, bb])) (some (false, .tup [aa, bb]))) (by simp [runFn, argsOf, startF, evS, ev, evM, keepD, hid, shw, hid1, biD, binD, cmpD, outD, idxD, bindF, bindF.setAllF, bindT, setAll, asSeq, T.slots, wipeE, isNonD, isiD, tyOf, intPart, cutD, frzAll, frz1, E.isNil, EL])).trans ?_
      refine (seq_nx (e := EL (.ro (ns.map .int)) P p single TT F S w (some (false, .lst [.lst F, .lst S, .lst TT])) (some (false, .lst X2)) (some (true, .lst (dd (Prs p TT TT.length) ++ [.lst (dd (Prs p TT TT.length))]))) (some (false, .lst (dd (Prs p TT TT.length)))) (some (false, .lst tk)) (some (false, .lst tk)) (some (false, .tup [aa, bb])) (some (false, .tup [aa, bb]))) (by simp [runFn, argsOf, startF, evS, ev, evM, keepD, hid, shw, hid1, biD, binD, cmpD, outD, idxD, bindF, bindF.setAllF, bindT, setAll, asSeq, T.slots, wipeE, isNonD, isiD, tyOf, intPart, cutD, frzAll, frz1, E.isNil, EL, y3])).trans ?_
      refine (seq_nx (e := EL (.ro (ns.map .int)) P p single TT F S w (some (false, .lst [.lst F, .lst S, .lst TT])) (some (false, .lst X2)) (some (true, .lst (dd (Prs p TT TT.length) ++ [.lst (dd (Prs p TT TT.length))]))) (some (false, .lst (dd (Prs p TT TT.length)))) (some (false, .lst tk)) (some (false, .lst tk)) (some (false, .tup [aa, bb])) (some (false, .tup [aa, bb]))) (by simp [runFn, argsOf, startF, evS, ev, evM, keepD, hid, shw, hid1, biD, binD, cmpD, outD, idxD, bindF, bindF.setAllF, bindT, setAll, asSeq, T.slots, wipeE, isNonD, isiD, tyOf, intPart, cutD, frzAll, frz1, E.isNil, EL, w1, w2])).trans ?_
      exact fin
  simp [runFn, argsOf, startF, f_law, body, outD]
end PyD

namespace PyD
theorem pure_law : ∀ ns : List Int, ns.length ≤ 63 → fns tb (20 + 1) 23 [.ro (ns.map .int)] = some (.bl true) := fun ns h => L_law (n := 16) h
end PyD

open PySem PySem.W PySem.Calls PyProof.Rows in
theorem PySem.Challenge.cw_weighedgrids_k56_sums_of_lists_holds : PySem.Challenge.rw_weighedgrids_k56_sums_of_lists.Holds := by
  w_on; o_law
  refine HandSHeadRun.head_imp (r := OpenLaw.row PySem.Challenge.rw_weighedgrids_k56_sums_of_lists) (q := view (OpenLaw.row PySem.Challenge.rw_weighedgrids_k56_sums_of_lists).prog [0, 27]) (H := PyD.hk) (ob := PyD.ob) (M := 4000) (loose := PyD.nms) (d := HandSHeadRun.topDef (OpenLaw.row PySem.Challenge.rw_weighedgrids_k56_sums_of_lists).prog 27) (kwd := []) PyD.ob_eq
    PyD.run (by kernel_rfl) (by kernel_rfl) (by kernel_rfl) (by rfl) (by first | assumption | decide +kernel) (by decide +kernel) ⟨rfl, rfl, rfl, rfl, rfl, by decide +kernel⟩ ?hw ?hc
  case hw => w_witness2
  case hc =>
    refine PyD.law_of (tb := PyD.tb) (gcd := true) (fn := PyD.f_law) (i := 23) (n := 20) (m := 63) rfl (by decide) (by kernel_rfl) ⟨rfl, by decide, by decide⟩ rfl rfl rfl rfl (by kernel_rfl) ?_ PyD.pure_law
    intro w mg h Y G
    obtain ⟨K, KX, c⟩ := Y
    exact ⟨K, KX, PyD.tabok KX G c⟩
