import PyProof.Rows.All
import Wide.All
import OpenK.AllK
import Wide.FinOn
import PySem.Str
import PyProof.P3Statements
import HandS.ForMost
import HandS.ForExc
import HandS.ExcOwn
import HandS.Flow
import HandS.Deep
import HandS.SortInts
import HandS.IsInst
import HandS.TupAny
import HandS.Text
import HandS.Zip
import HandS.Steps
import HandS.Style
import KE.GoesEnumKw
import HandS.NoneIn
import HandS.Defaults
import HandS.WordsExc
import KE.KStateDown
import HandS.Head0
import HandS.Head1
import HandS.Head2
import HandS.HeadEnd
import HandS.HeadHook1
import HandS.HeadHook2
import KE.DataEq
import Lean
import PySem.Challenge.RW_visitscounted_k63_stretches_and_returns
section
set_option linter.all false
/-! VC1: data trees, the IR, the evaluator on trees. -/
namespace VC
open PySem

abbrev Key := Sum Int Str

/-- a value as a tree -/
inductive D where
  | non | bl (b : Bool) | int (i : Int) | str (x : Str)
  | tup (xs : List D) | lst (xs : List D)
  | dK (ks : List Key) (vs : List D) | dT (ks : List (List Key)) (vs : List D)
  | st (ks : List Key)
  | ins (c : Nat) (ns : List Str) (vs : List D)
  | exc (c : Nat) (ns : List Str) (vs : List D)
  deriving Inhabited

/-- who may change what: X nothing known, Q read only, A data that never changes, F frozen, O an owned list of .., K T an owned dict, I an owned instance -/
inductive Shp where
  | X | Q | A | F | O (s : Shp) | K (s : Shp) | T (s : Shp) | I (c : Nat) (fs : Shp) | N | C (s r : Shp)
  deriving Inhabited, DecidableEq

abbrev Env := List (Option D)
abbrev SEnv := List Shp

/-- what an evaluation ends in -/
inductive R (α : Type) where
  | ok (a : α) | exc (x : D) (env : Env) | no

namespace R
def bind {α β : Type} (x : R α) (f : α → R β) : R β :=
  match x with
  | .ok a => f a
  | .exc x e => .exc x e
  | .no => .no
@[simp] theorem bind_ok {α β : Type} (a : α) (f : α → R β) : (R.ok a).bind f = f a := rfl
@[simp] theorem bind_exc {α β : Type} (x : D) (e : Env) (f : α → R β) : (R.exc x e).bind f = .exc x e := rfl
@[simp] theorem bind_no {α β : Type} (f : α → R β) : (R.no : R α).bind f = .no := rfl
end R

/-- what a call ends in: the value and the last values of the parameters that the def may change -/
inductive RC where
  | ok (d : D) (outs : List D) | exc (x : D) (outs : List D) | no
abbrev Calls := Nat → List D → RC

def lim : Nat := 16777216

/-! ### operators -/
inductive Op2 where
  | addA | addL (s : Shp) | sub | mul | mulL (s : Shp) | fdiv | mod | pow
  deriving Inhabited
inductive CO where
  | lt | le | gt | ge | eq | ne | inn | nin | isN | notN
  deriving DecidableEq, Inhabited

mutual
def toPD : D → PyData
  | .non => .none
  | .bl b => .bool b
  | .int i => .int i
  | .str x => .str x
  | .tup xs => .tuple (toPDs xs)
  | .lst xs => .list (toPDs xs)
  | .dK _ _ | .dT _ _ | .st _ | .ins _ _ _ | .exc _ _ _ => .dict []
def toPDs : List D → List PyData
  | [] => []
  | x :: xs => toPD x :: toPDs xs
end
mutual
/-- data that never changes -/
def imm : D → Bool
  | .non | .bl _ | .int _ | .str _ => true
  | .tup xs => imms xs
  | _ => false
def imms : List D → Bool
  | [] => true
  | x :: xs => imm x && imms xs
end
mutual
/-- None, bools, ints, texts, tuples and lists of these; how deep -/
def plain : D → Bool
  | .non | .bl _ | .int _ | .str _ => true
  | .tup xs => plains xs
  | .lst xs => plains xs
  | _ => false
def plains : List D → Bool
  | [] => true
  | x :: xs => plain x && plains xs
end
mutual
def dep : D → Nat
  | .tup xs => deps xs + 1
  | .lst xs => deps xs + 1
  | _ => 0
def deps : List D → Nat
  | [] => 0
  | x :: xs => max (dep x) (deps xs)
end
/-- == may be asked -/
def eqOk (d : D) : Bool := plain d && decide (dep d ≤ 60)
def eqD (a b : D) : Bool := PyData.eqv (toPD a) (toPD b)

def mulOk (i j : Int) : Bool := (decide (-(2 ^ 64) < i) && decide (i < 2 ^ 64)) || (decide (-(2 ^ 64) < j) && decide (j < 2 ^ 64))

def op2D : Op2 → D → D → Option D
  | .addA, .int i, .int j => some (.int (i + j))
  | .addA, .str x, .str y => if x.length + y.length ≤ lim then some (.str (x ++ y)) else none
  | .addL _, .lst xs, .lst ys => if xs.length + ys.length ≤ lim then some (.lst (xs ++ ys)) else none
  | .sub, .int i, .int j => some (.int (i - j))
  | .mul, .int i, .int j => if mulOk i j = true then some (.int (i * j)) else none
  | .mulL _, .lst xs, .int k => if k < 2 ^ 62 ∧ -(2 ^ 62) < k ∧ xs.length * k.toNat ≤ lim then some (.lst (List.replicate k.toNat xs).flatten) else none
  | .fdiv, .int i, .int j => if j ≠ 0 ∧ j.natAbs < 1073741824 then some (.int (i.fdiv j)) else none
  | .mod, .int i, .int j => if j ≠ 0 then some (.int (i.fmod j)) else none
  | .pow, .int i, .int j => if 0 ≤ j ∧ j ≤ 1000000 ∧ i.natAbs < 2 ^ 64 then some (.int (i ^ j.toNat)) else none
  | _, _, _ => none

def inD (x y : D) : Option Bool :=
  match y with
  | .lst ds => if eqOk x = true ∧ eqOk y = true then some (ds.any fun z => eqD z x) else none
  | _ => none

def cmpD : CO → D → D → Option Bool
  | .lt, .int i, .int j => some (decide (i < j))
  | .le, .int i, .int j => some (decide (i ≤ j))
  | .gt, .int i, .int j => some (decide (j < i))
  | .ge, .int i, .int j => some (decide (j ≤ i))
  | .lt, .str x, .str y => some (decide (x.cps.toList < y.cps.toList))
  | .eq, a, b => if eqOk a = true ∧ eqOk b = true then some (eqD a b) else none
  | .ne, a, b => if eqOk a = true ∧ eqOk b = true then some (!eqD a b) else none
  | .inn, a, b => inD a b
  | .nin, a, b => (inD a b).map (!·)
  | .isN, a, .non => some (match a with | .non => true | _ => false)
  | .notN, a, .non => some (match a with | .non => false | _ => true)
  | _, _, _ => none

/-- truth -/
def truD : D → Option Bool
  | .non => some false
  | .bl b => some b
  | .int i => some (i != 0)
  | .str x => some (decide (x.length ≠ 0))
  | .lst xs => some (!xs.isEmpty)
  | .tup xs => some (!xs.isEmpty)
  | .dK ks _ => some (!ks.isEmpty)
  | _ => none

/-! ### keys of dicts -/
def keyD : D → Option Key
  | .int i => some (.inl i)
  | .str x => some (.inr x)
  | _ => none
def keysD : List D → Option (List Key)
  | [] => some []
  | d :: ds => match keyD d, keysD ds with
    | some k, some ks => some (k :: ks)
    | _, _ => none
/-- what stands at k -/
def lookD {κ : Type} [DecidableEq κ] : List κ → List D → κ → Option D
  | x :: ks, d :: ds, k => if x = k then some d else lookD ks ds k
  | _, _, _ => none
def putKs {κ : Type} [DecidableEq κ] (ks : List κ) (k : κ) : List κ := if k ∈ ks then ks else ks ++ [k]
def putDs {κ : Type} [DecidableEq κ] : List κ → List D → κ → D → List D
  | x :: ks, d :: ds, k, v => if x = k then v :: ds else d :: putDs ks ds k v
  | _, _, _, v => [v]
/-- what a dict says of a key: not askable; nothing; something -/
def dgetD (a k : D) : Option (Option D) :=
  match a, k with
  | .dK ks ds, k => (keyD k).map (lookD ks ds)
  | .dT ks ds, .tup xs => (keysD xs).map (lookD ks ds)
  | _, _ => none
/-- an index of any sign -/
def ixN (n : Nat) (i : Int) : Option Nat :=
  if 0 ≤ i then (if i < n then some i.toNat else none) else if -(n : Int) ≤ i then some (i + n).toNat else none
def idxD (a i : D) : Option D :=
  match a, i with
  | .lst xs, .int k => (ixN xs.length k).bind (xs[·]?)
  | .tup xs, .int k => (ixN xs.length k).bind (xs[·]?)
  | .str x, .int k => ((ixN x.cps.toList.length k).bind (x.cps.toList[·]?)).map fun c => .str ⟨#[c]⟩
  | _, _ => none

/-! ### the IR -/
inductive Ty where
  | int | bool | str | list | tuple | dict
  deriving DecidableEq, Inhabited
/-- built-in functions and types, called -/
inductive Bi where
  | len | abs | max2 | min2 | int1 | list1 (s : Shp) | sorted (s : Shp) | isI (t : Ty) | sum | maxL | minL | sortedS (s : Shp) | str1 | any1 | all1 | tup1
  deriving Inhabited
/-- methods of a text with one argument -/
inductive M2 where
  | join
  deriving DecidableEq, Inhabited
inductive SlK where
  | lo | hi | both
  deriving DecidableEq, Inhabited
/-- what a loop walks -/
inductive ItK where
  | e | rng1 | rng2 | enum | zip | enumS
  deriving DecidableEq, Inhabited
/-- a target -/
inductive Tg where
  | nm (i : Nat) | tp (is : List Nat)
  deriving Inhabited

inductive E where
  | var (i : Nat)
  | non | bl (b : Bool) | int (i : Int) | str (x : Str)
  | tup (es : List E)
  | lst (s : Shp) (es : List E)
  | bin (o : Op2) (a b : E)
  | neg (a : E)
  | cmp (o : CO) (a b : E)
  | chn (o o' : CO) (a b c : E)
  | not (a : E)
  | and (es : List E) | or (es : List E) | ite (c a b : E)
  | idx (a i : E)
  | slc (s : Shp) (k : SlK) (a : E) (bs : List E)
  | call (f : Nat) (ios : List (Option Nat)) (args : List E)
  | bi (b : Bi) (args : List E)
  | lc (own : List Nat) (s : Shp) (elt : E) (g : Tg) (k : ItK) (ies : List E) (ifs : List E)
  | app (i : Nat) (e : E)
  | app2 (i : Nat) (k e : E)
  | idx2 (i : Nat) (k j : E)
  | m2 (o : M2) (a b : E)
  | dnew (tk : Bool) (s : Shp)
  | dget2 (u : Shp) (a k x : E)
  | lcI (own : List Nat) (s : Shp) (elt : E) (g : Tg) (k : ItK) (ies : List E) (ifs : List E)
  | rev (u : Shp) (a : E)
  | lc2 (own own1 : List Nat) (s : Shp) (elt : E) (g : Tg) (k : ItK) (ies : List E) (ifs : List E) (g1 : Tg) (k1 : ItK) (ies1 : List E) (ifs1 : List E)
  deriving Inhabited

inductive S where
  | asg (i : Nat) (s : Shp) (e : E)
  | mv (i j : Nat)
  | unp (is : List Nat) (e : E)
  | unl (is : List Nat) (e : E)
  | par (is : List Nat) (ss : List Shp) (es : List E)
  | aug (i : Nat) (o : Op2) (e : E)
  | set (i : Nat) (k e : E)
  | set2 (i : Nat) (k j e : E)
  | ex (e : E)
  | ite (c : E) (a b : List S)
  | for_ (G : SEnv) (g : Tg) (k : ItK) (ies : List E) (body : List S)
  | whl (G : SEnv) (c : E) (body : List S)
  | ret (e : E) | retMv (i : Nat) | ret0
  | brk | cnt | pas
  | frz (i : Nat)
  | bad
  deriving Inhabited

/-! ### the evaluator -/
def getV (env : Env) (i : Nat) : R (D × Env) :=
  match env[i]? with
  | some (some d) => .ok (d, env)
  | _ => .no
def setOuts (env : Env) : List (Option Nat) → List D → Option Env
  | [], [] => some env
  | none :: is, _ :: ds => setOuts env is ds
  | some i :: is, d :: ds => setOuts (env.set i (some d)) is ds
  | _, _ => none
def ofO {α : Type} (o : Option α) (env : Env) : R (α × Env) :=
  match o with
  | some a => .ok (a, env)
  | none => .no
def isD (t : Ty) (d : D) : Option Bool :=
  match t, d with
  | _, .ins _ _ _ => none
  | _, .exc _ _ _ => none
  | _, .st _ => none
  | .int, .int _ => some true
  | .int, .bl _ => some true
  | .bool, .bl _ => some true
  | .str, .str _ => some true
  | .list, .lst _ => some true
  | .tuple, .tup _ => some true
  | .dict, .dK _ _ => some true
  | .dict, .dT _ _ => some true
  | _, _ => some false
/-- the ints of a list -/
def intsOf : List D → Option (List Int)
  | [] => some []
  | .int i :: r => (intsOf r).map (i :: ·)
  | _ => none
def sortI (xs : List Int) : List Int := xs.mergeSort (fun a b => decide (a ≤ b))
def strsOf : List D → Option (List Str)
  | [] => some []
  | .str x :: r => (strsOf r).map (x :: ·)
  | _ => none
def leS (a b : Str) : Bool := !decide (b.cps.toList < a.cps.toList)
def sortS (xs : List Str) : List Str := xs.mergeSort leS
def blsOf : List D → Option (List Bool)
  | [] => some []
  | .bl b :: r => (blsOf r).map (b :: ·)
  | _ => none
def biD : Bi → List D → Option D
  | .len, [.lst xs] => some (.int xs.length)
  | .len, [.tup xs] => some (.int xs.length)
  | .len, [.str x] => some (.int x.length)
  | .abs, [.int i] => some (.int (if i < 0 then -i else i))
  | .max2, [.int i, .int j] => some (.int (if j > i then j else i))
  | .min2, [.int i, .int j] => some (.int (if j < i then j else i))
  | .int1, [.int i] => some (.int i)
  | .list1 _, [.lst xs] => some (.lst xs)
  | .list1 _, [.tup xs] => some (.lst xs)
  | .sorted _, [.lst xs] => (intsOf xs).map fun is => .lst ((sortI is).map .int)
  | .isI t, [d] => (isD t d).map .bl
  | .sortedS _, [.lst xs] => (strsOf xs).bind fun ss => if ss.length < 64 then some (.lst ((sortS ss).map .str)) else none
  | .str1, [.int i] => if i.natAbs.log2 < 1920 ∧ PyData.strOk (Str.ofString (toString i)) = true ∧ (Str.ofString (toString i)).length ≤ lim then some (.str (Str.ofString (toString i))) else none
  | .sum, [.lst xs] => (intsOf xs).map fun is => .int is.sum
  | .maxL, [.lst xs] => (intsOf xs).bind fun is => match is with | [] => none | i :: r => some (.int (r.foldl max i))
  | .any1, [.lst xs] => (blsOf xs).map fun bs => .bl (bs.any id)
  | .all1, [.lst xs] => (blsOf xs).map fun bs => .bl (bs.all id)
  | .tup1, [.lst xs] => some (.tup xs)
  | .tup1, [.tup xs] => some (.tup xs)
  | .minL, [.lst xs] => (intsOf xs).bind fun is => match is with | [] => none | i :: r => some (.int (r.foldl min i))
  | _, _ => none
def joinD (s : Str) (xs : List D) : Option D := (strsOf xs).bind fun ys => if (ys.map (·.length)).sum + ys.length * s.length ≤ 16777216 then some (.str (Str.join s ys)) else none
def m2D : M2 → D → D → Option D
  | .join, .str s, .lst xs => joinD s xs
  | .join, .str s, .tup xs => joinD s xs
  | _, _, _ => none
/-- a slice's bound as a place among n (d where it is left out) -/
def sIx (n d : Nat) : Option Int → Nat
  | none => d
  | some v => if v < 0 then (v + (n : Int)).toNat else min v.toNat n
/-- xs[lo:hi] -/
def cutL {α : Type} (xs : List α) (lo hi : Option Int) : List α := (xs.drop (sIx xs.length 0 lo)).take (sIx xs.length xs.length hi - sIx xs.length 0 lo)
def slcD (k : SlK) (a : D) (bs : List Int) : Option D :=
  match a, k, bs with
  | .lst xs, .lo, [i] => some (.lst (cutL xs (some i) none))
  | .lst xs, .hi, [j] => some (.lst (cutL xs none (some j)))
  | .lst xs, .both, [i, j] => some (.lst (cutL xs (some i) (some j)))
  | _, _, _ => none
def rngOk (i : Int) : Bool := decide (-(2 ^ 62) ≤ i) && decide (i < 2 ^ 62)
def rngL (lo : Int) : Nat → List D
  | 0 => []
  | n + 1 => .int lo :: rngL (lo + 1) n
def enumL (k : Int) : List D → List D
  | [] => []
  | d :: ds => .tup [.int k, d] :: enumL (k + 1) ds
def zipL : List D → List D → List D
  | a :: as, b :: bs => .tup [a, b] :: zipL as bs
  | _, _ => []
/-- the items of a walk -/
def itD : ItK → List D → Option (List D)
  | .e, [.lst xs] => some xs
  | .e, [.tup xs] => some xs
  | .rng1, [.int j] => if rngOk j = true then some (rngL 0 j.toNat) else none
  | .rng2, [.int i, .int j] => if rngOk i = true ∧ rngOk j = true then some (rngL i (j - i).toNat) else none
  | .enum, [.lst xs] => some (enumL 0 xs)
  | .zip, [.lst xs, .lst ys] => some (zipL xs ys)
  | .enumS, [.lst xs, .int k] => if rngOk k = true then some (enumL k xs) else none
  | _, _ => none
def setAll (env : Env) : List Nat → List D → Option Env
  | [], [] => some env
  | i :: is, d :: ds => setAll (env.set i (some d)) is ds
  | _, _ => none
def bindTg : Tg → D → Env → R Env
  | .nm i, d, env => .ok (env.set i (some d))
  | .tp is, .tup ds, env => match setAll env is ds with | some e => .ok e | none => .no
  | .tp _, _, _ => .no
def wipeD (env : Env) : List Nat → Env
  | [] => env
  | i :: is => (wipeD env is).set i none
/-- the slots is of env as they are in old -/
def backD (old env : Env) : List Nat → Env
  | [] => env
  | i :: is => (backD old env is).set i (match old[i]? with | some o => o | none => none)
def truR (p : D × Env) : R (Bool × Env) := ofO (truD p.1) p.2
/-- a comprehension's list finds room (what stands already does) -/
def lcOk (k : ItK) (items : List D) : Bool :=
  match k with
  | .rng1 => decide (items.length ≤ lim)
  | .rng2 => decide (items.length ≤ lim)
  | _ => true
/-- the loop of a comprehension -/
def lcD (bind : D → Env → R Env) (test : Env → R (Bool × Env)) (elt : Env → R (D × Env)) : List D → Env → R (List D × Env)
  | [], env => .ok ([], env)
  | d :: ds, env => (bind d env).bind fun env1 => (test env1).bind fun (b, env2) =>
      if b = true then (elt env2).bind fun (y, env3) => (lcD bind test elt ds env3).bind fun (ys, env4) => .ok (y :: ys, env4)
      else lcD bind test elt ds env2
/-- the outer loop of a comprehension with two clauses -/
def lcD2 (bind : D → Env → R Env) (test : Env → R (Bool × Env)) (inner : Env → R (List D × Env)) : List D → Env → R (List D × Env)
  | [], env => .ok ([], env)
  | d :: ds, env => (bind d env).bind fun env1 => (test env1).bind fun (b, env2) =>
      if b = true then (inner env2).bind fun (xs, env3) => (lcD2 bind test inner ds env3).bind fun (ys, env4) => .ok (xs ++ ys, env4)
      else lcD2 bind test inner ds env2
/-- the element at i of the list in the slot is appended to -/
def appD (env : Env) (i : Nat) (d : D) : R (D × Env) :=
  match env[i]? with
  | some (some (.lst xs)) => if xs.length < lim then .ok (.non, env.set i (some (.lst (xs ++ [d])))) else .no
  | _ => .no
/-- the place among the lists that the list in the slot holds -/
def inL (env : Env) (i : Nat) (j : D) : Option Nat :=
  match env[i]?, j with
  | some (some (.lst ds)), .int z => (match ixN ds.length z with
    | some n => (match ds[n]? with
      | some (.lst _) => some n
      | _ => none)
    | none => none)
  | _, _ => none
/-- the n-th list that the list in the slot holds, and all -/
def atL (env : Env) (i n : Nat) : Option (List D × List D) :=
  match env[i]? with
  | some (some (.lst ds)) => (match ds[n]? with
    | some (.lst xs) => some (ds, xs)
    | _ => none)
  | _ => none
def app2D (env : Env) (i n : Nat) (d : D) : R (D × Env) :=
  match atL env i n with
  | some (ds, xs) => if xs.length < lim then .ok (.non, env.set i (some (.lst (ds.set n (.lst (xs ++ [d])))))) else .no
  | none => .no
def set2D (env : Env) (i n : Nat) (j v : D) : R Env :=
  match atL env i n, j with
  | some (ds, xs), .int z => (match ixN xs.length z with
    | some m => .ok (env.set i (some (.lst (ds.set n (.lst (xs.set m v))))))
    | none => .no)
  | _, _ => .no
def idx2D (env : Env) (i n : Nat) (j : D) : R (D × Env) :=
  match atL env i n with
  | some (_, xs) => ofO (idxD (.lst xs) j) env
  | none => .no

mutual
def evE (C : Calls) : E → Env → R (D × Env)
  | .var i, env => getV env i
  | .non, env => .ok (.non, env)
  | .bl b, env => .ok (.bl b, env)
  | .int i, env => .ok (.int i, env)
  | .str x, env => .ok (.str x, env)
  | .tup es, env => (evEs C es env).bind fun (ds, env1) => .ok (.tup ds, env1)
  | .lst _ es, env => (evEs C es env).bind fun (ds, env1) => .ok (.lst ds, env1)
  | .bin o a b, env => (evE C a env).bind fun (x, env1) => (evE C b env1).bind fun (y, env2) => ofO (op2D o x y) env2
  | .neg a, env => (evE C a env).bind fun (x, env1) => match x with | .int i => .ok (.int (-i), env1) | _ => .no
  | .cmp o a b, env => (evE C a env).bind fun (x, env1) => (evE C b env1).bind fun (y, env2) => ofO ((cmpD o x y).map .bl) env2
  | .chn o o' a b c, env => (evE C a env).bind fun (x, env1) => (evE C b env1).bind fun (y, env2) =>
      match cmpD o x y with
      | some true => (evE C c env2).bind fun (z, env3) => ofO ((cmpD o' y z).map .bl) env3
      | some false => .ok (.bl false, env2)
      | none => .no
  | .not a, env => (evE C a env).bind fun p => (truR p).bind fun (b, env1) => .ok (.bl (!b), env1)
  | .and es, env => evAnd C es env
  | .or es, env => evOr C es env
  | .ite c a b, env => (evE C c env).bind fun p => (truR p).bind fun (k, env1) => if k = true then evE C a env1 else evE C b env1
  | .idx a i, env => (evE C a env).bind fun (x, env1) => (evE C i env1).bind fun (y, env2) => ofO (idxD x y) env2
  | .slc _ k a bs, env => (evE C a env).bind fun (x, env1) => (evIs C bs env1).bind fun (ys, env2) => ofO (slcD k x ys) env2
  | .call f ios args, env => (evEs C args env).bind fun (ds, env1) =>
      match C f ds with
      | .ok d outs => (match setOuts env1 ios outs with | some e => .ok (d, e) | none => .no)
      | .exc x outs => (match setOuts env1 ios outs with | some e => .exc x e | none => .no)
      | .no => .no
  | .bi b args, env => (evEs C args env).bind fun (ds, env1) => ofO (biD b ds) env1
  | .lc own _ elt g k ies ifs, env => (evEs C ies env).bind fun (ds, env1) =>
      match itD k ds with
      | some items => if lcOk k items = true then (match lcD (bindTg g) (evTs C ifs) (evE C elt) items (wipeD env1 own) with
          | .ok (ys, env2) => .ok (.lst ys, backD env1 env2 own)
          | _ => .no) else .no
      | none => .no
  | .m2 o a b, env => (evE C a env).bind fun (x, env1) => match x with
    | .str _ => (evE C b env1).bind fun (y, env2) => ofO (m2D o x y) env2
    | _ => .no
  | .dnew tk _, env => .ok (if tk = true then .dT [] [] else .dK [] [], env)
  | .dget2 _ a k x, env => (evE C a env).bind fun (d, env1) => match d with
    | .dK _ _ => (evE C k env1).bind fun (j, env2) => (evE C x env2).bind fun (z, env3) => ofO ((dgetD d j).map fun o => o.getD z) env3
    | .dT _ _ => (evE C k env1).bind fun (j, env2) => (evE C x env2).bind fun (z, env3) => ofO ((dgetD d j).map fun o => o.getD z) env3
    | _ => .no
  | .lcI own _ elt g k ies ifs, env => (evEs C ies env).bind fun (ds, env1) =>
      match itD k ds with
      | some items => if lcOk k items = true then (match lcD (bindTg g) (evTs C ifs) (evE C elt) items (wipeD env1 own) with
          | .ok (ys, env2) => .ok (.lst ys, backD env1 env2 own)
          | _ => .no) else .no
      | none => .no
  | .rev _ a, env => (evE C a env).bind fun (x, env1) => match x with
    | .lst xs => .ok (.lst xs.reverse, env1)
    | _ => .no
  | .lc2 own own1 _ elt g k ies ifs g1 k1 ies1 ifs1, env => (evEs C ies env).bind fun (ds, env1) =>
      match itD k ds with
      | some items => (match lcD2 (bindTg g) (evTs C ifs) (fun e => (evEs C ies1 e).bind fun (ds1, e1) => match itD k1 ds1 with
            | some items1 => lcD (bindTg g1) (evTs C ifs1) (evE C elt) items1 (wipeD e1 own1)
            | none => .no) items (wipeD env1 own) with
          | .ok (ys, env2) => if ys.length ≤ lim then .ok (.lst ys, backD env1 env2 own) else .no
          | _ => .no)
      | none => .no
  | .app i e, env => match env[i]? with
    | some (some (.lst _)) => (evE C e env).bind fun (d, env1) => appD env1 i d
    | _ => .no
  | .app2 i k e, env => match env[i]? with
    | some (some (.lst _)) => (evE C k env).bind fun (j, env1) => (match inL env1 i j with
      | some n => (evE C e env1).bind fun (d, env2) => app2D env2 i n d
      | none => .no)
    | _ => .no
  | .idx2 i k j, env => match env[i]? with
    | some (some (.lst _)) => (evE C k env).bind fun (a, env1) => (match inL env1 i a with
      | some n => (evE C j env1).bind fun (b, env2) => idx2D env2 i n b
      | none => .no)
    | _ => .no
def evEs (C : Calls) : List E → Env → R (List D × Env)
  | [], env => .ok ([], env)
  | e :: es, env => (evE C e env).bind fun (d, env1) => (evEs C es env1).bind fun (ds, env2) => .ok (d :: ds, env2)
def evIs (C : Calls) : List E → Env → R (List Int × Env)
  | [], env => .ok ([], env)
  | e :: es, env => (evE C e env).bind fun (d, env1) => match d with
    | .int i => (evIs C es env1).bind fun (is, env2) => .ok (i :: is, env2)
    | _ => .no
def evAnd (C : Calls) : List E → Env → R (D × Env)
  | [], _ => .no
  | e :: es, env => (evE C e env).bind fun p => match es with
    | [] => .ok p
    | _ :: _ => (truR p).bind fun (k, env1) => if k = true then evAnd C es env1 else .ok p
def evOr (C : Calls) : List E → Env → R (D × Env)
  | [], _ => .no
  | e :: es, env => (evE C e env).bind fun p => match es with
    | [] => .ok p
    | _ :: _ => (truR p).bind fun (k, env1) => if k = true then .ok p else evOr C es env1
/-- the tests of a comprehension: none or one -/
def evTs (C : Calls) : List E → Env → R (Bool × Env)
  | [], env => .ok (true, env)
  | e :: es, env => (evE C e env).bind fun p => (truR p).bind fun (k, env1) => if k = true then evTs C es env1 else .ok (false, env1)
end

inductive Fl where
  | nx | rt (d : D) | bk | ct
/-- a for loop -/
def forD (body : D → Env → R (Fl × Env)) : List D → Env → R (Fl × Env)
  | [], env => .ok (.nx, env)
  | d :: ds, env => (body d env).bind fun p => match p.1 with
    | .nx => forD body ds p.2
    | .ct => forD body ds p.2
    | .bk => .ok (.nx, p.2)
    | .rt v => .ok (.rt v, p.2)
/-- a while loop, n turns at most -/
def whlD (test : Env → R (Bool × Env)) (body : Env → R (Fl × Env)) : Nat → Env → R (Fl × Env)
  | 0, _ => .no
  | n + 1, env => (test env).bind fun (b, env1) => if b = true then (body env1).bind fun p => match p.1 with
      | .nx => whlD test body n p.2
      | .ct => whlD test body n p.2
      | .bk => .ok (.nx, p.2)
      | .rt v => .ok (.rt v, p.2)
    else .ok (.nx, env1)
def wTurns : Nat := 2 ^ 62
def setIx (env : Env) (i : Nat) (k v : D) : R Env :=
  match env[i]?, k with
  | some (some (.lst xs)), .int j => match ixN xs.length j with
    | some n => .ok (env.set i (some (.lst (xs.set n v))))
    | none => .no
  | some (some (.dK ks ds)), j => match keyD j with
    | some k => if ks.length < lim then .ok (env.set i (some (.dK (putKs ks k) (putDs ks ds k v)))) else .no
    | none => .no
  | some (some (.dT ks ds)), .tup xs => match keysD xs with
    | some k => if ks.length < lim then .ok (env.set i (some (.dT (putKs ks k) (putDs ks ds k v)))) else .no
    | none => .no
  | _, _ => .no
mutual
def evS (C : Calls) : S → Env → R (Fl × Env)
  | .asg i _ e, env => (evE C e env).bind fun (d, env1) => .ok (.nx, env1.set i (some d))
  | .mv i j, env => (getV env j).bind fun (d, env1) => .ok (.nx, env1.set i (some d))
  | .unp is e, env => (evE C e env).bind fun (d, env1) => match d with
      | .tup ds => (match setAll env1 is ds with | some e => .ok (.nx, e) | none => .no)
      | _ => .no
  | .unl is e, env => (evE C e env).bind fun (d, env1) => match d with
      | .lst ds => (match setAll env1 is ds with | some e => .ok (.nx, e) | none => .no)
      | _ => .no
  | .par is _ es, env => (evEs C es env).bind fun (ds, env1) => match setAll env1 is ds with
      | some e => .ok (.nx, e)
      | none => .no
  | .aug i o e, env => (getV env i).bind fun (x, _) => (evE C e env).bind fun (y, env1) => match op2D o x y with
      | some z => .ok (.nx, env1.set i (some z))
      | none => .no
  | .set i k e, env => (evE C e env).bind fun (v, env1) => match env1[i]? with
    | some (some (.lst _)) => (evE C k env1).bind fun (j, env2) => (setIx env2 i j v).bind fun env3 => .ok (.nx, env3)
    | some (some (.dK _ _)) => (evE C k env1).bind fun (j, env2) => (setIx env2 i j v).bind fun env3 => .ok (.nx, env3)
    | some (some (.dT _ _)) => (evE C k env1).bind fun (j, env2) => (setIx env2 i j v).bind fun env3 => .ok (.nx, env3)
    | _ => .no
  | .set2 i k j e, env => (evE C e env).bind fun (v, env1) => match env1[i]? with
    | some (some (.lst _)) => (evE C k env1).bind fun (a, env2) => (match inL env2 i a with
      | some n => (evE C j env2).bind fun (b, env3) => (set2D env3 i n b v).bind fun env4 => .ok (.nx, env4)
      | none => .no)
    | _ => .no
  | .ex e, env => (evE C e env).bind fun (_, env1) => .ok (.nx, env1)
  | .ite c a b, env => (evE C c env).bind fun p => (truR p).bind fun (k, env1) => if k = true then evSs C a env1 else evSs C b env1
  | .for_ _ g k ies body, env => (evEs C ies env).bind fun (ds, env1) => match itD k ds with
      | some items => forD (fun d e => (bindTg g d e).bind fun e1 => evSs C body e1) items env1
      | none => .no
  | .whl _ c body, env => whlD (fun e => (evE C c e).bind truR) (fun e => evSs C body e) wTurns env
  | .ret e, env => (evE C e env).bind fun (d, env1) => .ok (.rt d, env1)
  | .retMv i, env => (getV env i).bind fun (d, env1) => .ok (.rt d, env1)
  | .ret0, env => .ok (.rt .non, env)
  | .brk, env => .ok (.bk, env)
  | .cnt, env => .ok (.ct, env)
  | .pas, env => .ok (.nx, env)
  | .frz _, env => .ok (.nx, env)
  | .bad, _ => .no
def evSs (C : Calls) : List S → Env → R (Fl × Env)
  | [], env => .ok (.nx, env)
  | s :: ss, env => (evS C s env).bind fun p => match p.1 with
    | .nx => evSs C ss p.2
    | _ => .ok p
end

/-- a def: its names (parameters first), how the parameters are taken, what it hands back -/
structure Def where
  np : Nat
  nl : Nat
  modes : List Shp
  ios : List Nat
  ret : Shp
  body : List S
def outsOf (env : Env) : List Nat → Option (List D)
  | [] => some []
  | i :: is => match env[i]? with
    | some (some d) => (outsOf env is).map (d :: ·)
    | _ => none
def endC (ios : List Nat) : R (Fl × Env) → RC
  | .ok (.rt d, env) => match outsOf env ios with | some os => .ok d os | none => .no
  | .ok (.nx, env) => match outsOf env ios with | some os => .ok .non os | none => .no
  | .ok _ => .no
  | .exc x env => match outsOf env ios with | some os => .exc x os | none => .no
  | .no => .no
/-- the call of the f-th def of the table, n levels deep at most -/
def callD (T : List Def) : Nat → Calls
  | 0, _, _ => .no
  | n + 1, f, ds => match T[f]? with
    | none => .no
    | some df => if ds.length = df.np then endC df.ios (evSs (callD T n) df.body (ds.map some ++ List.replicate (df.nl - df.np) none)) else .no
end VC
end

section
set_option Elab.async false
set_option linter.all false
set_option autoImplicit false
set_option maxRecDepth 100000
/-! VC2: how a tree lies in the abstract heap: what is frozen, what is owned. -/
namespace VC
open PySem PySem.Spec PyProof.Rows L2

theorem lim_eq : lim = sizeLine := by rw [sizeLine_eq]; rfl

/-! ### d lies at v, to be read -/
mutual
def Rp (K : PySem.W.Frag) (H : Hp) : D → V → Prop
  | .non, v => v = .non
  | .bl b, v => v = .bl b
  | .int i, v => v = .int i
  | .str x, v => v = .str x ∧ PySem.PyData.strOk x = true ∧ x.length ≤ lim
  | .tup ds, v => ∃ a vs, v = .ref a ∧ SqT K H a vs ∧ ds.length ≤ lim ∧ Rps K H ds vs
  | .lst ds, v => ∃ a vs, v = .ref a ∧ SqL K H a vs ∧ ds.length ≤ lim ∧ Rps K H ds vs
  | .dK ks xs, v => ∃ a kvs, v = .ref a ∧ H a = some (.dK kvs) ∧ kvs.map (·.1) = ks ∧ ks.Nodup ∧ ks.length ≤ lim ∧ Rps K H xs (kvs.map (·.2))
  | .dT ks xs, v => ∃ a kvs, v = .ref a ∧ H a = some (.dT kvs) ∧ kvs.map (·.1) = ks ∧ ks.Nodup ∧ ks.length ≤ lim ∧ Rps K H xs (kvs.map (·.2))
  | .st _, _ => False
  | .ins _ _ _, _ => False
  | .exc _ _ _, _ => False
def Rps (K : PySem.W.Frag) (H : Hp) : List D → List V → Prop
  | [], vs => vs = []
  | d :: ds, vs => ∃ v r, vs = v :: r ∧ Rp K H d v ∧ Rps K H ds r
end
/-! ### d lies at v, frozen -/
mutual
def Rf (F : Hp) : D → V → Prop
  | .non, v => v = .non
  | .bl b, v => v = .bl b
  | .int i, v => v = .int i
  | .str x, v => v = .str x ∧ PySem.PyData.strOk x = true ∧ x.length ≤ lim
  | .tup ds, v => ∃ a vs, v = .ref a ∧ F a = some (.tup vs) ∧ ds.length ≤ lim ∧ Rfs F ds vs
  | .lst ds, v => ∃ a vs, v = .ref a ∧ F a = some (.lst vs) ∧ ds.length ≤ lim ∧ Rfs F ds vs
  | .dK ks xs, v => ∃ a kvs, v = .ref a ∧ F a = some (.dK kvs) ∧ kvs.map (·.1) = ks ∧ ks.Nodup ∧ ks.length ≤ lim ∧ Rfs F xs (kvs.map (·.2))
  | .dT ks xs, v => ∃ a kvs, v = .ref a ∧ F a = some (.dT kvs) ∧ kvs.map (·.1) = ks ∧ ks.Nodup ∧ ks.length ≤ lim ∧ Rfs F xs (kvs.map (·.2))
  | .st _, _ => False
  | .ins _ _ _, _ => False
  | .exc _ _ _, _ => False
def Rfs (F : Hp) : List D → List V → Prop
  | [], vs => vs = []
  | d :: ds, vs => ∃ v r, vs = v :: r ∧ Rf F d v ∧ Rfs F ds r
end
/-- a heap within another -/
def Sub (F H : Hp) : Prop := ∀ a o, F a = some o → H a = some o
theorem Sub.refl (F : Hp) : Sub F F := fun _ _ h => h
theorem Sub.trans {F G H : Hp} (a : Sub F G) (b : Sub G H) : Sub F H := fun c o h => b c o (a c o h)

section
variable {K : PySem.W.Frag} {F G H : Hp}
theorem sqL_sub (s : Sub F G) {a : Addr} {vs : List V} (h : SqL K F a vs) : SqL K G a vs := Same.seq s h
theorem sqT_sub (s : Sub F G) {a : Addr} {vs : List V} (h : SqT K F a vs) : SqT K G a vs := by
  rcases h with (h | ⟨o, h⟩) | h
  · exact .inl (.inl (s _ _ h))
  · exact .inl (.inr ⟨o, s _ _ h⟩)
  · exact .inr h
mutual
theorem Rp.sub (s : Sub F G) : ∀ (d : D) (v : V), Rp K F d v → Rp K G d v
  | .non, _, h => h
  | .bl _, _, h => h
  | .int _, _, h => h
  | .str _, _, h => h
  | .tup ds, v, h => by
    simp only [Rp] at h ⊢
    obtain ⟨a, vs, e, h1, h2, h3⟩ := h
    exact ⟨a, vs, e, sqT_sub s h1, h2, Rps.sub s ds vs h3⟩
  | .lst ds, v, h => by
    simp only [Rp] at h ⊢
    obtain ⟨a, vs, e, h1, h2, h3⟩ := h
    exact ⟨a, vs, e, sqL_sub s h1, h2, Rps.sub s ds vs h3⟩
  | .dK ks xs, v, h => by
    simp only [Rp] at h ⊢
    obtain ⟨a, vs, e, h1, h2, h3, h4, h5⟩ := h
    exact ⟨a, vs, e, s _ _ h1, h2, h3, h4, Rps.sub s xs _ h5⟩
  | .dT ks xs, v, h => by
    simp only [Rp] at h ⊢
    obtain ⟨a, vs, e, h1, h2, h3, h4, h5⟩ := h
    exact ⟨a, vs, e, s _ _ h1, h2, h3, h4, Rps.sub s xs _ h5⟩
  | .st _, _, h => by simp only [Rp] at h
  | .ins _ _ _, _, h => by simp only [Rp] at h
  | .exc _ _ _, _, h => by simp only [Rp] at h
theorem Rps.sub (s : Sub F G) : ∀ (ds : List D) (vs : List V), Rps K F ds vs → Rps K G ds vs
  | [], _, h => h
  | d :: ds, vs, h => by
    simp only [Rps] at h ⊢
    obtain ⟨v, r, e, h1, h2⟩ := h
    exact ⟨v, r, e, Rp.sub s d v h1, Rps.sub s ds r h2⟩
end
mutual
theorem Rf.sub (s : Sub F G) : ∀ (d : D) (v : V), Rf F d v → Rf G d v
  | .non, _, h => h
  | .bl _, _, h => h
  | .int _, _, h => h
  | .str _, _, h => h
  | .tup ds, v, h => by
    simp only [Rf] at h ⊢
    obtain ⟨a, vs, e, h1, h2, h3⟩ := h
    exact ⟨a, vs, e, s _ _ h1, h2, Rfs.sub s ds vs h3⟩
  | .lst ds, v, h => by
    simp only [Rf] at h ⊢
    obtain ⟨a, vs, e, h1, h2, h3⟩ := h
    exact ⟨a, vs, e, s _ _ h1, h2, Rfs.sub s ds vs h3⟩
  | .dK ks xs, v, h => by
    simp only [Rf] at h ⊢
    obtain ⟨a, vs, e, h1, h2, h3, h4, h5⟩ := h
    exact ⟨a, vs, e, s _ _ h1, h2, h3, h4, Rfs.sub s xs _ h5⟩
  | .dT ks xs, v, h => by
    simp only [Rf] at h ⊢
    obtain ⟨a, vs, e, h1, h2, h3, h4, h5⟩ := h
    exact ⟨a, vs, e, s _ _ h1, h2, h3, h4, Rfs.sub s xs _ h5⟩
  | .st _, _, h => by simp only [Rf] at h
  | .ins _ _ _, _, h => by simp only [Rf] at h
  | .exc _ _ _, _, h => by simp only [Rf] at h
theorem Rfs.sub (s : Sub F G) : ∀ (ds : List D) (vs : List V), Rfs F ds vs → Rfs G ds vs
  | [], _, h => h
  | d :: ds, vs, h => by
    simp only [Rfs] at h ⊢
    obtain ⟨v, r, e, h1, h2⟩ := h
    exact ⟨v, r, e, Rf.sub s d v h1, Rfs.sub s ds r h2⟩
end
mutual
theorem Rf.rp : ∀ (d : D) (v : V), Rf F d v → Rp K F d v
  | .non, _, h => h
  | .bl _, _, h => h
  | .int _, _, h => h
  | .str _, _, h => h
  | .tup ds, v, h => by
    simp only [Rf] at h
    simp only [Rp]
    obtain ⟨a, vs, e, h1, h2, h3⟩ := h
    exact ⟨a, vs, e, SqT.of h1, h2, Rfs.rp ds vs h3⟩
  | .lst ds, v, h => by
    simp only [Rf] at h
    simp only [Rp]
    obtain ⟨a, vs, e, h1, h2, h3⟩ := h
    exact ⟨a, vs, e, SqL.of h1, h2, Rfs.rp ds vs h3⟩
  | .dK ks xs, v, h => by
    simp only [Rf] at h
    simp only [Rp]
    obtain ⟨a, vs, e, h1, h2, h3, h4, h5⟩ := h
    exact ⟨a, vs, e, h1, h2, h3, h4, Rfs.rp xs _ h5⟩
  | .dT ks xs, v, h => by
    simp only [Rf] at h
    simp only [Rp]
    obtain ⟨a, vs, e, h1, h2, h3, h4, h5⟩ := h
    exact ⟨a, vs, e, h1, h2, h3, h4, Rfs.rp xs _ h5⟩
  | .st _, _, h => by simp only [Rf] at h
  | .ins _ _ _, _, h => by simp only [Rf] at h
  | .exc _ _ _, _, h => by simp only [Rf] at h
theorem Rfs.rp : ∀ (ds : List D) (vs : List V), Rfs F ds vs → Rps K F ds vs
  | [], _, h => h
  | d :: ds, vs, h => by
    simp only [Rfs] at h
    simp only [Rps]
    obtain ⟨v, r, e, h1, h2⟩ := h
    exact ⟨v, r, e, Rf.rp d v h1, Rfs.rp ds r h2⟩
end
/-- the tuples of F are in G -/
def Tups (F G : Hp) : Prop := ∀ a xs, F a = some (.tup xs) → G a = some (.tup xs)
mutual
/-- data that never changes leans on the tuples alone -/
theorem Rf.tups (s : Tups F G) : ∀ (d : D) (v : V), imm d = true → Rf F d v → Rf G d v
  | .non, _, _, h => h
  | .bl _, _, _, h => h
  | .int _, _, _, h => h
  | .str _, _, _, h => h
  | .tup ds, v, i, h => by
    simp only [Rf] at h ⊢
    obtain ⟨a, vs, e, h1, h2, h3⟩ := h
    exact ⟨a, vs, e, s _ _ h1, h2, Rfs.tups s ds vs (by simpa [imm] using i) h3⟩
  | .lst ds, _, i, _ => by simp [imm] at i
  | .dK _ _, _, i, _ => by simp [imm] at i
  | .dT _ _, _, i, _ => by simp [imm] at i
  | .st _, _, i, _ => by simp [imm] at i
  | .ins _ _ _, _, i, _ => by simp [imm] at i
  | .exc _ _ _, _, i, _ => by simp [imm] at i
theorem Rfs.tups (s : Tups F G) : ∀ (ds : List D) (vs : List V), imms ds = true → Rfs F ds vs → Rfs G ds vs
  | [], _, _, h => h
  | d :: ds, vs, i, h => by
    simp only [Rfs] at h ⊢
    simp only [imms, Bool.and_eq_true] at i
    obtain ⟨v, r, e, h1, h2⟩ := h
    exact ⟨v, r, e, Rf.tups s d v i.1 h1, Rfs.tups s ds r i.2 h2⟩
end
theorem Rps.len : ∀ {ds : List D} {vs : List V}, Rps K H ds vs → vs.length = ds.length
  | [], vs, h => by simp only [Rps] at h; subst h; rfl
  | d :: ds, vs, h => by
    simp only [Rps] at h
    obtain ⟨v, r, rfl, h1, h2⟩ := h
    simp [Rps.len h2]
theorem Rfs.len : ∀ {ds : List D} {vs : List V}, Rfs F ds vs → vs.length = ds.length
  | [], vs, h => by simp only [Rfs] at h; subst h; rfl
  | d :: ds, vs, h => by
    simp only [Rfs] at h
    obtain ⟨v, r, rfl, h1, h2⟩ := h
    simp [Rfs.len h2]
theorem Rps.get : ∀ {ds : List D} {vs : List V} {i : Nat} {d : D}, Rps K H ds vs → ds[i]? = some d → ∃ v, vs[i]? = some v ∧ Rp K H d v
  | [], _, _, _, _, e => by simp at e
  | d :: ds, vs, 0, x, h, e => by
    simp only [Rps] at h
    obtain ⟨v, r, rfl, h1, h2⟩ := h
    simp at e; subst e
    exact ⟨v, by simp, h1⟩
  | d :: ds, vs, i + 1, x, h, e => by
    simp only [Rps] at h
    obtain ⟨v, r, rfl, h1, h2⟩ := h
    obtain ⟨u, q1, q2⟩ := Rps.get (i := i) h2 (by simpa using e)
    exact ⟨u, by simpa using q1, q2⟩
theorem Rfs.get : ∀ {ds : List D} {vs : List V} {i : Nat} {d : D}, Rfs F ds vs → ds[i]? = some d → ∃ v, vs[i]? = some v ∧ Rf F d v
  | [], _, _, _, _, e => by simp at e
  | d :: ds, vs, 0, x, h, e => by
    simp only [Rfs] at h
    obtain ⟨v, r, rfl, h1, h2⟩ := h
    simp at e; subst e
    exact ⟨v, by simp, h1⟩
  | d :: ds, vs, i + 1, x, h, e => by
    simp only [Rfs] at h
    obtain ⟨v, r, rfl, h1, h2⟩ := h
    obtain ⟨u, q1, q2⟩ := Rfs.get (i := i) h2 (by simpa using e)
    exact ⟨u, by simpa using q1, q2⟩
theorem Rfs.append : ∀ {ds es : List D} {vs us : List V}, Rfs F ds vs → Rfs F es us → Rfs F (ds ++ es) (vs ++ us)
  | [], _, vs, _, h, g => by simp only [Rfs] at h; subst h; exact g
  | d :: ds, es, vs, us, h, g => by
    simp only [Rfs] at h
    obtain ⟨v, r, rfl, h1, h2⟩ := h
    exact ⟨v, r ++ us, rfl, h1, Rfs.append h2 g⟩
end

/-! ### what is owned -/
/-- a list of trees at a list of values, each with its own addresses -/
def Ows (R : D → V → List Addr → Prop) : List D → List V → List Addr → Prop
  | [], vs, fp => vs = [] ∧ fp = []
  | d :: ds, vs, fp => ∃ v r f1 f2, vs = v :: r ∧ fp = f1 ++ f2 ∧ R d v f1 ∧ Ows R ds r f2
/-- d lies at v as the shape says; fp: the objects that are owned -/
def Ow (K : PySem.W.Frag) (F H : Hp) : Shp → D → V → List Addr → Prop
  | .X, _, _, fp => fp = []
  | .Q, d, v, fp => fp = [] ∧ Rp K F d v
  | .A, d, v, fp => fp = [] ∧ imm d = true ∧ Rf F d v
  | .F, d, v, fp => fp = [] ∧ Rf F d v
  | .O s, d, v, fp => ∃ a vs ds fps, d = .lst ds ∧ v = .ref a ∧ H a = some (.lst vs) ∧ F a = none ∧ ds.length ≤ lim ∧ Ows (Ow K F H s) ds vs fps ∧ fp = a :: fps
  | .K s, d, v, fp => ∃ a kvs ks ds fps, d = .dK ks ds ∧ v = .ref a ∧ H a = some (.dK kvs) ∧ F a = none ∧ kvs.map (·.1) = ks ∧ ks.Nodup ∧ ks.length ≤ lim ∧ Ows (Ow K F H s) ds (kvs.map (·.2)) fps ∧ fp = a :: fps
  | .T s, d, v, fp => ∃ a kvs ks ds fps, d = .dT ks ds ∧ v = .ref a ∧ H a = some (.dT kvs) ∧ F a = none ∧ kvs.map (·.1) = ks ∧ ks.Nodup ∧ ks.length ≤ lim ∧ Ows (Ow K F H s) ds (kvs.map (·.2)) fps ∧ fp = a :: fps
  | .I _ _, _, _, _ => False
  | .N, _, _, _ => False
  | .C _ _, _, _, _ => False

section
variable {K : PySem.W.Frag} {F F' H H' : Hp}
theorem Ows.imp {R R' : D → V → List Addr → Prop} : ∀ {ds : List D} {vs : List V} {fp : List Addr}, Ows R ds vs fp → (∀ d v f, (∀ a ∈ f, a ∈ fp) → R d v f → R' d v f) → Ows R' ds vs fp
  | [], _, _, h, _ => h
  | d :: ds, vs, fp, h, k => by
    obtain ⟨v, r, f1, f2, rfl, rfl, h1, h2⟩ := h
    exact ⟨v, r, f1, f2, rfl, rfl, k d v f1 (fun a h => List.mem_append_left _ h) h1, Ows.imp h2 fun d v f hf => k d v f fun a h => List.mem_append_right _ (hf a h)⟩
theorem Ows.len {R : D → V → List Addr → Prop} : ∀ {ds : List D} {vs : List V} {fp : List Addr}, Ows R ds vs fp → vs.length = ds.length
  | [], _, _, h => by obtain ⟨rfl, _⟩ := h; rfl
  | d :: ds, vs, fp, h => by
    obtain ⟨v, r, f1, f2, rfl, rfl, h1, h2⟩ := h
    simp [Ows.len h2]
theorem Ows.append {R : D → V → List Addr → Prop} : ∀ {ds es : List D} {vs us : List V} {f g : List Addr}, Ows R ds vs f → Ows R es us g → Ows R (ds ++ es) (vs ++ us) (f ++ g)
  | [], _, _, _, _, _, h, k => by obtain ⟨rfl, rfl⟩ := h; exact k
  | d :: ds, _, _, us, _, g, h, k => by
    obtain ⟨v, r, f1, f2, rfl, rfl, h1, h2⟩ := h
    exact ⟨v, r ++ us, f1, f2 ++ g, rfl, by rw [List.append_assoc], h1, Ows.append h2 k⟩
theorem Ows.one {R : D → V → List Addr → Prop} {d : D} {v : V} {f : List Addr} (h : R d v f) : Ows R [d] [v] f := ⟨v, [], f, [], rfl, by simp, h, rfl, rfl⟩
/-- the owned objects stand in H and are not frozen -/
theorem Ow.dom : ∀ {s : Shp} {d : D} {v : V} {fp : List Addr}, Ow K F H s d v fp → ∀ a ∈ fp, (∃ o, H a = some o ∧ ∀ xs, o ≠ .tup xs) ∧ F a = none := by
  have many : ∀ {R : D → V → List Addr → Prop}, (∀ {d v fp}, R d v fp → ∀ a ∈ fp, (∃ o, H a = some o ∧ ∀ xs, o ≠ .tup xs) ∧ F a = none) → ∀ {ds : List D} {vs : List V} {fp : List Addr}, Ows R ds vs fp → ∀ a ∈ fp, (∃ o, H a = some o ∧ ∀ xs, o ≠ .tup xs) ∧ F a = none := by
    intro R hR ds
    induction ds with
    | nil => intro vs fp h a ha; obtain ⟨_, rfl⟩ := h; simp at ha
    | cons d ds ih =>
      intro vs fp h a ha
      obtain ⟨v, r, f1, f2, rfl, rfl, h1, h2⟩ := h
      rcases List.mem_append.mp ha with z | z
      · exact hR h1 a z
      · exact ih h2 a z
  intro s
  induction s with
  | X => intro d v fp h a ha; simp only [Ow] at h; subst h; simp at ha
  | Q => intro d v fp h a ha; simp only [Ow] at h; rw [h.1] at ha; simp at ha
  | A => intro d v fp h a ha; simp only [Ow] at h; rw [h.1] at ha; simp at ha
  | F => intro d v fp h a ha; simp only [Ow] at h; rw [h.1] at ha; simp at ha
  | O s ih =>
    intro d v fp h a ha
    simp only [Ow] at h
    obtain ⟨b, vs, ds, fps, rfl, rfl, h1, h2, _, h3, rfl⟩ := h
    rcases List.mem_cons.mp ha with rfl | z
    · exact ⟨⟨_, h1, fun xs z => by cases z⟩, h2⟩
    · exact many ih h3 a z
  | K s ih =>
    intro d v fp h a ha
    simp only [Ow] at h
    obtain ⟨b, kvs, ks, ds, fps, rfl, rfl, h1, h2, _, _, _, h3, rfl⟩ := h
    rcases List.mem_cons.mp ha with rfl | z
    · exact ⟨⟨_, h1, fun xs z => by cases z⟩, h2⟩
    · exact many ih h3 a z
  | T s ih =>
    intro d v fp h a ha
    simp only [Ow] at h
    obtain ⟨b, kvs, ks, ds, fps, rfl, rfl, h1, h2, _, _, _, h3, rfl⟩ := h
    rcases List.mem_cons.mp ha with rfl | z
    · exact ⟨⟨_, h1, fun xs z => by cases z⟩, h2⟩
    · exact many ih h3 a z
  | I c ss => intro d v fp h; simp only [Ow] at h
  | N => intro d v fp h; simp only [Ow] at h
  | C s r => intro d v fp h; simp only [Ow] at h
theorem Ows.dom {s : Shp} : ∀ {ds : List D} {vs : List V} {fp : List Addr}, Ows (Ow K F H s) ds vs fp → ∀ a ∈ fp, (∃ o, H a = some o ∧ ∀ xs, o ≠ .tup xs) ∧ F a = none
  | [], _, _, h, a, ha => by obtain ⟨_, rfl⟩ := h; simp at ha
  | d :: ds, _, _, h, a, ha => by
    obtain ⟨v, r, f1, f2, rfl, rfl, h1, h2⟩ := h
    rcases List.mem_append.mp ha with z | z
    · exact h1.dom a z
    · exact Ows.dom h2 a z
/-- F grows, H stays where d's own objects are: d stays -/
theorem Ow.keep (sF : Sub F F') : ∀ {s : Shp} {d : D} {v : V} {fp : List Addr}, Ow K F H s d v fp → (∀ a ∈ fp, H' a = H a ∧ F' a = none) → Ow K F' H' s d v fp := by
  intro s
  induction s with
  | X => intro d v fp h _; exact h
  | Q => intro d v fp h _; simp only [Ow] at h ⊢; exact ⟨h.1, Rp.sub sF _ _ h.2⟩
  | A => intro d v fp h _; simp only [Ow] at h ⊢; exact ⟨h.1, h.2.1, Rf.sub sF _ _ h.2.2⟩
  | F => intro d v fp h _; simp only [Ow] at h ⊢; exact ⟨h.1, Rf.sub sF _ _ h.2⟩
  | O s ih =>
    intro d v fp h k
    simp only [Ow] at h ⊢
    obtain ⟨b, vs, ds, fps, rfl, rfl, h1, h2, h4, h3, rfl⟩ := h
    have kb := k b List.mem_cons_self
    exact ⟨b, vs, ds, fps, rfl, rfl, by rw [kb.1]; exact h1, kb.2, h4, h3.imp fun d v f hf q => ih q fun a ha => k a (List.mem_cons_of_mem _ (hf a ha)), rfl⟩
  | K s ih =>
    intro d v fp h k
    simp only [Ow] at h ⊢
    obtain ⟨b, kvs, ks, ds, fps, rfl, rfl, h1, h2, h4, h5, h6, h3, rfl⟩ := h
    have kb := k b List.mem_cons_self
    exact ⟨b, kvs, ks, ds, fps, rfl, rfl, by rw [kb.1]; exact h1, kb.2, h4, h5, h6, h3.imp fun d v f hf q => ih q fun a ha => k a (List.mem_cons_of_mem _ (hf a ha)), rfl⟩
  | T s ih =>
    intro d v fp h k
    simp only [Ow] at h ⊢
    obtain ⟨b, kvs, ks, ds, fps, rfl, rfl, h1, h2, h4, h5, h6, h3, rfl⟩ := h
    have kb := k b List.mem_cons_self
    exact ⟨b, kvs, ks, ds, fps, rfl, rfl, by rw [kb.1]; exact h1, kb.2, h4, h5, h6, h3.imp fun d v f hf q => ih q fun a ha => k a (List.mem_cons_of_mem _ (hf a ha)), rfl⟩
  | I c ss => intro d v fp h _; simp only [Ow] at h
  | N => intro d v fp h _; simp only [Ow] at h
  | C s r => intro d v fp h _; simp only [Ow] at h
theorem Ows.keep (sF : Sub F F') {s : Shp} {ds : List D} {vs : List V} {fp : List Addr} (h : Ows (Ow K F H s) ds vs fp) (k : ∀ a ∈ fp, H' a = H a ∧ F' a = none) : Ows (Ow K F' H' s) ds vs fp :=
  h.imp fun d v f hf q => Ow.keep sF q fun a ha => k a (hf a ha)

/-! ### weaker shapes; freezing -/
/-- what is of shape s is of shape t as it stands -/
def ge0 : Shp → Shp → Bool
  | .X, .X => true
  | .Q, .Q => true
  | .A, .A => true | .A, .F => true | .A, .Q => true
  | .F, .F => true | .F, .Q => true
  | .O s, .O t => ge0 s t
  | .K s, .K t => ge0 s t
  | .T s, .T t => ge0 s t
  | _, _ => false
theorem Ow.ge0 : ∀ {s t : Shp} {d : D} {v : V} {fp : List Addr}, ge0 s t = true → Ow K F H s d v fp → Ow K F H t d v fp := by
  intro s
  induction s with
  | X => intro t d v fp g h; cases t <;> simp [VC.ge0] at g; exact h
  | Q => intro t d v fp g h; cases t <;> simp [VC.ge0] at g; exact h
  | A =>
    intro t d v fp g h
    cases t <;> simp [VC.ge0] at g
    · simp only [Ow] at h ⊢; exact ⟨h.1, (Rf.rp _ _ h.2.2)⟩
    · exact h
    · simp only [Ow] at h ⊢; exact ⟨h.1, h.2.2⟩
  | F =>
    intro t d v fp g h
    cases t <;> simp [VC.ge0] at g
    · simp only [Ow] at h ⊢; exact ⟨h.1, (Rf.rp _ _ h.2)⟩
    · exact h
  | O s ih =>
    intro t d v fp g h
    cases t <;> simp [VC.ge0] at g
    simp only [Ow] at h ⊢
    obtain ⟨b, vs, ds, fps, rfl, rfl, h1, h2, h4, h3, rfl⟩ := h
    exact ⟨b, vs, ds, fps, rfl, rfl, h1, h2, h4, h3.imp fun d v f hf q => ih g q, rfl⟩
  | K s ih =>
    intro t d v fp g h
    cases t <;> simp [VC.ge0] at g
    simp only [Ow] at h ⊢
    obtain ⟨b, kvs, ks, ds, fps, rfl, rfl, h1, h2, h4, h5, h6, h3, rfl⟩ := h
    exact ⟨b, kvs, ks, ds, fps, rfl, rfl, h1, h2, h4, h5, h6, h3.imp fun d v f hf q => ih g q, rfl⟩
  | T s ih =>
    intro t d v fp g h
    cases t <;> simp [VC.ge0] at g
    simp only [Ow] at h ⊢
    obtain ⟨b, kvs, ks, ds, fps, rfl, rfl, h1, h2, h4, h5, h6, h3, rfl⟩ := h
    exact ⟨b, kvs, ks, ds, fps, rfl, rfl, h1, h2, h4, h5, h6, h3.imp fun d v f hf q => ih g q, rfl⟩
  | I c ss => intro t d v fp g h; simp only [Ow] at h
  | N => intro t d v fp g h; simp only [Ow] at h
  | C s r => intro t d v fp g h; simp only [Ow] at h
/-- what may be frozen -/
def frzOk : Shp → Bool
  | .A => true | .F => true
  | .O s => frzOk s | .K s => frzOk s | .T s => frzOk s
  | _ => false
open Classical in
/-- the objects fp of H frozen, too -/
noncomputable def addF (F H : Hp) (fp : List Addr) : Hp := fun a => if a ∈ fp then H a else F a
theorem addF_in {fp : List Addr} {a : Addr} (h : a ∈ fp) : addF F H fp a = H a := by unfold addF; rw [if_pos h]
theorem addF_out {fp : List Addr} {a : Addr} (h : a ∉ fp) : addF F H fp a = F a := by unfold addF; rw [if_neg h]
theorem addF_sub {fp : List Addr} (s : Sub F H) : Sub F (addF F H fp) := fun a o h => by
  by_cases z : a ∈ fp
  · rw [addF_in z]; exact s a o h
  · rw [addF_out z]; exact h
theorem addF_le {fp : List Addr} (s : Sub F H) : Sub (addF F H fp) H := fun a o h => by
  by_cases z : a ∈ fp
  · rw [addF_in z] at h; exact h
  · rw [addF_out z] at h; exact s a o h
theorem addF_mono {fp gp : List Addr} (s : Sub F H) (k : ∀ a ∈ fp, a ∈ gp) : Sub (addF F H fp) (addF F H gp) := fun a o h => by
  by_cases z : a ∈ gp
  · rw [addF_in z]; exact addF_le s a o h
  · rw [addF_out z]; rw [addF_out fun q => z (k a q)] at h; exact h
theorem addF_nil : addF F H [] = F := by funext a; exact addF_out (by simp)
/-- what is owned is frozen when its objects are -/
theorem Ow.frz (sF : Sub F H) : ∀ {s : Shp} {d : D} {v : V} {fp : List Addr}, frzOk s = true → Ow K F H s d v fp → Rf (addF F H fp) d v := by
  have many : ∀ {R : D → V → List Addr → Prop}, (∀ {d v fp}, R d v fp → Rf (addF F H fp) d v) → ∀ {ds : List D} {vs : List V} {fp gp : List Addr}, Ows R ds vs fp → (∀ a ∈ fp, a ∈ gp) → Rfs (addF F H gp) ds vs := by
    intro R hR ds
    induction ds with
    | nil => intro vs fp gp h _; exact h.1
    | cons d ds ih =>
      intro vs fp gp h k
      obtain ⟨v, r, f1, f2, rfl, rfl, h1, h2⟩ := h
      exact ⟨v, r, rfl, Rf.sub (addF_mono sF fun a z => k a (List.mem_append_left _ z)) _ _ (hR h1), ih h2 fun a z => k a (List.mem_append_right _ z)⟩
  intro s
  induction s with
  | X => intro d v fp g h; cases g
  | Q => intro d v fp g h; cases g
  | A => intro d v fp g h; simp only [Ow] at h; exact Rf.sub (addF_sub sF) _ _ h.2.2
  | F => intro d v fp g h; simp only [Ow] at h; exact Rf.sub (addF_sub sF) _ _ h.2
  | O s ih =>
    intro d v fp g h
    simp only [Ow] at h
    obtain ⟨b, vs, ds, fps, rfl, rfl, h1, h2, h4, h3, rfl⟩ := h
    simp only [Rf]
    exact ⟨b, vs, rfl, by rw [addF_in List.mem_cons_self]; exact h1, h4, many (ih g) h3 fun a z => List.mem_cons_of_mem _ z⟩
  | K s ih =>
    intro d v fp g h
    simp only [Ow] at h
    obtain ⟨b, kvs, ks, ds, fps, rfl, rfl, h1, h2, h4, h5, h6, h3, rfl⟩ := h
    simp only [Rf]
    exact ⟨b, kvs, rfl, by rw [addF_in List.mem_cons_self]; exact h1, h4, h5, h6, many (ih g) h3 fun a z => List.mem_cons_of_mem _ z⟩
  | T s ih =>
    intro d v fp g h
    simp only [Ow] at h
    obtain ⟨b, kvs, ks, ds, fps, rfl, rfl, h1, h2, h4, h5, h6, h3, rfl⟩ := h
    simp only [Rf]
    exact ⟨b, kvs, rfl, by rw [addF_in List.mem_cons_self]; exact h1, h4, h5, h6, many (ih g) h3 fun a z => List.mem_cons_of_mem _ z⟩
  | I c ss => intro d v fp g h; cases g
  | N => intro d v fp g h; cases g
  | C s r => intro d v fp g h; cases g
/-- whatever the shape, it may be read -/
def rdOk : Shp → Bool
  | .X => false | .Q => true | .A => true | .F => true
  | .O s => rdOk s | .K s => rdOk s | .T s => rdOk s
  | _ => false
theorem Ow.rp (sF : Sub F H) : ∀ {s : Shp} {d : D} {v : V} {fp : List Addr}, rdOk s = true → Ow K F H s d v fp → Rp K H d v := by
  have many : ∀ {R : D → V → List Addr → Prop}, (∀ {d v fp}, R d v fp → Rp K H d v) → ∀ {ds : List D} {vs : List V} {fp : List Addr}, Ows R ds vs fp → Rps K H ds vs := by
    intro R hR ds
    induction ds with
    | nil => intro vs fp h; exact h.1
    | cons d ds ih =>
      intro vs fp h
      obtain ⟨v, r, f1, f2, rfl, rfl, h1, h2⟩ := h
      exact ⟨v, r, rfl, hR h1, ih h2⟩
  intro s
  induction s with
  | X => intro d v fp g h; cases g
  | Q => intro d v fp g h; simp only [Ow] at h; exact Rp.sub sF _ _ h.2
  | A => intro d v fp g h; simp only [Ow] at h; exact Rp.sub sF _ _ (Rf.rp _ _ h.2.2)
  | F => intro d v fp g h; simp only [Ow] at h; exact Rp.sub sF _ _ (Rf.rp _ _ h.2)
  | O s ih =>
    intro d v fp g h
    simp only [Ow] at h
    obtain ⟨b, vs, ds, fps, rfl, rfl, h1, h2, h4, h3, rfl⟩ := h
    simp only [Rp]
    exact ⟨b, vs, rfl, SqL.of h1, h4, many (ih g) h3⟩
  | K s ih =>
    intro d v fp g h
    simp only [Ow] at h
    obtain ⟨b, kvs, ks, ds, fps, rfl, rfl, h1, h2, h4, h5, h6, h3, rfl⟩ := h
    simp only [Rp]
    exact ⟨b, kvs, rfl, h1, h4, h5, h6, many (ih g) h3⟩
  | T s ih =>
    intro d v fp g h
    simp only [Ow] at h
    obtain ⟨b, kvs, ks, ds, fps, rfl, rfl, h1, h2, h4, h5, h6, h3, rfl⟩ := h
    simp only [Rp]
    exact ⟨b, kvs, rfl, h1, h4, h5, h6, many (ih g) h3⟩
  | I c ss => intro d v fp g h; cases g
  | N => intro d v fp g h; cases g
  | C s r => intro d v fp g h; cases g
end
end VC
end

section
set_option Elab.async false
set_option linter.all false
set_option autoImplicit false
set_option maxRecDepth 100000
/-! VC3: the state of a body: its names, what is owned, what is frozen; frames; what an expression, a test, an argument list is to do. -/
namespace VC
open PySem PySem.Spec L2

/-! ### frames -/
/-- from (F, H) to (F', H'): what stands outside P is kept -/
structure Fr (P : List Addr) (F H F' H' : Hp) : Prop where
  keep : ∀ a o, a ∉ P → H a = some o → H' a = some o
  dom : ∀ a o, H a = some o → ∃ o', H' a = some o'
  fs : Sub F F'
  fnew : ∀ a o, F' a = some o → F a = some o ∨ a ∈ P ∨ H a = none
section
variable {P P' : List Addr} {F H F1 H1 F2 H2 : Hp}
theorem Fr.refl : Fr P F H F H := ⟨fun _ _ _ h => h, fun _ o h => ⟨o, h⟩, Sub.refl _, fun _ _ h => .inl h⟩
theorem Fr.gone (f : Fr P F H F1 H1) {a : Addr} (h : H1 a = none) : H a = none := by
  cases e : H a with
  | none => rfl
  | some o => obtain ⟨o', e'⟩ := f.dom a o e; rw [h] at e'; cases e'
theorem Fr.trans (f : Fr P F H F1 H1) (g : Fr P' F1 H1 F2 H2) (k : ∀ a ∈ P', a ∈ P ∨ H a = none) : Fr P F H F2 H2 where
  keep := fun a o n h => g.keep a o (fun z => (k a z).elim n fun q => by rw [q] at h; cases h) (f.keep a o n h)
  dom := fun a o h => by obtain ⟨o', e⟩ := f.dom a o h; exact g.dom a o' e
  fs := f.fs.trans g.fs
  fnew := fun a o h => by
    rcases g.fnew a o h with z | z | z
    · exact f.fnew a o z
    · exact .inr (k a z)
    · exact .inr (.inr (f.gone z))
theorem Fr.mono (f : Fr P F H F1 H1) (k : ∀ a ∈ P, a ∈ P') : Fr P' F H F1 H1 where
  keep := fun a o n h => f.keep a o (fun z => n (k a z)) h
  dom := f.dom
  fs := f.fs
  fnew := fun a o h => (f.fnew a o h).imp id fun z => z.imp (k a) id
/-- a new object -/
theorem Fr.new {p : Addr} {o : HO} (n : H p = none) : Fr P F H F (upd H p o) where
  keep := fun a u _ h => by rw [upd_ne (ne_of_none h n)]; exact h
  dom := fun a u h => ⟨u, by rw [upd_ne (ne_of_none h n)]; exact h⟩
  fs := Sub.refl _
  fnew := fun _ _ h => .inl h
/-- a new object, frozen -/
theorem Fr.newF {p : Addr} {o : HO} (n : H p = none) (s : Sub F H) : Fr P F H (upd F p o) (upd H p o) where
  keep := fun a u _ h => by rw [upd_ne (ne_of_none h n)]; exact h
  dom := fun a u h => ⟨u, by rw [upd_ne (ne_of_none h n)]; exact h⟩
  fs := fun a u h => by rw [upd_ne (ne_of_none (s a u h) n)]; exact h
  fnew := fun a u h => by
    by_cases e : a = p
    · subst e; exact .inr (.inr n)
    · rw [upd_ne e] at h; exact .inl h
/-- objects are frozen -/
theorem Fr.frz {fv : List Addr} (s : Sub F H) (k : ∀ a ∈ fv, a ∈ P ∨ H a = none) : Fr P F H (addF F H fv) H where
  keep := fun _ _ _ h => h
  dom := fun _ o h => ⟨o, h⟩
  fs := addF_sub s
  fnew := fun a o h => by
    by_cases z : a ∈ fv
    · exact .inr (k a z)
    · rw [addF_out z] at h; exact .inl h
/-- an owned object is written -/
theorem Fr.write {p : Addr} {o : HO} (h : p ∈ P) : Fr P F H F (upd H p o) where
  keep := fun a u n h' => by
    have ne : a ≠ p := fun e => n (by rw [e]; exact h)
    rw [upd_ne ne]; exact h'
  dom := fun a u h' => by
    by_cases e : a = p
    · subst e; exact ⟨o, upd_same⟩
    · exact ⟨u, by rw [upd_ne e]; exact h'⟩
  fs := Sub.refl _
  fnew := fun _ _ h => .inl h
end

/-! ### the names of a body -/
abbrev Fps := List (List Addr)
theorem nd_set {gv : List Addr} : ∀ {fp : Fps} {i : Nat} {f : List Addr}, fp.flatten.Nodup → fp[i]? = some f → gv.Nodup → (∀ a ∈ gv, a ∈ fp.flatten → a ∈ f) → (fp.set i gv).flatten.Nodup
  | [], _, _, _, e, _, _ => by simp at e
  | f0 :: r, 0, f, nd, e, ng, k => by
    simp only [List.flatten_cons] at nd k
    simp at e; subst e
    obtain ⟨n1, n2, n3⟩ := List.nodup_append.mp nd
    simp only [List.set_cons_zero, List.flatten_cons]
    exact List.nodup_append.mpr ⟨ng, n2, fun a ha b hb e => by subst e; exact n3 a (k a ha (List.mem_append_right _ hb)) a hb rfl⟩
  | f0 :: r, i + 1, f, nd, e, ng, k => by
    simp only [List.flatten_cons] at nd k
    obtain ⟨n1, n2, n3⟩ := List.nodup_append.mp nd
    have e' : r[i]? = some f := by simpa using e
    have fr : ∀ a ∈ f, a ∈ r.flatten := fun a h => List.mem_flatten.mpr ⟨f, List.mem_of_getElem? e', h⟩
    simp only [List.set_cons_succ, List.flatten_cons]
    refine List.nodup_append.mpr ⟨n1, nd_set n2 e' ng fun a h1 h2 => k a h1 (List.mem_append_right _ h2), fun a ha b hb e => ?_⟩
    subst e
    obtain ⟨g, hg, hag⟩ := List.mem_flatten.mp hb
    rcases List.mem_or_eq_of_mem_set hg with z | z
    · exact n3 a ha a (List.mem_flatten.mpr ⟨g, z, hag⟩) rfl
    · subst z; exact n3 a ha a (fr a (k a hag (List.mem_append_left _ ha))) rfl
theorem mem_set {gv : List Addr} {a : Addr} : ∀ {fp : Fps} {i : Nat} {f : List Addr}, fp.flatten.Nodup → fp[i]? = some f → a ∈ (fp.set i gv).flatten → (a ∈ fp.flatten ∧ a ∉ f) ∨ a ∈ gv
  | [], _, _, _, e, _ => by simp at e
  | f0 :: r, 0, f, nd, e, h => by
    simp only [List.flatten_cons] at nd
    simp at e; subst e
    obtain ⟨n1, n2, n3⟩ := List.nodup_append.mp nd
    simp only [List.set_cons_zero, List.flatten_cons] at h ⊢
    rcases List.mem_append.mp h with z | z
    · exact .inr z
    · exact .inl ⟨List.mem_append_right _ z, fun q => n3 a q a z rfl⟩
  | f0 :: r, i + 1, f, nd, e, h => by
    simp only [List.flatten_cons] at nd
    obtain ⟨n1, n2, n3⟩ := List.nodup_append.mp nd
    have e' : r[i]? = some f := by simpa using e
    have fr : ∀ a ∈ f, a ∈ r.flatten := fun a h => List.mem_flatten.mpr ⟨f, List.mem_of_getElem? e', h⟩
    simp only [List.set_cons_succ, List.flatten_cons] at h ⊢
    rcases List.mem_append.mp h with z | z
    · exact .inl ⟨List.mem_append_left _ z, fun q => n3 a z a (fr a q) rfl⟩
    · rcases mem_set n2 e' z with y | y
      · exact .inl ⟨List.mem_append_right _ y.1, y.2⟩
      · exact .inr y
theorem mem_at {fp : Fps} {i : Nat} {f : List Addr} {a : Addr} (e : fp[i]? = some f) (h : a ∈ f) : a ∈ fp.flatten := List.mem_flatten.mpr ⟨f, List.mem_of_getElem? e, h⟩
theorem nd_at : ∀ {fp : Fps} {i : Nat} {f : List Addr}, fp.flatten.Nodup → fp[i]? = some f → f.Nodup
  | [], _, _, _, e => by simp at e
  | f0 :: r, 0, f, nd, e => by
    simp at e; subst e
    rw [List.flatten_cons] at nd
    exact (List.nodup_append.mp nd).1
  | f0 :: r, i + 1, f, nd, e => by
    rw [List.flatten_cons] at nd
    exact nd_at (List.nodup_append.mp nd).2.1 (by simpa using e)
/-- two names' parts are apart -/
theorem at_apart : ∀ {fp : Fps} {i j : Nat} {f g : List Addr} {a : Addr}, fp.flatten.Nodup → fp[i]? = some f → fp[j]? = some g → i ≠ j → a ∈ f → a ∉ g
  | [], _, _, _, _, _, _, e, _, _, _ => by simp at e
  | f0 :: r, 0, 0, _, _, _, _, _, _, n, _ => absurd rfl n
  | f0 :: r, 0, j + 1, f, g, a, nd, e1, e2, _, h => fun q => by
    simp only [List.flatten_cons] at nd
    simp at e1; subst e1
    exact (List.nodup_append.mp nd).2.2 a h a (mem_at (by simpa using e2) q) rfl
  | f0 :: r, i + 1, 0, f, g, a, nd, e1, e2, _, h => fun q => by
    simp only [List.flatten_cons] at nd
    simp at e2; subst e2
    exact (List.nodup_append.mp nd).2.2 a q a (mem_at (by simpa using e1) h) rfl
  | f0 :: r, i + 1, j + 1, f, g, a, nd, e1, e2, n, h => by
    simp only [List.flatten_cons] at nd
    exact at_apart (List.nodup_append.mp nd).2.1 (by simpa using e1) (by simpa using e2) (fun z => n (by rw [z])) h
def Slot (K : PySem.W.Frag) (F H : Hp) (s : Shp) : Option D → Option V → List Addr → Prop
  | none, _, fp => fp = []
  | some d, w, fp => (s = .X ∧ fp = []) ∨ ∃ v, w = some v ∧ Ow K F H s d v fp
def RelE (K : PySem.W.Frag) (F H : Hp) : SEnv → Env → L2.St → Fps → Prop
  | [], env, σ, fp => env = [] ∧ σ = [] ∧ fp = []
  | s :: Γ, env, σ, fp => ∃ o e2 w σ2 f1 f2, env = o :: e2 ∧ σ = w :: σ2 ∧ fp = f1 :: f2 ∧ Slot K F H s o w f1 ∧ RelE K F H Γ e2 σ2 f2
section
variable {K : PySem.W.Frag} {F F' H H' : Hp}
theorem Slot.dom {s : Shp} {o : Option D} {w : Option V} {fp : List Addr} (h : Slot K F H s o w fp) : ∀ a ∈ fp, (∃ o, H a = some o ∧ ∀ xs, o ≠ .tup xs) ∧ F a = none := by
  intro a ha
  cases o with
  | none => have e : fp = [] := h; subst e; simp at ha
  | some d =>
    rcases h with ⟨_, e⟩ | ⟨v, _, h⟩
    · subst e; simp at ha
    · exact h.dom a ha
theorem Slot.keep (sF : Sub F F') {s : Shp} {o : Option D} {w : Option V} {fp : List Addr} (h : Slot K F H s o w fp) (k : ∀ a ∈ fp, H' a = H a ∧ F' a = none) : Slot K F' H' s o w fp := by
  cases o with
  | none => exact h
  | some d =>
    rcases h with h | ⟨v, e, h⟩
    · exact .inl h
    · exact .inr ⟨v, e, h.keep sF k⟩
theorem RelE.dom : ∀ {Γ : SEnv} {env : Env} {σ : L2.St} {fp : Fps}, RelE K F H Γ env σ fp → ∀ a ∈ fp.flatten, (∃ o, H a = some o ∧ ∀ xs, o ≠ .tup xs) ∧ F a = none
  | [], _, _, _, h, a, ha => by obtain ⟨_, _, rfl⟩ := h; simp at ha
  | s :: Γ, _, _, _, h, a, ha => by
    obtain ⟨o, e2, w, σ2, f1, f2, rfl, rfl, rfl, h1, h2⟩ := h
    rw [List.flatten_cons] at ha
    rcases List.mem_append.mp ha with z | z
    · exact h1.dom a z
    · exact RelE.dom h2 a z
theorem RelE.keep (sF : Sub F F') : ∀ {Γ : SEnv} {env : Env} {σ : L2.St} {fp : Fps}, RelE K F H Γ env σ fp → (∀ a ∈ fp.flatten, H' a = H a ∧ F' a = none) → RelE K F' H' Γ env σ fp
  | [], _, _, _, h, _ => h
  | s :: Γ, _, _, _, h, k => by
    obtain ⟨o, e2, w, σ2, f1, f2, rfl, rfl, rfl, h1, h2⟩ := h
    rw [List.flatten_cons] at k
    exact ⟨o, e2, w, σ2, f1, f2, rfl, rfl, rfl, h1.keep sF fun a z => k a (List.mem_append_left _ z), RelE.keep sF h2 fun a z => k a (List.mem_append_right _ z)⟩
theorem RelE.len : ∀ {Γ : SEnv} {env : Env} {σ : L2.St} {fp : Fps}, RelE K F H Γ env σ fp → env.length = Γ.length ∧ σ.length = Γ.length ∧ fp.length = Γ.length
  | [], _, _, _, h => by obtain ⟨rfl, rfl, rfl⟩ := h; exact ⟨rfl, rfl, rfl⟩
  | s :: Γ, _, _, _, h => by
    obtain ⟨o, e2, w, σ2, f1, f2, rfl, rfl, rfl, h1, h2⟩ := h
    obtain ⟨a, b, c⟩ := RelE.len h2
    exact ⟨by simp [a], by simp [b], by simp [c]⟩
/-- a name is read -/
theorem RelE.get : ∀ {Γ : SEnv} {env : Env} {σ : L2.St} {fp : Fps} {i : Nat} {s : Shp} {d : D}, RelE K F H Γ env σ fp → Γ[i]? = some s → s ≠ .X → env[i]? = some (some d) →
    ∃ v fv, σ[i]? = some (some v) ∧ fp[i]? = some fv ∧ Ow K F H s d v fv
  | [], _, _, _, _, _, _, _, e, _, _ => by simp at e
  | s :: Γ, _, _, _, 0, t, d, h, e, n, q => by
    obtain ⟨o, e2, w, σ2, f1, f2, rfl, rfl, rfl, h1, h2⟩ := h
    simp at e q; subst e; subst q
    rcases h1 with ⟨z, _⟩ | ⟨v, rfl, h1⟩
    · exact absurd z n
    · exact ⟨v, f1, by simp, by simp, h1⟩
  | s :: Γ, _, _, _, i + 1, t, d, h, e, n, q => by
    obtain ⟨o, e2, w, σ2, f1, f2, rfl, rfl, rfl, h1, h2⟩ := h
    obtain ⟨v, fv, a1, a2, a3⟩ := RelE.get (i := i) h2 (by simpa using e) n (by simpa using q)
    exact ⟨v, fv, by simpa using a1, by simpa using a2, a3⟩
/-- a name is stored -/
theorem RelE.set : ∀ {Γ : SEnv} {env : Env} {σ : L2.St} {fp : Fps} {i : Nat} {s : Shp} {o : Option D} {w : Option V} {fv : List Addr}, RelE K F H Γ env σ fp → i < Γ.length → Slot K F H s o w fv →
    RelE K F H (Γ.set i s) (env.set i o) (σ.set i w) (fp.set i fv)
  | [], _, _, _, _, _, _, _, _, _, l, _ => by simp at l
  | s :: Γ, _, _, _, 0, t, _, _, fv, h, l, hs => by
    obtain ⟨o, e2, w, σ2, f1, f2, rfl, rfl, rfl, h1, h2⟩ := h
    exact ⟨_, e2, _, σ2, fv, f2, rfl, rfl, rfl, hs, h2⟩
  | s :: Γ, _, _, _, i + 1, t, _, _, fv, h, l, hs => by
    obtain ⟨o, e2, w, σ2, f1, f2, rfl, rfl, rfl, h1, h2⟩ := h
    exact ⟨o, _, w, _, f1, _, rfl, rfl, rfl, h1, RelE.set (i := i) h2 (by simpa using l) hs⟩
/-- one name's part is changed, the others stay -/
theorem RelE.upd (sF : Sub F F') : ∀ {Γ : SEnv} {env : Env} {σ : L2.St} {fp : Fps} {i : Nat} {s : Shp} {o : Option D} {w : Option V} {f fv : List Addr}, RelE K F H Γ env σ fp → fp.flatten.Nodup → fp[i]? = some f → (∀ a ∈ fp.flatten, a ∉ f → H' a = H a ∧ F' a = none) →
    σ[i]? = some w → Slot K F' H' s o w fv → RelE K F' H' (Γ.set i s) (env.set i o) σ (fp.set i fv)
  | [], _, _, _, _, _, _, _, _, _, h, _, e, _, _, _ => by obtain ⟨rfl, rfl, rfl⟩ := h; simp at e
  | s :: Γ, _, _, _, 0, t, _, _, f, fv, h, nd, e, k, hw, hs => by
    obtain ⟨o, e2, w, σ2, f1, f2, rfl, rfl, rfl, h1, h2⟩ := h
    simp at e hw; subst e; subst hw
    rw [List.flatten_cons] at nd k
    refine ⟨_, e2, _, σ2, fv, f2, rfl, rfl, rfl, hs, RelE.keep sF h2 fun a z => k a (List.mem_append_right _ z) fun q => (List.nodup_append.mp nd).2.2 a q a z rfl⟩
  | s :: Γ, _, _, _, i + 1, t, _, _, f, fv, h, nd, e, k, hw, hs => by
    obtain ⟨o, e2, w, σ2, f1, f2, rfl, rfl, rfl, h1, h2⟩ := h
    rw [List.flatten_cons] at nd k
    have e' : f2[i]? = some f := by simpa using e
    obtain ⟨n1, n2, n3⟩ := List.nodup_append.mp nd
    exact ⟨o, _, w, _, f1, _, rfl, rfl, rfl, h1.keep sF fun a z => k a (List.mem_append_left _ z) fun q => n3 a z a (mem_at e' q) rfl,
      RelE.upd (i := i) sF h2 n2 e' (fun a z y => k a (List.mem_append_right _ z) y) (by simpa using hw) hs⟩
end

/-! ### the state -/
/-- where a body began -/
structure Bs where
  F : Hp
  H : Hp
  fp : List Addr
  σ : L2.St
  ios : List Nat
structure Rel (K : PySem.W.Frag) (B : Bs) (Γ : SEnv) (env : Env) (F : Hp) (fp : Fps) (σ : L2.St) (H : Hp) : Prop where
  e : RelE K F H Γ env σ fp
  nd : fp.flatten.Nodup
  sub : Sub F H
  tup : Tups H F
  fr : Fr B.fp B.F B.H F H
  new : ∀ a ∈ fp.flatten, a ∈ B.fp ∨ B.H a = none
  io : ∀ i ∈ B.ios, σ[i]? = B.σ[i]?
def PP (p : Bool) (fp : Fps) : List Addr := if p = true then [] else fp.flatten
/-- from (fp, F, H) to (fp', F', H'); p: nothing owned is changed -/
structure Aft (p : Bool) (env : Env) (fp : Fps) (F H : Hp) (env' : Env) (fp' : Fps) (F' H' : Hp) : Prop where
  fr : Fr (PP p fp) F H F' H'
  same : p = true → fp' = fp ∧ env' = env
  sub : ∀ a ∈ fp'.flatten, a ∈ fp.flatten ∨ H a = none
/-- a value that an expression hands on; b: it is a part of what the name b owns -/
structure VOk (K : PySem.W.Frag) (σ : L2.St) (env' : Env) (s : Shp) (b : Option Nat) (p : Bool) (fp : Fps) (H : Hp) (d : D) (v : V) (F' H' : Hp) (fp' : Fps) (fv : List Addr) : Prop where
  ow : Ow K F' H' s d v fv
  nd : fv.Nodup
  own : b = none → ∀ a ∈ fv, a ∉ fp'.flatten ∧ (a ∈ PP p fp ∨ H a = none)
  bor : ∀ i, b = some i → fp'[i]? = some fv ∧ σ[i]? = some (some v) ∧ env'[i]? = some (some d)
section
variable {K : PySem.W.Frag} {B : Bs} {Γ : SEnv} {env env1 env2 : Env} {F F1 F2 H H1 H2 : Hp} {fp fp1 fp2 : Fps} {fv : List Addr} {σ : L2.St} {p p1 p2 : Bool} {b : Option Nat} {s : Shp} {d : D} {v : V}
theorem PP_and_l {a : Addr} (h : a ∈ PP p1 fp) : a ∈ PP (p1 && p2) fp := by
  cases p1
  · simpa [PP] using h
  · simp [PP] at h
theorem PP_imp {a : Addr} (k : p = true → p1 = true) (h : a ∈ PP p1 fp) : a ∈ PP p fp := by
  cases p1
  · cases p
    · exact h
    · exact absurd (k rfl) (by decide)
  · simp [PP] at h
theorem Aft.refl : Aft p env fp F H env fp F H := ⟨Fr.refl, fun _ => ⟨rfl, rfl⟩, fun _ h => .inl h⟩
theorem Aft.trans (f : Aft p1 env fp F H env1 fp1 F1 H1) (g : Aft p2 env1 fp1 F1 H1 env2 fp2 F2 H2) : Aft (p1 && p2) env fp F H env2 fp2 F2 H2 where
  fr := by
    refine (f.fr.mono fun a h => PP_and_l h).trans g.fr fun a h => ?_
    cases p2 with
    | true => simp [PP] at h
    | false =>
      simp only [PP, Bool.and_false] at h ⊢
      exact f.sub a (by simpa using h)
  same := fun h => by
    simp only [Bool.and_eq_true] at h
    obtain ⟨a, b⟩ := g.same h.2
    obtain ⟨c, d⟩ := f.same h.1
    exact ⟨a.trans c, b.trans d⟩
  sub := fun a h => (g.sub a h).elim (f.sub a) fun z => .inr (f.fr.gone z)
theorem Aft.weak (f : Aft p1 env fp F H env1 fp1 F1 H1) (h : p = true → p1 = true) : Aft p env fp F H env1 fp1 F1 H1 where
  fr := f.fr.mono fun a q => PP_imp h q
  same := fun z => f.same (h z)
  sub := f.sub
theorem Rel.dom (r : Rel K B Γ env F fp σ H) : ∀ a ∈ fp.flatten, (∃ o, H a = some o ∧ ∀ xs, o ≠ .tup xs) ∧ F a = none := r.e.dom
theorem Rel.notin (r : Rel K B Γ env F fp σ H) {q : Addr} (n : H q = none) : q ∉ fp.flatten := fun h => by
  obtain ⟨⟨o, e, _⟩, _⟩ := r.dom q h
  rw [n] at e; cases e
theorem Rel.notF (r : Rel K B Γ env F fp σ H) {q : Addr} (n : H q = none) : F q = none := by
  cases e : F q with
  | none => rfl
  | some o => have := r.sub q o e; rw [n] at this; cases this
/-- what is new now was new at the beginning -/
theorem Rel.gone (r : Rel K B Γ env F fp σ H) {a : Addr} (h : H a = none) : B.H a = none := r.fr.gone h
theorem Rel.pnew (r : Rel K B Γ env F fp σ H) {a : Addr} (h : a ∈ PP p fp ∨ H a = none) : a ∈ B.fp ∨ B.H a = none := by
  rcases h with h | h
  · cases p
    · exact r.new a (by simpa [PP] using h)
    · simp [PP] at h
  · exact .inr (r.gone h)
/-- a new object (owned by whoever gets it) -/
theorem Rel.push (r : Rel K B Γ env F fp σ H) {q : Addr} {o : HO} (n : H q = none) (nt : ∀ xs, o ≠ .tup xs) : Rel K B Γ env F fp σ (upd H q o) where
  e := r.e.keep (Sub.refl _) fun a h => ⟨upd_ne fun e => r.notin n (e ▸ h), (r.dom a h).2⟩
  nd := r.nd
  sub := fun a u h => by rw [upd_ne (ne_of_none (r.sub a u h) n)]; exact r.sub a u h
  tup := fun a xs h => by
    by_cases e : a = q
    · subst e; rw [upd_same] at h; exact absurd (Option.some.inj h) (nt xs)
    · rw [upd_ne e] at h; exact r.tup a xs h
  fr := r.fr.trans (P' := []) (Fr.new n) fun a h => by simp at h
  new := r.new
  io := r.io
theorem Aft.push {q : Addr} {o : HO} (f : Aft p env fp F H env1 fp1 F1 H1) (n : H1 q = none) : Aft p env fp F H env1 fp1 F1 (upd H1 q o) where
  fr := f.fr.trans (P' := []) (Fr.new n) fun a h => by simp at h
  same := f.same
  sub := f.sub
/-- a new object, frozen at once -/
theorem Rel.pushF (r : Rel K B Γ env F fp σ H) {q : Addr} {o : HO} (n : H q = none) : Rel K B Γ env (upd F q o) fp σ (upd H q o) where
  e := r.e.keep (fun a u h => by rw [upd_ne (ne_of_none (r.sub a u h) n)]; exact h) fun a h => by
    have ne : a ≠ q := fun e => r.notin n (e ▸ h)
    exact ⟨upd_ne ne, by rw [upd_ne ne]; exact (r.dom a h).2⟩
  nd := r.nd
  sub := fun a u h => by
    by_cases e : a = q
    · subst e; rw [upd_same] at h ⊢; exact h
    · rw [upd_ne e] at h ⊢; exact r.sub a u h
  tup := fun a xs h => by
    by_cases e : a = q
    · subst e; rw [upd_same] at h ⊢; exact h
    · rw [upd_ne e] at h ⊢; exact r.tup a xs h
  fr := r.fr.trans (P' := []) (Fr.newF n r.sub) fun a h => by simp at h
  new := r.new
  io := r.io
theorem Rel.pushF_sub (r : Rel K B Γ env F fp σ H) {q : Addr} {o : HO} (n : H q = none) : Sub F (upd F q o) := fun a u h => by rw [upd_ne (ne_of_none (r.sub a u h) n)]; exact h
theorem Aft.pushF {q : Addr} {o : HO} (f : Aft p env fp F H env1 fp1 F1 H1) (n : H1 q = none) (s : Sub F1 H1) : Aft p env fp F H env1 fp1 (upd F1 q o) (upd H1 q o) where
  fr := f.fr.trans (P' := []) (Fr.newF n s) fun a h => by simp at h
  same := f.same
  sub := f.sub
/-- a value's own objects are frozen -/
theorem Rel.freeze (r : Rel K B Γ env F fp σ H) (k : ∀ a ∈ fv, a ∉ fp.flatten ∧ (a ∈ B.fp ∨ B.H a = none)) : Rel K B Γ env (addF F H fv) fp σ H where
  e := r.e.keep (addF_sub r.sub) fun a h => ⟨rfl, by rw [addF_out fun z => (k a z).1 h]; exact (r.dom a h).2⟩
  nd := r.nd
  sub := addF_le r.sub
  tup := fun a xs h => by
    by_cases z : a ∈ fv
    · rw [addF_in z]; exact h
    · rw [addF_out z]; exact r.tup a xs h
  fr := ⟨r.fr.keep, r.fr.dom, r.fr.fs.trans (addF_sub r.sub), fun a o h => by
    by_cases z : a ∈ fv
    · exact .inr (k a z).2
    · rw [addF_out z] at h; exact r.fr.fnew a o h⟩
  new := r.new
  io := r.io
theorem Aft.freeze (f : Aft p env fp F H env1 fp1 F1 H1) (s : Sub F1 H1) (k : ∀ a ∈ fv, a ∈ PP p fp ∨ H a = none) : Aft p env fp F H env1 fp1 (addF F1 H1 fv) H1 where
  fr := ⟨f.fr.keep, f.fr.dom, f.fr.fs.trans (addF_sub s), fun a o h => by
    by_cases z : a ∈ fv
    · exact .inr (k a z)
    · rw [addF_out z] at h; exact f.fr.fnew a o h⟩
  same := f.same
  sub := f.sub
/-- a value stays while something else is reckoned -/
theorem VOk.stay (v1 : VOk K σ env1 s b p1 fp H d v F1 H1 fp1 fv) (g : Aft p2 env1 fp1 F1 H1 env2 fp2 F2 H2) (hb : b ≠ none → p2 = true) : VOk K σ env2 s b (p1 && p2) fp H d v F2 H2 fp2 fv where
  ow := v1.ow.keep g.fr.fs fun a h => by
    obtain ⟨⟨o, e, _⟩, n⟩ := v1.ow.dom a h
    have np : a ∉ PP p2 fp1 := fun z => by
      cases p2 with
      | true => simp [PP] at z
      | false =>
        cases b with
        | some i => exact absurd (hb (by simp)) (by decide)
        | none => exact (v1.own rfl a h).1 (by simpa [PP] using z)
    refine ⟨(g.fr.keep a o np e).trans e.symm, ?_⟩
    cases q : F2 a with
    | none => rfl
    | some u =>
      rcases g.fr.fnew a u q with z | z | z
      · rw [n] at z; cases z
      · exact absurd z np
      · rw [e] at z; cases z
  nd := v1.nd
  own := fun h a z => by
    obtain ⟨n1, n2⟩ := v1.own h a z
    refine ⟨fun q => ?_, n2.imp (fun y => PP_and_l y) id⟩
    rcases g.sub a q with y | y
    · exact n1 y
    · obtain ⟨⟨o, e, _⟩, _⟩ := v1.ow.dom a z
      rw [y] at e; cases e
  bor := fun i h => by
    obtain ⟨a, b⟩ := g.same (hb (by rw [h]; simp))
    rw [a, b]; exact v1.bor i h
theorem VOk.weak (v1 : VOk K σ env1 s b p1 fp H d v F1 H1 fp1 fv) (h : p = true → p1 = true) : VOk K σ env1 s b p fp H d v F1 H1 fp1 fv where
  ow := v1.ow
  nd := v1.nd
  own := fun e a z => ⟨(v1.own e a z).1, (v1.own e a z).2.imp (fun y => PP_imp h y) id⟩
  bor := v1.bor
/-- .. where it is nothing that is owned -/
theorem VOk.flat0 (h : Ow K F1 H1 s d v []) : VOk K σ env1 s none p fp H d v F1 H1 fp1 [] := ⟨h, List.nodup_nil, fun _ _ z => by simp at z, fun i z => by cases z⟩
/-- reckoned later, from an earlier point of view -/
theorem VOk.from (f : Aft p1 env fp F H env1 fp1 F1 H1) (v2 : VOk K σ env2 s b p2 fp1 H1 d v F2 H2 fp2 fv) : VOk K σ env2 s b (p1 && p2) fp H d v F2 H2 fp2 fv where
  ow := v2.ow
  nd := v2.nd
  own := fun e a z => ⟨(v2.own e a z).1, by
    rcases (v2.own e a z).2 with y | y
    · cases p2 with
      | true => simp [PP] at y
      | false =>
        simp only [PP, Bool.and_false] at y ⊢
        exact f.sub a (by simpa using y)
    · exact .inr (f.fr.gone y)⟩
  bor := v2.bor
end

/-! ### what is to be done -/
/-- an exception as it lies -/
def ExcAt (cA : Nat → Addr) (F H : Hp) (x : D) (cls : Value) (dx : Option Addr) : Prop :=
  match x with
  | .exc c ns vs => cls = .ref (cA c) ∧ imms vs = true ∧ (match dx with
    | none => ns = [] ∧ vs = []
    | some a => ∃ fs, H a = some (.xd fs) ∧ fs.map (·.1) = ns ∧ Rfs F vs (fs.map (·.2)))
  | _ => False
/-- the constants of a proof: the written part, the classes' addresses, the defs as they are called -/
structure Gd where
  K : PySem.W.Frag
  cA : Nat → Addr
  C : Calls
abbrev Ts := Shp × Option Nat
section
variable (G : Gd) (W : WX) (B : Bs) (Γ : SEnv) (σ : L2.St)
def KX (x : D) (env' : Env) : Prop := ∀ F' H' fp' cls dx, Rel G.K B Γ env' F' fp' σ H' → ExcAt G.cA F' H' x cls dx → W cls dx σ H'
def KE (t : Ts) (p : Bool) (env : Env) (F H : Hp) (fp : Fps) (r : R (D × Env)) (Q : VK) : Prop :=
  match r with
  | .ok (d, env') => ∀ v F' H' fp' fv, Rel G.K B Γ env' F' fp' σ H' → Aft p env fp F H env' fp' F' H' → VOk G.K σ env' t.1 t.2 p fp H d v F' H' fp' fv → Q v H'
  | .exc x env' => KX G W B Γ σ x env'
  | .no => False
def KT (p : Bool) (env : Env) (F H : Hp) (fp : Fps) (r : R (Bool × Env)) (Q : Bool → Hp → Prop) : Prop :=
  match r with
  | .ok (k, env') => ∀ F' H' fp', Rel G.K B Γ env' F' fp' σ H' → Aft p env fp F H env' fp' F' H' → Q k H'
  | .exc x env' => KX G W B Γ σ x env'
  | .no => False
end
/-- several values, one after another; fo: what is owned by none of the names -/
def VOks (K : PySem.W.Frag) (σ : L2.St) (env' : Env) (p : Bool) (fp : Fps) (H : Hp) (F' H' : Hp) (fp' : Fps) : List Ts → List D → List V → List Addr → Prop
  | [], ds, vs, fo => ds = [] ∧ vs = [] ∧ fo = []
  | t :: ts, ds, vs, fo => ∃ d dr v vr f1 f2, ds = d :: dr ∧ vs = v :: vr ∧ VOk K σ env' t.1 t.2 p fp H d v F' H' fp' f1 ∧ VOks K σ env' p fp H F' H' fp' ts dr vr f2 ∧ (t.2 = none → fo = f1 ++ f2 ∧ ∀ a ∈ f1, a ∉ f2) ∧ (t.2 ≠ none → fo = f2)
def KA (G : Gd) (W : WX) (B : Bs) (Γ : SEnv) (σ : L2.St) (ts : List Ts) (p : Bool) (env : Env) (F H : Hp) (fp : Fps) (r : R (List D × Env)) (Q : List V → Hp → Prop) : Prop :=
  match r with
  | .ok (ds, env') => ∀ vs F' H' fp' fo, Rel G.K B Γ env' F' fp' σ H' → Aft p env fp F H env' fp' F' H' → VOks G.K σ env' p fp H F' H' fp' ts ds vs fo → Q vs H'
  | .exc x env' => KX G W B Γ σ x env'
  | .no => False
def tE (G : Gd) (W : WX) (B : Bs) (Γ : SEnv) (p : Bool) (e : E) (t : Ts) : TE := fun σ H Q => ∃ env F fp, Rel G.K B Γ env F fp σ H ∧ KE G W B Γ σ t p env F H fp (evE G.C e env) Q
def tTt (G : Gd) (W : WX) (B : Bs) (Γ : SEnv) (p : Bool) (e : E) : TT := fun σ H Q => ∃ env F fp, Rel G.K B Γ env F fp σ H ∧ KT G W B Γ σ p env F H fp ((evE G.C e env).bind truR) Q
def tEs (G : Gd) (W : WX) (B : Bs) (Γ : SEnv) (p : Bool) (es : List E) (ts : List Ts) : TA := fun σ H Q => ∃ env F fp, Rel G.K B Γ env F fp σ H ∧ KA G W B Γ σ ts p env F H fp (evEs G.C es env) Q

theorem PE_imp {X : Cx} {e : Expr} {t t' : TE} (h : PE X e t) (k : ∀ σ H Q, t' σ H Q → t σ H Q) : PE X e t' := ⟨fun pins s σ H Q I q => h.run pins s σ H Q I (k σ H Q q)⟩
theorem PT_imp {X : Cx} {e : Expr} {t t' : TT} (h : PT X e t) (k : ∀ σ H Q, t' σ H Q → t σ H Q) : PT X e t' := ⟨fun pins s σ H Q I q => h.run pins s σ H Q I (k σ H Q q)⟩
theorem PA_imp {X : Cx} {e : List Expr} {t t' : TA} (h : PA X e t) (k : ∀ σ H Q, t' σ H Q → t σ H Q) : PA X e t' := ⟨fun pos pins s σ H Q I q => h.run pos pins s σ H Q I (k σ H Q q)⟩
theorem PSs_imp {X : Cx} {e : List Stmt} {t t' : TS} (h : PSs X e t) (k : ∀ D σ H, t' D σ H → t D σ H) : PSs X e t' := ⟨fun pins s σ H D I q => h.run pins s σ H D I (k D σ H q)⟩
theorem PS_imp {X : Cx} {e : Stmt} {t t' : TS} (h : PS X e t) (k : ∀ D σ H, t' D σ H → t D σ H) : PS X e t' := ⟨fun pins s σ H D I q => h.run pins s σ H D I (k D σ H q)⟩

/-! ### one after another -/
section
variable {G : Gd} {W : WX} {B : Bs} {Γ : SEnv} {σ : L2.St} {t t1 t2 : Ts} {p p1 p2 : Bool} {F F1 H H1 : Hp} {fp fp1 : Fps} {env env1 : Env} {Q : VK}
/-- first a, then what is to be done with its value -/
theorem KE.bind1 {r : R (D × Env)} {f : D × Env → R (D × Env)} {Q' : VK} (h : KE G W B Γ σ t p env F H fp (r.bind f) Q)
    (k : ∀ d env' v F' H' fp' fv, Rel G.K B Γ env' F' fp' σ H' → Aft p1 env fp F H env' fp' F' H' → VOk G.K σ env' t1.1 t1.2 p1 fp H d v F' H' fp' fv → KE G W B Γ σ t p env F H fp (f (d, env')) Q → Q' v H') : KE G W B Γ σ t1 p1 env F H fp r Q' := by
  cases r with
  | ok q => exact fun v F' H' fp' fv r a o => k q.1 q.2 v F' H' fp' fv r a o h
  | exc x e => exact h
  | no => exact h
theorem KA.bind1 {ts : List Ts} {r : R (List D × Env)} {f : List D × Env → R (D × Env)} {Q' : List V → Hp → Prop} (h : KE G W B Γ σ t p env F H fp (r.bind f) Q)
    (k : ∀ d env' v F' H' fp' fo, Rel G.K B Γ env' F' fp' σ H' → Aft p1 env fp F H env' fp' F' H' → VOks G.K σ env' p1 fp H F' H' fp' ts d v fo → KE G W B Γ σ t p env F H fp (f (d, env')) Q → Q' v H') : KA G W B Γ σ ts p1 env F H fp r Q' := by
  cases r with
  | ok q => exact fun v F' H' fp' fo r a o => k q.1 q.2 v F' H' fp' fo r a o h
  | exc x e => exact h
  | no => exact h
/-- the same thing to be done, seen from a later point -/
theorem KE.later {r : R (D × Env)} (f : Aft p1 env fp F H env1 fp1 F1 H1) (hp : p = true → p1 = true ∧ p2 = true) (h : KE G W B Γ σ t p env F H fp r Q) : KE G W B Γ σ t p2 env1 F1 H1 fp1 r Q := by
  cases r with
  | ok q =>
    exact fun v F' H' fp' fv r a o => h v F' H' fp' fv r ((f.trans a).weak fun z => by simp [hp z]) ((VOk.from f o).weak fun z => by simp [hp z])
  | exc x e => exact h
  | no => exact h
theorem KT.later {r : R (Bool × Env)} {Q : Bool → Hp → Prop} (f : Aft p1 env fp F H env1 fp1 F1 H1) (hp : p = true → p1 = true ∧ p2 = true) (h : KT G W B Γ σ p env F H fp r Q) : KT G W B Γ σ p2 env1 F1 H1 fp1 r Q := by
  cases r with
  | ok q => exact fun F' H' fp' r a => h F' H' fp' r ((f.trans a).weak fun z => by simp [hp z])
  | exc x e => exact h
  | no => exact h
theorem KT.bindE {r : R (D × Env)} {f : D × Env → R (Bool × Env)} {Q' : VK} {Q : Bool → Hp → Prop} (h : KT G W B Γ σ p env F H fp (r.bind f) Q)
    (k : ∀ d env' v F' H' fp' fv, Rel G.K B Γ env' F' fp' σ H' → Aft p1 env fp F H env' fp' F' H' → VOk G.K σ env' t1.1 t1.2 p1 fp H d v F' H' fp' fv → KT G W B Γ σ p env F H fp (f (d, env')) Q → Q' v H') : KE G W B Γ σ t1 p1 env F H fp r Q' := by
  cases r with
  | ok q => exact fun v F' H' fp' fv r a o => k q.1 q.2 v F' H' fp' fv r a o h
  | exc x e => exact h
  | no => exact h
theorem KT.bindT {r : R (Bool × Env)} {f : Bool × Env → R (Bool × Env)} {Q Q' : Bool → Hp → Prop} (h : KT G W B Γ σ p env F H fp (r.bind f) Q)
    (k : ∀ b env' F' H' fp', Rel G.K B Γ env' F' fp' σ H' → Aft p1 env fp F H env' fp' F' H' → KT G W B Γ σ p env F H fp (f (b, env')) Q → Q' b H') : KT G W B Γ σ p1 env F H fp r Q' := by
  cases r with
  | ok q => exact fun F' H' fp' r a => k q.1 q.2 F' H' fp' r a h
  | exc x e => exact h
  | no => exact h
theorem KE.bindT {r : R (Bool × Env)} {f : Bool × Env → R (D × Env)} {Q' : Bool → Hp → Prop} (h : KE G W B Γ σ t p env F H fp (r.bind f) Q)
    (k : ∀ b env' F' H' fp', Rel G.K B Γ env' F' fp' σ H' → Aft p1 env fp F H env' fp' F' H' → KE G W B Γ σ t p env F H fp (f (b, env')) Q → Q' b H') : KT G W B Γ σ p1 env F H fp r Q' := by
  cases r with
  | ok q => exact fun F' H' fp' r a => k q.1 q.2 F' H' fp' r a h
  | exc x e => exact h
  | no => exact h
end
end VC
end

section
set_option Elab.async false
set_option linter.all false
set_option autoImplicit false
set_option maxRecDepth 100000
/-! VC4: what may be said of an expression's shape; what its text is; the rules for expressions. -/
namespace VC
open PySem PySem.Spec L2

/-! ### shapes of expressions -/
structure Sig where
  modes : List Shp
  ios : List Nat
  ret : Shp
  deriving Inhabited
/-- nothing of it is owned -/
def flat : Shp → Bool
  | .Q => true | .A => true | .F => true | _ => false
def isF : Shp → Bool
  | .F => true | .Q => true | _ => false
/-- a value of shape s may be taken where t is asked (it may be frozen for it) -/
def cv (s t : Shp) : Bool := ge0 s t || (isF t && frzOk s)
/-- what a reference to a member of it is worth -/
def csh : Shp → Option Shp
  | .Q => some .Q | .A => some .A | .F => some .F
  | .O s => if flat s = true then some s else none
  | .K s => if flat s = true then some s else none
  | .T s => if flat s = true then some s else none
  | _ => none
def mtA (t : Ts) : Bool := match t.1 with | .A => true | _ => false
mutual
/-- nothing owned by the names is changed -/
def pur : E → Bool
  | .call _ ios args => ios.isEmpty && purs args
  | .app _ _ => false
  | .app2 _ _ _ => false
  | .idx2 _ k j => pur k && pur j
  | .m2 _ a b => pur a && pur b
  | .tup es => purs es
  | .lst _ es => purs es
  | .bin _ a b => pur a && pur b
  | .neg a => pur a
  | .cmp _ a b => pur a && pur b
  | .chn _ _ a b c => pur a && pur b && pur c
  | .not a => pur a
  | .and es => purs es
  | .or es => purs es
  | .ite c a b => pur c && pur a && pur b
  | .idx a i => pur a && pur i
  | .slc _ _ a bs => pur a && purs bs
  | .bi _ args => purs args
  | .lc _ _ elt _ _ ies ifs => pur elt && purs ies && purs ifs
  | .dnew _ _ => true
  | .lcI _ _ _ _ _ _ _ => false
  | .rev _ a => pur a
  | .dget2 _ a k x => pur a && pur k && pur x
  | .lc2 _ _ _ elt _ _ ies ifs _ _ ies1 ifs1 => pur elt && purs ies && purs ifs && purs ies1 && purs ifs1
  | .var _ | .non | .bl _ | .int _ | .str _ => true
def purs : List E → Bool
  | [] => true
  | e :: es => pur e && purs es
end
def op2Ty (o : Op2) (s t : Shp) : Option Shp :=
  match o with
  | .addL u => (match csh s, csh t with
    | some a, some b => if ge0 a u && ge0 b u && !(isQ s) && !(isQ t) then some (.O u) else none
    | _, _ => none)
  | .mulL u => (match csh s with
    | some a => if ge0 a u && !(isQ s) && rdOk t then some (.O u) else none
    | none => none)
  | _ => if rdOk s && rdOk t then some .A else none
where isQ : Shp → Bool
  | .Q => true | .A => true | _ => false
def biTy (b : Bi) (ts : List Ts) : Option Shp :=
  match b, ts with
  | .list1 u, [t] => (match csh t.1 with | some a => if ge0 a u then some (.O u) else none | none => none)
  | .sorted u, [t] => if rdOk t.1 && ge0 .A u then some (.O u) else none
  | .sortedS u, [t] => if rdOk t.1 && ge0 .A u then some (.O u) else none
  | .tup1, [t] => (match csh t.1 with | some .A => some .A | some .F => some .F | _ => none)
  | _, ts => if ts.all (fun t => rdOk t.1) then some .A else none
/-- the static side: what the defs promise; the names that must stay -/
structure TC where
  sg : List Sig
  ro : List Nat
/-- nothing frozen within -/
def nof : Shp → Bool
  | .A => true
  | .O s => nof s | .K s => nof s | .T s => nof s
  | _ => false
/-- the arguments of a call: al says which places may be changed, and by what names they are held; nf: what the def hands back leans on nothing frozen -/
def aOk (al : List (Nat × Option Nat)) (nf : Bool) : Nat → List Ts → List Shp → Bool
  | _, [], [] => true
  | j, t :: ts, m :: ms => (match al.lookup j with
    | some (some i) => decide (t.2 = some i) && decide (t.1 = m) && decide (m ≠ .X)
    | some none => t.2.isNone && ge0 t.1 m && decide (m ≠ .X)
    | none => match t.2 with
      | none => cv t.1 m && decide (m ≠ .X)
      | some i => isF m && frzOk t.1 && nf && !((al.map (·.2)).contains (some i))) && aOk al nf (j + 1) ts ms
  | _, _, _ => false
def slots (ios : List (Option Nat)) : List Nat := ios.filterMap id
def argsOk (g : Sig) (ios : List (Option Nat)) (ts : List Ts) : Bool :=
  decide (ios.length = g.ios.length) && decide g.ios.Nodup && decide (slots ios).Nodup && g.ios.all (fun i => decide (i < g.modes.length)) &&
    aOk (g.ios.zip ios) (nof g.ret && g.ios.all fun i => match g.modes[i]? with | some m => nof m | none => false) 0 ts g.modes
/-- what the members of a walked thing are worth; an owned one is frozen -/
def chW (t : Ts) : Option Shp :=
  if t.2.isNone then (match t.1 with
    | .O s => if flat s && frzOk s then some s else none
    | s => if flat s then some s else none) else (match t.1 with
    | .O s => if flat s then some s else none
    | _ => none)
/-- the items of a walk: of one shape, or tuples -/
inductive IS where
  | one (c : Shp) | tup (cs : List Shp)
def isOf (k : ItK) (ts : List Ts) : Option IS :=
  match k, ts with
  | .e, [t] => (chW t).map .one
  | .rng1, [t] => if rdOk t.1 then some (.one .A) else none
  | .rng2, [t, u] => if rdOk t.1 && rdOk u.1 && t.2.isNone && u.2.isNone then some (.one .A) else none
  | .enum, [t] => (chW t).map fun c => .tup [.A, c]
  | .zip, [t, u] => match chW t, chW u with
    | some c, some d => some (.tup [c, d])
    | _, _ => none
  | .enumS, [t, u] => if t.2.isNone && rdOk u.1 && u.2.isNone then (chW t).map fun c => .tup [.A, c] else none
  | _, _ => none
/-- the names that a walk fills, with their shapes -/
def tgTy (c : IS) (g : Tg) : Option (List (Nat × Shp)) :=
  match c, g with
  | .one c, .nm i => some [(i, c)]
  | .one c, .tp is => some (is.map fun i => (i, c))
  | .tup cs, .tp is => if is.length = cs.length then some (is.zip cs) else none
  | _, _ => none
def setS (Γ : SEnv) : List (Nat × Shp) → SEnv
  | [] => Γ
  | (i, s) :: r => setS (Γ.set i s) r
def wipeS (Γ : SEnv) : List Nat → SEnv
  | [] => Γ
  | i :: is => (wipeS Γ is).set i .X
mutual
def ty (tc : TC) (Γ : SEnv) : E → Option Ts
  | .var i => match Γ[i]? with
    | some s => if flat s = true then some (s, none) else if rdOk s = true then some (s, some i) else none
    | none => none
  | .non | .bl _ | .int _ => some (.A, none)
  | .str x => if PyData.strOk x && decide (x.length ≤ lim) then some (.A, none) else none
  | .tup es => match tys tc Γ es with
    | some ts => if ts.all (fun t => t.2.isNone) && decide (es.length ≤ lim) then (if ts.all mtA then some (.A, none) else if ts.all (fun t => frzOk t.1) then some (.F, none) else none) else none
    | none => none
  | .lst s es => match tys tc Γ es with
    | some ts => if ts.all (fun t => t.2.isNone && cv t.1 s) && decide (es.length ≤ lim) then some (.O s, none) else none
    | none => none
  | .bin o a b => match ty tc Γ a, ty tc Γ b with
    | some s, some t => if s.2.isNone || pur b then (op2Ty o s.1 t.1).map (·, none) else none
    | _, _ => none
  | .neg a => match ty tc Γ a with
    | some s => if rdOk s.1 then some (.A, none) else none
    | none => none
  | .cmp _ a b => match ty tc Γ a, ty tc Γ b with
    | some s, some t => if (s.2.isNone || pur b) && rdOk s.1 && rdOk t.1 then some (.A, none) else none
    | _, _ => none
  | .chn _ _ a b c => match ty tc Γ a, ty tc Γ b, ty tc Γ c with
    | some s, some t, some u => if (s.2.isNone || pur b) && (t.2.isNone || pur c) && rdOk s.1 && rdOk t.1 && rdOk u.1 then some (.A, none) else none
    | _, _, _ => none
  | .not a => match ty tc Γ a with
    | some s => if rdOk s.1 then some (.A, none) else none
    | none => none
  | .and es => if (tys tc Γ es).any (fun ts => ts.all fun t => mtA t && t.2.isNone) then some (.A, none) else none
  | .or es => if (tys tc Γ es).any (fun ts => ts.all fun t => mtA t && t.2.isNone) then some (.A, none) else none
  | .ite e a b => match ty tc Γ e, ty tc Γ a, ty tc Γ b with
    | some s, some t, some u => if rdOk s.1 && t.2.isNone && u.2.isNone && flat t.1 && flat u.1 then (if ge0 t.1 u.1 then some (u.1, none) else if ge0 u.1 t.1 then some (t.1, none) else none) else none
    | _, _, _ => none
  | .idx a i => match ty tc Γ a, ty tc Γ i with
    | some s, some t => if (s.2.isNone || pur i) && rdOk t.1 then (csh s.1).map (·, none) else none
    | _, _ => none
  | .slc u _ a bs => match ty tc Γ a, tys tc Γ bs with
    | some s, some ts => if (s.2.isNone || purs bs) && ts.all (fun t => rdOk t.1) && (ts.all fun t => t.2.isNone) then (match csh s.1 with
        | some w => if ge0 w u then some (.O u, none) else none
        | none => none) else none
    | _, _ => none
  | .call f ios args => match tc.sg[f]?, tys tc Γ args with
    | some g, some ts => if argsOk g ios ts then some (g.ret, none) else none
    | _, _ => none
  | .bi b args => match tys tc Γ args with
    | some ts => (biTy b ts).map (·, none)
    | none => none
  | .lc own s elt g k ies ifs => match tys tc Γ ies with
    | some ts => (match (isOf k ts).bind (tgTy · g) with
      | some ps => if pur elt && purs ifs && own.all (fun i => decide (i < Γ.length)) && decide own.Nodup && ps.all (fun q => own.contains q.1) then
          (match tys tc (setS (wipeS Γ own) ps) ifs, ty tc (setS (wipeS Γ own) ps) elt with
          | some us, some u => if us.all (fun t => rdOk t.1) && decide (us.length ≤ 1) && u.2.isNone && cv u.1 s then some (.O s, none) else none
          | _, _ => none) else none
      | none => none)
    | none => none
  | .m2 _ a b => match ty tc Γ a, ty tc Γ b with
    | some s, some t => if (s.2.isNone || pur b) && rdOk s.1 && rdOk t.1 then some (.A, none) else none
    | _, _ => none
  | .rev u a => match ty tc Γ a with
    | some s => (match csh s.1 with
        | some w => if ge0 w u then some (.O u, none) else none
        | none => none)
    | none => none
  | .lcI own s elt g k ies ifs => match tys tc Γ ies with
    | some ts => (match (isOf k ts).bind (tgTy · g) with
      | some ps => if pur elt && flat s && ts.all (fun t => t.2.isNone) && own.all (fun i => decide (Γ[i]? = some .X)) && ps.all (fun q => own.contains q.1) then
          (match tys tc (setS (wipeS Γ own) ps) ifs, ty tc (setS (wipeS Γ own) ps) elt with
          | some us, some u => if us.all (fun t => rdOk t.1) && decide (us.length ≤ 1) && u.2.isNone && cv u.1 s then some (.O s, none) else none
          | _, _ => none) else none
      | none => none)
    | none => none
  | .dnew tk s => some ((if tk = true then .T s else .K s), none)
  | .dget2 u a k x => match ty tc Γ a, ty tc Γ k, ty tc Γ x with
    | some s, some t, some w => if (s.2.isNone || (pur k && pur x)) && t.2.isNone && w.2.isNone && ge0 t.1 .F && ge0 w.1 u && flat u then (match csh s.1 with
        | some c => if ge0 c u then some (u, none) else none
        | none => none) else none
    | _, _, _ => none
  | .lc2 own own1 s elt g k ies ifs g1 k1 ies1 ifs1 => match tys tc Γ ies with
    | some ts => (match (isOf k ts).bind (tgTy · g) with
      | some ps => if pur elt && purs ifs && purs ies1 && purs ifs1 && own.all (fun i => decide (i < Γ.length)) && decide own.Nodup && ps.all (fun q => own.contains q.1 && !own1.contains q.1) && own1.all (fun i => own.contains i) then
          (match tys tc (setS (wipeS Γ own) ps) ifs, tys tc (setS (wipeS Γ own) ps) ies1 with
          | some us, some ts1 => if us.all (fun t => rdOk t.1) && decide (us.length ≤ 1) then (match (isOf k1 ts1).bind (tgTy · g1) with
              | some ps1 => if ps1.all (fun q => own1.contains q.1) && ts1.all (fun t => t.2.isNone) then
                  (match tys tc (setS (wipeS (setS (wipeS Γ own) ps) own1) ps1) ifs1, ty tc (setS (wipeS (setS (wipeS Γ own) ps) own1) ps1) elt with
                  | some us1, some u => if us1.all (fun t => rdOk t.1) && decide (us1.length ≤ 1) && u.2.isNone && cv u.1 s then some (.O s, none) else none
                  | _, _ => none) else none
              | none => none) else none
          | _, _ => none) else none
      | none => none)
    | none => none
  | .app i e => match Γ[i]?, ty tc Γ e with
    | some (.O s), some t => if t.2.isNone && cv t.1 s && pur e then some (.A, none) else none
    | _, _ => none
  | .app2 i k e => match Γ[i]?, ty tc Γ k, ty tc Γ e with
    | some (.O (.O s)), some tk, some t => if pur k && rdOk tk.1 && t.2.isNone && cv t.1 s && pur e then some (.A, none) else none
    | _, _, _ => none
  | .idx2 i k j => match Γ[i]?, ty tc Γ k, ty tc Γ j with
    | some (.O (.O s)), some tk, some tj => if pur k && pur j && rdOk tk.1 && rdOk tj.1 && flat s then some (s, none) else none
    | _, _, _ => none
/-- the types of several, one after another: what is a part of a name stays while the others are reckoned -/
def tys (tc : TC) (Γ : SEnv) : List E → Option (List Ts)
  | [] => some []
  | e :: es => match ty tc Γ e, tys tc Γ es with
    | some t, some ts => if t.2.isNone || purs es then some (t :: ts) else none
    | _, _ => none
end
end VC
end

section
set_option Elab.async false
set_option linter.all false
set_option autoImplicit false
set_option maxRecDepth 100000
/-! VC5: the rules for expressions. -/
namespace VC
open PySem PySem.Spec L2

/-- what the rules ask of a name's place -/
structure SC where
  N : List Str
  sc : Scope
  glo : List (Str × Nat)
  free : List Str
  st : Str → Bool
  cs : List (Str × Key)
def oddName (x : Str) : Bool := x == ("__debug__" : Str) || x == ("__classdict__" : Str) || x == ("__name__" : Str)
def vis (sc : Scope) (x : Str) : Bool := match sc.names.lookup x with
  | some .local => true | some .cell => true | some .free => true | _ => false
def visB (S : SC) (i : Nat) (x : Str) : Bool := decide (S.N[i]? = some x) && vis S.sc x && !oddName x
def isGlo (sc : Scope) (x : Str) : Bool := match sc.names.lookup x with | some .globalImplicit => true | _ => false
def freeB (S : SC) (x : Str) : Bool := isGlo S.sc x && S.free.contains x && !oddName x
def cstB (S : SC) (x : Str) (c : Key) : Bool := isGlo S.sc x && decide (S.cs.lookup x = some c) && !oddName x
def gloB (S : SC) (x : Str) (f : Nat) : Bool := isGlo S.sc x && decide (S.glo.lookup x = some f) && !oddName x

/-- the last values of the parameters that a def may change -/
def OutR (K : PySem.W.Frag) (F' H' : Hp) (modes : List Shp) (vs : List V) : List Nat → List D → Fps → Prop
  | [], outs, fos => outs = [] ∧ fos = []
  | i :: is, outs, fos => ∃ d r f fr s v, outs = d :: r ∧ fos = f :: fr ∧ modes[i]? = some s ∧ vs[i]? = some v ∧ Ow K F' H' s d v f ∧ OutR K F' H' modes vs is r fr
/-- a def's promise: what the evaluator says of the call -/
def spC (G : Gd) (g : Sig) (f : Nat) : Sp := fun vs H Q E => ∃ ds F fps, vs.length = g.modes.length ∧ RelE G.K F H g.modes (ds.map some) (vs.map some) fps ∧ fps.flatten.Nodup ∧ Sub F H ∧ Tups H F ∧
  match G.C f ds with
  | .ok d outs => ∀ v F' H' fr fos, Ow G.K F' H' g.ret d v fr → OutR G.K F' H' g.modes vs g.ios outs fos → (fr ++ fos.flatten).Nodup → Sub F' H' → Tups H' F' → Fr fps.flatten F H F' H' → (∀ a ∈ fr ++ fos.flatten, a ∈ fps.flatten ∨ H a = none) → Q v H'
  | .exc x outs => ∀ F' H' fos cls dx, OutR G.K F' H' g.modes vs g.ios outs fos → fos.flatten.Nodup → Sub F' H' → Tups H' F' → Fr fps.flatten F H F' H' → (∀ a ∈ fos.flatten, a ∈ fps.flatten ∨ H a = none) → ExcAt G.cA F' H' x cls dx → E cls dx H'
  | .no => False

/-- what is known of the place where code runs -/
structure XOk (G : Gd) (sg : List Sig) (W : WX) (S : SC) (X : Cx) : Prop where
  N : X.N = S.N
  nd : S.N.Nodup
  sc : X.env.scope = S.sc
  calm : X.calm = true
  K : X.K = G.K
  hu : X.A.units + 65 < cLine
  tk : Takes X W
  free : ∀ x, x ∈ S.free → X.mg x = none
  cst : ∀ x c, S.cs.lookup x = some c → ∃ u, X.mg x = some u ∧ RelV (kV c) u
  po : PassesOwn (model X.prog X.w) X.A X.env X.xe
  st : ∀ x, S.st x = true → Loc X.env.scope x ∧ (X.fn x = true ∨ X.env.scope.names.lookup x = some .local)
  calls : ∀ x f, S.glo.lookup x = some f → ∃ g a fd ps k, sg[f]? = some g ∧ X.mg x = some (.ref a) ∧ PySem.W.keepIn X.K (.ref a) = true ∧ Binds X.K fd ps [] ∧ FnOk X.prog X.w X.K X.mg X.base (L2.CX X.prog X.w) k a fd ps (spC G g f) ∧ Room k X.A

section
variable {G : Gd} {sg : List Sig} {W : WX} {S : SC} {X : Cx} {B : Bs} {Γ : SEnv} {tc : TC}

theorem odd_of {x : Str} (h : oddName x = false) : (x == ("__debug__" : Str)) = false ∧ (x == ("__classdict__" : Str)) = false ∧ x ≠ ("__name__" : Str) := by
  unfold oddName at h
  simp only [Bool.or_eq_false_iff] at h
  refine ⟨h.1.1, h.1.2, fun e => ?_⟩
  rw [e] at h
  exact absurd h.2 (by simp)
theorem vis_of {sc : Scope} {x : Str} (h : vis sc x = true) : Vis sc x := by
  unfold vis at h
  split at h
  · exact .inl (by assumption)
  · exact .inr (.inl (by assumption))
  · exact .inr (.inr (by assumption))
  · cases h
theorem isGlo_of {sc : Scope} {x : Str} (h : isGlo sc x = true) : sc.names.lookup x = some .globalImplicit := by
  unfold isGlo at h
  split at h
  · assumption
  · cases h
theorem XOk.gl (xo : XOk G sg W S X) {x : Str} (h : isGlo S.sc x = true) : Gl X x := by
  show X.env.scope.names.lookup x = some .globalImplicit
  rw [xo.sc]; exact isGlo_of h

/-! ### several values -/
theorem VOks.fo {σ : L2.St} {env' : Env} {K : PySem.W.Frag} {p : Bool} {fp fp' : Fps} {H F' H' : Hp} : ∀ {ts : List Ts} {ds : List D} {vs : List V} {fo : List Addr}, VOks K σ env' p fp H F' H' fp' ts ds vs fo →
    fo.Nodup ∧ ∀ a ∈ fo, a ∉ fp'.flatten ∧ (a ∈ PP p fp ∨ H a = none) ∧ (∃ o, H' a = some o) ∧ F' a = none
  | [], _, _, _, h => by obtain ⟨_, _, rfl⟩ := h; exact ⟨List.nodup_nil, fun _ z => by simp at z⟩
  | t :: ts, _, _, fo, h => by
    obtain ⟨d, dr, v, vr, f1, f2, rfl, rfl, h1, h2, h3, h4⟩ := h
    obtain ⟨n2, k2⟩ := VOks.fo h2
    by_cases e : t.2 = none
    · obtain ⟨rfl, dj⟩ := h3 e
      refine ⟨List.nodup_append.mpr ⟨h1.nd, n2, fun a ha b hb q => by subst q; exact dj a ha hb⟩, fun a ha => ?_⟩
      rcases List.mem_append.mp ha with z | z
      · obtain ⟨⟨o, q, _⟩, n⟩ := h1.ow.dom a z
        exact ⟨(h1.own e a z).1, (h1.own e a z).2, ⟨o, q⟩, n⟩
      · exact k2 a z
    · rw [h4 e]; exact ⟨n2, k2⟩
theorem VOks.len {σ : L2.St} {env' : Env} {K : PySem.W.Frag} {p : Bool} {fp fp' : Fps} {H F' H' : Hp} : ∀ {ts : List Ts} {ds : List D} {vs : List V} {fo : List Addr}, VOks K σ env' p fp H F' H' fp' ts ds vs fo → ds.length = ts.length ∧ vs.length = ts.length
  | [], _, _, _, h => by obtain ⟨rfl, rfl, rfl⟩ := h; exact ⟨rfl, rfl⟩
  | t :: ts, _, _, fo, h => by
    obtain ⟨d, dr, v, vr, f1, f2, rfl, rfl, h1, h2, h3, h4⟩ := h
    obtain ⟨a, b⟩ := VOks.len h2
    exact ⟨by simp [a], by simp [b]⟩
/-- all of them frozen -/
theorem VOks.rfs {σ : L2.St} {env' : Env} {K : PySem.W.Frag} {p : Bool} {fp fp' : Fps} {H F' H' : Hp} (sF : Sub F' H') : ∀ {ts : List Ts} {ds : List D} {vs : List V} {fo gp : List Addr}, VOks K σ env' p fp H F' H' fp' ts ds vs fo → (ts.all fun t => t.2.isNone) = true → (ts.all fun t => frzOk t.1) = true →
    (∀ a ∈ fo, a ∈ gp) → Rfs (addF F' H' gp) ds vs
  | [], _, _, _, _, h, _, _, _ => by obtain ⟨rfl, rfl, rfl⟩ := h; rfl
  | t :: ts, _, _, fo, gp, h, k1, k2, k3 => by
    obtain ⟨d, dr, v, vr, f1, f2, rfl, rfl, h1, h2, h3, h4⟩ := h
    simp only [List.all_cons, Bool.and_eq_true, Option.isNone_iff_eq_none] at k1 k2
    obtain ⟨rfl, dj⟩ := h3 k1.1
    exact ⟨v, vr, rfl, Rf.sub (addF_mono sF fun a z => k3 a (List.mem_append_left _ z)) _ _ (h1.ow.frz sF k2.1), VOks.rfs sF h2 (by simpa using k1.2) (by simpa using k2.2) fun a z => k3 a (List.mem_append_right _ z)⟩
theorem VOks.imms {σ : L2.St} {env' : Env} {K : PySem.W.Frag} {p : Bool} {fp fp' : Fps} {H F' H' : Hp} : ∀ {ts : List Ts} {ds : List D} {vs : List V} {fo : List Addr}, VOks K σ env' p fp H F' H' fp' ts ds vs fo → ts.all mtA = true → imms ds = true
  | [], _, _, _, h, _ => by obtain ⟨rfl, rfl, rfl⟩ := h; rfl
  | t :: ts, _, _, fo, h, k => by
    obtain ⟨d, dr, v, vr, f1, f2, rfl, rfl, h1, h2, h3, h4⟩ := h
    simp only [List.all_cons, Bool.and_eq_true] at k
    have e : t.1 = .A := by
      have q := k.1
      unfold mtA at q
      split at q
      · assumption
      · cases q
    have q := h1.ow
    rw [e] at q
    simp only [Ow] at q
    simp only [VC.imms, Bool.and_eq_true]
    exact ⟨q.2.1, VOks.imms h2 k.2⟩
theorem mtA_eq {t : Ts} (k : mtA t = true) : t.1 = .A := by
  unfold mtA at k
  split at k
  · assumption
  · cases k
theorem mtA_frz {ts : List Ts} (k : ts.all mtA = true) : (ts.all fun t => frzOk t.1) = true := by
  rw [List.all_eq_true] at k ⊢
  intro t h
  rw [mtA_eq (k t h)]; rfl
/-- each is taken where s is asked; some are frozen for it -/
theorem VOks.conv {σ : L2.St} {env' : Env} {K : PySem.W.Frag} {p : Bool} {fp fp' : Fps} {H F' H' : Hp} {s : Shp} (sF : Sub F' H') : ∀ {ts : List Ts} {ds : List D} {vs : List V} {fo : List Addr}, VOks K σ env' p fp H F' H' fp' ts ds vs fo → (ts.all fun t => t.2.isNone && cv t.1 s) = true →
    ∃ fz f', (∀ a ∈ fz, a ∈ fo) ∧ (∀ a ∈ f', a ∈ fo ∧ a ∉ fz) ∧ f'.Nodup ∧ Ows (Ow K (addF F' H' fz) H' s) ds vs f'
  | [], _, _, _, h, _ => by obtain ⟨rfl, rfl, rfl⟩ := h; exact ⟨[], [], fun _ z => by simp at z, fun _ z => by simp at z, List.nodup_nil, rfl, rfl⟩
  | t :: ts, _, _, fo, h, k => by
    obtain ⟨d, dr, v, vr, f1, f2, rfl, rfl, h1, h2, h3, h4⟩ := h
    simp only [List.all_cons, Bool.and_eq_true, Option.isNone_iff_eq_none] at k
    obtain ⟨rfl, dj⟩ := h3 k.1.1
    obtain ⟨fz, f', a1, a2, a3, a4⟩ := VOks.conv sF h2 (by simpa using k.2)
    have k2 := k.1.2
    unfold cv at k2
    rw [Bool.or_eq_true, Bool.and_eq_true] at k2
    rcases k2 with g | ⟨g1, g2⟩
    · refine ⟨fz, f1 ++ f', fun a z => List.mem_append_right _ (a1 a z), fun a z => ?_, ?_, v, vr, f1, f', rfl, rfl, ?_, a4⟩
      · rcases List.mem_append.mp z with y | y
        · exact ⟨List.mem_append_left _ y, fun q => dj a y (a1 a q)⟩
        · exact ⟨List.mem_append_right _ (a2 a y).1, (a2 a y).2⟩
      · exact List.nodup_append.mpr ⟨h1.nd, a3, fun a ha b hb q => by subst q; exact dj a ha (a2 a hb).1⟩
      · refine (Ow.ge0 g h1.ow).keep (addF_sub sF) fun a z => ⟨rfl, ?_⟩
        rw [addF_out fun q => dj a z (a1 a q)]; exact (h1.ow.dom a z).2
    · have rf := h1.ow.frz sF g2
      have ap : ∀ a ∈ f', H' a = H' a ∧ addF F' H' (f1 ++ fz) a = none := fun a z => ⟨rfl, by
        have q2 := (a2 a z)
        rw [addF_out fun q => (List.mem_append.mp q).elim (fun y => dj a y q2.1) q2.2]
        have := (VOks.fo h2).2 a q2.1
        exact this.2.2.2⟩
      refine ⟨f1 ++ fz, f', fun a z => (List.mem_append.mp z).elim (List.mem_append_left _) fun y => List.mem_append_right _ (a1 a y), fun a z => ⟨List.mem_append_right _ (a2 a z).1, fun q => (List.mem_append.mp q).elim (fun y => dj a y (a2 a z).1) (a2 a z).2⟩, a3, v, vr, [], f', rfl, rfl, ?_, ?_⟩
      · have rf' := Rf.sub (addF_mono (gp := f1 ++ fz) sF fun a z => List.mem_append_left _ z) _ _ rf
        cases s <;> simp [isF] at g1
        · exact ⟨rfl, Rf.rp _ _ rf'⟩
        · exact ⟨rfl, rf'⟩
      · exact Ows.keep (addF_mono sF fun a z => List.mem_append_right _ z) a4 ap

/-! ### names, constants, displays -/
theorem r_var (xo : XOk G sg W S X) {i : Nat} {x : Str} {pos : Pos} {t : Ts} (h : visB S i x = true) (hT : ty tc Γ (.var i) = some t) : PE X (.Name x pos) (tE G W B Γ true (.var i) t) := by
  unfold visB at h
  simp only [Bool.and_eq_true, decide_eq_true_eq, Bool.not_eq_true'] at h
  obtain ⟨⟨h1, h2⟩, h3⟩ := h
  obtain ⟨o1, o2, o3⟩ := odd_of h3
  refine PE_imp (pe_var (i := i) (by rw [xo.N]; exact h1) (by rw [xo.sc]; exact vis_of h2) o1 o2) ?_
  rintro σ H Q ⟨env, F, fp, rel, k⟩
  simp only [evE, getV] at k
  split at k
  · rename_i d hd
    have k' : ∀ v F' H' fp' fv, Rel G.K B Γ env F' fp' σ H' → Aft true env fp F H env fp' F' H' → VOk G.K σ env t.1 t.2 true fp H d v F' H' fp' fv → Q v H' := k
    simp only [ty] at hT
    split at hT
    · rename_i s hs
      have ne : s ≠ .X := by
        rintro rfl
        simp [flat, rdOk] at hT
      obtain ⟨v, fv, e1, e2, ow⟩ := rel.e.get hs ne hd
      refine ⟨v, e1, ?_⟩
      by_cases hf : flat s = true
      · rw [if_pos hf] at hT
        cases hT
        have ow' : Ow G.K F H s d v [] := by
          cases s <;> simp [flat] at hf <;> simp only [Ow] at ow ⊢ <;> exact ⟨trivial, ow.2⟩
        exact k' v F H fp [] rel Aft.refl (VOk.flat0 ow')
      · rw [if_neg hf] at hT
        split at hT
        · cases hT
          refine k' v F H fp fv rel Aft.refl ⟨ow, ?_, fun e => by simp at e, fun j e => ?_⟩
          · exact nd_at rel.nd e2
          · cases e; exact ⟨e2, e1, hd⟩
        · cases hT
    · cases hT
  · exact k.elim
theorem r_con {v0 : V} {d : D} {e : E} {ast : Expr} (hp : PE X ast (tC v0)) (he : ∀ env, evE G.C e env = .ok (d, env)) (hr : ∀ F, Rf F d v0) (hi : imm d = true) : PE X ast (tE G W B Γ true e (.A, none)) := by
  refine PE_imp hp ?_
  rintro σ H Q ⟨env, F, fp, rel, k⟩
  rw [he] at k
  exact k v0 F H fp [] rel Aft.refl (VOk.flat0 ⟨rfl, hi, hr F⟩)
theorem r_tup {es : List E} {asts : List Expr} {x1 : Nat} {pos : Pos} {ts : List Ts} {s : Shp} (h : PA X asts (tEs G W B Γ (purs es) es ts)) (hn : (ts.all fun t => t.2.isNone) = true) (hl : es.length ≤ lim) (hts : ts.length = es.length)
    (hs : (ts.all mtA = true ∧ s = .A) ∨ ((ts.all fun t => frzOk t.1) = true ∧ s = .F)) : PE X (.Tuple asts x1 pos) (tE G W B Γ (pur (.tup es)) (.tup es) (s, none)) := by
  refine PE_imp (pe_tup h) ?_
  rintro σ H Q ⟨env, F, fp, rel, k⟩
  simp only [evE, pur] at k
  refine ⟨env, F, fp, rel, KA.bind1 k ?_⟩
  rintro ds env' vs F' H' fp' fo rel' aft vo k
  obtain ⟨l1, l2⟩ := vo.len
  have hlen : ds.length ≤ lim := by omega
  refine ⟨by rw [← lim_eq]; omega, fun q n => ?_⟩
  obtain ⟨nf, kf⟩ := vo.fo
  have fz : (ts.all fun t => frzOk t.1) = true := by
    rcases hs with h | h
    · exact mtA_frz h.1
    · exact h.1
  have rfs := vo.rfs rel'.sub hn fz (gp := fo) fun a z => z
  have rel2 := rel'.freeze (fv := fo) fun a z => ⟨(kf a z).1, rel.pnew (kf a z).2.1⟩
  have aft2 := aft.freeze (fv := fo) rel'.sub fun a z => (kf a z).2.1
  have rel3 := rel2.pushF (o := .tup vs) n
  refine k (.ref q) _ _ fp' [] rel3 (aft2.pushF n rel2.sub) (VOk.flat0 ?_)
  have rf : Rf (upd (addF F' H' fo) q (.tup vs)) (.tup ds) (.ref q) := ⟨q, vs, rfl, upd_same, hlen, Rfs.sub (rel2.pushF_sub n) _ _ rfs⟩
  rcases hs with ⟨h1, rfl⟩ | ⟨_, rfl⟩
  · exact ⟨rfl, by simp only [imm]; exact vo.imms h1, rf⟩
  · exact ⟨rfl, rf⟩
theorem r_lst {es : List E} {asts : List Expr} {pos : Pos} {ts : List Ts} {s : Shp} (h : PA X asts (tEs G W B Γ (purs es) es ts)) (hn : (ts.all fun t => t.2.isNone && cv t.1 s) = true) (hl : es.length ≤ lim) (hts : ts.length = es.length) :
    PE X (.List asts pos) (tE G W B Γ (pur (.lst s es)) (.lst s es) (.O s, none)) := by
  refine PE_imp (pe_lst h) ?_
  rintro σ H Q ⟨env, F, fp, rel, k⟩
  simp only [evE, pur] at k
  refine ⟨env, F, fp, rel, KA.bind1 k ?_⟩
  rintro ds env' vs F' H' fp' fo rel' aft vo k
  obtain ⟨l1, l2⟩ := vo.len
  have hlen : ds.length ≤ lim := by omega
  refine ⟨by rw [← lim_eq]; omega, fun q n => ?_⟩
  obtain ⟨nf, kf⟩ := vo.fo
  obtain ⟨fz, f', a1, a2, a3, a4⟩ := vo.conv rel'.sub hn
  have rel2 := rel'.freeze (fv := fz) fun a z => ⟨(kf a (a1 a z)).1, rel.pnew (kf a (a1 a z)).2.1⟩
  have aft2 := aft.freeze (fv := fz) rel'.sub fun a z => (kf a (a1 a z)).2.1
  have rel3 := rel2.push (o := .lst vs) n (fun xs e => by cases e)
  have qf : q ∉ f' := fun z => by
    obtain ⟨o, e⟩ := (kf q (a2 q z).1).2.2.1
    rw [n] at e; cases e
  refine k (.ref q) _ _ fp' (q :: f') rel3 (aft2.push n) ⟨?_, List.nodup_cons.mpr ⟨qf, a3⟩, fun _ a z => ?_, fun i e => by cases e⟩
  · refine ⟨q, vs, ds, f', rfl, rfl, upd_same, rel2.notF n, hlen, Ows.keep (Sub.refl _) a4 fun a z => ⟨upd_ne fun e => qf (e ▸ z), ?_⟩, rfl⟩
    rw [addF_out (a2 a z).2]; exact (kf a (a2 a z).1).2.2.2
  · rcases List.mem_cons.mp z with rfl | y
    · exact ⟨rel'.notin n, .inr (aft.fr.gone n)⟩
    · exact ⟨(kf a (a2 a y).1).1, (kf a (a2 a y).1).2.1⟩

/-! ### argument lists -/
theorem r_nil : PA X [] (tEs G W B Γ true [] []) := by
  refine PA_imp pa_nil ?_
  rintro σ H Q ⟨env, F, fp, rel, k⟩
  simp only [evEs] at k
  exact k [] F H fp [] rel Aft.refl ⟨rfl, rfl, rfl⟩
theorem VOks.weak {σ : L2.St} {env' : Env} {K : PySem.W.Frag} {p p1 : Bool} {fp fp' : Fps} {H F' H' : Hp} (hp : p = true → p1 = true) : ∀ {ts : List Ts} {ds : List D} {vs : List V} {fo : List Addr}, VOks K σ env' p1 fp H F' H' fp' ts ds vs fo → VOks K σ env' p fp H F' H' fp' ts ds vs fo
  | [], _, _, _, h => h
  | t :: ts, _, _, fo, h => by
    obtain ⟨d, dr, v, vr, f1, f2, rfl, rfl, h1, h2, h3, h4⟩ := h
    exact ⟨d, dr, v, vr, f1, f2, rfl, rfl, h1.weak hp, VOks.weak hp h2, h3, h4⟩
theorem VOks.from {σ : L2.St} {env env1 env' : Env} {K : PySem.W.Frag} {p1 p2 : Bool} {fp fp1 fp' : Fps} {F H F1 H1 F' H' : Hp} (f : Aft p1 env fp F H env1 fp1 F1 H1) : ∀ {ts : List Ts} {ds : List D} {vs : List V} {fo : List Addr}, VOks K σ env' p2 fp1 H1 F' H' fp' ts ds vs fo → VOks K σ env' (p1 && p2) fp H F' H' fp' ts ds vs fo
  | [], _, _, _, h => h
  | t :: ts, _, _, fo, h => by
    obtain ⟨d, dr, v, vr, f1, f2, rfl, rfl, h1, h2, h3, h4⟩ := h
    exact ⟨d, dr, v, vr, f1, f2, rfl, rfl, VOk.from f h1, VOks.from f h2, h3, h4⟩
theorem r_cons {e : E} {es : List E} {ast : Expr} {asts : List Expr} {t : Ts} {ts : List Ts} (ha : PE X ast (tE G W B Γ (pur e) e t)) (hr : PA X asts (tEs G W B Γ (purs es) es ts)) (hb : (t.2.isNone || purs es) = true)
    (hs : starEach (ast :: asts) X.env = (false, eval ast X.env) :: starEach asts X.env) : PA X (ast :: asts) (tEs G W B Γ (purs (e :: es)) (e :: es) (t :: ts)) := by
  refine PA_imp (pa_cons ha hr hs) ?_
  rintro σ H Q ⟨env, F, fp, rel, k⟩
  simp only [evEs, purs] at k
  refine ⟨env, F, fp, rel, ?_⟩
  cases r : evE G.C e env with
  | no => rw [r] at k; exact k.elim
  | exc x e' => rw [r] at k; exact k
  | ok q1 =>
    obtain ⟨d, env1⟩ := q1
    rw [r] at k
    simp only [R.bind_ok] at k
    intro v F1 H1 fp1 f1 rel1 aft1 vo1
    refine ⟨env1, F1, fp1, rel1, ?_⟩
    cases r2 : evEs G.C es env1 with
    | no => rw [r2] at k; exact k.elim
    | exc x e' => rw [r2] at k; exact k
    | ok q2 =>
      obtain ⟨ds, env2⟩ := q2
      rw [r2] at k
      simp only [R.bind_ok] at k
      intro vs F2 H2 fp2 f2 rel2 aft2 vo2
      have hp2 : t.2 ≠ none → purs es = true := fun z => by
        rw [Bool.or_eq_true, Option.isNone_iff_eq_none] at hb
        exact hb.resolve_left z
      have v1 := vo1.stay aft2 hp2
      have dj : t.2 = none → ∀ a ∈ f1, a ∉ f2 := fun z a h1 h2 => by
        obtain ⟨⟨o, q, _⟩, _⟩ := vo1.ow.dom a h1
        rcases (vo2.fo.2 a h2).2.1 with y | y
        · cases hq : purs es with
          | true => simp [PP, hq] at y
          | false => simp [PP, hq] at y; exact (vo1.own z a h1).1 (by simpa using y)
        · rw [q] at y; cases y
      refine k (v :: vs) F2 H2 fp2 (if t.2 = none then f1 ++ f2 else f2) rel2 (aft1.trans aft2) ⟨d, ds, v, vs, f1, f2, rfl, rfl, v1, VOks.from aft1 vo2, fun z => ?_, fun z => ?_⟩
      · rw [if_pos z]; exact ⟨rfl, dj z⟩
      · rw [if_neg z]
end
end VC
end

section
set_option Elab.async false
set_option linter.all false
set_option autoImplicit false
set_option maxRecDepth 100000
/-! VC6: operators, comparisons, truth, items. -/
namespace VC
open PySem PySem.Spec L2

section
variable {G : Gd} {sg : List Sig} {W : WX} {S : SC} {X : Cx} {B : Bs} {Γ : SEnv} {tc : TC}

/-! ### members -/
theorem flat_fp {K : PySem.W.Frag} {F H : Hp} {s : Shp} {d : D} {v : V} {fp : List Addr} (h : flat s = true) (o : Ow K F H s d v fp) : fp = [] := by
  cases s <;> simp [flat] at h <;> simp only [Ow] at o <;> exact o.1
theorem flats_fp {K : PySem.W.Frag} {F H : Hp} {s : Shp} (h : flat s = true) : ∀ {ds : List D} {vs : List V} {fp : List Addr}, Ows (Ow K F H s) ds vs fp → fp = []
  | [], _, _, o => o.2
  | d :: ds, _, _, o => by
    obtain ⟨v, r, f1, f2, rfl, rfl, h1, h2⟩ := o
    rw [flat_fp h h1, flats_fp h h2]; rfl
theorem ows_F {K : PySem.W.Frag} {F H : Hp} : ∀ {ds : List D} {vs : List V}, Rfs F ds vs → Ows (Ow K F H .F) ds vs []
  | [], _, h => ⟨h, rfl⟩
  | d :: ds, _, h => by
    obtain ⟨v, r, rfl, h1, h2⟩ := h
    exact ⟨v, r, [], [], rfl, rfl, ⟨rfl, h1⟩, ows_F h2⟩
theorem ows_A {K : PySem.W.Frag} {F H : Hp} : ∀ {ds : List D} {vs : List V}, imms ds = true → Rfs F ds vs → Ows (Ow K F H .A) ds vs []
  | [], _, _, h => ⟨h, rfl⟩
  | d :: ds, _, i, h => by
    obtain ⟨v, r, rfl, h1, h2⟩ := h
    simp only [imms, Bool.and_eq_true] at i
    exact ⟨v, r, [], [], rfl, rfl, ⟨rfl, i.1, h1⟩, ows_A i.2 h2⟩
theorem ows_Q {K : PySem.W.Frag} {F H : Hp} : ∀ {ds : List D} {vs : List V}, Rps K F ds vs → Ows (Ow K F H .Q) ds vs []
  | [], _, h => ⟨h, rfl⟩
  | d :: ds, _, h => by
    obtain ⟨v, r, rfl, h1, h2⟩ := h
    exact ⟨v, r, [], [], rfl, rfl, ⟨rfl, h1⟩, ows_Q h2⟩
theorem Ows.get {R : D → V → List Addr → Prop} : ∀ {ds : List D} {vs : List V} {i : Nat} {d : D} {fp : List Addr}, Ows R ds vs fp → ds[i]? = some d → ∃ v f, vs[i]? = some v ∧ R d v f ∧ ∀ a ∈ f, a ∈ fp
  | [], _, _, _, _, _, e => by simp at e
  | d :: ds, _, 0, x, _, h, e => by
    obtain ⟨v, r, f1, f2, rfl, rfl, h1, h2⟩ := h
    simp at e; subst e
    exact ⟨v, f1, by simp, h1, fun a z => List.mem_append_left _ z⟩
  | d :: ds, _, i + 1, x, _, h, e => by
    obtain ⟨v, r, f1, f2, rfl, rfl, h1, h2⟩ := h
    obtain ⟨u, f, q1, q2, q3⟩ := Ows.get (i := i) h2 (by simpa using e)
    exact ⟨u, f, by simpa using q1, q2, fun a z => List.mem_append_right _ (q3 a z)⟩
theorem Ows.get0 {R : D → V → List Addr → Prop} {ds : List D} {vs : List V} {i : Nat} {d : D} (h : Ows R ds vs []) (e : ds[i]? = some d) : ∃ v, vs[i]? = some v ∧ R d v [] := by
  obtain ⟨v, f, a, b, c⟩ := Ows.get h e
  have : f = [] := by
    cases f with
    | nil => rfl
    | cons x r => exact absurd (c x List.mem_cons_self) (by simp)
  subst this
  exact ⟨v, a, b⟩
/-- a list that is read for its members -/
theorem mem_lst {K : PySem.W.Frag} {F H : Hp} (sF : Sub F H) {s a : Shp} {ds : List D} {v : V} {f : List Addr} (o : Ow K F H s (.lst ds) v f) (h : csh s = some a) :
    ∃ l vs, v = .ref l ∧ SqL K H l vs ∧ ds.length ≤ lim ∧ Ows (Ow K F H a) ds vs [] ∧ flat a = true ∧ (s ≠ .Q → H l = some (.lst vs)) := by
  cases s <;> simp [csh] at h
  · subst h
    simp only [Ow, Rp] at o
    obtain ⟨rfl, l, vs, rfl, h1, h2, h3⟩ := o
    exact ⟨l, vs, rfl, sqL_sub sF h1, h2, ows_Q h3, rfl, fun z => absurd rfl z⟩
  · simp [Ow, imm] at o
  · subst h
    simp only [Ow, Rf] at o
    obtain ⟨rfl, l, vs, rfl, h1, h2, h3⟩ := o
    exact ⟨l, vs, rfl, SqL.of (sF _ _ h1), h2, ows_F h3, rfl, fun _ => sF _ _ h1⟩
  · obtain ⟨hf, rfl⟩ := h
    simp only [Ow] at o
    obtain ⟨l, vs, ds', fps, e, rfl, h1, h2, h3, h4, rfl⟩ := o
    cases e
    have e := flats_fp hf h4
    subst e
    exact ⟨l, vs, rfl, SqL.of h1, h3, h4, hf, fun _ => h1⟩
  · obtain ⟨hf, rfl⟩ := h
    simp only [Ow] at o
    obtain ⟨_, _, _, _, _, e, _⟩ := o
    cases e
  · obtain ⟨hf, rfl⟩ := h
    simp only [Ow] at o
    obtain ⟨_, _, _, _, _, e, _⟩ := o
    cases e
theorem mem_tup {K : PySem.W.Frag} {F H : Hp} (sF : Sub F H) {s a : Shp} {ds : List D} {v : V} {f : List Addr} (o : Ow K F H s (.tup ds) v f) (h : csh s = some a) :
    ∃ l vs, v = .ref l ∧ SqT K H l vs ∧ ds.length ≤ lim ∧ Ows (Ow K F H a) ds vs [] ∧ flat a = true := by
  cases s <;> simp [csh] at h
  · subst h
    simp only [Ow, Rp] at o
    obtain ⟨rfl, l, vs, rfl, h1, h2, h3⟩ := o
    exact ⟨l, vs, rfl, sqT_sub sF h1, h2, ows_Q h3, rfl⟩
  · subst h
    simp only [Ow, Rf, imm] at o
    obtain ⟨rfl, hi, l, vs, rfl, h1, h2, h3⟩ := o
    exact ⟨l, vs, rfl, SqT.of (sF _ _ h1), h2, ows_A hi h3, rfl⟩
  · subst h
    simp only [Ow, Rf] at o
    obtain ⟨rfl, l, vs, rfl, h1, h2, h3⟩ := o
    exact ⟨l, vs, rfl, SqT.of (sF _ _ h1), h2, ows_F h3, rfl⟩
  · obtain ⟨hf, rfl⟩ := h
    simp only [Ow] at o
    obtain ⟨_, _, _, _, e, _⟩ := o
    cases e
  · obtain ⟨hf, rfl⟩ := h
    simp only [Ow] at o
    obtain ⟨_, _, _, _, _, e, _⟩ := o
    cases e
  · obtain ⟨hf, rfl⟩ := h
    simp only [Ow] at o
    obtain ⟨_, _, _, _, _, e, _⟩ := o
    cases e

/-! ### two operands -/
theorem two {ea eb : E} {ta tb t : Ts} {p : Bool} {F H : Hp} {fp : Fps} {env : Env} {σ : L2.St} {Q : VK} {k : D → D → Env → R (D × Env)} {R2 : V → V → Hp → Prop} (rel : Rel G.K B Γ env F fp σ H)
    (h : KE G W B Γ σ t p env F H fp ((evE G.C ea env).bind fun q => (evE G.C eb q.2).bind fun r => k q.1 r.1 r.2) Q) (hp : p = true → pur ea = true ∧ pur eb = true) (hb : ta.2.isNone = true ∨ pur eb = true)
    (fin : ∀ d1 d2 env2 v1 v2 F2 H2 fp2 f1 f2, Rel G.K B Γ env2 F2 fp2 σ H2 → Aft p env fp F H env2 fp2 F2 H2 → VOk G.K σ env2 ta.1 ta.2 p fp H d1 v1 F2 H2 fp2 f1 → VOk G.K σ env2 tb.1 tb.2 p fp H d2 v2 F2 H2 fp2 f2 → KE G W B Γ σ t p env F H fp (k d1 d2 env2) Q → R2 v1 v2 H2) :
    tE G W B Γ (pur ea) ea ta σ H (fun x H1 => tE G W B Γ (pur eb) eb tb σ H1 (fun y H2 => R2 x y H2)) := by
  refine ⟨env, F, fp, rel, ?_⟩
  cases r : evE G.C ea env with
  | no => rw [r] at h; exact h.elim
  | exc x e' => rw [r] at h; exact h
  | ok q1 =>
    rw [r] at h
    intro v F1 H1 fp1 f1 rel1 aft1 vo1
    refine ⟨q1.2, F1, fp1, rel1, ?_⟩
    cases r2 : evE G.C eb q1.2 with
    | no => simp only [R.bind_ok, r2] at h; exact h.elim
    | exc x e' => simp only [R.bind_ok, r2] at h; exact h
    | ok q2 =>
      simp only [R.bind_ok, r2] at h
      intro v2 F2 H2 fp2 f2 rel2 aft2 vo2
      have hp' : p = true → (pur ea && pur eb) = true := fun z => by simp [hp z]
      exact fin q1.1 q2.1 q2.2 v v2 F2 H2 fp2 f1 f2 rel2 ((aft1.trans aft2).weak hp') ((vo1.stay aft2 fun z => hb.resolve_left fun y => z (by simpa using y)).weak hp') ((VOk.from aft1 vo2).weak hp') h
/-- a scalar is handed on -/
theorem KE.sca {p : Bool} {F H F2 H2 : Hp} {fp fp2 : Fps} {env env2 : Env} {σ : L2.St} {Q : VK} {d : D} {v : V} (k : KE G W B Γ σ (.A, none) p env F H fp (.ok (d, env2)) Q) (rel : Rel G.K B Γ env2 F2 fp2 σ H2) (aft : Aft p env fp F H env2 fp2 F2 H2)
    (hi : imm d = true) (hr : Rf F2 d v) : Q v H2 := k v F2 H2 fp2 [] rel aft (VOk.flat0 ⟨rfl, hi, hr⟩)
/-- a new list of members that are owned by nobody -/
theorem KE.lst {p : Bool} {F H F2 H2 : Hp} {fp fp2 : Fps} {env env2 : Env} {σ : L2.St} {Q : VK} {ds : List D} {vs : List V} {u : Shp} {q : Addr} (k : KE G W B Γ σ (.O u, none) p env F H fp (.ok (.lst ds, env2)) Q) (rel : Rel G.K B Γ env2 F2 fp2 σ H2) (aft : Aft p env fp F H env2 fp2 F2 H2)
    (n : H2 q = none) (hl : ds.length ≤ lim) (ho : Ows (Ow G.K F2 H2 u) ds vs []) : Q (.ref q) (upd H2 q (.lst vs)) := by
  refine k (.ref q) F2 _ fp2 [q] (rel.push n fun xs e => by cases e) (aft.push n) ⟨?_, by simp, fun _ a z => ?_, fun i e => by cases e⟩
  · exact ⟨q, vs, ds, [], rfl, rfl, upd_same, rel.notF n, hl, Ows.keep (Sub.refl _) ho fun a z => by simp at z, rfl⟩
  · have e : a = q := by simpa using z
    subst e
    exact ⟨rel.notin n, .inr (aft.fr.gone n)⟩

/-! ### reading -/
theorem VOk.rp {σ : L2.St} {env' : Env} {K : PySem.W.Frag} {s : Shp} {b : Option Nat} {p : Bool} {fp fp' : Fps} {H F' H' : Hp} {d : D} {v : V} {fv : List Addr} (o : VOk K σ env' s b p fp H d v F' H' fp' fv) (sF : Sub F' H') (h : rdOk s = true) : Rp K H' d v := o.ow.rp sF h
theorem rp_int {K : PySem.W.Frag} {H : Hp} {i : Int} {v : V} (h : Rp K H (.int i) v) : v = .int i := h
theorem rp_str {K : PySem.W.Frag} {H : Hp} {x : Str} {v : V} (h : Rp K H (.str x) v) : v = .str x ∧ PyData.strOk x = true ∧ x.length ≤ lim := h
mutual
theorem Rp.dp {K : PySem.W.Frag} {H : Hp} : ∀ (d : D) (v : V), plain d = true → Rp K H d v → Dp K H v (toPD d) ∧ (toPD d).canLay0 = true
  | .non, v, _, h => by have e : v = .non := h; subst e; exact ⟨.non, rfl⟩
  | .bl b, v, _, h => by have e : v = .bl b := h; subst e; exact ⟨.bl b, rfl⟩
  | .int i, v, _, h => by have e : v = .int i := h; subst e; exact ⟨.int i, rfl⟩
  | .str x, v, _, h => by obtain ⟨e, h1, _⟩ := rp_str h; subst e; exact ⟨.str x, by simpa [toPD, PyData.canLay0] using h1⟩
  | .tup ds, v, i, h => by
    simp only [Rp] at h
    obtain ⟨a, vs, rfl, h1, h2, h3⟩ := h
    obtain ⟨q1, q2⟩ := Rps.dp ds vs (by simpa [plain] using i) h3
    exact ⟨.tup h1 q1, by simpa [toPD, PyData.canLay0] using q2⟩
  | .lst ds, v, i, h => by
    simp only [Rp] at h
    obtain ⟨a, vs, rfl, h1, h2, h3⟩ := h
    obtain ⟨q1, q2⟩ := Rps.dp ds vs (by simpa [plain] using i) h3
    exact ⟨.lst h1 q1, by simpa [toPD, PyData.canLay0] using q2⟩
  | .dK _ _, _, i, _ => by simp [plain] at i
  | .dT _ _, _, i, _ => by simp [plain] at i
  | .st _, _, i, _ => by simp [plain] at i
  | .ins _ _ _, _, i, _ => by simp [plain] at i
  | .exc _ _ _, _, i, _ => by simp [plain] at i
theorem Rps.dp {K : PySem.W.Frag} {H : Hp} : ∀ (ds : List D) (vs : List V), plains ds = true → Rps K H ds vs → DpAll K H vs (toPDs ds) ∧ PyData.canLayAll0 (toPDs ds) = true
  | [], _, _, h => by simp only [Rps] at h; subst h; exact ⟨.nil, rfl⟩
  | d :: ds, _, i, h => by
    simp only [Rps] at h
    obtain ⟨v, r, rfl, h1, h2⟩ := h
    simp only [plains, Bool.and_eq_true] at i
    obtain ⟨q1, q2⟩ := Rp.dp d v i.1 h1
    obtain ⟨q3, q4⟩ := Rps.dp ds r i.2 h2
    exact ⟨.cons q1 q3, by simp [toPDs, PyData.canLayAll0, q2, q4]⟩
end
mutual
theorem dep_eq : ∀ d : D, plain d = true → (toPD d).depth = dep d
  | .non, _ => rfl
  | .bl _, _ => rfl
  | .int _, _ => rfl
  | .str _, _ => rfl
  | .tup ds, i => by simp only [toPD, PyData.depth, dep, deps_eq ds (by simpa [plain] using i)]
  | .lst ds, i => by simp only [toPD, PyData.depth, dep, deps_eq ds (by simpa [plain] using i)]
  | .dK _ _, i => by simp [plain] at i
  | .dT _ _, i => by simp [plain] at i
  | .st _, i => by simp [plain] at i
  | .ins _ _ _, i => by simp [plain] at i
  | .exc _ _ _, i => by simp [plain] at i
theorem deps_eq : ∀ ds : List D, plains ds = true → PyData.depthAll (toPDs ds) = deps ds
  | [], _ => rfl
  | d :: ds, i => by
    simp only [plains, Bool.and_eq_true] at i
    simp only [toPDs, PyData.depthAll, deps, dep_eq d i.1, deps_eq ds i.2]
end
theorem eqOk_of {K : PySem.W.Frag} {H : Hp} {d : D} {v : V} (h : eqOk d = true) (r : Rp K H d v) : Dp K H v (toPD d) ∧ SeqAt.shaped (toPD d) = true := by
  unfold eqOk at h
  simp only [Bool.and_eq_true, decide_eq_true_eq] at h
  obtain ⟨q1, q2⟩ := Rp.dp d v h.1 r
  refine ⟨q1, ?_⟩
  unfold SeqAt.shaped
  rw [q2, dep_eq d h.1, Bool.true_and, decide_eq_true_eq]
  omega
theorem Rp.tru {K : PySem.W.Frag} {H : Hp} {d : D} {v : V} {k : Bool} (r : Rp K H d v) (h : truD d = some k) : TruV K v H k := by
  cases d <;> simp only [truD, Option.some.injEq, reduceCtorEq] at h
  · have e : v = .non := r; subst e; exact h.symm
  · rename_i b; have e : v = .bl b := r; subst e; exact h.symm
  · rename_i i; have e : v = .int i := r; subst e; exact h.symm
  · rename_i x
    obtain ⟨e, _, h2⟩ := rp_str r
    subst e
    refine ⟨by rw [← lim_eq]; exact h2, ?_⟩
    rw [← h]
    cases hx : x.length with
    | zero => simp
    | succ n => simp; omega
  · rename_i ds
    simp only [Rp] at r
    obtain ⟨a, vs, rfl, h1, h2, h3⟩ := r
    refine .inr (.inl ⟨vs, h1, ?_⟩)
    rw [← h]
    have := h3.len
    cases ds <;> cases vs <;> simp at this ⊢
  · rename_i ds
    simp only [Rp] at r
    obtain ⟨a, vs, rfl, h1, h2, h3⟩ := r
    refine .inl ⟨vs, h1, ?_⟩
    rw [← h]
    have := h3.len
    cases ds <;> cases vs <;> simp at this ⊢
  · rename_i ks ds
    simp only [Rp] at r
    obtain ⟨a, kvs, rfl, h1, h2, h3⟩ := r
    refine .inr (.inr ⟨kvs, h1, ?_⟩)
    rw [← h, ← h2]
    cases kvs <;> simp

/-! ### binary operators -/
def opB : Op2 → Operator → Bool
  | .addA, .Add => true | .addL _, .Add => true | .sub, .Sub => true | .mul, .Mult => true | .mulL _, .Mult => true
  | .fdiv, .FloorDiv => true | .mod, .Mod => true | .pow, .Pow => true
  | _, _ => false
theorem bin_of {op : Operator} {o : Op2} {ea eb : E} {ta tb t : Ts} {a b : Expr} {pos : Pos} {r : R2} (ho : OpR X (binaryOp op) r) (ha : PE X a (tE G W B Γ (pur ea) ea ta)) (hb : PE X b (tE G W B Γ (pur eb) eb tb)) (hc : (ta.2.isNone || pur eb) = true)
    (fin : ∀ {d1 d2 env env2 v1 v2 F2 H2 fp2 f1 f2 z F H fp σ Q}, Rel G.K B Γ env2 F2 fp2 σ H2 → Aft (pur (.bin o ea eb)) env fp F H env2 fp2 F2 H2 → VOk G.K σ env2 ta.1 ta.2 (pur (.bin o ea eb)) fp H d1 v1 F2 H2 fp2 f1 → VOk G.K σ env2 tb.1 tb.2 (pur (.bin o ea eb)) fp H d2 v2 F2 H2 fp2 f2 →
      op2D o d1 d2 = some z → KE G W B Γ σ t (pur (.bin o ea eb)) env F H fp (.ok (z, env2)) Q → r v1 v2 H2 Q) : PE X (.BinOp a op b pos) (tE G W B Γ (pur (.bin o ea eb)) (.bin o ea eb) t) := by
  refine PE_imp (pe_op ho ha hb) ?_
  rintro σ H Q ⟨env, F, fp, rel, k⟩
  simp only [evE] at k
  refine two (k := fun d1 d2 env2 => ofO (op2D o d1 d2) env2) rel k (fun z => by simpa [pur] using z) (by simpa using hc) ?_
  intro d1 d2 env2 v1 v2 F2 H2 fp2 f1 f2 rel2 aft2 vo1 vo2 k2
  cases e : op2D o d1 d2 with
  | none => rw [e] at k2; exact k2.elim
  | some z => rw [e] at k2; exact fin rel2 aft2 vo1 vo2 e k2
theorem r_bin (xo : XOk G sg W S X) {op : Operator} {o : Op2} {ea eb : E} {ta tb t : Ts} {a b : Expr} {pos : Pos} (hop : opB o op = true) (ha : PE X a (tE G W B Γ (pur ea) ea ta)) (hb : PE X b (tE G W B Γ (pur eb) eb tb)) (hc : (ta.2.isNone || pur eb) = true)
    (hT : (op2Ty o ta.1 tb.1).map (fun s => (s, (none : Option Nat))) = some t) : PE X (.BinOp a op b pos) (tE G W B Γ (pur (.bin o ea eb)) (.bin o ea eb) t) := by
  have sc : ∀ {s : Shp}, (if (rdOk ta.1 && rdOk tb.1) = true then some Shp.A else none) = some s → s = .A ∧ rdOk ta.1 = true ∧ rdOk tb.1 = true := fun {s} h => by
    split at h
    · rename_i q
      rw [Bool.and_eq_true] at q
      cases h
      exact ⟨rfl, q⟩
    · cases h
  rw [Option.map_eq_some_iff] at hT
  obtain ⟨s, hs, rfl⟩ := hT
  cases o <;> cases op <;> simp only [opB, Bool.false_eq_true] at hop
  case addA.Add =>
    obtain ⟨rfl, q1, q2⟩ := sc hs
    refine bin_of (OpR.or op_add op_add_str) ha hb hc ?_
    intro d1 d2 env env2 v1 v2 F2 H2 fp2 f1 f2 z F H fp σ Q rel aft o1 o2 e k
    have r1 := o1.rp rel.sub q1
    have r2 := o2.rp rel.sub q2
    cases d1 <;> cases d2 <;> simp only [op2D, reduceCtorEq, Option.some.injEq, Option.ite_none_right_eq_some] at e
    · subst e; cases rp_int r1; cases rp_int r2
      exact .inl ⟨_, _, rfl, rfl, k.sca rel aft rfl rfl⟩
    · obtain ⟨hl, rfl⟩ := e
      obtain ⟨rfl, s1, l1⟩ := rp_str r1
      obtain ⟨rfl, s2, l2⟩ := rp_str r2
      rename_i x y
      refine .inr ⟨_, _, rfl, rfl, by rw [← lim_eq]; exact hl, k.sca rel aft rfl ⟨rfl, ?_, ?_⟩⟩
      · unfold PyData.strOk at s1 s2 ⊢
        show ((x ++ y).cps).all _ = true
        have : (x ++ y).cps = x.cps ++ y.cps := rfl
        rw [this, Array.all_append, s1, s2]; rfl
      · have : (x ++ y).length = x.length + y.length := by show (x.cps ++ y.cps).size = _; rw [Array.size_append]; rfl
        omega
  case addL.Add u =>
    simp only [op2Ty] at hs
    split at hs
    · rename_i c1 c2 h1 h2
      split at hs
      · rename_i q
        simp only [Bool.and_eq_true, Bool.not_eq_true'] at q
        obtain ⟨⟨⟨g1, g2⟩, n1⟩, n2⟩ := q
        cases hs
        refine bin_of op_cat ha hb hc ?_
        intro d1 d2 env env2 v1 v2 F2 H2 fp2 f1 f2 z F H fp σ Q rel aft o1 o2 e k
        cases d1 <;> cases d2 <;> simp only [op2D, reduceCtorEq, Option.some.injEq, Option.ite_none_right_eq_some] at e
        obtain ⟨hl, rfl⟩ := e
        obtain ⟨l, vs, rfl, _, _, w1, _, st1⟩ := mem_lst rel.sub o1.ow h1
        obtain ⟨l', vs', rfl, _, _, w2, _, st2⟩ := mem_lst rel.sub o2.ow h2
        have e1 : ta.1 ≠ .Q := fun z => by rw [z] at n1; exact absurd n1 (by decide)
        have e2 : tb.1 ≠ .Q := fun z => by rw [z] at n2; exact absurd n2 (by decide)
        refine ⟨l, l', vs, vs', rfl, rfl, st1 e1, st2 e2, by rw [← lim_eq, w1.len, w2.len]; exact hl, fun q n => ?_⟩
        refine k.lst rel aft n (by rw [List.length_append]; exact hl) ?_
        have := Ows.append (w1.imp fun d v f _ h => Ow.ge0 g1 h) (w2.imp fun d v f _ h => Ow.ge0 g2 h)
        exact this
      · cases hs
    · cases hs
  case sub.Sub =>
    obtain ⟨rfl, q1, q2⟩ := sc hs
    refine bin_of op_sub ha hb hc ?_
    intro d1 d2 env env2 v1 v2 F2 H2 fp2 f1 f2 z F H fp σ Q rel aft o1 o2 e k
    cases d1 <;> cases d2 <;> simp only [op2D, reduceCtorEq, Option.some.injEq] at e
    subst e; cases rp_int (o1.rp rel.sub q1); cases rp_int (o2.rp rel.sub q2)
    exact ⟨_, _, rfl, rfl, k.sca rel aft rfl rfl⟩
  case mul.Mult =>
    obtain ⟨rfl, q1, q2⟩ := sc hs
    refine bin_of op_mul ha hb hc ?_
    intro d1 d2 env env2 v1 v2 F2 H2 fp2 f1 f2 z F H fp σ Q rel aft o1 o2 e k
    cases d1 <;> cases d2 <;> simp only [op2D, reduceCtorEq, Option.some.injEq, Option.ite_none_right_eq_some] at e
    obtain ⟨hm, rfl⟩ := e
    cases rp_int (o1.rp rel.sub q1); cases rp_int (o2.rp rel.sub q2)
    refine ⟨_, _, rfl, rfl, ?_, k.sca rel aft rfl rfl⟩
    unfold mulOk at hm
    simpa [CMul] using hm
  case mulL.Mult u =>
    simp only [op2Ty] at hs
    split at hs
    · rename_i c1 h1
      split at hs
      · rename_i q
        simp only [Bool.and_eq_true, Bool.not_eq_true'] at q
        obtain ⟨⟨g1, n1⟩, q2⟩ := q
        cases hs
        refine bin_of op_rep ha hb hc ?_
        intro d1 d2 env env2 v1 v2 F2 H2 fp2 f1 f2 z F H fp σ Q rel aft o1 o2 e k
        cases d1 <;> cases d2 <;> simp only [op2D, reduceCtorEq, Option.some.injEq, Option.ite_none_right_eq_some] at e
        rename_i ds n
        obtain ⟨⟨a1, a2, hl⟩, rfl⟩ := e
        obtain ⟨l, vs, rfl, _, _, w1, _, st1⟩ := mem_lst rel.sub o1.ow h1
        have e1 : ta.1 ≠ .Q := fun z => by rw [z] at n1; exact absurd n1 (by decide)
        cases rp_int (o2.rp rel.sub q2)
        refine ⟨l, n, vs, rfl, rfl, st1 e1, by omega, by omega, by rw [← lim_eq, w1.len]; exact hl, fun q nn => ?_⟩
        have rp : ∀ m : Nat, Ows (Ow G.K F2 H2 u) (List.replicate m ds).flatten (List.replicate m vs).flatten [] := by
          intro m
          induction m with
          | zero => exact ⟨rfl, rfl⟩
          | succ m ih =>
            rw [List.replicate_succ, List.replicate_succ, List.flatten_cons, List.flatten_cons]
            exact Ows.append (w1.imp fun d v f _ h => Ow.ge0 g1 h) ih
        refine k.lst rel aft nn ?_ (rp _)
        rw [List.length_flatten]
        simp only [List.map_replicate, List.sum_replicate_nat]
        rw [Nat.mul_comm]; exact hl
      · cases hs
    · cases hs
  case fdiv.FloorDiv =>
    obtain ⟨rfl, q1, q2⟩ := sc hs
    refine bin_of op_fdivN ha hb hc ?_
    intro d1 d2 env env2 v1 v2 F2 H2 fp2 f1 f2 z F H fp σ Q rel aft o1 o2 e k
    cases d1 <;> cases d2 <;> simp only [op2D, reduceCtorEq, Option.some.injEq, Option.ite_none_right_eq_some] at e
    obtain ⟨hm, rfl⟩ := e
    cases rp_int (o1.rp rel.sub q1); cases rp_int (o2.rp rel.sub q2)
    exact ⟨_, _, rfl, rfl, hm, k.sca rel aft rfl rfl⟩
  case mod.Mod =>
    obtain ⟨rfl, q1, q2⟩ := sc hs
    refine bin_of op_modN ha hb hc ?_
    intro d1 d2 env env2 v1 v2 F2 H2 fp2 f1 f2 z F H fp σ Q rel aft o1 o2 e k
    cases d1 <;> cases d2 <;> simp only [op2D, reduceCtorEq, Option.some.injEq, Option.ite_none_right_eq_some] at e
    obtain ⟨hm, rfl⟩ := e
    cases rp_int (o1.rp rel.sub q1); cases rp_int (o2.rp rel.sub q2)
    exact ⟨_, _, rfl, rfl, hm, k.sca rel aft rfl rfl⟩
  case pow.Pow =>
    obtain ⟨rfl, q1, q2⟩ := sc hs
    refine bin_of op_pow ha hb hc ?_
    intro d1 d2 env env2 v1 v2 F2 H2 fp2 f1 f2 z F H fp σ Q rel aft o1 o2 e k
    cases d1 <;> cases d2 <;> simp only [op2D, reduceCtorEq, Option.some.injEq, Option.ite_none_right_eq_some] at e
    obtain ⟨hm, rfl⟩ := e
    cases rp_int (o1.rp rel.sub q1); cases rp_int (o2.rp rel.sub q2)
    exact ⟨_, _, rfl, rfl, hm, k.sca rel aft rfl rfl⟩
end
end VC
end

section
set_option Elab.async false
set_option linter.all false
set_option autoImplicit false
set_option maxRecDepth 100000
/-! VC7: comparisons, tests, and | or | not, items, slices. -/
namespace VC
open PySem PySem.Spec L2

section
variable {G : Gd} {sg : List Sig} {W : WX} {S : SC} {X : Cx} {B : Bs} {Γ : SEnv} {tc : TC}

/-- an outcome that an exception passes through -/
structure Oc {β : Type} (G : Gd) (W : WX) (B : Bs) (Γ : SEnv) (σ : L2.St) (O : R β → Prop) : Prop where
  no : ¬ O .no
  exc : ∀ x e, O (.exc x e) → KX G W B Γ σ x e
theorem oc_KE {t : Ts} {p : Bool} {env : Env} {F H : Hp} {fp : Fps} {Q : VK} {σ : L2.St} : Oc G W B Γ σ (fun r => KE G W B Γ σ t p env F H fp r Q) := ⟨fun h => h, fun _ _ h => h⟩
theorem oc_KT {p : Bool} {env : Env} {F H : Hp} {fp : Fps} {Q : Bool → Hp → Prop} {σ : L2.St} : Oc G W B Γ σ (fun r => KT G W B Γ σ p env F H fp r Q) := ⟨fun h => h, fun _ _ h => h⟩
theorem oneO {β : Type} {O : R β → Prop} {ea : E} {ta : Ts} {p : Bool} {F H : Hp} {fp : Fps} {env : Env} {σ : L2.St} {k : D → Env → R β} {R1 : V → Hp → Prop} (oc : Oc G W B Γ σ O) (rel : Rel G.K B Γ env F fp σ H)
    (h : O ((evE G.C ea env).bind fun q => k q.1 q.2)) (hp : p = true → pur ea = true)
    (fin : ∀ d1 env1 v1 F1 H1 fp1 f1, Rel G.K B Γ env1 F1 fp1 σ H1 → Aft p env fp F H env1 fp1 F1 H1 → Aft (pur ea) env fp F H env1 fp1 F1 H1 → VOk G.K σ env1 ta.1 ta.2 p fp H d1 v1 F1 H1 fp1 f1 → VOk G.K σ env1 ta.1 ta.2 (pur ea) fp H d1 v1 F1 H1 fp1 f1 → O (k d1 env1) → R1 v1 H1) :
    tE G W B Γ (pur ea) ea ta σ H R1 := by
  refine ⟨env, F, fp, rel, ?_⟩
  cases r : evE G.C ea env with
  | no => rw [r] at h; exact oc.no h
  | exc x e' => rw [r] at h; exact oc.exc _ _ h
  | ok q1 =>
    rw [r] at h
    intro v F1 H1 fp1 f1 rel1 aft1 vo1
    exact fin q1.1 q1.2 v F1 H1 fp1 f1 rel1 (aft1.weak hp) aft1 (vo1.weak hp) vo1 h
theorem twoO {β : Type} {O : R β → Prop} {ea eb : E} {ta tb : Ts} {p : Bool} {F H : Hp} {fp : Fps} {env : Env} {σ : L2.St} {k : D → D → Env → R β} {R2 : V → V → Hp → Prop} (oc : Oc G W B Γ σ O) (rel : Rel G.K B Γ env F fp σ H)
    (h : O ((evE G.C ea env).bind fun q => (evE G.C eb q.2).bind fun r => k q.1 r.1 r.2)) (hp : p = true → pur ea = true ∧ pur eb = true) (hb : ta.2.isNone = true ∨ pur eb = true)
    (fin : ∀ d1 d2 env2 v1 v2 F2 H2 fp2 f1 f2, Rel G.K B Γ env2 F2 fp2 σ H2 → Aft p env fp F H env2 fp2 F2 H2 → VOk G.K σ env2 ta.1 ta.2 p fp H d1 v1 F2 H2 fp2 f1 → VOk G.K σ env2 tb.1 tb.2 p fp H d2 v2 F2 H2 fp2 f2 → O (k d1 d2 env2) → R2 v1 v2 H2) :
    tE G W B Γ (pur ea) ea ta σ H (fun x H1 => tE G W B Γ (pur eb) eb tb σ H1 (fun y H2 => R2 x y H2)) := by
  refine ⟨env, F, fp, rel, ?_⟩
  cases r : evE G.C ea env with
  | no => rw [r] at h; exact oc.no h
  | exc x e' => rw [r] at h; exact oc.exc _ _ h
  | ok q1 =>
    rw [r] at h
    intro v F1 H1 fp1 f1 rel1 aft1 vo1
    refine ⟨q1.2, F1, fp1, rel1, ?_⟩
    cases r2 : evE G.C eb q1.2 with
    | no => simp only [R.bind_ok, r2] at h; exact oc.no h
    | exc x e' => simp only [R.bind_ok, r2] at h; exact oc.exc _ _ h
    | ok q2 =>
      simp only [R.bind_ok, r2] at h
      intro v2 F2 H2 fp2 f2 rel2 aft2 vo2
      have hp' : p = true → (pur ea && pur eb) = true := fun z => by simp [hp z]
      exact fin q1.1 q2.1 q2.2 v v2 F2 H2 fp2 f1 f2 rel2 ((aft1.trans aft2).weak hp') ((vo1.stay aft2 fun z => hb.resolve_left fun y => z (by simpa using y)).weak hp') ((VOk.from aft1 vo2).weak hp') h

/-! ### comparisons -/
def cmpB : CO → CmpOp → Bool
  | .lt, .Lt => true | .le, .LtE => true | .gt, .Gt => true | .ge, .GtE => true | .eq, .Eq => true | .ne, .NotEq => true
  | .inn, .In => true | .nin, .NotIn => true | .isN, .Is => true | .notN, .IsNot => true
  | _, _ => false
theorem cmp_rule (xo : XOk G sg W S X) {o : CO} {op : CmpOp} (h : cmpB o op = true) : ∃ r : R2, OpR X (compareOp op) r ∧ ∀ {d1 d2 v1 v2 H k} {Q : VK}, Rp G.K H d1 v1 → Rp G.K H d2 v2 → cmpD o d1 d2 = some k → Q (.bl k) H → r v1 v2 H Q := by
  have hu64 : X.A.units + 64 < cLine := by have := xo.hu; omega
  cases o <;> cases op <;> simp only [cmpB, Bool.false_eq_true] at h
  case lt.Lt =>
    refine ⟨_, OpR.or op_lt op_lt_str, fun {d1 d2 v1 v2 H k Q} r1 r2 e q => ?_⟩
    cases d1 <;> cases d2 <;> simp only [cmpD, reduceCtorEq, Option.some.injEq] at e
    · subst e; cases rp_int r1; cases rp_int r2; exact .inl ⟨_, _, rfl, rfl, q⟩
    · subst e; obtain ⟨rfl, _⟩ := rp_str r1; obtain ⟨rfl, _⟩ := rp_str r2; exact .inr ⟨_, _, rfl, rfl, q⟩
  case le.LtE =>
    refine ⟨_, op_le, fun {d1 d2 v1 v2 H k Q} r1 r2 e q => ?_⟩
    cases d1 <;> cases d2 <;> simp only [cmpD, reduceCtorEq, Option.some.injEq] at e
    subst e; cases rp_int r1; cases rp_int r2; exact ⟨_, _, rfl, rfl, q⟩
  case gt.Gt =>
    refine ⟨_, op_gt, fun {d1 d2 v1 v2 H k Q} r1 r2 e q => ?_⟩
    cases d1 <;> cases d2 <;> simp only [cmpD, reduceCtorEq, Option.some.injEq] at e
    subst e; cases rp_int r1; cases rp_int r2; exact ⟨_, _, rfl, rfl, q⟩
  case ge.GtE =>
    refine ⟨_, op_ge, fun {d1 d2 v1 v2 H k Q} r1 r2 e q => ?_⟩
    cases d1 <;> cases d2 <;> simp only [cmpD, reduceCtorEq, Option.some.injEq] at e
    subst e; cases rp_int r1; cases rp_int r2; exact ⟨_, _, rfl, rfl, q⟩
  case eq.Eq =>
    refine ⟨_, op_eqD hu64, fun {d1 d2 v1 v2 H k Q} r1 r2 e q => ?_⟩
    rw [← xo.K] at r1 r2
    simp only [cmpD, Option.ite_none_right_eq_some, Option.some.injEq] at e
    obtain ⟨⟨e1, e2⟩, rfl⟩ := e
    obtain ⟨a1, a2⟩ := eqOk_of e1 r1
    obtain ⟨b1, b2⟩ := eqOk_of e2 r2
    exact ⟨_, _, a1, b1, a2, b2, q⟩
  case ne.NotEq =>
    refine ⟨_, op_neD hu64, fun {d1 d2 v1 v2 H k Q} r1 r2 e q => ?_⟩
    rw [← xo.K] at r1 r2
    simp only [cmpD, Option.ite_none_right_eq_some, Option.some.injEq] at e
    obtain ⟨⟨e1, e2⟩, rfl⟩ := e
    obtain ⟨a1, a2⟩ := eqOk_of e1 r1
    obtain ⟨b1, b2⟩ := eqOk_of e2 r2
    exact ⟨_, _, a1, b1, a2, b2, q⟩
  case inn.In =>
    refine ⟨_, op_inD xo.hu, fun {d1 d2 v1 v2 H k Q} r1 r2 e q => ?_⟩
    rw [← xo.K] at r1 r2
    cases d2 <;> simp only [cmpD, inD, reduceCtorEq, Option.ite_none_right_eq_some, Option.some.injEq] at e
    obtain ⟨⟨e1, e2⟩, rfl⟩ := e
    obtain ⟨a1, a2⟩ := eqOk_of e1 r1
    obtain ⟨b1, b2⟩ := eqOk_of e2 r2
    rename_i ds
    refine ⟨_, toPDs ds, a1, by simpa [toPD] using b1, a2, by simpa [toPD] using b2, ?_⟩
    have : ∀ l : List D, ((toPDs l).any fun z => PyData.eqv z (toPD d1)) = l.any fun z => eqD z d1 := by
      intro l
      induction l with
      | nil => rfl
      | cons x l ih => simp only [toPDs, List.any_cons, ih, eqD]
    rw [this]; exact q
  case nin.NotIn =>
    refine ⟨_, op_notInD xo.hu, fun {d1 d2 v1 v2 H k Q} r1 r2 e q => ?_⟩
    rw [← xo.K] at r1 r2
    cases d2 <;> simp only [cmpD, inD, Option.map_none, reduceCtorEq, Option.map_eq_some_iff, Option.ite_none_right_eq_some, Option.some.injEq] at e
    obtain ⟨k', ⟨⟨e1, e2⟩, rfl⟩, rfl⟩ := e
    obtain ⟨a1, a2⟩ := eqOk_of e1 r1
    obtain ⟨b1, b2⟩ := eqOk_of e2 r2
    rename_i ds
    refine ⟨_, toPDs ds, a1, by simpa [toPD] using b1, a2, by simpa [toPD] using b2, ?_⟩
    have : ∀ l : List D, ((toPDs l).any fun z => PyData.eqv z (toPD d1)) = l.any fun z => eqD z d1 := by
      intro l
      induction l with
      | nil => rfl
      | cons x l ih => simp only [toPDs, List.any_cons, ih, eqD]
    rw [this]; exact q
  case isN.Is =>
    refine ⟨_, op_isN, fun {d1 d2 v1 v2 H k Q} r1 r2 e q => ?_⟩
    cases d2 <;> simp only [cmpD, reduceCtorEq, Option.some.injEq] at e
    refine ⟨r2, ?_⟩
    have : decide (v1 = .non) = k := by
      rw [← e]
      cases d1 <;> simp only [Rp] at r1
      case non => subst r1; rfl
      case bl => subst r1; rfl
      case int => subst r1; rfl
      case str => obtain ⟨rfl, _⟩ := r1; rfl
      all_goals
        obtain ⟨a, vs, rfl, _⟩ := r1
        rfl
    rw [this]; exact q
  case notN.IsNot =>
    refine ⟨_, op_notN, fun {d1 d2 v1 v2 H k Q} r1 r2 e q => ?_⟩
    cases d2 <;> simp only [cmpD, reduceCtorEq, Option.some.injEq] at e
    refine ⟨r2, ?_⟩
    have : (!decide (v1 = .non)) = k := by
      rw [← e]
      cases d1 <;> simp only [Rp] at r1
      case non => subst r1; rfl
      case bl => subst r1; rfl
      case int => subst r1; rfl
      case str => obtain ⟨rfl, _⟩ := r1; rfl
      all_goals
        obtain ⟨a, vs, rfl, _⟩ := r1
        rfl
    rw [this]; exact q
variable {ea eb ec : E} {ta tb tcc t : Ts} {a b c : Expr} {pos : Pos} {o o' : CO} {op op' : CmpOp}
theorem r_cmp (xo : XOk G sg W S X) (h : cmpB o op = true) (ha : PE X a (tE G W B Γ (pur ea) ea ta)) (hb : PE X b (tE G W B Γ (pur eb) eb tb)) (hm : behindInMarks op b = false) (hc : (ta.2.isNone || pur eb) = true) (q1 : rdOk ta.1 = true) (q2 : rdOk tb.1 = true) :
    PE X (.Compare a [op] [b] pos) (tE G W B Γ (pur (.cmp o ea eb)) (.cmp o ea eb) (.A, none)) := by
  obtain ⟨r, ho, hr⟩ := cmp_rule xo h
  refine PE_imp (pe_cmpR ho ha hb hm) ?_
  rintro σ H Q ⟨env, F, fp, rel, k⟩
  simp only [evE] at k
  refine twoO (p := pur (.cmp o ea eb)) (k := fun d1 d2 env2 => ofO ((cmpD o d1 d2).map .bl) env2) oc_KE rel k (fun z => by simpa [pur] using z) (by simpa using hc) ?_
  intro d1 d2 env2 v1 v2 F2 H2 fp2 f1 f2 rel2 aft2 o1 o2 k2
  cases e : cmpD o d1 d2 with
  | none => rw [e] at k2; exact k2.elim
  | some z => rw [e] at k2; exact hr (o1.rp rel2.sub q1) (o2.rp rel2.sub q2) e (k2.sca rel2 aft2 rfl rfl)
theorem rt_cmp (xo : XOk G sg W S X) (h : cmpB o op = true) (ha : PE X a (tE G W B Γ (pur ea) ea ta)) (hb : PE X b (tE G W B Γ (pur eb) eb tb)) (hm : behindInMarks op b = false) (hc : (ta.2.isNone || pur eb) = true) (q1 : rdOk ta.1 = true) (q2 : rdOk tb.1 = true) :
    PT X (.Compare a [op] [b] pos) (tTt G W B Γ (pur (.cmp o ea eb)) (.cmp o ea eb)) := by
  obtain ⟨r, ho, hr⟩ := cmp_rule xo h
  refine PT_imp (pt_cmpR ho ha hb hm) ?_
  rintro σ H Q ⟨env, F, fp, rel, k⟩
  have e0 : (evE G.C (.cmp o ea eb) env).bind truR = (evE G.C ea env).bind fun q => (evE G.C eb q.2).bind fun r => ofO (cmpD o q.1 r.1) r.2 := by
    simp only [evE]
    cases evE G.C ea env with
    | no => rfl
    | exc x e => rfl
    | ok q =>
      simp only [R.bind_ok]
      cases evE G.C eb q.2 with
      | no => rfl
      | exc x e => rfl
      | ok r => simp only [R.bind_ok]; cases cmpD o q.1 r.1 <;> rfl
  rw [e0] at k
  refine twoO (p := pur (.cmp o ea eb)) (k := fun d1 d2 env2 => ofO (cmpD o d1 d2) env2) oc_KT rel k (fun z => by simpa [pur] using z) (by simpa using hc) ?_
  intro d1 d2 env2 v1 v2 F2 H2 fp2 f1 f2 rel2 aft2 o1 o2 k2
  cases e : cmpD o d1 d2 with
  | none => rw [e] at k2; exact k2.elim
  | some z => rw [e] at k2; exact hr (o1.rp rel2.sub q1) (o2.rp rel2.sub q2) e ⟨z, rfl, k2 F2 H2 fp2 rel2 aft2⟩
/-- a chain of two comparisons, as a value or as a test -/
theorem chn_go {β : Type} {O : R β → Prop} {p : Bool} {F H : Hp} {fp : Fps} {env : Env} {σ : L2.St} {r r' : R2} {Q : VK} {fb : Bool → Env → R β} (oc : Oc G W B Γ σ O)
    (hr : ∀ {d1 d2 v1 v2 H k} {Q : VK}, Rp G.K H d1 v1 → Rp G.K H d2 v2 → cmpD o d1 d2 = some k → Q (.bl k) H → r v1 v2 H Q)
    (hr' : ∀ {d1 d2 v1 v2 H k} {Q : VK}, Rp G.K H d1 v1 → Rp G.K H d2 v2 → cmpD o' d1 d2 = some k → Q (.bl k) H → r' v1 v2 H Q)
    (hc : (ta.2.isNone || pur eb) = true) (hc' : (tb.2.isNone || pur ec) = true) (q1 : rdOk ta.1 = true) (q2 : rdOk tb.1 = true) (q3 : rdOk tcc.1 = true) (rel : Rel G.K B Γ env F fp σ H) (hp : p = true → (pur ea = true ∧ pur eb = true) ∧ pur ec = true)
    (h : O ((evE G.C ea env).bind fun q => (evE G.C eb q.2).bind fun s => match cmpD o q.1 s.1 with
      | some true => (evE G.C ec s.2).bind fun u => match cmpD o' s.1 u.1 with
        | some k => fb k u.2
        | none => .no
      | some false => fb false s.2
      | none => .no))
    (fin : ∀ k env2 F2 H2 fp2, Rel G.K B Γ env2 F2 fp2 σ H2 → Aft p env fp F H env2 fp2 F2 H2 → O (fb k env2) → Q (.bl k) H2) :
    tChain r r' (tE G W B Γ (pur ea) ea ta) (tE G W B Γ (pur eb) eb tb) (tE G W B Γ (pur ec) ec tcc) σ H Q := by
  refine twoO (p := pur ea && pur eb) (k := fun d1 d2 env2 => match cmpD o d1 d2 with
      | some true => (evE G.C ec env2).bind fun u => match cmpD o' d2 u.1 with
        | some k => fb k u.2
        | none => .no
      | some false => fb false env2
      | none => .no) oc rel h (fun z => by simpa using z) (by simpa using hc) ?_
  intro d1 d2 env2 v1 v2 F2 H2 fp2 f1 f2 rel2 aft2 o1 o2 k2
  have w2 : p = true → (pur ea && pur eb) = true := fun z => by simp [hp z]
  cases e : cmpD o d1 d2 with
  | none => simp only [e] at k2; exact (oc.no k2).elim
  | some z =>
    simp only [e] at k2
    refine hr (o1.rp rel2.sub q1) (o2.rp rel2.sub q2) e ⟨z, rfl, ?_⟩
    cases z with
    | false =>
      rw [if_neg (by decide)]
      exact fin false env2 F2 H2 fp2 rel2 (aft2.weak w2) k2
    | true =>
      rw [if_pos rfl]
      refine oneO (p := pur ec) (k := fun d3 env3 => match cmpD o' d2 d3 with
        | some k => fb k env3
        | none => .no) oc rel2 k2 id ?_
      intro d3 env3 v3 F3 H3 fp3 f3 rel3 _ aft3 _ o3 k3
      cases e' : cmpD o' d2 d3 with
      | none => simp only [e'] at k3; exact (oc.no k3).elim
      | some z' =>
        simp only [e'] at k3
        have o2' := o2.stay aft3 fun y => by
          rw [Bool.or_eq_true, Option.isNone_iff_eq_none] at hc'
          exact hc'.resolve_left y
        exact hr' (o2'.rp rel3.sub q2) (o3.rp rel3.sub q3) e' (fin z' env3 F3 H3 fp3 rel3 ((aft2.trans aft3).weak fun y => by simp [hp y]) k3)
theorem r_chn (xo : XOk G sg W S X) (h : cmpB o op = true) (h' : cmpB o' op' = true) (ha : PE X a (tE G W B Γ (pur ea) ea ta)) (hb : PE X b (tE G W B Γ (pur eb) eb tb)) (hcc : PE X c (tE G W B Γ (pur ec) ec tcc)) (hm : behindInMarks op' c = false)
    (hc : (ta.2.isNone || pur eb) = true) (hc' : (tb.2.isNone || pur ec) = true) (q1 : rdOk ta.1 = true) (q2 : rdOk tb.1 = true) (q3 : rdOk tcc.1 = true) :
    PE X (.Compare a [op, op'] [b, c] pos) (tE G W B Γ (pur (.chn o o' ea eb ec)) (.chn o o' ea eb ec) (.A, none)) := by
  obtain ⟨r, ho, hr⟩ := cmp_rule xo h
  obtain ⟨r', ho', hr'⟩ := cmp_rule xo h'
  refine PE_imp (pe_chain ho ho' ha hb hcc hm) ?_
  rintro σ H Q ⟨env, F, fp, rel, k⟩
  have e0 : evE G.C (.chn o o' ea eb ec) env = (evE G.C ea env).bind fun q => (evE G.C eb q.2).bind fun s => match cmpD o q.1 s.1 with
      | some true => (evE G.C ec s.2).bind fun u => match cmpD o' s.1 u.1 with
        | some k => (fun k e => R.ok (D.bl k, e)) k u.2
        | none => .no
      | some false => (fun k e => R.ok (D.bl k, e)) false s.2
      | none => .no := by
    simp only [evE]
    cases evE G.C ea env with
    | no => rfl
    | exc x e => rfl
    | ok q =>
      simp only [R.bind_ok]
      cases evE G.C eb q.2 with
      | no => rfl
      | exc x e => rfl
      | ok s =>
        simp only [R.bind_ok]
        cases cmpD o q.1 s.1 with
        | none => rfl
        | some z =>
          cases z with
          | false => rfl
          | true =>
            simp only
            cases evE G.C ec s.2 with
            | no => rfl
            | exc x e => rfl
            | ok u => simp only [R.bind_ok]; cases cmpD o' s.1 u.1 <;> rfl
  rw [e0] at k
  refine chn_go (p := pur (.chn o o' ea eb ec)) (fb := fun k e => R.ok (D.bl k, e)) oc_KE hr hr' hc hc' q1 q2 q3 rel (fun z => by simpa [pur] using z) k ?_
  intro k env2 F2 H2 fp2 rel2 aft2 k2
  exact k2.sca rel2 aft2 rfl rfl
theorem rt_chn (xo : XOk G sg W S X) (h : cmpB o op = true) (h' : cmpB o' op' = true) (ha : PE X a (tE G W B Γ (pur ea) ea ta)) (hb : PE X b (tE G W B Γ (pur eb) eb tb)) (hcc : PE X c (tE G W B Γ (pur ec) ec tcc)) (hm : behindInMarks op' c = false)
    (hc : (ta.2.isNone || pur eb) = true) (hc' : (tb.2.isNone || pur ec) = true) (q1 : rdOk ta.1 = true) (q2 : rdOk tb.1 = true) (q3 : rdOk tcc.1 = true) :
    PT X (.Compare a [op, op'] [b, c] pos) (tTt G W B Γ (pur (.chn o o' ea eb ec)) (.chn o o' ea eb ec)) := by
  obtain ⟨r, ho, hr⟩ := cmp_rule xo h
  obtain ⟨r', ho', hr'⟩ := cmp_rule xo h'
  refine PT_imp (pt_chain ho ho' ha hb hcc hm) ?_
  rintro σ H Q ⟨env, F, fp, rel, k⟩
  have e0 : (evE G.C (.chn o o' ea eb ec) env).bind truR = (evE G.C ea env).bind fun q => (evE G.C eb q.2).bind fun s => match cmpD o q.1 s.1 with
      | some true => (evE G.C ec s.2).bind fun u => match cmpD o' s.1 u.1 with
        | some k => (fun k e => R.ok (k, e)) k u.2
        | none => .no
      | some false => (fun k e => R.ok (k, e)) false s.2
      | none => .no := by
    simp only [evE]
    cases evE G.C ea env with
    | no => rfl
    | exc x e => rfl
    | ok q =>
      simp only [R.bind_ok]
      cases evE G.C eb q.2 with
      | no => rfl
      | exc x e => rfl
      | ok s =>
        simp only [R.bind_ok]
        cases cmpD o q.1 s.1 with
        | none => rfl
        | some z =>
          cases z with
          | false => rfl
          | true =>
            simp only
            cases evE G.C ec s.2 with
            | no => rfl
            | exc x e => rfl
            | ok u => simp only [R.bind_ok]; cases cmpD o' s.1 u.1 <;> rfl
  rw [e0] at k
  refine chn_go (p := pur (.chn o o' ea eb ec)) (fb := fun k e => R.ok (k, e)) oc_KT hr hr' hc hc' q1 q2 q3 rel (fun z => by simpa [pur] using z) k ?_
  intro k env2 F2 H2 fp2 rel2 aft2 k2
  exact ⟨k, rfl, k2 F2 H2 fp2 rel2 aft2⟩

/-! ### truth -/
/-- a test that has no road of its own -/
def plainT : Expr → Bool
  | .UnaryOp _ _ _ => false
  | .BoolOp _ _ _ => false
  | .IfExp _ _ _ _ => false
  | .Compare _ _ _ _ => false
  | _ => true
theorem rt_gen (xo : XOk G sg W S X) (ha : PE X a (tE G W B Γ (pur ea) ea ta)) (q : rdOk ta.1 = true) (hs : plainT a = true) : PT X a (tTt G W B Γ (pur ea) ea) := by
  refine PT_imp (pt_truth ha (by cases a <;> first | exact fun _ => rfl | (simp [plainT] at hs; done))) ?_
  rintro σ H Q ⟨env, F, fp, rel, k⟩
  refine oneO (p := pur ea) (k := fun d e => truR (d, e)) oc_KT rel k id ?_
  intro d1 env1 v1 F1 H1 fp1 f1 rel1 aft1 _ o1 _ k1
  cases e : truD d1 with
  | none => simp only [truR, e] at k1; exact k1.elim
  | some z =>
    simp only [truR, e] at k1
    refine ⟨z, ?_, k1 F1 H1 fp1 rel1 aft1⟩
    rw [xo.K]
    exact (o1.rp rel1.sub q).tru e
theorem rt_not (ha : PT X a (tTt G W B Γ (pur ea) ea)) : PT X (.UnaryOp .Not a pos) (tTt G W B Γ (pur (.not ea)) (.not ea)) := by
  refine PT_imp (pt_not ha) ?_
  rintro σ H Q ⟨env, F, fp, rel, k⟩
  refine ⟨env, F, fp, rel, ?_⟩
  simp only [evE, pur] at k
  revert k
  cases evE G.C ea env with
  | no => exact fun k => k
  | exc x e => exact fun k => k
  | ok q =>
    simp only [R.bind_ok, truR]
    cases truD q.1 with
    | none => exact fun k => k
    | some z => exact fun k => k
theorem r_not (xo : XOk G sg W S X) (ha : PE X a (tE G W B Γ (pur ea) ea ta)) (q : rdOk ta.1 = true) : PE X (.UnaryOp .Not a pos) (tE G W B Γ (pur (.not ea)) (.not ea) (.A, none)) := by
  refine PE_imp (pe_notT ha) ?_
  rintro σ H Q ⟨env, F, fp, rel, k⟩
  simp only [evE, pur] at k
  refine oneO (p := pur ea) (k := fun d e => (truR (d, e)).bind fun r => .ok (.bl (!r.1), r.2)) oc_KE rel k id ?_
  intro d1 env1 v1 F1 H1 fp1 f1 rel1 aft1 _ o1 _ k1
  cases e : truD d1 with
  | none => simp only [truR, e] at k1; exact k1.elim
  | some z =>
    simp only [truR, e] at k1
    refine ⟨z, ?_, k1.sca rel1 aft1 rfl rfl⟩
    rw [xo.K]
    exact (o1.rp rel1.sub q).tru e
/-- the tests of an and, an or -/
def PTl (G : Gd) (W : WX) (B : Bs) (Γ : SEnv) (X : Cx) : List E → List Expr → Prop
  | [], as => as = []
  | e :: es, as => ∃ a r, as = a :: r ∧ PT X a (tTt G W B Γ (pur e) e) ∧ PTl G W B Γ X es r
def PEl (G : Gd) (W : WX) (B : Bs) (Γ : SEnv) (X : Cx) : List E → List Ts → List Expr → Prop
  | [], ts, as => ts = [] ∧ as = []
  | e :: es, ts, as => ∃ t tr a r, ts = t :: tr ∧ as = a :: r ∧ PE X a (tE G W B Γ (pur e) e t) ∧ PEl G W B Γ X es tr r
def tAnds (G : Gd) (W : WX) (B : Bs) (Γ : SEnv) (es : List E) : TT := fun σ H Q => ∃ env F fp, Rel G.K B Γ env F fp σ H ∧ KT G W B Γ σ (purs es) env F H fp ((evAnd G.C es env).bind truR) Q
def tOrs (G : Gd) (W : WX) (B : Bs) (Γ : SEnv) (es : List E) : TT := fun σ H Q => ∃ env F fp, Rel G.K B Γ env F fp σ H ∧ KT G W B Γ σ (purs es) env F H fp ((evOr G.C es env).bind truR) Q
theorem PW_imp {X : Cx} {e : Expr} {t t' : TT} (h : PW X e t) (k : ∀ σ H Q, t' σ H Q → t σ H Q) : PW X e t' := ⟨fun wh pins s σ H Q I q => h.run wh pins s σ H Q I (k σ H Q q)⟩
theorem and_tru (C : Calls) (e e2 : E) (es : List E) (env : Env) : (evAnd C (e :: e2 :: es) env).bind truR = ((evE C e env).bind truR).bind fun q => if q.1 = true then (evAnd C (e2 :: es) q.2).bind truR else .ok (false, q.2) := by
  rw [evAnd]
  cases evE C e env with
  | no => rfl
  | exc x e => rfl
  | ok q =>
    simp only [R.bind_ok]
    cases h : truD q.1 with
    | none => simp [truR, ofO, h]
    | some z =>
      cases z
      · simp [truR, ofO, h]
      · simp [truR, ofO, h]
theorem or_tru (C : Calls) (e e2 : E) (es : List E) (env : Env) : (evOr C (e :: e2 :: es) env).bind truR = ((evE C e env).bind truR).bind fun q => if q.1 = true then .ok (true, q.2) else (evOr C (e2 :: es) q.2).bind truR := by
  rw [evOr]
  cases evE C e env with
  | no => rfl
  | exc x e => rfl
  | ok q =>
    simp only [R.bind_ok]
    cases h : truD q.1 with
    | none => simp [truR, ofO, h]
    | some z =>
      cases z
      · simp [truR, ofO, h]
      · simp [truR, ofO, h]
theorem rw_and : ∀ {es : List E} {as : List Expr}, es ≠ [] → PTl G W B Γ X es as → PW X (.BoolOp .And as pos) (tAnds G W B Γ es)
  | [], _, n, _ => absurd rfl n
  | [e], _, _, h => by
    obtain ⟨a, r, rfl, h1, h2⟩ := h
    have h2 : r = [] := h2
    subst h2
    refine PW_imp (pw_and1 h1) ?_
    rintro σ H Q ⟨env, F, fp, rel, k⟩
    refine ⟨env, F, fp, rel, ?_⟩
    have e0 : evAnd G.C [e] env = evE G.C e env := by
      rw [evAnd]; cases evE G.C e env <;> rfl
    rw [e0] at k
    simpa [purs] using k
  | e :: e2 :: es, _, _, h => by
    obtain ⟨a, r, rfl, h1, h2⟩ := h
    obtain ⟨a2, r2, rfl, h3, h4⟩ := id h2
    refine PW_imp (pw_and h1 (rw_and (by simp) h2)) ?_
    rintro σ H Q ⟨env, F, fp, rel, k⟩
    rw [and_tru] at k
    refine ⟨env, F, fp, rel, KT.bindT k ?_⟩
    intro b env' F' H' fp' rel' aft' k'
    cases b with
    | true =>
      rw [if_pos rfl]
      exact ⟨env', F', fp', rel', KT.later aft' (fun z => by simpa [purs] using z) k'⟩
    | false =>
      rw [if_neg (by decide)]
      exact k' F' H' fp' rel' (aft'.weak fun z => by simp [purs] at z; exact z.1)
theorem rw_or : ∀ {es : List E} {as : List Expr}, es ≠ [] → PTl G W B Γ X es as → PW X (.BoolOp .Or as pos) (tOrs G W B Γ es)
  | [], _, n, _ => absurd rfl n
  | [e], _, _, h => by
    obtain ⟨a, r, rfl, h1, h2⟩ := h
    have h2 : r = [] := h2
    subst h2
    refine PW_imp (pw_or1 h1) ?_
    rintro σ H Q ⟨env, F, fp, rel, k⟩
    refine ⟨env, F, fp, rel, ?_⟩
    have e0 : evOr G.C [e] env = evE G.C e env := by
      rw [evOr]; cases evE G.C e env <;> rfl
    rw [e0] at k
    simpa [purs] using k
  | e :: e2 :: es, _, _, h => by
    obtain ⟨a, r, rfl, h1, h2⟩ := h
    obtain ⟨a2, r2, rfl, h3, h4⟩ := id h2
    refine PW_imp (pw_or h1 (rw_or (by simp) h2)) ?_
    rintro σ H Q ⟨env, F, fp, rel, k⟩
    rw [or_tru] at k
    refine ⟨env, F, fp, rel, KT.bindT k ?_⟩
    intro b env' F' H' fp' rel' aft' k'
    cases b with
    | false =>
      rw [if_neg (by decide)]
      exact ⟨env', F', fp', rel', KT.later aft' (fun z => by simpa [purs] using z) k'⟩
    | true =>
      rw [if_pos rfl]
      exact k' F' H' fp' rel' (aft'.weak fun z => by simp [purs] at z; exact z.1)
theorem rt_and {es : List E} {as : List Expr} (n : es ≠ []) (h : PTl G W B Γ X es as) : PT X (.BoolOp .And as pos) (tTt G W B Γ (pur (.and es)) (.and es)) := by
  refine PT_imp (rw_and n h).pt ?_
  rintro σ H Q ⟨env, F, fp, rel, k⟩
  refine ⟨env, F, fp, rel, ?_⟩
  simpa only [evE, pur] using k
theorem rt_or {es : List E} {as : List Expr} (n : es ≠ []) (h : PTl G W B Γ X es as) : PT X (.BoolOp .Or as pos) (tTt G W B Γ (pur (.or es)) (.or es)) := by
  refine PT_imp (rw_or n h).pt ?_
  rintro σ H Q ⟨env, F, fp, rel, k⟩
  refine ⟨env, F, fp, rel, ?_⟩
  simpa only [evE, pur] using k
/-- .. as values -/
def tAndVs (G : Gd) (W : WX) (B : Bs) (Γ : SEnv) (es : List E) : TE := fun σ H Q => ∃ env F fp, Rel G.K B Γ env F fp σ H ∧ KE G W B Γ σ (.A, none) (purs es) env F H fp (evAnd G.C es env) Q
def tOrVs (G : Gd) (W : WX) (B : Bs) (Γ : SEnv) (es : List E) : TE := fun σ H Q => ∃ env F fp, Rel G.K B Γ env F fp σ H ∧ KE G W B Γ σ (.A, none) (purs es) env F H fp (evOr G.C es env) Q
theorem re_and (xo : XOk G sg W S X) : ∀ {es : List E} {ts : List Ts} {as : List Expr}, es ≠ [] → (∀ t ∈ ts, t = ((.A, none) : Ts)) → PEl G W B Γ X es ts as → PE X (.BoolOp .And as pos) (tAndVs G W B Γ es)
  | [], _, _, n, _, _ => absurd rfl n
  | [e], _, _, _, k0, h => by
    obtain ⟨t, tr, a, r, rfl, rfl, h1, h2⟩ := h
    obtain ⟨rfl, rfl⟩ : tr = [] ∧ r = [] := h2
    obtain rfl := k0 t List.mem_cons_self
    refine PE_imp (pe_one h1) ?_
    rintro σ H Q ⟨env, F, fp, rel, k⟩
    refine ⟨env, F, fp, rel, ?_⟩
    have e0 : evAnd G.C [e] env = evE G.C e env := by
      rw [evAnd]; cases evE G.C e env <;> rfl
    rw [e0] at k
    simpa [purs] using k
  | e :: e2 :: es, _, _, _, k0, h => by
    obtain ⟨t, tr, a, r, rfl, rfl, h1, h2⟩ := h
    obtain ⟨t2, tr2, a2, r2, rfl, rfl, h3, h4⟩ := id h2
    obtain rfl := k0 t List.mem_cons_self
    refine PE_imp (pe_andT h1 (re_and xo (by simp) (fun t z => k0 t (List.mem_cons_of_mem _ z)) h2)) ?_
    rintro σ H Q ⟨env, F, fp, rel, k⟩
    rw [evAnd] at k
    refine oneO (p := pur e) (k := fun d env1 => (truR (d, env1)).bind fun r => if r.1 = true then evAnd G.C (e2 :: es) r.2 else .ok (d, env1)) oc_KE rel k id ?_
    intro d1 env1 v1 F1 H1 fp1 f1 rel1 aft1 _ o1 _ k1
    cases z : truD d1 with
    | none => simp only [truR, z] at k1; exact k1.elim
    | some b =>
      simp only [truR, z, ofO, R.bind_ok] at k1
      refine ⟨b, by rw [xo.K]; exact (o1.rp rel1.sub rfl).tru z, ?_⟩
      cases b with
      | true =>
        rw [if_pos rfl]
        exact ⟨env1, F1, fp1, rel1, KE.later aft1 (fun z => by simpa [purs] using z) k1⟩
      | false =>
        rw [if_neg (by decide)]
        exact k1 v1 F1 H1 fp1 f1 rel1 (aft1.weak fun z => by simp [purs] at z; exact z.1) (o1.weak fun z => by simp [purs] at z; exact z.1)
theorem re_or (xo : XOk G sg W S X) : ∀ {es : List E} {ts : List Ts} {as : List Expr}, es ≠ [] → (∀ t ∈ ts, t = ((.A, none) : Ts)) → PEl G W B Γ X es ts as → PE X (.BoolOp .Or as pos) (tOrVs G W B Γ es)
  | [], _, _, n, _, _ => absurd rfl n
  | [e], _, _, _, k0, h => by
    obtain ⟨t, tr, a, r, rfl, rfl, h1, h2⟩ := h
    obtain ⟨rfl, rfl⟩ : tr = [] ∧ r = [] := h2
    obtain rfl := k0 t List.mem_cons_self
    refine PE_imp (pe_one h1) ?_
    rintro σ H Q ⟨env, F, fp, rel, k⟩
    refine ⟨env, F, fp, rel, ?_⟩
    have e0 : evOr G.C [e] env = evE G.C e env := by
      rw [evOr]; cases evE G.C e env <;> rfl
    rw [e0] at k
    simpa [purs] using k
  | e :: e2 :: es, _, _, _, k0, h => by
    obtain ⟨t, tr, a, r, rfl, rfl, h1, h2⟩ := h
    obtain ⟨t2, tr2, a2, r2, rfl, rfl, h3, h4⟩ := id h2
    obtain rfl := k0 t List.mem_cons_self
    refine PE_imp (pe_orT h1 (re_or xo (by simp) (fun t z => k0 t (List.mem_cons_of_mem _ z)) h2)) ?_
    rintro σ H Q ⟨env, F, fp, rel, k⟩
    rw [evOr] at k
    refine oneO (p := pur e) (k := fun d env1 => (truR (d, env1)).bind fun r => if r.1 = true then .ok (d, env1) else evOr G.C (e2 :: es) r.2) oc_KE rel k id ?_
    intro d1 env1 v1 F1 H1 fp1 f1 rel1 aft1 _ o1 _ k1
    cases z : truD d1 with
    | none => simp only [truR, z] at k1; exact k1.elim
    | some b =>
      simp only [truR, z, ofO, R.bind_ok] at k1
      refine ⟨b, by rw [xo.K]; exact (o1.rp rel1.sub rfl).tru z, ?_⟩
      cases b with
      | false =>
        rw [if_neg (by decide)]
        exact ⟨env1, F1, fp1, rel1, KE.later aft1 (fun z => by simpa [purs] using z) k1⟩
      | true =>
        rw [if_pos rfl]
        exact k1 v1 F1 H1 fp1 f1 rel1 (aft1.weak fun z => by simp [purs] at z; exact z.1) (o1.weak fun z => by simp [purs] at z; exact z.1)
theorem r_and (xo : XOk G sg W S X) {es : List E} {ts : List Ts} {as : List Expr} (n : es ≠ []) (k0 : ∀ t ∈ ts, t = ((.A, none) : Ts)) (h : PEl G W B Γ X es ts as) : PE X (.BoolOp .And as pos) (tE G W B Γ (pur (.and es)) (.and es) (.A, none)) := by
  refine PE_imp (re_and xo n k0 h) ?_
  rintro σ H Q ⟨env, F, fp, rel, k⟩
  refine ⟨env, F, fp, rel, ?_⟩
  simpa only [evE, pur] using k
theorem r_or (xo : XOk G sg W S X) {es : List E} {ts : List Ts} {as : List Expr} (n : es ≠ []) (k0 : ∀ t ∈ ts, t = ((.A, none) : Ts)) (h : PEl G W B Γ X es ts as) : PE X (.BoolOp .Or as pos) (tE G W B Γ (pur (.or es)) (.or es) (.A, none)) := by
  refine PE_imp (re_or xo n k0 h) ?_
  rintro σ H Q ⟨env, F, fp, rel, k⟩
  refine ⟨env, F, fp, rel, ?_⟩
  simpa only [evE, pur] using k
theorem r_neg (ha : PE X a (tE G W B Γ (pur ea) ea ta)) (q : rdOk ta.1 = true) : PE X (.UnaryOp .USub a pos) (tE G W B Γ (pur (.neg ea)) (.neg ea) (.A, none)) := by
  refine PE_imp (pe_un un_neg ha) ?_
  rintro σ H Q ⟨env, F, fp, rel, k⟩
  simp only [evE, pur] at k
  refine oneO (p := pur ea) (k := fun d e => match d with | .int i => .ok (.int (-i), e) | _ => .no) oc_KE rel k id ?_
  intro d1 env1 v1 F1 H1 fp1 f1 rel1 aft1 _ o1 _ k1
  cases d1 <;> simp only [KE] at k1
  cases rp_int (o1.rp rel1.sub q)
  exact ⟨_, rfl, KE.sca (W := W) k1 rel1 aft1 rfl rfl⟩
theorem r_ite (hT : PT X c (tTt G W B Γ (pur ec) ec)) (ha : PE X a (tE G W B Γ (pur ea) ea ta)) (hb : PE X b (tE G W B Γ (pur eb) eb tb)) {s : Shp} (n1 : ta.2 = none) (n2 : tb.2 = none) (f1 : flat ta.1 = true) (f2 : flat tb.1 = true) (g1 : ge0 ta.1 s = true) (g2 : ge0 tb.1 s = true) :
    PE X (.IfExp c a b pos) (tE G W B Γ (pur (.ite ec ea eb)) (.ite ec ea eb) (s, none)) := by
  refine PE_imp (pe_ifExp hT ha hb) ?_
  rintro σ H Q ⟨env, F, fp, rel, k⟩
  have e0 : evE G.C (.ite ec ea eb) env = ((evE G.C ec env).bind truR).bind fun q => if q.1 = true then evE G.C ea q.2 else evE G.C eb q.2 := by
    simp only [evE]; cases evE G.C ec env <;> rfl
  rw [e0] at k
  refine ⟨env, F, fp, rel, KE.bindT k ?_⟩
  intro z env' F' H' fp' rel' aft' k'
  have go : ∀ {e : E} {u : Ts}, u.2 = none → flat u.1 = true → ge0 u.1 s = true → (pur (.ite ec ea eb) = true → pur ec = true ∧ pur e = true) → KE G W B Γ σ (s, none) (pur (.ite ec ea eb)) env F H fp (evE G.C e env') Q → tE G W B Γ (pur e) e u σ H' Q := by
    intro e u hn hf hg hp kk
    refine ⟨env', F', fp', rel', ?_⟩
    have kk := KE.later aft' hp kk
    revert kk
    cases evE G.C e env' with
    | no => exact fun kk => kk
    | exc x e => exact fun kk => kk
    | ok q =>
      intro kk v F2 H2 fp2 fv rel2 aft2 vo
      have ef := flat_fp hf vo.ow
      subst ef
      exact kk v F2 H2 fp2 [] rel2 aft2 (VOk.flat0 (Ow.ge0 hg vo.ow))
  cases z with
  | true =>
    rw [if_pos rfl]
    exact go n1 f1 g1 (fun z => by simp [pur] at z; exact z.1) k'
  | false =>
    rw [if_neg (by decide)]
    exact go n2 f2 g2 (fun z => by simp [pur] at z; exact ⟨z.1.1, z.2⟩) k'

/-! ### items, slices -/
theorem ixN_eq (n : Nat) (i : Int) : VC.ixN n i = L2.ixN n i := rfl
def noSl : Expr → Bool
  | .Slice _ _ _ _ => false
  | _ => true
theorem ow_str {K : PySem.W.Frag} {F H : Hp} {u : Shp} {y : Str} (h : flat u = true) (h1 : PyData.strOk y = true) (h2 : y.length ≤ lim) : Ow K F H u (.str y) (.str y) [] := by
  cases u <;> simp [flat] at h
  · exact ⟨rfl, rfl, h1, h2⟩
  · exact ⟨rfl, rfl, rfl, h1, h2⟩
  · exact ⟨rfl, rfl, h1, h2⟩
/-- a text in a place where a list may be: it is nothing owned -/
theorem str_flat {K : PySem.W.Frag} {F H : Hp} {s u : Shp} {x : Str} {v : V} {f : List Addr} (o : Ow K F H s (.str x) v f) (h : csh s = some u) : flat u = true ∧ v = .str x ∧ PyData.strOk x = true ∧ x.length ≤ lim := by
  cases s <;> simp [csh] at h
  · subst h; simp only [Ow] at o; exact ⟨rfl, rp_str o.2⟩
  · subst h; simp only [Ow] at o; exact ⟨rfl, o.2.2⟩
  · subst h; simp only [Ow] at o; exact ⟨rfl, o.2⟩
  · simp only [Ow] at o; obtain ⟨_, _, _, _, hd, _⟩ := o; cases hd
  · simp only [Ow] at o; obtain ⟨_, _, _, _, _, hd, _⟩ := o; cases hd
  · simp only [Ow] at o; obtain ⟨_, _, _, _, _, hd, _⟩ := o; cases hd
theorem strOk_one {x : Str} {c : Nat} (h : PyData.strOk x = true) (hc : c ∈ x.cps.toList) : PyData.strOk (⟨#[c]⟩ : Str) = true := by
  unfold PyData.strOk at h ⊢
  rw [Array.all_eq_true_iff_forall_mem] at h ⊢
  intro d hd
  have : d = c := by simpa using hd
  subst this
  exact h d (by simpa using hc)
theorem r_idx (xo : XOk G sg W S X) (ha : PE X a (tE G W B Γ (pur ea) ea ta)) (hb : PE X b (tE G W B Γ (pur eb) eb tb)) (hs : noSl b = true) (hc : (ta.2.isNone || pur eb) = true) (q : rdOk tb.1 = true) {u : Shp} (hu : csh ta.1 = some u) :
    PE X (.Subscript a b pos) (tE G W B Γ (pur (.idx ea eb)) (.idx ea eb) (u, none)) := by
  refine PE_imp (pe_ix ix_seq ha hb (by cases b <;> first | exact fun _ _ => rfl | (simp [noSl] at hs; done))) ?_
  rintro σ H Q ⟨env, F, fp, rel, k⟩
  simp only [evE] at k
  refine twoO (p := pur (.idx ea eb)) (k := fun d1 d2 env2 => ofO (idxD d1 d2) env2) oc_KE rel k (fun z => by simpa [pur] using z) (by simpa using hc) ?_
  intro d1 d2 env2 v1 v2 F2 H2 fp2 f1 f2 rel2 aft2 o1 o2 k2
  cases e : idxD d1 d2 with
  | none => rw [e] at k2; exact k2.elim
  | some z =>
    rw [e] at k2
    cases d1 <;> cases d2 <;> simp only [idxD, reduceCtorEq, Option.map_eq_some_iff, Option.bind_eq_some_iff] at e
    · rename_i x i
      obtain ⟨c, ⟨j, hj, hz⟩, rfl⟩ := e
      cases rp_int (o2.rp rel2.sub q)
      obtain ⟨hf, rfl, h1, h2⟩ := str_flat o1.ow hu
      have hm : c ∈ x.cps.toList := List.mem_of_getElem? hz
      refine .inr (.inr ⟨x, i, c, rfl, rfl, by rw [← lim_eq]; exact h2, ?_, k2 (.str ⟨#[c]⟩) F2 H2 fp2 [] rel2 aft2 (VOk.flat0 (ow_str hf (strOk_one h1 hm) (by show 1 ≤ lim; decide)))⟩)
      unfold atI
      rw [← ixN_eq, hj]; exact hz
    · rename_i ds i
      obtain ⟨j, hj, hz⟩ := e
      cases rp_int (o2.rp rel2.sub q)
      obtain ⟨l, vs, rfl, h1, h2, w, hf⟩ := mem_tup rel2.sub o1.ow hu
      obtain ⟨v, hv, ov⟩ := Ows.get0 w hz
      refine .inr (.inl ⟨l, vs, i, v, rfl, rfl, by rw [xo.K]; exact h1, ?_, k2 v F2 H2 fp2 [] rel2 aft2 (VOk.flat0 ov)⟩)
      unfold atI
      rw [w.len, ← ixN_eq, hj]; exact hv
    · rename_i ds i
      obtain ⟨j, hj, hz⟩ := e
      cases rp_int (o2.rp rel2.sub q)
      obtain ⟨l, vs, rfl, h1, h2, w, hf, _⟩ := mem_lst rel2.sub o1.ow hu
      obtain ⟨v, hv, ov⟩ := Ows.get0 w hz
      refine .inl ⟨l, vs, i, v, rfl, rfl, by rw [xo.K]; exact h1, ?_, k2 v F2 H2 fp2 [] rel2 aft2 (VOk.flat0 ov)⟩
      unfold atI
      rw [w.len, ← ixN_eq, hj]; exact hv
end
end VC
end

section
set_option Elab.async false
set_option linter.all false
set_option autoImplicit false
set_option maxRecDepth 100000
/-! VC8: calls of the text's own defs. -/
namespace VC
open PySem PySem.Spec L2

/-! ### lists of parts -/
theorem nd_of : ∀ {fp : Fps}, (∀ (i : Nat) (f : List Addr), fp[i]? = some f → f.Nodup) → (∀ (i j : Nat) (f g : List Addr) (a : Addr), i ≠ j → fp[i]? = some f → fp[j]? = some g → a ∈ f → a ∉ g) → fp.flatten.Nodup
  | [], _, _ => List.nodup_nil
  | f0 :: r, h1, h2 => by
    rw [List.flatten_cons]
    refine List.nodup_append.mpr ⟨h1 0 f0 (by simp), nd_of (fun i f e => h1 (i + 1) f (by simpa using e)) (fun i j f g a n e1 e2 => h2 (i + 1) (j + 1) f g a (by omega) (by simpa using e1) (by simpa using e2)), fun a ha b hb e => ?_⟩
    subst e
    obtain ⟨g, hg, hag⟩ := List.mem_flatten.mp hb
    obtain ⟨j, hj⟩ := List.getElem?_of_mem hg
    exact h2 0 (j + 1) f0 g a (by omega) (by simp) (by simpa using hj) ha hag
theorem mem_flat {fp : Fps} {a : Addr} (h : a ∈ fp.flatten) : ∃ (i : Nat) (f : List Addr), fp[i]? = some f ∧ a ∈ f := by
  obtain ⟨f, h1, h2⟩ := List.mem_flatten.mp h
  obtain ⟨i, hi⟩ := List.getElem?_of_mem h1
  exact ⟨i, f, hi, h2⟩
section
variable {K : PySem.W.Frag} {F H : Hp}
theorem RelE.at : ∀ {Γ : SEnv} {env : Env} {σ : L2.St} {fp : Fps} {i : Nat} {s : Shp}, RelE K F H Γ env σ fp → Γ[i]? = some s → ∃ o w f, env[i]? = some o ∧ σ[i]? = some w ∧ fp[i]? = some f ∧ Slot K F H s o w f
  | [], _, _, _, _, _, _, e => by simp at e
  | s :: Γ, _, _, _, 0, t, h, e => by
    obtain ⟨o, e2, w, σ2, f1, f2, rfl, rfl, rfl, h1, h2⟩ := h
    simp at e; subst e
    exact ⟨o, w, f1, by simp, by simp, by simp, h1⟩
  | s :: Γ, _, _, _, i + 1, t, h, e => by
    obtain ⟨o, e2, w, σ2, f1, f2, rfl, rfl, rfl, h1, h2⟩ := h
    obtain ⟨o', w', f', a1, a2, a3, a4⟩ := RelE.at (i := i) h2 (by simpa using e)
    exact ⟨o', w', f', by simpa using a1, by simpa using a2, by simpa using a3, a4⟩
theorem RelE.mk : ∀ {Γ : SEnv} {env : Env} {σ : L2.St} {fp : Fps}, env.length = Γ.length → σ.length = Γ.length → fp.length = Γ.length →
    (∀ (i : Nat) (s : Shp) (o : Option D) (w : Option V) (f : List Addr), Γ[i]? = some s → env[i]? = some o → σ[i]? = some w → fp[i]? = some f → Slot K F H s o w f) → RelE K F H Γ env σ fp
  | [], env, σ, fp, l1, l2, l3, _ => ⟨List.length_eq_zero_iff.mp l1, List.length_eq_zero_iff.mp l2, List.length_eq_zero_iff.mp l3⟩
  | s :: Γ, [], _, _, l1, _, _, _ => by simp at l1
  | s :: Γ, _, [], _, _, l2, _, _ => by simp at l2
  | s :: Γ, _, _, [], _, _, l3, _ => by simp at l3
  | s :: Γ, o :: env, w :: σ, f :: fp, l1, l2, l3, k => ⟨o, env, w, σ, f, fp, rfl, rfl, rfl, k 0 s o w f (by simp) (by simp) (by simp) (by simp),
      RelE.mk (by simpa using l1) (by simpa using l2) (by simpa using l3) fun i s o w f e1 e2 e3 e4 => k (i + 1) s o w f (by simpa using e1) (by simpa using e2) (by simpa using e3) (by simpa using e4)⟩
/-- what leans on nothing frozen stays when something is frozen no more -/
theorem Ow.nof {F' : Hp} (ht : ∀ a xs, F a = some (.tup xs) → F' a = some (.tup xs)) : ∀ {s : Shp} {d : D} {v : V} {fp : List Addr}, nof s = true → Ow K F H s d v fp → (∀ a ∈ fp, F' a = none) → Ow K F' H s d v fp := by
  intro s
  induction s with
  | A => intro d v fp _ h _; simp only [Ow] at h ⊢; exact ⟨h.1, h.2.1, Rf.tups ht _ _ h.2.1 h.2.2⟩
  | O s ih =>
    intro d v fp n h k
    simp only [Ow] at h ⊢
    obtain ⟨b, vs, ds, fps, rfl, rfl, h1, h2, h4, h3, rfl⟩ := h
    exact ⟨b, vs, ds, fps, rfl, rfl, h1, k b List.mem_cons_self, h4, h3.imp fun d v f hf q => ih n q fun a ha => k a (List.mem_cons_of_mem _ (hf a ha)), rfl⟩
  | K s ih =>
    intro d v fp n h k
    simp only [Ow] at h ⊢
    obtain ⟨b, kvs, ks, ds, fps, rfl, rfl, h1, h2, h4, h5, h6, h3, rfl⟩ := h
    exact ⟨b, kvs, ks, ds, fps, rfl, rfl, h1, k b List.mem_cons_self, h4, h5, h6, h3.imp fun d v f hf q => ih n q fun a ha => k a (List.mem_cons_of_mem _ (hf a ha)), rfl⟩
  | T s ih =>
    intro d v fp n h k
    simp only [Ow] at h ⊢
    obtain ⟨b, kvs, ks, ds, fps, rfl, rfl, h1, h2, h4, h5, h6, h3, rfl⟩ := h
    exact ⟨b, kvs, ks, ds, fps, rfl, rfl, h1, k b List.mem_cons_self, h4, h5, h6, h3.imp fun d v f hf q => ih n q fun a ha => k a (List.mem_cons_of_mem _ (hf a ha)), rfl⟩
  | X => intro d v fp n; cases n
  | Q => intro d v fp n; cases n
  | F => intro d v fp n; cases n
  | I c ss => intro d v fp n; cases n
  | N => intro d v fp n; cases n
  | C s r => intro d v fp n; cases n
end

theorem mem_look {β : Type} {j : Nat} {b : β} : ∀ {l : List (Nat × β)}, l.lookup j = some b → (j, b) ∈ l
  | [], h => by simp at h
  | (i, c) :: r, h => by
    by_cases e : j = i
    · subst e; simp at h; subst h; exact List.mem_cons_self
    · have : (j == i) = false := by simpa using e
      rw [List.lookup_cons, this] at h
      exact List.mem_cons_of_mem _ (mem_look h)
/-! ### the arguments laid out for the callee -/
theorem aOk_split {K : PySem.W.Frag} {σ : L2.St} {env1 : Env} {p : Bool} {fp fp1 : Fps} {H F1 H1 : Hp} {al : List (Nat × Option Nat)} {nf : Bool} (sF : Sub F1 H1) (nd : fp1.flatten.Nodup)
    (own : ∀ a ∈ fp1.flatten, (∃ o, H1 a = some o) ∧ F1 a = none) (inj : ∀ j j' i, al.lookup j = some (some i) → al.lookup j' = some (some i) → j = j') :
    ∀ {ts : List Ts} {ds : List D} {vs : List V} {fo : List Addr} {ms : List Shp} {j : Nat}, VOks K σ env1 p fp H F1 H1 fp1 ts ds vs fo → aOk al nf j ts ms = true →
    ∃ (fz : List Addr) (fps : Fps), RelE K (addF F1 H1 fz) H1 ms (ds.map some) (vs.map some) fps ∧
      (∀ a ∈ fz, a ∈ fo ∨ (nf = true ∧ ∃ (i : Nat) (f : List Addr), some i ∉ al.map (·.2) ∧ fp1[i]? = some f ∧ a ∈ f)) ∧
      (∀ (k : Nat) (f : List Addr), fps[k]? = some f → (∃ i, al.lookup (j + k) = some (some i) ∧ fp1[i]? = some f ∧ (∃ v, vs[k]? = some v ∧ σ[i]? = some (some v)) ∧ i < env1.length ∧ ∃ s, ms[k]? = some s ∧ (s, some i) ∈ ts) ∨ ((∀ i, al.lookup (j + k) ≠ some (some i)) ∧ ∀ a ∈ f, a ∈ fo)) ∧
      fps.flatten.Nodup ∧ (∀ a ∈ fz, a ∉ fps.flatten)
  | [], ds, vs, fo, ms, j, h, k => by
    obtain ⟨rfl, rfl, rfl⟩ := h
    cases ms with
    | nil => exact ⟨[], [], ⟨rfl, rfl, rfl⟩, fun _ z => by simp at z, fun _ _ z => by simp at z, List.nodup_nil, fun _ z => by simp at z⟩
    | cons => simp [aOk] at k
  | t :: ts, _, _, fo, ms, j, h, k => by
    obtain ⟨d, dr, v, vr, f1, f2, rfl, rfl, h1, h2, h3, h4⟩ := h
    cases ms with
    | nil => simp [aOk] at k
    | cons m ms =>
    simp only [aOk, Bool.and_eq_true] at k
    obtain ⟨fz, fps, a1, a2, a3, a4, a5⟩ := aOk_split sF nd own inj h2 k.2
    have k1 := k.1
    have fo2 := VOks.fo h2
    -- where later parts come from
    have later : ∀ a ∈ fps.flatten, (∃ k' i f, al.lookup (j + 1 + k') = some (some i) ∧ fp1[i]? = some f ∧ a ∈ f) ∨ a ∈ f2 := fun a z => by
      obtain ⟨k', f, e, hf⟩ := mem_flat z
      rcases a3 k' f e with ⟨i, b1, b2, _⟩ | ⟨_, b2⟩
      · exact .inl ⟨k', i, f, b1, b2, hf⟩
      · exact .inr (b2 a hf)
    -- the later parts under a larger frozen heap
    have grow : ∀ (gz : List Addr), (∀ a ∈ gz, a ∉ fps.flatten) → RelE K (addF F1 H1 (gz ++ fz)) H1 ms (dr.map some) (vr.map some) fps := fun gz hg =>
      a1.keep (addF_mono sF fun a z => List.mem_append_right _ z) fun a z => ⟨rfl, by
        rw [addF_out fun q => (List.mem_append.mp q).elim (fun y => hg a y z) fun y => a5 a y z]
        rcases later a z with ⟨_, i, f, _, e, hf⟩ | y
        · exact (own a (mem_at e hf)).2
        · exact (fo2.2 a y).2.2.2⟩
    have sh : ∀ k' : Nat, j + 1 + k' = j + (k' + 1) := fun k' => by omega
    have a3' : ∀ (g : List Addr → Prop) (f0 : List Addr), (∀ a ∈ f2, a ∈ fo) → ((∃ i, al.lookup j = some (some i) ∧ fp1[i]? = some f0 ∧ (σ[i]? = some (some v)) ∧ i < env1.length ∧ t = (m, some i)) ∨ ((∀ i, al.lookup j ≠ some (some i)) ∧ ∀ a ∈ f0, a ∈ fo)) →
        ∀ (k : Nat) (f : List Addr), (f0 :: fps)[k]? = some f → (∃ i, al.lookup (j + k) = some (some i) ∧ fp1[i]? = some f ∧ (∃ u, (v :: vr)[k]? = some u ∧ σ[i]? = some (some u)) ∧ i < env1.length ∧ ∃ s, (m :: ms)[k]? = some s ∧ (s, some i) ∈ t :: ts) ∨ ((∀ i, al.lookup (j + k) ≠ some (some i)) ∧ ∀ a ∈ f, a ∈ fo) := by
      intro _ f0 hfo h0 k f e
      cases k with
      | zero =>
        simp at e; subst e
        rcases h0 with ⟨i, b1, b2, b3, b4, b5⟩ | h0
        · exact .inl ⟨i, b1, b2, ⟨v, by simp, b3⟩, b4, m, by simp, by rw [b5]; exact List.mem_cons_self⟩
        · exact .inr h0
      | succ k =>
        rcases a3 k f (by simpa using e) with ⟨i, b1, b2, ⟨u, b3, b3'⟩, b4, s, b5, b6⟩ | ⟨b1, b2⟩
        · exact .inl ⟨i, by rw [← sh]; exact b1, b2, ⟨u, by simpa using b3, b3'⟩, b4, s, by simpa using b5, List.mem_cons_of_mem _ b6⟩
        · exact .inr ⟨by rw [← sh]; exact b1, fun a z => hfo a (b2 a z)⟩
    -- a temporary's objects are apart from the later parts
    have tmp : t.2 = none → ∀ a ∈ f1, a ∉ fps.flatten := fun e a z q => by
      rcases later a q with ⟨_, i, f, _, e', hf⟩ | y
      · exact (h1.own e a z).1 (mem_at e' hf)
      · exact (h3 e).2 a z y
    split at k1
    · -- held by a name, to be changed
      rename_i i hi
      simp only [Bool.and_eq_true, decide_eq_true_eq] at k1
      obtain ⟨⟨e1, e2⟩, e3⟩ := k1
      have hne : t.2 ≠ none := by rw [e1]; simp
      have efo := h4 hne
      obtain ⟨b1, b2, b3⟩ := h1.bor i e1
      have lt : i < env1.length := (List.getElem?_eq_some_iff.mp b3).1
      have fzo : ∀ a ∈ f1, a ∉ fz := fun a z q => by
        rcases a2 a q with y | ⟨_, i', f, y1, y2, y3⟩
        · exact (fo2.2 a y).1 (mem_at b1 z)
        · by_cases e : i = i'
          · subst e
            exact y1 (List.mem_map.mpr ⟨(j, some i), mem_look hi, rfl⟩)
          · exact at_apart nd b1 y2 e z y3
      have dj : ∀ a ∈ f1, a ∉ fps.flatten := fun a z q => by
        rcases later a q with ⟨k', i', f, y1, y2, y3⟩ | y
        · by_cases e : i = i'
          · subst e
            have := inj _ _ _ hi y1
            omega
          · exact at_apart nd b1 y2 e z y3
        · exact (fo2.2 a y).1 (mem_at b1 z)
      refine ⟨fz, f1 :: fps, ⟨some d, dr.map some, some v, vr.map some, f1, fps, rfl, rfl, rfl, .inr ⟨v, rfl, ?_⟩, a1⟩, fun a z => ?_, ?_, ?_, fun a z q => ?_⟩
      · rw [← e2]
        exact h1.ow.keep (addF_sub sF) fun a z => ⟨rfl, by rw [addF_out (fzo a z)]; exact (h1.ow.dom a z).2⟩
      · rw [efo]; exact a2 a z
      · exact a3' (fun _ => True) f1 (fun a z => by rw [efo]; exact z) (.inl ⟨i, hi, b1, b2, lt, by rw [← e1, ← e2]⟩)
      · rw [List.flatten_cons]
        exact List.nodup_append.mpr ⟨h1.nd, a4, fun a ha b hb e => by subst e; exact dj a ha hb⟩
      · rw [List.flatten_cons] at q
        rcases List.mem_append.mp q with y | y
        · exact fzo a y z
        · exact a5 a z y
    · -- a temporary, to be changed
      rename_i hi
      simp only [Bool.and_eq_true, decide_eq_true_eq, Option.isNone_iff_eq_none] at k1
      obtain ⟨⟨e1, e2⟩, e3⟩ := k1
      obtain ⟨rfl, dj0⟩ := h3 e1
      have fzo : ∀ a ∈ f1, a ∉ fz := fun a z q => by
        rcases a2 a q with y | ⟨_, i', f, y1, y2, y3⟩
        · exact dj0 a z y
        · exact (h1.own e1 a z).1 (mem_at y2 y3)
      refine ⟨fz, f1 :: fps, ⟨some d, dr.map some, some v, vr.map some, f1, fps, rfl, rfl, rfl, .inr ⟨v, rfl, ?_⟩, a1⟩, fun a z => ?_, ?_, ?_, fun a z q => ?_⟩
      · exact (Ow.ge0 e2 h1.ow).keep (addF_sub sF) fun a z => ⟨rfl, by rw [addF_out (fzo a z)]; exact (h1.ow.dom a z).2⟩
      · exact (a2 a z).imp (List.mem_append_right _) id
      · exact a3' (fun _ => True) f1 (fun a z => List.mem_append_right _ z) (.inr ⟨fun i q => (by rw [hi] at q; cases q), fun a z => List.mem_append_left _ z⟩)
      · rw [List.flatten_cons]
        exact List.nodup_append.mpr ⟨h1.nd, a4, fun a ha b hb e => by subst e; exact tmp e1 a ha hb⟩
      · rw [List.flatten_cons] at q
        rcases List.mem_append.mp q with y | y
        · exact fzo a y z
        · exact a5 a z y
    · -- not to be changed
      rename_i hi
      have no : ∀ i, al.lookup j ≠ some (some i) := fun i q => by rw [hi] at q; cases q
      split at k1
      · rename_i e1
        simp only [Bool.and_eq_true, decide_eq_true_eq] at k1
        obtain ⟨k1, e3⟩ := k1
        obtain ⟨rfl, dj0⟩ := h3 e1
        have fzo : ∀ a ∈ f1, a ∉ fz := fun a z q => by
          rcases a2 a q with y | ⟨_, i', f, y1, y2, y3⟩
          · exact dj0 a z y
          · exact (h1.own e1 a z).1 (mem_at y2 y3)
        unfold cv at k1
        rw [Bool.or_eq_true, Bool.and_eq_true] at k1
        rcases k1 with g | ⟨g1, g2⟩
        · refine ⟨fz, f1 :: fps, ⟨some d, dr.map some, some v, vr.map some, f1, fps, rfl, rfl, rfl, .inr ⟨v, rfl, ?_⟩, a1⟩, fun a z => ?_, ?_, ?_, fun a z q => ?_⟩
          · exact (Ow.ge0 g h1.ow).keep (addF_sub sF) fun a z => ⟨rfl, by rw [addF_out (fzo a z)]; exact (h1.ow.dom a z).2⟩
          · exact (a2 a z).imp (List.mem_append_right _) id
          · exact a3' (fun _ => True) f1 (fun a z => List.mem_append_right _ z) (.inr ⟨no, fun a z => List.mem_append_left _ z⟩)
          · rw [List.flatten_cons]
            exact List.nodup_append.mpr ⟨h1.nd, a4, fun a ha b hb e => by subst e; exact tmp e1 a ha hb⟩
          · rw [List.flatten_cons] at q
            rcases List.mem_append.mp q with y | y
            · exact fzo a y z
            · exact a5 a z y
        · have rf := Rf.sub (addF_mono (gp := f1 ++ fz) sF fun a z => List.mem_append_left _ z) _ _ (h1.ow.frz sF g2)
          refine ⟨f1 ++ fz, [] :: fps, ⟨some d, dr.map some, some v, vr.map some, [], fps, rfl, rfl, rfl, .inr ⟨v, rfl, ?_⟩, grow f1 (tmp e1)⟩, fun a z => ?_, ?_, ?_, fun a z q => ?_⟩
          · cases m <;> simp [isF] at g1
            · exact ⟨rfl, Rf.rp _ _ rf⟩
            · exact ⟨rfl, rf⟩
          · rcases List.mem_append.mp z with y | y
            · exact .inl (List.mem_append_left _ y)
            · exact (a2 a y).imp (List.mem_append_right _) id
          · exact a3' (fun _ => True) [] (fun a z => List.mem_append_right _ z) (.inr ⟨no, fun a z => by simp at z⟩)
          · simpa using a4
          · have q : a ∈ fps.flatten := by simpa using q
            rcases List.mem_append.mp z with y | y
            · exact tmp e1 a y q
            · exact a5 a y q
      · rename_i i e1
        simp only [Bool.and_eq_true, Bool.not_eq_true', List.contains_eq_mem, decide_eq_false_iff_not] at k1
        obtain ⟨⟨⟨g1, g2⟩, g3⟩, g4⟩ := k1
        have hne : t.2 ≠ none := by rw [e1]; simp
        have efo := h4 hne
        obtain ⟨b1, b2, b3⟩ := h1.bor i e1
        have dj : ∀ a ∈ f1, a ∉ fps.flatten := fun a z q => by
          rcases later a q with ⟨k', i', f, y1, y2, y3⟩ | y
          · by_cases e : i = i'
            · subst e
              exact g4 (List.mem_map.mpr ⟨(j + 1 + k', some i), mem_look y1, rfl⟩)
            · exact at_apart nd b1 y2 e z y3
          · exact (fo2.2 a y).1 (mem_at b1 z)
        have rf := Rf.sub (addF_mono (gp := f1 ++ fz) sF fun a z => List.mem_append_left _ z) _ _ (h1.ow.frz sF g2)
        refine ⟨f1 ++ fz, [] :: fps, ⟨some d, dr.map some, some v, vr.map some, [], fps, rfl, rfl, rfl, .inr ⟨v, rfl, ?_⟩, grow f1 dj⟩, fun a z => ?_, ?_, ?_, fun a z q => ?_⟩
        · cases m <;> simp [isF] at g1
          · exact ⟨rfl, Rf.rp _ _ rf⟩
          · exact ⟨rfl, rf⟩
        · rcases List.mem_append.mp z with y | y
          · exact .inr ⟨g3, i, f1, g4, b1, y⟩
          · rw [efo]; exact a2 a y
        · exact a3' (fun _ => True) [] (fun a z => by rw [efo]; exact z) (.inr ⟨no, fun a z => by simp at z⟩)
        · simpa using a4
        · have q : a ∈ fps.flatten := by simpa using q
          rcases List.mem_append.mp z with y | y
          · exact dj a y q
          · exact a5 a y q

/-! ### behind the call -/
def setF : Fps → List (Option Nat) → Fps → Fps
  | fp, none :: is, _ :: fs => setF fp is fs
  | fp, some i :: is, f :: fs => setF (fp.set i f) is fs
  | fp, _, _ => fp
theorem setF_len : ∀ (ios : List (Option Nat)) (fp fos : Fps), (setF fp ios fos).length = fp.length
  | [], fp, _ => by unfold setF; rfl
  | none :: is, fp, [] => by unfold setF; rfl
  | some i :: is, fp, [] => by unfold setF; rfl
  | none :: is, fp, f :: fs => by rw [setF]; exact setF_len is fp fs
  | some i :: is, fp, f :: fs => by rw [setF, setF_len is, List.length_set]
theorem setF_out {i : Nat} : ∀ (ios : List (Option Nat)) (fp fos : Fps), i ∉ slots ios → (setF fp ios fos)[i]? = fp[i]?
  | [], fp, _, _ => by unfold setF; rfl
  | none :: is, fp, [], _ => by unfold setF; rfl
  | some j :: is, fp, [], _ => by unfold setF; rfl
  | none :: is, fp, f :: fs, h => by rw [setF]; exact setF_out is fp fs (by simpa [slots] using h)
  | some j :: is, fp, f :: fs, h => by
    have h' : i ≠ j ∧ i ∉ slots is := by simpa [slots] using h
    rw [setF, setF_out is _ fs h'.2, List.getElem?_set_ne (Ne.symm h'.1)]
theorem setF_in {i k : Nat} : ∀ (ios : List (Option Nat)) (fp fos : Fps), (slots ios).Nodup → ios[k]? = some (some i) → i < fp.length → k < fos.length → (setF fp ios fos)[i]? = fos[k]?
  | [], _, _, _, e, _, _ => by simp at e
  | o :: is, fp, [], _, _, _, l => by simp at l
  | none :: is, fp, f :: fs, nd, e, l, lk => by
    cases k with
    | zero => simp at e
    | succ k => rw [setF, setF_in (k := k) is fp fs (by simpa [slots] using nd) (by simpa using e) l (by simpa using lk)]; simp
  | some j :: is, fp, f :: fs, nd, e, l, lk => by
    have nd' : j ∉ slots is ∧ (slots is).Nodup := by simpa [slots] using nd
    cases k with
    | zero =>
      have : j = i := by simpa using e
      subst this
      rw [setF, setF_out is _ fs nd'.1, List.getElem?_set_self l]; simp
    | succ k => rw [setF, setF_in (k := k) is _ fs nd'.2 (by simpa using e) (by simpa using l) (by simpa using lk)]; simp
theorem setOuts_len : ∀ {ios : List (Option Nat)} {env env2 : Env} {outs : List D}, setOuts env ios outs = some env2 → env2.length = env.length ∧ ios.length = outs.length
  | [], _, _, [], h => by simp only [setOuts, Option.some.injEq] at h; subst h; exact ⟨rfl, rfl⟩
  | [], _, _, _ :: _, h => by simp [setOuts] at h
  | none :: is, _, _, [], h => by simp [setOuts] at h
  | some i :: is, _, _, [], h => by simp [setOuts] at h
  | none :: is, _, _, d :: ds, h => by
    simp only [setOuts] at h
    obtain ⟨a, b⟩ := setOuts_len h
    exact ⟨a, by simp [b]⟩
  | some i :: is, _, _, d :: ds, h => by
    simp only [setOuts] at h
    obtain ⟨a, b⟩ := setOuts_len h
    exact ⟨by simpa using a, by simp [b]⟩
theorem setOuts_out {i : Nat} : ∀ {ios : List (Option Nat)} {env env2 : Env} {outs : List D}, setOuts env ios outs = some env2 → i ∉ slots ios → env2[i]? = env[i]?
  | [], _, _, [], h, _ => by simp only [setOuts, Option.some.injEq] at h; subst h; rfl
  | [], _, _, _ :: _, h, _ => by simp [setOuts] at h
  | none :: is, _, _, [], h, _ => by simp [setOuts] at h
  | some i :: is, _, _, [], h, _ => by simp [setOuts] at h
  | none :: is, _, _, d :: ds, h, n => by
    simp only [setOuts] at h
    exact setOuts_out h (by simpa [slots] using n)
  | some j :: is, _, _, d :: ds, h, n => by
    simp only [setOuts] at h
    have h' : i ≠ j ∧ i ∉ slots is := by simpa [slots] using n
    rw [setOuts_out h h'.2, List.getElem?_set_ne (Ne.symm h'.1)]
theorem setOuts_in {i k : Nat} : ∀ {ios : List (Option Nat)} {env env2 : Env} {outs : List D}, setOuts env ios outs = some env2 → (slots ios).Nodup → ios[k]? = some (some i) → i < env.length → ∃ d, outs[k]? = some d ∧ env2[i]? = some (some d)
  | [], _, _, _, _, _, e, _ => by simp at e
  | none :: is, _, _, [], h, _, _, _ => by simp [setOuts] at h
  | some i :: is, _, _, [], h, _, _, _ => by simp [setOuts] at h
  | none :: is, _, _, d :: ds, h, nd, e, l => by
    simp only [setOuts] at h
    cases k with
    | zero => simp at e
    | succ k =>
      obtain ⟨d', a, b⟩ := setOuts_in (k := k) h (by simpa [slots] using nd) (by simpa using e) l
      exact ⟨d', by simpa using a, b⟩
  | some j :: is, env, _, d :: ds, h, nd, e, l => by
    simp only [setOuts] at h
    have nd' : j ∉ slots is ∧ (slots is).Nodup := by simpa [slots] using nd
    cases k with
    | zero =>
      have : j = i := by simpa using e
      subst this
      exact ⟨d, by simp, by rw [setOuts_out h nd'.1, List.getElem?_set_self l]⟩
    | succ k =>
      obtain ⟨d', a, b⟩ := setOuts_in (k := k) h nd'.2 (by simpa using e) (by simpa using l)
      exact ⟨d', by simpa using a, b⟩
theorem slots_at {i : Nat} {ios : List (Option Nat)} (h : i ∈ slots ios) : ∃ k : Nat, ios[k]? = some (some i) := by
  unfold slots at h
  rw [List.mem_filterMap] at h
  obtain ⟨o, h1, h2⟩ := h
  obtain ⟨k, hk⟩ := List.getElem?_of_mem h1
  have : o = some i := h2
  subst this
  exact ⟨k, hk⟩
theorem at_slots {i k : Nat} {ios : List (Option Nat)} (h : ios[k]? = some (some i)) : i ∈ slots ios := List.mem_filterMap.mpr ⟨some i, List.mem_of_getElem? h, rfl⟩
theorem slots_inj {i k k' : Nat} : ∀ {ios : List (Option Nat)}, (slots ios).Nodup → ios[k]? = some (some i) → ios[k']? = some (some i) → k = k'
  | [], _, h, _ => by simp at h
  | o :: is, nd, h, h' => by
    cases k with
    | zero =>
      cases k' with
      | zero => rfl
      | succ k' =>
        have e : o = some i := by simpa using h
        subst e
        have nd' : i ∉ slots is ∧ (slots is).Nodup := by simpa [slots] using nd
        exact absurd (at_slots (by simpa using h')) nd'.1
    | succ k =>
      have nd' : (slots is).Nodup := by
        cases o with
        | none => simpa [slots] using nd
        | some j => have : j ∉ slots is ∧ (slots is).Nodup := by simpa [slots] using nd
                    exact this.2
      cases k' with
      | zero =>
        have e : o = some i := by simpa using h'
        subst e
        have nd' : i ∉ slots is ∧ (slots is).Nodup := by simpa [slots] using nd
        exact absurd (at_slots (by simpa using h)) nd'.1
      | succ k' => exact congrArg (· + 1) (slots_inj nd' (by simpa using h) (by simpa using h'))
theorem zip_look {β : Type} {k j : Nat} {b : β} : ∀ {is : List Nat} {bs : List β}, is.Nodup → is[k]? = some j → bs[k]? = some b → (is.zip bs).lookup j = some b
  | [], _, _, h, _ => by simp at h
  | i :: is, [], _, _, h => by simp at h
  | i :: is, c :: bs, nd, h, h' => by
    rw [List.zip_cons_cons, List.lookup_cons]
    cases k with
    | zero =>
      have e1 : i = j := by simpa using h
      have e2 : c = b := by simpa using h'
      subst e1; subst e2; simp
    | succ k =>
      have hj : is[k]? = some j := by simpa using h
      have ne : (j == i) = false := by
        have := (List.nodup_cons.mp nd).1
        rw [beq_eq_false_iff_ne]; rintro rfl; exact this (List.mem_of_getElem? hj)
      rw [ne]
      exact zip_look (List.nodup_cons.mp nd).2 hj (by simpa using h')
theorem look_zip {β : Type} {j : Nat} {b : β} : ∀ {is : List Nat} {bs : List β}, (is.zip bs).lookup j = some b → ∃ k : Nat, is[k]? = some j ∧ bs[k]? = some b
  | [], _, h => by simp at h
  | i :: is, [], h => by simp at h
  | i :: is, c :: bs, h => by
    rw [List.zip_cons_cons, List.lookup_cons] at h
    cases e : (j == i) with
    | true =>
      rw [e] at h
      have : c = b := by simpa using h
      subst this
      have : j = i := by simpa using e
      subst this
      exact ⟨0, by simp, by simp⟩
    | false =>
      rw [e] at h
      obtain ⟨k, a, b⟩ := look_zip h
      exact ⟨k + 1, by simpa using a, by simpa using b⟩
theorem OutR.get {K : PySem.W.Frag} {F H : Hp} {modes : List Shp} {vs : List V} {k j : Nat} : ∀ {is : List Nat} {outs : List D} {fos : Fps}, OutR K F H modes vs is outs fos → is[k]? = some j →
    ∃ d f s v, outs[k]? = some d ∧ fos[k]? = some f ∧ modes[j]? = some s ∧ vs[j]? = some v ∧ Ow K F H s d v f
  | [], _, _, _, h => by simp at h
  | i :: is, _, _, h, e => by
    obtain ⟨d, r, f, fr, s, v, rfl, rfl, h1, h2, h3, h4⟩ := h
    cases k with
    | zero =>
      have : i = j := by simpa using e
      subst this
      exact ⟨d, f, s, v, by simp, by simp, h1, h2, h3⟩
    | succ k =>
      obtain ⟨d', f', s', v', a1, a2, a3⟩ := OutR.get h4 (by simpa using e)
      exact ⟨d', f', s', v', by simpa using a1, by simpa using a2, a3⟩
theorem OutR.len {K : PySem.W.Frag} {F H : Hp} {modes : List Shp} {vs : List V} : ∀ {is : List Nat} {outs : List D} {fos : Fps}, OutR K F H modes vs is outs fos → outs.length = is.length ∧ fos.length = is.length
  | [], _, _, h => by obtain ⟨rfl, rfl⟩ := h; exact ⟨rfl, rfl⟩
  | i :: is, _, _, h => by
    obtain ⟨d, r, f, fr, s, v, rfl, rfl, h1, h2, h3, h4⟩ := h
    obtain ⟨a, b⟩ := OutR.len h4
    exact ⟨by simp [a], by simp [b]⟩
def rmF (F : Hp) (bw : List Addr) : Hp := fun a => if a ∈ bw then none else F a
theorem rmF_in {F : Hp} {bw : List Addr} {a : Addr} (h : a ∈ bw) : rmF F bw a = none := by unfold rmF; rw [if_pos h]
theorem rmF_out {F : Hp} {bw : List Addr} {a : Addr} (h : a ∉ bw) : rmF F bw a = F a := by unfold rmF; rw [if_neg h]
theorem rmF_sub {F : Hp} {bw : List Addr} : Sub (rmF F bw) F := fun a o h => by
  by_cases z : a ∈ bw
  · rw [rmF_in z] at h; cases h
  · rw [rmF_out z] at h; exact h
/-- the state behind a call -/
theorem behind {K : PySem.W.Frag} {B : Bs} {Γ : SEnv} {σ : L2.St} {env env1 env2 : Env} {p0 p : Bool} {fp fp1 fps fos : Fps} {F H F1 H1 F3 H3 : Hp} {fz fo fr : List Addr} {ios : List (Option Nat)} {ps : List Nat} {ms : List Shp} {vs : List V} {ts : List Ts} {outs : List D} {nf : Bool}
    (rel : Rel K B Γ env F fp σ H) (rel1 : Rel K B Γ env1 F1 fp1 σ H1) (aft1 : Aft p0 env fp F H env1 fp1 F1 H1) (hfo : ∀ a ∈ fo, a ∉ fp1.flatten ∧ (a ∈ PP p0 fp ∨ H a = none) ∧ (∃ o, H1 a = some o) ∧ F1 a = none)
    (hΓ : ∀ s i, (s, some i) ∈ ts → Γ[i]? = some s) (hp : p = true → p0 = true ∧ ios = []) (lios : ios.length = ps.length) (ndp : ps.Nodup) (nds : (slots ios).Nodup)
    (a2 : ∀ a ∈ fz, a ∈ fo ∨ (nf = true ∧ ∃ (i : Nat) (f : List Addr), some i ∉ (ps.zip ios).map (·.2) ∧ fp1[i]? = some f ∧ a ∈ f))
    (a3 : ∀ (k : Nat) (f : List Addr), fps[k]? = some f → (∃ i, (ps.zip ios).lookup (0 + k) = some (some i) ∧ fp1[i]? = some f ∧ (∃ v, vs[k]? = some v ∧ σ[i]? = some (some v)) ∧ i < env1.length ∧ ∃ s, ms[k]? = some s ∧ (s, some i) ∈ ts) ∨ ((∀ i, (ps.zip ios).lookup (0 + k) ≠ some (some i)) ∧ ∀ a ∈ f, a ∈ fo))
    (a5 : ∀ a ∈ fz, a ∉ fps.flatten) (lfps : ∀ j ∈ ps, j < fps.length)
    (hnf : nf = true → ∀ j ∈ ps, ∀ m, ms[j]? = some m → nof m = true)
    (so : setOuts env1 ios outs = some env2) (out : OutR K F3 H3 ms vs ps outs fos) (nd3 : (fr ++ fos.flatten).Nodup) (s3 : Sub F3 H3) (t3 : Tups H3 F3) (f3 : Fr fps.flatten (addF F1 H1 fz) H1 F3 H3) (n3 : ∀ a ∈ fr ++ fos.flatten, a ∈ fps.flatten ∨ H1 a = none) :
    ∃ bw : List Addr, Rel K B Γ env2 (rmF F3 bw) (setF fp1 ios fos) σ H3 ∧ Aft p env fp F H env2 (setF fp1 ios fos) (rmF F3 bw) H3 ∧ (∀ a ∈ fr, a ∉ (setF fp1 ios fos).flatten ∧ (a ∈ PP p fp ∨ H a = none)) ∧ Tups F3 (rmF F3 bw) ∧ (bw = [] ∨ nf = true) := by
  obtain ⟨lo, lf⟩ := out.len
  obtain ⟨le, _⟩ := setOuts_len so
  obtain ⟨le1, ls1, lp1⟩ := rel1.e.len
  -- a name to be changed, and its place among the arguments
  have slot : ∀ i ∈ slots ios, ∃ (k j : Nat) (f : List Addr) (v : V) (s : Shp), ios[k]? = some (some i) ∧ ps[k]? = some j ∧ fps[j]? = some f ∧ fp1[i]? = some f ∧ vs[j]? = some v ∧ σ[i]? = some (some v) ∧ i < env1.length ∧ ms[j]? = some s ∧ Γ[i]? = some s := fun i hi => by
    obtain ⟨k, hk⟩ := slots_at hi
    have lk : k < ps.length := by have := (List.getElem?_eq_some_iff.mp hk).1; omega
    have hj : ps[k]? = some ps[k] := List.getElem?_eq_getElem lk
    have lu := zip_look ndp hj hk
    have lj := lfps _ (List.mem_of_getElem? hj)
    have hf : fps[ps[k]]? = some fps[ps[k]] := List.getElem?_eq_getElem lj
    rcases a3 _ _ hf with ⟨i', b1, b2, ⟨v, b3, b3'⟩, b4, s, b5, b6⟩ | ⟨b1, _⟩
    · rw [Nat.zero_add, lu] at b1
      cases b1
      exact ⟨k, _, _, v, s, hk, hj, hf, b2, b3, b3', b4, b5, hΓ _ _ b6⟩
    · exact absurd (by rw [Nat.zero_add]; exact lu) (b1 i)
  have part : ∀ a ∈ fps.flatten, (∃ (i : Nat) (f : List Addr), i ∈ slots ios ∧ fp1[i]? = some f ∧ a ∈ f) ∨ a ∈ fo := fun a z => by
    obtain ⟨k, f, e, hf⟩ := mem_flat z
    rcases a3 k f e with ⟨i, b1, b2, _⟩ | ⟨_, b2⟩
    · rw [Nat.zero_add] at b1
      obtain ⟨k', _, q⟩ := look_zip b1
      exact .inl ⟨i, f, at_slots q, b2, hf⟩
    · exact .inr (b2 a hf)
  have other : ∀ (i : Nat) (f : List Addr), i ∉ slots ios → fp1[i]? = some f → ∀ a ∈ f, a ∉ fps.flatten := fun i f hi e a z q => by
    rcases part a q with ⟨i', f', y1, y2, y3⟩ | y
    · exact at_apart rel1.nd e y2 (fun w => hi (w ▸ y1)) z y3
    · exact (hfo a y).1 (mem_at e z)
  let bw := fz.filter fun a => decide (a ∈ fp1.flatten)
  have hbw : ∀ a, a ∈ bw ↔ a ∈ fz ∧ a ∈ fp1.flatten := fun a => by simp [bw]
  have sF1 : Sub F1 F3 := (addF_sub rel1.sub).trans f3.fs
  have sF4 : Sub F1 (rmF F3 bw) := fun a o h => by
    rw [rmF_out]
    · exact sF1 a o h
    · intro z
      have := (rel1.dom a ((hbw a).mp z).2).2
      rw [h] at this; cases this
  -- what was borrowed is no tuple
  have ntup : ∀ a ∈ bw, ∀ xs, H3 a ≠ some (.tup xs) := fun a z xs e => by
    obtain ⟨z1, z2⟩ := (hbw a).mp z
    obtain ⟨⟨o, h1, h2⟩, _⟩ := rel1.dom a z2
    rw [f3.keep a o (a5 a z1) h1] at e
    exact h2 xs (Option.some.inj e)
  have tF4 : Tups F3 (rmF F3 bw) := fun a xs h => by
    rw [rmF_out]
    · exact h
    · exact fun z => ntup a z xs (s3 a _ h)
  have nf_of : bw = [] ∨ nf = true := by
    cases h : bw with
    | nil => exact .inl rfl
    | cons a r =>
      refine .inr ?_
      have ha : a ∈ bw := by rw [h]; exact List.mem_cons_self
      obtain ⟨z1, z2⟩ := (hbw a).mp ha
      rcases a2 a z1 with y | y
      · exact absurd z2 (hfo a y).1
      · exact y.1
  have keepN : ∀ (i : Nat) (f : List Addr), i ∉ slots ios → fp1[i]? = some f → ∀ a ∈ f, H3 a = H1 a ∧ rmF F3 bw a = none := fun i f hi e a z => by
    obtain ⟨⟨o, h1, _⟩, h2⟩ := rel1.dom a (mem_at e z)
    have no := other i f hi e a z
    refine ⟨(f3.keep a o no h1).trans h1.symm, ?_⟩
    by_cases q : a ∈ bw
    · exact rmF_in q
    · rw [rmF_out q]
      cases w : F3 a with
      | none => rfl
      | some u =>
        rcases f3.fnew a u w with y | y | y
        · by_cases q2 : a ∈ fz
          · exact absurd ((hbw a).mpr ⟨q2, mem_at e z⟩) q
          · rw [addF_out q2, h2] at y; cases y
        · exact absurd y no
        · rw [h1] at y; cases y
  have fosdom : ∀ (k j : Nat), ps[k]? = some j → ∀ f, fos[k]? = some f → ∀ a ∈ f, F3 a = none := fun k j hk f hf a z => by
    obtain ⟨d, f', s, v, b1, b2, b3, b4, b5⟩ := out.get hk
    rw [hf] at b2; cases b2
    exact (b5.dom a z).2
  have at2 : ∀ (i : Nat) (f : List Addr), (setF fp1 ios fos)[i]? = some f → (i ∉ slots ios ∧ fp1[i]? = some f) ∨ ∃ k : Nat, ios[k]? = some (some i) ∧ fos[k]? = some f := fun i f e => by
    by_cases hi : i ∈ slots ios
    · obtain ⟨k, j, f0, v, s, b1, b2, b3, b4, b5, b6, b7, b8, b9⟩ := slot i hi
      have lk : k < fos.length := by have := (List.getElem?_eq_some_iff.mp b1).1; omega
      rw [setF_in ios fp1 fos nds b1 (by have := (List.getElem?_eq_some_iff.mp b4).1; exact this) lk] at e
      exact .inr ⟨k, b1, e⟩
    · rw [setF_out ios fp1 fos hi] at e
      exact .inl ⟨hi, e⟩
  have ndo := (List.nodup_append.mp nd3).2.1
  have fnew3 : ∀ a ∈ fps.flatten, a ∈ B.fp ∨ B.H a = none := fun a z => by
    rcases part a z with ⟨i, f, _, y2, y3⟩ | y
    · exact rel1.new a (mem_at y2 y3)
    · exact rel.pnew (hfo a y).2.1
  have inP : ∀ a ∈ fps.flatten, a ∈ PP p fp ∨ H a = none := fun a z => by
    cases hq : p with
    | false =>
      simp only [PP]
      rcases part a z with ⟨i, f, _, y2, y3⟩ | y
      · have := aft1.sub a (mem_at y2 y3)
        simpa using this
      · rcases (hfo a y).2.1 with w | w
        · left
          cases p0 with
          | true => simp [PP] at w
          | false => simpa [PP] using w
        · exact .inr w
    | true =>
      obtain ⟨q1, q2⟩ := hp hq
      right
      rcases part a z with ⟨i, f, y1, y2, y3⟩ | y
      · rw [q2] at y1; simp [slots] at y1
      · rcases (hfo a y).2.1 with w | w
        · rw [q1] at w; simp [PP] at w
        · exact w
  have foP : ∀ a ∈ fo, a ∈ PP p fp ∨ H a = none := fun a y => by
    rcases (hfo a y).2.1 with w | w
    · left
      cases hq : p with
      | false =>
        cases p0 with
        | true => simp [PP] at w
        | false => simpa [PP] using w
      | true => rw [(hp hq).1] at w; simp [PP] at w
    · exact .inr w
  have frG : ∀ {P : List Addr}, (∀ a ∈ fps.flatten, a ∈ P ∨ H1 a = none) → (∀ a ∈ fo, a ∈ P ∨ H1 a = none) → Fr P F1 H1 (rmF F3 bw) H3 := fun {P} k1 k2 => {
    keep := fun a o n h => f3.keep a o (fun z => (k1 a z).elim n fun q => by rw [h] at q; cases q) h
    dom := f3.dom
    fs := sF4
    fnew := fun a o h => by
      have nb : a ∉ bw := fun z => by rw [rmF_in z] at h; cases h
      rw [rmF_out nb] at h
      rcases f3.fnew a o h with y | y | y
      · by_cases q : a ∈ fz
        · rcases a2 a q with w | ⟨_, i, f, _, w2, w3⟩
          · exact .inr (k2 a w)
          · exact absurd ((hbw a).mpr ⟨q, mem_at w2 w3⟩) nb
        · rw [addF_out q] at y; exact .inl y
      · exact .inr (k1 a y)
      · exact .inr (.inr y) }
  refine ⟨bw, ⟨?_, ?_, fun a o h => s3 a o (rmF_sub a o h), fun a xs h => tF4 a xs (t3 a xs h), ?_, ?_, rel1.io⟩, ⟨?_, fun hq => ?_, ?_⟩, ?_, tF4, nf_of⟩
  · -- the names
    refine RelE.mk (by omega) ls1 (by rw [setF_len]; exact lp1) fun i s o w f e1 e2 e3 e4 => ?_
    by_cases hi : i ∈ slots ios
    · obtain ⟨k, j, f0, v, s', b1, b2, b3, b4, b5, b6, b7, b8, b9⟩ := slot i hi
      obtain ⟨d, f', s2, v2, c1, c2, c3, c4, c5⟩ := out.get b2
      have lk : k < fos.length := (List.getElem?_eq_some_iff.mp c2).1
      rw [setF_in ios fp1 fos nds b1 (by exact (List.getElem?_eq_some_iff.mp b4).1) lk, c2] at e4
      cases e4
      obtain ⟨d', g1, g2⟩ := setOuts_in so nds b1 b7
      rw [g2] at e2; cases e2
      rw [c1] at g1; cases g1
      rw [b6] at e3; cases e3
      rw [b9] at e1; cases e1
      rw [b8] at c3; cases c3
      rw [b5] at c4; cases c4
      refine .inr ⟨_, rfl, ?_⟩
      rcases nf_of with z | z
      · rw [z]
        have : rmF F3 [] = F3 := by funext a; exact rmF_out (by simp)
        rw [this]; exact c5
      · refine Ow.nof tF4 (hnf z j (List.mem_of_getElem? b2) _ b8) c5 fun a ha => ?_
        have := (c5.dom a ha).2
        by_cases q : a ∈ bw
        · exact rmF_in q
        · rw [rmF_out q]; exact this
    · rw [setF_out ios fp1 fos hi] at e4
      rw [setOuts_out so hi] at e2
      obtain ⟨o', w', f', b1, b2, b3, b4⟩ := rel1.e.at e1
      rw [e2] at b1; cases b1
      rw [e3] at b2; cases b2
      rw [e4] at b3; cases b3
      exact b4.keep sF4 (keepN i f hi e4)
  · -- apart
    refine nd_of (fun i f e => ?_) fun i j f g a n e1 e2 ha hb => ?_
    · rcases at2 i f e with ⟨_, y⟩ | ⟨k, _, y⟩
      · exact nd_at rel1.nd y
      · exact nd_at ndo y
    · rcases at2 i f e1 with ⟨y1, y2⟩ | ⟨k, y1, y2⟩
      · rcases at2 j g e2 with ⟨w1, w2⟩ | ⟨k', w1, w2⟩
        · exact at_apart rel1.nd y2 w2 n ha hb
        · rcases n3 a (List.mem_append_right _ (mem_at w2 hb)) with z | z
          · exact other i f y1 y2 a ha z
          · obtain ⟨⟨o, h1, _⟩, _⟩ := rel1.dom a (mem_at y2 ha)
            rw [z] at h1; cases h1
      · rcases at2 j g e2 with ⟨w1, w2⟩ | ⟨k', w1, w2⟩
        · rcases n3 a (List.mem_append_right _ (mem_at y2 ha)) with z | z
          · exact other j g w1 w2 a hb z
          · obtain ⟨⟨o, h1, _⟩, _⟩ := rel1.dom a (mem_at w2 hb)
            rw [z] at h1; cases h1
        · by_cases e : k = k'
          · subst e
            rw [y1] at w1
            exact n (by simpa using w1)
          · exact at_apart ndo y2 w2 e ha hb
  · exact rel1.fr.trans (P' := fps.flatten ++ fo) (frG (fun a z => .inl (List.mem_append_left _ z)) fun a z => .inl (List.mem_append_right _ z)) fun a z => by
      rcases List.mem_append.mp z with y | y
      · exact fnew3 a y
      · exact rel.pnew (hfo a y).2.1
  · intro a z
    obtain ⟨i, f, e, ha⟩ := mem_flat z
    rcases at2 i f e with ⟨_, y⟩ | ⟨k, _, y⟩
    · exact rel1.new a (mem_at y ha)
    · rcases n3 a (List.mem_append_right _ (mem_at y ha)) with w | w
      · exact fnew3 a w
      · exact .inr (rel1.gone w)
  · exact (aft1.fr.mono fun a z => PP_imp (fun q => (hp q).1) z).trans (P' := fps.flatten ++ fo) (frG (fun a z => .inl (List.mem_append_left _ z)) fun a z => .inl (List.mem_append_right _ z)) fun a z => by
      rcases List.mem_append.mp z with y | y
      · exact inP a y
      · exact foP a y
  · obtain ⟨q1, q2⟩ := hp hq
    obtain ⟨c1, c2⟩ := aft1.same q1
    subst q2
    have l0 : outs = [] := by
      have := (setOuts_len so).2
      exact List.length_eq_zero_iff.mp (by simpa using this.symm)
    subst l0
    have : env2 = env1 := by simpa [setOuts] using so.symm
    exact ⟨by unfold setF; exact c1, this.trans c2⟩
  · intro a z
    obtain ⟨i, f, e, ha⟩ := mem_flat z
    rcases at2 i f e with ⟨_, y⟩ | ⟨k, _, y⟩
    · exact aft1.sub a (mem_at y ha)
    · rcases n3 a (List.mem_append_right _ (mem_at y ha)) with w | w
      · rcases inP a w with q | q
        · left
          cases p with
          | true => simp [PP] at q
          | false => simpa [PP] using q
        · exact .inr q
      · exact .inr (aft1.fr.gone w)
  · intro a ha
    refine ⟨fun z => ?_, ?_⟩
    · obtain ⟨i, f, e, hb⟩ := mem_flat z
      rcases at2 i f e with ⟨y1, y2⟩ | ⟨k, _, y⟩
      · rcases n3 a (List.mem_append_left _ ha) with w | w
        · exact other i f y1 y2 a hb w
        · obtain ⟨⟨o, h1, _⟩, _⟩ := rel1.dom a (mem_at y2 hb)
          rw [w] at h1; cases h1
      · exact (List.nodup_append.mp nd3).2.2 a ha a (mem_at y hb) rfl
    · rcases n3 a (List.mem_append_left _ ha) with w | w
      · exact inP a w
      · exact .inr (aft1.fr.gone w)
end VC
end

section
set_option Elab.async false
set_option linter.all false
set_option autoImplicit false
set_option maxRecDepth 100000
/-! VC9: calls of defs and of built-ins, slices, append. -/
namespace VC
open PySem PySem.Spec L2

section
variable {G : Gd} {sg : List Sig} {W : WX} {S : SC} {X : Cx} {B : Bs} {Γ : SEnv} {tc : TC}
theorem Aft.subset {σ : L2.St} {p : Bool} {env env' : Env} {fp fp' : Fps} {F H F' H' : Hp} (a : Aft p env fp F H env' fp' F' H') : True := trivial

theorem r_call (xo : XOk G sg W S X) {x : Str} {f : Nat} {ios : List (Option Nat)} {args : List E} {ts : List Ts} {g : Sig} {e : Expr} {es : List Expr} {p pos : Pos} (hx : gloB S x f = true) (hg : sg[f]? = some g) (ok : argsOk g ios ts = true)
    (hΓ : ∀ s i, (s, some i) ∈ ts → Γ[i]? = some s) (ha : PA X (e :: es) (tEs G W B Γ (purs args) args ts))
    (he : starEach (e :: es) X.env = (false, eval e X.env) :: starEach es X.env) (hpl : (backTo pos (starEach es X.env)).any (·.1) = false) :
    PE X (.Call (.Name x p) (e :: es) [] pos) (tE G W B Γ (pur (.call f ios args)) (.call f ios args) (g.ret, none)) := by
  unfold gloB at hx
  simp only [Bool.and_eq_true, decide_eq_true_eq, Bool.not_eq_true'] at hx
  obtain ⟨⟨x1, x2⟩, x3⟩ := hx
  obtain ⟨d1, d2, d3⟩ := odd_of x3
  obtain ⟨g', a, fd, ps, k, hg', hm, hk, hb, hF, hr⟩ := xo.calls x f x2
  rw [hg] at hg'
  cases hg'
  refine PE_imp (pe_callS hF hr (xo.gl x1) hm hk hb (passAt xo.tk) ha d1 he hpl) ?_
  rintro σ H Q ⟨env, F, fp, rel, k0⟩
  simp only [evE] at k0
  refine ⟨env, F, fp, rel, KA.bind1 k0 ?_⟩
  intro ds env1 vs F1 H1 fp1 fo rel1 aft1 vo k1
  unfold argsOk at ok
  simp only [Bool.and_eq_true, decide_eq_true_eq, List.all_eq_true] at ok
  obtain ⟨⟨⟨⟨o1, o2⟩, o3⟩, o4⟩, o5⟩ := ok
  have hfo := vo.fo.2
  have inj : ∀ j j' i, (g.ios.zip ios).lookup j = some (some i) → (g.ios.zip ios).lookup j' = some (some i) → j = j' := fun j j' i h h' => by
    obtain ⟨k1, a1, b1⟩ := look_zip h
    obtain ⟨k2, a2, b2⟩ := look_zip h'
    have := slots_inj o3 b1 b2
    subst this
    rw [a1] at a2
    exact Option.some.inj a2
  obtain ⟨fz, fps, a1, a2, a3, a4, a5⟩ := aOk_split rel1.sub rel1.nd (fun a z => ⟨(rel1.dom a z).1.imp fun _ q => q.1, (rel1.dom a z).2⟩) inj vo o5
  obtain ⟨r1, r2, r3⟩ := a1.len
  have sub2 := addF_le (F := F1) (H := H1) (fp := fz) rel1.sub
  have tup2 : Tups H1 (addF F1 H1 fz) := fun a xs h => by
    by_cases z : a ∈ fz
    · rw [addF_in z]; exact h
    · rw [addF_out z]; exact rel1.tup a xs h
  refine ⟨ds, addF F1 H1 fz, fps, by simpa using r2, a1, a4, sub2, tup2, ?_⟩
  have hp : pur (.call f ios args) = true → purs args = true ∧ ios = [] := fun z => by
    simp only [pur, Bool.and_eq_true, List.isEmpty_iff] at z
    exact ⟨z.2, z.1⟩
  have hnf : (nof g.ret && g.ios.all fun i => match g.modes[i]? with | some m => nof m | none => false) = true → ∀ j ∈ g.ios, ∀ m, g.modes[j]? = some m → nof m = true := fun z j hj m hm => by
    rw [Bool.and_eq_true, List.all_eq_true] at z
    have := z.2 j hj
    rw [hm] at this; exact this
  cases hC : G.C f ds with
  | no => rw [hC] at k1; exact k1.elim
  | ok d outs =>
    simp only [hC] at k1
    cases so : setOuts env1 ios outs with
    | none => rw [so] at k1; exact k1.elim
    | some env2 =>
      rw [so] at k1
      intro v F3 H3 fr fos ow out nd3 s3 t3 f3 n3
      obtain ⟨bw, rel4, aft4, fr4, t4, nf4⟩ := behind (fr := fr) rel rel1 aft1 hfo hΓ hp o1 o2 o3 a2 a3 a5 (fun j hj => by have := o4 j hj; omega) hnf so out nd3 s3 t3 f3 n3
      refine k1 v _ H3 _ fr rel4 aft4 ⟨?_, (List.nodup_append.mp nd3).1, fun _ => fr4, fun i e => by cases e⟩
      rcases nf4 with z | z
      · have : rmF F3 bw = F3 := by rw [z]; funext a; exact rmF_out (by simp)
        rw [this]; exact ow
      · refine Ow.nof t4 (Bool.and_eq_true _ _ ▸ z).1 ow fun a ha => ?_
        by_cases q : a ∈ bw
        · exact rmF_in q
        · rw [rmF_out q]; exact (ow.dom a ha).2
  | exc xv outs =>
    simp only [hC] at k1
    cases so : setOuts env1 ios outs with
    | none => rw [so] at k1; exact k1.elim
    | some env2 =>
      rw [so] at k1
      intro F3 H3 fos cls dx out nd3 s3 t3 f3 n3 ex
      obtain ⟨bw, rel4, aft4, fr4, t4, nf4⟩ := behind (fr := []) rel rel1 aft1 hfo hΓ hp o1 o2 o3 a2 a3 a5 (fun j hj => by have := o4 j hj; omega) hnf so out (by simpa using nd3) s3 t3 f3 (by simpa using n3)
      refine k1 _ H3 _ cls dx rel4 ?_
      cases xv <;> simp only [ExcAt] at ex ⊢
      obtain ⟨e1, e2, e3⟩ := ex
      refine ⟨e1, e2, ?_⟩
      cases dx with
      | none => exact e3
      | some a =>
        obtain ⟨fs, q1, q2, q3⟩ := e3
        exact ⟨fs, q1, q2, Rfs.tups t4 _ _ e2 q3⟩

/-! ### slices -/
variable {ea eb ec : E} {ta tb tcc t : Ts} {a b c : Expr} {pos p2 : Pos}
theorem cutL_eq (vs : List V) (n : Nat) (h : vs.length = n) (lo hi : Option Int) : L2.cutV vs lo hi = (vs.drop (VC.sIx n 0 lo)).take (VC.sIx n n hi - VC.sIx n 0 lo) := by
  subst h
  have e : ∀ (m d : Nat) (o : Option Int), HT.sIx m d o = VC.sIx m d o := fun m d o => by cases o <;> rfl
  unfold L2.cutV
  rw [e, e]
theorem Ows.drop0 {R : D → V → List Addr → Prop} : ∀ {ds : List D} {vs : List V} (n : Nat), Ows R ds vs [] → Ows R (ds.drop n) (vs.drop n) []
  | _, _, 0, h => h
  | [], _, n + 1, h => by obtain ⟨rfl, _⟩ := h; exact ⟨by simp, rfl⟩
  | d :: ds, _, n + 1, h => by
    obtain ⟨v, r, f1, f2, rfl, e, h1, h2⟩ := h
    have : f2 = [] := (List.append_eq_nil_iff.mp e.symm).2
    subst this
    simpa using Ows.drop0 n h2
theorem Ows.take0 {R : D → V → List Addr → Prop} : ∀ {ds : List D} {vs : List V} (n : Nat), Ows R ds vs [] → Ows R (ds.take n) (vs.take n) []
  | _, _, 0, h => ⟨by simp, rfl⟩
  | [], _, n + 1, h => by obtain ⟨rfl, _⟩ := h; exact ⟨by simp, rfl⟩
  | d :: ds, _, n + 1, h => by
    obtain ⟨v, r, f1, f2, rfl, e, h1, h2⟩ := h
    have e1 : f1 = [] := (List.append_eq_nil_iff.mp e.symm).1
    have e2 : f2 = [] := (List.append_eq_nil_iff.mp e.symm).2
    subst e1; subst e2
    rw [List.take_succ_cons, List.take_succ_cons]
    exact ⟨v, _, [], [], rfl, rfl, h1, Ows.take0 n h2⟩
theorem cut_fin (xo : XOk G sg W S X) {p : Bool} {F H F2 H2 : Hp} {fp fp2 : Fps} {env env2 : Env} {σ : L2.St} {Q : VK} {ds : List D} {v : V} {u w : Shp} {lo hi : Option Int} {f1 : List Addr} (hw : csh ta.1 = some w) (hg : ge0 w u = true)
    (rel : Rel G.K B Γ env2 F2 fp2 σ H2) (aft : Aft p env fp F H env2 fp2 F2 H2) (o : VOk G.K σ env2 ta.1 ta.2 p fp H (.lst ds) v F2 H2 fp2 f1) (k : KE G W B Γ σ (.O u, none) p env F H fp (.ok (.lst (cutL ds lo hi), env2)) Q) :
    rSlL X.K v lo hi H2 Q := by
  obtain ⟨l, vs, rfl, h1, h2, h3, _, _⟩ := mem_lst rel.sub o.ow hw
  refine ⟨l, vs, rfl, by rw [xo.K]; exact h1, fun q n => ?_⟩
  rw [cutL_eq vs ds.length h3.len]
  refine k.lst rel aft n ?_ (((h3.drop0 _).take0 _).imp fun d v f _ h => Ow.ge0 hg h)
  unfold cutL
  rw [List.length_take, List.length_drop]
  omega
/-- an int, or nothing -/
def asI (d : D) : R Int := match d with | .int i => .ok i | _ => .no
theorem r_slcLo (xo : XOk G sg W S X) {u w : Shp} (ha : PE X a (tE G W B Γ (pur ea) ea ta)) (hb : PE X b (tE G W B Γ (pur eb) eb tb)) (hc : (ta.2.isNone || pur eb) = true) (q2 : rdOk tb.1 = true) (hw : csh ta.1 = some w) (hg : ge0 w u = true) :
    PE X (.Subscript a (.Slice (some b) none none p2) pos) (tE G W B Γ (pur (.slc u .lo ea [eb])) (.slc u .lo ea [eb]) (.O u, none)) := by
  refine PE_imp (pe_slice sl_list ha (po_some hb) po_none) ?_
  rintro σ H Q ⟨env, F, fp, rel, k⟩
  have e0 : evE G.C (.slc u .lo ea [eb]) env = (evE G.C ea env).bind fun q => (evE G.C eb q.2).bind fun r => (asI r.1).bind fun i => ofO (slcD .lo q.1 [i]) r.2 := by
    simp only [evE, evIs]
    cases evE G.C ea env with
    | no => rfl
    | exc x e => rfl
    | ok q =>
      simp only [R.bind_ok]
      cases evE G.C eb q.2 with
      | no => rfl
      | exc x e => rfl
      | ok r => simp only [R.bind_ok]; cases r.1 <;> rfl
  rw [e0] at k
  refine twoO (p := pur (.slc u .lo ea [eb])) (k := fun d1 d2 env2 => (asI d2).bind fun i => ofO (slcD .lo d1 [i]) env2) oc_KE rel k (fun z => by simpa [pur, purs] using z) (by simpa using hc) ?_
  intro d1 d2 env2 v1 v2 F2 H2 fp2 f1 f2 rel2 aft2 o1 o2 k2
  cases d1 <;> cases d2 <;> simp only [asI, R.bind_ok, R.bind_no, slcD, ofO] at k2 <;> first | exact k2.elim | skip
  cases rp_int (o2.rp rel2.sub q2)
  exact ⟨_, rfl, cut_fin xo hw hg rel2 aft2 o1 k2⟩
theorem r_slcHi (xo : XOk G sg W S X) {u w : Shp} (ha : PE X a (tE G W B Γ (pur ea) ea ta)) (hb : PE X b (tE G W B Γ (pur eb) eb tb)) (hc : (ta.2.isNone || pur eb) = true) (q2 : rdOk tb.1 = true) (hw : csh ta.1 = some w) (hg : ge0 w u = true) :
    PE X (.Subscript a (.Slice none (some b) none p2) pos) (tE G W B Γ (pur (.slc u .hi ea [eb])) (.slc u .hi ea [eb]) (.O u, none)) := by
  refine PE_imp (pe_slice sl_list ha po_none (po_some hb)) ?_
  rintro σ H Q ⟨env, F, fp, rel, k⟩
  have e0 : evE G.C (.slc u .hi ea [eb]) env = (evE G.C ea env).bind fun q => (evE G.C eb q.2).bind fun r => (asI r.1).bind fun i => ofO (slcD .hi q.1 [i]) r.2 := by
    simp only [evE, evIs]
    cases evE G.C ea env with
    | no => rfl
    | exc x e => rfl
    | ok q =>
      simp only [R.bind_ok]
      cases evE G.C eb q.2 with
      | no => rfl
      | exc x e => rfl
      | ok r => simp only [R.bind_ok]; cases r.1 <;> rfl
  rw [e0] at k
  refine twoO (p := pur (.slc u .hi ea [eb])) (k := fun d1 d2 env2 => (asI d2).bind fun i => ofO (slcD .hi d1 [i]) env2) oc_KE rel k (fun z => by simpa [pur, purs] using z) (by simpa using hc) ?_
  intro d1 d2 env2 v1 v2 F2 H2 fp2 f1 f2 rel2 aft2 o1 o2 k2
  cases d1 <;> cases d2 <;> simp only [asI, R.bind_ok, R.bind_no, slcD, ofO] at k2 <;> first | exact k2.elim | skip
  cases rp_int (o2.rp rel2.sub q2)
  exact ⟨_, rfl, cut_fin xo hw hg rel2 aft2 o1 k2⟩
theorem r_slcB (xo : XOk G sg W S X) {u w : Shp} (ha : PE X a (tE G W B Γ (pur ea) ea ta)) (hb : PE X b (tE G W B Γ (pur eb) eb tb)) (hcc : PE X c (tE G W B Γ (pur ec) ec tcc)) (hc : (ta.2.isNone || (pur eb && pur ec)) = true) (hc2 : tb.2 = none)
    (q2 : rdOk tb.1 = true) (q3 : rdOk tcc.1 = true) (hw : csh ta.1 = some w) (hg : ge0 w u = true) :
    PE X (.Subscript a (.Slice (some b) (some c) none p2) pos) (tE G W B Γ (pur (.slc u .both ea [eb, ec])) (.slc u .both ea [eb, ec]) (.O u, none)) := by
  refine PE_imp (pe_slice sl_list ha (po_some hb) (po_some hcc)) ?_
  rintro σ H Q ⟨env, F, fp, rel, k⟩
  have e0 : evE G.C (.slc u .both ea [eb, ec]) env = (evE G.C ea env).bind fun q => (evE G.C eb q.2).bind fun r => (asI r.1).bind fun i => (evE G.C ec r.2).bind fun s => (asI s.1).bind fun j => ofO (slcD .both q.1 [i, j]) s.2 := by
    simp only [evE]
    cases evE G.C ea env with
    | no => rfl
    | exc x e => rfl
    | ok q =>
      simp only [R.bind_ok, evIs]
      cases evE G.C eb q.2 with
      | no => rfl
      | exc x e => rfl
      | ok r =>
        simp only [R.bind_ok]
        cases r.1 <;> first
          | rfl
          | (simp only [asI, R.bind_ok]
             cases evE G.C ec r.2 with
             | no => rfl
             | exc x e => rfl
             | ok s => simp only [R.bind_ok]; cases s.1 <;> rfl)
  rw [e0] at k
  have hp1 : ta.2 ≠ none → pur eb = true ∧ pur ec = true := fun z => by
    rw [Bool.or_eq_true, Option.isNone_iff_eq_none, Bool.and_eq_true] at hc
    exact hc.resolve_left z
  refine twoO (p := pur ea && pur eb) (k := fun d1 d2 env2 => (asI d2).bind fun i => (evE G.C ec env2).bind fun s => (asI s.1).bind fun j => ofO (slcD .both d1 [i, j]) s.2) oc_KE rel k (fun z => by simpa using z) (by
    by_cases z : ta.2 = none
    · exact .inl (by simp [z])
    · exact .inr (hp1 z).1) ?_
  intro d1 d2 env2 v1 v2 F2 H2 fp2 f1 f2 rel2 aft2 o1 o2 k2
  have pp : pur (.slc u .both ea [eb, ec]) = true → (pur ea = true ∧ pur eb = true) ∧ pur ec = true := fun z => by simp [pur, purs] at z; exact ⟨⟨z.1, z.2.1⟩, z.2.2⟩
  cases d2 with
  | int i =>
    cases rp_int (o2.rp rel2.sub q2)
    refine ⟨_, rfl, ?_⟩
    refine oneO (p := pur ec) (k := fun d3 env3 => (asI d3).bind fun j => ofO (slcD .both d1 [i, j]) env3) oc_KE rel2 k2 id ?_
    intro d3 env3 v3 F3 H3 fp3 f3 rel3 _ aft3 _ o3 k3
    cases d1 <;> cases d3 <;> simp only [asI, R.bind_ok, R.bind_no, slcD, ofO] at k3 <;> first | exact k3.elim | skip
    cases rp_int (o3.rp rel3.sub q3)
    have o1' := (o1.stay aft3 fun z => (hp1 z).2).weak (p := pur (.slc u .both ea [eb, ec])) fun z => by simp [pp z]
    exact ⟨_, rfl, cut_fin xo hw hg rel3 ((aft2.trans aft3).weak fun z => by simp [pp z]) o1' k3⟩
  | _ => exact absurd k2 (fun h => h)
end
end VC
end

section
set_option Elab.async false
set_option linter.all false
set_option autoImplicit false
set_option maxRecDepth 100000
/-! VC10: built-ins, append, what is written. -/
namespace VC
open PySem PySem.Spec L2

/-! ### taking a value over; writing -/
section
variable {K : PySem.W.Frag} {B : Bs} {Γ : SEnv} {env env1 : Env} {F F1 H H1 : Hp} {fp fp1 : Fps} {σ : L2.St} {p : Bool} {s t : Shp} {d : D} {v : V} {g : List Addr}
theorem take (rel : Rel K B Γ env F fp σ H) (rel1 : Rel K B Γ env1 F1 fp1 σ H1) (aft : Aft p env fp F H env1 fp1 F1 H1) (o : VOk K σ env1 s none p fp H d v F1 H1 fp1 g) (h : cv s t = true) :
    ∃ F2 g', Rel K B Γ env1 F2 fp1 σ H1 ∧ Aft p env fp F H env1 fp1 F2 H1 ∧ Ow K F2 H1 t d v g' ∧ g'.Nodup ∧ (∀ a ∈ g', a ∈ g) ∧ Sub F1 F2 ∧ (∀ a, a ∉ g → F2 a = F1 a) := by
  unfold cv at h
  rw [Bool.or_eq_true, Bool.and_eq_true] at h
  rcases h with h | ⟨h1, h2⟩
  · exact ⟨F1, g, rel1, aft, Ow.ge0 h o.ow, o.nd, fun _ z => z, Sub.refl _, fun _ _ => rfl⟩
  · have rf := o.ow.frz rel1.sub h2
    refine ⟨addF F1 H1 g, [], rel1.freeze fun a z => ⟨(o.own rfl a z).1, rel.pnew (o.own rfl a z).2⟩, aft.freeze rel1.sub fun a z => (o.own rfl a z).2, ?_, List.nodup_nil, fun _ z => by simp at z, addF_sub rel1.sub, fun a z => addF_out z⟩
    cases t <;> simp [isF] at h1
    · exact ⟨rfl, Rf.rp _ _ rf⟩
    · exact ⟨rfl, rf⟩
/-- an object of the name i is written -/
theorem Rel.write {i : Nat} {f gv : List Addr} {l : Addr} {o : HO} (rel : Rel K B Γ env F fp σ H) (e : fp[i]? = some f) (hl : l ∈ f) (ho : ∀ xs, o ≠ .tup xs) (hv : σ[i]? = some (some v)) (ow : Ow K F (upd H l o) t d v gv) (ng : gv.Nodup)
    (k : ∀ a ∈ gv, a ∈ fp.flatten → a ∈ f) (new : ∀ a ∈ gv, a ∈ B.fp ∨ B.H a = none) : Rel K B (Γ.set i t) (env.set i (some d)) F (fp.set i gv) σ (upd H l o) where
  e := rel.e.upd (Sub.refl _) rel.nd e (fun a z n => ⟨upd_ne fun q => n (by rw [q]; exact hl), (rel.dom a z).2⟩) hv (.inr ⟨v, rfl, ow⟩)
  nd := nd_set rel.nd e ng k
  sub := fun a u h => by
    have ne : a ≠ l := fun q => by rw [q, (rel.dom l (mem_at e hl)).2] at h; cases h
    rw [upd_ne ne]; exact rel.sub a u h
  tup := fun a xs h => by
    by_cases q : a = l
    · subst q; rw [upd_same] at h; exact absurd (Option.some.inj h) (ho xs)
    · rw [upd_ne q] at h; exact rel.tup a xs h
  fr := rel.fr.trans (P' := [l]) (Fr.write List.mem_cons_self) fun a z => by
    have : a = l := by simpa using z
    subst this; exact rel.new a (mem_at e hl)
  new := fun a z => by
    rcases mem_set rel.nd e z with y | y
    · exact rel.new a y.1
    · exact new a y
  io := rel.io
theorem Aft.write {i : Nat} {f gv : List Addr} {l : Addr} {o : HO} {env2 : Env} (aft : Aft p env fp F H env1 fp1 F1 H1) (nd : fp1.flatten.Nodup) (e : fp1[i]? = some f) (hl : l ∈ f) (new : ∀ a ∈ gv, a ∈ fp.flatten ∨ H a = none) :
    Aft false env fp F H env2 (fp1.set i gv) F1 (upd H1 l o) where
  fr := (aft.fr.mono (P' := PP false fp) fun a z => PP_imp (fun q => by cases q) z).trans (P' := [l]) (Fr.write List.mem_cons_self) fun a z => by
    have : a = l := by simpa using z
    subst this
    simpa [PP] using aft.sub a (mem_at e hl)
  same := fun q => by cases q
  sub := fun a z => by
    rcases mem_set nd e z with y | y
    · exact aft.sub a y.1
    · exact new a y
end

section
variable {G : Gd} {sg : List Sig} {W : WX} {S : SC} {X : Cx} {B : Bs} {Γ : SEnv} {tc : TC}
theorem set_self {α : Type} : ∀ {l : List α} {i : Nat} {a : α}, l[i]? = some a → l.set i a = l
  | [], _, _, h => by simp at h
  | x :: r, 0, a, h => by simp at h; subst h; rfl
  | x :: r, i + 1, a, h => by rw [List.set_cons_succ, set_self (by simpa using h)]
/-- x.append(e) -/
def notCall : Expr → Bool
  | .Call _ _ _ _ => false
  | _ => true
theorem attrBase {o : Expr} {x : Str} {env : PySem.Env} {w : Sem Value} (h : notCall o = true) : attributeBase o x env w = w := by
  cases o <;> first | rfl | (simp [notCall] at h)
theorem r_app (xo : XOk G sg W S X) {i : Nat} {x : Str} {e : E} {a : Expr} {t : Ts} {s : Shp} {pos apos cpos : Pos} (hv : visB S i x = true) (hΓ : Γ[i]? = some (.O s)) (ha : PE X a (tE G W B Γ (pur e) e t)) (hn : t.2 = none) (hc : cv t.1 s = true) (hp : pur e = true)
    (hl : (apos.endLine == cpos.line) = true) (hs : starEach [a] X.env = [(false, eval a X.env)]) : PE X (.Call (.Attribute (.Name x pos) "append" apos) [a] [] cpos) (tE G W B Γ false (.app i e) (.A, none)) := by
  unfold visB at hv
  simp only [Bool.and_eq_true, decide_eq_true_eq, Bool.not_eq_true'] at hv
  obtain ⟨⟨h1, h2⟩, h3⟩ := hv
  obtain ⟨o1, o2, o3⟩ := odd_of h3
  have hn' : PE X (.Name x pos) (tVar i) := pe_var (i := i) (by rw [xo.N]; exact h1) (by rw [xo.sc]; exact vis_of h2) o1 o2
  refine PE_imp (pe_bm (T := "list") PySem.F.plainAttrs_list PySem.F.slot_list_append PySem.F.type_list_append mt_append hn' (pa_cons ha pa_nil hs) rfl (by simp [backTo, hs, backToKw, keywordEach]) hl hs rfl) ?_
  rintro σ H Q ⟨env, F, fp, rel, k⟩
  simp only [evE] at k
  split at k
  · rename_i ds0 hd0
    obtain ⟨v, fv, e1, e2, ow⟩ := rel.e.get hΓ (by simp) hd0
    simp only [Ow] at ow
    obtain ⟨l, vs, ds, fps, q1, rfl, q2, q3, q4, q5, rfl⟩ := ow
    cases q1
    refine ⟨_, e1, .inl ⟨rfl, vs, SqL.of q2⟩, ?_⟩
    refine oneO (p := pur e) (k := fun d env1 => appD env1 i d) oc_KE rel k id ?_
    intro d env1 y F1 H1 fp1 g rel1 _ aft1 _ o k1
    obtain ⟨rfl, rfl⟩ := aft1.same hp
    obtain ⟨v', fv', e1', e2', ow'⟩ := rel1.e.get hΓ (by simp) hd0
    rw [e1] at e1'; cases e1'
    simp only [Ow] at ow'
    obtain ⟨l', vs', ds', fps', q1', ql, q2', q3', q4', q5', rfl⟩ := ow'
    cases q1'; cases ql
    rw [e2] at e2'
    have efp : fps = fps' := by injection e2' with z; injection z
    subst efp
    rw [hn] at o
    obtain ⟨F2, g', rel2, aft2, ow2, ng, gg, sF, ex⟩ := take rel rel1 aft1 o hc
    simp only [appD, hd0] at k1
    split at k1
    · rename_i hlt
      have ndf := nd_at rel2.nd e2
      have lfps : l ∉ fps ∧ fps.Nodup := List.nodup_cons.mp ndf
      have gfp : ∀ a ∈ g', a ∉ fp1.flatten := fun a z => (o.own rfl a (gg a z)).1
      have lg : l ∉ g' := fun z => gfp l z (mem_at e2 List.mem_cons_self)
      refine ⟨l, vs', y, rfl, rfl, q2', by rw [← lim_eq, q5'.len]; exact hlt, ?_⟩
      have F2l : ∀ a ∈ fp1.flatten, F2 a = none := fun a z => by rw [ex a fun q => (o.own rfl a q).1 z]; exact (rel1.dom a z).2
      have ow3 : Ow G.K F2 (upd H1 l (.lst (vs' ++ [y]))) (.O s) (.lst (ds0 ++ [d])) (.ref l) (l :: (fps ++ g')) := by
        refine ⟨l, _, _, fps ++ g', rfl, rfl, upd_same, F2l l (mem_at e2 List.mem_cons_self), by rw [List.length_append, List.length_singleton]; omega, Ows.append (Ows.keep sF q5' fun a z => ⟨upd_ne fun q => lfps.1 (q ▸ z), F2l a (mem_at e2 (List.mem_cons_of_mem _ z))⟩) (Ows.one (ow2.keep (Sub.refl _) fun a z => ⟨upd_ne fun q => lg (q ▸ z), (ow2.dom a z).2⟩)), rfl⟩
      have nn : (l :: (fps ++ g')).Nodup := List.nodup_cons.mpr ⟨fun z => (List.mem_append.mp z).elim lfps.1 lg, List.nodup_append.mpr ⟨lfps.2, ng, fun a h1 b h2 q => by subst q; exact gfp a h2 (mem_at e2 (List.mem_cons_of_mem _ h1))⟩⟩
      have from2 : ∀ a ∈ l :: (fps ++ g'), a ∈ fp1.flatten ∨ a ∈ g' := fun a z => by
        rcases List.mem_cons.mp z with rfl | z
        · exact .inl (mem_at e2 List.mem_cons_self)
        · rcases List.mem_append.mp z with z | z
          · exact .inl (mem_at e2 (List.mem_cons_of_mem _ z))
          · exact .inr z
      have rel3 := rel2.write e2 List.mem_cons_self (fun xs z => by cases z) e1 ow3 nn (fun a z q => by
        rcases List.mem_cons.mp z with rfl | z
        · exact List.mem_cons_self
        · rcases List.mem_append.mp z with z | z
          · exact List.mem_cons_of_mem _ z
          · exact absurd q (gfp a z)) (fun a z => (from2 a z).elim (rel2.new a) fun q => rel.pnew (o.own rfl a (gg a q)).2)
      rw [set_self hΓ] at rel3
      have aft3 := aft2.write (gv := l :: (fps ++ g')) (o := .lst (vs' ++ [y])) (env2 := env1.set i (some (.lst (ds0 ++ [d])))) rel2.nd e2 List.mem_cons_self (fun a z => by
        rcases from2 a z with q | q
        · exact aft2.sub a q
        · rcases (o.own rfl a (gg a q)).2 with w | w
          · left
            rw [hp] at w; simp [PP] at w
          · exact .inr w)
      exact KE.sca (W := W) k1 rel3 aft3 rfl rfl
    · exact k1.elim
  · exact k.elim

/-! ### built-ins -/
theorem bi_of {b : Bi} {args : List E} {ts : List Ts} {t : Ts} {ast : Expr} {r : List V → Hp → VK → Prop} (h : PE X ast (tCB r (tEs G W B Γ (purs args) args ts)))
    (fin : ∀ {ds z env env1 vs F H F1 H1 fp fp1 fo σ Q}, Rel G.K B Γ env1 F1 fp1 σ H1 → Aft (purs args) env fp F H env1 fp1 F1 H1 → VOks G.K σ env1 (purs args) fp H F1 H1 fp1 ts ds vs fo → biD b ds = some z → KE G W B Γ σ t (purs args) env F H fp (.ok (z, env1)) Q → r vs H1 Q) :
    PE X ast (tE G W B Γ (pur (.bi b args)) (.bi b args) t) := by
  refine PE_imp h ?_
  rintro σ H Q ⟨env, F, fp, rel, k⟩
  simp only [evE, pur] at k
  refine ⟨env, F, fp, rel, KA.bind1 k ?_⟩
  intro ds env1 vs F1 H1 fp1 fo rel1 aft1 vo k1
  cases e : biD b ds with
  | none => simp only [e] at k1; exact k1.elim
  | some z => simp only [e] at k1; exact fin rel1 aft1 vo e k1
theorem vo1 {K : PySem.W.Frag} {σ : L2.St} {env : Env} {p : Bool} {fp fp' : Fps} {H F' H' : Hp} {t : Ts} {ds : List D} {vs : List V} {fo : List Addr} (h : VOks K σ env p fp H F' H' fp' [t] ds vs fo) : ∃ d v f, ds = [d] ∧ vs = [v] ∧ VOk K σ env t.1 t.2 p fp H d v F' H' fp' f := by
  obtain ⟨d, dr, v, vr, f1, f2, rfl, rfl, h1, h2, _⟩ := h
  obtain ⟨rfl, rfl, _⟩ := h2
  exact ⟨d, v, f1, rfl, rfl, h1⟩
theorem vo2 {K : PySem.W.Frag} {σ : L2.St} {env : Env} {p : Bool} {fp fp' : Fps} {H F' H' : Hp} {t u : Ts} {ds : List D} {vs : List V} {fo : List Addr} (h : VOks K σ env p fp H F' H' fp' [t, u] ds vs fo) :
    ∃ d v f e w g, ds = [d, e] ∧ vs = [v, w] ∧ VOk K σ env t.1 t.2 p fp H d v F' H' fp' f ∧ VOk K σ env u.1 u.2 p fp H e w F' H' fp' g := by
  obtain ⟨d, dr, v, vr, f1, f2, rfl, rfl, h1, h2, _⟩ := h
  obtain ⟨e, w, g, rfl, rfl, h3⟩ := vo1 h2
  exact ⟨d, v, f1, e, w, g, rfl, rfl, h1, h3⟩
theorem Rp.lenV {K : PySem.W.Frag} {H : Hp} {d : D} {v : V} {n : Nat} (r : Rp K H d v) (h : biD .len [d] = some (.int n)) : LenV K v H n := by
  have inj : ∀ {a b : Nat}, some (D.int (a : Int)) = some (D.int (b : Int)) → b = a := fun h => by simp at h; omega
  cases d <;> simp only [biD, reduceCtorEq] at h
  · obtain ⟨rfl, _, h2⟩ := rp_str r
    exact ⟨by rw [← lim_eq]; exact h2, inj h⟩
  · simp only [Rp] at r
    obtain ⟨a, vs, rfl, h1, h2, h3⟩ := r
    exact .inr ⟨vs, h1, by rw [h3.len]; exact inj h⟩
  · simp only [Rp] at r
    obtain ⟨a, vs, rfl, h1, h2, h3⟩ := r
    exact .inl ⟨vs, h1, by rw [h3.len]; exact inj h⟩
theorem intsOf_map : ∀ {xs : List D} {is : List Int}, intsOf xs = some is → xs = is.map .int
  | [], is, h => by simp [intsOf] at h; subst h; rfl
  | d :: ds, is, h => by
    cases d <;> simp only [intsOf, reduceCtorEq, Option.map_eq_some_iff] at h
    obtain ⟨r, h1, rfl⟩ := h
    rw [intsOf_map h1]; rfl
theorem rps_ints {K : PySem.W.Frag} {H : Hp} : ∀ {is : List Int} {vs : List V}, Rps K H (is.map .int) vs → vs = is.map .int
  | [], _, h => h
  | i :: is, _, h => by
    obtain ⟨v, r, rfl, h1, h2⟩ := h
    rw [rps_ints h2, List.map_cons, rp_int h1]
theorem rfs_ints {F : Hp} : ∀ (is : List Int), Rfs F (is.map .int) (is.map .int)
  | [] => rfl
  | i :: is => ⟨_, _, rfl, rfl, rfs_ints is⟩
theorem imms_ints : ∀ (is : List Int), imms (is.map .int) = true
  | [] => rfl
  | i :: is => by simp [imms, imm, imms_ints is]
theorem sortI_perm (is : List Int) : (sortI is).Perm is := List.mergeSort_perm _ _
theorem sortI_sorted (is : List Int) : (sortI is).Pairwise (· ≤ ·) := by
  have h := List.pairwise_mergeSort (le := fun a b : Int => decide (a ≤ b)) (fun a b c => by simp; omega) (fun a b => by simp; omega) is
  exact h.imp fun h => by simpa using h
theorem sort_one {a b : List Int} (hp : a.Perm b) (ha : a.Pairwise (· ≤ ·)) (hb : b.Pairwise (· ≤ ·)) : a = b := hp.eq_of_pairwise (fun x y _ _ h1 h2 => Int.le_antisymm h1 h2) ha hb
theorem foldl_max (r : List Int) : ∀ (i : Int), (r.foldl max i ∈ i :: r) ∧ ∀ y ∈ i :: r, y ≤ r.foldl max i := by
  induction r with
  | nil => intro i; simp
  | cons x r ih =>
    intro i
    obtain ⟨h1, h2⟩ := ih (max i x)
    have b := h2 (max i x) List.mem_cons_self
    refine ⟨?_, fun y hy => ?_⟩
    · rw [List.foldl_cons]
      rcases List.mem_cons.mp h1 with e | e
      · rw [e]
        rcases Int.le_total i x with q | q
        · rw [Int.max_eq_right q]; simp
        · rw [Int.max_eq_left q]; simp
      · exact List.mem_cons_of_mem _ (List.mem_cons_of_mem _ e)
    · rw [List.foldl_cons]
      rcases List.mem_cons.mp hy with rfl | hy
      · exact Int.le_trans (Int.le_max_left _ _) b
      · rcases List.mem_cons.mp hy with rfl | hy
        · exact Int.le_trans (Int.le_max_right _ _) b
        · exact h2 y (List.mem_cons_of_mem _ hy)
theorem foldl_min (r : List Int) : ∀ (i : Int), (r.foldl min i ∈ i :: r) ∧ ∀ y ∈ i :: r, r.foldl min i ≤ y := by
  induction r with
  | nil => intro i; simp
  | cons x r ih =>
    intro i
    obtain ⟨h1, h2⟩ := ih (min i x)
    have b := h2 (min i x) List.mem_cons_self
    refine ⟨?_, fun y hy => ?_⟩
    · rw [List.foldl_cons]
      rcases List.mem_cons.mp h1 with e | e
      · rw [e]
        rcases Int.le_total i x with q | q
        · rw [Int.min_eq_left q]; simp
        · rw [Int.min_eq_right q]; simp
      · exact List.mem_cons_of_mem _ (List.mem_cons_of_mem _ e)
    · rw [List.foldl_cons]
      rcases List.mem_cons.mp hy with rfl | hy
      · exact Int.le_trans b (Int.min_le_left _ _)
      · rcases List.mem_cons.mp hy with rfl | hy
        · exact Int.le_trans b (Int.min_le_right _ _)
        · exact h2 y (List.mem_cons_of_mem _ hy)

/-- the name of a built-in, its value, how many arguments -/
theorem strsOf_map : ∀ {xs : List D} {is : List Str}, strsOf xs = some is → xs = is.map .str
  | [], is, h => by simp [strsOf] at h; subst h; rfl
  | d :: ds, is, h => by
    cases d <;> simp only [strsOf, reduceCtorEq, Option.map_eq_some_iff] at h
    obtain ⟨r, h1, rfl⟩ := h
    rw [strsOf_map h1]; rfl
theorem rps_strs {K : PySem.W.Frag} {H : Hp} : ∀ {is : List Str} {vs : List V}, Rps K H (is.map .str) vs → vs = is.map .str ∧ ∀ x ∈ is, PyData.strOk x = true ∧ x.length ≤ lim
  | [], _, h => ⟨h, fun x z => by simp at z⟩
  | i :: is, _, h => by
    obtain ⟨v, r, rfl, h1, h2⟩ := h
    obtain ⟨rfl, k1, k2⟩ := rp_str h1
    obtain ⟨rfl, k3⟩ := rps_strs h2
    exact ⟨rfl, fun x z => by
      rcases List.mem_cons.mp z with rfl | z
      · exact ⟨k1, k2⟩
      · exact k3 x z⟩
theorem rfs_strs {F : Hp} : ∀ (is : List Str), (∀ x ∈ is, PyData.strOk x = true ∧ x.length ≤ lim) → Rfs F (is.map .str) (is.map .str)
  | [], _ => rfl
  | i :: is, h => ⟨_, _, rfl, ⟨rfl, (h i List.mem_cons_self).1, (h i List.mem_cons_self).2⟩, rfs_strs is fun x z => h x (List.mem_cons_of_mem _ z)⟩
theorem imms_strs : ∀ (is : List Str), imms (is.map .str) = true
  | [] => rfl
  | i :: is => by simp [imms, imm, imms_strs is]
theorem leS_iff (a b : Str) : leS a b = true ↔ a.cps.toList ≤ b.cps.toList := by
  unfold leS
  simp [List.not_lt]
theorem leS_trans (a b c : Str) (h : leS a b = true) (k : leS b c = true) : leS a c = true := by
  rw [leS_iff] at *
  exact List.le_trans h k
theorem leS_total (a b : Str) : (leS a b || leS b a) = true := by
  rw [Bool.or_eq_true, leS_iff, leS_iff]
  exact List.le_total _ _
theorem leS_anti {a b : Str} (h : leS a b = true) (k : leS b a = true) : a = b := by
  rw [leS_iff] at h k
  have : a.cps.toList = b.cps.toList := List.le_antisymm h k
  cases a; cases b
  congr 1
  exact Array.toList_inj.mp this
theorem sortS_perm (is : List Str) : (sortS is).Perm is := List.mergeSort_perm _ _
theorem sortS_sorted (is : List Str) : (sortS is).Pairwise (fun a b => leS a b = true) := List.pairwise_mergeSort leS_trans leS_total is
theorem rising_pw : ∀ {r : List Str} {p : Str}, PyProof.Rows.risingS p r = true → (p :: r).Pairwise (fun a b => leS a b = true)
  | [], p, _ => List.pairwise_singleton _ _
  | x :: r, p, h => by
    simp only [PyProof.Rows.risingS, Bool.and_eq_true] at h
    have ih := rising_pw h.2
    refine List.pairwise_cons.mpr ⟨fun y hy => ?_, ih⟩
    have h1 : leS p x = true := by
      have := h.1
      rw [PyProof.Rows.ltCps_eq] at this
      exact this
    rcases List.mem_cons.mp hy with rfl | z
    · exact h1
    · exact leS_trans _ _ _ h1 ((List.pairwise_cons.mp ih).1 y z)
theorem sorted_pw {ys : List Str} (h : PyProof.Rows.sortedS ys = true) : ys.Pairwise (fun a b => leS a b = true) := by
  cases ys with
  | nil => exact List.Pairwise.nil
  | cons x r => exact rising_pw h
theorem sortS_one {a b : List Str} (hp : a.Perm b) (ha : a.Pairwise (fun a b => leS a b = true)) (hb : b.Pairwise (fun a b => leS a b = true)) : a = b := hp.eq_of_pairwise (fun x y _ _ h1 h2 => leS_anti h1 h2) ha hb
theorem blsOf_map : ∀ {xs : List D} {bs : List Bool}, blsOf xs = some bs → xs = bs.map .bl
  | [], is, h => by simp [blsOf] at h; subst h; rfl
  | d :: ds, is, h => by
    cases d <;> simp only [blsOf, reduceCtorEq, Option.map_eq_some_iff] at h
    obtain ⟨r, h1, rfl⟩ := h
    rw [blsOf_map h1]; rfl
theorem rps_bls {K : PySem.W.Frag} {H : Hp} : ∀ {bs : List Bool} {vs : List V}, Rps K H (bs.map .bl) vs → vs = bs.map .bl
  | [], _, h => h
  | i :: is, _, h => by
    obtain ⟨v, r, rfl, h1, h2⟩ := h
    have e : v = .bl i := h1
    rw [e, rps_bls h2]; rfl
theorem rfs_of {K : PySem.W.Frag} {F H : Hp} {c : Shp} (hc : c = .A ∨ c = .F) : ∀ {ds : List D} {vs : List V} {fp : List Addr}, Ows (Ow K F H c) ds vs fp → Rfs F ds vs ∧ (c = .A → imms ds = true)
  | [], _, _, o => ⟨o.1, fun _ => rfl⟩
  | d :: ds, _, _, o => by
    obtain ⟨v, r, f1, f2, rfl, rfl, h1, h2⟩ := o
    obtain ⟨a, b⟩ := rfs_of hc h2
    rcases hc with rfl | rfl
    · exact ⟨⟨v, r, rfl, h1.2.2, a⟩, fun _ => by simp only [imms, Bool.and_eq_true]; exact ⟨h1.2.1, b rfl⟩⟩
    · exact ⟨⟨v, r, rfl, h1.2, a⟩, fun z => by cases z⟩
def biN : Bi → String × Value × Nat
  | .len => ("len", .builtin "len", 1)
  | .abs => ("abs", .builtin "abs", 1)
  | .max2 => ("max", .builtin "max", 2)
  | .min2 => ("min", .builtin "min", 2)
  | .int1 => ("int", .type "int", 1)
  | .list1 _ => ("list", .type "list", 1)
  | .sorted _ => ("sorted", .builtin "sorted", 1)
  | .isI _ => ("isinstance", .builtin "isinstance", 2)
  | .sum => ("sum", .builtin "sum", 1)
  | .maxL => ("max", .builtin "max", 1)
  | .minL => ("min", .builtin "min", 1)
  | .sortedS _ => ("sorted", .builtin "sorted", 1)
  | .str1 => ("str", .type "str", 1)
  | .any1 => ("any", .builtin "any", 1)
  | .all1 => ("all", .builtin "all", 1)
  | .tup1 => ("tuple", .type "tuple", 1)
theorem biN_boot (b : Bi) : bootBuiltins (Str.ofString (biN b).1) = some (biN b).2.1 := by
  cases b <;> (simp only [biN]; decide +kernel)
/-- what the call of a built-in asks -/
theorem bi_rule (xo : XOk G sg W S X) {b : Bi} {ts : List Ts} {u : Shp} (hb : ∀ t, b ≠ .isI t) (hT : biTy b ts = some u) (ha : ts.length = (biN b).2.2) : ∃ r, CallR X (biN b).2.1 r ∧
    ∀ {p ds z env env1 vs F H F1 H1 fp fp1 fo σ Q}, Rel G.K B Γ env1 F1 fp1 σ H1 → Aft p env fp F H env1 fp1 F1 H1 → VOks G.K σ env1 p fp H F1 H1 fp1 ts ds vs fo → biD b ds = some z → KE G W B Γ σ (u, none) p env F H fp (.ok (z, env1)) Q → r vs H1 Q := by
  have all1 : ∀ {t : Ts}, ts = [t] → (if (ts.all fun t => rdOk t.1) = true then some Shp.A else none) = some u → rdOk t.1 = true ∧ u = .A := fun {t} e h => by
    subst e
    simp only [List.all_cons, List.all_nil, Bool.and_true] at h
    split at h
    · rename_i q; cases h; exact ⟨q, rfl⟩
    · cases h
  cases b
  case isI t => exact absurd rfl (hb t)
  case len =>
    match ts, ha with
    | [t], _ =>
      obtain ⟨q, rfl⟩ := all1 rfl hT
      refine ⟨_, call_len, fun {p ds z env env1 vs F H F1 H1 fp fp1 fo σ Q} rel aft vo e k => ?_⟩
      obtain ⟨d, v, f, rfl, rfl, o⟩ := vo1 vo
      have r := o.rp rel.sub q
      have e' : ∃ n : Nat, z = .int n := by cases d <;> simp only [biD, reduceCtorEq, Option.some.injEq] at e <;> exact ⟨_, e.symm⟩
      obtain ⟨n, rfl⟩ := e'
      refine ⟨v, n, rfl, ?_, k.sca rel aft rfl rfl⟩
      rw [xo.K]; exact r.lenV e
  case abs =>
    match ts, ha with
    | [t], _ =>
      obtain ⟨q, rfl⟩ := all1 rfl hT
      refine ⟨_, call_abs, fun {p ds z env env1 vs F H F1 H1 fp fp1 fo σ Q} rel aft vo e k => ?_⟩
      obtain ⟨d, v, f, rfl, rfl, o⟩ := vo1 vo
      have r := o.rp rel.sub q
      cases d <;> simp only [biD, reduceCtorEq, Option.some.injEq] at e
      subst e; cases rp_int r
      exact ⟨_, rfl, k.sca rel aft rfl rfl⟩
  case max2 =>
    match ts, ha with
    | [t, t2], _ =>
      have h : rdOk t.1 = true ∧ rdOk t2.1 = true ∧ u = .A := by
        simp only [biTy, List.all_cons, List.all_nil, Bool.and_true] at hT
        split at hT
        · rename_i q; rw [Bool.and_eq_true] at q; cases hT; exact ⟨q.1, q.2, rfl⟩
        · cases hT
      obtain ⟨q1, q2, rfl⟩ := h
      refine ⟨_, call_max2 xo.calm, fun {p ds z env env1 vs F H F1 H1 fp fp1 fo σ Q} rel aft vo e k => ?_⟩
      obtain ⟨d, v, f, d2, v2, f2, rfl, rfl, o, o2⟩ := vo2 vo
      have r := o.rp rel.sub q1
      have r2 := o2.rp rel.sub q2
      cases d <;> cases d2 <;> simp only [biD, reduceCtorEq, Option.some.injEq] at e
      subst e; cases rp_int r; cases rp_int r2
      exact ⟨_, _, rfl, k.sca rel aft rfl rfl⟩
  case min2 =>
    match ts, ha with
    | [t, t2], _ =>
      have h : rdOk t.1 = true ∧ rdOk t2.1 = true ∧ u = .A := by
        simp only [biTy, List.all_cons, List.all_nil, Bool.and_true] at hT
        split at hT
        · rename_i q; rw [Bool.and_eq_true] at q; cases hT; exact ⟨q.1, q.2, rfl⟩
        · cases hT
      obtain ⟨q1, q2, rfl⟩ := h
      refine ⟨_, call_min2 xo.calm, fun {p ds z env env1 vs F H F1 H1 fp fp1 fo σ Q} rel aft vo e k => ?_⟩
      obtain ⟨d, v, f, d2, v2, f2, rfl, rfl, o, o2⟩ := vo2 vo
      have r := o.rp rel.sub q1
      have r2 := o2.rp rel.sub q2
      cases d <;> cases d2 <;> simp only [biD, reduceCtorEq, Option.some.injEq] at e
      subst e; cases rp_int r; cases rp_int r2
      exact ⟨_, _, rfl, k.sca rel aft rfl rfl⟩
  case int1 =>
    match ts, ha with
    | [t], _ =>
      obtain ⟨q, rfl⟩ := all1 rfl hT
      refine ⟨_, call_int1, fun {p ds z env env1 vs F H F1 H1 fp fp1 fo σ Q} rel aft vo e k => ?_⟩
      obtain ⟨d, v, f, rfl, rfl, o⟩ := vo1 vo
      have r := o.rp rel.sub q
      cases d <;> simp only [biD, reduceCtorEq, Option.some.injEq] at e
      subst e; cases rp_int r
      exact .inl ⟨_, rfl, k.sca rel aft rfl rfl⟩
  case list1 c =>
    match ts, ha with
    | [t], _ =>
      simp only [biTy] at hT
      split at hT
      · rename_i w hw
        split at hT
        · rename_i hg
          cases hT
          refine ⟨_, call_list_of, fun {p ds z env env1 vs F H F1 H1 fp fp1 fo σ Q} rel aft vo e k => ?_⟩
          obtain ⟨d, v, f, rfl, rfl, o⟩ := vo1 vo
          cases d <;> simp only [biD, reduceCtorEq, Option.some.injEq] at e
          · subst e
            obtain ⟨l, vs, rfl, h1, h2, h3, h4⟩ := mem_tup rel.sub o.ow hw
            refine ⟨l, vs, rfl, .inr (by rw [xo.K]; exact h1), fun q n => k.lst rel aft n h2 (h3.imp fun d v f _ h => Ow.ge0 hg h)⟩
          · subst e
            obtain ⟨l, vs, rfl, h1, h2, h3, h4, _⟩ := mem_lst rel.sub o.ow hw
            refine ⟨l, vs, rfl, .inl (by rw [xo.K]; exact h1), fun q n => k.lst rel aft n h2 (h3.imp fun d v f _ h => Ow.ge0 hg h)⟩
        · cases hT
      · cases hT
  case sorted c =>
    match ts, ha with
    | [t], _ =>
      simp only [biTy] at hT
      split at hT
      · rename_i hq
        rw [Bool.and_eq_true] at hq
        cases hT
        refine ⟨_, cr_sortedI, fun {p ds z env env1 vs F H F1 H1 fp fp1 fo σ Q} rel aft vo e k => ?_⟩
        obtain ⟨d, v, f, rfl, rfl, o⟩ := vo1 vo
        have r := o.rp rel.sub hq.1
        cases d <;> simp only [biD, reduceCtorEq, Option.map_eq_some_iff] at e
        obtain ⟨is, hi, rfl⟩ := e
        cases intsOf_map hi
        simp only [Rp] at r
        obtain ⟨a, vs, rfl, h1, h2, h3⟩ := r
        cases rps_ints h3
        refine ⟨a, is, rfl, by rw [xo.K]; exact h1, fun ns q hp hs n => ?_⟩
        have := sort_one (hp.trans (sortI_perm is).symm) hs (sortI_sorted is)
        subst this
        refine k.lst rel aft n ?_ ((ows_A (imms_ints _) (rfs_ints _)).imp fun d v f _ h => Ow.ge0 hq.2 h)
        rw [List.length_map, (sortI_perm is).length_eq]
        simpa using h2
      · cases hT
  case sortedS c =>
    match ts, ha with
    | [t], _ =>
      simp only [biTy] at hT
      split at hT
      · rename_i hq
        rw [Bool.and_eq_true] at hq
        cases hT
        refine ⟨_, cr_sortedS, fun {p ds z env env1 vs F H F1 H1 fp fp1 fo σ Q} rel aft vo e k => ?_⟩
        obtain ⟨d, v, f, rfl, rfl, o⟩ := vo1 vo
        have r := o.rp rel.sub hq.1
        cases d <;> simp only [biD, reduceCtorEq, Option.bind_eq_some_iff, Option.ite_none_right_eq_some, Option.some.injEq] at e
        obtain ⟨is, hi, h64, rfl⟩ := e
        cases strsOf_map hi
        simp only [Rp] at r
        obtain ⟨a, vs, rfl, h1, h2, h3⟩ := r
        obtain ⟨rfl, hok⟩ := rps_strs h3
        refine ⟨a, is, rfl, by rw [xo.K]; exact h1, h64, fun ns q hp hs n => ?_⟩
        have := sortS_one (hp.trans (sortS_perm is).symm) (sorted_pw hs) (sortS_sorted is)
        subst this
        refine k.lst rel aft n ?_ ((ows_A (imms_strs _) (rfs_strs _ fun x hx => hok x ((sortS_perm is).mem_iff.mp hx))).imp fun d v f _ h => Ow.ge0 hq.2 h)
        rw [List.length_map, (sortS_perm is).length_eq]
        simpa using h2
      · cases hT
  case str1 =>
    match ts, ha with
    | [t], _ =>
      obtain ⟨q, rfl⟩ := all1 rfl hT
      refine ⟨_, call_str_int, fun {p ds z env env1 vs F H F1 H1 fp fp1 fo σ Q} rel aft vo e k => ?_⟩
      obtain ⟨d, v, f, rfl, rfl, o⟩ := vo1 vo
      have r := o.rp rel.sub q
      cases d <;> simp only [biD, reduceCtorEq, Option.ite_none_right_eq_some, Option.some.injEq] at e
      obtain ⟨⟨e1, e2, e3⟩, rfl⟩ := e
      cases rp_int r
      exact ⟨_, rfl, e1, k.sca rel aft rfl ⟨rfl, e2, e3⟩⟩
  case sum =>
    match ts, ha with
    | [t], _ =>
      obtain ⟨q, rfl⟩ := all1 rfl hT
      refine ⟨_, cr_sum xo.calm, fun {p ds z env env1 vs F H F1 H1 fp fp1 fo σ Q} rel aft vo e k => ?_⟩
      obtain ⟨d, v, f, rfl, rfl, o⟩ := vo1 vo
      have r := o.rp rel.sub q
      cases d <;> simp only [biD, reduceCtorEq, Option.map_eq_some_iff] at e
      obtain ⟨is, hi, rfl⟩ := e
      cases intsOf_map hi
      simp only [Rp] at r
      obtain ⟨a, vs, rfl, h1, h2, h3⟩ := r
      cases rps_ints h3
      exact ⟨a, is, rfl, by rw [xo.K]; exact h1, k.sca rel aft rfl rfl⟩
  case any1 =>
    match ts, ha with
    | [t], _ =>
      obtain ⟨q, rfl⟩ := all1 rfl hT
      refine ⟨_, cr_any xo.calm, fun {p ds z env env1 vs F H F1 H1 fp fp1 fo σ Q} rel aft vo e k => ?_⟩
      obtain ⟨d, v, f, rfl, rfl, o⟩ := vo1 vo
      have r := o.rp rel.sub q
      cases d <;> simp only [biD, reduceCtorEq, Option.map_eq_some_iff] at e
      obtain ⟨is, hi, rfl⟩ := e
      cases blsOf_map hi
      simp only [Rp] at r
      obtain ⟨a, vs, rfl, h1, h2, h3⟩ := r
      cases rps_bls h3
      exact ⟨a, is, rfl, by rw [xo.K]; exact h1, k.sca rel aft rfl rfl⟩
  case all1 =>
    match ts, ha with
    | [t], _ =>
      obtain ⟨q, rfl⟩ := all1 rfl hT
      refine ⟨_, cr_all xo.calm, fun {p ds z env env1 vs F H F1 H1 fp fp1 fo σ Q} rel aft vo e k => ?_⟩
      obtain ⟨d, v, f, rfl, rfl, o⟩ := vo1 vo
      have r := o.rp rel.sub q
      cases d <;> simp only [biD, reduceCtorEq, Option.map_eq_some_iff] at e
      obtain ⟨is, hi, rfl⟩ := e
      cases blsOf_map hi
      simp only [Rp] at r
      obtain ⟨a, vs, rfl, h1, h2, h3⟩ := r
      cases rps_bls h3
      exact ⟨a, is, rfl, by rw [xo.K]; exact h1, k.sca rel aft rfl rfl⟩
  case tup1 =>
    match ts, ha with
    | [t], _ =>
      have hc : ∃ c, csh t.1 = some c ∧ (c = .A ∨ c = .F) ∧ u = c := by
        simp only [biTy] at hT
        split at hT
        · rename_i e; cases hT; exact ⟨_, e, .inl rfl, rfl⟩
        · rename_i e; cases hT; exact ⟨_, e, .inr rfl, rfl⟩
        · cases hT
      obtain ⟨c, hw, hc, rfl⟩ := hc
      refine ⟨_, call_tuple_of, fun {p ds z env env1 vs F H F1 H1 fp fp1 fo σ Q} rel aft vo e k => ?_⟩
      obtain ⟨d, v, f, rfl, rfl, o⟩ := vo1 vo
      cases d <;> simp only [biD, reduceCtorEq, Option.some.injEq] at e
      · subst e
        obtain ⟨l, vs, rfl, h1, h2, h3, h4⟩ := mem_tup rel.sub o.ow hw
        refine ⟨l, vs, rfl, .inr ⟨by rw [xo.K]; exact h1, k (.ref l) F1 H1 fp1 [] rel aft (VOk.flat0 ?_)⟩⟩
        have ow := o.ow
        rcases hc with rfl | rfl
        · cases e1 : t.1 <;> simp [csh, e1] at hw <;> rw [e1] at ow
          · exact ⟨rfl, ow.2⟩
          · simp only [Ow] at ow; obtain ⟨_, _, _, _, hd, _⟩ := ow; cases hd
          · simp only [Ow] at ow; obtain ⟨_, _, _, _, _, hd, _⟩ := ow; cases hd
          · simp only [Ow] at ow; obtain ⟨_, _, _, _, _, hd, _⟩ := ow; cases hd
        · cases e1 : t.1 <;> simp [csh, e1] at hw <;> rw [e1] at ow
          · exact ⟨rfl, ow.2⟩
          · simp only [Ow] at ow; obtain ⟨_, _, _, _, hd, _⟩ := ow; cases hd
          · simp only [Ow] at ow; obtain ⟨_, _, _, _, _, hd, _⟩ := ow; cases hd
          · simp only [Ow] at ow; obtain ⟨_, _, _, _, _, hd, _⟩ := ow; cases hd
      · subst e
        obtain ⟨l, vs, rfl, h1, h2, h3, h4, _⟩ := mem_lst rel.sub o.ow hw
        obtain ⟨rf, im⟩ := rfs_of hc h3
        refine ⟨l, vs, rfl, .inl ⟨by rw [xo.K]; exact h1, fun q n => ?_⟩⟩
        refine k (.ref q) _ _ fp1 [] (rel.pushF (o := .tup vs) n) (aft.pushF n rel.sub) (VOk.flat0 ?_)
        have rf2 : Rf (upd F1 q (.tup vs)) (.tup _) (.ref q) := ⟨q, vs, rfl, upd_same, h2, Rfs.sub (rel.pushF_sub n) _ _ rf⟩
        rcases hc with rfl | rfl
        · exact ⟨rfl, by simp only [imm]; exact im rfl, rf2⟩
        · exact ⟨rfl, rf2⟩
  case maxL =>
    match ts, ha with
    | [t], _ =>
      obtain ⟨q, rfl⟩ := all1 rfl hT
      refine ⟨_, cr_max xo.calm, fun {p ds z env env1 vs F H F1 H1 fp fp1 fo σ Q} rel aft vo e k => ?_⟩
      obtain ⟨d, v, f, rfl, rfl, o⟩ := vo1 vo
      have r := o.rp rel.sub q
      cases d <;> simp only [biD, reduceCtorEq, Option.bind_eq_some_iff] at e
      obtain ⟨is, hi, e⟩ := e
      cases intsOf_map hi
      simp only [Rp] at r
      obtain ⟨a, vs, rfl, h1, h2, h3⟩ := r
      cases rps_ints h3
      cases is with
      | nil => cases e
      | cons i r =>
        simp only [Option.some.injEq] at e
        subst e
        refine ⟨a, i :: r, rfl, by rw [xo.K]; exact h1, by simp, fun m hm hall => ?_⟩
        obtain ⟨m1, m2⟩ := foldl_max r i
        have : m = r.foldl max i := Int.le_antisymm (m2 m hm) (hall _ m1)
        subst this
        exact k.sca rel aft rfl rfl
  case minL =>
    match ts, ha with
    | [t], _ =>
      obtain ⟨q, rfl⟩ := all1 rfl hT
      refine ⟨_, cr_min xo.calm, fun {p ds z env env1 vs F H F1 H1 fp fp1 fo σ Q} rel aft vo e k => ?_⟩
      obtain ⟨d, v, f, rfl, rfl, o⟩ := vo1 vo
      have r := o.rp rel.sub q
      cases d <;> simp only [biD, reduceCtorEq, Option.bind_eq_some_iff] at e
      obtain ⟨is, hi, e⟩ := e
      cases intsOf_map hi
      simp only [Rp] at r
      obtain ⟨a, vs, rfl, h1, h2, h3⟩ := r
      cases rps_ints h3
      cases is with
      | nil => cases e
      | cons i r =>
        simp only [Option.some.injEq] at e
        subst e
        refine ⟨a, i :: r, rfl, by rw [xo.K]; exact h1, by simp, fun m hm hall => ?_⟩
        obtain ⟨m1, m2⟩ := foldl_min r i
        have : m = r.foldl min i := Int.le_antisymm (hall _ m1) (m2 m hm)
        subst this
        exact k.sca rel aft rfl rfl
theorem r_bi (xo : XOk G sg W S X) {b : Bi} {args : List E} {ts : List Ts} {u : Shp} {x : Str} {e : Expr} {es : List Expr} {p pos : Pos} (hb : ∀ t, b ≠ .isI t) (hT : biTy b ts = some u) (hl : ts.length = (biN b).2.2) (hx : freeB S x = true) (hn : x = Str.ofString (biN b).1)
    (ha : PA X (e :: es) (tEs G W B Γ (purs args) args ts)) (he : starEach (e :: es) X.env = (false, eval e X.env) :: starEach es X.env) (hpl : (backTo pos (starEach es X.env)).any (·.1) = false) :
    PE X (.Call (.Name x p) (e :: es) [] pos) (tE G W B Γ (pur (.bi b args)) (.bi b args) (u, none)) := by
  unfold freeB at hx
  simp only [Bool.and_eq_true, List.contains_eq_mem, decide_eq_true_eq, Bool.not_eq_true'] at hx
  obtain ⟨⟨x1, x2⟩, x3⟩ := hx
  obtain ⟨d1, d2, d3⟩ := odd_of x3
  obtain ⟨r, hr, fin⟩ := bi_rule (W := W) (B := B) (Γ := Γ) xo hb hT hl
  have hv := biN_boot b
  rw [← hn] at hv
  have hm := xo.free x x2
  have hg := xo.gl x1
  cases b <;> first
    | exact absurd rfl (hb _)
    | exact bi_of (pe_callB hr hg hm hv ha d3 d1 he hpl) fun a b c d e => fin a b c d e
    | exact bi_of (pe_callTy hr hg hm hv ha d3 d1 he hpl) fun a b c d e => fin a b c d e
/-! ### methods of texts -/
def m2N : M2 → String
  | .join => "join"
theorem strOk_app2 {x y : Str} (s1 : PyData.strOk x = true) (s2 : PyData.strOk y = true) : PyData.strOk (x ++ y) = true := by
  unfold PyData.strOk at s1 s2 ⊢
  show ((x ++ y).cps).all _ = true
  have : (x ++ y).cps = x.cps ++ y.cps := rfl
  rw [this, Array.all_append, s1, s2]; rfl
theorem len_app2 (x y : Str) : (x ++ y).length = x.length + y.length := by show (x.cps ++ y.cps).size = _; rw [Array.size_append]; rfl
theorem join_ok {s : Str} (hs : PyData.strOk s = true) : ∀ {ys : List Str}, (∀ x ∈ ys, PyData.strOk x = true) → PyData.strOk (Str.join s ys) = true ∧ (Str.join s ys).length ≤ (ys.map (·.length)).sum + ys.length * s.length
  | [], _ => ⟨by unfold PyData.strOk; exact Array.all_empty, by show 0 ≤ _; omega⟩
  | [x], h => ⟨h x List.mem_cons_self, by simp [Str.join]⟩
  | x :: y :: r, h => by
    obtain ⟨a, b⟩ := join_ok hs (ys := y :: r) fun z hz => h z (List.mem_cons_of_mem _ hz)
    have e : Str.join s (x :: y :: r) = x ++ s ++ Str.join s (y :: r) := rfl
    rw [e]
    refine ⟨strOk_app2 (strOk_app2 (h x List.mem_cons_self) hs) a, ?_⟩
    rw [len_app2, len_app2]
    simp only [List.map_cons, List.sum_cons, List.length_cons] at b ⊢
    have : (r.length + 1 + 1) * s.length = (r.length + 1) * s.length + s.length := by rw [Nat.succ_mul]
    omega
theorem r_m2 (xo : XOk G sg W S X) {o : M2} {ea eb : E} {ta tb : Ts} {a b : Expr} {m : Str} {apos cpos : Pos} (hm : m = Str.ofString (m2N o)) (ha : PE X a (tE G W B Γ (pur ea) ea ta)) (hb : PE X b (tE G W B Γ (pur eb) eb tb)) (hc : (ta.2.isNone || pur eb) = true) (q1 : rdOk ta.1 = true) (q2 : rdOk tb.1 = true)
    (hnc : notCall a = true) (hl : (apos.endLine == cpos.line) = true) (hs : starEach [b] X.env = [(false, eval b X.env)]) : PE X (.Call (.Attribute a m apos) [b] [] cpos) (tE G W B Γ (pur (.m2 o ea eb)) (.m2 o ea eb) (.A, none)) := by
  subst hm
  cases o
  refine PE_imp (pe_join ha hb hs (attrBase hnc) hl) ?_
  rintro σ H Q ⟨env, F, fp, rel, k⟩
  simp only [evE] at k
  refine ⟨env, F, fp, rel, ?_⟩
  cases r : evE G.C ea env with
  | no => rw [r] at k; exact k
  | exc x e' => rw [r] at k; exact k
  | ok q1 =>
    obtain ⟨d1, env1⟩ := q1
    rw [r] at k
    simp only [R.bind_ok] at k
    intro v F1 H1 fp1 f1 rel1 aft1 vo1
    cases d1 <;> try exact k.elim
    rename_i x
    obtain ⟨rfl, x1, x2⟩ := rp_str (vo1.ow.rp rel1.sub q1)
    refine ⟨⟨x, rfl⟩, env1, F1, fp1, rel1, ?_⟩
    cases r2 : evE G.C eb env1 with
    | no => simp only [r2] at k; exact k
    | exc x e' => simp only [r2] at k; exact k
    | ok q2' =>
      obtain ⟨d2, env2⟩ := q2'
      simp only [r2, R.bind_ok] at k
      intro v2 F2 H2 fp2 f2 rel2 aft2 vo2
      have r2' := vo2.ow.rp rel2.sub q2
      have aft : Aft (pur (.m2 .join ea eb)) env fp F H env2 fp2 F2 H2 := (aft1.trans aft2).weak fun z => by simpa [pur] using z
      have fin : ∀ (ds : List D) (vs : List V), joinD x ds ≠ none → m2D .join (.str x) d2 = joinD x ds → Rps G.K H2 ds vs → ∃ ys : List Str, vs = ys.map .str ∧ (ys.map (·.length)).sum + ys.length * x.length ≤ 16777216 ∧ Q (.str (Txt.join x ys)) H2 := fun ds vs hn e hr => by
        rw [e] at k
        unfold joinD at hn k
        cases hy : strsOf ds with
        | none => rw [hy] at hn; exact absurd rfl hn
        | some ys =>
          rw [hy] at hn k
          simp only [Option.bind_some] at hn k
          split at hn
          · rename_i hl
            rw [if_pos hl] at k
            cases strsOf_map hy
            obtain ⟨rfl, hok⟩ := rps_strs hr
            obtain ⟨o1, o2⟩ := join_ok x1 (ys := ys) fun z hz => (hok z hz).1
            refine ⟨ys, rfl, hl, ?_⟩
            rw [TL.join_eq]
            exact KE.sca k rel2 aft rfl ⟨rfl, o1, by have : lim = 16777216 := rfl; omega⟩
          · exact absurd rfl hn
      cases d2 <;> simp only [m2D] at k fin <;> try exact k.elim
      · rename_i ds
        have hn : joinD x ds ≠ none := fun e => by rw [e] at k; exact k
        simp only [Rp] at r2'
        obtain ⟨a, vs, rfl, h1, h2, h3⟩ := r2'
        obtain ⟨ys, rfl, hl, q⟩ := fin ds vs hn rfl h3
        exact ⟨x, a, ys, rfl, rfl, .inr (by rw [xo.K]; exact h1), hl, q⟩
      · rename_i ds
        have hn : joinD x ds ≠ none := fun e => by rw [e] at k; exact k
        simp only [Rp] at r2'
        obtain ⟨a, vs, rfl, h1, h2, h3⟩ := r2'
        obtain ⟨ys, rfl, hl, q⟩ := fin ds vs hn rfl h3
        exact ⟨x, a, ys, rfl, rfl, .inl (by rw [xo.K]; exact h1), hl, q⟩
/-! isinstance(e, T) -/
def tyN : Ty → String
  | .int => "int" | .bool => "bool" | .str => "str" | .list => "list" | .tuple => "tuple" | .dict => "dict"
theorem tyN_boot (t : Ty) : bootBuiltins (Str.ofString (tyN t)) = some (.type (tyN t)) := by cases t <;> decide +kernel
theorem isi_V {K : PySem.W.Frag} {H : Hp} {d : D} {v : V} {t : Ty} {k : Bool} (r : Rp K H d v) (h : isD t d = some k) : ∃ y, TyX K H v y ∧ PySem.W.kitOne K y (.type (tyN t)) = some k := by
  cases d
  case non => have e : v = .non := r; subst e; exact ⟨_, .base .non, kit_ty (by cases t <;> simp [isD] at h <;> subst h <;> decide +kernel)⟩
  case bl b => have e : v = .bl b := r; subst e; exact ⟨_, .base (.bl b), kit_ty (by cases t <;> simp [isD] at h <;> subst h <;> decide +kernel)⟩
  case int i => have e : v = .int i := r; subst e; exact ⟨_, .base (.int i), kit_ty (by cases t <;> simp [isD] at h <;> subst h <;> decide +kernel)⟩
  case str x => obtain ⟨e, _⟩ := rp_str r; subst e; exact ⟨_, .base (.str x), kit_ty (by cases t <;> simp [isD] at h <;> subst h <;> decide +kernel)⟩
  case tup ds =>
    simp only [Rp] at r
    obtain ⟨a, vs, rfl, h1, h2, h3⟩ := r
    have kk : PySem.W.kitOne K (.type "tuple") (.type (tyN t)) = some k := kit_ty (by cases t <;> simp [isD] at h <;> subst h <;> decide +kernel)
    rcases h1 with (h1 | ⟨o, h1⟩) | ⟨o, its, n, k1, k2, _⟩
    · exact ⟨_, .base (.tup h1), kk⟩
    · exact ⟨_, .fTuple h1, kk⟩
    · exact ⟨_, .kTuple k1 k2, kk⟩
  case lst ds =>
    simp only [Rp] at r
    obtain ⟨a, vs, rfl, h1, h2, h3⟩ := r
    have kk : PySem.W.kitOne K (.type "list") (.type (tyN t)) = some k := kit_ty (by cases t <;> simp [isD] at h <;> subst h <;> decide +kernel)
    rcases h1 with (h1 | ⟨o, h1⟩) | ⟨o, its, n, k1, k2, _⟩
    · exact ⟨_, .base (.lst h1), kk⟩
    · exact ⟨_, .base (.frz h1), kk⟩
    · exact ⟨_, .kList k1 k2, kk⟩
  case dK ks ds =>
    simp only [Rp] at r
    obtain ⟨a, kvs, rfl, h1, _⟩ := r
    exact ⟨_, .base (.dK h1), kit_ty (by cases t <;> simp [isD] at h <;> subst h <;> decide +kernel)⟩
  case dT ks ds =>
    simp only [Rp] at r
    obtain ⟨a, kvs, rfl, h1, _⟩ := r
    exact ⟨_, .base (.dT h1), kit_ty (by cases t <;> simp [isD] at h <;> subst h <;> decide +kernel)⟩
  all_goals exact (show False from r).elim
theorem r_isI (xo : XOk G sg W S X) {ty : Ty} {e : E} {t : Ts} {x y : Str} {a : Expr} {p p2 pos : Pos} (q : rdOk t.1 = true) (hx : freeB S x = true) (hn : x = Str.ofString "isinstance") (hy : freeB S y = true) (hny : y = Str.ofString (tyN ty))
    (ha : PE X a (tE G W B Γ (pur e) e t)) (he : starEach [a, .Name y p2] X.env = [(false, eval a X.env), (false, eval (.Name y p2) X.env)]) :
    PE X (.Call (.Name x p) [a, .Name y p2] [] pos) (tE G W B Γ (pur (.bi (.isI ty) [e])) (.bi (.isI ty) [e]) (.A, none)) := by
  unfold freeB at hx hy
  simp only [Bool.and_eq_true, List.contains_eq_mem, decide_eq_true_eq, Bool.not_eq_true'] at hx hy
  obtain ⟨⟨x1, x2⟩, x3⟩ := hx
  obtain ⟨⟨y1, y2⟩, y3⟩ := hy
  obtain ⟨d1, d2, d3⟩ := odd_of x3
  obtain ⟨c1, c2, c3⟩ := odd_of y3
  have hvx : bootBuiltins x = some (.builtin "isinstance") := by rw [hn]; decide +kernel
  have hvy : bootBuiltins y = some (.type (tyN ty)) := by rw [hny]; exact tyN_boot ty
  have py : PE X (.Name y p2) (tC (.ty (tyN ty))) := pe_bltn (xo.gl y1) (xo.free y y2) hvy rfl c3 c1
  refine PE_imp (pe_callB call_isi (xo.gl x1) (xo.free x x2) hvx (pa_cons ha (pa_cons py pa_nil rfl) (by rw [he]; rfl)) d3 d1 (by rw [he]; rfl) rfl) ?_
  rintro σ H Q ⟨env, F, fp, rel, k⟩
  have e0 : evE G.C (.bi (.isI ty) [e]) env = (evE G.C e env).bind fun q => ofO (biD (.isI ty) [q.1]) q.2 := by
    simp only [evE, evEs]
    cases evE G.C e env <;> rfl
  rw [e0] at k
  refine oneO (p := pur (.bi (.isI ty) [e])) (k := fun d e => ofO (biD (.isI ty) [d]) e) oc_KE rel k (fun z => by simpa [pur, purs] using z) ?_
  intro d env1 v F1 H1 fp1 f1 rel1 aft1 _ o1 _ k1
  cases z : isD ty d with
  | none => simp only [biD, z] at k1; exact k1.elim
  | some b =>
    simp only [biD, z] at k1
    obtain ⟨yv, h1, h2⟩ := isi_V (o1.rp rel1.sub q) z
    refine ⟨v, .ty (tyN ty), yv, _, b, rfl, .ty _, by rw [xo.K]; exact h1, by rw [xo.K]; exact h2, k1.sca rel1 aft1 rfl rfl⟩
end
end VC
end

section
set_option Elab.async false
set_option linter.all false
set_option autoImplicit false
set_option maxRecDepth 100000
/-! VC11: walks: items, targets, iterators. -/
namespace VC
open PySem PySem.Spec L2

/-! ### wiped places -/
def wp {α : Type} (x : α) (l : List α) : List Nat → List α
  | [] => l
  | i :: is => (wp x l is).set i x
theorem wp_len {α : Type} (x : α) (l : List α) : ∀ is : List Nat, (wp x l is).length = l.length
  | [] => rfl
  | i :: is => by unfold wp; rw [List.length_set, wp_len x l is]
theorem wp_out {α : Type} {x : α} {l : List α} {j : Nat} : ∀ {is : List Nat}, j ∉ is → (wp x l is)[j]? = l[j]?
  | [], _ => rfl
  | i :: is, h => by
    simp only [List.mem_cons, not_or] at h
    unfold wp; rw [List.getElem?_set_ne (fun e => h.1 e.symm), wp_out h.2]
theorem wp_in {α : Type} {x : α} {l : List α} {j : Nat} : ∀ {is : List Nat}, j ∈ is → (wp x l is)[j]? = (l[j]?).map fun _ => x
  | [], h => by simp at h
  | i :: is, h => by
    unfold wp
    by_cases e : i = j
    · subst e
      by_cases hl : i < l.length
      · rw [List.getElem?_set_self (by rw [wp_len]; exact hl)]; simp [hl]
      · rw [List.getElem?_eq_none (by rw [List.length_set, wp_len]; omega), List.getElem?_eq_none (by omega)]; rfl
    · rw [List.getElem?_set_ne e]
      have h' : j ∈ is := by
        rcases List.mem_cons.mp h with z | z
        · exact absurd z.symm e
        · exact z
      exact wp_in h'
theorem wipeS_wp (Γ : SEnv) : ∀ is : List Nat, wipeS Γ is = wp .X Γ is
  | [] => rfl
  | i :: is => by unfold wipeS wp; rw [wipeS_wp Γ is]
theorem wipeD_wp (env : Env) : ∀ is : List Nat, wipeD env is = wp none env is
  | [] => rfl
  | i :: is => by unfold wipeD wp; rw [wipeD_wp env is]
theorem wipe_wp (σ : L2.St) : ∀ is : List Nat, wipe σ is = wp none σ is
  | [] => rfl
  | i :: is => by unfold wipe wp; rw [wipe_wp σ is]
/-- alike outside own -/
structure Agr (own : List Nat) (a b : Env) : Prop where
  len : b.length = a.length
  at_ : ∀ j, j ∉ own → b[j]? = a[j]?
theorem Agr.trans {own : List Nat} {a b c : Env} (h : Agr own a b) (k : Agr own b c) : Agr own a c := ⟨k.len.trans h.len, fun j n => (k.at_ j n).trans (h.at_ j n)⟩
theorem Agr.wiped (env : Env) (own : List Nat) : Agr own env (wipeD env own) := by
  rw [wipeD_wp]; exact ⟨wp_len _ _ _, fun j h => wp_out h⟩
theorem backD_len (old env : Env) : ∀ is : List Nat, (backD old env is).length = env.length
  | [] => rfl
  | i :: is => by unfold backD; rw [List.length_set, backD_len old env is]
theorem backD_eq {old env : Env} {own : List Nat} (h : Agr own old env) : backD old env own = old := by
  have out : ∀ {is : List Nat} {j : Nat}, j ∉ is → (backD old env is)[j]? = env[j]? := by
    intro is
    induction is with
    | nil => intro j _; rfl
    | cons i is ih =>
      intro j n
      simp only [List.mem_cons, not_or] at n
      unfold backD; rw [List.getElem?_set_ne (fun e => n.1 e.symm), ih n.2]
  have ins : ∀ {is : List Nat} {j : Nat}, j ∈ is → (backD old env is)[j]? = old[j]? := by
    intro is
    induction is with
    | nil => intro j n; simp at n
    | cons i is ih =>
      intro j n
      unfold backD
      by_cases e : i = j
      · subst e
        by_cases hl : i < old.length
        · rw [List.getElem?_set_self (by rw [backD_len, h.len]; exact hl)]
          simp [hl]
        · rw [List.getElem?_eq_none (by rw [List.length_set, backD_len, h.len]; omega), List.getElem?_eq_none (by omega)]
      · rw [List.getElem?_set_ne e]
        refine ih ?_
        rcases List.mem_cons.mp n with z | z
        · exact absurd z.symm e
        · exact z
  apply List.ext_getElem?
  intro j
  by_cases z : j ∈ own
  · exact ins z
  · rw [out z]; exact h.at_ j z

/-! ### steps that change nothing owned -/
section
variable {K : PySem.W.Frag} {B : Bs} {Γ : SEnv} {env env1 : Env} {F F1 F' H H1 H' : Hp} {fp fp1 : Fps} {σ : L2.St} {p : Bool} {s t : Shp} {d : D} {v : V} {g : List Addr}
theorem Rel.step (r : Rel K B Γ env F fp σ H) (f : Fr [] F H F' H') (s : Sub F' H') (t : Tups H' F') : Rel K B Γ env F' fp σ H' where
  e := r.e.keep f.fs fun a h => by
    obtain ⟨⟨o, e, _⟩, n⟩ := r.dom a h
    refine ⟨(f.keep a o (by simp) e).trans e.symm, ?_⟩
    cases q : F' a with
    | none => rfl
    | some u =>
      rcases f.fnew a u q with z | z | z
      · rw [n] at z; cases z
      · simp at z
      · rw [e] at z; cases z
  nd := r.nd
  sub := s
  tup := t
  fr := r.fr.trans f fun a h => by simp at h
  new := r.new
  io := r.io
theorem Aft.step (f : Fr [] F H F' H') : Aft true env fp F H env fp F' H' := ⟨f.mono fun a z => by simp at z, fun _ => ⟨rfl, rfl⟩, fun _ h => .inl h⟩
/-- a new object is written -/
theorem Rel.wr {l : Addr} {o : HO} (r : Rel K B Γ env F fp σ H) (hl : l ∉ fp.flatten) (hF : F l = none) (ho : ∀ xs, o ≠ .tup xs) (hB : B.H l = none) : Rel K B Γ env F fp σ (upd H l o) where
  e := r.e.keep (Sub.refl _) fun a h => ⟨upd_ne fun e => hl (e ▸ h), (r.dom a h).2⟩
  nd := r.nd
  sub := fun a u h => by
    have ne : a ≠ l := fun q => by rw [q, hF] at h; cases h
    rw [upd_ne ne]; exact r.sub a u h
  tup := fun a xs h => by
    by_cases q : a = l
    · subst q; rw [upd_same] at h; exact absurd (Option.some.inj h) (ho xs)
    · rw [upd_ne q] at h; exact r.tup a xs h
  fr := r.fr.trans (P' := [l]) (Fr.write List.mem_cons_self) fun a z => by
    have : a = l := by simpa using z
    subst this; exact .inr hB
  new := r.new
  io := r.io
/-- a value is stored under a name -/
theorem Rel.store {i : Nat} {fv : List Addr} (r : Rel K B Γ env F fp σ H) (hi : i < Γ.length) (hio : i ∉ B.ios) (ow : Ow K F H s d v fv) (nv : fv.Nodup) (hv : ∀ a ∈ fv, a ∉ fp.flatten) (new : ∀ a ∈ fv, a ∈ B.fp ∨ B.H a = none) :
    Rel K B (Γ.set i s) (env.set i (some d)) F (fp.set i fv) (σ.set i (some v)) H where
  e := r.e.set hi (.inr ⟨v, rfl, ow⟩)
  nd := by
    have l := r.e.len.2.2
    exact nd_set r.nd (List.getElem?_eq_getElem (by omega)) nv fun a z q => absurd q (hv a z)
  sub := r.sub
  tup := r.tup
  fr := r.fr
  new := fun a z => by
    have l := r.e.len.2.2
    rcases mem_set r.nd (List.getElem?_eq_getElem (l := fp) (i := i) (by omega)) z with y | y
    · exact r.new a y.1
    · exact new a y
  io := fun j hj => by
    have ne : i ≠ j := fun e => hio (e ▸ hj)
    rw [List.getElem?_set_ne ne]; exact r.io j hj
theorem Rel.store_sub {i : Nat} (r : Rel K B Γ env F fp σ H) (hi : i < Γ.length) {fv : List Addr} : ∀ a ∈ (fp.set i fv).flatten, a ∈ fp.flatten ∨ a ∈ fv := fun a z => by
  have l := r.e.len.2.2
  rcases mem_set r.nd (List.getElem?_eq_getElem (l := fp) (i := i) (by omega)) z with y | y
  · exact .inl y.1
  · exact .inr y
/-- the places own are looked at no more -/
theorem Rel.wipe {own : List Nat} {envd : Env} (r : Rel K B Γ env F fp σ H) (h : Agr own env envd) : Rel K { B with σ := L2.wipe σ own, ios := [] } (wipeS Γ own) envd F (wp [] fp own) (L2.wipe σ own) H where
  e := by
    obtain ⟨l1, l2, l3⟩ := r.e.len
    rw [wipeS_wp, wipe_wp]
    refine RelE.mk (by rw [wp_len, h.len, l1]) (by rw [wp_len, wp_len, l2]) (by rw [wp_len, wp_len, l3]) fun i s o w f e1 e2 e3 e4 => ?_
    by_cases z : i ∈ own
    · rw [wp_in z] at e1 e4
      obtain ⟨_, _, rfl⟩ := Option.map_eq_some_iff.mp e1
      obtain ⟨_, _, rfl⟩ := Option.map_eq_some_iff.mp e4
      cases o with
      | none => rfl
      | some d => exact .inl ⟨rfl, rfl⟩
    · rw [wp_out z] at e1 e3 e4
      rw [h.at_ i z] at e2
      obtain ⟨o', w', f', a1, a2, a3, a4⟩ := r.e.at e1
      rw [e2] at a1; rw [e3] at a2; rw [e4] at a3
      cases a1; cases a2; cases a3
      exact a4
  nd := by
    refine nd_of (fun i f e => ?_) fun i j f g a n e1 e2 h1 h2 => ?_
    · by_cases z : i ∈ own
      · rw [wp_in z] at e
        obtain ⟨_, _, rfl⟩ := Option.map_eq_some_iff.mp e
        exact List.nodup_nil
      · rw [wp_out z] at e; exact nd_at r.nd e
    · by_cases z : i ∈ own
      · rw [wp_in z] at e1
        obtain ⟨_, _, rfl⟩ := Option.map_eq_some_iff.mp e1
        simp at h1
      · by_cases y : j ∈ own
        · rw [wp_in y] at e2
          obtain ⟨_, _, rfl⟩ := Option.map_eq_some_iff.mp e2
          simp at h2
        · rw [wp_out z] at e1; rw [wp_out y] at e2
          exact at_apart r.nd e1 e2 n h1 h2
  sub := r.sub
  tup := r.tup
  fr := r.fr
  new := fun a z => by
    obtain ⟨i, f, e, hf⟩ := mem_flat z
    by_cases y : i ∈ own
    · rw [wp_in y] at e
      obtain ⟨_, _, rfl⟩ := Option.map_eq_some_iff.mp e
      simp at hf
    · rw [wp_out y] at e; exact r.new a (mem_at e hf)
  io := fun i h => by simp at h
end

/-! ### items -/
section
variable {K : PySem.W.Frag} {F F' H H' : Hp}
def Mems (K : PySem.W.Frag) (F H : Hp) : List Shp → List D → List V → Prop
  | [], ds, vs => ds = [] ∧ vs = []
  | c :: cs, ds, vs => ∃ d dr v vr, ds = d :: dr ∧ vs = v :: vr ∧ Ow K F H c d v [] ∧ Mems K F H cs dr vr
def Itm (K : PySem.W.Frag) (F H : Hp) : IS → D → V → Prop
  | .one c, d, v => flat c = true ∧ Ow K F H c d v []
  | .tup cs, d, v => ∃ a ds vs, d = .tup ds ∧ v = .ref a ∧ SqT K H a vs ∧ Mems K F H cs ds vs
theorem Mems.len : ∀ {cs : List Shp} {ds : List D} {vs : List V}, Mems K F H cs ds vs → ds.length = cs.length ∧ vs.length = cs.length
  | [], _, _, h => by obtain ⟨rfl, rfl⟩ := h; exact ⟨rfl, rfl⟩
  | c :: cs, _, _, h => by
    obtain ⟨d, dr, v, vr, rfl, rfl, h1, h2⟩ := h
    obtain ⟨a, b⟩ := Mems.len h2
    exact ⟨by simp [a], by simp [b]⟩
theorem mems_of {c : Shp} : ∀ {ds : List D} {vs : List V} (is : List Nat), Ows (Ow K F H c) ds vs [] → is.length = ds.length → Mems K F H (is.map fun _ => c) ds vs
  | [], _, is, h, l => by
    have : is = [] := List.length_eq_zero_iff.mp l
    subst this
    exact ⟨rfl, h.1⟩
  | d :: ds, _, [], h, l => by simp at l
  | d :: ds, _, i :: is, h, l => by
    obtain ⟨v, r, f1, f2, rfl, e, h1, h2⟩ := h
    have e := e.symm
    simp only [List.append_eq_nil_iff] at e
    obtain ⟨rfl, rfl⟩ := e
    exact ⟨d, ds, v, r, rfl, rfl, h1, mems_of is h2 (by simpa using l)⟩
theorem Ows.nth0 {R : D → V → List Addr → Prop} : ∀ {ds : List D} {vs : List V} {i : Nat} {d : D}, Ows R ds vs [] → ds[i]? = some d → ∃ v, vs[i]? = some v ∧ R d v []
  | [], _, _, _, _, e => by simp at e
  | d :: ds, _, i, x, h, e => by
    obtain ⟨v, r, f1, f2, rfl, q, h1, h2⟩ := h
    have q := q.symm
    simp only [List.append_eq_nil_iff] at q
    obtain ⟨rfl, rfl⟩ := q
    cases i with
    | zero => simp at e; subst e; exact ⟨v, by simp, h1⟩
    | succ i =>
      obtain ⟨u, a, b⟩ := Ows.nth0 (i := i) h2 (by simpa using e)
      exact ⟨u, by simpa using a, b⟩
end

/-! ### targets -/
def gList : List Nat → TGs
  | [] => gNil
  | i :: is => gCons (gName i) (gList is)
def tgR (K : PySem.W.Frag) : Tg → TG
  | .nm i => gName i
  | .tp is => gTup K is.length (gList is)
theorem wipe_set {σ : L2.St} {i : Nat} {w : Option V} {vs : List Nat} (h : i ∈ vs) : wipe (σ.set i w) vs = wipe σ vs := by
  rw [wipe_wp, wipe_wp]
  apply List.ext_getElem?
  intro j
  by_cases z : j ∈ vs
  · rw [wp_in z, wp_in z]
    by_cases e : i = j
    · subst e
      by_cases hl : i < σ.length
      · rw [List.getElem?_set_self hl]; simp [hl]
      · rw [List.getElem?_eq_none (by rw [List.length_set]; omega), List.getElem?_eq_none (by omega)]
    · rw [List.getElem?_set_ne e]
  · rw [wp_out z, wp_out z, List.getElem?_set_ne fun e => z (by rw [← e]; exact h)]
theorem wipe_wipe {σ : L2.St} {vs : List Nat} : wipe (wipe σ vs) vs = wipe σ vs := by
  rw [wipe_wp, wipe_wp]
  apply List.ext_getElem?
  intro j
  by_cases z : j ∈ vs
  · rw [wp_in z, wp_in z]; cases σ[j]? <;> rfl
  · rw [wp_out z]
theorem setS_len : ∀ (ps : List (Nat × Shp)) (Γ : SEnv), (setS Γ ps).length = Γ.length
  | [], Γ => rfl
  | (i, s) :: r, Γ => by unfold setS; rw [setS_len r, List.length_set]
section
variable {K : PySem.W.Frag} {B : Bs} {F H : Hp}
/-- what a store into names leads to -/
structure Bound (K : PySem.W.Frag) (B : Bs) (ks : List Nat) (Γ' : SEnv) (env : Env) (fp : Fps) (σ : L2.St) (F H : Hp) (env' : Env) (σ' : L2.St) (fp' : Fps) : Prop where
  rel : Rel K B Γ' env' F fp' σ' H
  sub : ∀ a ∈ fp'.flatten, a ∈ fp.flatten
  wip : ∀ vs : List Nat, (∀ i ∈ ks, i ∈ vs) → wipe σ' vs = wipe σ vs
  agr : Agr ks env env'
theorem gList_ok : ∀ {is : List Nat} {cs : List Shp} {ds : List D} {vs : List V} {Γ : SEnv} {env env' : Env} {fp : Fps} {σ : L2.St}, Rel K B Γ env F fp σ H → Mems K F H cs ds vs → is.length = cs.length → (∀ i ∈ is, i < Γ.length ∧ i ∉ B.ios) → setAll env is ds = some env' →
    ∃ σ' fp', Bound K B is (setS Γ (is.zip cs)) env fp σ F H env' σ' fp' ∧ ∀ Q : L2.St → Hp → Prop, Q σ' H → gList is vs σ H Q
  | [], cs, ds, vs, Γ, env, env', fp, σ, rel, m, l, hi, h => by
    have : cs = [] := List.length_eq_zero_iff.mp l.symm
    subst this
    obtain ⟨rfl, rfl⟩ := m
    simp only [setAll] at h
    cases h
    exact ⟨σ, fp, ⟨rel, fun a z => z, fun vs _ => rfl, rfl, fun _ _ => rfl⟩, fun Q q => ⟨rfl, q⟩⟩
  | i :: is, [], _, _, _, _, _, _, _, _, _, l, _, _ => by simp at l
  | i :: is, c :: cs, ds, vs, Γ, env, env', fp, σ, rel, m, l, hi, h => by
    obtain ⟨d, dr, v, vr, rfl, rfl, h1, h2⟩ := m
    simp only [setAll] at h
    obtain ⟨hi1, hi2⟩ := hi i List.mem_cons_self
    have rel1 := rel.store hi1 hi2 h1 List.nodup_nil (fun a z => by simp at z) (fun a z => by simp at z)
    obtain ⟨σ', fp', b, k⟩ := gList_ok rel1 h2 (by simpa using l) (fun j hj => ⟨by rw [List.length_set]; exact (hi j (List.mem_cons_of_mem _ hj)).1, (hi j (List.mem_cons_of_mem _ hj)).2⟩) h
    refine ⟨σ', fp', ⟨b.rel, fun a z => ?_, fun vs hv => ?_, ⟨?_, fun j n => ?_⟩⟩, fun Q q => ⟨v, vr, rfl, k Q q⟩⟩
    · rcases rel.store_sub hi1 a (b.sub a z) with y | y
      · exact y
      · simp at y
    · rw [b.wip vs fun i hi => hv i (List.mem_cons_of_mem _ hi), wipe_set (hv i List.mem_cons_self)]
    · rw [b.agr.len, List.length_set]
    · simp only [List.mem_cons, not_or] at n
      rw [b.agr.at_ j n.2, List.getElem?_set_ne fun e => n.1 e.symm]
theorem flat_csh {c : Shp} (h : flat c = true) : csh c = some c := by cases c <;> simp [flat] at h <;> rfl
theorem setAll_len {env env' : Env} : ∀ {is : List Nat} {ds : List D}, setAll env is ds = some env' → is.length = ds.length := by
  intro is
  induction is generalizing env with
  | nil => intro ds h; cases ds <;> simp [setAll] at h ⊢
  | cons i is ih =>
    intro ds h
    cases ds with
    | nil => simp [setAll] at h
    | cons d ds => simp only [setAll] at h; simp [ih h]
theorem bind_ok {Γ : SEnv} {env env' : Env} {fp : Fps} {σ : L2.St} {c : IS} {g : Tg} {ps : List (Nat × Shp)} {d : D} {x : V} (rel : Rel K B Γ env F fp σ H) (it : Itm K F H c d x) (hg : tgTy c g = some ps) (hi : ∀ q ∈ ps, q.1 < Γ.length ∧ q.1 ∉ B.ios) (h : bindTg g d env = .ok env') :
    ∃ σ' fp', Bound K B (ps.map (·.1)) (setS Γ ps) env fp σ F H env' σ' fp' ∧ ∀ Q : L2.St → Hp → Prop, Q σ' H → tgR K g x σ H Q := by
  cases g with
  | nm i =>
    cases c with
    | tup cs => simp [tgTy] at hg
    | one c =>
      simp [tgTy] at hg
      subst hg
      obtain ⟨hc, ow⟩ := it
      simp only [bindTg, R.ok.injEq] at h
      subst h
      obtain ⟨hi1, hi2⟩ := hi (i, c) List.mem_cons_self
      have rel1 := rel.store hi1 hi2 ow List.nodup_nil (fun a z => by simp at z) (fun a z => by simp at z)
      refine ⟨_, _, ⟨rel1, fun a z => ?_, fun vs hv => wipe_set (hv i (by simp)), ⟨List.length_set, fun j n => ?_⟩⟩, fun Q q => q⟩
      · rcases rel.store_sub hi1 a z with y | y
        · exact y
        · simp at y
      · simp at n
        rw [List.getElem?_set_ne fun e => n e.symm]
  | tp is =>
    have hd : ∃ ds, d = .tup ds ∧ setAll env is ds = some env' := by
      cases d <;> simp only [bindTg, reduceCtorEq] at h
      rename_i ds
      refine ⟨ds, rfl, ?_⟩
      split at h
      · rename_i e he; cases h; exact he
      · cases h
    obtain ⟨ds, rfl, hd⟩ := hd
    have main : ∀ cs : List Shp, is.length = cs.length → ps = is.zip cs → (∃ a vs, x = .ref a ∧ SqT K H a vs ∧ Mems K F H cs ds vs) → ∃ σ' fp', Bound K B (ps.map (·.1)) (setS Γ ps) env fp σ F H env' σ' fp' ∧ ∀ Q : L2.St → Hp → Prop, Q σ' H → tgR K (.tp is) x σ H Q := by
      rintro cs l rfl ⟨a, vs, rfl, sq, m⟩
      have e1 : (is.zip cs).map (·.1) = is := List.map_fst_zip (by omega)
      have hi' : ∀ i ∈ is, i < Γ.length ∧ i ∉ B.ios := fun i h => by
        rw [← e1] at h
        obtain ⟨q, hq, rfl⟩ := List.mem_map.mp h
        exact hi q hq
      obtain ⟨σ', fp', b, k⟩ := gList_ok rel m l hi' hd
      rw [e1]
      exact ⟨σ', fp', b, fun Q q => ⟨a, vs, rfl, sq, by rw [m.len.2, l], k Q q⟩⟩
    cases c with
    | one c =>
      simp [tgTy] at hg
      obtain ⟨hc, ow⟩ := it
      obtain ⟨a, vs, rfl, sq, hl, ms, _⟩ := mem_tup rel.sub ow (flat_csh hc)
      refine main (is.map fun _ => c) (by simp) ?_ ⟨a, vs, rfl, sq, mems_of is ms (setAll_len hd)⟩
      rw [← hg]
      clear hg main hd hi h
      induction is with
      | nil => rfl
      | cons i is ih => simp [ih]
    | tup cs =>
      simp only [tgTy] at hg
      split at hg
      · rename_i l
        cases hg
        obtain ⟨a, ds', vs, e, rfl, sq, m⟩ := it
        cases e
        exact main cs l rfl ⟨a, vs, rfl, sq, m⟩
      · cases hg
end

/-! ### iterators -/
/-- J gives the items, whatever is done, as long as the objects at L stand as they are -/
structure IOk (K : PySem.W.Frag) (L : List Addr) (F0 H0 : Hp) (J : It) (items : List D) (c : IS) : Prop where
  go : ∀ (i : Nat) (F H : Hp), Sub F0 F → Sub F H → (∀ a ∈ L, H a = H0 a) → i < items.length → J.go i H
  stop : ∀ (i : Nat) (F H : Hp), Sub F0 F → Sub F H → (∀ a ∈ L, H a = H0 a) → items.length ≤ i → J.stop i H
  yld : ∀ (i : Nat) (d : D) (F H : Hp) (x : V) (H' : Hp), Sub F0 F → Sub F H → (∀ a ∈ L, H a = H0 a) → Tups H F → items[i]? = some d → J.yld i H x H' → ∃ F', Sub F' H' ∧ Tups H' F' ∧ Fr [] F H F' H' ∧ Itm K F' H' c d x
/-- the sequence at l stays -/
def StL (K : PySem.W.Frag) (L : List Addr) (F0 H0 : Hp) (l : Addr) (vs : List V) : Prop := ∀ F H : Hp, Sub F0 F → Sub F H → (∀ a ∈ L, H a = H0 a) → SqL K H l vs
section
variable {K : PySem.W.Frag} {L : List Addr} {F0 H0 : Hp} {l : Addr} {vs : List V} {ds : List D} {c : Shp}
theorem StL.iok (h : StL K L F0 H0 l vs) (ho : Ows (Ow K F0 H0 c) ds vs []) (hc : flat c = true) : IOk K L F0 H0 (Itl K l) ds (.one c) where
  go := fun i F H a b e hi => by
    have ln := ho.len
    exact ⟨vs, vs[i]'(by omega), h F H a b e, by simp [show i < vs.length by omega]⟩
  stop := fun i F H a b e hi => ⟨vs, h F H a b e, by rw [ho.len]; exact hi⟩
  yld := fun i d F H x H' a b e t hd hy => by
    obtain ⟨rfl, hy⟩ := hy
    have hx := hy vs (h F H' a b e)
    obtain ⟨v, q1, q2⟩ := ho.nth0 hd
    rw [hx] at q1; cases q1
    exact ⟨F, b, t, Fr.refl, hc, Ow.keep a q2 fun a z => by simp at z⟩
theorem iokT (hT : ∀ F H : Hp, Sub F0 F → Sub F H → SqT K H l vs) (ho : Ows (Ow K F0 H0 c) ds vs []) (hc : flat c = true) : IOk K L F0 H0 (Itt K l) ds (.one c) where
  go := fun i F H a b e hi => by
    have ln := ho.len
    exact ⟨vs, vs[i]'(by omega), hT F H a b, by simp [show i < vs.length by omega]⟩
  stop := fun i F H a b e hi => ⟨vs, hT F H a b, by rw [ho.len]; exact hi⟩
  yld := fun i d F H x H' a b e t hd hy => by
    obtain ⟨rfl, hy⟩ := hy
    have hx := hy vs (hT F H' a b)
    obtain ⟨v, q1, q2⟩ := ho.nth0 hd
    rw [hx] at q1; cases q1
    exact ⟨F, b, t, Fr.refl, hc, Ow.keep a q2 fun a z => by simp at z⟩
theorem rngL_len : ∀ (n : Nat) (lo : Int), (rngL lo n).length = n
  | 0, _ => rfl
  | n + 1, lo => by simp [rngL, rngL_len n]
theorem rngL_at : ∀ (n : Nat) (lo : Int) (i : Nat), i < n → (rngL lo n)[i]? = some (.int (lo + i))
  | 0, _, _, h => by omega
  | n + 1, lo, 0, _ => by simp [rngL]
  | n + 1, lo, i + 1, h => by
    simp only [rngL, List.getElem?_cons_succ]
    rw [rngL_at n (lo + 1) i (by omega)]
    congr 2; omega
theorem iokR {lo : Int} {n : Nat} : IOk K L F0 H0 (Itr lo n) (rngL lo n) (.one .A) where
  go := fun i F H a b e hi => by rw [rngL_len] at hi; exact hi
  stop := fun i F H a b e hi => by rw [rngL_len] at hi; exact hi
  yld := fun i d F H x H' a b e t hd hy => by
    obtain ⟨rfl, rfl⟩ := hy
    have hi : i < n := by
      have := List.getElem?_eq_some_iff.mp hd
      obtain ⟨h, _⟩ := this
      rw [rngL_len] at h; exact h
    rw [rngL_at n lo i hi] at hd
    cases hd
    exact ⟨F, b, t, Fr.refl, rfl, rfl, rfl, rfl⟩
theorem pushT {F H : Hp} {T : Addr} {xs : List V} (n : H T = none) (b : Sub F H) (t : Tups H F) : Sub (upd F T (.tup xs)) (upd H T (.tup xs)) ∧ Tups (upd H T (.tup xs)) (upd F T (.tup xs)) ∧ Fr [] F H (upd F T (.tup xs)) (upd H T (.tup xs)) := by
  refine ⟨fun a o h => ?_, fun a ys h => ?_, Fr.newF n b⟩
  · by_cases e : a = T
    · subst e; rw [upd_same] at h ⊢; exact h
    · rw [upd_ne e] at h ⊢; exact b a o h
  · by_cases e : a = T
    · subst e; rw [upd_same] at h ⊢; exact h
    · rw [upd_ne e] at h ⊢; exact t a ys h
theorem enumL_len : ∀ (ds : List D) (k : Int), (enumL k ds).length = ds.length
  | [], _ => rfl
  | d :: ds, k => by simp [enumL, enumL_len ds]
theorem enumL_at : ∀ (ds : List D) (k : Int) (i : Nat) (x : D), (enumL k ds)[i]? = some x → ∃ d, ds[i]? = some d ∧ x = .tup [.int (k + i), d]
  | [], _, _, _, h => by simp [enumL] at h
  | d :: ds, k, 0, x, h => by simp [enumL] at h; exact ⟨d, by simp, by simp [← h]⟩
  | d :: ds, k, i + 1, x, h => by
    simp only [enumL, List.getElem?_cons_succ] at h
    obtain ⟨d', h1, h2⟩ := enumL_at ds (k + 1) i x h
    refine ⟨d', by simpa using h1, ?_⟩
    rw [h2]; congr 3; push_cast; omega
theorem StL.iokE (h : StL K L F0 H0 l vs) (ho : Ows (Ow K F0 H0 c) ds vs []) (hc : flat c = true) : IOk K L F0 H0 (Ite K l) (enumL 0 ds) (.tup [.A, c]) where
  go := fun i F H a b e hi => by
    have ln := ho.len
    rw [enumL_len] at hi
    exact ⟨vs, vs[i]'(by omega), h F H a b e, by simp [show i < vs.length by omega]⟩
  stop := fun i F H a b e hi => ⟨vs, h F H a b e, by rw [enumL_len] at hi; rw [ho.len]; exact hi⟩
  yld := fun i d F H x H' a b e t hd hy => by
    obtain ⟨T, x, rfl, n, rfl, hy⟩ := hy
    have hx := hy vs (h F H a b e)
    obtain ⟨d', hd', rfl⟩ := enumL_at _ _ _ _ hd
    obtain ⟨v, q1, q2⟩ := ho.nth0 hd'
    rw [hx] at q1; cases q1
    obtain ⟨p1, p2, p3⟩ := pushT (xs := [.int (i : Nat), x]) n b t
    refine ⟨_, p1, p2, p3, T, _, _, rfl, rfl, SqT.of upd_same, _, _, _, _, rfl, rfl, ⟨rfl, rfl, ?_⟩, _, _, _, _, rfl, rfl, Ow.keep (a.trans p3.fs) q2 fun a z => by simp at z, rfl, rfl⟩
    show V.int _ = V.int _
    congr 1; omega
theorem zipL_len : ∀ (as bs : List D), (zipL as bs).length = min as.length bs.length
  | [], bs => by simp [zipL]
  | a :: as, [] => by simp [zipL]
  | a :: as, b :: bs => by simp [zipL, zipL_len as bs]
theorem zipL_at : ∀ (as bs : List D) (i : Nat) (x : D), (zipL as bs)[i]? = some x → ∃ a b, as[i]? = some a ∧ bs[i]? = some b ∧ x = .tup [a, b]
  | [], _, _, _, h => by simp [zipL] at h
  | a :: as, [], _, _, h => by simp [zipL] at h
  | a :: as, b :: bs, 0, x, h => by simp [zipL] at h; exact ⟨a, b, by simp, by simp, h.symm⟩
  | a :: as, b :: bs, i + 1, x, h => by
    simp only [zipL, List.getElem?_cons_succ] at h
    obtain ⟨a', b', h1, h2, h3⟩ := zipL_at as bs i x h
    exact ⟨a', b', by simpa using h1, by simpa using h2, h3⟩
theorem iokZ {l2 : Addr} {vs2 : List V} {ds2 : List D} {c2 : Shp} (h : StL K L F0 H0 l vs) (h2 : StL K L F0 H0 l2 vs2) (ho : Ows (Ow K F0 H0 c) ds vs []) (ho2 : Ows (Ow K F0 H0 c2) ds2 vs2 []) : IOk K L F0 H0 (Itz K l l2) (zipL ds ds2) (.tup [c, c2]) where
  go := fun i F H a b e hi => by
    have l1 := ho.len
    have l2 := ho2.len
    rw [zipL_len] at hi
    exact ⟨vs, vs2, vs[i]'(by omega), vs2[i]'(by omega), h F H a b e, h2 F H a b e, by simp [show i < vs.length by omega], by simp [show i < vs2.length by omega]⟩
  stop := fun i F H a b e hi => ⟨vs, vs2, h F H a b e, h2 F H a b e, by
    have l1 := ho.len
    have l2 := ho2.len
    rw [zipL_len] at hi
    omega⟩
  yld := fun i d F H x H' a b e t hd hy => by
    obtain ⟨T, x, y, rfl, n, rfl, hy, hy2⟩ := hy
    have hx := hy vs (h F H a b e)
    have hx2 := hy2 vs2 (h2 F H a b e)
    obtain ⟨d1, d2, hd1, hd2, rfl⟩ := zipL_at _ _ _ _ hd
    obtain ⟨v, q1, q2⟩ := ho.nth0 hd1
    rw [hx] at q1; cases q1
    obtain ⟨v, q1, q3⟩ := ho2.nth0 hd2
    rw [hx2] at q1; cases q1
    obtain ⟨p1, p2, p3⟩ := pushT (xs := [x, y]) n b t
    exact ⟨_, p1, p2, p3, T, _, _, rfl, rfl, SqT.of upd_same, _, _, _, _, rfl, rfl, Ow.keep (a.trans p3.fs) q2 fun a z => by simp at z, _, _, _, _, rfl, rfl, Ow.keep (a.trans p3.fs) q3 fun a z => by simp at z, rfl, rfl⟩
end
end VC
end

section
set_option Elab.async false
set_option linter.all false
set_option autoImplicit false
set_option maxRecDepth 100000
/-! VC12: iterators as they are written; comprehensions. -/
namespace VC
open PySem PySem.Spec L2

section
variable {K : PySem.W.Frag} {B : Bs} {Γ : SEnv} {env env1 : Env} {F F1 H H1 : Hp} {fp fp1 : Fps} {σ : L2.St} {p : Bool} {t : Ts} {c : Shp} {ds : List D} {v : V} {f : List Addr}
theorem chW_lst (rel : Rel K B Γ env F fp σ H) (rel1 : Rel K B Γ env1 F1 fp1 σ H1) (aft : Aft p env fp F H env1 fp1 F1 H1) (o : VOk K σ env1 t.1 t.2 p fp H (.lst ds) v F1 H1 fp1 f) (h : chW t = some c) :
    ∃ F2 L l vs, Rel K B Γ env1 F2 fp1 σ H1 ∧ Aft p env fp F H env1 fp1 F2 H1 ∧ (∀ a, a ∉ f → F2 a = F1 a) ∧ Sub F1 F2 ∧ v = .ref l ∧ StL K L F2 H1 l vs ∧ ds.length ≤ lim ∧ (∀ a ∈ L, ∃ o, H1 a = some o) ∧ (t.2 = none → L = []) ∧ (t.2 ≠ none → F2 = F1) ∧ flat c = true ∧ Ows (Ow K F2 H1 c) ds vs [] := by
  have flatc : flat t.1 = true → c = t.1 → ∃ l vs, v = .ref l ∧ StL K [] F1 H1 l vs ∧ ds.length ≤ lim ∧ Ows (Ow K F1 H1 c) ds vs [] := by
    rintro hf rfl
    have o := o.ow
    cases e : t.1 <;> simp [e, flat] at hf <;> rw [e] at o
    · simp only [Ow, Rp] at o
      obtain ⟨rfl, l, vs, rfl, h1, h2, h3⟩ := o
      exact ⟨l, vs, rfl, fun F H a b _ => sqL_sub (a.trans b) h1, h2, ows_Q h3⟩
    · simp only [Ow, imm] at o
      exact absurd o.2.1 (by simp)
    · simp only [Ow, Rf] at o
      obtain ⟨rfl, l, vs, rfl, h1, h2, h3⟩ := o
      exact ⟨l, vs, rfl, fun F H a b _ => SqL.of (b _ _ (a _ _ h1)), h2, ows_F h3⟩
  unfold chW at h
  by_cases hn : t.2 = none
  · have hn' : t.2.isNone = true := by rw [hn]; rfl
    rw [if_pos hn'] at h
    split at h
    · rename_i s e
      split at h
      · rename_i q
        rw [Bool.and_eq_true] at q
        cases h
        have ow := o.ow
        rw [e] at ow
        simp only [Ow] at ow
        obtain ⟨l, vs, ds', fps, hd, rfl, h1, h2, h4, h3, rfl⟩ := ow
        cases hd
        have : fps = [] := flats_fp q.1 h3
        subst this
        refine ⟨addF F1 H1 [l], [], l, vs, rel1.freeze fun a z => ⟨(o.own hn a z).1, rel.pnew (o.own hn a z).2⟩, aft.freeze rel1.sub fun a z => (o.own hn a z).2, fun a z => addF_out z, addF_sub rel1.sub, rfl, ?_, h4, fun a z => by simp at z, fun _ => rfl, fun z => absurd hn z, q.1, Ows.keep (addF_sub rel1.sub) h3 fun a z => by simp at z⟩
        exact fun F H a b _ => SqL.of (b _ _ (a _ _ (by rw [addF_in List.mem_cons_self]; exact h1)))
      · cases h
    · split at h
      · rename_i q
        obtain ⟨l, vs, e1, e2, e3, e4⟩ := flatc q (Option.some.inj h).symm
        exact ⟨F1, [], l, vs, rel1, aft, fun _ _ => rfl, Sub.refl _, e1, e2, e3, fun a z => by simp at z, fun _ => rfl, fun _ => rfl, by rw [← Option.some.inj h]; exact q, e4⟩
      · cases h
  · have hn' : ¬ t.2.isNone = true := by rw [Option.isNone_iff_eq_none]; exact hn
    rw [if_neg hn'] at h
    split at h
    · rename_i s e
      split at h
      · rename_i q
        cases h
        have ow := o.ow
        rw [e] at ow
        simp only [Ow] at ow
        obtain ⟨l, vs, ds', fps, hd, rfl, h1, h2, h4, h3, rfl⟩ := ow
        cases hd
        have : fps = [] := flats_fp q h3
        subst this
        refine ⟨F1, [l], l, vs, rel1, aft, fun _ _ => rfl, Sub.refl _, rfl, fun F H a b k => SqL.of ((k l List.mem_cons_self).trans h1), h4, fun a z => ?_, fun z => absurd z hn, fun _ => rfl, q, h3⟩
        have : a = l := by simpa using z
        subst this
        exact ⟨_, h1⟩
      · cases h
    · cases h
theorem chW_tup (sF : Sub F1 H1) (o : VOk K σ env1 t.1 t.2 p fp H (.tup ds) v F1 H1 fp1 f) (h : chW t = some c) :
    ∃ l vs, v = .ref l ∧ (∀ F H : Hp, Sub F1 F → Sub F H → SqT K H l vs) ∧ ds.length ≤ lim ∧ flat c = true ∧ Ows (Ow K F1 H1 c) ds vs [] := by
  have ow := o.ow
  have hf : flat t.1 = true ∧ c = t.1 := by
    unfold chW at h
    cases e : t.1 <;> rw [e] at ow h <;> simp only [Ow, reduceCtorEq] at ow
    · split at h <;> simp [flat] at h
    · split at h <;> simp [flat] at h; exact ⟨rfl, h.symm⟩
    · split at h <;> simp [flat] at h; exact ⟨rfl, h.symm⟩
    · split at h <;> simp [flat] at h; exact ⟨rfl, h.symm⟩
    · obtain ⟨_, _, _, _, hd, _⟩ := ow; cases hd
    · obtain ⟨_, _, _, _, _, hd, _⟩ := ow; cases hd
    · obtain ⟨_, _, _, _, _, hd, _⟩ := ow; cases hd
  obtain ⟨hf, rfl⟩ := hf
  cases e : t.1 <;> rw [e] at ow hf <;> simp [flat] at hf
  · simp only [Ow, Rp] at ow
    obtain ⟨rfl, l, vs, rfl, h1, h2, h3⟩ := ow
    exact ⟨l, vs, rfl, fun F H a b => sqT_sub (a.trans b) h1, h2, rfl, ows_Q h3⟩
  · simp only [Ow, Rf, imm] at ow
    obtain ⟨rfl, hi, l, vs, rfl, h1, h2, h3⟩ := ow
    exact ⟨l, vs, rfl, fun F H a b => SqT.of (b _ _ (a _ _ h1)), h2, rfl, ows_A hi h3⟩
  · simp only [Ow, Rf] at ow
    obtain ⟨rfl, l, vs, rfl, h1, h2, h3⟩ := ow
    exact ⟨l, vs, rfl, fun F H a b => SqT.of (b _ _ (a _ _ h1)), h2, rfl, ows_F h3⟩
end

/-! ### a walk's reading -/
section
variable (G : Gd) (W : WX) (B : Bs) (Γ : SEnv)
def KI (σ : L2.St) (p nb : Bool) (k : ItK) (c : IS) (env : Env) (F H : Hp) (fp : Fps) (r : R (List D × Env)) (Q : It → Hp → Prop) : Prop :=
  match r with
  | .ok (ds, env1) => (match itD k ds with
    | some items => ∀ (L : List Addr) (J : It) (F1 H1 : Hp) (fp1 : Fps), Rel G.K B Γ env1 F1 fp1 σ H1 → Aft p env fp F H env1 fp1 F1 H1 → (∀ a ∈ L, ∃ o, H1 a = some o) → (nb = true → L = []) → (lcOk k items = true → items.length ≤ lim) → IOk G.K L F1 H1 J items c → Q J H1
    | none => False)
  | .exc x env1 => KX G W B Γ σ x env1
  | .no => False
def tI (p nb : Bool) (k : ItK) (c : IS) (ies : List E) : TI := fun σ H Q => ∃ env F fp, Rel G.K B Γ env F fp σ H ∧ KI G W B Γ σ p nb k c env F H fp (evEs G.C ies env) Q
end
theorem PI_imp {X : Cx} {tg e : Expr} {t t' : TI} (h : PI X tg e t) (k : ∀ σ H Q, t' σ H Q → t σ H Q) : PI X tg e t' := ⟨fun pins s σ H Q I q => h.run pins s σ H Q I (k σ H Q q)⟩
section
variable {G : Gd} {sg : List Sig} {W : WX} {S : SC} {X : Cx} {B : Bs} {Γ : SEnv} {tc : TC} {tg : Expr}
def nbs (ts : List Ts) : Bool := ts.all fun t => t.2.isNone
theorem nbs1 {t : Ts} {L : List Addr} (h : t.2 = none → L = []) : nbs [t] = true → L = [] := fun z => h (by simpa [nbs] using z)
theorem KI.arg {ts : List Ts} {σ : L2.St} {p nb : Bool} {k : ItK} {c : IS} {env : Env} {F H : Hp} {fp : Fps} {r : R (List D × Env)} {Q : It → Hp → Prop} {Q' : List V → Hp → Prop} (h : KI G W B Γ σ p nb k c env F H fp r Q)
    (f : ∀ ds env1 vs F1 H1 fp1 fo items, Rel G.K B Γ env1 F1 fp1 σ H1 → Aft p env fp F H env1 fp1 F1 H1 → VOks G.K σ env1 p fp H F1 H1 fp1 ts ds vs fo → itD k ds = some items →
      (∀ (L : List Addr) (J : It) (F1 H1 : Hp) (fp1 : Fps), Rel G.K B Γ env1 F1 fp1 σ H1 → Aft p env fp F H env1 fp1 F1 H1 → (∀ a ∈ L, ∃ o, H1 a = some o) → (nb = true → L = []) → (lcOk k items = true → items.length ≤ lim) → IOk G.K L F1 H1 J items c → Q J H1) → Q' vs H1) : KA G W B Γ σ ts p env F H fp r Q' := by
  cases r with
  | no => exact h
  | exc x e => exact h
  | ok q =>
    obtain ⟨ds, env1⟩ := q
    intro vs F1 H1 fp1 fo rel1 aft1 vo
    have h : (match itD k ds with
      | some items => ∀ (L : List Addr) (J : It) (F1 H1 : Hp) (fp1 : Fps), Rel G.K B Γ env1 F1 fp1 σ H1 → Aft p env fp F H env1 fp1 F1 H1 → (∀ a ∈ L, ∃ o, H1 a = some o) → (nb = true → L = []) → (lcOk k items = true → items.length ≤ lim) → IOk G.K L F1 H1 J items c → Q J H1
      | none => False) := h
    split at h
    · rename_i items e
      exact f ds env1 vs F1 H1 fp1 fo items rel1 aft1 vo e h
    · exact h.elim
/-- for x in e -/
theorem r_itE {e : E} {ast : Expr} {t : Ts} {c : Shp} (xo : XOk G sg W S X) (ha : PE X ast (tE G W B Γ (pur e) e t)) (hc : chW t = some c) : PI X tg ast (tI G W B Γ (purs [e]) (nbs [t]) .e (.one c) [e]) := by
  have main : PI X tg ast (fun σ H Q => iList X.K (tE G W B Γ (pur e) e t) σ H Q ∨ iTup X.K (tE G W B Γ (pur e) e t) σ H Q) := ⟨fun pins s σ H Q I h => h.elim (fun h => (pi_list ha).run pins s σ H Q I h) fun h => (pi_tup ha).run pins s σ H Q I h⟩
  refine PI_imp main ?_
  rintro σ H Q ⟨env, F, fp, rel, k⟩
  have pe : purs [e] = pur e := by simp [purs]
  rw [pe] at k
  simp only [evEs] at k
  cases r : evE G.C e env with
  | no => rw [r] at k; exact k.elim
  | exc x e' =>
    rw [r] at k
    refine .inl ⟨env, F, fp, rel, ?_⟩
    rw [r]; exact k
  | ok q =>
    obtain ⟨d, env1⟩ := q
    rw [r] at k
    simp only [R.bind_ok] at k
    have k : (match itD .e [d] with
      | some items => ∀ (L : List Addr) (J : It) (F1 H1 : Hp) (fp1 : Fps), Rel G.K B Γ env1 F1 fp1 σ H1 → Aft (pur e) env fp F H env1 fp1 F1 H1 → (∀ a ∈ L, ∃ o, H1 a = some o) → (nbs [t] = true → L = []) → (lcOk .e items = true → items.length ≤ lim) → IOk G.K L F1 H1 J items (.one c) → Q J H1
      | none => False) := k
    cases d <;> simp only [itD] at k
    · rename_i ds
      refine .inr ⟨env, F, fp, rel, ?_⟩
      rw [r]
      intro v F1 H1 fp1 f rel1 aft1 o
      obtain ⟨l, vs, rfl, hT, hl, hf, ms⟩ := chW_tup rel1.sub o hc
      refine ⟨l, rfl, ⟨vs, by rw [xo.K]; exact hT F1 H1 (Sub.refl _) rel1.sub⟩, ?_⟩
      rw [xo.K]
      exact k [] _ F1 H1 fp1 rel1 aft1 (fun a z => by simp at z) (fun _ => rfl) (fun _ => hl) (iokT hT ms hf)
    · rename_i ds
      refine .inl ⟨env, F, fp, rel, ?_⟩
      rw [r]
      intro v F1 H1 fp1 f rel1 aft1 o
      obtain ⟨F2, L, l, vs, rel2, aft2, _, _, rfl, st, hl, hL, hn, _, hf, ms⟩ := chW_lst rel rel1 aft1 o hc
      refine ⟨l, rfl, ⟨vs, by rw [xo.K]; exact st F2 H1 (Sub.refl _) rel2.sub fun _ _ => rfl⟩, ?_⟩
      rw [xo.K]
      exact k L _ F2 H1 fp1 rel2 aft2 hL (nbs1 hn) (fun _ => hl) (st.iok ms hf)
theorem rng_ok {i : Int} (h : rngOk i = true) : -(2 ^ 62) ≤ i ∧ i < 2 ^ 62 := by
  simpa [rngOk] using h
/-- for x in range(n) -/
theorem r_itR1 {e : E} {ast : Expr} {t : Ts} {p pos : Pos} (xo : XOk G sg W S X) (ha : PA X [ast] (tEs G W B Γ (purs [e]) [e] [t])) (hq : rdOk t.1 = true) (hx : freeB S "range" = true) (hs : starEach [ast] X.env = [(false, eval ast X.env)]) :
    PI X tg (.Call (.Name "range" p) [ast] [] pos) (tI G W B Γ (purs [e]) (nbs [t]) .rng1 (.one .A) [e]) := by
  unfold freeB at hx
  simp only [Bool.and_eq_true, List.contains_iff_mem] at hx
  refine PI_imp (pi_range1 (xo.gl hx.1.1) (xo.free _ (by simpa using hx.1.2)) ha hs) ?_
  rintro σ H R ⟨env, F, fp, rel, k⟩
  refine ⟨env, F, fp, rel, k.arg ?_⟩
  intro ds env1 vs F1 H1 fp1 fo items rel1 aft1 vo hi k
  obtain ⟨d, v, f, rfl, rfl, o⟩ := vo1 vo
  cases d <;> simp only [itD, reduceCtorEq] at hi
  rename_i j
  split at hi
  · rename_i q
    cases hi
    have e : v = .int j := o.ow.rp rel1.sub hq
    subst e
    obtain ⟨q1, q2⟩ := rng_ok q
    exact ⟨j, rfl, q1, q2, k [] _ F1 H1 fp1 rel1 aft1 (fun a z => by simp at z) (fun _ => rfl) (fun q => by simpa [lcOk] using q) iokR⟩
  · cases hi
theorem r_itR2 {e e2 : E} {ast ast2 : Expr} {t u : Ts} {p pos : Pos} (xo : XOk G sg W S X) (ha : PA X [ast, ast2] (tEs G W B Γ (purs [e, e2]) [e, e2] [t, u])) (hq : rdOk t.1 = true) (hq2 : rdOk u.1 = true) (hx : freeB S "range" = true)
    (hs : starEach [ast, ast2] X.env = [(false, eval ast X.env), (false, eval ast2 X.env)]) (hs2 : starEach [ast2] X.env = [(false, eval ast2 X.env)]) :
    PI X tg (.Call (.Name "range" p) [ast, ast2] [] pos) (tI G W B Γ (purs [e, e2]) (nbs [t, u]) .rng2 (.one .A) [e, e2]) := by
  unfold freeB at hx
  simp only [Bool.and_eq_true, List.contains_iff_mem] at hx
  refine PI_imp (pi_range2 (xo.gl hx.1.1) (xo.free _ (by simpa using hx.1.2)) ha hs hs2) ?_
  rintro σ H R ⟨env, F, fp, rel, k⟩
  refine ⟨env, F, fp, rel, k.arg ?_⟩
  intro ds env1 vs F1 H1 fp1 fo items rel1 aft1 vo hi k
  obtain ⟨d, v, f, d2, v2, f2, rfl, rfl, o, o2⟩ := vo2 vo
  cases d <;> cases d2 <;> simp only [itD, reduceCtorEq] at hi
  rename_i i j
  split at hi
  · rename_i q
    cases hi
    have e : v = .int i := o.ow.rp rel1.sub hq
    subst e
    have e : v2 = .int j := o2.ow.rp rel1.sub hq2
    subst e
    obtain ⟨q1, q2⟩ := rng_ok q.1
    obtain ⟨q3, q4⟩ := rng_ok q.2
    exact ⟨i, j, rfl, ⟨q1, q2, q3, q4⟩, k [] _ F1 H1 fp1 rel1 aft1 (fun a z => by simp at z) (fun _ => rfl) (fun q => by simpa [lcOk] using q) iokR⟩
  · cases hi
theorem r_itN {e : E} {ast : Expr} {t : Ts} {c : Shp} {elts : List Expr} {kk : Nat} {tpos p pos : Pos} (xo : XOk G sg W S X) (ha : PA X [ast] (tEs G W B Γ (purs [e]) [e] [t])) (hc : chW t = some c) (hx : freeB S "enumerate" = true) (hs : starEach [ast] X.env = [(false, eval ast X.env)]) :
    PI X (.Tuple elts kk tpos) (.Call (.Name "enumerate" p) [ast] [] pos) (tI G W B Γ (purs [e]) (nbs [t]) .enum (.tup [.A, c]) [e]) := by
  unfold freeB at hx
  simp only [Bool.and_eq_true, List.contains_iff_mem] at hx
  refine PI_imp (pi_enum (xo.gl hx.1.1) (xo.free _ (by simpa using hx.1.2)) ha hs) ?_
  rintro σ H R ⟨env, F, fp, rel, k⟩
  refine ⟨env, F, fp, rel, k.arg ?_⟩
  intro ds env1 vs F1 H1 fp1 fo items rel1 aft1 vo hi k
  obtain ⟨d, v, f, rfl, rfl, o⟩ := vo1 vo
  cases d <;> simp only [itD, reduceCtorEq, Option.some.injEq] at hi
  rename_i xs
  subst hi
  obtain ⟨F2, L, l, vs, rel2, aft2, _, _, rfl, st, hl, hL, hn, _, hf, ms⟩ := chW_lst rel rel1 aft1 o hc
  refine ⟨l, vs, rfl, by rw [xo.K]; exact st F2 H1 (Sub.refl _) rel2.sub fun _ _ => rfl, ?_⟩
  rw [xo.K]
  exact k L _ F2 H1 fp1 rel2 aft2 hL (nbs1 hn) (fun _ => by rw [enumL_len]; exact hl) (st.iokE ms hf)
theorem r_itZ {e e2 : E} {ast ast2 : Expr} {t u : Ts} {c c2 : Shp} {elts : List Expr} {kk : Nat} {tpos p pos : Pos} (xo : XOk G sg W S X) (ha : PA X [ast, ast2] (tEs G W B Γ (purs [e, e2]) [e, e2] [t, u])) (hc : chW t = some c) (hc2 : chW u = some c2) (hx : freeB S "zip" = true)
    (hs : starEach [ast, ast2] X.env = (false, eval ast X.env) :: starEach [ast2] X.env) (hpl : (backTo pos (starEach [ast2] X.env)).any (·.1) = false) :
    PI X (.Tuple elts kk tpos) (.Call (.Name "zip" p) [ast, ast2] [] pos) (tI G W B Γ (purs [e, e2]) (nbs [t, u]) .zip (.tup [c, c2]) [e, e2]) := by
  unfold freeB at hx
  simp only [Bool.and_eq_true, List.contains_iff_mem] at hx
  refine PI_imp (pi_zip (xo.gl hx.1.1) (xo.free _ (by simpa using hx.1.2)) ha hs hpl) ?_
  rintro σ H R ⟨env, F, fp, rel, k⟩
  refine ⟨env, F, fp, rel, k.arg ?_⟩
  intro ds env1 vs F1 H1 fp1 fo items rel1 aft1 vo hi k
  obtain ⟨d, dr, v, vr, f1, f2, rfl, rfl, o, vr', dj, _⟩ := vo
  obtain ⟨d2, dr2, v2, vr2, g1, g2, rfl, rfl, o2, hnil, dj2, _⟩ := vr'
  obtain ⟨rfl, rfl, rfl⟩ := hnil
  cases d <;> cases d2 <;> simp only [itD, reduceCtorEq, Option.some.injEq] at hi
  rename_i xs ys
  subst hi
  obtain ⟨F2, L, l, vs, rel2, aft2, out, sb, rfl, st, hl, hL, hn, hb, hf, ms⟩ := chW_lst rel rel1 aft1 o hc
  -- the second value under what is frozen now
  have apart : t.2 = none → ∀ a ∈ g1, a ∉ f1 := fun z a hg hf1 => by
    by_cases hu : u.2 = none
    · obtain ⟨e1, e2⟩ := dj z
      obtain ⟨e3, _⟩ := dj2 hu
      exact e2 a hf1 (by rw [e3]; exact List.mem_append_left _ hg)
    · cases hb' : u.2 with
      | none => exact hu hb'
      | some i =>
        exact (o.own z a hf1).1 (mem_at (o2.bor i hb').1 hg)
  have o2' : VOk G.K σ env1 u.1 u.2 (purs [e, e2]) fp H (.lst ys) v2 F2 H1 fp1 g1 := ⟨o2.ow.keep sb fun a hg => ⟨rfl, by
    by_cases z : t.2 = none
    · rw [out a (apart z a hg)]; exact (o2.ow.dom a hg).2
    · rw [hb z]; exact (o2.ow.dom a hg).2⟩, o2.nd, o2.own, o2.bor⟩
  obtain ⟨F3, L2, l2, vs2, rel3, aft3, out2, sb2, rfl, st2, hl2, hL2, hn2, hb2, hf2, ms2⟩ := chW_lst rel rel2 aft2 o2' hc2
  have st' : StL G.K (L ++ L2) F3 H1 l vs := fun F H a b q => st F H (sb2.trans a) b fun a z => q a (List.mem_append_left _ z)
  have st2' : StL G.K (L ++ L2) F3 H1 l2 vs2 := fun F H a b q => st2 F H a b fun a z => q a (List.mem_append_right _ z)
  refine ⟨l, l2, vs, vs2, rfl, by rw [xo.K]; exact st' F3 H1 (Sub.refl _) rel3.sub fun _ _ => rfl, by rw [xo.K]; exact st2' F3 H1 (Sub.refl _) rel3.sub fun _ _ => rfl, ?_⟩
  rw [xo.K]
  refine k (L ++ L2) _ F3 H1 fp1 rel3 aft3 (fun a z => (List.mem_append.mp z).elim (hL a) (hL2 a)) (fun z => ?_) (fun _ => by rw [zipL_len]; omega) (iokZ st' st2' (Ows.keep sb2 ms fun a z => by simp at z) ms2)
  have z : t.2.isNone = true ∧ u.2.isNone = true := by simpa [nbs] using z
  rw [hn (by simpa using z.1), hn2 (by simpa using z.2)]; rfl

/-! ### tests of a clause -/
def tTs (G : Gd) (W : WX) (Γ : SEnv) (es : List E) : TT := fun σ H Q => ∃ B env F fp, Rel G.K B Γ env F fp σ H ∧ KT G W B Γ σ true env F H fp (evTs G.C es env) Q
def tEx (G : Gd) (W : WX) (Γ : SEnv) (e : E) (t : Ts) : TE := fun σ H Q => ∃ B, tE G W B Γ true e t σ H Q
theorem r_ts0 : PTs X [] (tTs G W Γ []) := by
  refine ⟨fun pins s σ H Q I h => pts_nil.run pins s σ H Q I ?_⟩
  obtain ⟨B, env, F, fp, rel, k⟩ := h
  simp only [evTs] at k
  exact k F H fp rel Aft.refl
theorem r_ts1 {e : E} {ast : Expr} (hp : pur e = true) (h : ∀ B, PT X ast (tTt G W B Γ (pur e) e)) : PTs X [ast] (tTs G W Γ [e]) := by
  have main : PT X ast (fun σ H Q => ∃ B, tTt G W B Γ (pur e) e σ H Q) := ⟨fun pins s σ H Q I ⟨B, q⟩ => (h B).run pins s σ H Q I q⟩
  refine ⟨fun pins s σ H Q I h => (pts_one main).run pins s σ H Q I ?_⟩
  obtain ⟨B, env, F, fp, rel, k⟩ := h
  refine ⟨B, env, F, fp, rel, ?_⟩
  rw [hp]
  have : evTs G.C [e] env = (evE G.C e env).bind truR := by
    simp only [evTs]
    congr 1
    funext q
    cases truR q with
    | ok b => obtain ⟨b, env'⟩ := b; cases b <;> rfl
    | exc x e => rfl
    | no => rfl
  rw [this] at k
  exact k
theorem r_ex {e : E} {ast : Expr} {t : Ts} (h : ∀ B, PE X ast (tE G W B Γ true e t)) : PE X ast (tEx G W Γ e t) := ⟨fun pins s σ H Q I ⟨B, q⟩ => (h B).run pins s σ H Q I q⟩
end

/-! ### list comprehensions -/
section
variable {G : Gd} {sg : List Sig} {W Wb : WX} {S : SC} {X : Cx} {B : Bs} {Γ : SEnv} {tc : TC} {tg : Expr}
theorem lc_imp {own : List Nat} {s : Shp} {elt : E} {g : Tg} {k : ItK} {ies ifs : List E} {c : IS} {ps : List (Nat × Shp)} {u : Ts} {nb : Bool} (hg : tgTy c g = some ps) (hown : own.all (fun i => decide (i < Γ.length)) = true) (hps : ps.all (fun q => own.contains q.1) = true)
    (hpe : pur elt = true) (hpi : purs ifs = true) (hu : u.2 = none) (hcv : cv u.1 s = true) {σ : L2.St} {H : Hp} {Q : VK} (h : tE G W B Γ (pur (.lc own s elt g k ies ifs)) (.lc own s elt g k ies ifs) (.O s, none) σ H Q) :
    tLc (tI G W B Γ (purs ies) nb k c ies) (tgR G.K g) (tTs G Wb (setS (wipeS Γ own) ps) ifs) (tEx G Wb (setS (wipeS Γ own) ps) elt u) own σ H Q := by
  obtain ⟨env, F0, fp, rel0, k0⟩ := h
  have hpp : pur (.lc own s elt g k ies ifs) = purs ies := by simp [pur, hpe, hpi]
  rw [hpp] at k0
  simp only [evE] at k0
  refine ⟨env, F0, fp, rel0, ?_⟩
  cases r : evEs G.C ies env with
  | no => rw [r] at k0; exact k0.elim
  | exc x e' => rw [r] at k0; exact k0
  | ok q =>
    obtain ⟨ds, env1⟩ := q
    rw [r] at k0
    simp only [R.bind_ok] at k0
    show (match itD k ds with
      | some items => ∀ (L : List Addr) (J : It) (F1 H1 : Hp) (fp1 : Fps), Rel G.K B Γ env1 F1 fp1 σ H1 → Aft (purs ies) env fp F0 H env1 fp1 F1 H1 → (∀ a ∈ L, ∃ o, H1 a = some o) → (nb = true → L = []) → (lcOk k items = true → items.length ≤ lim) → IOk G.K L F1 H1 J items c → _
      | none => False)
    cases hitems : itD k ds with
    | none => simp only [hitems] at k0; exact k0
    | some items =>
    simp only [hitems] at k0
    show ∀ (L : List Addr) (J : It) (F1 H1 : Hp) (fp1 : Fps), _
    intro L J F1 H1 fp1 rel1 aft1 hL hnb hlen iok D0 hD
    split at k0
    case isFalse => exact k0.elim
    rename_i hlc
    have hlen := hlen hlc
    split at k0
    case h_2 => exact k0.elim
    rename_i ys env2 hrun
    have hpure : ∀ {e : E} {env : Env} {d : D} {env' : Env}, True := trivial
    let Wv : Nat → Nat → Hp → Prop := fun i m Hc => m = items.length - i ∧ i ≤ items.length ∧ ∃ F acc fa ys0 ysr envd, Rel G.K B Γ env1 F fp1 σ Hc ∧ Fr [] F1 H1 F Hc ∧ Hc D0 = some (.lst acc) ∧ F D0 = none ∧ Ows (Ow G.K F Hc s) ys0 acc fa ∧ fa.Nodup ∧
      (∀ a ∈ fa, H1 a = none ∧ a ≠ D0) ∧ ys0.length ≤ i ∧ Agr own env1 envd ∧ lcD (bindTg g) (evTs G.C ifs) (evE G.C elt) (items.drop i) envd = .ok (ysr, env2) ∧ ys0 ++ ysr = ys
    have D0F : F1 D0 = none := rel1.notF hD
    have D0n : D0 ∉ fp1.flatten := rel1.notin hD
    refine ⟨Wv, ⟨items.length, by simp, Nat.zero_le _, F1, [], [], [], ys, wipeD env1 own, rel1.push hD (fun xs e => by cases e), Fr.new hD, upd_same, D0F, ⟨rfl, rfl⟩, List.nodup_nil, fun a z => by simp at z, Nat.le_refl _, Agr.wiped _ _, by simpa using hrun, rfl⟩, ?_⟩
    rintro i m Hc ⟨rfl, hi, F, acc, fa, ys0, ysr, envd, rel, fr, hacc, hFD, hows, hfn, hfa, hyl, agr, hrest, hys⟩
    have stay : ∀ a ∈ L, Hc a = H1 a := fun a z => by
      obtain ⟨o, e⟩ := hL a z
      rw [e]; exact fr.keep a o (by simp) e
    by_cases hlt : i < items.length
    · refine .inr ⟨iok.go i F Hc fr.fs rel.sub stay hlt, fun H' => Wv (i + 1) (items.length - (i + 1)) H', fun H' w => ⟨_, by omega, w⟩, fun x H' hy => ?_⟩
      have hd : items[i]? = some items[i] := by simp [hlt]
      obtain ⟨F', sb', tp', fr', itm⟩ := iok.yld i _ F Hc x H' fr.fs rel.sub stay rel.tup hd hy
      rw [List.drop_eq_getElem_cons hlt] at hrest
      simp only [lcD] at hrest
      cases hb : bindTg g items[i] envd with
      | no => rw [hb] at hrest; cases hrest
      | exc x e => rw [hb] at hrest; cases hrest
      | ok envb =>
      rw [hb] at hrest
      simp only [R.bind_ok] at hrest
      have relo := rel.step fr' sb' tp'
      have reli := relo.wipe agr
      have hlt2 : ∀ q ∈ ps, q.1 < (wipeS Γ own).length ∧ q.1 ∉ ([] : List Nat) := fun q hq => by
        rw [wipeS_wp, wp_len]
        refine ⟨?_, by simp⟩
        have h1 := (List.all_eq_true.mp hps) q hq
        have h2 := (List.all_eq_true.mp hown) q.1 (by simpa using h1)
        simpa using h2
      obtain ⟨σ2, fpb, bd, hQ⟩ := bind_ok reli itm hg hlt2 hb
      refine hQ _ ⟨?_, ?_⟩
      · rw [bd.wip own fun i hi => ?_, wipe_wipe]
        obtain ⟨q, hq, rfl⟩ := List.mem_map.mp hi
        simpa using (List.all_eq_true.mp hps) q hq
      refine ⟨_, envb, F', fpb, bd.rel, ?_⟩
      cases ht : evTs G.C ifs envb with
      | no => rw [ht] at hrest; cases hrest
      | exc x e => rw [ht] at hrest; cases hrest
      | ok q3 =>
      obtain ⟨b, env3⟩ := q3
      rw [ht] at hrest
      simp only [R.bind_ok] at hrest
      intro F3 H3 fp3 rel3 aft3
      obtain ⟨rfl, rfl⟩ := aft3.same rfl
      have fr3 : Fr [] F' H' F3 H3 := by simpa [PP] using aft3.fr
      have agr3 : Agr own env1 env3 := agr.trans ⟨bd.agr.len, fun j hj => bd.agr.at_ j fun z => hj (by
        obtain ⟨q, hq, rfl⟩ := List.mem_map.mp z
        simpa using (List.all_eq_true.mp hps) q hq)⟩
      -- the accumulated list under later heaps
      have keepA : ∀ {F4 H4 : Hp}, Fr [] F Hc F4 H4 → H4 D0 = some (.lst acc) ∧ F4 D0 = none ∧ Ows (Ow G.K F4 H4 s) ys0 acc fa := fun {F4 H4} f4 => by
        have none4 : ∀ a o, Hc a = some o → F a = none → F4 a = none := fun a o e n => by
          cases q : F4 a with
          | none => rfl
          | some u =>
            rcases f4.fnew a u q with z | z | z
            · rw [n] at z; cases z
            · simp at z
            · rw [e] at z; cases z
        refine ⟨f4.keep _ _ (by simp) hacc, none4 _ _ hacc hFD, Ows.keep f4.fs hows fun a z => ?_⟩
        obtain ⟨⟨o, e, _⟩, n⟩ := Ows.dom hows a z
        exact ⟨(f4.keep a o (by simp) e).trans e.symm, none4 a o e n⟩
      cases b with
      | false =>
        simp only [Bool.false_eq_true, if_false] at hrest ⊢
        have frc : Fr [] F Hc F3 H3 := fr'.trans fr3 fun a z => by simp at z
        obtain ⟨k1, k2, k3⟩ := keepA frc
        exact ⟨rfl, hlt, F3, acc, fa, ys0, ysr, env3, rel.step frc rel3.sub rel3.tup, fr.trans frc fun a z => by simp at z, k1, k2, k3, hfn, hfa, by omega, agr3, hrest, hys⟩
      | true =>
        simp only [if_true] at hrest ⊢
        refine ⟨_, env3, F3, fp3, rel3, ?_⟩
        cases he : evE G.C elt env3 with
        | no => rw [he] at hrest; cases hrest
        | exc x e => rw [he] at hrest; cases hrest
        | ok q4 =>
        obtain ⟨y, env4⟩ := q4
        rw [he] at hrest
        simp only [R.bind_ok] at hrest
        intro v F4 H4 fp4 fv rel4 aft4 o4
        obtain ⟨rfl, rfl⟩ := aft4.same rfl
        rw [hu] at o4
        obtain ⟨F5, g', rel5, aft5, ow5, ng, gg, sb5, out5⟩ := take rel3 rel4 aft4 o4 hcv
        have fr4 : Fr [] F3 H3 F5 H4 := by simpa [PP] using aft5.fr
        have frc : Fr [] F Hc F5 H4 := (fr'.trans fr3 fun a z => by simp at z).trans fr4 fun a z => by simp at z
        obtain ⟨k1, k2, k3⟩ := keepA frc
        have accl : acc.length = ys0.length := hows.len
        cases hrec : lcD (bindTg g) (evTs G.C ifs) (evE G.C elt) (items.drop (i + 1)) env4 with
        | no => rw [hrec] at hrest; cases hrest
        | exc x e => rw [hrec] at hrest; cases hrest
        | ok q5 =>
        obtain ⟨ysr', env5⟩ := q5
        rw [hrec] at hrest
        simp only [R.bind_ok, R.ok.injEq, Prod.mk.injEq] at hrest
        obtain ⟨rfl, rfl⟩ := hrest
        refine ⟨acc, k1, by rw [← lim_eq]; omega, rfl, hlt, F5, acc ++ [v], fa ++ g', ys0 ++ [y], ysr', env4, ?_, ?_, upd_same, k2, ?_, ?_, ?_, by simp; omega, agr3, hrec, by rw [List.append_assoc]; exact hys⟩
        · have relz := rel.step frc rel5.sub rel5.tup
          exact relz.wr D0n k2 (fun xs e => by cases e) (rel1.gone hD)
        · have frz : Fr [] F1 H1 F5 H4 := fr.trans frc fun a z => by simp at z
          refine frz.trans (P' := [D0]) (Fr.write List.mem_cons_self) fun a z => ?_
          have : a = D0 := by simpa using z
          subst this
          exact .inr hD
        · have gd : ∀ a ∈ g', a ≠ D0 := fun a z e => by
            subst e
            rcases (o4.own rfl a (gg a z)).2 with w | w
            · simp [PP] at w
            · obtain ⟨o', q⟩ := (fr'.trans fr3 fun a z => by simp at z).dom a _ hacc
              rw [w] at q; cases q
          refine Ows.append ?_ ?_
          · exact Ows.keep (Sub.refl _) k3 fun a z => ⟨upd_ne (hfa a z).2, (Ows.dom k3 a z).2⟩
          · exact Ows.one (Ow.keep (Sub.refl _) ow5 fun a z => ⟨upd_ne (gd a z), (ow5.dom a z).2⟩)
        · refine List.nodup_append.mpr ⟨hfn, ng, fun a ha b hb e => ?_⟩
          subst e
          rcases (o4.own rfl a (gg a hb)).2 with w | w
          · simp [PP] at w
          · obtain ⟨⟨o', q, _⟩, _⟩ := Ows.dom hows a ha
            obtain ⟨o'', q'⟩ := (fr'.trans fr3 fun a z => by simp at z).dom a _ q
            rw [w] at q'; cases q'
        · intro a z
          rcases List.mem_append.mp z with z | z
          · exact hfa a z
          · rcases (o4.own rfl a (gg a z)).2 with w | w
            · simp [PP] at w
            · have n1 : Hc a = none := (fr'.trans fr3 fun a z => by simp at z).gone w
              exact ⟨fr.gone n1, fun e => by rw [e, hacc] at n1; cases n1⟩
    · have e : i = items.length := by omega
      subst e
      refine .inl ⟨iok.stop _ F Hc fr.fs rel.sub stay (Nat.le_refl _), ?_⟩
      rw [List.drop_length] at hrest
      simp only [lcD, R.ok.injEq, Prod.mk.injEq] at hrest
      obtain ⟨rfl, rfl⟩ := hrest
      rw [List.append_nil] at hys
      subst hys
      rw [backD_eq agr] at k0
      have aftz : Aft (purs ies) env fp F0 H env1 fp1 F Hc := (aft1.trans (Aft.step fr)).weak fun z => by simp [z]
      refine k0 (.ref D0) F Hc fp1 (D0 :: fa) rel aftz ⟨⟨D0, acc, ys0, fa, rfl, rfl, hacc, hFD, by omega, hows, rfl⟩, List.nodup_cons.mpr ⟨fun z => (hfa D0 z).2 rfl, hfn⟩, fun _ a z => ?_, fun i e => by cases e⟩
      have nH : H1 a = none := by
        rcases List.mem_cons.mp z with rfl | z
        · exact hD
        · exact (hfa a z).1
      exact ⟨rel1.notin nH, .inr (aft1.fr.gone nH)⟩
end
end VC
end

section
set_option Elab.async false
set_option linter.all false
set_option autoImplicit false
set_option maxRecDepth 100000
/-! VC13: comprehensions as written; statements. -/
namespace VC
open PySem PySem.Spec L2

/-! ### the place of a comprehension's block -/
def SC.blk (S : SC) (scope : Scope) : SC := { S with sc := relS scope S.sc, st := fun x => match scope.names.lookup x with | some .local => true | some .cell => true | _ => false }
def Wno : WX := fun _ _ _ _ => False
section
variable {G : Gd} {sg : List Sig} {W Wb : WX} {S : SC} {X : Cx} {B : Bs} {Γ : SEnv} {tc : TC} {tg : Expr}
theorem XOk.blk (xo : XOk G sg W S X) {scope : Scope} (s : Shared) (H : Hp) (C : Addr) (cl : List (Str × Addr)) (fp : List Addr) : XOk G sg Wno (S.blk scope) (X.blk s H scope (compEnvC scope cl C X.env) fp) where
  N := xo.N
  nd := xo.nd
  sc := by show relS scope X.env.scope = relS scope S.sc; rw [xo.sc]
  calm := xo.calm
  K := xo.K
  hu := xo.hu
  tk := fun u s' ⟨_, _, _, _, _, _, _, _, _, _, _, _, _, _, _, _, w⟩ => w.elim
  free := xo.free
  cst := xo.cst
  po := PassesOwn.never
  st := fun x h => by
    have h : (match scope.names.lookup x with | some .local => true | some .cell => true | _ => false) = true := h
    show Loc (relS scope X.env.scope) x ∧ ((scope.names.lookup x == some .cell) = true ∨ (relS scope X.env.scope).names.lookup x = some .local)
    split at h
    · rename_i e
      have k := lookup_relS_keep (sc := X.env.scope) (by decide) e
      exact ⟨.inl k, .inr k⟩
    · rename_i e
      have k := lookup_relS_keep (sc := X.env.scope) (by decide) e
      exact ⟨.inr k, .inl (by rw [e]; rfl)⟩
    · cases h
  calls := xo.calls
/-- neither a set display .. -/
def noSet : Expr → Bool
  | .Set _ _ _ => false
  | _ => true
theorem noSet_ok {e : Expr} {env : PySem.Env} (h : noSet e = true) (x : Value) : foldedSetIterable e env x = pure x := by
  cases e <;> first | rfl | cases h
theorem r_lc (xo : XOk G sg W S X) {own : List Nat} {ownN : List (Str × Nat)} {s : Shp} {elt : E} {g : Tg} {k : ItK} {ies ifs : List E} {c : IS} {ps : List (Nat × Shp)} {u : Ts} {nb : Bool} {ex iter : Expr} {fs : List Expr} {scope : Scope} {pos : Pos} (hg : tgTy c g = some ps) (hown : own.all (fun i => decide (i < Γ.length)) = true) (hps : ps.all (fun q => own.contains q.1) = true)
    (hpe : pur elt = true) (hpi : purs ifs = true) (hu : u.2 = none) (hcv : cv u.1 s = true) (hblk : blkC S.N S.sc scope ownN = true) (hon : ownN.map (·.2) = own) (hset : noSet iter = true)
    (hI : PI X tg iter (tI G W B Γ (purs ies) nb k c ies))
    (hG : ∀ (X' : Cx), XOk G sg Wno (S.blk scope) X' → PG X' tg (tgR G.K g))
    (hT : ∀ (X' : Cx), XOk G sg Wno (S.blk scope) X' → PTs X' fs (tTs G Wno (setS (wipeS Γ own) ps) ifs))
    (hE : ∀ (X' : Cx), XOk G sg Wno (S.blk scope) X' → PE X' ex (tEx G Wno (setS (wipeS Γ own) ps) elt u)) :
    PE X (.ListComp ex [⟨tg, iter, fs, 0⟩] scope pos) (tE G W B Γ (pur (.lc own s elt g k ies ifs)) (.lc own s elt g k ies ifs) (.O s, none)) := by
  have bo : BlkOk X.N X.env.scope scope ownN := blkOk_by (by rw [xo.N, xo.sc]; exact hblk)
  refine PE_imp (pe_lc xo.calm (by rw [xo.N]; exact xo.nd) hI bo (fun s H C cl fp => hG _ (xo.blk s H C cl fp)) (fun s H C cl fp => hT _ (xo.blk s H C cl fp)) (fun s H C cl fp => hE _ (xo.blk s H C cl fp)) (noSet_ok hset)) ?_
  intro σ H Q h
  rw [hon]
  exact lc_imp hg hown hps hpe hpi hu hcv h

/-! ### targets as written -/
def stB (S : SC) (i : Nat) (x : Str) : Bool := decide (S.N[i]? = some x) && S.st x
theorem r_name (xo : XOk G sg W S X) {i : Nat} {x : Str} {pos : Pos} (h : stB S i x = true) : PG X (.Name x pos) (gName i) := by
  simp only [stB, Bool.and_eq_true, decide_eq_true_eq] at h
  obtain ⟨h1, h2⟩ := h
  obtain ⟨k1, k2⟩ := xo.st x h2
  exact pg_name (by rw [xo.N]; exact xo.nd) (by rw [xo.N]; exact h1) k1 k2
/-- names -/
def stNs (S : SC) : List Nat → List Expr → Bool
  | [], [] => true
  | i :: is, .Name x _ :: es => stB S i x && stNs S is es
  | _, _ => false
theorem stNs_len {S : SC} : ∀ {is : List Nat} {es : List Expr}, stNs S is es = true → is.length = es.length ∧ (∀ env : PySem.Env, (assignEach es env).findIdx? (·.1) = none ∧ (assignEach es env).length = es.length ∧ ∀ p ∈ assignEach es env, p.1 = false)
  | [], [], _ => ⟨rfl, fun env => ⟨rfl, rfl, fun p h => by simp [assignEach] at h⟩⟩
  | [], _ :: _, h => by simp [stNs] at h
  | i :: is, [], h => by simp [stNs] at h
  | i :: is, e :: es, h => by
    cases e <;> simp only [stNs, Bool.and_eq_true, reduceCtorEq] at h
    rename_i x p
    obtain ⟨a, b⟩ := stNs_len h.2
    refine ⟨by simp [a], fun env => ?_⟩
    obtain ⟨b1, b2, b3⟩ := b env
    have e1 : assignEach (.Name x p :: es) env = (false, assign (.Name x p) env) :: assignEach es env := rfl
    rw [e1]
    refine ⟨by rw [List.findIdx?_cons]; simp [b1], by simp [b2], fun q hq => ?_⟩
    rcases List.mem_cons.mp hq with rfl | z
    · rfl
    · exact b3 q z
theorem r_names (xo : XOk G sg W S X) : ∀ {is : List Nat} {es : List Expr}, stNs S is es = true → PGs X es (gList is)
  | [], [], _ => pgs_nil
  | [], _ :: _, h => by simp [stNs] at h
  | i :: is, [], h => by simp [stNs] at h
  | i :: is, e :: es, h => by
    cases e <;> simp only [stNs, Bool.and_eq_true, reduceCtorEq] at h
    exact pgs_cons (r_name xo h.1) (r_names xo h.2) rfl
def tgB (S : SC) : Tg → Expr → Bool
  | .nm i, .Name x _ => stB S i x
  | .tp is, .Tuple es _ _ => stNs S is es
  | _, _ => false
theorem r_tg (xo : XOk G sg W S X) {g : Tg} {tg : Expr} (h : tgB S g tg = true) : PG X tg (tgR G.K g) := by
  cases g with
  | nm i =>
    cases tg <;> simp only [tgB, reduceCtorEq] at h
    exact r_name xo h
  | tp is =>
    cases tg <;> simp only [tgB, reduceCtorEq] at h
    rename_i es k p
    obtain ⟨l, a⟩ := stNs_len h
    have := pg_tup (pos := p) (k := k) xo.calm (r_names xo h) (n := is.length) (by rw [(a X.env).2.1, l]) (a X.env).1
    rw [xo.K] at this
    exact this
end

/-! ### weaker shapes of the names -/
def geS : SEnv → SEnv → Bool
  | [], [] => true
  | s :: Γ, t :: Γ' => (decide (t = .X) || ge0 s t) && geS Γ Γ'
  | _, _ => false
theorem RelE.weak {K : PySem.W.Frag} {F H : Hp} : ∀ {Γ Γ' : SEnv} {env : Env} {σ : L2.St} {fp : Fps}, geS Γ Γ' = true → RelE K F H Γ env σ fp → ∃ fp', RelE K F H Γ' env σ fp' ∧ fp'.flatten.Sublist fp.flatten
  | [], [], _, _, _, _, h => ⟨_, h, List.Sublist.refl _⟩
  | [], _ :: _, _, _, _, g, _ => by simp [geS] at g
  | _ :: _, [], _, _, _, g, _ => by simp [geS] at g
  | s :: Γ, t :: Γ', _, _, _, g, h => by
    obtain ⟨o, e2, w, σ2, f1, f2, rfl, rfl, rfl, h1, h2⟩ := h
    simp only [geS, Bool.and_eq_true, Bool.or_eq_true, decide_eq_true_eq] at g
    obtain ⟨fp', r, sl⟩ := RelE.weak g.2 h2
    rcases g.1 with rfl | g1
    · refine ⟨[] :: fp', ⟨o, e2, w, σ2, [], fp', rfl, rfl, rfl, ?_, r⟩, ?_⟩
      · cases o with
        | none => rfl
        | some d => exact .inl ⟨rfl, rfl⟩
      · simp only [List.flatten_cons, List.nil_append]
        exact sl.trans (List.sublist_append_right _ _)
    · refine ⟨f1 :: fp', ⟨o, e2, w, σ2, f1, fp', rfl, rfl, rfl, ?_, r⟩, ?_⟩
      · cases o with
        | none => exact h1
        | some d =>
          rcases h1 with ⟨rfl, e⟩ | ⟨v, e, ow⟩
          · cases t <;> simp [ge0] at g1
            exact .inl ⟨rfl, e⟩
          · exact .inr ⟨v, e, Ow.ge0 g1 ow⟩
      · simp only [List.flatten_cons]
        exact List.Sublist.append (List.Sublist.refl _) sl
section
variable {K : PySem.W.Frag} {B : Bs} {Γ Γ' : SEnv} {env : Env} {F H : Hp} {fp : Fps} {σ : L2.St}
theorem Rel.weak (g : geS Γ Γ' = true) (r : Rel K B Γ env F fp σ H) : ∃ fp', Rel K B Γ' env F fp' σ H ∧ ∀ a ∈ fp'.flatten, a ∈ fp.flatten := by
  obtain ⟨fp', e, sl⟩ := r.e.weak g
  exact ⟨fp', ⟨e, List.Nodup.sublist sl r.nd, r.sub, r.tup, r.fr, fun a z => r.new a (sl.subset z), r.io⟩, fun a z => sl.subset z⟩
/-- the state seen from a later point -/
def Bs.later (B : Bs) (F H : Hp) (fp : List Addr) : Bs := ⟨F, H, fp, B.σ, B.ios⟩
theorem Rel.now (r : Rel K B Γ env F fp σ H) {F1 H1 : Hp} {l : List Addr} (e1 : F1 = F) (e2 : H1 = H) (hl : ∀ a ∈ fp.flatten, a ∈ l) : Rel K (B.later F1 H1 l) Γ env F fp σ H := by
  subst e1 e2
  exact ⟨r.e, r.nd, r.sub, r.tup, Fr.refl, fun a z => .inl (hl a z), r.io⟩
theorem Rel.back {F1 H1 : Hp} {l : List Addr} (f : Fr B.fp B.F B.H F1 H1) (k : ∀ a ∈ l, a ∈ B.fp ∨ B.H a = none) (r : Rel K (B.later F1 H1 l) Γ env F fp σ H) : Rel K B Γ env F fp σ H :=
  ⟨r.e, r.nd, r.sub, r.tup, f.trans r.fr k, fun a z => (r.new a z).elim (k a) fun q => .inr (f.gone q), r.io⟩
end

/-! ### what a statement is to do -/
section
variable (G : Gd) (W : WX) (B : Bs) (m : List Shp) (rt : Shp) (lp : Option SEnv)
/-- the parameters that may be changed are held as the modes say -/
def Io (Γ : SEnv) : Prop := ∀ i ∈ B.ios, Γ[i]? = m[i]?
def KR (D : Ends) (d : VC.D) (env' : Env) : Prop := ∀ v F' H' fp' Γ' σ' fr, Rel G.K B Γ' env' F' fp' σ' H' → Io B m Γ' → Ow G.K F' H' rt d v fr → fr.Nodup → (∀ a ∈ fr, a ∈ B.fp ∨ B.H a = none) → (∀ i ∈ B.ios, ∀ f, fp'[i]? = some f → ∀ a ∈ fr, a ∉ f) → D.rt v H'
def KS (Γ' : Option SEnv) (D : Ends) (r : R (Fl × Env)) : Prop :=
  match r with
  | .ok (.nx, env') => ∀ Γn, Γ' = some Γn → ∀ σ' F' H' fp', Rel G.K B Γn env' F' fp' σ' H' → D.nx σ' H'
  | .ok (.bk, env') => ∀ Γl, lp = some Γl → ∀ σ' F' H' fp', Rel G.K B Γl env' F' fp' σ' H' → D.bk σ' H'
  | .ok (.ct, env') => ∀ Γl, lp = some Γl → ∀ σ' F' H' fp', Rel G.K B Γl env' F' fp' σ' H' → D.ct σ' H'
  | .ok (.rt d, env') => KR G B m rt D d env'
  | .exc x env' => ∀ Γ' σ', Io B m Γ' → KX G W B Γ' σ' x env'
  | .no => False
end
def tS (G : Gd) (W : WX) (ro : List Nat) (m : List Shp) (rt : Shp) (lp : Option SEnv) (Γ : SEnv) (s : S) (Γ' : Option SEnv) : TS := fun D σ H => ∃ B env F fp, B.ios = ro ∧ Rel G.K B Γ env F fp σ H ∧ KS G W B m rt lp Γ' D (evS G.C s env)
def tSs (G : Gd) (W : WX) (ro : List Nat) (m : List Shp) (rt : Shp) (lp : Option SEnv) (Γ : SEnv) (ss : List S) (Γ' : Option SEnv) : TS := fun D σ H => ∃ B env F fp, B.ios = ro ∧ Rel G.K B Γ env F fp σ H ∧ KS G W B m rt lp Γ' D (evSs G.C ss env)
def tEB (G : Gd) (W : WX) (ro : List Nat) (Γ : SEnv) (p : Bool) (e : E) (t : Ts) : TE := fun σ H Q => ∃ B : Bs, B.ios = ro ∧ tE G W B Γ p e t σ H Q
def tTB (G : Gd) (W : WX) (ro : List Nat) (Γ : SEnv) (p : Bool) (e : E) : TT := fun σ H Q => ∃ B : Bs, B.ios = ro ∧ tTt G W B Γ p e σ H Q
def tAB (G : Gd) (W : WX) (ro : List Nat) (Γ : SEnv) (p : Bool) (es : List E) (ts : List Ts) : TA := fun σ H Q => ∃ B : Bs, B.ios = ro ∧ tEs G W B Γ p es ts σ H Q
def tIB (G : Gd) (W : WX) (ro : List Nat) (Γ : SEnv) (p nb : Bool) (k : ItK) (c : IS) (ies : List E) : TI := fun σ H Q => ∃ B : Bs, B.ios = ro ∧ tI G W B Γ p nb k c ies σ H Q
section
variable {G : Gd} {sg : List Sig} {W Wb : WX} {S : SC} {X : Cx} {B : Bs} {Γ : SEnv} {tc : TC} {tg : Expr} {ro : List Nat} {m : List Shp} {rt : Shp} {lp : Option SEnv} {Γ' : Option SEnv} {D : Ends}
theorem r_EB {e : E} {ast : Expr} {t : Ts} {p : Bool} (h : ∀ B, PE X ast (tE G W B Γ p e t)) : PE X ast (tEB G W ro Γ p e t) := ⟨fun pins s σ H Q I ⟨B, _, q⟩ => (h B).run pins s σ H Q I q⟩
theorem r_TB {e : E} {ast : Expr} {p : Bool} (h : ∀ B, PT X ast (tTt G W B Γ p e)) : PT X ast (tTB G W ro Γ p e) := ⟨fun pins s σ H Q I ⟨B, _, q⟩ => (h B).run pins s σ H Q I q⟩
theorem r_AB {es : List E} {asts : List Expr} {ts : List Ts} {p : Bool} (h : ∀ B, PA X asts (tEs G W B Γ p es ts)) : PA X asts (tAB G W ro Γ p es ts) := ⟨fun pos pins s σ H Q I ⟨B, _, q⟩ => (h B).run pos pins s σ H Q I q⟩
theorem r_IB {ies : List E} {ast : Expr} {p nb : Bool} {k : ItK} {c : IS} (h : ∀ B, PI X tg ast (tI G W B Γ p nb k c ies)) : PI X tg ast (tIB G W ro Γ p nb k c ies) := ⟨fun pins s σ H Q I ⟨B, _, q⟩ => (h B).run pins s σ H Q I q⟩
theorem KS.e {r : R (VC.D × Env)} {f : VC.D × Env → R (Fl × Env)} {t : Ts} {p : Bool} {env : Env} {F H : Hp} {fp : Fps} {σ : L2.St} {Q : VK} (h : KS G W B m rt lp Γ' D (r.bind f)) (io : Io B m Γ)
    (k : ∀ d env' v F' H' fp' fv, Rel G.K B Γ env' F' fp' σ H' → Aft p env fp F H env' fp' F' H' → VOk G.K σ env' t.1 t.2 p fp H d v F' H' fp' fv → KS G W B m rt lp Γ' D (f (d, env')) → Q v H') : KE G W B Γ σ t p env F H fp r Q := by
  cases r with
  | ok q => exact fun v F' H' fp' fv r a o => k q.1 q.2 v F' H' fp' fv r a o h
  | exc x e => exact h Γ σ io
  | no => exact h
theorem KS.t {r : R (Bool × Env)} {f : Bool × Env → R (Fl × Env)} {p : Bool} {env : Env} {F H : Hp} {fp : Fps} {σ : L2.St} {Q : Bool → Hp → Prop} (h : KS G W B m rt lp Γ' D (r.bind f)) (io : Io B m Γ)
    (k : ∀ b env' F' H' fp', Rel G.K B Γ env' F' fp' σ H' → Aft p env fp F H env' fp' F' H' → KS G W B m rt lp Γ' D (f (b, env')) → Q b H') : KT G W B Γ σ p env F H fp r Q := by
  cases r with
  | ok q => exact fun F' H' fp' r a => k q.1 q.2 F' H' fp' r a h
  | exc x e => exact h Γ σ io
  | no => exact h
theorem KS.a {r : R (List VC.D × Env)} {f : List VC.D × Env → R (Fl × Env)} {ts : List Ts} {p : Bool} {env : Env} {F H : Hp} {fp : Fps} {σ : L2.St} {Q : List V → Hp → Prop} (h : KS G W B m rt lp Γ' D (r.bind f)) (io : Io B m Γ)
    (k : ∀ ds env' vs F' H' fp' fo, Rel G.K B Γ env' F' fp' σ H' → Aft p env fp F H env' fp' F' H' → VOks G.K σ env' p fp H F' H' fp' ts ds vs fo → KS G W B m rt lp Γ' D (f (ds, env')) → Q vs H') : KA G W B Γ σ ts p env F H fp r Q := by
  cases r with
  | ok q => exact fun v F' H' fp' fo r a o => k q.1 q.2 v F' H' fp' fo r a o h
  | exc x e => exact h Γ σ io
  | no => exact h
theorem Io.set {i : Nat} {s : Shp} (io : Io B m Γ) (h : i ∉ B.ios) : Io B m (Γ.set i s) := fun j hj => by
  rw [List.getElem?_set_ne fun e => h (by rw [e]; exact hj)]; exact io j hj
theorem Io.setS : ∀ {ps : List (Nat × Shp)} {Γ : SEnv}, Io B m Γ → (∀ q ∈ ps, q.1 ∉ B.ios) → Io B m (setS Γ ps)
  | [], _, io, _ => io
  | (i, s) :: ps, _, io, h => by
    unfold VC.setS
    exact Io.setS (io.set (h (i, s) List.mem_cons_self)) fun q hq => h q (List.mem_cons_of_mem _ hq)

/-! ### blocks -/
theorem r_snil : PSs X [] (tSs G W ro m rt lp Γ [] (some Γ)) := by
  refine PSs_imp pss_nil ?_
  rintro D σ H ⟨B, env, F, fp, hB, rel, k⟩
  simp only [evSs] at k
  exact k Γ rfl σ F H fp rel
theorem r_scons {s : VC.S} {ss : List VC.S} {a : Stmt} {as : List Stmt} {Γ1 : SEnv} (h1 : PS X a (tS G W ro m rt lp Γ s (some Γ1))) (h2 : PSs X as (tSs G W ro m rt lp Γ1 ss Γ')) : PSs X (a :: as) (tSs G W ro m rt lp Γ (s :: ss) Γ') := by
  refine PSs_imp (pss_cons h1 h2) ?_
  rintro D σ H ⟨B, env, F, fp, hB, rel, k⟩
  simp only [evSs] at k
  refine ⟨B, env, F, fp, hB, rel, ?_⟩
  cases r : evS G.C s env with
  | no => rw [r] at k; exact k
  | exc x e => rw [r] at k; exact k
  | ok q =>
    obtain ⟨f, env1⟩ := q
    rw [r] at k
    simp only [R.bind_ok] at k
    cases f with
    | nx =>
      intro Γn hn σ' F' H' fp' rel'
      cases hn
      exact ⟨B, env1, F', fp', hB, rel', k⟩
    | rt d => exact k
    | bk => exact k
    | ct => exact k
theorem r_slast {s : VC.S} {a : Stmt} (h1 : PS X a (tS G W ro m rt lp Γ s none)) : PSs X [a] (tSs G W ro m rt lp Γ [s] none) := by
  refine PSs_imp (pss_one h1) ?_
  rintro D σ H ⟨B, env, F, fp, hB, rel, k⟩
  simp only [evSs] at k
  refine ⟨B, env, F, fp, hB, rel, ?_⟩
  cases r : evS G.C s env with
  | no => rw [r] at k; exact k
  | exc x e => rw [r] at k; exact k
  | ok q =>
    obtain ⟨f, env1⟩ := q
    rw [r] at k
    simp only [R.bind_ok] at k
    cases f with
    | nx => exact fun Γn hn => by cases hn
    | rt d => exact k
    | bk => exact k
    | ct => exact k

/-! ### small statements -/
theorem take1 {env : Env} {F H : Hp} {fp : Fps} {σ : L2.St} {env1 : Env} {F1 H1 : Hp} {fp1 : Fps} {p : Bool} {t : Ts} {s : Shp} {d : VC.D} {v : V} {g : List Addr} (rel : Rel G.K B Γ env F fp σ H) (rel1 : Rel G.K B Γ env1 F1 fp1 σ H1) (aft : Aft p env fp F H env1 fp1 F1 H1) (o : VOk G.K σ env1 t.1 t.2 p fp H d v F1 H1 fp1 g) (hn : t.2 = none) (h : cv t.1 s = true) :
    ∃ F2 g', Rel G.K B Γ env1 F2 fp1 σ H1 ∧ Ow G.K F2 H1 s d v g' ∧ g'.Nodup ∧ (∀ a ∈ g', a ∉ fp1.flatten) ∧ (∀ a ∈ g', a ∈ B.fp ∨ B.H a = none) ∧ Sub F1 F2 := by
  rw [hn] at o
  obtain ⟨F2, g', r2, _, ow, ng, gg, sb, _⟩ := take rel rel1 aft o h
  exact ⟨F2, g', r2, ow, ng, fun a z => (o.own rfl a (gg a z)).1, fun a z => rel.pnew (o.own rfl a (gg a z)).2, sb⟩
/-- x = e, reading -/
theorem asg_imp {i : Nat} {s : Shp} {e : E} {t : Ts} {te : TE} (hn : t.2 = none) (hc : cv t.1 s = true) (hi : i < Γ.length) (hr : i ∉ ro) (io : ∀ j ∈ ro, Γ[j]? = m[j]?) (hte : ∀ σ H Q, tEB G W ro Γ (pur e) e t σ H Q → te σ H Q) :
    ∀ D σ H, tS G W ro m rt lp Γ (.asg i s e) (some (Γ.set i s)) D σ H → tAsg te (gName i) D σ H := by
  rintro D σ H ⟨B, env, F, fp, hB, rel, k⟩
  simp only [evS] at k
  refine hte _ _ _ ⟨B, hB, env, F, fp, rel, k.e (fun j hj => io j (hB ▸ hj)) ?_⟩
  intro d env' v F' H' fp' fv rel' aft o k
  obtain ⟨F2, g', rel2, ow, ng, ap, nw, _⟩ := take1 rel rel' aft o hn hc
  have rel3 := rel2.store hi (by rw [hB]; exact hr) ow ng ap nw
  exact k _ rfl _ _ _ _ rel3
/-- neither a comprehension .. -/
def noComp : Expr → Bool
  | .ListComp _ _ _ _ => false
  | .SetComp _ _ _ _ => false
  | .DictComp _ _ _ _ _ => false
  | _ => true
theorem noComp_ok {e : Expr} {tg : Option Expr} {n : Nat} {env : PySem.Env} (h : noComp e = true) : swapsWith e tg n env = pure false := by
  cases e <;> first | rfl | cases h
theorem r_asg (xo : XOk G sg W S X) {i : Nat} {s : Shp} {e : E} {t : Ts} {x : Str} {ast : Expr} {pos' pos : Pos} (hx : stB S i x = true) (ha : ∀ B, PE X ast (tE G W B Γ (pur e) e t)) (hn : t.2 = none) (hc : cv t.1 s = true) (hi : i < Γ.length) (hr : i ∉ ro) (io : ∀ j ∈ ro, Γ[j]? = m[j]?) (hs : swapsWith ast (some (.Name x pos')) pos.line X.env = pure false) :
    PS X (.Assign [.Name x pos'] ast pos) (tS G W ro m rt lp Γ (.asg i s e) (some (Γ.set i s))) := by
  simp only [stB, Bool.and_eq_true, decide_eq_true_eq] at hx
  obtain ⟨h1, h2⟩ := hx
  obtain ⟨k1, k2⟩ := xo.st x h2
  exact PS_imp (ps_set (by rw [xo.N]; exact xo.nd) (by rw [xo.N]; exact h1) k1 (r_EB (ro := ro) ha) hs k2) (asg_imp hn hc hi hr io fun _ _ _ h => h)
theorem r_ret {e : E} {t : Ts} {ast : Expr} {pos : Pos} (ha : ∀ B, PE X ast (tE G W B Γ (pur e) e t)) (hn : t.2 = none) (hc : cv t.1 rt = true) (io : ∀ j ∈ ro, Γ[j]? = m[j]?) :
    PS X (.Return (some ast) pos) (tS G W ro m rt lp Γ (.ret e) none) := by
  refine PS_imp (ps_ret (r_EB (ro := ro) ha)) ?_
  rintro D σ H ⟨B, env, F, fp, hB, rel, k⟩
  simp only [evS] at k
  refine ⟨B, hB, env, F, fp, rel, k.e (fun j hj => io j (hB ▸ hj)) ?_⟩
  intro d env' v F' H' fp' fv rel' aft o k
  obtain ⟨F2, g', rel2, ow, ng, ap, nw, _⟩ := take1 rel rel' aft o hn hc
  exact k v F2 H' fp' Γ σ g' rel2 (fun j hj => io j (hB ▸ hj)) ow ng nw fun i hi f hf a ha q => ap a ha (mem_at hf q)
theorem r_ret0 {pos : Pos} (hc : flat rt = true) (io : ∀ j ∈ ro, Γ[j]? = m[j]?) : PS X (.Return none pos) (tS G W ro m rt lp Γ .ret0 none) := by
  refine PS_imp ps_retN ?_
  rintro D σ H ⟨B, env, F, fp, hB, rel, k⟩
  simp only [evS] at k
  refine k .non F H fp Γ σ [] rel (fun j hj => io j (hB ▸ hj)) ?_ List.nodup_nil (fun a z => by simp at z) fun i hi f hf a ha => by simp at ha
  cases rt <;> simp [flat] at hc
  · exact ⟨rfl, rfl⟩
  · exact ⟨rfl, rfl, rfl⟩
  · exact ⟨rfl, rfl⟩
/-- the list that a name owns goes out -/
theorem r_retMv (xo : XOk G sg W S X) {i : Nat} {s : Shp} {x : Str} {pos pos' : Pos} (hx : visB S i x = true) (hΓ : Γ[i]? = some s) (hq : s ≠ .X) (hg : ge0 s rt = true) (hr : i ∉ ro) (io : ∀ j ∈ ro, Γ[j]? = m[j]?) : PS X (.Return (some (.Name x pos')) pos) (tS G W ro m rt lp Γ (.retMv i) none) := by
  unfold visB at hx
  simp only [Bool.and_eq_true, decide_eq_true_eq, Bool.not_eq_true'] at hx
  obtain ⟨⟨h1, h2⟩, h3⟩ := hx
  obtain ⟨o1, o2, o3⟩ := odd_of h3
  refine PS_imp (ps_ret (pe_var (i := i) (by rw [xo.N]; exact h1) (by rw [xo.sc]; exact vis_of h2) o1 o2)) ?_
  rintro D σ H ⟨B, env, F, fp, hB, rel, k⟩
  simp only [evS, getV] at k
  split at k
  · rename_i d hd
    simp only [R.bind_ok] at k
    obtain ⟨v, fv, e1, e2, ow⟩ := rel.e.get hΓ hq hd
    refine ⟨v, e1, k v F H fp Γ σ fv rel (fun j hj => io j (hB ▸ hj)) (Ow.ge0 hg ow) (nd_at rel.nd e2) (fun a z => rel.new a (mem_at e2 z)) fun j hj f hf a ha => ?_⟩
    exact at_apart rel.nd e2 hf (fun e => hr (by rw [e, ← hB]; exact hj)) ha
  · exact k.elim
theorem r_pass {pos : Pos} : PS X (.Pass pos) (tS G W ro m rt lp Γ .pas (some Γ)) := by
  refine PS_imp ps_pass ?_
  rintro D σ H ⟨B, env, F, fp, hB, rel, k⟩
  simp only [evS] at k
  exact k Γ rfl σ F H fp rel
theorem r_doc {x : Str} {j : Nat} {pos pos' : Pos} : PS X (.Expr (.Constant (.str x) j pos) pos') (tS G W ro m rt lp Γ .pas (some Γ)) := by
  refine PS_imp ps_doc ?_
  rintro D σ H ⟨B, env, F, fp, hB, rel, k⟩
  simp only [evS] at k
  exact k Γ rfl σ F H fp rel
theorem r_brk {pos : Pos} {Γl : SEnv} (hl : lp = some Γl) (hg : geS Γ Γl = true) : PS X (.Break pos) (tS G W ro m rt lp Γ .brk none) := by
  refine PS_imp ps_break ?_
  rintro D σ H ⟨B, env, F, fp, hB, rel, k⟩
  simp only [evS] at k
  obtain ⟨fp', r', _⟩ := rel.weak hg
  exact k Γl hl σ F H fp' r'
theorem r_cnt {pos : Pos} {Γl : SEnv} (hl : lp = some Γl) (hg : geS Γ Γl = true) : PS X (.Continue pos) (tS G W ro m rt lp Γ .cnt none) := by
  refine PS_imp ps_continue ?_
  rintro D σ H ⟨B, env, F, fp, hB, rel, k⟩
  simp only [evS] at k
  obtain ⟨fp', r', _⟩ := rel.weak hg
  exact k Γl hl σ F H fp' r'
theorem r_sex {e : E} {t : Ts} {ast : Expr} {pos : Pos} (ha : ∀ B, PE X ast (tE G W B Γ (pur e) e t)) (hs : noComp ast = true) (io : ∀ j ∈ ro, Γ[j]? = m[j]?) : PS X (.Expr ast pos) (tS G W ro m rt lp Γ (.ex e) (some Γ)) := by
  refine PS_imp (ps_expr (r_EB (ro := ro) ha) (noComp_ok hs)) ?_
  rintro D σ H ⟨B, env, F, fp, hB, rel, k⟩
  simp only [evS] at k
  refine ⟨B, hB, env, F, fp, rel, k.e (fun j hj => io j (hB ▸ hj)) ?_⟩
  intro d env' v F' H' fp' fv rel' aft o k
  exact k Γ rfl σ F' H' fp' rel'
theorem KS.weak {Γa Γb : Option SEnv} {r : R (Fl × Env)} (h : KS G W B m rt lp Γb D r) (g : ∀ Γ1, Γa = some Γ1 → ∃ Γ2, Γb = some Γ2 ∧ geS Γ1 Γ2 = true) : KS G W B m rt lp Γa D r := by
  cases r with
  | no => exact h
  | exc x e => exact h
  | ok q =>
    obtain ⟨f, env1⟩ := q
    cases f with
    | nx =>
      intro Γn hn σ' F' H' fp' rel'
      obtain ⟨Γ2, e2, g2⟩ := g Γn hn
      obtain ⟨fp2, r2, _⟩ := rel'.weak g2
      exact h Γ2 e2 σ' F' H' fp2 r2
    | rt d => exact h
    | bk => exact h
    | ct => exact h
theorem r_sif {c : E} {a b : List VC.S} {cast : Expr} {as bs : List Stmt} {pos : Pos} {Γa Γb : Option SEnv} (hc : ∀ B, PT X cast (tTt G W B Γ (pur c) c)) (ha : PSs X as (tSs G W ro m rt lp Γ a Γa)) (hb : PSs X bs (tSs G W ro m rt lp Γ b Γb))
    (ga : ∀ Γ1, Γa = some Γ1 → ∃ Γ2, Γ' = some Γ2 ∧ geS Γ1 Γ2 = true) (gb : ∀ Γ1, Γb = some Γ1 → ∃ Γ2, Γ' = some Γ2 ∧ geS Γ1 Γ2 = true) (io : ∀ j ∈ ro, Γ[j]? = m[j]?) : PS X (.If cast as bs pos) (tS G W ro m rt lp Γ (.ite c a b) Γ') := by
  refine PS_imp (ps_if (r_TB (ro := ro) hc) ha hb) ?_
  rintro D σ H ⟨B, env, F, fp, hB, rel, k⟩
  simp only [evS] at k
  have e : ((evE G.C c env).bind fun p => (truR p).bind fun (k, env1) => if k = true then evSs G.C a env1 else evSs G.C b env1) = ((evE G.C c env).bind truR).bind fun q => if q.1 = true then evSs G.C a q.2 else evSs G.C b q.2 := by
    cases evE G.C c env <;> rfl
  rw [e] at k
  refine ⟨B, hB, env, F, fp, rel, k.t (fun j hj => io j (hB ▸ hj)) ?_⟩
  intro q env' F' H' fp' rel' aft k
  cases q with
  | true => exact ⟨B, env', F', fp', hB, rel', k.weak ga⟩
  | false => exact ⟨B, env', F', fp', hB, rel', k.weak gb⟩
end
end VC
end

section
set_option Elab.async false
set_option linter.all false
set_option autoImplicit false
set_option maxRecDepth 100000
/-! VC14: more statements: moves, stores into lists, loops. -/
namespace VC
open PySem PySem.Spec L2

section
variable {K : PySem.W.Frag} {B : Bs} {Γ : SEnv} {env : Env} {F F' H H' : Hp} {fp : Fps} {σ : L2.St} {s t : Shp} {d : D} {v : V} {f fv : List Addr}
theorem Ow.step (fr : Fr [] F H F' H') (o : Ow K F H s d v f) : Ow K F' H' s d v f := o.keep fr.fs fun a z => by
  obtain ⟨⟨u, e, _⟩, n⟩ := o.dom a z
  refine ⟨(fr.keep a u (by simp) e).trans e.symm, ?_⟩
  cases q : F' a with
  | none => rfl
  | some w =>
    rcases fr.fnew a w q with z | z | z
    · rw [n] at z; cases z
    · simp at z
    · rw [e] at z; cases z
/-- a name's part is given up -/
theorem Rel.drop {j : Nat} {o : Option D} {w : Option V} (r : Rel K B Γ env F fp σ H) (hj : j < Γ.length) : Rel K B (Γ.set j .X) env F (fp.set j []) σ H := by
  obtain ⟨l1, l2, l3⟩ := r.e.len
  have e1 : env[j]? = some (env[j]'(by omega)) := List.getElem?_eq_getElem _
  have e2 : σ[j]? = some (σ[j]'(by omega)) := List.getElem?_eq_getElem _
  have e3 : fp[j]? = some (fp[j]'(by omega)) := List.getElem?_eq_getElem _
  have sl : Slot K F H .X (env[j]'(by omega)) (σ[j]'(by omega)) [] := by
    cases env[j]'(by omega) with
    | none => rfl
    | some d => exact .inl ⟨rfl, rfl⟩
  have e := r.e.set (i := j) (s := .X) (fv := []) hj sl
  rw [set_self e1, set_self e2] at e
  exact ⟨e, nd_set r.nd e3 List.nodup_nil fun a z => by simp at z, r.sub, r.tup, r.fr, fun a z => (mem_set r.nd e3 z).elim (fun y => r.new a y.1) fun y => by simp at y, r.io⟩
theorem drop_out {i : Nat} (nd : fp.flatten.Nodup) (e : fp[i]? = some fv) : ∀ a ∈ fv, a ∉ (fp.set i []).flatten := fun a z q => by
  rcases mem_set nd e q with y | y
  · exact y.2 z
  · simp at y
/-- a member is replaced -/
theorem Ows.set {R : D → V → List Addr → Prop} {g : List Addr} : ∀ {ds : List D} {vs : List V} {fp : List Addr} {n : Nat}, Ows R ds vs fp → fp.Nodup → R d v g → g.Nodup → (∀ a ∈ g, a ∉ fp) → n < ds.length → ∃ fp', Ows R (ds.set n d) (vs.set n v) fp' ∧ fp'.Nodup ∧ ∀ a ∈ fp', a ∈ fp ∨ a ∈ g
  | [], _, _, _, _, _, _, _, _, hn => by simp at hn
  | x :: ds, _, _, 0, h, nd, hr, ng, dj, _ => by
    obtain ⟨u, r, f1, f2, rfl, rfl, h1, h2⟩ := h
    obtain ⟨n1, n2, n3⟩ := List.nodup_append.mp nd
    exact ⟨g ++ f2, ⟨v, r, g, f2, rfl, rfl, hr, h2⟩, List.nodup_append.mpr ⟨ng, n2, fun a ha b hb e => dj a ha (by rw [e]; exact List.mem_append_right _ hb)⟩, fun a z => (List.mem_append.mp z).elim .inr fun y => .inl (List.mem_append_right _ y)⟩
  | x :: ds, _, _, n + 1, h, nd, hr, ng, dj, hn => by
    obtain ⟨u, r, f1, f2, rfl, rfl, h1, h2⟩ := h
    obtain ⟨n1, n2, n3⟩ := List.nodup_append.mp nd
    obtain ⟨fp', o, n', k⟩ := Ows.set (n := n) h2 n2 hr ng (fun a z q => dj a z (List.mem_append_right _ q)) (by simpa using hn)
    refine ⟨f1 ++ fp', ⟨u, r.set n v, f1, fp', rfl, rfl, h1, o⟩, List.nodup_append.mpr ⟨n1, n', fun a ha b hb e => ?_⟩, fun a z => ?_⟩
    · subst e
      rcases k a hb with y | y
      · exact n3 a ha a y rfl
      · exact dj a y (List.mem_append_left _ ha)
    · rcases List.mem_append.mp z with y | y
      · exact .inl (List.mem_append_left _ y)
      · exact (k a y).imp (List.mem_append_right _) id
end

theorem strOk_app {x y : Str} (s1 : PyData.strOk x = true) (s2 : PyData.strOk y = true) : PyData.strOk (x ++ y) = true := by
  unfold PyData.strOk at s1 s2 ⊢
  show ((x ++ y).cps).all _ = true
  have : (x ++ y).cps = x.cps ++ y.cps := rfl
  rw [this, Array.all_append, s1, s2]; rfl
theorem len_app (x y : Str) : (x ++ y).length = x.length + y.length := by show (x.cps ++ y.cps).size = _; rw [Array.size_append]; rfl
section
variable {G : Gd} {sg : List Sig} {W Wb : WX} {S : SC} {X : Cx} {B : Bs} {Γ : SEnv} {tc : TC} {tg : Expr} {ro : List Nat} {m : List Shp} {rt : Shp} {lp : Option SEnv} {Γ' : Option SEnv} {D : Ends}
/-- x = y, what y owns goes over -/
theorem r_mv (xo : XOk G sg W S X) {i j : Nat} {s : Shp} {x y : Str} {p p' pos : Pos} (hx : stB S i x = true) (hy : visB S j y = true) (hΓ : Γ[j]? = some s) (hq : s ≠ .X) (hi : i < Γ.length) (hij : i ≠ j) (hr : i ∉ ro) :
    PS X (.Assign [.Name x p] (.Name y p') pos) (tS G W ro m rt lp Γ (.mv i j) (some ((Γ.set j .X).set i s))) := by
  simp only [stB, Bool.and_eq_true, decide_eq_true_eq] at hx
  obtain ⟨h1, h2⟩ := hx
  obtain ⟨k1, k2⟩ := xo.st x h2
  unfold visB at hy
  simp only [Bool.and_eq_true, decide_eq_true_eq, Bool.not_eq_true'] at hy
  obtain ⟨⟨g1, g2⟩, g3⟩ := hy
  obtain ⟨o1, o2, o3⟩ := odd_of g3
  refine PS_imp (ps_set (by rw [xo.N]; exact xo.nd) (by rw [xo.N]; exact h1) k1 (pe_var (i := j) (by rw [xo.N]; exact g1) (by rw [xo.sc]; exact vis_of g2) o1 o2) rfl k2) ?_
  rintro D σ H ⟨B, env, F, fp, hB, rel, k⟩
  simp only [evS, getV] at k
  split at k
  · rename_i d hd
    simp only [R.bind_ok] at k
    obtain ⟨v, fv, e1, e2, ow⟩ := rel.e.get hΓ hq hd
    have hj : j < Γ.length := by
      have := rel.e.len.1
      have := (List.getElem?_eq_some_iff.mp hΓ).1
      exact this
    have r1 := rel.drop (o := none) (w := none) hj
    have r2 := r1.store (i := i) (by rw [List.length_set]; exact hi) (by rw [hB]; exact hr) ow (nd_at rel.nd e2) (drop_out rel.nd e2) fun a z => rel.new a (mem_at e2 z)
    exact ⟨v, e1, k _ rfl _ _ _ _ r2⟩
  · exact k.elim
/-- what a name owns is frozen: no text -/
theorem r_frz {i : Nat} {s : Shp} {ss : List VC.S} {as : List Stmt} (hΓ : Γ[i]? = some s) (hf : frzOk s = true) (h : PSs X as (tSs G W ro m rt lp (Γ.set i .F) ss Γ')) : PSs X as (tSs G W ro m rt lp Γ (.frz i :: ss) Γ') := by
  refine PSs_imp h ?_
  rintro D σ H ⟨B, env, F, fp, hB, rel, k⟩
  simp only [evSs, evS, R.bind_ok] at k
  have hj : i < Γ.length := (List.getElem?_eq_some_iff.mp hΓ).1
  obtain ⟨o, w, f, q1, q2, q3, sl⟩ := rel.e.at hΓ
  have r1 := rel.drop (o := none) (w := none) hj
  cases o with
  | none =>
    have : f = [] := sl
    subst this
    have e := rel.e.set (i := i) (s := .F) (o := none) (w := w) (fv := []) hj rfl
    rw [set_self q1, set_self q2, set_self q3] at e
    exact ⟨B, env, F, fp, hB, ⟨e, rel.nd, rel.sub, rel.tup, rel.fr, rel.new, rel.io⟩, k⟩
  | some d =>
    rcases sl with ⟨rfl, _⟩ | ⟨v, rfl, ow⟩
    · cases hf
    · have r2 := r1.freeze (fv := f) fun a z => ⟨drop_out rel.nd q3 a z, rel.new a (mem_at q3 z)⟩
      have rf := ow.frz rel.sub hf
      have e := r2.e.set (i := i) (s := .F) (o := some d) (w := some v) (fv := []) (by rw [List.length_set]; exact hj) (.inr ⟨v, rfl, rfl, rf⟩)
      rw [List.set_set, List.set_set, set_self q1, set_self q2] at e
      refine ⟨B, env, _, _, hB, ⟨e, ?_, r2.sub, r2.tup, r2.fr, r2.new, r2.io⟩, k⟩
      exact r2.nd
/-- x[k] = e -/
theorem r_set (xo : XOk G sg W S X) {i : Nat} {s : Shp} {x : Str} {ek e : E} {t tk : Ts} {ast kast : Expr} {p p2 pos : Pos} (hx : visB S i x = true) (hΓ : Γ[i]? = some (.O s)) (ha : ∀ B, PE X ast (tE G W B Γ (pur e) e t)) (hn : t.2 = none) (hc : cv t.1 s = true)
    (hk : ∀ B, PE X kast (tE G W B Γ (pur ek) ek tk)) (hp : pur ek = true) (hkr : rdOk tk.1 = true) (hs : noComp ast = true) (io : ∀ j ∈ ro, Γ[j]? = m[j]?)
    (hasg : ∀ v, assign (.Subscript (.Name x p) kast p2) X.env v = (do
      let ov ← holding [v] (eval (.Name x p) X.env)
      let iv ← holding [v, ov] (eval kast X.env)
      standAt p2
      holding [v, ov, iv] (setItem ov iv v)
      release [v, ov, iv] [])) : PS X (.Assign [.Subscript (.Name x p) kast p2] ast pos) (tS G W ro m rt lp Γ (.set i ek e) (some Γ)) := by
  have hx' := hx
  unfold visB at hx
  simp only [Bool.and_eq_true, decide_eq_true_eq, Bool.not_eq_true'] at hx
  obtain ⟨⟨g1, g2⟩, g3⟩ := hx
  obtain ⟨o1, o2, o3⟩ := odd_of g3
  have hsw : swapsWithSole [.Subscript (.Name x p) kast p2] ast pos.line X.env = pure false := by show swapsWith ast (some (.Subscript (.Name x p) kast p2)) pos.line X.env = pure false; exact noComp_ok hs
  have hw : swappedStores [.Subscript (.Name x p) kast p2] ast X.env = pure none := rfl
  refine PS_imp (ps_asg (r_EB (ro := ro) ha) (pg_sub (pe_var (i := i) (by rw [xo.N]; exact g1) (by rw [xo.sc]; exact vis_of g2) o1 o2) (r_EB (ro := ro) hk) set_list hasg) hsw hw rfl) ?_
  rintro D σ H ⟨B, env, F, fp, hB, rel, k⟩
  simp only [evS] at k
  refine ⟨B, hB, env, F, fp, rel, k.e (fun j hj => io j (hB ▸ hj)) ?_⟩
  intro d env1 v F1 H1 fp1 fv rel1 aft1 o k
  simp only [R.bind_ok] at k
  obtain ⟨F2, g', rel2, ow, ng, ap, nw, sb⟩ := take1 rel rel1 aft1 o hn hc
  split at k
  case h_4 => exact k.elim
  case h_2 =>
    rename_i hd0
    obtain ⟨lv, f, e1, e2, owl⟩ := rel2.e.get hΓ (by simp) hd0
    simp only [Ow] at owl
    obtain ⟨_, _, _, _, hds, _⟩ := owl
    cases hds
  case h_3 =>
    rename_i hd0
    obtain ⟨lv, f, e1, e2, owl⟩ := rel2.e.get hΓ (by simp) hd0
    simp only [Ow] at owl
    obtain ⟨_, _, _, _, hds, _⟩ := owl
    cases hds
  rename_i ds0 hd0
  obtain ⟨lv, f, e1, e2, owl⟩ := rel2.e.get hΓ (by simp) hd0
  refine ⟨lv, e1, B, hB, env1, F2, fp1, rel2, k.e (p := pur ek) (fun j hj => io j (hB ▸ hj)) ?_⟩
  clear k
  intro dk env2 vk F3 H3 fp3 fk rel3 aft3 ok k
  rw [hp] at aft3
  obtain ⟨rfl, rfl⟩ := aft3.same rfl
  have fr3 : Fr [] F2 H1 F3 H3 := by simpa [PP] using aft3.fr
  have ow3 := Ow.step fr3 ow
  have owl3 := Ow.step fr3 owl
  simp only [Ow] at owl3
  obtain ⟨l, vs, ds1, fps, hds, rfl, hl, hF, hln, hos, rfl⟩ := owl3
  cases hds
  simp only [setIx, hd0] at k
  cases dk <;> simp only [R.bind_no] at k <;> try exact k.elim
  rename_i kk
  have ek : vk = .int kk := ok.ow.rp rel3.sub hkr
  subst ek
  cases hix : VC.ixN ds0.length kk with
  | none => simp only [hix, R.bind_no] at k; exact k.elim
  | some n =>
  simp only [hix, R.bind_ok] at k
  have hvl : vs.length = ds0.length := hos.len
  have hnl : n < ds0.length := by
    unfold VC.ixN at hix
    split at hix
    · split at hix
      · cases hix; omega
      · cases hix
    · split at hix
      · cases hix; omega
      · cases hix
  have ndf := nd_at rel3.nd e2
  obtain ⟨lf, ndfps⟩ := List.nodup_cons.mp ndf
  have lin : l ∈ fp3.flatten := mem_at e2 List.mem_cons_self
  have lg : l ∉ g' := fun z => ap l z lin
  obtain ⟨fp', os', nd', from'⟩ := hos.set (n := n) ndfps ow3 ng (fun a z q => ap a z (mem_at e2 (List.mem_cons_of_mem _ q))) hnl
  have lfp' : l ∉ fp' := fun z => (from' l z).elim lf lg
  refine ⟨l, vs, kk, n, rfl, rfl, hl, by rw [hvl, ← ixN_eq]; exact hix, ?_⟩
  have os2 : Ows (Ow G.K F3 (upd H3 l (.lst (vs.set n v))) s) (ds0.set n d) (vs.set n v) fp' := Ows.keep (Sub.refl _) os' fun a z => ⟨upd_ne fun e => lfp' (by rw [← e]; exact z), (Ows.dom os' a z).2⟩
  have rel4 := rel3.write (t := .O s) (d := .lst (ds0.set n d)) (gv := l :: fp') (o := .lst (vs.set n v)) e2 List.mem_cons_self (fun xs e => by cases e) e1 ⟨l, _, _, fp', rfl, rfl, upd_same, hF, by rw [List.length_set]; exact hln, os2, rfl⟩ (List.nodup_cons.mpr ⟨lfp', nd'⟩) (fun a z q => by
    rcases List.mem_cons.mp z with rfl | z
    · exact List.mem_cons_self
    · rcases from' a z with y | y
      · exact List.mem_cons_of_mem _ y
      · exact absurd q (ap a y)) (fun a z => by
    rcases List.mem_cons.mp z with rfl | z
    · exact rel3.new a lin
    · rcases from' a z with y | y
      · exact rel3.new a (mem_at e2 (List.mem_cons_of_mem _ y))
      · exact nw a y)
  rw [set_self hΓ] at rel4
  exact k _ rfl _ _ _ _ rel4
/-- x op= e -/
def augOf : Op2 → Option Operator
  | .addA => some .Add
  | .sub => some .Sub
  | _ => none
def rAug : Op2 → TIp
  | .addA => fun x y H Q => rAdd x y H Q ∨ rAddS x y H Q
  | _ => rSub
theorem aug_ok {o : Op2} {op : Operator} (h : augOf o = some op) : PIp X op (rAug o) := by
  cases o <;> simp [augOf] at h
  · subst h
    intro pins s σ H x y v u Q I r1 r2 h
    rcases h with h | h
    · exact in_add pins s σ H x y v u Q I r1 r2 h
    · exact in_addS pins s σ H x y v u Q I r1 r2 h
  · subst h
    exact in_sub
theorem r_aug (xo : XOk G sg W S X) {i : Nat} {x : Str} {o : Op2} {op : Operator} {e : E} {t : Ts} {ast : Expr} {p pos : Pos} (hx : stB S i x = true) (ho : augOf o = some op) (hΓ : Γ[i]? = some .A) (ha : ∀ B, PE X ast (tE G W B Γ (pur e) e t)) (hq : rdOk t.1 = true) (hp : pur e = true) (hr : i ∉ ro) (io : ∀ j ∈ ro, Γ[j]? = m[j]?) :
    PS X (.AugAssign (.Name x p) op ast pos) (tS G W ro m rt lp Γ (.aug i o e) (some Γ)) := by
  simp only [stB, Bool.and_eq_true, decide_eq_true_eq] at hx
  obtain ⟨h1, h2⟩ := hx
  obtain ⟨k1, k2⟩ := xo.st x h2
  refine PS_imp (ps_aug (by rw [xo.N]; exact xo.nd) (by rw [xo.N]; exact h1) k1 (r_EB (ro := ro) ha) (aug_ok ho) k2) ?_
  rintro D σ H ⟨B, env, F, fp, hB, rel, k⟩
  simp only [evS, getV] at k
  split at k
  case h_2 => exact k.elim
  rename_i dx hdx
  simp only [R.bind_ok] at k
  obtain ⟨vx, fx, e1, e2, owx⟩ := rel.e.get hΓ (by simp) hdx
  refine ⟨vx, e1, B, hB, env, F, fp, rel, k.e (p := pur e) (fun j hj => io j (hB ▸ hj)) ?_⟩
  clear k
  intro dy env1 vy F1 H1 fp1 fy rel1 aft1 oy k
  rw [hp] at aft1
  obtain ⟨rfl, rfl⟩ := aft1.same rfl
  have rx : Rp G.K H1 dx vx := (Ow.step (by simpa [PP] using aft1.fr) owx).rp rel1.sub rfl
  have ry : Rp G.K H1 dy vy := oy.ow.rp rel1.sub hq
  have hi : i < Γ.length := (List.getElem?_eq_some_iff.mp hΓ).1
  have fin : ∀ (z : VC.D) (v : V), imm z = true → Rf F1 z v → op2D o dx dy = some z → D.nx (σ.set i (some v)) H1 := fun z v hi' hf e => by
    simp only [e] at k
    have r3 := rel1.store (i := i) (s := .A) (d := z) (v := v) (fv := []) hi (by rw [hB]; exact hr) ⟨rfl, hi', hf⟩ List.nodup_nil (fun a z => by simp at z) (fun a z => by simp at z)
    rw [set_self hΓ] at r3
    exact k _ rfl _ _ _ _ r3
  cases o <;> simp [augOf] at ho
  · cases dx <;> cases dy <;> simp only [op2D] at k fin <;> try exact k.elim
    · rename_i a b
      have ea : vx = .int a := rx
      have eb : vy = .int b := ry
      subst ea eb
      exact .inl ⟨a, b, rfl, rfl, fin (.int (a + b)) (.int (a + b)) rfl rfl rfl⟩
    · rename_i a b
      obtain ⟨ea, ka, la⟩ := rp_str rx
      obtain ⟨eb, kb, lb⟩ := rp_str ry
      subst ea eb
      by_cases hl : a.length + b.length ≤ lim
      · simp only [hl, if_true] at fin
        exact .inr ⟨a, b, rfl, rfl, by rw [← lim_eq]; exact hl, fin (.str (a ++ b)) (.str (a ++ b)) rfl ⟨rfl, strOk_app ka kb, by rw [len_app]; exact hl⟩ rfl⟩
      · simp only [hl, if_false] at k
        exact k.elim
  · cases dx <;> cases dy <;> simp only [op2D] at k fin <;> try exact k.elim
    rename_i a b
    have ea : vx = .int a := rx
    have eb : vy = .int b := ry
    subst ea eb
    exact ⟨a, b, rfl, rfl, fin (.int (a - b)) (.int (a - b)) rfl rfl rfl⟩
end
end VC
end

section
set_option Elab.async false
set_option linter.all false
set_option autoImplicit false
set_option maxRecDepth 100000
/-! VC15: unpacking, parallel stores, loops. -/
namespace VC
open PySem PySem.Spec L2

section
variable {G : Gd} {sg : List Sig} {W Wb : WX} {S : SC} {X : Cx} {B : Bs} {Γ : SEnv} {tc : TC} {tg : Expr} {ro : List Nat} {m : List Shp} {rt : Shp} {lp : Option SEnv} {Γ' : Option SEnv} {D : Ends}
/-! ### (a, b) = e -/
def unpB : Expr → Bool
  | .Tuple vs _ _ => vs.all (foldedForSure 8)
  | _ => true
theorem swap_none {ts : List Expr} {k : Nat} {p : Pos} {ast : Expr} {env : PySem.Env} (h : unpB ast = true) : swappedStores [.Tuple ts k p] ast env = pure none := by
  cases ast <;> first | rfl | skip
  rename_i vs k2 p2
  have h : vs.all (foldedForSure 8) = true := h
  unfold swappedStores
  simp only [h]
  split
  · rfl
  · split
    · rfl
    · split
      · rfl
      · rfl
theorem r_unp (xo : XOk G sg W S X) {is : List Nat} {e : E} {t : Ts} {ast : Expr} {es : List Expr} {kk : Nat} {p pos : Pos} (hx : stNs S is es = true) (ha : ∀ B, PE X ast (tE G W B Γ (pur e) e t)) (hn : t.2 = none) (hf : flat t.1 = true) (hi : ∀ i ∈ is, i < Γ.length ∧ i ∉ ro) (hu : unpB ast = true) (hs : noComp ast = true) (io : ∀ j ∈ ro, Γ[j]? = m[j]?) :
    PS X (.Assign [.Tuple es kk p] ast pos) (tS G W ro m rt lp Γ (.unp is e) (some (setS Γ (is.map fun i => (i, t.1))))) := by
  have hsw : swapsWithSole [.Tuple es kk p] ast pos.line X.env = pure false := by show swapsWith ast (some (.Tuple es kk p)) pos.line X.env = pure false; exact noComp_ok hs
  refine PS_imp (ps_asg (r_EB (ro := ro) ha) (r_tg (G := G) xo (g := .tp is) (tg := .Tuple es kk p) hx) hsw (swap_none hu) rfl) ?_
  rintro D σ H ⟨B, env, F, fp, hB, rel, k⟩
  simp only [evS] at k
  refine ⟨B, hB, env, F, fp, rel, k.e (fun j hj => io j (hB ▸ hj)) ?_⟩
  clear k
  intro d env1 v F1 H1 fp1 fv rel1 aft1 o k
  cases d <;> try exact k.elim
  rename_i ds
  cases hsa : setAll env1 is ds with
  | none => simp only [hsa] at k; exact k.elim
  | some env' =>
    simp only [hsa] at k
    have ow := o.ow
    have : fv = [] := flat_fp hf ow
    subst this
    obtain ⟨σ', fp', bd, hQ⟩ := bind_ok (env' := env') (c := .one t.1) (g := .tp is) (ps := is.map fun i => (i, t.1)) rel1 ⟨hf, ow⟩ rfl (fun q hq => by
      obtain ⟨i, hi', rfl⟩ := List.mem_map.mp hq
      rw [hB]; exact hi i hi') (by simp only [bindTg, hsa])
    exact hQ _ (k _ rfl _ _ _ _ bd.rel)
/-! ### a, b = x, y -/
def PV (K : PySem.W.Frag) (F H : Hp) : List Ts → List VC.D → List V → List Addr → Prop
  | [], ds, vs, fo => ds = [] ∧ vs = [] ∧ fo = []
  | t :: ts, ds, vs, fo => ∃ d dr v vr f1 f2, ds = d :: dr ∧ vs = v :: vr ∧ fo = f1 ++ f2 ∧ Ow K F H t.1 d v f1 ∧ PV K F H ts dr vr f2
theorem PV.of {K : PySem.W.Frag} {σ : L2.St} {env1 : Env} {p : Bool} {fp fp1 : Fps} {H F1 H1 : Hp} : ∀ {ts : List Ts} {ds : List VC.D} {vs : List V} {fo : List Addr}, VOks K σ env1 p fp H F1 H1 fp1 ts ds vs fo → (ts.all fun t => t.2.isNone) = true → PV K F1 H1 ts ds vs fo
  | [], _, _, _, h, _ => h
  | t :: ts, _, _, _, h, k => by
    obtain ⟨d, dr, v, vr, f1, f2, rfl, rfl, h1, h2, h3, h4⟩ := h
    simp only [List.all_cons, Bool.and_eq_true, Option.isNone_iff_eq_none] at k
    exact ⟨d, dr, v, vr, f1, f2, rfl, rfl, (h3 k.1).1, h1.ow, PV.of h2 (by simpa using k.2)⟩
theorem PV.keep {K : PySem.W.Frag} {F F' H : Hp} (sF : Sub F F') : ∀ {ts : List Ts} {ds : List VC.D} {vs : List V} {fo : List Addr}, PV K F H ts ds vs fo → (∀ a ∈ fo, F' a = none) → PV K F' H ts ds vs fo
  | [], _, _, _, h, _ => h
  | t :: ts, _, _, _, h, k => by
    obtain ⟨d, dr, v, vr, f1, f2, rfl, rfl, rfl, h1, h2⟩ := h
    exact ⟨d, dr, v, vr, f1, f2, rfl, rfl, rfl, h1.keep sF fun a z => ⟨rfl, k a (List.mem_append_left _ z)⟩, PV.keep sF h2 fun a z => k a (List.mem_append_right _ z)⟩
theorem PV.dom {K : PySem.W.Frag} {F H : Hp} : ∀ {ts : List Ts} {ds : List VC.D} {vs : List V} {fo : List Addr}, PV K F H ts ds vs fo → ∀ a ∈ fo, F a = none
  | [], _, _, _, h, a, z => by obtain ⟨_, _, rfl⟩ := h; simp at z
  | t :: ts, _, _, _, h, a, z => by
    obtain ⟨d, dr, v, vr, f1, f2, rfl, rfl, rfl, h1, h2⟩ := h
    rcases List.mem_append.mp z with y | y
    · exact (h1.dom a y).2
    · exact PV.dom h2 a y
def parOk : List Ts → List Shp → Bool
  | [], [] => true
  | t :: ts, s :: ss => t.2.isNone && cv t.1 s && parOk ts ss
  | _, _ => false
theorem parOk_none : ∀ {ts : List Ts} {ss : List Shp}, parOk ts ss = true → (ts.all fun t => t.2.isNone) = true
  | [], _, _ => rfl
  | t :: ts, [], h => by simp [parOk] at h
  | t :: ts, s :: ss, h => by
    simp only [parOk, Bool.and_eq_true] at h
    simp only [List.all_cons, Bool.and_eq_true]
    exact ⟨h.1.1, parOk_none h.2⟩
def setV (σ : L2.St) : List Nat → List V → L2.St
  | i :: is, v :: vs => setV (σ.set i (some v)) is vs
  | _, _ => σ
theorem par_ok {K : PySem.W.Frag} {H : Hp} : ∀ {ts : List Ts} {is : List Nat} {ss : List Shp} {ds : List VC.D} {vs : List V} {fo : List Addr} {Γ : SEnv} {env env' : Env} {F : Hp} {fp : Fps} {σ : L2.St}, Rel K B Γ env F fp σ H → PV K F H ts ds vs fo → parOk ts ss = true → fo.Nodup → (∀ a ∈ fo, a ∉ fp.flatten ∧ (a ∈ B.fp ∨ B.H a = none)) →
    (∀ i ∈ is, i < Γ.length ∧ i ∉ B.ios) → setAll env is ds = some env' → ∃ F' fp', Rel K B (setS Γ (is.zip ss)) env' F' fp' (setV σ is vs) H
  | [], is, ss, ds, vs, fo, Γ, env, env', F, fp, σ, rel, pv, ok, nd, hfo, hi, h => by
    obtain ⟨rfl, rfl, rfl⟩ := pv
    cases is with
    | cons => simp [setAll] at h
    | nil =>
      simp only [setAll] at h
      cases h
      exact ⟨F, fp, by simpa [setS, setV] using rel⟩
  | t :: ts, is, ss, ds, vs, fo, Γ, env, env', F, fp, σ, rel, pv, ok, nd, hfo, hi, h => by
    obtain ⟨d, dr, v, vr, f1, f2, rfl, rfl, rfl, h1, h2⟩ := pv
    cases ss with
    | nil => simp [parOk] at ok
    | cons s ss =>
    cases is with
    | nil => simp [setAll] at h
    | cons i is =>
    simp only [setAll] at h
    simp only [parOk, Bool.and_eq_true] at ok
    obtain ⟨n1, n2, n3⟩ := List.nodup_append.mp nd
    have c := ok.1.2
    unfold cv at c
    rw [Bool.or_eq_true, Bool.and_eq_true] at c
    have st : ∃ F1 g, Rel K B Γ env F1 fp σ H ∧ Ow K F1 H s d v g ∧ g.Nodup ∧ (∀ a ∈ g, a ∈ f1) ∧ PV K F1 H ts dr vr f2 := by
      rcases c with c | ⟨c1, c2⟩
      · exact ⟨F, f1, rel, Ow.ge0 c h1, n1, fun a z => z, h2⟩
      · have rf := h1.frz rel.sub c2
        refine ⟨addF F H f1, [], rel.freeze fun a z => hfo a (List.mem_append_left _ z), ?_, List.nodup_nil, fun a z => by simp at z, h2.keep (addF_sub rel.sub) fun a z => ?_⟩
        · cases s <;> simp [isF] at c1
          · exact ⟨rfl, Rf.rp _ _ rf⟩
          · exact ⟨rfl, rf⟩
        · rw [addF_out fun q => n3 a q a z rfl]; exact h2.dom a z
    obtain ⟨F1, g, rel1, ow, ng, gf, pv1⟩ := st
    obtain ⟨hi1, hi2⟩ := hi i List.mem_cons_self
    have rel2 := rel1.store hi1 hi2 ow ng (fun a z => (hfo a (List.mem_append_left _ (gf a z))).1) fun a z => (hfo a (List.mem_append_left _ (gf a z))).2
    have fin := par_ok rel2 pv1 ok.2 n2 (fun a z => ⟨fun q => (rel1.store_sub hi1 a q).elim (hfo a (List.mem_append_right _ z)).1 fun y => n3 a (gf a y) a z rfl, (hfo a (List.mem_append_right _ z)).2⟩) (fun j hj => ⟨by rw [List.length_set]; exact (hi j (List.mem_cons_of_mem _ hj)).1, (hi j (List.mem_cons_of_mem _ hj)).2⟩) h
    exact fin
def locB (sc : Scope) (x : Str) : Bool := match sc.names.lookup x with | some .local => true | _ => false
theorem locB_of {sc : Scope} {x : Str} (h : locB sc x = true) : sc.names.lookup x = some .local := by
  unfold locB at h
  split at h
  · assumption
  · cases h
def funB (sc : Scope) : Bool := match sc.kind with | .function => true | _ => false
theorem funB_of {sc : Scope} (h : funB sc = true) : sc.kind = .function := by
  unfold funB at h
  split at h
  · assumption
  · cases h
/-- the stores of a, b = x, y go by the stack -/
def swap2B (S : SC) (x y : Str) (px py : Pos) (vs : List Expr) : Bool := funB S.sc && locB S.sc x && locB S.sc y && decide (px.line = py.line) && decide (x ≠ y) && decide (vs.length = 2) && !(vs.any fun | .Starred .. => true | _ => false) && !(vs.all (foldedForSure 8)) && !(vs.all (constantsAlone 8))
theorem swap2 (xo : XOk G sg W S X) {x y : Str} {px py p : Pos} {k k2 : Nat} {vs : List Expr} {p2 : Pos} (h : swap2B S x y px py vs = true) : swappedStores [.Tuple [.Name x px, .Name y py] k p] (.Tuple vs k2 p2) X.env = pure (some [x, y]) := by
  simp only [swap2B, Bool.and_eq_true, decide_eq_true_eq, Bool.not_eq_true'] at h
  obtain ⟨⟨⟨⟨⟨⟨⟨⟨h1, h2⟩, h3⟩, h4⟩, h5⟩, h6⟩, h7⟩, h8⟩, h9⟩ := h
  have kf : X.env.blockKind = .function := by unfold PySem.Env.blockKind; rw [xo.sc, funB_of h1]; rfl
  have kx : X.env.kindOf x = some .local := by show X.env.scope.names.lookup x = _; rw [xo.sc]; exact locB_of h2
  have ky : X.env.kindOf y = some .local := by show X.env.scope.names.lookup y = _; rw [xo.sc]; exact locB_of h3
  have ne : (y == x) = false := by simpa using fun e : y = x => h5 e.symm
  have ne2 : (x == y) = false := by simpa using h5
  have e1 : ([Expr.Name x px, Expr.Name y py].filterMap fun | .Name id pos => if (X.env.kindOf id == some .local && pos.line == ((([Expr.Name x px, Expr.Name y py].head?.map (·.pos.line)).getD 0))) = true then some id else none | _ => none) = [x, y] := by
    simp [kx, ky, Expr.pos, h4]
  have e2 : [x, y].eraseDups.length = 2 := by
    simp [List.eraseDups_cons, ne, ne2, h5]
  unfold swappedStores
  show (if (!([Expr.Name x px, Expr.Name y py].length == 2 || [Expr.Name x px, Expr.Name y py].length == 3) || vs.length != [Expr.Name x px, Expr.Name y py].length || X.env.blockKind != .function) = true then _ else _) = _
  rw [if_neg (by simp [h6, kf])]
  rw [if_neg (fun q => Bool.noConfusion (q.symm.trans h7))]
  refine Eq.trans (congrArg (fun names : List Str => (if (names.length != [Expr.Name x px, Expr.Name y py].length || names.eraseDups.length != names.length) = true then pure none else if vs.all (foldedForSure 8) = true then pure none else if vs.all (constantsAlone 8) = true then (do let _ ← unsupported (α := PUnit) "assign.tuple-of-constant-expressions:order-of-the-stores"; pure (some names)) else pure (some names) : Sem (Option (List Str)))) e1) ?_
  rw [if_neg (by simp [e2]), if_neg (by rw [h8]; decide), if_neg (by rw [h9]; decide)]
theorem r_par2 (xo : XOk G sg W S X) {i j : Nat} {x y : Str} {px py p p2 pos : Pos} {k k2 : Nat} {a b : Expr} {es : List E} {ts : List Ts} {ss : List Shp} (hx : stB S i x = true) (hy : stB S j y = true) (hij : i ≠ j) (hsw : swap2B S x y px py [a, b] = true) (ha : ∀ B, PA X [a, b] (tEs G W B Γ (purs es) es ts)) (hp : parOk ts ss = true) (hi : ∀ q ∈ [i, j], q < Γ.length ∧ q ∉ ro) (io : ∀ j ∈ ro, Γ[j]? = m[j]?) (hl : ts.length = 2) :
    PS X (.Assign [.Tuple [.Name x px, .Name y py] k p] (.Tuple [a, b] k2 p2) pos) (tS G W ro m rt lp Γ (.par [i, j] ss es) (some (setS Γ ([i, j].zip ss)))) := by
  have sw := swap2 (k := k) (p := p) (k2 := k2) (p2 := p2) xo hsw
  simp only [swap2B, Bool.and_eq_true, decide_eq_true_eq, Bool.not_eq_true'] at hsw
  obtain ⟨⟨⟨⟨⟨⟨⟨⟨h1, h2⟩, h3⟩, h4⟩, h5⟩, h6⟩, h7⟩, h8⟩, h9⟩ := hsw
  simp only [stB, Bool.and_eq_true, decide_eq_true_eq] at hx hy
  refine PS_imp (ps_par xo.calm (by rw [xo.N]; exact xo.nd) (by rw [xo.N]; exact hx.1) (by rw [xo.N]; exact hy.1) hij (by rw [xo.sc]; exact locB_of h2) (by rw [xo.sc]; exact locB_of h3) (r_AB (ro := ro) ha) sw rfl) ?_
  rintro D σ H ⟨B, env, F, fp, hB, rel, k⟩
  simp only [evS] at k
  refine ⟨B, hB, env, F, fp, rel, k.a (fun j hj => io j (hB ▸ hj)) ?_⟩
  clear k
  intro ds env1 vs F1 H1 fp1 fo rel1 aft1 vo k
  obtain ⟨l1, l2⟩ := vo.len
  cases hsa : setAll env1 [i, j] ds with
  | none => simp only [hsa] at k; exact k.elim
  | some env' =>
  simp only [hsa] at k
  have pv := PV.of vo (parOk_none hp)
  obtain ⟨nf, kf⟩ := vo.fo
  obtain ⟨F2, fp2, rel2⟩ := par_ok rel1 pv hp nf (fun a z => ⟨(kf a z).1, rel.pnew (kf a z).2.1⟩) (fun q hq => by rw [hB]; exact hi q hq) hsa
  match vs, l2 with
  | [v, w], _ => exact ⟨v, w, rfl, k _ rfl _ _ _ _ rel2⟩
  | [], l2 => simp [hl] at l2
  | [_], l2 => simp [hl] at l2
  | _ :: _ :: _ :: _, l2 => simp [hl] at l2

/-! ### for -/
theorem bindTg_exc {g : Tg} {d x : VC.D} {env e : Env} : bindTg g d env ≠ .exc x e := by
  cases g with
  | nm i => simp [bindTg]
  | tp is =>
    cases d <;> simp only [bindTg, ne_eq, reduceCtorEq, not_false_eq_true]
    split <;> simp
theorem r_for (xo : XOk G sg W S X) {Gl : SEnv} {g : Tg} {k : ItK} {ies : List E} {body : List VC.S} {iter : Expr} {bs : List Stmt} {pos : Pos} {c : IS} {ps : List (Nat × Shp)} {Γb : Option SEnv} (hI : ∀ B, PI X tg iter (tI G W B Γ (purs ies) true k c ies)) (hG : PG X tg (tgR G.K g)) (hset : noSet iter = true) (hg : tgTy c g = some ps) (hps : ∀ q ∈ ps, q.1 < Gl.length ∧ q.1 ∉ ro)
    (hge : geS Γ Gl = true) (hb : PSs X bs (tSs G W ro m rt (some Gl) (setS Gl ps) body Γb)) (hback : ∀ Γ1, Γb = some Γ1 → geS Γ1 Gl = true) (io : ∀ j ∈ ro, Γ[j]? = m[j]?) :
    PS X (.For tg iter bs [] pos) (tS G W ro m rt lp Γ (.for_ Gl g k ies body) (some Gl)) := by
  refine PS_imp (ps_for xo.po xo.calm (r_IB (ro := ro) hI) hG hb (noSet_ok hset)) ?_
  rintro D σ H ⟨B, env, F0, fp, hB, rel, k0⟩
  simp only [evS] at k0
  refine ⟨B, hB, env, F0, fp, rel, ?_⟩
  cases r : evEs G.C ies env with
  | no => rw [r] at k0; exact k0.elim
  | exc x e' => rw [r] at k0; exact k0 Γ σ (fun j hj => io j (hB ▸ hj))
  | ok q =>
  obtain ⟨ds, env1⟩ := q
  rw [r] at k0
  simp only [R.bind_ok] at k0
  show (match itD k ds with
      | some items => ∀ (L : List Addr) (J : It) (F1 H1 : Hp) (fp1 : Fps), Rel G.K B Γ env1 F1 fp1 σ H1 → Aft (purs ies) env fp F0 H env1 fp1 F1 H1 → (∀ a ∈ L, ∃ o, H1 a = some o) → (true = true → L = []) → (lcOk k items = true → items.length ≤ lim) → IOk G.K L F1 H1 J items c → _
      | none => False)
  cases hitems : itD k ds with
  | none => simp only [hitems] at k0; exact k0
  | some items =>
  simp only [hitems] at k0
  show ∀ (L : List Addr) (J : It) (F1 H1 : Hp) (fp1 : Fps), _
  intro L J F1 H1 fp1 rel1 aft1 hL hnb hlen iok
  have hL0 := hnb rfl
  subst hL0
  obtain ⟨fpg, relg, subg⟩ := rel1.weak hge
  let B' : Bs := B.later F1 H1 fp1.flatten
  have kB : ∀ a ∈ fp1.flatten, a ∈ B.fp ∨ B.H a = none := rel1.new
  have back : ∀ {Γx envx Fx fpx σx Hx}, Rel G.K B' Γx envx Fx fpx σx Hx → Rel G.K B Γx envx Fx fpx σx Hx := fun r => r.back rel1.fr kB
  have relg' : Rel G.K B' Gl env1 F1 fpg σ H1 := relg.now rfl rfl subg
  refine ⟨fun i n σ H => n = items.length - i ∧ i ≤ items.length ∧ ∃ env F fp, Rel G.K B' Gl env F fp σ H ∧ KS G W B m rt lp (some Gl) D (forD (fun d e => (bindTg g d e).bind fun e1 => evSs G.C body e1) (items.drop i) env), ⟨items.length, by simp, Nat.zero_le _, env1, F1, fpg, relg', by simpa using k0⟩, ?_⟩
  rintro i n σ1 Hc ⟨rfl, hi, envc, F, fpc, relc, kc⟩
  have st0 : ∀ a ∈ ([] : List Addr), Hc a = H1 a := fun a z => by simp at z
  have sF : Sub F1 F := relc.fr.fs
  by_cases hlt : i < items.length
  · refine .inr ⟨iok.go i F Hc sF relc.sub st0 hlt, fun σ' H' => ∃ env F fp, Rel G.K B' Gl env F fp σ' H' ∧ KS G W B m rt lp (some Gl) D (forD (fun d e => (bindTg g d e).bind fun e1 => evSs G.C body e1) (items.drop (i + 1)) env), fun σ' H' ⟨env, F, fp, r, k⟩ => ⟨items.length - (i + 1), by omega, rfl, hlt, env, F, fp, r, k⟩, fun x H' hy => ?_⟩
    have hd : items[i]? = some items[i] := by simp [hlt]
    obtain ⟨F', sb', tp', fr', itm⟩ := iok.yld i _ F Hc x H' sF relc.sub st0 relc.tup hd hy
    rw [List.drop_eq_getElem_cons hlt] at kc
    simp only [forD] at kc
    cases hbd : bindTg g items[i] envc with
    | no => rw [hbd] at kc; exact kc.elim
    | exc x e => exact absurd hbd bindTg_exc
    | ok envb =>
    rw [hbd] at kc
    simp only [R.bind_ok] at kc
    have rels := relc.step fr' sb' tp'
    obtain ⟨σ2, fpb, bd, hQ⟩ := bind_ok rels itm hg (fun q hq => by
      show _ ∧ q.1 ∉ B.ios
      rw [hB]; exact hps q hq) hbd
    refine hQ _ ⟨B', envb, F', fpb, hB, bd.rel, ?_⟩
    cases hrb : evSs G.C body envb with
    | no => rw [hrb] at kc; exact kc
    | exc x e =>
      rw [hrb] at kc
      intro Γx σx hio F'' H'' fp'' cls dx r ex
      exact kc Γx σx hio F'' H'' fp'' cls dx (back r) ex
    | ok q =>
    obtain ⟨f, env2⟩ := q
    rw [hrb] at kc
    simp only [R.bind_ok] at kc
    cases f with
    | nx =>
      intro Γn hn σ' F'' H'' fp'' r
      obtain ⟨fpw, rw', _⟩ := r.weak (hback Γn hn)
      exact ⟨env2, F'', fpw, rw', kc⟩
    | ct =>
      intro Γn hn σ' F'' H'' fp'' r
      cases hn
      exact ⟨env2, F'', fp'', r, kc⟩
    | bk =>
      intro Γn hn σ' F'' H'' fp'' r
      cases hn
      exact kc _ rfl σ' F'' H'' fp'' (back r)
    | rt d =>
      intro v F'' H'' fp'' Γx σx fr r hio ow nd nw ap
      exact kc v F'' H'' fp'' Γx σx fr (back r) hio ow nd (fun a z => (nw a z).elim (kB a) fun q => .inr (rel1.gone q)) ap
  · have e : i = items.length := by omega
    subst e
    refine .inl ⟨iok.stop _ F Hc sF relc.sub st0 (Nat.le_refl _), ?_⟩
    rw [List.drop_length] at kc
    simp only [forD] at kc
    exact kc _ rfl σ1 F Hc fpc (back relc)

/-! ### while -/
theorem r_whl (xo : XOk G sg W S X) {Gl : SEnv} {c : E} {body : List VC.S} {cast : Expr} {bs : List Stmt} {pos : Pos} {Γb : Option SEnv} (hc : ∀ B, PT X cast (tTt G W B Gl (pur c) c)) (hge : geS Γ Gl = true) (hb : PSs X bs (tSs G W ro m rt (some Gl) Gl body Γb)) (hback : ∀ Γ1, Γb = some Γ1 → geS Γ1 Gl = true) (io : ∀ j ∈ ro, Gl[j]? = m[j]?) :
    PS X (.While cast bs [] pos) (tS G W ro m rt lp Γ (.whl Gl c body) (some Gl)) := by
  refine PS_imp (ps_while xo.po (r_TB (ro := ro) hc) hb) ?_
  rintro D σ H ⟨B, env, F0, fp, hB, rel, k0⟩
  simp only [evS] at k0
  obtain ⟨fpg, relg, _⟩ := rel.weak hge
  generalize wTurns = n0 at k0
  refine ⟨fun n σ H => ∃ env F fp, Rel G.K B Gl env F fp σ H ∧ KS G W B m rt lp (some Gl) D (whlD (fun e => (evE G.C c e).bind truR) (fun e => evSs G.C body e) n env), ⟨n0, env, F0, fpg, relg, k0⟩, ?_⟩
  rintro n σ1 Hc ⟨envc, F, fpc, relc, kc⟩
  cases n with
  | zero => exact kc.elim
  | succ n =>
  simp only [whlD] at kc
  refine ⟨B, hB, envc, F, fpc, relc, kc.t (fun j hj => io j (hB ▸ hj)) ?_⟩
  clear kc
  intro b env1 F1 H1 fp1 rel1 aft1 kc
  cases b with
  | false =>
    simp only [Bool.false_eq_true, if_false] at kc ⊢
    exact kc _ rfl σ1 F1 H1 fp1 rel1
  | true =>
    simp only [if_true] at kc ⊢
    refine ⟨fun σ' H' => ∃ env F fp, Rel G.K B Gl env F fp σ' H' ∧ KS G W B m rt lp (some Gl) D (whlD (fun e => (evE G.C c e).bind truR) (fun e => evSs G.C body e) n env), fun σ' H' w => ⟨n, by omega, w⟩, B, env1, F1, fp1, hB, rel1, ?_⟩
    cases hrb : evSs G.C body env1 with
    | no => rw [hrb] at kc; exact kc
    | exc x e => rw [hrb] at kc; exact kc
    | ok q =>
    obtain ⟨f, env2⟩ := q
    rw [hrb] at kc
    simp only [R.bind_ok] at kc
    cases f with
    | nx =>
      intro Γn hn σ' F'' H'' fp'' r
      obtain ⟨fpw, rw', _⟩ := r.weak (hback Γn hn)
      exact ⟨env2, F'', fpw, rw', kc⟩
    | ct =>
      intro Γn hn σ' F'' H'' fp'' r
      cases hn
      exact ⟨env2, F'', fp'', r, kc⟩
    | bk =>
      intro Γn hn σ' F'' H'' fp'' r
      cases hn
      exact kc _ rfl σ' F'' H'' fp'' r
    | rt d => exact kc
end
end VC
end

section
set_option Elab.async false
set_option linter.all false
set_option autoImplicit false
set_option maxRecDepth 100000
/-! VC30: dicts. -/
namespace VC
open PySem PySem.Spec L2

section
variable {κ : Type} [DecidableEq κ]
theorem look_ok {R : D → V → List Addr → Prop} : ∀ {kvs : List (κ × V)} {ds : List D}, Ows R ds (kvs.map (·.2)) [] → ∀ k, (∀ d, lookD (kvs.map (·.1)) ds k = some d → ∃ v, valV kvs k = some v ∧ R d v []) ∧ (lookD (kvs.map (·.1)) ds k = none → valV kvs k = none)
  | [], ds, h, k => by
    cases ds with
    | nil => exact ⟨fun d e => by simp [lookD] at e, fun _ => rfl⟩
    | cons d ds => obtain ⟨v, r, f1, f2, e, _⟩ := h; cases e
  | p :: r, ds, h, k => by
    cases ds with
    | nil => obtain ⟨e, _⟩ := h; cases e
    | cons d ds =>
      obtain ⟨v, r', f1, f2, e, ef, h1, h2⟩ := h
      have e : p.2 = v ∧ r.map (·.2) = r' := by simpa using e
      obtain ⟨rfl, rfl⟩ := e
      have hf : f1 = [] ∧ f2 = [] := by simpa using ef.symm
      obtain ⟨rfl, rfl⟩ := hf
      obtain ⟨a, b⟩ := look_ok h2 k
      by_cases hk : p.1 = k
      · refine ⟨fun d' e => ?_, fun e => ?_⟩
        · simp only [List.map_cons, lookD, hk, if_true, Option.some.injEq] at e
          subst e
          exact ⟨p.2, valV_pos hk, h1⟩
        · simp only [List.map_cons, lookD, hk, if_true, reduceCtorEq] at e
      · refine ⟨fun d' e => ?_, fun e => ?_⟩
        · simp only [List.map_cons, lookD, hk, if_false] at e
          rw [valV_neg hk]; exact a d' e
        · simp only [List.map_cons, lookD, hk, if_false] at e
          rw [valV_neg hk]; exact b e
theorem putK_keys (k : κ) (v : V) (kvs : List (κ × V)) : (putK kvs k v).map (·.1) = putKs (kvs.map (·.1)) k := by
  have hany : ((kvs.any fun kv => decide (kv.1 = k)) = true) ↔ k ∈ kvs.map (·.1) := by
    rw [List.any_eq_true]
    constructor
    · rintro ⟨p, hp, e⟩; exact List.mem_map.mpr ⟨p, hp, by simpa using e⟩
    · intro h; obtain ⟨p, hp, e⟩ := List.mem_map.mp h; exact ⟨p, hp, by simpa using e⟩
  unfold putK putKs
  by_cases h : k ∈ kvs.map (·.1)
  · rw [if_pos (hany.mpr h), if_pos h, List.map_map]
    apply List.map_congr_left
    intro p _
    show (if p.1 = k then (p.1, v) else p).1 = p.1
    split <;> rfl
  · rw [if_neg (fun z => h (hany.mp z)), if_neg h, List.map_append]; rfl
theorem putKs_nd {ks : List κ} {k : κ} (h : ks.Nodup) : (putKs ks k).Nodup := by
  unfold putKs
  split
  · exact h
  · rename_i q
    exact List.nodup_append.mpr ⟨h, by simp, fun a ha b hb e => by
      have : b = k := by simpa using hb
      subst this; subst e; exact q ha⟩
theorem putKs_len {ks : List κ} {k : κ} {n : Nat} (h : ks.length < n) : (putKs ks k).length ≤ n := by
  unfold putKs
  split
  · omega
  · rw [List.length_append]; simp; omega
theorem map_same {k : κ} {v : V} : ∀ {kvs : List (κ × V)}, k ∉ kvs.map (·.1) → kvs.map (fun kv => if kv.1 = k then (kv.1, v) else kv) = kvs
  | [], _ => rfl
  | p :: r, h => by
    simp only [List.map_cons, List.mem_cons, not_or] at h
    rw [List.map_cons, if_neg (fun e => h.1 e.symm), map_same h.2]
/-- what is put into a dict -/
theorem put_ok {R : D → V → List Addr → Prop} {v : V} {d : D} {g : List Addr} {k : κ} (ng : g.Nodup) (hd : R d v g) : ∀ {kvs : List (κ × V)} {ds : List D} {fp : List Addr}, (kvs.map (·.1)).Nodup → Ows R ds (kvs.map (·.2)) fp → fp.Nodup → (∀ a ∈ g, a ∉ fp) →
    ∃ fp', Ows R (putDs (kvs.map (·.1)) ds k d) ((putK kvs k v).map (·.2)) fp' ∧ fp'.Nodup ∧ ∀ a ∈ fp', a ∈ fp ∨ a ∈ g
  | [], ds, fp, _, h, nf, ap => by
    cases ds with
    | nil =>
      obtain ⟨_, rfl⟩ := h
      exact ⟨g, ⟨v, [], g, [], rfl, by simp, hd, rfl, rfl⟩, ng, fun a z => .inr z⟩
    | cons d ds => obtain ⟨v, r, f1, f2, e, _⟩ := h; cases e
  | p :: r, ds, fp, nd, h, nf, ap => by
    cases ds with
    | nil => obtain ⟨e, _⟩ := h; cases e
    | cons d0 ds =>
      obtain ⟨v0, r', f1, f2, e, rfl, h1, h2⟩ := h
      have e : p.2 = v0 ∧ r.map (·.2) = r' := by simpa using e
      obtain ⟨rfl, rfl⟩ := e
      simp only [List.map_cons] at nd
      obtain ⟨n1, n2⟩ := List.nodup_cons.mp nd
      obtain ⟨m1, m2, m3⟩ := List.nodup_append.mp nf
      by_cases hk : p.1 = k
      · have e2 : putK (p :: r) k v = (p.1, v) :: r := by
          unfold putK
          rw [if_pos (by simp [hk]), List.map_cons, if_pos hk, map_same (by rw [← hk]; exact n1)]
        rw [e2]
        refine ⟨g ++ f2, ?_, List.nodup_append.mpr ⟨ng, m2, fun a ha b hb q => ap a ha (List.mem_append_right _ (by rw [q]; exact hb))⟩, fun a z => ?_⟩
        · simp only [List.map_cons, putDs, hk, if_true]
          exact ⟨v, _, g, f2, rfl, rfl, hd, h2⟩
        · rcases List.mem_append.mp z with z | z
          · exact .inr z
          · exact .inl (List.mem_append_right _ z)
      · have e2 : putK (p :: r) k v = p :: putK r k v := by
          unfold putK
          rw [List.any_cons, show decide (p.1 = k) = false by simpa using hk, Bool.false_or]
          split
          · rw [List.map_cons, if_neg hk]
          · rfl
        obtain ⟨fp', a1, a2, a3⟩ := put_ok ng hd n2 h2 m2 fun a ha => fun z => ap a ha (List.mem_append_right _ z)
        rw [e2]
        refine ⟨f1 ++ fp', ?_, List.nodup_append.mpr ⟨m1, a2, fun a ha b hb q => ?_⟩, fun a z => ?_⟩
        · simp only [List.map_cons, putDs, hk, if_false]
          exact ⟨p.2, _, f1, fp', rfl, rfl, h1, a1⟩
        · subst q
          rcases a3 a hb with z | z
          · exact m3 a ha a z rfl
          · exact ap a z (List.mem_append_left _ ha)
        · rcases List.mem_append.mp z with z | z
          · exact .inl (List.mem_append_left _ z)
          · rcases a3 a z with z | z
            · exact .inl (List.mem_append_right _ z)
            · exact .inr z
end
theorem mem_dK {K : PySem.W.Frag} {F H : Hp} (sF : Sub F H) {s a : Shp} {ks : List Key} {ds : List D} {v : V} {f : List Addr} (o : Ow K F H s (.dK ks ds) v f) (h : csh s = some a) :
    ∃ l kvs, v = .ref l ∧ H l = some (.dK kvs) ∧ kvs.map (·.1) = ks ∧ Ows (Ow K F H a) ds (kvs.map (·.2)) [] ∧ flat a = true := by
  cases s <;> simp [csh] at h
  · subst h
    simp only [Ow, Rp] at o
    obtain ⟨rfl, l, kvs, rfl, h1, h2, h3, h4, h5⟩ := o
    exact ⟨l, kvs, rfl, sF _ _ h1, h2, ows_Q h5, rfl⟩
  · simp [Ow, imm] at o
  · subst h
    simp only [Ow, Rf] at o
    obtain ⟨rfl, l, kvs, rfl, h1, h2, h3, h4, h5⟩ := o
    exact ⟨l, kvs, rfl, sF _ _ h1, h2, ows_F h5, rfl⟩
  · obtain ⟨hf, rfl⟩ := h
    simp only [Ow] at o
    obtain ⟨_, _, _, _, e, _⟩ := o
    cases e
  · obtain ⟨hf, rfl⟩ := h
    simp only [Ow] at o
    obtain ⟨l, kvs, ks', ds', fps, e, rfl, h1, h2, h3, h4, h5, h6, rfl⟩ := o
    cases e
    have e := flats_fp hf h6
    subst e
    exact ⟨l, kvs, rfl, h1, h3, h6, hf⟩
  · obtain ⟨hf, rfl⟩ := h
    simp only [Ow] at o
    obtain ⟨_, _, _, _, _, e, _⟩ := o
    cases e
theorem mem_dT {K : PySem.W.Frag} {F H : Hp} (sF : Sub F H) {s a : Shp} {ks : List (List Key)} {ds : List D} {v : V} {f : List Addr} (o : Ow K F H s (.dT ks ds) v f) (h : csh s = some a) :
    ∃ l kvs, v = .ref l ∧ H l = some (.dT kvs) ∧ kvs.map (·.1) = ks ∧ Ows (Ow K F H a) ds (kvs.map (·.2)) [] ∧ flat a = true := by
  cases s <;> simp [csh] at h
  · subst h
    simp only [Ow, Rp] at o
    obtain ⟨rfl, l, kvs, rfl, h1, h2, h3, h4, h5⟩ := o
    exact ⟨l, kvs, rfl, sF _ _ h1, h2, ows_Q h5, rfl⟩
  · simp [Ow, imm] at o
  · subst h
    simp only [Ow, Rf] at o
    obtain ⟨rfl, l, kvs, rfl, h1, h2, h3, h4, h5⟩ := o
    exact ⟨l, kvs, rfl, sF _ _ h1, h2, ows_F h5, rfl⟩
  · obtain ⟨hf, rfl⟩ := h
    simp only [Ow] at o
    obtain ⟨_, _, _, _, e, _⟩ := o
    cases e
  · obtain ⟨hf, rfl⟩ := h
    simp only [Ow] at o
    obtain ⟨_, _, _, _, _, e, _⟩ := o
    cases e
  · obtain ⟨hf, rfl⟩ := h
    simp only [Ow] at o
    obtain ⟨l, kvs, ks', ds', fps, e, rfl, h1, h2, h3, h4, h5, h6, rfl⟩ := o
    cases e
    have e := flats_fp hf h6
    subst e
    exact ⟨l, kvs, rfl, h1, h3, h6, hf⟩
theorem rfs_keys {F : Hp} : ∀ {xs : List D} {ks : List Key} {vs : List V}, keysD xs = some ks → Rfs F xs vs → vs = ks.map kV
  | [], ks, vs, e, h => by
    simp only [keysD, Option.some.injEq] at e
    subst e
    exact h
  | d :: xs, ks, vs, e, h => by
    simp only [keysD] at e
    split at e
    case h_2 => cases e
    rename_i k kr h1 h2
    cases e
    obtain ⟨v, r, rfl, q1, q2⟩ := h
    rw [rfs_keys h2 q2]
    cases d <;> simp only [keyD, reduceCtorEq, Option.some.injEq] at h1 <;> subst h1
    · rw [show v = .int _ from q1]; rfl
    · rw [show v = .str _ from q1.1]; rfl
section
variable {G : Gd} {sg : List Sig} {W : WX} {S : SC} {X : Cx} {B : Bs} {Γ : SEnv} {tc : TC}
/-- an empty dict -/
theorem r_dnew {tk : Bool} {s : Shp} {pos : Pos} : PE X (.Dict [] [] pos) (tE G W B Γ (pur (.dnew tk s)) (.dnew tk s) ((if tk = true then .T s else .K s), none)) := by
  cases tk
  · refine PE_imp pe_dnewK ?_
    rintro σ H Q ⟨env, F, fp, rel, k⟩
    simp only [evE] at k
    intro q n
    have rel3 := rel.push (o := .dK []) n (fun xs e => by cases e)
    refine k (.ref q) _ _ fp [q] rel3 (Aft.refl.push n) ⟨⟨q, [], [], [], [], rfl, rfl, upd_same, rel.notF n, rfl, List.nodup_nil, Nat.zero_le _, ⟨rfl, rfl⟩, rfl⟩, by simp, fun _ a z => ?_, fun i e => by cases e⟩
    have : a = q := by simpa using z
    subst this
    exact ⟨rel.notin n, .inr n⟩
  · refine PE_imp pe_dnewT ?_
    rintro σ H Q ⟨env, F, fp, rel, k⟩
    simp only [evE] at k
    intro q n
    have rel3 := rel.push (o := .dT []) n (fun xs e => by cases e)
    refine k (.ref q) _ _ fp [q] rel3 (Aft.refl.push n) ⟨⟨q, [], [], [], [], rfl, rfl, upd_same, rel.notF n, rfl, List.nodup_nil, Nat.zero_le _, ⟨rfl, rfl⟩, rfl⟩, by simp, fun _ a z => ?_, fun i e => by cases e⟩
    have : a = q := by simpa using z
    subst this
    exact ⟨rel.notin n, .inr n⟩
theorem ow_key {K : PySem.W.Frag} {F H : Hp} {s : Shp} {d : D} {v : V} {f : List Addr} {k : Key} (h : ge0 s .F = true) (o : Ow K F H s d v f) (e : keyD d = some k) : v = kV k := by
  have rf : Rf F d v := by cases s <;> simp [ge0] at h <;> first | exact o.2.2 | exact o.2
  cases d <;> simp only [keyD, reduceCtorEq, Option.some.injEq] at e <;> subst e
  · exact rf
  · exact rf.1
theorem ow_keys {K : PySem.W.Frag} {F H : Hp} (sF : Sub F H) {s : Shp} {xs : List D} {v : V} {f : List Addr} {ks : List Key} (h : ge0 s .F = true) (o : Ow K F H s (.tup xs) v f) (e : keysD xs = some ks) : ∃ b, v = .ref b ∧ H b = some (.tup (ks.map kV)) := by
  have rf : Rf F (.tup xs) v := by cases s <;> simp [ge0] at h <;> first | exact o.2.2 | exact o.2
  obtain ⟨b, vs, rfl, h1, _, h2⟩ := rf
  rw [rfs_keys e h2] at h1
  exact ⟨b, rfl, sF _ _ h1⟩
theorem r_dget2 (xo : XOk G sg W S X) {ea eb ec : E} {ta tb tcc : Ts} {a b c : Expr} {u w : Shp} {apos cpos : Pos} (ha : PE X a (tE G W B Γ (pur ea) ea ta)) (hb : PE X b (tE G W B Γ (pur eb) eb tb)) (hcc : PE X c (tE G W B Γ (pur ec) ec tcc)) (hc : (ta.2.isNone || (pur eb && pur ec)) = true) (hb2 : tb.2 = none) (hc2 : tcc.2 = none)
    (hk : ge0 tb.1 .F = true) (hg2 : ge0 tcc.1 u = true) (hu : flat u = true) (hw : csh ta.1 = some w) (hg : ge0 w u = true) (hnc : notCall a = true) (hl : (apos.endLine == cpos.line) = true) (hs : starEach [b, c] X.env = [(false, eval b X.env), (false, eval c X.env)]) :
    PE X (.Call (.Attribute a "get" apos) [b, c] [] cpos) (tE G W B Γ (pur (.dget2 u ea eb ec)) (.dget2 u ea eb ec) (u, none)) := by
  have hun : X.A.units + 1 < cLine := by have := xo.hu; omega
  have m : L2.M2 X a "get" apos b c cpos := ⟨attrBase hnc, by simp [backTo, hs, backToKw, keywordEach], hl, by simp [backTo, hs]⟩
  refine PE_imp (pe_dget2 hun ha hb hcc m) ?_
  rintro σ H Q ⟨env, F, fp, rel, k⟩
  have hp1 : ta.2 ≠ none → pur eb = true ∧ pur ec = true := fun z => by
    rw [Bool.or_eq_true, Option.isNone_iff_eq_none, Bool.and_eq_true] at hc
    exact hc.resolve_left z
  have pp : pur (.dget2 u ea eb ec) = true → (pur ea = true ∧ pur eb = true) ∧ pur ec = true := fun z => by simpa [pur] using z
  have fl : ∀ {s : Shp} {d : D} {v : V} {F H : Hp}, ge0 s u = true → Ow G.K F H s d v [] → Ow G.K F H u d v [] := fun g o => Ow.ge0 g o
  simp only [evE] at k
  refine oneO (p := pur ea) (k := fun d env1 => match d with
    | .dK _ _ => (evE G.C eb env1).bind fun (j, env2) => (evE G.C ec env2).bind fun (z, env3) => ofO ((dgetD d j).map fun o => o.getD z) env3
    | .dT _ _ => (evE G.C eb env1).bind fun (j, env2) => (evE G.C ec env2).bind fun (z, env3) => ofO ((dgetD d j).map fun o => o.getD z) env3
    | _ => .no) oc_KE rel k id ?_
  intro d1 env1 v1 F1 H1 fp1 f1 rel1 aft1 _ o1 _ k1
  have fin : (∃ l, v1 = .ref l ∧ IsD H1 l) → KE G W B Γ σ (u, none) (pur (.dget2 u ea eb ec)) env F H fp ((evE G.C eb env1).bind fun (j, env2) => (evE G.C ec env2).bind fun (z, env3) => ofO ((dgetD d1 j).map fun o => o.getD z) env3) Q →
      (∀ (j : D) (o : Option D) (v2 : V) (f2 : List Addr) (F3 H3 : Hp) (f1 : List Addr), Sub F3 H3 → dgetD d1 j = some o → Ow G.K F3 H3 ta.1 d1 v1 f1 → Ow G.K F3 H3 tb.1 j v2 f2 → ∃ a ov, v1 = .ref a ∧ DGet H3 a v2 ov ∧ (∀ d, o = some d → ∃ v, ov = some v ∧ Ow G.K F3 H3 w d v []) ∧ (o = none → ov = none)) →
      ∃ a, v1 = .ref a ∧ IsD H1 a ∧ tE G W B Γ (pur eb) eb tb σ H1 (fun y H2 => tE G W B Γ (pur ec) ec tcc σ H2 fun z H3 => ∃ o, DGet H3 a y o ∧ Q (o.getD z) H3) := by
    rintro ⟨l, rfl, hi⟩ k1 look
    refine ⟨l, rfl, hi, ?_⟩
    refine oneO (p := pur eb) (k := fun j env2 => (evE G.C ec env2).bind fun (z, env3) => ofO ((dgetD d1 j).map fun o => o.getD z) env3) oc_KE rel1 k1 id ?_
    intro j env2 v2 F2 H2 fp2 f2 rel2 aft2 _ o2 _ k2
    refine oneO (p := pur ec) (k := fun z env3 => ofO ((dgetD d1 j).map fun o => o.getD z) env3) oc_KE rel2 k2 id ?_
    intro z env3 v3 F3 H3 fp3 f3 rel3 aft3 _ o3 _ k3
    cases hd : dgetD d1 j with
    | none => rw [hd] at k3; exact k3.elim
    | some o =>
      rw [hd] at k3
      have o1' := (o1.stay aft2 fun z => (hp1 z).1).stay aft3 fun z => (hp1 z).2
      have o2' := o2.stay aft3 fun z => absurd hb2 z
      obtain ⟨a, ov, ea', g, gs, gn⟩ := look j o v2 _ F3 H3 _ rel3.sub hd o1'.ow o2'.ow
      cases ea'
      have aftz : Aft (pur (.dget2 u ea eb ec)) env fp F H env3 fp3 F3 H3 := ((aft1.trans aft2).trans aft3).weak fun z => by simp [pp z]
      refine ⟨ov, g, ?_⟩
      cases o with
      | none =>
        rw [gn rfl]
        have e := flat_fp hu (Ow.ge0 hg2 o3.ow)
        have ow3 := Ow.ge0 hg2 o3.ow
        rw [e] at ow3
        exact k3 v3 F3 H3 fp3 [] rel3 aftz (VOk.flat0 ow3)
      | some d =>
        obtain ⟨v, rfl, ov⟩ := gs d rfl
        exact k3 v F3 H3 fp3 [] rel3 aftz (VOk.flat0 (fl hg ov))
  cases d1 with
  | dK ks ds =>
    refine fin ?_ k1 ?_
    · obtain ⟨l, kvs, rfl, h1, _⟩ := mem_dK rel1.sub o1.ow hw
      exact ⟨l, rfl, .inl ⟨kvs, .inl h1⟩⟩
    · intro j o v2 f2 F3 H3 f1 sF hd o1 o2
      obtain ⟨l, kvs, rfl, h1, rfl, h3, _⟩ := mem_dK sF o1 hw
      simp only [dgetD, Option.map_eq_some_iff] at hd
      obtain ⟨k, hk', rfl⟩ := hd
      obtain ⟨a, b⟩ := look_ok h3 k
      rw [ow_key hk o2 hk']
      exact ⟨l, _, rfl, .k h1, a, b⟩
  | dT ks ds =>
    refine fin ?_ k1 ?_
    · obtain ⟨l, kvs, rfl, h1, _⟩ := mem_dT rel1.sub o1.ow hw
      exact ⟨l, rfl, .inr ⟨kvs, .inl h1⟩⟩
    · intro j o v2 f2 F3 H3 f1 sF hd o1 o2
      obtain ⟨l, kvs, rfl, h1, rfl, h3, _⟩ := mem_dT sF o1 hw
      cases j <;> simp only [dgetD, reduceCtorEq, Option.map_eq_some_iff] at hd
      obtain ⟨k, hk', rfl⟩ := hd
      obtain ⟨a, b⟩ := look_ok h3 k
      obtain ⟨b', rfl, hb'⟩ := ow_keys sF hk o2 hk'
      exact ⟨l, _, rfl, .t h1 hb', a, b⟩
  | _ => exact k1.elim
end
end VC
end

section
set_option Elab.async false
set_option linter.all false
set_option autoImplicit false
set_option maxRecDepth 100000
/-! VC31: a dict's places. -/
namespace VC
open PySem PySem.Spec L2
section
variable {G : Gd} {sg : List Sig} {W Wb : WX} {S : SC} {X : Cx} {B : Bs} {Γ : SEnv} {tc : TC} {tg : Expr} {ro : List Nat} {m : List Shp} {rt : Shp} {lp : Option SEnv} {Γ' : Option SEnv} {D : Ends}
/-- x[k] = e, x a dict (K) -/
theorem r_setDK (xo : XOk G sg W S X) {i : Nat} {s : Shp} {x : Str} {ek e : E} {t tk : Ts} {ast kast : Expr} {p p2 pos : Pos} (hx : visB S i x = true) (hΓ : Γ[i]? = some (.K s)) (ha : ∀ B, PE X ast (tE G W B Γ (pur e) e t)) (hn : t.2 = none) (hc : cv t.1 s = true)
    (hk : ∀ B, PE X kast (tE G W B Γ (pur ek) ek tk)) (hp : pur ek = true) (hkr : ge0 tk.1 .F = true) (hs : noComp ast = true) (io : ∀ j ∈ ro, Γ[j]? = m[j]?) : PS X (.Assign [.Subscript (.Name x p) kast p2] ast pos) (tS G W ro m rt lp Γ (.set i ek e) (some Γ)) := by
  have hx' := hx
  unfold visB at hx
  simp only [Bool.and_eq_true, decide_eq_true_eq, Bool.not_eq_true'] at hx
  obtain ⟨⟨g1, g2⟩, g3⟩ := hx
  obtain ⟨o1, o2, o3⟩ := odd_of g3
  have hun : X.A.units + 1 < cLine := by have := xo.hu; omega
  have hsw : swapsWith ast (some (.Subscript (.Name x p) kast p2)) pos.line X.env = pure false := noComp_ok hs
  refine PS_imp (ps_dput hun (pe_var (i := i) (by rw [xo.N]; exact g1) (by rw [xo.sc]; exact vis_of g2) o1 o2) (r_EB (ro := ro) hk) (r_EB (ro := ro) ha) hsw) ?_
  rintro D σ H ⟨B, env, F, fp, hB, rel, k⟩
  simp only [evS] at k
  refine ⟨B, hB, env, F, fp, rel, k.e (fun j hj => io j (hB ▸ hj)) ?_⟩
  intro d env1 v F1 H1 fp1 fv rel1 aft1 o k
  simp only [R.bind_ok] at k
  obtain ⟨F2, g', rel2, ow, ng, ap, nw, sb⟩ := take1 rel rel1 aft1 o hn hc
  have slot : ∀ {d0 : VC.D}, env1[i]? = some (some d0) → ∃ ks ds, d0 = .dK ks ds := fun {d0} e => by
    obtain ⟨_, _, _, _, owl⟩ := rel2.e.get hΓ (by simp) e
    simp only [Ow] at owl
    obtain ⟨_, _, ks, ds, _, hd, _⟩ := owl
    exact ⟨ks, ds, hd⟩
  split at k
  case h_4 => exact k.elim
  case h_1 => rename_i hd0; obtain ⟨_, _, e⟩ := slot hd0; cases e
  case h_3 => rename_i hd0; obtain ⟨_, _, e⟩ := slot hd0; cases e
  rename_i ks0 ds0 hd0
  obtain ⟨lv, f, e1, e2, owl⟩ := rel2.e.get hΓ (by simp) hd0
  refine ⟨lv, e1, B, hB, env1, F2, fp1, rel2, k.e (p := pur ek) (fun j hj => io j (hB ▸ hj)) ?_⟩
  clear k
  intro dk env2 vk F3 H3 fp3 fk rel3 aft3 ok k
  rw [hp] at aft3
  obtain ⟨rfl, rfl⟩ := aft3.same rfl
  have fr3 : Fr [] F2 H1 F3 H3 := by simpa [PP] using aft3.fr
  have ow3 := Ow.step fr3 ow
  have owl3 := Ow.step fr3 owl
  simp only [Ow] at owl3
  obtain ⟨l, kvs, ks1, ds1, fps, hds, rfl, hl, hF, hks, hnd, hln, hos, rfl⟩ := owl3
  cases hds
  simp only [setIx, hd0] at k
  cases hkd : keyD dk with
  | none => simp only [hkd, R.bind_no] at k; exact k.elim
  | some kk =>
  simp only [hkd] at k
  have ek := ow_key hkr ok.ow hkd
  subst ek
  split at k
  case isFalse => simp only [R.bind_no] at k; exact k.elim
  rename_i hlt
  simp only [R.bind_ok] at k
  subst hks
  have hlt' : kvs.length < lim := by rw [List.length_map] at hlt; exact hlt
  have ndf := nd_at rel3.nd e2
  obtain ⟨lf, ndfps⟩ := List.nodup_cons.mp ndf
  have lin : l ∈ fp3.flatten := mem_at e2 List.mem_cons_self
  have lg : l ∉ g' := fun z => ap l z lin
  obtain ⟨fp', os', nd', from'⟩ := put_ok (k := kk) ng ow3 hnd hos ndfps fun a z q => ap a z (mem_at e2 (List.mem_cons_of_mem _ q))
  have lfp' : l ∉ fp' := fun z => (from' l z).elim lf lg
  refine ⟨l, upd H3 l (.dK (putK kvs kk v)), rfl, DPut.k hl (by rw [← lim_eq]; exact hlt'), ?_⟩
  have os2 : Ows (Ow G.K F3 (upd H3 l (.dK (putK kvs kk v))) s) (putDs (kvs.map (·.1)) ds0 kk d) ((putK kvs kk v).map (·.2)) fp' := Ows.keep (Sub.refl _) os' fun a z => ⟨upd_ne fun e => lfp' (by rw [← e]; exact z), (Ows.dom os' a z).2⟩
  have rel4 := rel3.write (t := .K s) (d := .dK (putKs (kvs.map (·.1)) kk) (putDs (kvs.map (·.1)) ds0 kk d)) (gv := l :: fp') (o := .dK (putK kvs kk v)) e2 List.mem_cons_self (fun xs e => by cases e) e1 ⟨l, _, _, _, fp', rfl, rfl, upd_same, hF, putK_keys kk v kvs, putKs_nd hnd, putKs_len hlt, os2, rfl⟩ (List.nodup_cons.mpr ⟨lfp', nd'⟩) (fun a z q => by
    rcases List.mem_cons.mp z with rfl | z
    · exact List.mem_cons_self
    · rcases from' a z with y | y
      · exact List.mem_cons_of_mem _ y
      · exact absurd q (ap a y)) (fun a z => by
    rcases List.mem_cons.mp z with rfl | z
    · exact rel3.new a lin
    · rcases from' a z with y | y
      · exact rel3.new a (mem_at e2 (List.mem_cons_of_mem _ y))
      · exact nw a y)
  rw [set_self hΓ] at rel4
  exact k _ rfl _ _ _ _ rel4
/-- x[k] = e, x a dict (T) -/
theorem r_setDT (xo : XOk G sg W S X) {i : Nat} {s : Shp} {x : Str} {ek e : E} {t tk : Ts} {ast kast : Expr} {p p2 pos : Pos} (hx : visB S i x = true) (hΓ : Γ[i]? = some (.T s)) (ha : ∀ B, PE X ast (tE G W B Γ (pur e) e t)) (hn : t.2 = none) (hc : cv t.1 s = true)
    (hk : ∀ B, PE X kast (tE G W B Γ (pur ek) ek tk)) (hp : pur ek = true) (hkr : ge0 tk.1 .F = true) (hs : noComp ast = true) (io : ∀ j ∈ ro, Γ[j]? = m[j]?) : PS X (.Assign [.Subscript (.Name x p) kast p2] ast pos) (tS G W ro m rt lp Γ (.set i ek e) (some Γ)) := by
  have hx' := hx
  unfold visB at hx
  simp only [Bool.and_eq_true, decide_eq_true_eq, Bool.not_eq_true'] at hx
  obtain ⟨⟨g1, g2⟩, g3⟩ := hx
  obtain ⟨o1, o2, o3⟩ := odd_of g3
  have hun : X.A.units + 1 < cLine := by have := xo.hu; omega
  have hsw : swapsWith ast (some (.Subscript (.Name x p) kast p2)) pos.line X.env = pure false := noComp_ok hs
  refine PS_imp (ps_dput hun (pe_var (i := i) (by rw [xo.N]; exact g1) (by rw [xo.sc]; exact vis_of g2) o1 o2) (r_EB (ro := ro) hk) (r_EB (ro := ro) ha) hsw) ?_
  rintro D σ H ⟨B, env, F, fp, hB, rel, k⟩
  simp only [evS] at k
  refine ⟨B, hB, env, F, fp, rel, k.e (fun j hj => io j (hB ▸ hj)) ?_⟩
  intro d env1 v F1 H1 fp1 fv rel1 aft1 o k
  simp only [R.bind_ok] at k
  obtain ⟨F2, g', rel2, ow, ng, ap, nw, sb⟩ := take1 rel rel1 aft1 o hn hc
  have slot : ∀ {d0 : VC.D}, env1[i]? = some (some d0) → ∃ ks ds, d0 = .dT ks ds := fun {d0} e => by
    obtain ⟨_, _, _, _, owl⟩ := rel2.e.get hΓ (by simp) e
    simp only [Ow] at owl
    obtain ⟨_, _, ks, ds, _, hd, _⟩ := owl
    exact ⟨ks, ds, hd⟩
  split at k
  case h_4 => exact k.elim
  case h_1 => rename_i hd0; obtain ⟨_, _, e⟩ := slot hd0; cases e
  case h_2 => rename_i hd0; obtain ⟨_, _, e⟩ := slot hd0; cases e
  rename_i ks0 ds0 hd0
  obtain ⟨lv, f, e1, e2, owl⟩ := rel2.e.get hΓ (by simp) hd0
  refine ⟨lv, e1, B, hB, env1, F2, fp1, rel2, k.e (p := pur ek) (fun j hj => io j (hB ▸ hj)) ?_⟩
  clear k
  intro dk env2 vk F3 H3 fp3 fk rel3 aft3 ok k
  rw [hp] at aft3
  obtain ⟨rfl, rfl⟩ := aft3.same rfl
  have fr3 : Fr [] F2 H1 F3 H3 := by simpa [PP] using aft3.fr
  have ow3 := Ow.step fr3 ow
  have owl3 := Ow.step fr3 owl
  simp only [Ow] at owl3
  obtain ⟨l, kvs, ks1, ds1, fps, hds, rfl, hl, hF, hks, hnd, hln, hos, rfl⟩ := owl3
  cases hds
  simp only [setIx, hd0] at k
  cases dk <;> simp only [R.bind_no] at k <;> try exact k.elim
  rename_i xs
  cases hkd : keysD xs with
  | none => simp only [hkd, R.bind_no] at k; exact k.elim
  | some kk =>
  simp only [hkd] at k
  obtain ⟨kb, rfl, hkb⟩ := ow_keys rel3.sub hkr ok.ow hkd
  split at k
  case isFalse => simp only [R.bind_no] at k; exact k.elim
  rename_i hlt
  simp only [R.bind_ok] at k
  subst hks
  have hlt' : kvs.length < lim := by rw [List.length_map] at hlt; exact hlt
  have ndf := nd_at rel3.nd e2
  obtain ⟨lf, ndfps⟩ := List.nodup_cons.mp ndf
  have lin : l ∈ fp3.flatten := mem_at e2 List.mem_cons_self
  have lg : l ∉ g' := fun z => ap l z lin
  obtain ⟨fp', os', nd', from'⟩ := put_ok (k := kk) ng ow3 hnd hos ndfps fun a z q => ap a z (mem_at e2 (List.mem_cons_of_mem _ q))
  have lfp' : l ∉ fp' := fun z => (from' l z).elim lf lg
  refine ⟨l, upd H3 l (.dT (putK kvs kk v)), rfl, DPut.t hl hkb (by rw [← lim_eq]; exact hlt'), ?_⟩
  have os2 : Ows (Ow G.K F3 (upd H3 l (.dT (putK kvs kk v))) s) (putDs (kvs.map (·.1)) ds0 kk d) ((putK kvs kk v).map (·.2)) fp' := Ows.keep (Sub.refl _) os' fun a z => ⟨upd_ne fun e => lfp' (by rw [← e]; exact z), (Ows.dom os' a z).2⟩
  have rel4 := rel3.write (t := .T s) (d := .dT (putKs (kvs.map (·.1)) kk) (putDs (kvs.map (·.1)) ds0 kk d)) (gv := l :: fp') (o := .dT (putK kvs kk v)) e2 List.mem_cons_self (fun xs e => by cases e) e1 ⟨l, _, _, _, fp', rfl, rfl, upd_same, hF, putK_keys kk v kvs, putKs_nd hnd, putKs_len hlt, os2, rfl⟩ (List.nodup_cons.mpr ⟨lfp', nd'⟩) (fun a z q => by
    rcases List.mem_cons.mp z with rfl | z
    · exact List.mem_cons_self
    · rcases from' a z with y | y
      · exact List.mem_cons_of_mem _ y
      · exact absurd q (ap a y)) (fun a z => by
    rcases List.mem_cons.mp z with rfl | z
    · exact rel3.new a lin
    · rcases from' a z with y | y
      · exact rel3.new a (mem_at e2 (List.mem_cons_of_mem _ y))
      · exact nw a y)
  rw [set_self hΓ] at rel4
  exact k _ rfl _ _ _ _ rel4
end
end VC
end

section
set_option Elab.async false
set_option linter.all false
set_option autoImplicit false
set_option maxRecDepth 100000
/-! VC32: comprehensions with two clauses. -/
namespace VC
open PySem PySem.Spec L2

section
variable {G : Gd} {sg : List Sig} {W Wb : WX} {S : SC} {X : Cx} {B : Bs} {Γ : SEnv} {tc : TC} {tg : Expr}
def tIx (G : Gd) (W : WX) (Γ : SEnv) (nb : Bool) (k : ItK) (c : IS) (ies : List E) : TI := fun σ H Q => ∃ B, tI G W B Γ true nb k c ies σ H Q
theorem r_itX {nb : Bool} {k : ItK} {c : IS} {ies : List E} {iter : Expr} (h : ∀ B, PI X tg iter (tI G W B Γ true nb k c ies)) : PI X tg iter (tIx G W Γ nb k c ies) := ⟨fun pins s σ H Q I ⟨B, q⟩ => (h B).run pins s σ H Q I q⟩
theorem wp_sub {fp : Fps} {own : List Nat} {a : Addr} (h : a ∈ (wp [] fp own).flatten) : a ∈ fp.flatten := by
  obtain ⟨f, hf, ha⟩ := List.mem_flatten.mp h
  obtain ⟨j, hj⟩ := List.getElem?_of_mem hf
  by_cases z : j ∈ own
  · rw [wp_in z] at hj
    obtain ⟨_, _, rfl⟩ := Option.map_eq_some_iff.mp hj
    simp at ha
  · rw [wp_out z] at hj
    exact List.mem_flatten.mpr ⟨f, List.mem_of_getElem? hj, ha⟩
theorem lc2_imp {own own1 : List Nat} {s : Shp} {elt : E} {g g1 : Tg} {k k1 : ItK} {ies ifs ies1 ifs1 : List E} {c c1 : IS} {ps ps1 : List (Nat × Shp)} {u : Ts} {nb : Bool} (hg : tgTy c g = some ps) (hown : own.all (fun i => decide (i < Γ.length)) = true) (hps : ps.all (fun q => own.contains q.1 && !own1.contains q.1) = true)
    (ho1 : own1.all (fun i => own.contains i) = true) (hg1 : tgTy c1 g1 = some ps1) (hps1 : ps1.all (fun q => own1.contains q.1) = true)
    (hpe : pur elt = true) (hpi : purs ifs = true) (hpj : purs ies1 = true) (hpi1 : purs ifs1 = true) (hu : u.2 = none) (hcv : cv u.1 s = true) {σ : L2.St} {H : Hp} {Q : VK} (h : tE G W B Γ (pur (.lc2 own own1 s elt g k ies ifs g1 k1 ies1 ifs1)) (.lc2 own own1 s elt g k ies ifs g1 k1 ies1 ifs1) (.O s, none) σ H Q) :
    tLc2 (tI G W B Γ (purs ies) nb k c ies) (tgR G.K g) (tTs G Wb (setS (wipeS Γ own) ps) ifs) (tIx G Wb (setS (wipeS Γ own) ps) true k1 c1 ies1) (tgR G.K g1) (tTs G Wb (setS (wipeS (setS (wipeS Γ own) ps) own1) ps1) ifs1) (tEx G Wb (setS (wipeS (setS (wipeS Γ own) ps) own1) ps1) elt u) own own1 σ H Q := by
  obtain ⟨env, F0, fp, rel0, k0⟩ := h
  have hpp : pur (.lc2 own own1 s elt g k ies ifs g1 k1 ies1 ifs1) = purs ies := by simp [pur, hpe, hpi, hpj, hpi1]
  rw [hpp] at k0
  simp only [evE] at k0
  refine ⟨env, F0, fp, rel0, ?_⟩
  have hpsO : ∀ q ∈ ps, q.1 ∈ own := fun q hq => by
    have := List.all_eq_true.mp hps q hq
    simp only [Bool.and_eq_true] at this
    simpa using this.1
  have hps1O : ∀ q ∈ ps1, q.1 ∈ own1 := fun q hq => by simpa using List.all_eq_true.mp hps1 q hq
  have ho1' : ∀ i ∈ own1, i ∈ own := fun i hi => by simpa using List.all_eq_true.mp ho1 i hi
  have hownl : ∀ i ∈ own, i < Γ.length := fun i hi => by simpa using List.all_eq_true.mp hown i hi
  have setS_len : ∀ (l : List (Nat × Shp)) (Γ : SEnv), (setS Γ l).length = Γ.length := fun l => by
    induction l with
    | nil => intro Γ; rfl
    | cons q l ih => intro Γ; obtain ⟨i, s⟩ := q; show (setS (Γ.set i s) l).length = _; rw [ih, List.length_set]
  cases r : evEs G.C ies env with
  | no => rw [r] at k0; exact k0.elim
  | exc x e' => rw [r] at k0; exact k0
  | ok q =>
    obtain ⟨ds, env1⟩ := q
    rw [r] at k0
    simp only [R.bind_ok] at k0
    show (match itD k ds with
      | some items => ∀ (L : List Addr) (J : It) (F1 H1 : Hp) (fp1 : Fps), Rel G.K B Γ env1 F1 fp1 σ H1 → Aft (purs ies) env fp F0 H env1 fp1 F1 H1 → (∀ a ∈ L, ∃ o, H1 a = some o) → (nb = true → L = []) → (lcOk k items = true → items.length ≤ lim) → IOk G.K L F1 H1 J items c → _
      | none => False)
    cases hitems : itD k ds with
    | none => simp only [hitems] at k0; exact k0
    | some items =>
    simp only [hitems] at k0
    show ∀ (L : List Addr) (J : It) (F1 H1 : Hp) (fp1 : Fps), _
    intro L J F1 H1 fp1 rel1 aft1 hL hnb _ iok D0 hD
    generalize hinn : (fun e => (evEs G.C ies1 e).bind fun (x : List D × Env) => match itD k1 x.1 with
            | some items1 => lcD (bindTg g1) (evTs G.C ifs1) (evE G.C elt) items1 (wipeD x.2 own1)
            | none => .no) = inner at k0
    split at k0
    case h_2 => exact k0.elim
    rename_i ys env2 hrun
    split at k0
    case isFalse => exact k0.elim
    rename_i hlim
    have D0F : F1 D0 = none := rel1.notF hD
    have D0n : D0 ∉ fp1.flatten := rel1.notin hD
    have D0B : B.H D0 = none := rel1.gone hD
    let Wv : Nat → Nat → Hp → Prop := fun i m Hc => m = items.length - i ∧ i ≤ items.length ∧ ∃ F acc fa ys0 ysr envd, Rel G.K B Γ env1 F fp1 σ Hc ∧ Fr [] F1 H1 F Hc ∧ Hc D0 = some (.lst acc) ∧ F D0 = none ∧ Ows (Ow G.K F Hc s) ys0 acc fa ∧ fa.Nodup ∧
      (∀ a ∈ fa, H1 a = none ∧ a ≠ D0) ∧ Agr own env1 envd ∧ lcD2 (bindTg g) (evTs G.C ifs) inner (items.drop i) envd = .ok (ysr, env2) ∧ ys0 ++ ysr = ys
    refine ⟨Wv, ⟨items.length, by simp, Nat.zero_le _, F1, [], [], [], ys, wipeD env1 own, rel1.push hD (fun xs e => by cases e), Fr.new hD, upd_same, D0F, ⟨rfl, rfl⟩, List.nodup_nil, fun a z => by simp at z, Agr.wiped _ _, by simpa using hrun, rfl⟩, ?_⟩
    -- the accumulated list under later heaps
    have keepA : ∀ {F Hc F4 H4 : Hp} {acc : List V} {ys0 : List D} {fa : List Addr}, Hc D0 = some (.lst acc) → F D0 = none → Ows (Ow G.K F Hc s) ys0 acc fa → Fr [] F Hc F4 H4 → H4 D0 = some (.lst acc) ∧ F4 D0 = none ∧ Ows (Ow G.K F4 H4 s) ys0 acc fa := fun {F Hc F4 H4 acc ys0 fa} hacc hFD hows f4 => by
      have none4 : ∀ a o, Hc a = some o → F a = none → F4 a = none := fun a o e n => by
        cases q : F4 a with
        | none => rfl
        | some u =>
          rcases f4.fnew a u q with z | z | z
          · rw [n] at z; cases z
          · simp at z
          · rw [e] at z; cases z
      refine ⟨f4.keep _ _ (by simp) hacc, none4 _ _ hacc hFD, Ows.keep f4.fs hows fun a z => ?_⟩
      obtain ⟨⟨o, e, _⟩, n⟩ := Ows.dom hows a z
      exact ⟨(f4.keep a o (by simp) e).trans e.symm, none4 a o e n⟩
    rintro i m Hc ⟨rfl, hi, F, acc, fa, ys0, ysr, envd, rel, fr, hacc, hFD, hows, hfn, hfa, agr, hrest, hys⟩
    have stay : ∀ a ∈ L, Hc a = H1 a := fun a z => by
      obtain ⟨o, e⟩ := hL a z
      rw [e]; exact fr.keep a o (by simp) e
    by_cases hlt : i < items.length
    · refine .inr ⟨iok.go i F Hc fr.fs rel.sub stay hlt, fun H' => Wv (i + 1) (items.length - (i + 1)) H', fun H' w => ⟨_, by omega, w⟩, fun x H' hy => ?_⟩
      have hd : items[i]? = some items[i] := by simp [hlt]
      obtain ⟨F', sb', tp', fr', itm⟩ := iok.yld i _ F Hc x H' fr.fs rel.sub stay rel.tup hd hy
      rw [List.drop_eq_getElem_cons hlt] at hrest
      simp only [lcD2] at hrest
      cases hb : bindTg g items[i] envd with
      | no => rw [hb] at hrest; cases hrest
      | exc x e => rw [hb] at hrest; cases hrest
      | ok envb =>
      rw [hb] at hrest
      simp only [R.bind_ok] at hrest
      have relo := rel.step fr' sb' tp'
      have reli := relo.wipe agr
      have hlt2 : ∀ q ∈ ps, q.1 < (wipeS Γ own).length ∧ q.1 ∉ ([] : List Nat) := fun q hq => by
        rw [wipeS_wp, wp_len]
        exact ⟨hownl _ (hpsO q hq), by simp⟩
      obtain ⟨σ2, fpb, bd, hQ⟩ := bind_ok reli itm hg hlt2 hb
      refine hQ _ ⟨?_, ?_⟩
      · rw [bd.wip own fun i hi => ?_, wipe_wipe]
        obtain ⟨q, hq, rfl⟩ := List.mem_map.mp hi
        exact hpsO q hq
      refine ⟨_, envb, F', fpb, bd.rel, ?_⟩
      cases ht : evTs G.C ifs envb with
      | no => rw [ht] at hrest; cases hrest
      | exc x e => rw [ht] at hrest; cases hrest
      | ok q3 =>
      obtain ⟨b, env3⟩ := q3
      rw [ht] at hrest
      simp only [R.bind_ok] at hrest
      intro F3 H3 fp3 rel3 aft3
      obtain ⟨rfl, rfl⟩ := aft3.same rfl
      have fr3 : Fr [] F' H' F3 H3 := by simpa [PP] using aft3.fr
      have agr3 : Agr own env1 env3 := agr.trans ⟨bd.agr.len, fun j hj => bd.agr.at_ j fun z => hj (by
        obtain ⟨q, hq, rfl⟩ := List.mem_map.mp z
        exact hpsO q hq)⟩
      cases b with
      | false =>
        simp only [Bool.false_eq_true, if_false] at hrest ⊢
        have frc : Fr [] F Hc F3 H3 := fr'.trans fr3 fun a z => by simp at z
        obtain ⟨k1, k2, k3⟩ := keepA hacc hFD hows frc
        exact ⟨rfl, hlt, F3, acc, fa, ys0, ysr, env3, rel.step frc rel3.sub rel3.tup, fr.trans frc fun a z => by simp at z, k1, k2, k3, hfn, hfa, agr3, hrest, hys⟩
      | true =>
        simp only [if_true] at hrest ⊢
        refine ⟨_, env3, F3, fp3, rel3, ?_⟩
        cases hin : inner env3 with
        | no => rw [hin] at hrest; cases hrest
        | exc x e => rw [hin] at hrest; cases hrest
        | ok q5 =>
        obtain ⟨xs, env5⟩ := q5
        rw [hin] at hrest
        simp only [R.bind_ok] at hrest
        rw [← hinn] at hin
        simp only [] at hin
        cases r1 : evEs G.C ies1 env3 with
        | no => rw [r1] at hin; cases hin
        | exc x e' => rw [r1] at hin; cases hin
        | ok q =>
        obtain ⟨ds1, env4⟩ := q
        rw [r1] at hin
        simp only [R.bind_ok] at hin
        show (match itD k1 ds1 with
          | some items1 => ∀ (L : List Addr) (J : It) (F1 H1 : Hp) (fp1 : Fps), Rel G.K _ _ env4 F1 fp1 σ2 H1 → Aft true env3 fp3 F3 H3 env4 fp1 F1 H1 → (∀ a ∈ L, ∃ o, H1 a = some o) → (true = true → L = []) → (lcOk k1 items1 = true → items1.length ≤ lim) → IOk G.K L F1 H1 J items1 c1 → _
          | none => False)
        cases hit1 : itD k1 ds1 with
        | none => simp only [hit1] at hin; cases hin
        | some items1 =>
        simp only [hit1] at hin
        show ∀ (L : List Addr) (J : It) (F1 H1 : Hp) (fp1 : Fps), _
        intro L1 J1 F4 H4 fp4 rel4 aft4 hL1 hnb1 _ iok1
        have hL0 : L1 = [] := hnb1 rfl
        subst hL0
        obtain ⟨rfl, rfl⟩ := aft4.same rfl
        have fr4 : Fr [] F3 H3 F4 H4 := by simpa [PP] using aft4.fr
        have fr04 : Fr [] F Hc F4 H4 := (fr'.trans fr3 fun a z => by simp at z).trans fr4 fun a z => by simp at z
        obtain ⟨c1', c2', c3'⟩ := keepA hacc hFD hows fr04
        cases hrec : lcD2 (bindTg g) (evTs G.C ifs) inner (items.drop (i + 1)) env5 with
        | no => rw [hrec] at hrest; cases hrest
        | exc x e => rw [hrec] at hrest; cases hrest
        | ok q6 =>
        obtain ⟨ysr', env6⟩ := q6
        rw [hrec] at hrest
        simp only [R.bind_ok, R.ok.injEq, Prod.mk.injEq] at hrest
        obtain ⟨rfl, rfl⟩ := hrest
        have D0n4 : D0 ∉ fp4.flatten := fun z => D0n (wp_sub (bd.sub D0 z))
        let W1 : Nat → Nat → Hp → Prop := fun j m Hc' => m = items1.length - j ∧ j ≤ items1.length ∧ ∃ F5 acc fa ys1 ysr1 envd1, Rel G.K B Γ env1 F5 fp1 σ Hc' ∧ Rel G.K { B with σ := L2.wipe σ own, ios := [] } (setS (wipeS Γ own) ps) env4 F5 fp4 σ2 Hc' ∧ Fr [] F1 H1 F5 Hc' ∧ Sub F4 F5 ∧ Hc' D0 = some (.lst acc) ∧ F5 D0 = none ∧ Ows (Ow G.K F5 Hc' s) (ys0 ++ ys1) acc fa ∧ fa.Nodup ∧
          (∀ a ∈ fa, H1 a = none ∧ a ≠ D0) ∧ Agr own1 env4 envd1 ∧ lcD (bindTg g1) (evTs G.C ifs1) (evE G.C elt) (items1.drop j) envd1 = .ok (ysr1, env5) ∧ ys1 ++ ysr1 = xs
        refine ⟨W1, ⟨items1.length, by simp, Nat.zero_le _, F4, acc, fa, [], xs, wipeD env4 own1, rel.step fr04 rel4.sub rel4.tup, rel4, fr.trans fr04 fun a z => by simp at z, Sub.refl _, c1', c2', by rw [List.append_nil]; exact c3', hfn, hfa, Agr.wiped _ _, by simpa using hin, rfl⟩, ?_⟩
        rintro j m' Hd ⟨rfl, hj, F5, acc5, fa5, ys1, ysr1, envd1, relO, relI, frO, sub5, hacc5, hFD5, hows5, hfn5, hfa5, agr5, hrest5, hys5⟩
        by_cases hlt1 : j < items1.length
        · refine .inr ⟨iok1.go j F5 Hd sub5 relO.sub (fun a z => by simp at z) hlt1, fun H' => W1 (j + 1) (items1.length - (j + 1)) H', fun H' w => ⟨_, by omega, w⟩, fun x1 H6 hy1 => ?_⟩
          have hd1 : items1[j]? = some items1[j] := by simp [hlt1]
          obtain ⟨F6, sb6, tp6, fr6, itm1⟩ := iok1.yld j _ F5 Hd x1 H6 sub5 relO.sub (fun a z => by simp at z) relO.tup hd1 hy1
          rw [List.drop_eq_getElem_cons hlt1] at hrest5
          simp only [lcD] at hrest5
          cases hb1 : bindTg g1 items1[j] envd1 with
          | no => rw [hb1] at hrest5; cases hrest5
          | exc x e => rw [hb1] at hrest5; cases hrest5
          | ok envb1 =>
          rw [hb1] at hrest5
          simp only [R.bind_ok] at hrest5
          have relo1 := relI.step fr6 sb6 tp6
          have reli1 := relo1.wipe agr5
          have hlt3 : ∀ q ∈ ps1, q.1 < (wipeS (setS (wipeS Γ own) ps) own1).length ∧ q.1 ∉ ([] : List Nat) := fun q hq => by
            rw [wipeS_wp, wp_len, setS_len, wipeS_wp, wp_len]
            exact ⟨hownl _ (ho1' _ (hps1O q hq)), by simp⟩
          obtain ⟨σ3, fpb1, bd1, hQ1⟩ := bind_ok reli1 itm1 hg1 hlt3 hb1
          refine hQ1 _ ⟨?_, ?_⟩
          · rw [bd1.wip own1 fun i hi => ?_, wipe_wipe]
            obtain ⟨q, hq, rfl⟩ := List.mem_map.mp hi
            exact hps1O q hq
          refine ⟨_, envb1, F6, fpb1, bd1.rel, ?_⟩
          cases ht1 : evTs G.C ifs1 envb1 with
          | no => rw [ht1] at hrest5; cases hrest5
          | exc x e => rw [ht1] at hrest5; cases hrest5
          | ok q7 =>
          obtain ⟨b1, env7⟩ := q7
          rw [ht1] at hrest5
          simp only [R.bind_ok] at hrest5
          intro F7 H7 fp7 rel7 aft7
          obtain ⟨rfl, rfl⟩ := aft7.same rfl
          have fr7 : Fr [] F6 H6 F7 H7 := by simpa [PP] using aft7.fr
          have fr57 : Fr [] F5 Hd F7 H7 := fr6.trans fr7 fun a z => by simp at z
          have agr7 : Agr own1 env4 env7 := agr5.trans ⟨bd1.agr.len, fun j hj => bd1.agr.at_ j fun z => hj (by
            obtain ⟨q, hq, rfl⟩ := List.mem_map.mp z
            exact hps1O q hq)⟩
          cases b1 with
          | false =>
            simp only [Bool.false_eq_true, if_false] at hrest5 ⊢
            obtain ⟨k1, k2, k3⟩ := keepA hacc5 hFD5 hows5 fr57
            exact ⟨rfl, hlt1, F7, acc5, fa5, ys1, ysr1, env7, relO.step fr57 rel7.sub rel7.tup, relI.step fr57 rel7.sub rel7.tup, frO.trans fr57 fun a z => by simp at z, sub5.trans fr57.fs, k1, k2, k3, hfn5, hfa5, agr7, hrest5, hys5⟩
          | true =>
            simp only [if_true] at hrest5 ⊢
            refine ⟨_, env7, F7, fp7, rel7, ?_⟩
            cases he : evE G.C elt env7 with
            | no => rw [he] at hrest5; cases hrest5
            | exc x e => rw [he] at hrest5; cases hrest5
            | ok q8 =>
            obtain ⟨y, env8⟩ := q8
            rw [he] at hrest5
            simp only [R.bind_ok] at hrest5
            intro v F8 H8 fp8 fv rel8 aft8 o8
            obtain ⟨rfl, rfl⟩ := aft8.same rfl
            rw [hu] at o8
            obtain ⟨F9, g', rel9, aft9, ow9, ng, gg, sb9, out9⟩ := take rel7 rel8 aft8 o8 hcv
            have fr9 : Fr [] F7 H7 F9 H8 := by simpa [PP] using aft9.fr
            have frc : Fr [] F5 Hd F9 H8 := fr57.trans fr9 fun a z => by simp at z
            obtain ⟨k1, k2, k3⟩ := keepA hacc5 hFD5 hows5 frc
            have accl : acc5.length = (ys0 ++ ys1).length := hows5.len
            cases hrec1 : lcD (bindTg g1) (evTs G.C ifs1) (evE G.C elt) (items1.drop (j + 1)) env8 with
            | no => rw [hrec1] at hrest5; cases hrest5
            | exc x e => rw [hrec1] at hrest5; cases hrest5
            | ok q10 =>
            obtain ⟨ysr1', env10⟩ := q10
            rw [hrec1] at hrest5
            simp only [R.bind_ok, R.ok.injEq, Prod.mk.injEq] at hrest5
            obtain ⟨rfl, rfl⟩ := hrest5
            have hlen2 : acc5.length < lim := by
              rw [accl]
              have e1 := congrArg List.length hys
              have e2 := congrArg List.length hys5
              simp only [List.length_append, List.length_cons] at e1 e2 ⊢
              omega
            refine ⟨acc5, k1, by rw [← lim_eq]; exact hlen2, rfl, hlt1, F9, acc5 ++ [v], fa5 ++ g', ys1 ++ [y], ysr1', env8, ?_, ?_, ?_, sub5.trans frc.fs, upd_same, k2, ?_, ?_, ?_, agr7, hrec1, by rw [List.append_assoc]; exact hys5⟩
            · exact (relO.step frc rel9.sub rel9.tup).wr D0n k2 (fun xs e => by cases e) D0B
            · exact (relI.step frc rel9.sub rel9.tup).wr D0n4 k2 (fun xs e => by cases e) D0B
            · have frz : Fr [] F1 H1 F9 H8 := frO.trans frc fun a z => by simp at z
              refine frz.trans (P' := [D0]) (Fr.write List.mem_cons_self) fun a z => ?_
              have : a = D0 := by simpa using z
              subst this
              exact .inr hD
            · have gd : ∀ a ∈ g', a ≠ D0 := fun a z e => by
                subst e
                rcases (o8.own rfl a (gg a z)).2 with w | w
                · simp [PP] at w
                · obtain ⟨o', q⟩ := fr57.dom a _ hacc5
                  rw [w] at q; cases q
              rw [← List.append_assoc]
              refine Ows.append ?_ ?_
              · exact Ows.keep (Sub.refl _) k3 fun a z => ⟨upd_ne (hfa5 a z).2, (Ows.dom k3 a z).2⟩
              · exact Ows.one (Ow.keep (Sub.refl _) ow9 fun a z => ⟨upd_ne (gd a z), (ow9.dom a z).2⟩)
            · refine List.nodup_append.mpr ⟨hfn5, ng, fun a ha b hb e => ?_⟩
              subst e
              rcases (o8.own rfl a (gg a hb)).2 with w | w
              · simp [PP] at w
              · obtain ⟨⟨o', q, _⟩, _⟩ := Ows.dom hows5 a ha
                obtain ⟨o'', q'⟩ := fr57.dom a _ q
                rw [w] at q'; cases q'
            · intro a z
              rcases List.mem_append.mp z with z | z
              · exact hfa5 a z
              · rcases (o8.own rfl a (gg a z)).2 with w | w
                · simp [PP] at w
                · have n1 : Hd a = none := fr57.gone w
                  exact ⟨frO.gone n1, fun e => by rw [e, hacc5] at n1; cases n1⟩
        · have e : j = items1.length := by omega
          subst e
          refine .inl ⟨iok1.stop _ F5 Hd sub5 relO.sub (fun a z => by simp at z) (Nat.le_refl _), ?_⟩
          rw [List.drop_length] at hrest5
          simp only [lcD, R.ok.injEq, Prod.mk.injEq] at hrest5
          obtain ⟨rfl, rfl⟩ := hrest5
          rw [List.append_nil] at hys5
          subst hys5
          exact ⟨rfl, hlt, F5, acc5, fa5, ys0 ++ ys1, ysr', envd1, relO, frO, hacc5, hFD5, hows5, hfn5, hfa5, agr3.trans ⟨agr5.len, fun j hj => agr5.at_ j fun z => hj (ho1' _ z)⟩, hrec, by rw [List.append_assoc]; exact hys⟩
    · have e : i = items.length := by omega
      subst e
      refine .inl ⟨iok.stop _ F Hc fr.fs rel.sub stay (Nat.le_refl _), ?_⟩
      rw [List.drop_length] at hrest
      simp only [lcD2, R.ok.injEq, Prod.mk.injEq] at hrest
      obtain ⟨rfl, rfl⟩ := hrest
      rw [List.append_nil] at hys
      subst hys
      rw [backD_eq agr] at k0
      have aftz : Aft (purs ies) env fp F0 H env1 fp1 F Hc := (aft1.trans (Aft.step fr)).weak fun z => by simp [z]
      refine k0 (.ref D0) F Hc fp1 (D0 :: fa) rel aftz ⟨⟨D0, acc, ys0, fa, rfl, rfl, hacc, hFD, hlim, hows, rfl⟩, List.nodup_cons.mpr ⟨fun z => (hfa D0 z).2 rfl, hfn⟩, fun _ a z => ?_, fun i e => by cases e⟩
      have nH : H1 a = none := by
        rcases List.mem_cons.mp z with rfl | z
        · exact hD
        · exact (hfa a z).1
      exact ⟨rel1.notin nH, .inr (aft1.fr.gone nH)⟩
theorem r_lc2 (xo : XOk G sg W S X) {own own1 : List Nat} {ownN : List (Str × Nat)} {s : Shp} {elt : E} {g g1 : Tg} {k k1 : ItK} {ies ifs ies1 ifs1 : List E} {c c1 : IS} {ps ps1 : List (Nat × Shp)} {u : Ts} {nb : Bool} {ex iter iter1 tg1 : Expr} {fs fs1 : List Expr} {scope : Scope} {pos : Pos} (hg : tgTy c g = some ps) (hown : own.all (fun i => decide (i < Γ.length)) = true) (hps : ps.all (fun q => own.contains q.1 && !own1.contains q.1) = true)
    (ho1 : own1.all (fun i => own.contains i) = true) (hg1 : tgTy c1 g1 = some ps1) (hps1 : ps1.all (fun q => own1.contains q.1) = true)
    (hpe : pur elt = true) (hpi : purs ifs = true) (hpj : purs ies1 = true) (hpi1 : purs ifs1 = true) (hu : u.2 = none) (hcv : cv u.1 s = true) (hblk : blkC S.N S.sc scope ownN = true) (hon : ownN.map (·.2) = own) (hset : noSet iter = true) (hset1 : noSet iter1 = true)
    (hI : PI X tg iter (tI G W B Γ (purs ies) nb k c ies))
    (hG : ∀ (X' : Cx), XOk G sg Wno (S.blk scope) X' → PG X' tg (tgR G.K g))
    (hT : ∀ (X' : Cx), XOk G sg Wno (S.blk scope) X' → PTs X' fs (tTs G Wno (setS (wipeS Γ own) ps) ifs))
    (hI1 : ∀ (X' : Cx), XOk G sg Wno (S.blk scope) X' → PI X' tg1 iter1 (tIx G Wno (setS (wipeS Γ own) ps) true k1 c1 ies1))
    (hG1 : ∀ (X' : Cx), XOk G sg Wno (S.blk scope) X' → PG X' tg1 (tgR G.K g1))
    (hT1 : ∀ (X' : Cx), XOk G sg Wno (S.blk scope) X' → PTs X' fs1 (tTs G Wno (setS (wipeS (setS (wipeS Γ own) ps) own1) ps1) ifs1))
    (hE : ∀ (X' : Cx), XOk G sg Wno (S.blk scope) X' → PE X' ex (tEx G Wno (setS (wipeS (setS (wipeS Γ own) ps) own1) ps1) elt u)) :
    PE X (.ListComp ex [⟨tg, iter, fs, 0⟩, ⟨tg1, iter1, fs1, 0⟩] scope pos) (tE G W B Γ (pur (.lc2 own own1 s elt g k ies ifs g1 k1 ies1 ifs1)) (.lc2 own own1 s elt g k ies ifs g1 k1 ies1 ifs1) (.O s, none)) := by
  have bo : BlkOk X.N X.env.scope scope ownN := blkOk_by (by rw [xo.N, xo.sc]; exact hblk)
  refine PE_imp (pe_lc2 (vs1 := own1) xo.calm (by rw [xo.N]; exact xo.nd) hI bo (fun i hi => by rw [hon]; simpa using List.all_eq_true.mp ho1 i hi) (fun s H C cl fp => hG _ (xo.blk s H C cl fp)) (fun s H C cl fp => hT _ (xo.blk s H C cl fp)) (fun s H C cl fp => hI1 _ (xo.blk s H C cl fp)) (fun s H C cl fp => hG1 _ (xo.blk s H C cl fp)) (fun s H C cl fp => hT1 _ (xo.blk s H C cl fp)) (fun s H C cl fp => hE _ (xo.blk s H C cl fp)) (noSet_ok hset) (fun env x => noSet_ok hset1 x)) ?_
  intro σ H Q h
  rw [hon]
  exact lc2_imp hg hown hps ho1 hg1 hps1 hpe hpi hpj hpi1 hu hcv h
end
end VC
end

section
set_option Elab.async false
set_option linter.all false
set_option autoImplicit false
set_option maxRecDepth 100000
/-! VC33: comprehensions whose tests change what others own; reversed slices. -/
namespace VC
open PySem PySem.Spec L2

def tTsI (G : Gd) (W : WX) (Γ : SEnv) (es : List E) : TT := fun σ H Q => ∃ B env F fp, Rel G.K B Γ env F fp σ H ∧ KT G W B Γ σ false env F H fp (evTs G.C es env) Q
section
variable {G : Gd} {sg : List Sig} {W Wb : WX} {S : SC} {X : Cx} {B : Bs} {Γ : SEnv} {tc : TC} {tg : Expr}
theorem KT.weak {σ : L2.St} {p : Bool} {env : Env} {F H : Hp} {fp : Fps} {r : R (Bool × Env)} {Q : Bool → Hp → Prop} (h : KT G W B Γ σ false env F H fp r Q) : KT G W B Γ σ p env F H fp r Q := by
  cases r with
  | no => exact h
  | exc x e => exact h
  | ok q =>
    obtain ⟨k, env'⟩ := q
    intro F' H' fp' rel aft
    exact h F' H' fp' rel (aft.weak fun z => by cases z)
theorem r_ts0I : PTs X [] (tTsI G W Γ []) := by
  refine ⟨fun pins s σ H Q I h => pts_nil.run pins s σ H Q I ?_⟩
  obtain ⟨B, env, F, fp, rel, k⟩ := h
  simp only [evTs] at k
  exact k F H fp rel Aft.refl
theorem r_ts1I {e : E} {ast : Expr} (h : ∀ B, PT X ast (tTt G W B Γ (pur e) e)) : PTs X [ast] (tTsI G W Γ [e]) := by
  have main : PT X ast (fun σ H Q => ∃ B, tTt G W B Γ (pur e) e σ H Q) := ⟨fun pins s σ H Q I ⟨B, q⟩ => (h B).run pins s σ H Q I q⟩
  refine ⟨fun pins s σ H Q I h => (pts_one main).run pins s σ H Q I ?_⟩
  obtain ⟨B, env, F, fp, rel, k⟩ := h
  refine ⟨B, env, F, fp, rel, ?_⟩
  have : evTs G.C [e] env = (evE G.C e env).bind truR := by
    simp only [evTs]
    congr 1
    funext q
    cases truR q with
    | ok b => obtain ⟨b, env'⟩ := b; cases b <;> rfl
    | exc x e => rfl
    | no => rfl
  rw [this] at k
  exact k.weak
theorem backD_at {old env : Env} : ∀ {own : List Nat} {j : Nat}, j ∉ own → (backD old env own)[j]? = env[j]?
  | [], j, _ => rfl
  | i :: is, j, h => by
    simp only [List.mem_cons, not_or] at h
    unfold backD
    rw [List.getElem?_set_ne (fun e => h.1 e.symm), backD_at h.2]
theorem agr_back {old env : Env} {own : List Nat} : Agr own (backD old env own) env := ⟨by rw [backD_len], fun j hj => (backD_at hj).symm⟩
/-- back from a block whose own names say nothing outside -/
theorem Rel.out {K : PySem.W.Frag} {B : Bs} {Γ Γ1 : SEnv} {own : List Nat} {envX env3 : Env} {F3 H3 : Hp} {fp3 : Fps} {σ σ2 : L2.St} (hX : ∀ i ∈ own, Γ[i]? = some .X) (hΓ : ∀ j, j ∉ own → Γ1[j]? = Γ[j]?) (hΓl : Γ1.length = Γ.length)
    (hσ : L2.wipe σ2 own = L2.wipe σ own) (hio : ∀ i ∈ B.ios, σ[i]? = B.σ[i]?) {B2 : Bs} (hB : B2.F = B.F ∧ B2.H = B.H ∧ B2.fp = B.fp) (rel3 : Rel K B2 Γ1 env3 F3 fp3 σ2 H3) : Rel K B Γ (backD envX env3 own) F3 (wp [] fp3 own) σ H3 := by
  obtain ⟨l1, l2, l3⟩ := rel3.e.len
  have rw' := rel3.wipe (own := own) (envd := env3) ⟨rfl, fun _ _ => rfl⟩
  have lσ : σ.length = σ2.length := by
    have h := congrArg List.length hσ
    rw [wipe_wp, wipe_wp, wp_len, wp_len] at h
    exact h.symm
  exact {
    e := RelE.mk (by rw [backD_len, l1, hΓl]) (by rw [lσ, l2, hΓl]) (by rw [wp_len, l3, hΓl]) fun i s o w f e1 e2 e3 e4 => by
      by_cases z : i ∈ own
      · rw [hX i z] at e1
        cases e1
        rw [wp_in z] at e4
        obtain ⟨_, _, rfl⟩ := Option.map_eq_some_iff.mp e4
        cases o with
        | none => rfl
        | some d => exact .inl ⟨rfl, rfl⟩
      · rw [← hΓ i z] at e1
        rw [backD_at z] at e2
        rw [wp_out z] at e4
        obtain ⟨o', w', f', a1, a2, a3, a4⟩ := rel3.e.at e1
        have hs : σ2[i]? = σ[i]? := by
          have h := congrArg (·[i]?) hσ
          rw [wipe_wp, wipe_wp] at h
          simp only [wp_out z] at h
          exact h
        rw [e2] at a1; rw [hs, e3] at a2; rw [e4] at a3
        cases a1; cases a2; cases a3
        exact a4
    nd := rw'.nd
    sub := rel3.sub
    tup := rel3.tup
    fr := by
      have := rel3.fr
      rw [hB.1, hB.2.1, hB.2.2] at this
      exact this
    new := fun a ha => by
      have := rel3.new a (wp_sub ha)
      rw [hB.2.1, hB.2.2] at this
      exact this
    io := hio }
theorem lcI_imp {own : List Nat} {s : Shp} {elt : E} {g : Tg} {k : ItK} {ies ifs : List E} {c : IS} {ps : List (Nat × Shp)} {u : Ts} (hg : tgTy c g = some ps) (hown : ∀ i ∈ own, Γ[i]? = some .X) (hps : ps.all (fun q => own.contains q.1) = true)
    (hpe : pur elt = true) (hfl : flat s = true) (hu : u.2 = none) (hcv : cv u.1 s = true) {σ : L2.St} {H : Hp} {Q : VK} (h : tE G W B Γ (pur (.lcI own s elt g k ies ifs)) (.lcI own s elt g k ies ifs) (.O s, none) σ H Q) :
    tLc (tI G W B Γ (purs ies) true k c ies) (tgR G.K g) (tTsI G Wb (setS (wipeS Γ own) ps) ifs) (tEx G Wb (setS (wipeS Γ own) ps) elt u) own σ H Q := by
  obtain ⟨env, F0, fp, rel0, k0⟩ := h
  have hpp : pur (.lcI own s elt g k ies ifs) = false := by simp only [pur]
  rw [hpp] at k0
  simp only [evE] at k0
  refine ⟨env, F0, fp, rel0, ?_⟩
  have hpsO : ∀ q ∈ ps, q.1 ∈ own := fun q hq => by simpa using List.all_eq_true.mp hps q hq
  have setS_len : ∀ (l : List (Nat × Shp)) (Γ : SEnv), (setS Γ l).length = Γ.length := fun l => by
    induction l with
    | nil => intro Γ; rfl
    | cons q l ih => intro Γ; obtain ⟨i, s⟩ := q; show (setS (Γ.set i s) l).length = _; rw [ih, List.length_set]
  have setS_out : ∀ (l : List (Nat × Shp)) (Γ : SEnv) (j : Nat), (∀ q ∈ l, q.1 ≠ j) → (setS Γ l)[j]? = Γ[j]? := fun l => by
    induction l with
    | nil => intro Γ j _; rfl
    | cons q l ih =>
      intro Γ j hq
      obtain ⟨i, s⟩ := q
      show (setS (Γ.set i s) l)[j]? = _
      rw [ih _ _ fun q h => hq q (List.mem_cons_of_mem _ h), List.getElem?_set_ne (hq (i, s) List.mem_cons_self)]
  have hΓo : ∀ j, j ∉ own → (setS (wipeS Γ own) ps)[j]? = Γ[j]? := fun j hj => by
    rw [setS_out ps (wipeS Γ own) j fun q hq e => hj (by rw [← e]; exact hpsO q hq), wipeS_wp, wp_out hj]
  have hΓl : (setS (wipeS Γ own) ps).length = Γ.length := by rw [setS_len, wipeS_wp, wp_len]
  cases r : evEs G.C ies env with
  | no => rw [r] at k0; exact k0.elim
  | exc x e' => rw [r] at k0; exact k0
  | ok q =>
    obtain ⟨ds, env1⟩ := q
    rw [r] at k0
    simp only [R.bind_ok] at k0
    show (match itD k ds with
      | some items => ∀ (L : List Addr) (J : It) (F1 H1 : Hp) (fp1 : Fps), Rel G.K B Γ env1 F1 fp1 σ H1 → Aft (purs ies) env fp F0 H env1 fp1 F1 H1 → (∀ a ∈ L, ∃ o, H1 a = some o) → (true = true → L = []) → (lcOk k items = true → items.length ≤ lim) → IOk G.K L F1 H1 J items c → _
      | none => False)
    cases hitems : itD k ds with
    | none => simp only [hitems] at k0; exact k0
    | some items =>
    simp only [hitems] at k0
    show ∀ (L : List Addr) (J : It) (F1 H1 : Hp) (fp1 : Fps), _
    intro L J F1 H1 fp1 rel1 aft1 hL hnb hlen iok D0 hD
    have hL0 : L = [] := hnb rfl
    subst hL0
    split at k0
    case isFalse => exact k0.elim
    rename_i hlc
    have hlen := hlen hlc
    split at k0
    case h_2 => exact k0.elim
    rename_i ys env2 hrun
    have D0F : F1 D0 = none := rel1.notF hD
    have D0n : D0 ∉ fp1.flatten := rel1.notin hD
    have D0B : B.H D0 = none := rel1.gone hD
    let Wv : Nat → Nat → Hp → Prop := fun i m Hc => m = items.length - i ∧ i ≤ items.length ∧ ∃ F acc ys0 ysr envd fpO, Rel G.K B Γ (backD env1 envd own) F fpO σ Hc ∧ Fr fp1.flatten F1 H1 F Hc ∧ (∀ a ∈ fpO.flatten, a ∈ fp1.flatten ∨ H1 a = none) ∧ Hc D0 = some (.lst acc) ∧ F D0 = none ∧ D0 ∉ fpO.flatten ∧ Ows (Ow G.K F Hc s) ys0 acc [] ∧
      ys0.length ≤ i ∧ lcD (bindTg g) (evTs G.C ifs) (evE G.C elt) (items.drop i) envd = .ok (ysr, env2) ∧ ys0 ++ ysr = ys
    refine ⟨Wv, ⟨items.length, by simp, Nat.zero_le _, F1, [], [], ys, wipeD env1 own, fp1, ?_, Fr.new hD, fun a z => .inl z, upd_same, D0F, D0n, ⟨rfl, rfl⟩, Nat.le_refl _, by simpa using hrun, rfl⟩, ?_⟩
    · rw [backD_eq (Agr.wiped _ _)]
      exact rel1.push hD (fun xs e => by cases e)
    rintro i m Hc ⟨rfl, hi, F, acc, ys0, ysr, envd, fpO, rel, fr, hsub, hacc, hFD, hDO, hows, hyl, hrest, hys⟩
    by_cases hlt : i < items.length
    · refine .inr ⟨iok.go i F Hc fr.fs rel.sub (fun a z => by simp at z) hlt, fun H' => Wv (i + 1) (items.length - (i + 1)) H', fun H' w => ⟨_, by omega, w⟩, fun x H' hy => ?_⟩
      have hd : items[i]? = some items[i] := by simp [hlt]
      obtain ⟨F', sb', tp', fr', itm⟩ := iok.yld i _ F Hc x H' fr.fs rel.sub (fun a z => by simp at z) rel.tup hd hy
      rw [List.drop_eq_getElem_cons hlt] at hrest
      simp only [lcD] at hrest
      cases hb : bindTg g items[i] envd with
      | no => rw [hb] at hrest; cases hrest
      | exc x e => rw [hb] at hrest; cases hrest
      | ok envb =>
      rw [hb] at hrest
      simp only [R.bind_ok] at hrest
      have relo := rel.step fr' sb' tp'
      have reli := relo.wipe agr_back
      have hlt2 : ∀ q ∈ ps, q.1 < (wipeS Γ own).length ∧ q.1 ∉ ([] : List Nat) := fun q hq => by
        rw [wipeS_wp, wp_len]
        exact ⟨(List.getElem?_eq_some_iff.mp (hown _ (hpsO q hq))).1, by simp⟩
      obtain ⟨σ2, fpb, bd, hQ⟩ := bind_ok reli itm hg hlt2 hb
      have hwip : wipe σ2 own = wipe σ own := by
        rw [bd.wip own fun i hi => ?_, wipe_wipe]
        obtain ⟨q, hq, rfl⟩ := List.mem_map.mp hi
        exact hpsO q hq
      refine hQ _ ⟨hwip, ?_⟩
      refine ⟨_, envb, F', fpb, bd.rel, ?_⟩
      cases ht : evTs G.C ifs envb with
      | no => rw [ht] at hrest; cases hrest
      | exc x e => rw [ht] at hrest; cases hrest
      | ok q3 =>
      obtain ⟨b, env3⟩ := q3
      rw [ht] at hrest
      simp only [R.bind_ok] at hrest
      intro F3 H3 fp3 rel3 aft3
      have fr3 : Fr fpb.flatten F' H' F3 H3 := by simpa [PP] using aft3.fr
      have fpbO : ∀ a ∈ fpb.flatten, a ∈ fpO.flatten := fun a z => wp_sub (bd.sub a z)
      -- the accumulated list
      have hacc' : H' D0 = some (.lst acc) := fr'.keep _ _ (by simp) hacc
      have D0b : D0 ∉ fpb.flatten := fun z => hDO (fpbO _ z)
      have hacc3 : H3 D0 = some (.lst acc) := fr3.keep _ _ D0b hacc'
      have none' : ∀ {Fa Ha Fb Hb : Hp} {P : List Addr} (a : Addr) (o : HO), Fr P Fa Ha Fb Hb → a ∉ P → Ha a = some o → Fa a = none → Fb a = none := fun {Fa Ha Fb Hb P} a o f np e n => by
        cases q : Fb a with
        | none => rfl
        | some u =>
          rcases f.fnew a u q with z | z | z
          · rw [n] at z; cases z
          · exact absurd z np
          · rw [e] at z; cases z
      have hFD3 : F3 D0 = none := none' D0 _ fr3 D0b hacc' (none' D0 _ fr' (by simp) hacc hFD)
      have hows3 : Ows (Ow G.K F3 H3 s) ys0 acc [] := Ows.keep (fr'.fs.trans fr3.fs) hows fun a z => by simp at z
      have frO : Fr fp1.flatten F1 H1 F3 H3 := (fr.trans fr' fun a z => by simp at z).trans fr3 fun a z => hsub a (fpbO a z)
      have sub3 : ∀ a ∈ fp3.flatten, a ∈ fp1.flatten ∨ H1 a = none := fun a z => by
        rcases aft3.sub a z with w | w
        · exact hsub a (fpbO a w)
        · exact .inr ((fr.trans fr' fun a z => by simp at z).gone w)
      have D03 : D0 ∉ fp3.flatten := fun z => by
        rcases aft3.sub D0 z with w | w
        · exact D0b w
        · rw [hacc'] at w; cases w
      cases b with
      | false =>
        simp only [Bool.false_eq_true, if_false] at hrest ⊢
        have relX := Rel.out (B := B) (B2 := { B with σ := L2.wipe σ own, ios := [] }) (envX := env1) hown hΓo hΓl hwip rel.io ⟨rfl, rfl, rfl⟩ rel3
        exact ⟨rfl, hlt, F3, acc, ys0, ysr, env3, _, relX, frO, fun a z => sub3 a (wp_sub z), hacc3, hFD3, fun z => D03 (wp_sub z), hows3, by omega, hrest, hys⟩
      | true =>
        simp only [if_true] at hrest ⊢
        refine ⟨_, env3, F3, fp3, rel3, ?_⟩
        cases he : evE G.C elt env3 with
        | no => rw [he] at hrest; cases hrest
        | exc x e => rw [he] at hrest; cases hrest
        | ok q4 =>
        obtain ⟨y, env4⟩ := q4
        rw [he] at hrest
        simp only [R.bind_ok] at hrest
        intro v F4 H4 fp4 fv rel4 aft4 o4
        obtain ⟨rfl, rfl⟩ := aft4.same rfl
        rw [hu] at o4
        obtain ⟨F5, g', rel5, aft5, ow5, ng, gg, sb5, out5⟩ := take rel3 rel4 aft4 o4 hcv
        have eg : g' = [] := flat_fp hfl ow5
        subst eg
        have fr5 : Fr [] F3 H3 F5 H4 := by simpa [PP] using aft5.fr
        have hacc5 : H4 D0 = some (.lst acc) := fr5.keep _ _ (by simp) hacc3
        have hFD5 : F5 D0 = none := none' D0 _ fr5 (by simp) hacc3 hFD3
        have hows5 : Ows (Ow G.K F5 H4 s) ys0 acc [] := Ows.keep fr5.fs hows3 fun a z => by simp at z
        have accl : acc.length = ys0.length := hows5.len
        cases hrec : lcD (bindTg g) (evTs G.C ifs) (evE G.C elt) (items.drop (i + 1)) env4 with
        | no => rw [hrec] at hrest; cases hrest
        | exc x e => rw [hrec] at hrest; cases hrest
        | ok q5 =>
        obtain ⟨ysr', env5⟩ := q5
        rw [hrec] at hrest
        simp only [R.bind_ok, R.ok.injEq, Prod.mk.injEq] at hrest
        obtain ⟨rfl, rfl⟩ := hrest
        have relX := Rel.out (B := B) (B2 := { B with σ := L2.wipe σ own, ios := [] }) (envX := env1) hown hΓo hΓl hwip rel.io ⟨rfl, rfl, rfl⟩ rel5
        refine ⟨acc, hacc5, by rw [← lim_eq]; omega, rfl, hlt, F5, acc ++ [v], ys0 ++ [y], ysr', env4, _, relX.wr (fun z => D03 (wp_sub z)) hFD5 (fun xs e => by cases e) D0B, ?_, fun a z => sub3 a (wp_sub z), upd_same, hFD5, fun z => D03 (wp_sub z), ?_, by simp; omega, hrec, by rw [List.append_assoc]; exact hys⟩
        · have frz : Fr fp1.flatten F1 H1 F5 H4 := frO.trans fr5 fun a z => by simp at z
          refine frz.trans (P' := [D0]) (Fr.write List.mem_cons_self) fun a z => ?_
          have : a = D0 := by simpa using z
          subst this
          exact .inr hD
        · have := Ows.append (g := []) (Ows.keep (H' := upd H4 D0 (.lst (acc ++ [v]))) (Sub.refl _) hows5 fun a z => by simp at z) (Ows.one (Ow.keep (H' := upd H4 D0 (.lst (acc ++ [v]))) (Sub.refl _) ow5 fun a z => by simp at z))
          simpa using this
    · have e : i = items.length := by omega
      subst e
      refine .inl ⟨iok.stop _ F Hc fr.fs rel.sub (fun a z => by simp at z) (Nat.le_refl _), ?_⟩
      rw [List.drop_length] at hrest
      simp only [lcD, R.ok.injEq, Prod.mk.injEq] at hrest
      obtain ⟨rfl, rfl⟩ := hrest
      rw [List.append_nil] at hys
      subst hys
      have aftX : Aft false env1 fp1 F1 H1 (backD env1 envd own) fpO F Hc := ⟨fr, fun z => Bool.noConfusion z, hsub⟩
      have aftz : Aft false env fp F0 H (backD env1 envd own) fpO F Hc := (aft1.trans aftX).weak fun z => by cases z
      refine k0 (.ref D0) F Hc fpO [D0] rel aftz ⟨⟨D0, acc, ys0, [], rfl, rfl, hacc, hFD, by omega, hows, rfl⟩, by simp, fun _ a z => ?_, fun i e => by cases e⟩
      have : a = D0 := by simpa using z
      subst this
      exact ⟨hDO, .inr (aft1.fr.gone hD)⟩
theorem r_lcI (xo : XOk G sg W S X) {own : List Nat} {ownN : List (Str × Nat)} {s : Shp} {elt : E} {g : Tg} {k : ItK} {ies ifs : List E} {c : IS} {ps : List (Nat × Shp)} {u : Ts} {ex iter : Expr} {fs : List Expr} {scope : Scope} {pos : Pos} (hg : tgTy c g = some ps) (hown : ∀ i ∈ own, Γ[i]? = some .X) (hps : ps.all (fun q => own.contains q.1) = true)
    (hpe : pur elt = true) (hfl : flat s = true) (hu : u.2 = none) (hcv : cv u.1 s = true) (hblk : blkC S.N S.sc scope ownN = true) (hon : ownN.map (·.2) = own) (hset : noSet iter = true)
    (hI : PI X tg iter (tI G W B Γ (purs ies) true k c ies))
    (hG : ∀ (X' : Cx), XOk G sg Wno (S.blk scope) X' → PG X' tg (tgR G.K g))
    (hT : ∀ (X' : Cx), XOk G sg Wno (S.blk scope) X' → PTs X' fs (tTsI G Wno (setS (wipeS Γ own) ps) ifs))
    (hE : ∀ (X' : Cx), XOk G sg Wno (S.blk scope) X' → PE X' ex (tEx G Wno (setS (wipeS Γ own) ps) elt u)) :
    PE X (.ListComp ex [⟨tg, iter, fs, 0⟩] scope pos) (tE G W B Γ (pur (.lcI own s elt g k ies ifs)) (.lcI own s elt g k ies ifs) (.O s, none)) := by
  have bo : BlkOk X.N X.env.scope scope ownN := blkOk_by (by rw [xo.N, xo.sc]; exact hblk)
  refine PE_imp (pe_lc xo.calm (by rw [xo.N]; exact xo.nd) hI bo (fun s H C cl fp => hG _ (xo.blk s H C cl fp)) (fun s H C cl fp => hT _ (xo.blk s H C cl fp)) (fun s H C cl fp => hE _ (xo.blk s H C cl fp)) (noSet_ok hset)) ?_
  intro σ H Q h
  rw [hon]
  exact lcI_imp hg hown hps hpe hfl hu hcv h
theorem Ows.rev {K : PySem.W.Frag} {F H : Hp} {s : Shp} : ∀ {ds : List D} {vs : List V}, Ows (Ow K F H s) ds vs [] → Ows (Ow K F H s) ds.reverse vs.reverse []
  | [], _, h => by obtain ⟨rfl, _⟩ := h; exact ⟨rfl, rfl⟩
  | d :: ds, _, h => by
    obtain ⟨v, r, f1, f2, rfl, e, h1, h2⟩ := h
    have hf : f1 = [] ∧ f2 = [] := by simpa using e.symm
    obtain ⟨rfl, rfl⟩ := hf
    have := Ows.append (Ows.rev h2) (Ows.one h1)
    simpa using this
theorem r_rev (xo : XOk G sg W S X) {ea : E} {ta : Ts} {a : Expr} {u w : Shp} {j : Nat} {p1 p2 p3 pos : Pos} (ha : PE X a (tE G W B Γ (pur ea) ea ta)) (hw : csh ta.1 = some w) (hg : ge0 w u = true) :
    PE X (.Subscript a (.Slice none none (some (.UnaryOp .USub (.Constant (.int 1) j p1) p2)) p3) pos) (tE G W B Γ (pur (.rev u ea)) (.rev u ea) (.O u, none)) := by
  refine PE_imp (pe_revL ha) ?_
  rintro σ H Q ⟨env, F, fp, rel, k⟩
  simp only [evE] at k
  refine oneO (p := pur ea) (k := fun x env1 => match x with
    | .lst xs => .ok (.lst xs.reverse, env1)
    | _ => .no) oc_KE rel k id ?_
  intro d env1 v F1 H1 fp1 f rel1 aft1 _ o _ k1
  cases d with
  | lst xs =>
    obtain ⟨l, vs, rfl, h1, h2, h3, h4, _⟩ := mem_lst rel1.sub o.ow hw
    refine ⟨l, vs, rfl, by rw [xo.K]; exact h1, fun q n => ?_⟩
    exact KE.lst (p := pur (.rev u ea)) k1 rel1 aft1 n (by rw [List.length_reverse]; exact h2) (Ows.rev (h3.imp fun d v f _ h => Ow.ge0 hg h))
  | _ => exact k1.elim
end
end VC
end

section
set_option Elab.async false
set_option linter.all false
set_option autoImplicit false
set_option maxRecDepth 100000
/-! VC34: enumerate(xs, start=k). -/
namespace VC
open PySem PySem.Spec PyProof.Rows L2 PySem.Calls
/-! ### the walk -/
def Ites (K : PySem.W.Frag) (a : Addr) (c : Int) : It :=
  ⟨fun i H => ∃ (xs : List V) (x : V), SqL K H a xs ∧ xs[i]? = some x, fun i H v H' => ∃ T x, v = .ref T ∧ H T = none ∧ H' = upd H T (.tup [.int (c + (i : Nat)), x]) ∧ ∀ xs, SqL K H a xs → xs[i]? = some x, fun i H => ∃ xs : List V, SqL K H a xs ∧ xs.length ≤ i⟩
section
variable {prog : Program} {w : World} {A : Around} {E : Value → Shared → Prop} {s : Shared}
theorem enum_endC {e it l : Addr} {c : Int} {i : Nat} {items : Array Value} {old : Value} {Q : Option Value → Shared → Prop} (hh : A.handled = none)
    (he : IsEnum s.heap e it c old) (hit : s.heap.IsListIter it l i) (hl : s.heap.IsList l items) (hx : items[i]? = none)
    (hQ : ∀ h', Heap.ExtBut it s.heap h' → Q none { s with heap := h' }) : wpAny (model prog w) A (pyNext (.ref e)) Q E s := by
  have hT : s.TypeIs (.ref e) "enumerate" := ⟨_, he, rfl⟩
  unfold pyNext
  refine wpAny_bind (wpAny_attempt (wpAny_callSpecial?_slot (name := Str.ofString "__next__") hT F.slot_enumerate_next
    (wpAny_call_entry F.slot_enumerate_next hT F.entry_enumerate_next ?_ (F.args_enumerate_next_1 _))))
  show wpAny _ _ (field (.ref e) 2 >>= _) _ _ _
  refine wpAny_bind (wpAny_field he rfl (x := .ref it) rfl ?_)
  refine wpAny_bind (wpAny_nextOf_list_end hh hit hl hx fun h' x he' hx' => ?_)
  obtain ⟨o, ho, hc⟩ := hx'
  refine wpAny_bind (wpAny_isInstance (T := "StopIteration") (b := true) ⟨o, ho, hc⟩ isSubtype_stop ?_)
  exact wpAny_pure (hQ _ he')
theorem callWith_typeK {pos : Pos} {T : String} {first : List Value} {args : List (Bool × Sem Value)} {keywords : List (Option Str × Sem Value)} {Q : Value → Shared → Prop}
    (hplain : args.any (·.1) = false) (hkw : keywords.any (·.1.isNone) = false)
    (h : wpAny (model prog w) A (evalArgs (.type T) true args keywords) (fun a s₁ => wpAny (model prog w) A (call (.type T) (first ++ a.pos) a.kw) Q E s₁) E s) :
    wpAny (model prog w) A (callWith pos (.type T) first args keywords) Q E s := by
  unfold callWith
  refine wpAny_bind (wpAny_holding (wpAny_mono h (fun a s₁ h₁ => wpAny_bind (wpAny_standAt ?_)) fun _ _ x => x))
  simp only [hplain, hkw, Bool.or_false]
  refine wpAny_bind (wpAny_pure ?_)
  exact wpAny_bind (wpAny_mono h₁ (fun r s₂ hr => wpAny_bind (wpAny_holding (wpAny_point (wpAny_pure hr)))) fun _ _ x => x)
end
theorem turn_enumS {P : Program} {w : World} {K : PySem.W.Frag} {elts : List Expr} {kk : Nat} {tpos : Pos} (a e it : Addr) (c : Int) :
    Turn P w K (.Tuple elts kk tpos) (Ites K a c) [e, it] e (fun i h => (∃ old, IsEnum h e it (c + ((i : Nat) : Int)) old) ∧ h.IsListIter it a i ∧ e ≠ it) where
  mem := by simp
  obj := fun i h st b hb => by
    obtain ⟨⟨old, he⟩, ⟨o, ho, hc, hd⟩, _⟩ := st
    have e' : b = e ∨ b = it := by simpa using hb
    rcases e' with z | z
    · rw [z]; exact ⟨_, he, fun v q => nomatch q⟩
    · rw [z]; exact ⟨o, ho, fun v q => by rw [hd] at q; cases q⟩
  keep := fun i h h' st k => let ⟨⟨old, he⟩, hi, hne⟩ := st; ⟨⟨old, k e (by simp) _ he⟩, hi.at fun o q => k it (by simp) o q, hne⟩
  item := by
    intro X hP hw hK hc i pins s σ H E I hf st hg
    subst hP hw hK
    obtain ⟨⟨old, he⟩, hit, hne⟩ := st
    obtain ⟨xs, x, hq, hx⟩ := hg
    obtain ⟨its, rv, p, hz⟩ := I.list hq
    obtain ⟨u, hu, ru⟩ := rv.get hx
    have hel : e < s.heap.objs.size := Heap.lt_size he
    have hil : it < s.heap.objs.size := by obtain ⟨_, q, _⟩ := hit; exact Heap.lt_size q
    have hea : e ≠ a := fun z => by
      obtain ⟨o, ho, _, n, hd⟩ := p.isList
      have he' := he
      unfold IsEnum at he'
      rw [z, ho] at he'
      have := congrArg Obj.data (Option.some.inj he')
      rw [hd] at this; cases this
    have hia : a ≠ it := fun z => by
      obtain ⟨o, ho, _, n, hd⟩ := p.isList
      obtain ⟨o2, ho2, _, hd2⟩ := hit
      rw [← z, ho] at ho2
      cases ho2
      rw [hd] at hd2; cases hd2
    have D := Draws.list (prog := X.prog) (w := X.w) (A := X.A.in1) (I.ok.hd hc) it a hia its.toArray
    refine wpAny_pyNext_enum_itemC D he ⟨hit, p.isList⟩ (by simpa using (List.getElem?_eq_some_iff.mp hu).1) hne (by simp [hne, hea]) fun x' h' tk hP ho hst hT hsz hk => ?_
    have hxu : x' = u := by
      have : its[i]? = some x' := by simpa using hP
      rw [hu] at this; exact (Option.some.inj this).symm
    subst hxu
    refine ⟨_, rfl, wpAny_letOwnedTupleGo_enum (s := { s with heap := h', toks := tk + 1 }) ho fun h'' he' sb => ?_⟩
    have hT2 : h''.get? s.heap.objs.size = some { cls := .type "tuple", data := .seq #[.int (c + (i : Nat)) tk, x'] } := (sb.2 _ (Nat.ne_of_gt hel)).trans hT
    have new : ObjOk X.prog X.w (upd H s.heap.objs.size (.tup [.int (c + (i : Nat)), x])) h'' s.heap.objs.size (.tup [.int (c + (i : Nat)), x]) :=
      ⟨by show 2 ≤ sizeLine; decide, [.int (c + (i : Nat)) tk, x'], .cons ⟨_, rfl⟩ (.cons ru .nil), ⟨_, hT2, rfl, _, rfl⟩⟩
    have I1 : Inv X pins σ (upd H s.heap.objs.size (.tup [.int (c + (i : Nat)), x])) { s with heap := h'', toks := tk + 1 } :=
      I.turnedNew (ch := [e, it]) (fun b ob hb q => (sb.2 b (fun z => hb (by simp [z]))).trans (hk b ob (fun z => hb (by simp [z])) (fun z => hb (by simp [z])) q)) hf (Nat.le_refl _) new
    refine ⟨.ref s.heap.objs.size, _, I1, rfl, ⟨_, x, rfl, I.hok.fresh (Nat.le_refl _), rfl, fun ys hy => by rw [I.list_inj hy hq]; exact hx⟩, ⟨⟨x', ?_⟩, hst.1.at fun o q => (sb.2 it (Ne.symm hne)).trans q, hne⟩, fun b hb => ?_⟩
    · have e1 : c + ((i + 1 : Nat) : Int) = c + (i : Int) + 1 := by omega
      rw [e1]; exact he'
    · have hb' : b < s.heap.objs.size := by
        have e' : b = e ∨ b = it := by simpa using hb
        rcases e' with z | z
        · rw [z]; exact hel
        · rw [z]; exact hil
      rw [upd_ne (Nat.ne_of_lt hb')]
      exact (hf b hb).1
  done := by
    intro X hP hw hK hc i pins s σ H E I hf st hg
    subst hP hw hK
    obtain ⟨⟨old, he⟩, hit, hne⟩ := st
    obtain ⟨xs, hq, hx⟩ := hg
    obtain ⟨its, rv, p, hz⟩ := I.list hq
    obtain ⟨f0, f1, f2, f3, f4, f5⟩ := hf it (by simp)
    have hl := rv.length
    exact enum_endC (I.ok.hd hc) he hit p.isList (by simp; omega) fun h' eb => ⟨rfl, I.turned (t' := s.toks) (fun b o hb q => eb b o hb q) f0 f1 f3 f4 f5⟩
  self := fun A i s Q E st h => let ⟨⟨_, he⟩, _⟩ := st; wpAny_pyIter_enum he h
def iEnumS (K : PySem.W.Frag) (ta tb : TE) : TI := fun σ H R => ta σ H fun v H1 => tb σ H1 fun v2 H2 => ∃ a xs c, v = .ref a ∧ v2 = .int c ∧ (-(2 ^ 62) ≤ c ∧ c < 2 ^ 62) ∧ SqL K H2 a xs ∧ R (Ites K a c) H2
theorem pi_enumS {X : Cx} {e e2 : Expr} {ta tb : TE} {p pos tpos kp : Pos} {elts : List Expr} {kk : Nat} (hg : Gl X "enumerate") (hm : X.mg "enumerate" = none) (ha : PE X e ta) (hb : PE X e2 tb) (hs : starEach [e] X.env = [(false, eval e X.env)]) :
    PI X (.Tuple elts kk tpos) (.Call (.Name "enumerate" p) [e] [⟨some (Str.ofString "start"), e2, kp⟩] pos) (iEnumS X.K ta tb) := by
  refine ⟨fun pins s σ H R I h => ?_⟩
  have hE : eval (.Call (.Name "enumerate" p) [e] [⟨some (Str.ofString "start"), e2, kp⟩] pos) X.env = (do callWith pos (← eval (.Name "enumerate" p) X.env) [] (backTo pos (starEach [e] X.env)) (backToKw pos (keywordEach [⟨some (Str.ofString "start"), e2, kp⟩] X.env))) := rfl
  rw [hE]
  refine wpAny_bind (ld_blt I hg hm boot_enumerate ?_)
  rw [hs]
  refine callWith_typeK rfl rfl ?_
  refine evalArgs_kwB rfl ?_
  refine Calls.spliced_cons (thn (ha.run pins s σ H _ I h) fun u s1 ⟨v, H1, I1, r1, q1⟩ => ?_)
  refine Calls.spliced_nil ?_
  refine kws_cons (thn (hb.run pins s1 σ H1 _ I1 q1) fun u2 s2 ⟨v2, H2, I2, r2, q2⟩ => ?_)
  refine kws_nil ?_
  obtain ⟨a, xs, c, rfl, rfl, hc, hq, q⟩ := q2
  cases r1
  obtain ⟨t, rfl⟩ := r2
  obtain ⟨its, rv, p', hz⟩ := I2.list hq
  show wpAny _ _ (call (.type "enumerate") [.ref a] [(Str.ofString "start", .int c t)]) _ _ _
  refine enum_begins_start (begins_list a its.toArray) p'.isList (by have := hc.1; omega) (by have := hc.2; omega) fun h' he hit hsz hk => wpAny_pyIter_enum he ?_
  have I3 : Inv X pins σ H2 { s2 with heap := h' } := I2.kept (t' := s2.toks) hk
  refine ⟨s2.heap.objs.size + 1, [s2.heap.objs.size + 1, s2.heap.objs.size], _, _, H2, rfl, I3, turn_enumS a (s2.heap.objs.size + 1) s2.heap.objs.size c, ⟨⟨.none, by rw [show c + ((0 : Nat) : Int) = c by omega]; exact he⟩, ⟨_, hit, rfl, rfl⟩, Nat.succ_ne_self _⟩, fun b hb => ?_, q⟩
  have e' : b = s2.heap.objs.size + 1 ∨ b = s2.heap.objs.size := by simpa using hb
  have hle : s2.heap.objs.size ≤ b := by
    rcases e' with z | z
    · rw [z]; exact Nat.le_add_right _ _
    · rw [z]; exact Nat.le_refl _
  exact I2.fpOk hle (I2.hok.fresh hle)
section
variable {K : PySem.W.Frag} {L : List Addr} {F0 H0 : Hp} {l : Addr} {vs : List V} {ds : List D} {c : Shp}
theorem StL.iokES (h : StL K L F0 H0 l vs) (k : Int) (ho : Ows (Ow K F0 H0 c) ds vs []) (hc : flat c = true) : IOk K L F0 H0 (Ites K l k) (enumL k ds) (.tup [.A, c]) where
  go := fun i F H a b e hi => by
    have ln := ho.len
    rw [enumL_len] at hi
    exact ⟨vs, vs[i]'(by omega), h F H a b e, by simp [show i < vs.length by omega]⟩
  stop := fun i F H a b e hi => ⟨vs, h F H a b e, by rw [enumL_len] at hi; rw [ho.len]; exact hi⟩
  yld := fun i d F H x H' a b e t hd hy => by
    obtain ⟨T, x, rfl, n, rfl, hy⟩ := hy
    have hx := hy vs (h F H a b e)
    obtain ⟨d', hd', rfl⟩ := enumL_at _ _ _ _ hd
    obtain ⟨v, q1, q2⟩ := ho.nth0 hd'
    rw [hx] at q1; cases q1
    obtain ⟨p1, p2, p3⟩ := pushT (xs := [.int (k + (i : Nat)), x]) n b t
    exact ⟨_, p1, p2, p3, T, _, _, rfl, rfl, SqT.of upd_same, _, _, _, _, rfl, rfl, ⟨rfl, rfl, rfl⟩, _, _, _, _, rfl, rfl, Ow.keep (a.trans p3.fs) q2 fun a z => by simp at z, rfl, rfl⟩
end
section
variable {G : Gd} {sg : List Sig} {W : WX} {S : SC} {X : Cx} {B : Bs} {Γ : SEnv} {tg : Expr}
theorem oc_KI {σ : L2.St} {p nb : Bool} {k : ItK} {c : IS} {env : Env} {F H : Hp} {fp : Fps} {Q : It → Hp → Prop} : Oc G W B Γ σ (fun r => KI G W B Γ σ p nb k c env F H fp r Q) := ⟨fun h => h, fun _ _ h => h⟩
theorem evEs2 {C : Calls} {a b : E} {env : Env} : evEs C [a, b] env = (evE C a env).bind fun q => (evE C b q.2).bind fun r => .ok ([q.1, r.1], r.2) := by
  simp only [evEs]
  cases evE C a env with
  | ok q =>
    simp only [R.bind_ok]
    cases evE C b q.2 <;> rfl
  | exc x e => rfl
  | no => rfl
theorem r_itS {e e2 : E} {ast ast2 : Expr} {t u : Ts} {c : Shp} {elts : List Expr} {kk : Nat} {tpos p pos kp : Pos} (xo : XOk G sg W S X) (ha : PE X ast (tE G W B Γ (pur e) e t)) (hb : PE X ast2 (tE G W B Γ (pur e2) e2 u)) (ht : t.2.isNone = true) (hq : rdOk u.1 = true) (hc : chW t = some c) (hx : freeB S "enumerate" = true)
    (hs : starEach [ast] X.env = [(false, eval ast X.env)]) :
    PI X (.Tuple elts kk tpos) (.Call (.Name "enumerate" p) [ast] [⟨some (Str.ofString "start"), ast2, kp⟩] pos) (tI G W B Γ (purs [e, e2]) (nbs [t, u]) .enumS (.tup [.A, c]) [e, e2]) := by
  unfold freeB at hx
  simp only [Bool.and_eq_true, List.contains_iff_mem] at hx
  refine PI_imp (pi_enumS (xo.gl hx.1.1) (xo.free _ (by simpa using hx.1.2)) ha hb hs) ?_
  rintro σ H R ⟨env, F, fp, rel, k⟩
  rw [evEs2] at k
  refine twoO (p := purs [e, e2]) (k := fun d1 d2 env2 => .ok ([d1, d2], env2)) oc_KI rel k (fun z => by simpa [purs] using z) (.inl ht) ?_
  intro d d2 env1 v v2 F1 H1 fp1 f1 f2 rel1 aft1 o o2 k2
  have k3 : (match itD .enumS [d, d2] with
    | some items => ∀ (L : List Addr) (J : It) (F1 H1' : Hp) (fp1 : Fps), Rel G.K B Γ env1 F1 fp1 σ H1' → Aft (purs [e, e2]) env fp F H env1 fp1 F1 H1' → (∀ a ∈ L, ∃ o, H1' a = some o) → (nbs [t, u] = true → L = []) → (lcOk .enumS items = true → items.length ≤ lim) → IOk G.K L F1 H1' J items (.tup [.A, c]) → R J H1'
    | none => False) := k2
  cases d <;> cases d2 <;> simp only [itD] at k3
  rename_i xs i
  split at k3
  case h_2 => exact k3.elim
  rename_i items hi
  split at hi
  case isFalse => cases hi
  rename_i q
  cases hi
  have e : v2 = .int i := o2.ow.rp rel1.sub hq
  subst e
  obtain ⟨F2, L, l, vs, rel2, aft2, _, _, rfl, st, hl, hL, hn, _, hf, ms⟩ := chW_lst rel rel1 aft1 o hc
  refine ⟨l, vs, i, rfl, rfl, rng_ok q, by rw [xo.K]; exact st F2 H1 (Sub.refl _) rel2.sub fun _ _ => rfl, ?_⟩
  rw [xo.K]
  exact k3 L _ F2 H1 fp1 rel2 aft2 hL (fun _ => hn (by simpa using ht)) (fun _ => by rw [enumL_len]; exact hl) (st.iokES i ms hf)
end
end VC
end

section
set_option Elab.async false
set_option linter.all false
set_option autoImplicit false
set_option maxRecDepth 100000
/-! VC35: lists within an owned list: x[k].append(e), x[k][j], x[k][j] = e. -/
namespace VC
open PySem PySem.Spec PyProof.Rows L2
section
variable {K : PySem.W.Frag} {F H : Hp}
theorem Ows.pick {s : Shp} : ∀ {ds : List VC.D} {vs : List V} {fp : List Addr} {n : Nat} {d : VC.D}, Ows (Ow K F H s) ds vs fp → ds[n]? = some d →
    ∃ v f1 f f2, vs[n]? = some v ∧ fp = f1 ++ f ++ f2 ∧ Ow K F H s d v f ∧ ∀ (F' H' : Hp) (d' : VC.D) (f' : List Addr), Sub F F' → (∀ a, a ∈ f1 ∨ a ∈ f2 → H' a = H a ∧ F' a = none) → Ow K F' H' s d' v f' → Ows (Ow K F' H' s) (ds.set n d') vs (f1 ++ f' ++ f2)
  | [], _, _, _, _, _, e => by simp at e
  | x :: ds, _, _, 0, d, h, e => by
    obtain ⟨u, r, g1, g2, rfl, rfl, h1, h2⟩ := h
    have e : x = d := by simpa using e
    subst e
    refine ⟨u, [], g1, g2, rfl, by simp, h1, fun F' H' d' f' sF k o => ?_⟩
    rw [List.nil_append, List.set_cons_zero]
    exact ⟨u, r, f', g2, rfl, rfl, o, Ows.keep sF h2 fun a z => k a (.inr z)⟩
  | x :: ds, _, _, n + 1, d, h, e => by
    obtain ⟨u, r, g1, g2, rfl, rfl, h1, h2⟩ := h
    obtain ⟨v, f1, f, f2, q1, rfl, q3, q4⟩ := Ows.pick (n := n) h2 (by simpa using e)
    refine ⟨v, g1 ++ f1, f, f2, by simpa using q1, by simp [List.append_assoc], q3, fun F' H' d' f' sF k o => ?_⟩
    have := q4 F' H' d' f' sF (fun a z => k a (z.imp (fun z => List.mem_append_right _ z) id)) o
    rw [List.set_cons_succ]
    exact ⟨u, r, g1, f1 ++ f' ++ f2, rfl, by simp [List.append_assoc], Ow.keep sF h1 fun a z => k a (.inl (List.mem_append_left _ z)), this⟩
end
/-- x holds the lists ds, the n-th of them xs -/
structure Cell (K : PySem.W.Frag) (F H : Hp) (s : Shp) (ds : List VC.D) (n : Nat) (xs : List VC.D) (v : V) (fv : List Addr) where
  l : Addr
  vs : List V
  l2 : Addr
  ws : List V
  g : List Addr
  f1 : List Addr
  f2 : List Addr
  hv : v = .ref l
  hl : H l = some (.lst vs)
  hF : F l = none
  len : ds.length ≤ lim
  vl : vs.length = ds.length
  at_ : vs[n]? = some (.ref l2)
  hl2 : H l2 = some (.lst ws)
  wl : ws.length = xs.length
  len2 : xs.length ≤ lim
  ow : Ows (Ow K F H s) xs ws g
  fv_ : fv = l :: (f1 ++ (l2 :: g) ++ f2)
  back : ∀ (F' H' : Hp) (ys : List VC.D) (us : List V) (g' : List Addr), Sub F F' → H' l = some (.lst vs) → F' l = none → (∀ a, a ∈ f1 ∨ a ∈ f2 → H' a = H a ∧ F' a = none) → H' l2 = some (.lst us) → F' l2 = none → ys.length ≤ lim → Ows (Ow K F' H' s) ys us g' → Ow K F' H' (.O (.O s)) (.lst (ds.set n (.lst ys))) v (l :: (f1 ++ (l2 :: g') ++ f2))
section
variable {K : PySem.W.Frag} {F H : Hp}
theorem cell {s : Shp} {ds : List VC.D} {n : Nat} {xs : List VC.D} {v : V} {fv : List Addr} (o : Ow K F H (.O (.O s)) (.lst ds) v fv) (e : ds[n]? = some (.lst xs)) : Nonempty (Cell K F H s ds n xs v fv) := by
  have o' := o
  rw [Ow] at o'
  obtain ⟨l, vs, ds', fps, q, rfl, hl, hF, len, os, rfl⟩ := o'
  cases q
  obtain ⟨u, f1, f, f2, q1, rfl, q3, q4⟩ := os.pick e
  rw [Ow] at q3
  obtain ⟨l2, ws, xs', g, q, rfl, hl2, hF2, len2, os2, rfl⟩ := q3
  cases q
  refine ⟨⟨l, vs, l2, ws, g, f1, f2, rfl, hl, hF, len, os.len, q1, hl2, os2.len, len2, os2, rfl, fun F' H' ys us g' sF h1 h2 k h3 h4 ly oy => ?_⟩⟩
  rw [Ow]
  refine ⟨l, vs, _, _, rfl, rfl, h1, h2, by rw [List.length_set]; exact len, q4 F' H' (.lst ys) (l2 :: g') sF k ?_, rfl⟩
  rw [Ow]
  exact ⟨l2, us, ys, g', rfl, rfl, h3, h4, ly, oy, rfl⟩
end
section
variable {G : Gd} {sg : List Sig} {W : WX} {S : SC} {X : Cx} {B : Bs} {Γ : SEnv} {tc : TC}
theorem inL_of {env : Env} {i n : Nat} {j : VC.D} (h : inL env i j = some n) : ∃ ds z xs, env[i]? = some (some (.lst ds)) ∧ j = .int z ∧ VC.ixN ds.length z = some n ∧ ds[n]? = some (.lst xs) := by
  unfold inL at h
  split at h
  · rename_i ds z h1
    split at h
    · rename_i m h2
      split at h
      · rename_i xs h3
        cases h
        exact ⟨ds, z, xs, h1, rfl, h2, h3⟩
      · cases h
    · cases h
  · cases h
theorem atL_eq {env : Env} {i n : Nat} {ds xs : List VC.D} (h1 : env[i]? = some (some (.lst ds))) (h2 : ds[n]? = some (.lst xs)) : atL env i n = some (ds, xs) := by
  unfold atL; rw [h1]; simp only [h2]
theorem ixN_lt {n m : Nat} {z : Int} (h : VC.ixN n z = some m) : m < n := by
  unfold VC.ixN at h
  split at h
  · split at h
    · cases h; omega
    · cases h
  · split at h
    · cases h; omega
    · cases h
/-- the place within is found -/
theorem cell_ix {F H : Hp} {s : Shp} {ds xs : List VC.D} {n : Nat} {v : V} {fv : List Addr} {z : Int} (c : Cell G.K F H s ds n xs v fv) (h : VC.ixN ds.length z = some n) {Q : VK} (q : Q (.ref c.l2) H) : rIx G.K v (.int z) H Q :=
  .inl ⟨c.l, c.vs, z, .ref c.l2, c.hv, rfl, SqL.of c.hl, by unfold L2.atI; rw [c.vl, ← ixN_eq, h]; exact c.at_, q⟩
theorem cell_nd {F H : Hp} {s : Shp} {ds xs : List VC.D} {n : Nat} {v : V} {fv : List Addr} (c : Cell G.K F H s ds n xs v fv) (nd : fv.Nodup) : c.l ∉ c.f1 ++ (c.l2 :: c.g) ++ c.f2 ∧ c.l2 ∉ c.g ∧ c.l2 ∉ c.f1 ∧ c.l2 ∉ c.f2 ∧ c.g.Nodup ∧ (c.f1 ++ (c.l2 :: c.g) ++ c.f2).Nodup := by
  have h := c.fv_
  rw [h] at nd
  obtain ⟨h1, h2⟩ := List.nodup_cons.mp nd
  obtain ⟨a1, a2, a3⟩ := List.nodup_append.mp h2
  obtain ⟨b1, b2, b3⟩ := List.nodup_append.mp a1
  obtain ⟨d1, d2⟩ := List.nodup_cons.mp b2
  exact ⟨h1, d1, fun z => b3 _ z _ List.mem_cons_self rfl, fun z => a3 _ (List.mem_append_right _ List.mem_cons_self) _ z rfl, d2, h2⟩
/-- a write within -/
theorem cell_write {env : Env} {F H : Hp} {fp : Fps} {σ : L2.St} {i n : Nat} {s : Shp} {ds xs ys : List VC.D} {us : List V} {v : V} {fv g' : List Addr} (rel : Rel G.K B Γ env F fp σ H) (hΓ : Γ[i]? = some (.O (.O s))) (e1 : σ[i]? = some (some v)) (e2 : fp[i]? = some fv)
    (c : Cell G.K F H s ds n xs v fv) (ly : ys.length ≤ lim) (oy : Ows (Ow G.K F H s) ys us g') (ng : g'.Nodup) (from' : ∀ a ∈ g', a ∈ c.g ∨ (a ∉ fp.flatten ∧ (a ∈ B.fp ∨ B.H a = none))) :
    Rel G.K B Γ (env.set i (some (.lst (ds.set n (.lst ys))))) F (fp.set i (c.l :: (c.f1 ++ (c.l2 :: g') ++ c.f2))) σ (upd H c.l2 (.lst us)) ∧ (∀ a ∈ c.l :: (c.f1 ++ (c.l2 :: g') ++ c.f2), a ∈ fv ∨ (a ∈ g' ∧ a ∉ fp.flatten)) ∧ c.l2 ∈ fv := by
  have ndf := nd_at rel.nd e2
  obtain ⟨n1, n2, n3, n4, n5, n6⟩ := cell_nd c ndf
  have hfv := c.fv_
  have mf : ∀ a, a ∈ c.l :: (c.f1 ++ (c.l2 :: c.g) ++ c.f2) → a ∈ fv := fun a z => Eq.mpr (congrArg (fun w => a ∈ w) hfv) z
  have memf : ∀ a, a ∈ c.l :: (c.f1 ++ (c.l2 :: c.g) ++ c.f2) → a ∈ fp.flatten := fun a z => mem_at e2 (mf a z)
  have l2in : c.l2 ∈ fv := mf _ (by simp)
  have domF : ∀ a ∈ fv, F a = none := fun a z => (rel.dom a (mem_at e2 z)).2
  have nl2 : c.l2 ∉ g' := fun z => by
    rcases from' _ z with q | q
    · exact n2 q
    · exact q.1 (mem_at e2 l2in)
  have nll : c.l ≠ c.l2 := fun z => n1 (by rw [z]; simp)
  have ow3 := c.back F (upd H c.l2 (.lst us)) ys us g' (Sub.refl _) (by rw [upd_ne nll]; exact c.hl) c.hF (fun a z => ⟨upd_ne fun q => by
      subst q
      exact z.elim n3 n4, domF a (mf a (by rcases z with z | z <;> simp [z]))⟩) upd_same (domF _ l2in) ly (Ows.keep (Sub.refl _) oy fun a z => ⟨upd_ne fun q => nl2 (by rw [← q]; exact z), (Ows.dom oy a z).2⟩)
  have sub' : ∀ a ∈ c.l :: (c.f1 ++ (c.l2 :: g') ++ c.f2), a ∈ fv ∨ (a ∈ g' ∧ a ∉ fp.flatten) := fun a z => by
    have z' : a = c.l ∨ a ∈ c.f1 ∨ a = c.l2 ∨ a ∈ g' ∨ a ∈ c.f2 := by
      simpa [or_assoc] using z
    rcases z' with z | z | z | z | z
    · left; exact mf a (by rw [z]; simp)
    · left; exact mf a (by simp [z])
    · left; rw [z]; exact l2in
    · rcases from' a z with q | q
      · left; exact mf a (by simp [q])
      · exact .inr ⟨z, q.1⟩
    · left; exact mf a (by simp [z])
  have nn : (c.l :: (c.f1 ++ (c.l2 :: g') ++ c.f2)).Nodup := by
    obtain ⟨a1, a2, a3⟩ := List.nodup_append.mp n6
    obtain ⟨b1, b2, b3⟩ := List.nodup_append.mp a1
    have out : ∀ a ∈ g', a ∉ c.g → a ∉ c.l :: (c.f1 ++ (c.l2 :: c.g) ++ c.f2) := fun a z w y => by
      rcases from' a z with q | q
      · exact w q
      · exact q.1 (memf a y)
    have dj : ∀ a ∈ g', a ≠ c.l ∧ a ∉ c.f1 ∧ a ∉ c.f2 := fun a z => by
      by_cases w : a ∈ c.g
      · refine ⟨fun q => n1 (by rw [← q]; simp [w]), fun q => b3 _ q _ (List.mem_cons_of_mem _ w) rfl, fun q => a3 _ (List.mem_append_right _ (List.mem_cons_of_mem _ w)) _ q rfl⟩
      · have := out a z w
        simp only [List.mem_cons, List.mem_append, not_or] at this
        exact ⟨this.1, this.2.1.1, this.2.2⟩
    refine List.nodup_cons.mpr ⟨fun z => ?_, List.nodup_append.mpr ⟨List.nodup_append.mpr ⟨b1, List.nodup_cons.mpr ⟨nl2, ng⟩, fun a ha b hb q => ?_⟩, a2, fun a ha b hb q => ?_⟩⟩
    · have z' : c.l ∈ c.f1 ∨ c.l = c.l2 ∨ c.l ∈ g' ∨ c.l ∈ c.f2 := by simpa [or_assoc] using z
      rcases z' with z | z | z | z
      · exact n1 (by simp [z])
      · exact nll z
      · exact (dj _ z).1 rfl
      · exact n1 (by simp [z])
    · subst q
      rcases List.mem_cons.mp hb with z | z
      · exact n3 (by rw [← z]; exact ha)
      · exact (dj _ z).2.1 ha
    · subst q
      rcases List.mem_append.mp ha with z | z
      · exact a3 _ (List.mem_append_left _ z) _ hb rfl
      · rcases List.mem_cons.mp z with z | z
        · exact n4 (by rw [← z]; exact hb)
        · exact (dj _ z).2.2 hb
  have rel3 := rel.write (t := .O (.O s)) (d := .lst (ds.set n (.lst ys))) (gv := c.l :: (c.f1 ++ (c.l2 :: g') ++ c.f2)) (o := .lst us) e2 l2in (fun xs z => by cases z) e1 ow3 nn (fun a z q => by
    rcases sub' a z with w | w
    · exact w
    · exact absurd q w.2) (fun a z => by
    rcases sub' a z with w | w
    · exact rel.new a (mem_at e2 w)
    · rcases from' a w.1 with y | y
      · exact rel.new a (memf a (by simp [y]))
      · exact y.2)
  rw [set_self hΓ] at rel3
  exact ⟨rel3, sub', l2in⟩
end
end VC
end

section
set_option Elab.async false
set_option linter.all false
set_option autoImplicit false
set_option maxRecDepth 100000
/-! VC36: x[k].append(e), x[k][j], x[k][j] = e: the rules. -/
namespace VC
open PySem PySem.Spec PyProof.Rows L2
section
variable {G : Gd} {sg : List Sig} {W : WX} {S : SC} {X : Cx} {B : Bs} {Γ : SEnv} {tc : TC}
theorem plainIx_of {b : Expr} (hs : noSl b = true) : PlainIx b := by cases b <;> first | exact fun _ _ => rfl | (simp [noSl] at hs; done)
theorem pe_nm (xo : XOk G sg W S X) {i : Nat} {x : Str} {p : Pos} (hv : visB S i x = true) : PE X (.Name x p) (tVar i) := by
  unfold visB at hv
  simp only [Bool.and_eq_true, decide_eq_true_eq, Bool.not_eq_true'] at hv
  obtain ⟨⟨h1, h2⟩, h3⟩ := hv
  obtain ⟨o1, o2, o3⟩ := odd_of h3
  exact pe_var (i := i) (by rw [xo.N]; exact h1) (by rw [xo.sc]; exact vis_of h2) o1 o2
theorem r_app2 (xo : XOk G sg W S X) {i : Nat} {x : Str} {k e : E} {ka a : Expr} {tk t : Ts} {s : Shp} {pos spos apos cpos : Pos} (hv : visB S i x = true) (hΓ : Γ[i]? = some (.O (.O s))) (hk : PE X ka (tE G W B Γ (pur k) k tk)) (hpk : pur k = true) (hkr : rdOk tk.1 = true) (hsl : noSl ka = true)
    (ha : PE X a (tE G W B Γ (pur e) e t)) (hn : t.2 = none) (hc : cv t.1 s = true) (hp : pur e = true) (hl : (apos.endLine == cpos.line) = true) (hs : starEach [a] X.env = [(false, eval a X.env)]) :
    PE X (.Call (.Attribute (.Subscript (.Name x pos) ka spos) "append" apos) [a] [] cpos) (tE G W B Γ false (.app2 i k e) (.A, none)) := by
  refine PE_imp (pe_bm (T := "list") PySem.F.plainAttrs_list PySem.F.slot_list_append PySem.F.type_list_append mt_append (pe_ix ix_seq (pe_nm xo (p := pos) hv) hk (plainIx_of hsl)) (pa_cons ha pa_nil hs) rfl (by simp [backTo, hs, backToKw, keywordEach]) hl hs rfl) ?_
  rintro σ H Q ⟨env, F, fp, rel, k0⟩
  simp only [evE] at k0
  split at k0
  case h_2 => exact k0.elim
  rename_i ds0 hd0
  obtain ⟨v, fv, e1, e2, ow⟩ := rel.e.get hΓ (by simp) hd0
  refine ⟨_, e1, ?_⟩
  refine oneO (O := fun r => KE G W B Γ σ (.A, none) false env F H fp r Q) (p := pur k) (k := fun j env1 => match inL env1 i j with
      | some n => (evE G.C e env1).bind fun p => app2D p.2 i n p.1
      | none => .no) oc_KE rel k0 id ?_
  intro j env1 y1 F1 H1 fp1 g1 rel1 aftx aft1 _ oj k1
  rw [hpk] at aft1
  obtain ⟨rfl, rfl⟩ := aft1.same rfl
  cases hin : inL env1 i j with
  | none => simp only [hin] at k1; exact k1.elim
  | some n =>
  simp only [hin] at k1
  obtain ⟨ds, z, xs, hd, rfl, hz, hdn⟩ := inL_of hin
  rw [hd0] at hd; cases hd
  cases rp_int (oj.rp rel1.sub hkr)
  obtain ⟨v', fv', e1', e2', ow1⟩ := rel1.e.get hΓ (by simp) hd0
  rw [e1] at e1'; cases e1'
  rw [e2] at e2'; cases e2'
  obtain ⟨c⟩ := cell ow1 hdn
  rw [xo.K]
  refine cell_ix c hz ⟨.inl ⟨rfl, c.ws, SqL.of c.hl2⟩, ?_⟩
  refine oneO (O := fun r => KE G W B Γ σ (.A, none) false env1 F H fp1 r Q) (p := pur e) (k := fun d env2 => app2D env2 i n d) oc_KE rel1 k1 id ?_
  intro d env2 y F2 H2 fp2 g2 rel2 aftx2 aft2 _ o k2
  rw [hp] at aft2
  obtain ⟨rfl, rfl⟩ := aft2.same rfl
  rw [hn, hp] at o
  obtain ⟨F3, g', rel3, aft3, ow3, ng, gg, sF, ex⟩ := take rel1 rel2 aft2 o hc
  obtain ⟨v', fv', e1', e2', ow4⟩ := rel3.e.get hΓ (by simp) hd0
  rw [e1] at e1'; cases e1'
  rw [e2] at e2'; cases e2'
  obtain ⟨c2⟩ := cell ow4 hdn
  have fr2 : Fr [] F1 H1 F3 H2 := by simpa [PP] using aft3.fr
  have el : c.l = c2.l := by have := c.hv.symm.trans c2.hv; injection this
  have evs : c.vs = c2.vs := by
    have h1 := fr2.keep _ _ (by simp) c.hl
    rw [el, c2.hl] at h1
    injection h1 with h1; injection h1 with h1; exact h1.symm
  have el2 : c.l2 = c2.l2 := by
    have h1 := c.at_
    rw [evs, c2.at_] at h1
    injection h1 with h1; injection h1 with h1; exact h1.symm
  simp only [app2D, atL_eq hd0 hdn] at k2
  split at k2
  case isFalse => exact k2.elim
  rename_i hlt
  refine ⟨c2.l2, c2.ws, y, by rw [el2], rfl, c2.hl2, by rw [← lim_eq, c2.wl]; exact hlt, ?_⟩
  have gfp : ∀ a ∈ g', a ∉ fp2.flatten := fun a z => (o.own rfl a (gg a z)).1
  obtain ⟨n1, n2, n3, n4, n5, n6⟩ := cell_nd c2 (nd_at rel3.nd e2)
  have cg : ∀ a ∈ c2.g, a ∈ fp2.flatten := fun a z => mem_at e2 (Eq.mpr (congrArg (fun w => a ∈ w) c2.fv_) (by simp [z]))
  obtain ⟨rel4, sub4, l2in⟩ := cell_write (ys := xs ++ [d]) (us := c2.ws ++ [y]) (g' := c2.g ++ g') rel3 hΓ e1 e2 c2 (by rw [List.length_append, List.length_singleton]; omega) (Ows.append c2.ow (Ows.one ow3)) (List.nodup_append.mpr ⟨n5, ng, fun a h1 b h2 q => by subst q; exact gfp a h2 (cg a h1)⟩) (fun a z => by
    rcases List.mem_append.mp z with z | z
    · exact .inl z
    · exact .inr ⟨gfp a z, rel1.pnew (o.own rfl a (gg a z)).2⟩)
  have aftT : Aft true env2 fp2 F H env2 fp2 F3 H2 := aft1.trans aft3
  have aft4 := aftT.write (env2 := env2.set i (some (.lst (ds0.set n (.lst (xs ++ [d])))))) (gv := c2.l :: (c2.f1 ++ (c2.l2 :: (c2.g ++ g')) ++ c2.f2)) (l := c2.l2) (o := .lst (c2.ws ++ [y])) rel3.nd e2 l2in (fun a z => by
    rcases sub4 a z with q | ⟨q, q2⟩
    · exact .inl (mem_at e2 q)
    · right
      rcases List.mem_append.mp q with q | q
      · exact absurd (cg a q) q2
      · rcases (o.own rfl a (gg a q)).2 with w | w
        · simp [PP] at w
        · exact aft1.fr.gone w)
  exact KE.sca (W := W) k2 rel4 aft4 rfl rfl
theorem Ows.fl {K : PySem.W.Frag} {F H : Hp} {s : Shp} (hf : flat s = true) : ∀ {ds : List VC.D} {vs : List V} {fp : List Addr}, Ows (Ow K F H s) ds vs fp → fp = []
  | [], _, _, h => h.2
  | d :: ds, _, _, h => by
    obtain ⟨v, r, f1, f2, rfl, rfl, h1, h2⟩ := h
    rw [flat_fp hf h1, Ows.fl hf h2]; rfl
theorem r_idx2 (xo : XOk G sg W S X) {i : Nat} {x : Str} {k j : E} {ka ja : Expr} {tk tj : Ts} {s : Shp} {pos p1 p2 : Pos} (hv : visB S i x = true) (hΓ : Γ[i]? = some (.O (.O s))) (hk : PE X ka (tE G W B Γ (pur k) k tk)) (hpk : pur k = true) (hkr : rdOk tk.1 = true) (hsl : noSl ka = true)
    (hj : PE X ja (tE G W B Γ (pur j) j tj)) (hpj : pur j = true) (hjr : rdOk tj.1 = true) (hsj : noSl ja = true) (hf : flat s = true) :
    PE X (.Subscript (.Subscript (.Name x pos) ka p1) ja p2) (tE G W B Γ (pur (.idx2 i k j)) (.idx2 i k j) (s, none)) := by
  have hpp : pur (.idx2 i k j) = true := by simp only [pur, hpk, hpj, Bool.and_self]
  rw [hpp]
  refine PE_imp (pe_ix ix_seq (pe_ix ix_seq (pe_nm xo (p := pos) hv) hk (plainIx_of hsl)) hj (plainIx_of hsj)) ?_
  rintro σ H Q ⟨env, F, fp, rel, k0⟩
  simp only [evE] at k0
  split at k0
  case h_2 => exact k0.elim
  rename_i ds0 hd0
  obtain ⟨v, fv, e1, e2, ow⟩ := rel.e.get hΓ (by simp) hd0
  refine ⟨_, e1, ?_⟩
  refine oneO (O := fun r => KE G W B Γ σ (s, none) true env F H fp r Q) (p := pur k) (k := fun a env1 => match inL env1 i a with
      | some n => (evE G.C j env1).bind fun p => idx2D p.2 i n p.1
      | none => .no) oc_KE rel k0 id ?_
  intro a env1 y1 F1 H1 fp1 g1 rel1 aftx aft1 _ oj k1
  rw [hpk] at aft1
  obtain ⟨rfl, rfl⟩ := aft1.same rfl
  cases hin : inL env1 i a with
  | none => simp only [hin] at k1; exact k1.elim
  | some n =>
  simp only [hin] at k1
  obtain ⟨ds, z, xs, hd, rfl, hz, hdn⟩ := inL_of hin
  rw [hd0] at hd; cases hd
  cases rp_int (oj.rp rel1.sub hkr)
  obtain ⟨v', fv', e1', e2', ow1⟩ := rel1.e.get hΓ (by simp) hd0
  rw [e1] at e1'; cases e1'
  rw [e2] at e2'; cases e2'
  obtain ⟨c⟩ := cell ow1 hdn
  rw [xo.K]
  refine cell_ix c hz ?_
  refine oneO (O := fun r => KE G W B Γ σ (s, none) true env1 F H fp1 r Q) (p := pur j) (k := fun b env2 => idx2D env2 i n b) oc_KE rel1 k1 id ?_
  intro b env2 y F2 H2 fp2 g2 rel2 aftx2 aft2 _ o k2
  rw [hpj] at aft2
  obtain ⟨rfl, rfl⟩ := aft2.same rfl
  obtain ⟨v', fv', e1', e2', ow4⟩ := rel2.e.get hΓ (by simp) hd0
  rw [e1] at e1'; cases e1'
  rw [e2] at e2'; cases e2'
  obtain ⟨c2⟩ := cell ow4 hdn
  have fr2 : Fr [] F1 H1 F2 H2 := by simpa [PP] using aft2.fr
  have el : c.l = c2.l := by have := c.hv.symm.trans c2.hv; injection this
  have evs : c.vs = c2.vs := by
    have h1 := fr2.keep _ _ (by simp) c.hl
    rw [el, c2.hl] at h1
    injection h1 with h1; injection h1 with h1; exact h1.symm
  have el2 : c.l2 = c2.l2 := by
    have h1 := c.at_
    rw [evs, c2.at_] at h1
    injection h1 with h1; injection h1 with h1; exact h1.symm
  simp only [idx2D, atL_eq hd0 hdn] at k2
  cases e : idxD (.lst xs) b with
  | none => rw [e] at k2; exact k2.elim
  | some w =>
  rw [e] at k2
  obtain ⟨z2, rfl⟩ : ∃ z2, b = .int z2 := by cases b <;> simp only [idxD, reduceCtorEq] at e; exact ⟨_, rfl⟩
  simp only [idxD, Option.bind_eq_some_iff] at e
  obtain ⟨m, hm, hw⟩ := e
  have ey : y = .int z2 := rp_int (o.rp rel2.sub hjr)
  subst ey
  have g0 := Ows.fl hf c2.ow
  obtain ⟨u, hu, ou⟩ := Ows.get0 (g0 ▸ c2.ow) hw
  have aftT : Aft true env2 fp2 F H env2 fp2 F2 H2 := aft1.trans aft2
  refine .inl ⟨c2.l2, c2.ws, z2, u, by rw [el2], rfl, SqL.of c2.hl2, ?_, k2 u F2 H2 fp2 [] rel2 aftT (VOk.flat0 ou)⟩
  unfold L2.atI
  rw [c2.wl, ← ixN_eq, hm]; exact hu
end
section
variable {G : Gd} {sg : List Sig} {W Wb : WX} {S : SC} {X : Cx} {B : Bs} {Γ : SEnv} {tc : TC} {tg : Expr} {ro : List Nat} {m : List Shp} {rt : Shp} {lp : Option SEnv} {Γ' : Option SEnv} {D : Ends}
theorem r_set2 (xo : XOk G sg W S X) {i : Nat} {s : Shp} {x : Str} {k j e : E} {t tk tj : Ts} {ast ka ja : Expr} {p p1 p2 pos : Pos} (hx : visB S i x = true) (hΓ : Γ[i]? = some (.O (.O s))) (ha : ∀ B, PE X ast (tE G W B Γ (pur e) e t)) (hn : t.2 = none) (hc : cv t.1 s = true)
    (hk : ∀ B, PE X ka (tE G W B Γ (pur k) k tk)) (hpk : pur k = true) (hkr : rdOk tk.1 = true) (hsl : noSl ka = true) (hj : ∀ B, PE X ja (tE G W B Γ (pur j) j tj)) (hpj : pur j = true) (hjr : rdOk tj.1 = true) (hs : noComp ast = true) (io : ∀ j ∈ ro, Γ[j]? = m[j]?)
    (hasg : ∀ v, assign (.Subscript (.Subscript (.Name x p) ka p1) ja p2) X.env v = (do
      let ov ← holding [v] (eval (.Subscript (.Name x p) ka p1) X.env)
      let iv ← holding [v, ov] (eval ja X.env)
      standAt p2
      holding [v, ov, iv] (setItem ov iv v)
      release [v, ov, iv] [])) : PS X (.Assign [.Subscript (.Subscript (.Name x p) ka p1) ja p2] ast pos) (tS G W ro m rt lp Γ (.set2 i k j e) (some Γ)) := by
  have hsw : swapsWithSole [.Subscript (.Subscript (.Name x p) ka p1) ja p2] ast pos.line X.env = pure false := by show swapsWith ast (some (.Subscript (.Subscript (.Name x p) ka p1) ja p2)) pos.line X.env = pure false; exact noComp_ok hs
  have hw : swappedStores [.Subscript (.Subscript (.Name x p) ka p1) ja p2] ast X.env = pure none := rfl
  refine PS_imp (ps_asg (r_EB (ro := ro) ha) (pg_sub (pe_ix ix_seq (pe_nm xo (p := p) hx) (r_EB (ro := ro) hk) (plainIx_of hsl)) (r_EB (ro := ro) hj) set_list hasg) hsw hw rfl) ?_
  rintro D σ H ⟨B, env, F, fp, hB, rel, k0⟩
  simp only [evS] at k0
  refine ⟨B, hB, env, F, fp, rel, k0.e (fun j hj => io j (hB ▸ hj)) ?_⟩
  clear k0
  intro d env1 v F1 H1 fp1 fv rel1 aft1 o k0
  simp only [R.bind_ok] at k0
  obtain ⟨F2, g', rel2, ow, ng, ap, nw, sb⟩ := take1 rel rel1 aft1 o hn hc
  split at k0
  case h_2 => exact k0.elim
  rename_i ds0 hd0
  obtain ⟨lv, f, e1, e2, owl⟩ := rel2.e.get hΓ (by simp) hd0
  refine ⟨lv, e1, B, hB, env1, F2, fp1, rel2, k0.e (p := pur k) (fun j hj => io j (hB ▸ hj)) ?_⟩
  clear k0
  intro a env2 va F3 H3 fp3 fa rel3 aft3 oa k0
  rw [hpk] at aft3
  obtain ⟨rfl, rfl⟩ := aft3.same rfl
  cases hin : inL env2 i a with
  | none => simp only [hin] at k0; exact k0.elim
  | some n =>
  simp only [hin] at k0
  obtain ⟨ds, z, xs, hd, rfl, hz, hdn⟩ := inL_of hin
  rw [hd0] at hd; cases hd
  have ez : va = .int z := oa.ow.rp rel3.sub hkr
  subst ez
  obtain ⟨v', fv', e1', e2', ow1⟩ := rel3.e.get hΓ (by simp) hd0
  rw [e1] at e1'; cases e1'
  rw [e2] at e2'; cases e2'
  obtain ⟨c⟩ := cell ow1 hdn
  rw [xo.K]
  refine cell_ix c hz ⟨B, hB, env2, F3, fp3, rel3, k0.e (p := pur j) (fun j hj => io j (hB ▸ hj)) ?_⟩
  clear k0
  intro b env3 vb F4 H4 fp4 fb rel4 aft4 ob k0
  rw [hpj] at aft4
  obtain ⟨rfl, rfl⟩ := aft4.same rfl
  have fr3 : Fr [] F2 H1 F3 H3 := by simpa [PP] using aft3.fr
  have fr4 : Fr [] F3 H3 F4 H4 := by simpa [PP] using aft4.fr
  have ow4 := Ow.step fr4 (Ow.step fr3 ow)
  obtain ⟨v', fv', e1', e2', owc⟩ := rel4.e.get hΓ (by simp) hd0
  rw [e1] at e1'; cases e1'
  rw [e2] at e2'; cases e2'
  obtain ⟨c2⟩ := cell owc hdn
  have el : c.l = c2.l := by have := c.hv.symm.trans c2.hv; injection this
  have evs : c.vs = c2.vs := by
    have h1 := fr4.keep _ _ (by simp) c.hl
    rw [el, c2.hl] at h1
    injection h1 with h1; injection h1 with h1; exact h1.symm
  have el2 : c.l2 = c2.l2 := by
    have h1 := c.at_
    rw [evs, c2.at_] at h1
    injection h1 with h1; injection h1 with h1; exact h1.symm
  simp only [set2D, atL_eq hd0 hdn] at k0
  cases b <;> simp only [R.bind_no] at k0 <;> try exact k0.elim
  rename_i z2
  have ez : vb = .int z2 := ob.ow.rp rel4.sub hjr
  subst ez
  cases hix : VC.ixN xs.length z2 with
  | none => simp only [hix, R.bind_no] at k0; exact k0.elim
  | some m2 =>
  simp only [hix, R.bind_ok] at k0
  refine ⟨c2.l2, c2.ws, z2, m2, by rw [el2], rfl, c2.hl2, by rw [c2.wl, ← ixN_eq]; exact hix, ?_⟩
  obtain ⟨n1, n2, n3, n4, n5, n6⟩ := cell_nd c2 (nd_at rel4.nd e2)
  have cg : ∀ a ∈ c2.g, a ∈ fp4.flatten := fun a z => mem_at e2 (Eq.mpr (congrArg (fun w => a ∈ w) c2.fv_) (by simp [z]))
  obtain ⟨fp', os', nd', from'⟩ := c2.ow.set (n := m2) n5 ow4 ng (fun a z q => ap a z (cg a q)) (ixN_lt hix)
  obtain ⟨rel5, sub5, l2in⟩ := cell_write (ys := xs.set m2 d) (us := c2.ws.set m2 v) (g' := fp') rel4 hΓ e1 e2 c2 (by rw [List.length_set]; exact c2.len2) os' nd' (fun a z => by
    rcases from' a z with z | z
    · exact .inl z
    · exact .inr ⟨ap a z, nw a z⟩)
  exact k0 _ rfl _ _ _ _ rel5
theorem r_unl (xo : XOk G sg W S X) {is : List Nat} {e : E} {t : Ts} {ast : Expr} {es : List Expr} {kk : Nat} {p pos : Pos} (hx : stNs S is es = true) (ha : ∀ B, PE X ast (tE G W B Γ (pur e) e t)) (hn : t.2 = none) (hf : flat t.1 = true) (hi : ∀ i ∈ is, i < Γ.length ∧ i ∉ ro) (hu : unpB ast = true) (hs : noComp ast = true) (io : ∀ j ∈ ro, Γ[j]? = m[j]?) :
    PS X (.Assign [.Tuple es kk p] ast pos) (tS G W ro m rt lp Γ (.unl is e) (some (setS Γ (is.map fun i => (i, t.1))))) := by
  have hsw : swapsWithSole [.Tuple es kk p] ast pos.line X.env = pure false := by show swapsWith ast (some (.Tuple es kk p)) pos.line X.env = pure false; exact noComp_ok hs
  obtain ⟨l, a⟩ := stNs_len hx
  have pg := pg_unl (pos := p) (k := kk) xo.calm (r_names xo hx) (n := is.length) (by rw [(a X.env).2.1, l]) (a X.env).1
  rw [xo.K] at pg
  refine PS_imp (ps_asg (r_EB (ro := ro) ha) pg hsw (swap_none hu) rfl) ?_
  rintro D σ H ⟨B, env, F, fp, hB, rel, k⟩
  simp only [evS] at k
  refine ⟨B, hB, env, F, fp, rel, k.e (fun j hj => io j (hB ▸ hj)) ?_⟩
  clear k
  intro d env1 v F1 H1 fp1 fv rel1 aft1 o k
  cases d <;> try exact k.elim
  rename_i ds
  cases hsa : setAll env1 is ds with
  | none => simp only [hsa] at k; exact k.elim
  | some env' =>
    simp only [hsa] at k
    have ow := o.ow
    have : fv = [] := flat_fp hf ow
    subst this
    obtain ⟨q, vs, rfl, sq, hl, ms, _⟩ := mem_lst rel1.sub ow (flat_csh hf)
    have lz := setAll_len hsa
    have mm := mems_of is ms lz
    obtain ⟨σ', fp', b, kq⟩ := gList_ok rel1 mm (by simp) (fun i hi' => by rw [hB]; exact hi i hi') hsa
    have ez : is.zip (is.map fun _ => t.1) = is.map fun i => (i, t.1) := by
      clear hx pg hsw rel k lz mm hsa kq b hi l a
      induction is with
      | nil => rfl
      | cons i is ih => simp [ih]
    refine ⟨q, vs, rfl, sq, by rw [ms.len, lz], kq _ ?_⟩
    have r := b.rel
    rw [ez] at r
    exact k _ rfl _ _ _ _ r
end
end VC
end

section
set_option Elab.async false
set_option linter.all false
set_option autoImplicit false
set_option maxRecDepth 100000
/-! VC16: the text of an expression; the main theorem for expressions. -/
namespace VC
open PySem PySem.Spec L2

def noStar : Expr → Bool
  | .Starred _ _ => false
  | _ => true
/-- what a walk's text holds -/
def itB (S : SC) (k : ItK) (iter : Expr) : Option (List Expr) :=
  match k with
  | .e => some [iter]
  | .rng1 => (match iter with | .Call (.Name x _) [a] [] _ => if decide (x = Str.ofString "range") && freeB S x then some [a] else none | _ => none)
  | .rng2 => (match iter with | .Call (.Name x _) [a, b] [] _ => if decide (x = Str.ofString "range") && freeB S x then some [a, b] else none | _ => none)
  | .enum => (match iter with | .Call (.Name x _) [a] [] _ => if decide (x = Str.ofString "enumerate") && freeB S x then some [a] else none | _ => none)
  | .zip => (match iter with | .Call (.Name x _) [a, b] [] _ => if decide (x = Str.ofString "zip") && freeB S x then some [a, b] else none | _ => none)
  | .enumS => (match iter with | .Call (.Name x _) [a] [⟨some y, b, _⟩] _ => if decide (x = Str.ofString "enumerate") && decide (y = Str.ofString "start") && freeB S x then some [a, b] else none | _ => none)
/-- it may be asked whether it is true -/
def okT : E → Bool
  | .not a => okT a
  | .and es => true
  | .or es => true
  | .neg _ => false
  | .ite _ _ _ => false
  | _ => true
def ownN (S : SC) (own : List Nat) : List (Str × Nat) := own.map fun i => (S.N.getD i "", i)
mutual
/-- ast is the text of the expression -/
def mE : E → SC → Expr → Bool
  | .var i, S, ast => (match ast with | .Name x _ => visB S i x | _ => false)
  | .non, S, ast => (match ast with | .Constant .none _ _ => true | _ => false)
  | .bl b, S, ast => (match ast with | .Constant (.bool c) _ _ => decide (b = c) | _ => false)
  | .int i, S, ast => (match ast with | .Constant (.int j) _ _ => decide (i = j) | .Name x _ => cstB S x (.inl i) | _ => false)
  | .str x, S, ast => (match ast with | .Constant (.str y) _ _ => decide (x = y) | .Name y _ => cstB S y (.inr x) | _ => false)
  | .tup es, S, ast => (match ast with | .Tuple as _ _ => mEs es S as | _ => false)
  | .lst _ es, S, ast => (match ast with | .List as _ => mEs es S as | _ => false)
  | .bin o a b, S, ast => (match ast with | .BinOp a' op b' _ => opB o op && mE a S a' && mE b S b' | _ => false)
  | .neg a, S, ast => (match ast with | .UnaryOp .USub a' _ => mE a S a' | _ => false)
  | .cmp o a b, S, ast => (match ast with | .Compare a' [op] [b'] _ => cmpB o op && !behindInMarks op b' && mE a S a' && mE b S b' | _ => false)
  | .chn o o' a b c, S, ast => (match ast with | .Compare a' [op, op'] [b', c'] _ => cmpB o op && cmpB o' op' && !behindInMarks op' c' && mE a S a' && mE b S b' && mE c S c' | _ => false)
  | .not a, S, ast => (match ast with | .UnaryOp .Not a' _ => mE a S a' | _ => false)
  | .and es, S, ast => (match ast with | .BoolOp .And as _ => !es.isEmpty && es.all okT && mEs es S as | _ => false)
  | .or es, S, ast => (match ast with | .BoolOp .Or as _ => !es.isEmpty && es.all okT && mEs es S as | _ => false)
  | .ite c a b, S, ast => (match ast with | .IfExp c' a' b' _ => okT c && mE c S c' && mE a S a' && mE b S b' | _ => false)
  | .idx a i, S, ast => (match ast with | .Subscript a' i' _ => noSl i' && mE a S a' && mE i S i' | _ => false)
  | .slc _ k a bs, S, ast => (match ast with
    | .Subscript a' (.Slice l u none _) _ => mE a S a' && (match k, l, u with
      | .lo, some b', none => mEs bs S [b']
      | .hi, none, some b' => mEs bs S [b']
      | .both, some b', some c' => mEs bs S [b', c']
      | _, _, _ => false)
    | _ => false)
  | .call f _ args, S, ast => (match ast with | .Call (.Name x _) (e :: es) [] _ => gloB S x f && mEs args S (e :: es) | _ => false)
  | .bi b args, S, ast => (match b with
    | .isI t => (match ast with | .Call (.Name x _) [a, .Name y _] [] _ => decide (x = Str.ofString "isinstance") && freeB S x && decide (y = Str.ofString (tyN t)) && freeB S y && mEs args S [a] | _ => false)
    | b => (match ast with | .Call (.Name x _) (e :: es) [] _ => decide (x = Str.ofString (biN b).1) && freeB S x && decide (args.length = (biN b).2.2) && mEs args S (e :: es) | _ => false))
  | .lc own _ elt g k ies ifs, S, ast => (match ast with
    | .ListComp elt' [⟨tg, iter, fs, 0⟩] scope _ => blkC S.N S.sc scope (ownN S own) && tgB (S.blk scope) g tg && noSet iter && (match itB S k iter with | some as => mEs ies S as | none => false) && mEs ifs (S.blk scope) fs && ifs.all okT && mE elt (S.blk scope) elt'
    | _ => false)
  | .m2 o a b, S, ast => (match ast with | .Call (.Attribute a' m apos) [b'] [] cpos => decide (m = Str.ofString (m2N o)) && notCall a' && (apos.endLine == cpos.line) && noStar b' && mE a S a' && mE b S b' | _ => false)
  | .rev _ a, S, ast => (match ast with | .Subscript a' (.Slice none none (some (.UnaryOp .USub (.Constant (.int j) _ _) _)) _) _ => decide (j = 1) && mE a S a' | _ => false)
  | .lcI own _ elt g k ies ifs, S, ast => (match ast with
    | .ListComp elt' [⟨tg, iter, fs, 0⟩] scope _ => blkC S.N S.sc scope (ownN S own) && tgB (S.blk scope) g tg && noSet iter && (match itB S k iter with | some as => mEs ies S as | none => false) && mEs ifs (S.blk scope) fs && ifs.all okT && mE elt (S.blk scope) elt'
    | _ => false)
  | .dnew _ _, _, ast => (match ast with | .Dict [] [] _ => true | _ => false)
  | .dget2 _ a k x, S, ast => (match ast with | .Call (.Attribute a' m apos) [k', x'] [] cpos => decide (m = Str.ofString "get") && notCall a' && (apos.endLine == cpos.line) && noStar k' && noStar x' && mE a S a' && mE k S k' && mE x S x' | _ => false)
  | .lc2 own _ _ elt g k ies ifs g1 k1 ies1 ifs1, S, ast => (match ast with
    | .ListComp elt' [⟨tg, iter, fs, 0⟩, ⟨tg1, iter1, fs1, 0⟩] scope _ => blkC S.N S.sc scope (ownN S own) && tgB (S.blk scope) g tg && noSet iter && (match itB S k iter with | some as => mEs ies S as | none => false) && mEs ifs (S.blk scope) fs && ifs.all okT && tgB (S.blk scope) g1 tg1 && noSet iter1 && (match itB (S.blk scope) k1 iter1 with | some as => mEs ies1 (S.blk scope) as | none => false) && mEs ifs1 (S.blk scope) fs1 && ifs1.all okT && mE elt (S.blk scope) elt'
    | _ => false)
  | .app i e, S, ast => (match ast with | .Call (.Attribute (.Name x _) m apos) [a] [] cpos => visB S i x && decide (m = Str.ofString "append") && (apos.endLine == cpos.line) && noStar a && mE e S a | _ => false)
  | .app2 i k e, S, ast => (match ast with | .Call (.Attribute (.Subscript (.Name x _) ka _) m apos) [a] [] cpos => visB S i x && decide (m = Str.ofString "append") && (apos.endLine == cpos.line) && noStar a && noSl ka && mE k S ka && mE e S a | _ => false)
  | .idx2 i k j, S, ast => (match ast with | .Subscript (.Subscript (.Name x _) ka _) ja _ => visB S i x && noSl ka && noSl ja && mE k S ka && mE j S ja | _ => false)
def mEs : List E → SC → List Expr → Bool
  | [], _, as => as.isEmpty
  | e :: es, S, as => (match as with | a :: r => noStar a && mE e S a && mEs es S r | [] => false)
end

section
variable {G : Gd} {sg : List Sig} {tc : TC}
theorem star_cons {a : Expr} {as : List Expr} {env : PySem.Env} (h : noStar a = true) : starEach (a :: as) env = (false, eval a env) :: starEach as env := by
  cases a <;> first | rfl | cases h
theorem star_plain : ∀ {es : List E} {as : List Expr} {S : SC} {env : PySem.Env}, mEs es S as = true → ∀ p ∈ starEach as env, p.1 = false
  | [], as, S, env, h => by
    simp only [mEs, List.isEmpty_iff] at h
    subst h
    intro p hp
    simp [starEach] at hp
  | e :: es, as, S, env, h => by
    cases as with
    | nil => simp [mEs] at h
    | cons a r =>
      simp only [mEs, Bool.and_eq_true] at h
      intro p hp
      rw [star_cons h.1.1] at hp
      rcases List.mem_cons.mp hp with rfl | z
      · rfl
      · exact star_plain h.2 p z
theorem back_plain {l : List (Bool × Sem Value)} {pos : Pos} (h : ∀ p ∈ l, p.1 = false) : (backTo pos l).any (·.1) = false := by
  rw [List.any_eq_false]
  intro p hp
  have : ∃ q ∈ l, p.1 = q.1 := by
    unfold backTo at hp
    obtain ⟨q, hq, e⟩ := List.mem_map.mp hp
    exact ⟨q, hq, by rw [← e]⟩
  obtain ⟨q, hq, e⟩ := this
  rw [e, h q hq]; simp
theorem tys_len {Γ : SEnv} : ∀ {es : List E} {ts : List Ts}, tys tc Γ es = some ts → ts.length = es.length
  | [], ts, h => by simp [tys] at h; subst h; rfl
  | e :: es, ts, h => by
    simp only [tys] at h
    split at h
    · rename_i t tr h1 h2
      split at h
      · cases h; simp [tys_len h2]
      · cases h
    · cases h
theorem mEs_len : ∀ {es : List E} {as : List Expr} {S : SC}, mEs es S as = true → as.length = es.length
  | [], as, S, h => by simp only [mEs, List.isEmpty_iff] at h; subst h; rfl
  | e :: es, [], S, h => by simp [mEs] at h
  | e :: es, a :: r, S, h => by simp only [mEs, Bool.and_eq_true] at h; simp [mEs_len h.2]
/-- what a name owns is known -/
theorem ty_bor {Γ : SEnv} {e : E} {t : Ts} {i : Nat} (h : ty tc Γ e = some t) (hi : t.2 = some i) : Γ[i]? = some t.1 := by
  have none_of : ∀ {o : Option Shp}, o.map (fun s => (s, (none : Option Nat))) = some t → False := fun {o} h => by
    cases o with
    | none => cases h
    | some s => simp at h; subst h; cases hi
  cases e with
  | var j =>
    simp only [ty] at h
    split at h
    · rename_i s hs
      split at h
      · cases h; cases hi
      · split at h
        · cases h; cases hi; exact hs
        · cases h
    · cases h
  | _ =>
    simp only [ty] at h
    exfalso
    repeat' first
      | (cases h; cases hi; done)
      | (cases h; done)
      | exact none_of h
      | split at h
theorem tys_bor {Γ : SEnv} : ∀ {es : List E} {ts : List Ts}, tys tc Γ es = some ts → ∀ s i, (s, some i) ∈ ts → Γ[i]? = some s
  | [], ts, h, s, i, m => by simp [tys] at h; subst h; simp at m
  | e :: es, ts, h, s, i, m => by
    simp only [tys] at h
    split at h
    · rename_i t tr h1 h2
      split at h
      · cases h
        rcases List.mem_cons.mp m with z | z
        · have := ty_bor h1 (i := i) (by rw [← z])
          rw [← z] at this; exact this
        · exact tys_bor h2 s i z
      · cases h
    · cases h
end
end VC
end

section
set_option Elab.async false
set_option linter.all false
set_option autoImplicit false
set_option maxRecDepth 100000
/-! VC17: the main theorem for expressions. -/
namespace VC
open PySem PySem.Spec L2

section
variable (G : Gd) (sg : List Sig) (tc : TC)
def SE (e : E) : Prop := ∀ (S : SC) (W : WX) (X : Cx) (Γ : SEnv) (ast : Expr) (t : Ts), XOk G sg W S X → mE e S ast = true → ty tc Γ e = some t → (∀ B, PE X ast (tE G W B Γ (pur e) e t)) ∧ (okT e = true → rdOk t.1 = true → ∀ B, PT X ast (tTt G W B Γ (pur e) e))
def SL (es : List E) : Prop := ∀ (S : SC) (W : WX) (X : Cx) (Γ : SEnv) (as : List Expr) (ts : List Ts), XOk G sg W S X → mEs es S as = true → tys tc Γ es = some ts → (∀ B, PA X as (tEs G W B Γ (purs es) es ts)) ∧ (∀ B, PEl G W B Γ X es ts as) ∧ (es.all okT = true → (ts.all fun t => rdOk t.1) = true → ∀ B, PTl G W B Γ X es as)
end
section
variable {G : Gd} {sg : List Sig} {tc : TC}
/-- by its value alone -/
theorem SE.mk {e : E} {S : SC} {W : WX} {X : Cx} {Γ : SEnv} {ast : Expr} {t : Ts} (xo : XOk G sg W S X) (hp : ∀ B, PE X ast (tE G W B Γ (pur e) e t)) (hs : plainT ast = true) : (∀ B, PE X ast (tE G W B Γ (pur e) e t)) ∧ (okT e = true → rdOk t.1 = true → ∀ B, PT X ast (tTt G W B Γ (pur e) e)) :=
  ⟨hp, fun _ q B => rt_gen xo (hp B) q hs⟩
theorem okB {o : CmpOp} {b : Expr} (h : (!behindInMarks o b) = true) : behindInMarks o b = false := by simpa using h
theorem isA_of {ts : List Ts} (h : (ts.all fun t => mtA t && t.2.isNone) = true) : ∀ t ∈ ts, t = ((.A, none) : Ts) := fun t ht => by
  have := List.all_eq_true.mp h t ht
  rw [Bool.and_eq_true, Option.isNone_iff_eq_none] at this
  obtain ⟨a, b⟩ := t
  have h1 : a = .A := mtA_eq (t := (a, b)) this.1
  have h2 : b = none := this.2
  rw [h1, h2]
theorem isA_rd {ts : List Ts} (h : ∀ t ∈ ts, t = ((.A, none) : Ts)) : (ts.all fun t => rdOk t.1) = true := List.all_eq_true.mpr fun t ht => by rw [h t ht]; rfl
theorem ownN_snd (S : SC) (own : List Nat) : (ownN S own).map (·.2) = own := by
  unfold ownN
  rw [List.map_map]
  exact List.map_id' own
theorem itP {S : SC} {W : WX} {X : Cx} {Γ : SEnv} {B : Bs} {k : ItK} {ies : List E} {iter tg : Expr} {as : List Expr} {ts : List Ts} {c : IS} {g : Tg} {ps : List (Nat × Shp)} {S' : SC} (xo : XOk G sg W S X) (hb : itB S k iter = some as) (hm : mEs ies S as = true) (ht : tys tc Γ ies = some ts) (hc : isOf k ts = some c) (hg : tgTy c g = some ps) (htg : tgB S' g tg = true) (h : SL G sg tc ies) :
    PI X tg iter (tI G W B Γ (purs ies) (nbs ts) k c ies) := by
  obtain ⟨pa, pl, _⟩ := h S W X Γ as ts xo hm ht
  have l1 := tys_len ht
  have l2 := mEs_len hm
  have tup : ∀ cs, c = .tup cs → ∃ es kk p, tg = .Tuple es kk p := fun cs e => by
    subst e
    cases g with
    | nm i => simp [tgTy] at hg
    | tp is =>
      cases tg <;> simp only [tgB, reduceCtorEq] at htg
      exact ⟨_, _, _, rfl⟩
  cases k with
  | e =>
    simp only [itB, Option.some.injEq] at hb
    subst hb
    match ies, ts, l1, l2 with
    | [e], [t], _, _ =>
      simp only [isOf, Option.map_eq_some_iff] at hc
      obtain ⟨c', h1, rfl⟩ := hc
      obtain ⟨t', tr, a, r, e1, e2, pe, _⟩ := pl B
      cases e1; cases e2
      exact r_itE xo pe h1
    | [], _, _, l2 => simp at l2
    | _ :: _ :: _, _, _, l2 => simp at l2
    | [_], [], l1, _ => simp at l1
    | [_], _ :: _ :: _, l1, _ => simp at l1
  | rng1 =>
    simp only [itB] at hb
    split at hb
    case h_2 => cases hb
    rename_i x p a pos
    split at hb
    case isFalse => cases hb
    rename_i hx
    cases hb
    simp only [Bool.and_eq_true, decide_eq_true_eq] at hx
    obtain ⟨rfl, hx⟩ := hx
    match ies, ts, l1, l2 with
    | [e], [t], _, _ =>
      simp only [isOf] at hc
      split at hc
      case isFalse => cases hc
      rename_i q
      cases hc
      simp only [mEs, Bool.and_eq_true] at hm
      exact r_itR1 xo (pa B) q hx (by rw [star_cons hm.1.1]; rfl)
    | [], _, _, l2 => simp at l2
    | _ :: _ :: _, _, _, l2 => simp at l2
    | [_], [], l1, _ => simp at l1
    | [_], _ :: _ :: _, l1, _ => simp at l1
  | rng2 =>
    simp only [itB] at hb
    split at hb
    case h_2 => cases hb
    rename_i x p a b pos
    split at hb
    case isFalse => cases hb
    rename_i hx
    cases hb
    simp only [Bool.and_eq_true, decide_eq_true_eq] at hx
    obtain ⟨rfl, hx⟩ := hx
    match ies, ts, l1, l2 with
    | [e, e2], [t, u], _, _ =>
      simp only [isOf] at hc
      split at hc
      case isFalse => cases hc
      rename_i q
      cases hc
      simp only [Bool.and_eq_true] at q
      simp only [mEs, Bool.and_eq_true] at hm
      exact r_itR2 xo (pa B) q.1.1.1 q.1.1.2 hx (by rw [star_cons hm.1.1, star_cons hm.2.1.1]; rfl) (by rw [star_cons hm.2.1.1]; rfl)
    | [], _, _, l2 => simp at l2
    | [_], _, _, l2 => simp at l2
    | _ :: _ :: _ :: _, _, _, l2 => simp at l2
    | [_, _], [], l1, _ => simp at l1
    | [_, _], [_], l1, _ => simp at l1
    | [_, _], _ :: _ :: _ :: _, l1, _ => simp at l1
  | enum =>
    simp only [itB] at hb
    split at hb
    case h_2 => cases hb
    rename_i x p a pos
    split at hb
    case isFalse => cases hb
    rename_i hx
    cases hb
    simp only [Bool.and_eq_true, decide_eq_true_eq] at hx
    obtain ⟨rfl, hx⟩ := hx
    match ies, ts, l1, l2 with
    | [e], [t], _, _ =>
      simp only [isOf, Option.map_eq_some_iff] at hc
      obtain ⟨c', h1, rfl⟩ := hc
      simp only [mEs, Bool.and_eq_true] at hm
      obtain ⟨es, kk, p, rfl⟩ := tup _ rfl
      exact r_itN xo (pa B) h1 hx (by rw [star_cons hm.1.1]; rfl)
    | [], _, _, l2 => simp at l2
    | _ :: _ :: _, _, _, l2 => simp at l2
    | [_], [], l1, _ => simp at l1
    | [_], _ :: _ :: _, l1, _ => simp at l1
  | zip =>
    simp only [itB] at hb
    split at hb
    case h_2 => cases hb
    rename_i x p a b pos
    split at hb
    case isFalse => cases hb
    rename_i hx
    cases hb
    simp only [Bool.and_eq_true, decide_eq_true_eq] at hx
    obtain ⟨rfl, hx⟩ := hx
    match ies, ts, l1, l2 with
    | [e, e2], [t, u], _, _ =>
      simp only [isOf] at hc
      split at hc
      case h_2 => cases hc
      rename_i c1 c2 h1 h2
      cases hc
      simp only [mEs, Bool.and_eq_true] at hm
      obtain ⟨es, kk, p, rfl⟩ := tup _ rfl
      exact r_itZ xo (pa B) h1 h2 hx (by rw [star_cons hm.1.1]) (by rw [star_cons hm.2.1.1]; rfl)
    | [], _, _, l2 => simp at l2
    | [_], _, _, l2 => simp at l2
    | _ :: _ :: _ :: _, _, _, l2 => simp at l2
    | [_, _], [], l1, _ => simp at l1
    | [_, _], [_], l1, _ => simp at l1
    | [_, _], _ :: _ :: _ :: _, l1, _ => simp at l1
  | enumS =>
    simp only [itB] at hb
    split at hb
    case h_2 => cases hb
    rename_i x p a y b kp pos
    split at hb
    case isFalse => cases hb
    rename_i hx
    cases hb
    simp only [Bool.and_eq_true, decide_eq_true_eq] at hx
    obtain ⟨⟨rfl, rfl⟩, hx⟩ := hx
    match ies, ts, l1, l2 with
    | [e, e2], [t, u], _, _ =>
      simp only [isOf] at hc
      split at hc
      case isFalse => cases hc
      rename_i q
      simp only [Bool.and_eq_true] at q
      simp only [Option.map_eq_some_iff] at hc
      obtain ⟨c', h1, rfl⟩ := hc
      simp only [mEs, Bool.and_eq_true] at hm
      obtain ⟨es, kk, p, rfl⟩ := tup _ rfl
      obtain ⟨t1, tr, a1, r1, e1, e1', pe1, t2, tr2, a2, r2, e2', e2'', pe2, _⟩ := pl B
      cases e1; cases e1'; cases e2'; cases e2''
      exact r_itS xo pe1 pe2 q.1.1 q.1.2 h1 hx (by rw [star_cons hm.1.1]; rfl)
    | [], _, _, l2 => simp at l2
    | [_], _, _, l2 => simp at l2
    | _ :: _ :: _ :: _, _, _, l2 => simp at l2
    | [_, _], [], l1, _ => simp at l1
    | [_, _], [_], l1, _ => simp at l1
    | [_, _], _ :: _ :: _ :: _, l1, _ => simp at l1

/-- the tests of a clause -/
theorem tsP (htc : tc.sg = sg) {S : SC} {X' : Cx} {Γ : SEnv} {ifs : List E} {fs : List Expr} {us : List Ts} (h : SL G sg tc ifs) (xo' : XOk G sg Wno S X') (n5 : mEs ifs S fs = true) (n6 : ifs.all okT = true) (hus : tys tc Γ ifs = some us) (r2 : purs ifs = true) (w1 : (us.all fun t => rdOk t.1) = true) (w2 : us.length ≤ 1) : PTs X' fs (tTs G Wno Γ ifs) := by
  have l1 := tys_len hus
  have l2 := mEs_len n5
  have pl := h S Wno X' _ fs us xo' n5 hus
  match ifs, us, l1, w2 with
  | [], [], _, _ =>
    have : fs = [] := List.length_eq_zero_iff.mp l2
    subst this
    exact r_ts0
  | [e], [t], _, _ =>
    match fs, l2 with
    | [f], _ =>
      refine r_ts1 (by simpa [purs] using r2) fun B => ?_
      obtain ⟨a, r, e1, p1, _⟩ := pl.2.2 n6 w1 B
      cases e1
      exact p1
    | [], l2 => simp at l2
    | _ :: _ :: _, l2 => simp at l2
  | [], _ :: _, l1, _ => simp at l1
  | _ :: _, [], l1, _ => simp at l1
  | _, _ :: _ :: _, _, w2 => simp at w2
  | _ :: _ :: _, [_], l1, _ => simp at l1
theorem tsPI (htc : tc.sg = sg) {S : SC} {X' : Cx} {Γ : SEnv} {ifs : List E} {fs : List Expr} {us : List Ts} (h : SL G sg tc ifs) (xo' : XOk G sg Wno S X') (n5 : mEs ifs S fs = true) (n6 : ifs.all okT = true) (hus : tys tc Γ ifs = some us) (w1 : (us.all fun t => rdOk t.1) = true) (w2 : us.length ≤ 1) : PTs X' fs (tTsI G Wno Γ ifs) := by
  have l1 := tys_len hus
  have l2 := mEs_len n5
  have pl := h S Wno X' _ fs us xo' n5 hus
  match ifs, us, l1, w2 with
  | [], [], _, _ =>
    have : fs = [] := List.length_eq_zero_iff.mp l2
    subst this
    exact r_ts0I
  | [e], [t], _, _ =>
    match fs, l2 with
    | [f], _ =>
      refine r_ts1I fun B => ?_
      obtain ⟨a, r, e1, p1, _⟩ := pl.2.2 n6 w1 B
      cases e1
      exact p1
    | [], l2 => simp at l2
    | _ :: _ :: _, l2 => simp at l2
  | [], _ :: _, l1, _ => simp at l1
  | _ :: _, [], l1, _ => simp at l1
  | _, _ :: _ :: _, _, w2 => simp at w2
  | _ :: _ :: _, [_], l1, _ => simp at l1
/-- what a comprehension with two clauses brings -/
structure Lc2H (G : Gd) (sg : List Sig) (W : WX) (S : SC) (X : Cx) (Γ : SEnv) (own own1 : List Nat) (s : Shp) (elt : E) (g : Tg) (k : ItK) (ies ifs : List E) (g1 : Tg) (k1 : ItK) (ies1 ifs1 : List E) (ex tg iter : Expr) (fs : List Expr) (tg1 iter1 : Expr) (fs1 : List Expr) (scope : Scope) (c c1 : IS) (ps ps1 : List (Nat × Shp)) (u : Ts) (nb : Bool) : Prop where
  hg : tgTy c g = some ps
  hown : own.all (fun i => decide (i < Γ.length)) = true
  hps : ps.all (fun q => own.contains q.1 && !own1.contains q.1) = true
  ho1 : own1.all (fun i => own.contains i) = true
  hg1 : tgTy c1 g1 = some ps1
  hps1 : ps1.all (fun q => own1.contains q.1) = true
  hpe : pur elt = true
  hpi : purs ifs = true
  hpj : purs ies1 = true
  hpi1 : purs ifs1 = true
  hu : u.2 = none
  hcv : cv u.1 s = true
  hblk : blkC S.N S.sc scope (ownN S own) = true
  hset : noSet iter = true
  hset1 : noSet iter1 = true
  hI : ∀ B, PI X tg iter (tI G W B Γ (purs ies) nb k c ies)
  hG : ∀ (X' : Cx), XOk G sg Wno (S.blk scope) X' → PG X' tg (tgR G.K g)
  hT : ∀ (X' : Cx), XOk G sg Wno (S.blk scope) X' → PTs X' fs (tTs G Wno (setS (wipeS Γ own) ps) ifs)
  hI1 : ∀ (X' : Cx), XOk G sg Wno (S.blk scope) X' → PI X' tg1 iter1 (tIx G Wno (setS (wipeS Γ own) ps) true k1 c1 ies1)
  hG1 : ∀ (X' : Cx), XOk G sg Wno (S.blk scope) X' → PG X' tg1 (tgR G.K g1)
  hT1 : ∀ (X' : Cx), XOk G sg Wno (S.blk scope) X' → PTs X' fs1 (tTs G Wno (setS (wipeS (setS (wipeS Γ own) ps) own1) ps1) ifs1)
  hE : ∀ (X' : Cx), XOk G sg Wno (S.blk scope) X' → PE X' ex (tEx G Wno (setS (wipeS (setS (wipeS Γ own) ps) own1) ps1) elt u)
theorem lc2P (htc : tc.sg = sg) {S : SC} {W : WX} {X : Cx} {Γ : SEnv} {own own1 : List Nat} {s : Shp} {elt : E} {g g1 : Tg} {k k1 : ItK} {ies ifs ies1 ifs1 : List E} {ast : Expr} {t : Ts} (a1 : SL G sg tc ies) (a2 : SL G sg tc ifs) (a3 : SL G sg tc ies1) (a4 : SL G sg tc ifs1) (a5 : SE G sg tc elt)
    (xo : XOk G sg W S X) (hm : mE (.lc2 own own1 s elt g k ies ifs g1 k1 ies1 ifs1) S ast = true) (ht : ty tc Γ (.lc2 own own1 s elt g k ies ifs g1 k1 ies1 ifs1) = some t) :
    t = (.O s, none) ∧ ∃ ex tg iter fs tg1 iter1 fs1 scope pos c c1 ps ps1 u nb, ast = .ListComp ex [⟨tg, iter, fs, 0⟩, ⟨tg1, iter1, fs1, 0⟩] scope pos ∧ Lc2H G sg W S X Γ own own1 s elt g k ies ifs g1 k1 ies1 ifs1 ex tg iter fs tg1 iter1 fs1 scope c c1 ps ps1 u nb := by
  simp only [mE] at hm
  split at hm
  case h_2 => cases hm
  rename_i ex tg iter fs tg1 iter1 fs1 scope pos
  simp only [Bool.and_eq_true] at hm
  obtain ⟨⟨⟨⟨⟨⟨⟨⟨⟨⟨⟨m1, m2⟩, m3⟩, m4⟩, m5⟩, m6⟩, m7⟩, m8⟩, m9⟩, m10⟩, m11⟩, m12⟩ := hm
  simp only [ty] at ht
  split at ht
  case h_2 => cases ht
  rename_i ts hts
  split at ht
  case h_2 => cases ht
  rename_i ps hps
  split at ht
  case isFalse => cases ht
  rename_i q
  rw [Bool.and_eq_true, Bool.and_eq_true, Bool.and_eq_true, Bool.and_eq_true, Bool.and_eq_true, Bool.and_eq_true, Bool.and_eq_true] at q
  obtain ⟨⟨⟨⟨⟨⟨⟨q1, q2⟩, q3⟩, q4⟩, q5⟩, q6⟩, q7⟩, q8⟩ := q
  split at ht
  case h_2 => cases ht
  rename_i us ts1 hus hts1
  split at ht
  case isFalse => cases ht
  rename_i w
  rw [Bool.and_eq_true, decide_eq_true_eq] at w
  split at ht
  case h_2 => cases ht
  rename_i ps1 hps1
  split at ht
  case isFalse => cases ht
  rename_i w2
  rw [Bool.and_eq_true] at w2
  split at ht
  case h_2 => cases ht
  rename_i us1 u hus1 hu
  split at ht
  case isFalse => cases ht
  rename_i w3
  rw [Bool.and_eq_true, Bool.and_eq_true, Bool.and_eq_true, decide_eq_true_eq, Option.isNone_iff_eq_none] at w3
  obtain ⟨⟨⟨w31, w32⟩, w33⟩, w34⟩ := w3
  cases ht
  simp only [Option.bind_eq_some_iff] at hps hps1
  obtain ⟨c, hc, hg⟩ := hps
  obtain ⟨c1, hc1, hg1⟩ := hps1
  split at m4
  case h_2 => cases m4
  rename_i as has
  split at m9
  case h_2 => cases m9
  rename_i as1 has1
  refine ⟨rfl, ex, tg, iter, fs, tg1, iter1, fs1, scope, pos, c, c1, ps, ps1, u, nbs ts, rfl, ?_⟩
  exact {
    hg := hg, hown := q5, hps := q7, ho1 := q8, hg1 := hg1, hps1 := w2.1, hpe := q1, hpi := q2, hpj := q3, hpi1 := q4, hu := w33, hcv := w34, hblk := m1, hset := m3, hset1 := m8
    hI := fun B => itP (S' := S.blk scope) xo has m4 hts hc hg m2 a1
    hG := fun X' xo' => r_tg xo' m2
    hT := fun X' xo' => tsP htc a2 xo' m5 m6 hus q2 w.1 w.2
    hI1 := fun X' xo' => r_itX fun B => by
      have := itP (B := B) (S' := S.blk scope) xo' has1 m9 hts1 hc1 hg1 m7 a3
      rw [q3, show nbs ts1 = true from w2.2] at this
      exact this
    hG1 := fun X' xo' => r_tg xo' m7
    hT1 := fun X' xo' => tsP htc a4 xo' m10 m11 hus1 q4 w31 w32
    hE := fun X' xo' => r_ex fun B => by
      have := (a5 (S.blk scope) Wno X' _ ex u xo' m12 hu).1 B
      rw [q1] at this
      exact this }

mutual
theorem snd (htc : tc.sg = sg) : ∀ e : E, SE G sg tc e
  | .var i, S, W, X, Γ, ast, t, xo, hm, ht => by
    simp only [mE] at hm
    split at hm
    case h_2 => cases hm
    exact SE.mk xo (fun B => r_var xo hm ht) rfl
  | .non, S, W, X, Γ, ast, t, xo, hm, ht => by
    simp only [mE] at hm
    split at hm
    case h_2 => cases hm
    simp only [ty, Option.some.injEq] at ht
    subst ht
    exact SE.mk xo (fun B => r_con (d := .non) pe_non (fun env => by simp only [evE]) (fun F => rfl) rfl) rfl
  | .bl b, S, W, X, Γ, ast, t, xo, hm, ht => by
    simp only [mE] at hm
    split at hm
    case h_2 => cases hm
    simp only [decide_eq_true_eq] at hm
    subst hm
    simp only [ty, Option.some.injEq] at ht
    subst ht
    exact SE.mk xo (fun B => r_con (d := .bl b) pe_bl (fun env => by simp only [evE]) (fun F => rfl) rfl) rfl
  | .int i, S, W, X, Γ, ast, t, xo, hm, ht => by
    simp only [mE] at hm
    simp only [ty, Option.some.injEq] at ht
    subst ht
    split at hm
    case h_3 => cases hm
    · simp only [decide_eq_true_eq] at hm
      subst hm
      exact SE.mk xo (fun B => r_con (d := .int i) pe_int (fun env => by simp only [evE]) (fun F => rfl) rfl) rfl
    · simp only [cstB, Bool.and_eq_true, decide_eq_true_eq, Bool.not_eq_true'] at hm
      obtain ⟨⟨m1, m2⟩, m3⟩ := hm
      obtain ⟨o1, o2, o3⟩ := odd_of m3
      obtain ⟨u, e1, e2⟩ := xo.cst _ _ m2
      exact SE.mk xo (fun B => r_con (d := .int i) (v0 := .int i) (pe_glob (xo.gl m1) e1 e2 o1) (fun env => by simp only [evE]) (fun F => rfl) rfl) rfl
  | .str x, S, W, X, Γ, ast, t, xo, hm, ht => by
    simp only [mE] at hm
    simp only [ty] at ht
    split at ht
    case isFalse => cases ht
    rename_i q
    simp only [Bool.and_eq_true, decide_eq_true_eq] at q
    cases ht
    split at hm
    case h_3 => cases hm
    · simp only [decide_eq_true_eq] at hm
      subst hm
      exact SE.mk xo (fun B => r_con (d := .str x) pe_str (fun env => by simp only [evE]) (fun F => ⟨rfl, q.1, q.2⟩) rfl) rfl
    · simp only [cstB, Bool.and_eq_true, decide_eq_true_eq, Bool.not_eq_true'] at hm
      obtain ⟨⟨m1, m2⟩, m3⟩ := hm
      obtain ⟨o1, o2, o3⟩ := odd_of m3
      obtain ⟨u, e1, e2⟩ := xo.cst _ _ m2
      exact SE.mk xo (fun B => r_con (d := .str x) (v0 := .str x) (pe_glob (xo.gl m1) e1 e2 o1) (fun env => by simp only [evE]) (fun F => ⟨rfl, q.1, q.2⟩) rfl) rfl
  | .tup es, S, W, X, Γ, ast, t, xo, hm, ht => by
    simp only [mE] at hm
    split at hm
    case h_2 => cases hm
    simp only [ty] at ht
    split at ht
    case h_2 => cases ht
    rename_i ts hts
    split at ht
    case isFalse => cases ht
    rename_i q
    simp only [Bool.and_eq_true, decide_eq_true_eq] at q
    obtain ⟨pa, _, _⟩ := sndl htc es S W X Γ _ ts xo hm hts
    split at ht
    · rename_i q2
      cases ht
      exact SE.mk xo (fun B => r_tup (pa B) q.1 q.2 (tys_len hts) (.inl ⟨q2, rfl⟩)) rfl
    · split at ht
      · rename_i q2
        cases ht
        exact SE.mk xo (fun B => r_tup (pa B) q.1 q.2 (tys_len hts) (.inr ⟨q2, rfl⟩)) rfl
      · cases ht
  | .lst s es, S, W, X, Γ, ast, t, xo, hm, ht => by
    simp only [mE] at hm
    split at hm
    case h_2 => cases hm
    simp only [ty] at ht
    split at ht
    case h_2 => cases ht
    rename_i ts hts
    split at ht
    case isFalse => cases ht
    rename_i q
    rw [Bool.and_eq_true, decide_eq_true_eq] at q
    cases ht
    obtain ⟨pa, _, _⟩ := sndl htc es S W X Γ _ ts xo hm hts
    exact SE.mk xo (fun B => r_lst (pa B) q.1 q.2 (tys_len hts)) rfl
  | .bin o a b, S, W, X, Γ, ast, t, xo, hm, ht => by
    simp only [mE] at hm
    split at hm
    case h_2 => cases hm
    simp only [Bool.and_eq_true] at hm
    simp only [ty] at ht
    split at ht
    case h_2 => cases ht
    rename_i s u h1 h2
    split at ht
    case isFalse => cases ht
    rename_i q
    exact SE.mk xo (fun B => r_bin xo hm.1.1 ((snd htc a S W X Γ _ s xo hm.1.2 h1).1 B) ((snd htc b S W X Γ _ u xo hm.2 h2).1 B) q ht) rfl
  | .neg a, S, W, X, Γ, ast, t, xo, hm, ht => by
    simp only [mE] at hm
    split at hm
    case h_2 => cases hm
    simp only [ty] at ht
    split at ht
    case h_2 => cases ht
    rename_i s h1
    split at ht
    case isFalse => cases ht
    rename_i q
    cases ht
    exact ⟨fun B => r_neg ((snd htc a S W X Γ _ s xo hm h1).1 B) q, fun h => by simp [okT] at h⟩
  | .cmp o a b, S, W, X, Γ, ast, t, xo, hm, ht => by
    simp only [mE] at hm
    split at hm
    case h_2 => cases hm
    simp only [Bool.and_eq_true] at hm
    obtain ⟨⟨⟨m1, m2⟩, m3⟩, m4⟩ := hm
    simp only [ty] at ht
    split at ht
    case h_2 => cases ht
    rename_i s u h1 h2
    split at ht
    case isFalse => cases ht
    rename_i q
    simp only [Bool.and_eq_true] at q
    obtain ⟨⟨q0, q1⟩, q2⟩ := q
    cases ht
    exact ⟨fun B => r_cmp xo m1 ((snd htc a S W X Γ _ s xo m3 h1).1 B) ((snd htc b S W X Γ _ u xo m4 h2).1 B) (okB m2) q0 q1 q2, fun _ _ B => rt_cmp xo m1 ((snd htc a S W X Γ _ s xo m3 h1).1 B) ((snd htc b S W X Γ _ u xo m4 h2).1 B) (okB m2) q0 q1 q2⟩
  | .chn o o' a b c, S, W, X, Γ, ast, t, xo, hm, ht => by
    simp only [mE] at hm
    split at hm
    case h_2 => cases hm
    simp only [Bool.and_eq_true] at hm
    obtain ⟨⟨⟨⟨⟨m1, m1'⟩, m2⟩, m3⟩, m4⟩, m5⟩ := hm
    simp only [ty] at ht
    split at ht
    case h_2 => cases ht
    rename_i s u w h1 h2 h3
    split at ht
    case isFalse => cases ht
    rename_i q
    simp only [Bool.and_eq_true] at q
    obtain ⟨⟨⟨⟨q0, q0'⟩, q1⟩, q2⟩, q3⟩ := q
    cases ht
    exact ⟨fun B => r_chn xo m1 m1' ((snd htc a S W X Γ _ s xo m3 h1).1 B) ((snd htc b S W X Γ _ u xo m4 h2).1 B) ((snd htc c S W X Γ _ w xo m5 h3).1 B) (okB m2) q0 q0' q1 q2 q3,
      fun _ _ B => rt_chn xo m1 m1' ((snd htc a S W X Γ _ s xo m3 h1).1 B) ((snd htc b S W X Γ _ u xo m4 h2).1 B) ((snd htc c S W X Γ _ w xo m5 h3).1 B) (okB m2) q0 q0' q1 q2 q3⟩
  | .not a, S, W, X, Γ, ast, t, xo, hm, ht => by
    simp only [mE] at hm
    split at hm
    case h_2 => cases hm
    simp only [ty] at ht
    split at ht
    case h_2 => cases ht
    rename_i s h1
    split at ht
    case isFalse => cases ht
    rename_i q
    cases ht
    obtain ⟨p1, p2⟩ := snd htc a S W X Γ _ s xo hm h1
    exact ⟨fun B => r_not xo (p1 B) q, fun h _ B => rt_not (p2 (by simpa [okT] using h) q B)⟩
  | .and es, S, W, X, Γ, ast, t, xo, hm, ht => by
    simp only [mE] at hm
    split at hm
    case h_2 => cases hm
    simp only [Bool.and_eq_true, Bool.not_eq_true', List.isEmpty_eq_false_iff] at hm
    obtain ⟨⟨m1, m2⟩, m3⟩ := hm
    simp only [ty] at ht
    split at ht
    case isFalse => cases ht
    rename_i q
    cases ht
    cases hts : tys tc Γ es with
    | none => rw [hts] at q; simp at q
    | some ts =>
      rw [hts] at q
      have ka := isA_of (by simpa using q)
      obtain ⟨_, pl, pt⟩ := sndl htc es S W X Γ _ ts xo m3 hts
      exact ⟨fun B => r_and xo m1 ka (pl B), fun _ _ B => rt_and m1 (pt m2 (isA_rd ka) B)⟩
  | .or es, S, W, X, Γ, ast, t, xo, hm, ht => by
    simp only [mE] at hm
    split at hm
    case h_2 => cases hm
    simp only [Bool.and_eq_true, Bool.not_eq_true', List.isEmpty_eq_false_iff] at hm
    obtain ⟨⟨m1, m2⟩, m3⟩ := hm
    simp only [ty] at ht
    split at ht
    case isFalse => cases ht
    rename_i q
    cases ht
    cases hts : tys tc Γ es with
    | none => rw [hts] at q; simp at q
    | some ts =>
      rw [hts] at q
      have ka := isA_of (by simpa using q)
      obtain ⟨_, pl, pt⟩ := sndl htc es S W X Γ _ ts xo m3 hts
      exact ⟨fun B => r_or xo m1 ka (pl B), fun _ _ B => rt_or m1 (pt m2 (isA_rd ka) B)⟩
  | .ite c a b, S, W, X, Γ, ast, t, xo, hm, ht => by
    simp only [mE] at hm
    split at hm
    case h_2 => cases hm
    simp only [Bool.and_eq_true] at hm
    obtain ⟨⟨⟨m0, m1⟩, m2⟩, m3⟩ := hm
    simp only [ty] at ht
    split at ht
    case h_2 => cases ht
    rename_i s u w h1 h2 h3
    split at ht
    case isFalse => cases ht
    rename_i q
    simp only [Bool.and_eq_true, Option.isNone_iff_eq_none] at q
    obtain ⟨⟨⟨⟨q1, q2⟩, q3⟩, q4⟩, q5⟩ := q
    have pc := (snd htc c S W X Γ _ s xo m1 h1).2 m0 q1
    have pa := (snd htc a S W X Γ _ u xo m2 h2).1
    have pb := (snd htc b S W X Γ _ w xo m3 h3).1
    have refl : ∀ s : Shp, flat s = true → ge0 s s = true := fun s h => by cases s <;> simp [flat] at h <;> rfl
    split at ht
    · rename_i g
      cases ht
      exact ⟨fun B => r_ite (pc B) (pa B) (pb B) q2 q3 q4 q5 g (refl _ q5), fun h => by simp [okT] at h⟩
    · split at ht
      · rename_i g
        cases ht
        exact ⟨fun B => r_ite (pc B) (pa B) (pb B) q2 q3 q4 q5 (refl _ q4) g, fun h => by simp [okT] at h⟩
      · cases ht
  | .idx a i, S, W, X, Γ, ast, t, xo, hm, ht => by
    simp only [mE] at hm
    split at hm
    case h_2 => cases hm
    simp only [Bool.and_eq_true] at hm
    obtain ⟨⟨m1, m2⟩, m3⟩ := hm
    simp only [ty] at ht
    split at ht
    case h_2 => cases ht
    rename_i s u h1 h2
    split at ht
    case isFalse => cases ht
    rename_i q
    simp only [Bool.and_eq_true] at q
    simp only [Option.map_eq_some_iff] at ht
    obtain ⟨w, hw, rfl⟩ := ht
    exact SE.mk xo (fun B => r_idx xo ((snd htc a S W X Γ _ s xo m2 h1).1 B) ((snd htc i S W X Γ _ u xo m3 h2).1 B) m1 q.1 q.2 hw) rfl
  | .slc u k a bs, S, W, X, Γ, ast, t, xo, hm, ht => by
    simp only [mE] at hm
    split at hm
    case h_2 => cases hm
    simp only [Bool.and_eq_true] at hm
    obtain ⟨m1, m2⟩ := hm
    simp only [ty] at ht
    split at ht
    case h_2 => cases ht
    rename_i s ts h1 h2
    split at ht
    case isFalse => cases ht
    rename_i q
    rw [Bool.and_eq_true, Bool.and_eq_true] at q
    obtain ⟨⟨q0, q1⟩, q2⟩ := q
    split at ht
    case h_2 => cases ht
    rename_i w hw
    split at ht
    case isFalse => cases ht
    rename_i hg
    cases ht
    have pa := (snd htc a S W X Γ _ s xo m1 h1).1
    have l1 := tys_len h2
    split at m2
    · obtain ⟨_, pl, _⟩ := sndl htc bs S W X Γ _ ts xo m2 h2
      have l2 := mEs_len m2
      match bs, ts, l1, l2 with
      | [b], [tb], _, _ =>
        refine SE.mk xo (fun B => ?_) rfl
        obtain ⟨t', tr, a, r, e1, e2, pe, _⟩ := pl B
        cases e1; cases e2
        exact r_slcLo xo (pa B) pe (by simpa [purs] using q0) (by simpa using q1) hw hg
      | [], _, _, l2 => simp at l2
      | _ :: _ :: _, _, _, l2 => simp at l2
      | [_], [], l1, _ => simp at l1
      | [_], _ :: _ :: _, l1, _ => simp at l1
    · obtain ⟨_, pl, _⟩ := sndl htc bs S W X Γ _ ts xo m2 h2
      have l2 := mEs_len m2
      match bs, ts, l1, l2 with
      | [b], [tb], _, _ =>
        refine SE.mk xo (fun B => ?_) rfl
        obtain ⟨t', tr, a, r, e1, e2, pe, _⟩ := pl B
        cases e1; cases e2
        exact r_slcHi xo (pa B) pe (by simpa [purs] using q0) (by simpa using q1) hw hg
      | [], _, _, l2 => simp at l2
      | _ :: _ :: _, _, _, l2 => simp at l2
      | [_], [], l1, _ => simp at l1
      | [_], _ :: _ :: _, l1, _ => simp at l1
    · obtain ⟨_, pl, _⟩ := sndl htc bs S W X Γ _ ts xo m2 h2
      have l2 := mEs_len m2
      match bs, ts, l1, l2 with
      | [b, c], [tb, tcc], _, _ =>
        refine SE.mk xo (fun B => ?_) rfl
        obtain ⟨t', tr, a, r, e1, e2, pe, t2, tr2, a2, r2, e3, e4, pe2, _⟩ := pl B
        cases e1; cases e2; cases e3; cases e4
        simp only [List.all_cons, List.all_nil, Bool.and_true, Bool.and_eq_true, Option.isNone_iff_eq_none] at q1 q2
        exact r_slcB xo (pa B) pe pe2 (by simpa [purs] using q0) q2.1 q1.1 q1.2 hw hg
      | [], _, _, l2 => simp at l2
      | [_], _, _, l2 => simp at l2
      | _ :: _ :: _ :: _, _, _, l2 => simp at l2
      | [_, _], [], l1, _ => simp at l1
      | [_, _], [_], l1, _ => simp at l1
      | [_, _], _ :: _ :: _ :: _, l1, _ => simp at l1
    · cases m2
  | .call f ios args, S, W, X, Γ, ast, t, xo, hm, ht => by
    simp only [mE] at hm
    split at hm
    case h_2 => cases hm
    simp only [Bool.and_eq_true] at hm
    simp only [ty] at ht
    split at ht
    case h_2 => cases ht
    rename_i g ts hg hts
    split at ht
    case isFalse => cases ht
    rename_i q
    cases ht
    obtain ⟨pa, _, _⟩ := sndl htc args S W X Γ _ ts xo hm.2 hts
    have hm2 := hm.2
    cases args with
    | nil => simp [mEs] at hm2
    | cons a0 ar =>
      simp only [mEs, Bool.and_eq_true] at hm2
      rw [htc] at hg
      exact SE.mk xo (fun B => r_call xo hm.1 hg q (tys_bor hts) (pa B) (star_cons hm2.1.1) (back_plain (star_plain hm2.2))) rfl
  | .bi b args, S, W, X, Γ, ast, t, xo, hm, ht => by
    simp only [ty] at ht
    split at ht
    case h_2 => cases ht
    rename_i ts hts
    simp only [Option.map_eq_some_iff] at ht
    obtain ⟨u, hu, rfl⟩ := ht
    have l1 := tys_len hts
    by_cases hb : ∃ ty, b = .isI ty
    · obtain ⟨ty, rfl⟩ := hb
      simp only [mE] at hm
      split at hm
      case h_2 => cases hm
      simp only [Bool.and_eq_true, decide_eq_true_eq] at hm
      obtain ⟨⟨⟨⟨m1, m2⟩, m3⟩, m4⟩, m5⟩ := hm
      obtain ⟨_, pl, _⟩ := sndl htc args S W X Γ _ ts xo m5 hts
      have l2 := mEs_len m5
      match args, ts, l1, l2 with
      | [e], [t], _, _ =>
        simp only [mEs, Bool.and_eq_true] at m5
        have hq : rdOk t.1 = true ∧ u = .A := by
          simp only [biTy] at hu
          split at hu
          · rename_i q; cases hu; simpa using q
          · cases hu
        obtain ⟨hq, rfl⟩ := hq
        refine SE.mk xo (fun B => ?_) rfl
        obtain ⟨t', tr, a, r, e1, e2, pe, _⟩ := pl B
        cases e1; cases e2
        exact r_isI xo hq m2 m1 m4 m3 pe (by rw [star_cons m5.1.1]; rfl)
      | [], _, _, l2 => simp at l2
      | _ :: _ :: _, _, _, l2 => simp at l2
      | [_], [], l1, _ => simp at l1
      | [_], _ :: _ :: _, l1, _ => simp at l1
    · have hb' : ∀ t, b ≠ .isI t := fun t e => hb ⟨t, e⟩
      have hm' : (match (generalizing := false) ast with | .Call (.Name x _) (e :: es) [] _ => decide (x = Str.ofString (biN b).1) && freeB S x && decide (args.length = (biN b).2.2) && mEs args S (e :: es) | _ => false) = true := by
        cases b <;> first | exact absurd rfl (hb' _) | (simp only [mE] at hm; exact hm)
      split at hm'
      case h_2 => cases hm'
      simp only [Bool.and_eq_true, decide_eq_true_eq] at hm'
      obtain ⟨⟨⟨m1, m2⟩, m3⟩, m4⟩ := hm'
      obtain ⟨pa, _, _⟩ := sndl htc args S W X Γ _ ts xo m4 hts
      have hl : ts.length = (biN b).2.2 := by rw [l1, m3]
      cases args with
      | nil => simp [mEs] at m4
      | cons a0 ar =>
        simp only [mEs, Bool.and_eq_true] at m4
        exact SE.mk xo (fun B => r_bi xo hb' hu hl m2 m1 (pa B) (star_cons m4.1.1) (back_plain (star_plain m4.2))) rfl
  | .lc own s elt g k ies ifs, S, W, X, Γ, ast, t, xo, hm, ht => by
    simp only [mE] at hm
    split at hm
    case h_2 => cases hm
    rename_i elt' tg iter fs scope pos
    simp only [Bool.and_eq_true] at hm
    obtain ⟨⟨⟨⟨⟨⟨m1, m2⟩, m3⟩, m4⟩, m5⟩, m6⟩, m7⟩ := hm
    simp only [ty] at ht
    split at ht
    case h_2 => cases ht
    rename_i ts hts
    split at ht
    case h_2 => cases ht
    rename_i ps hps
    split at ht
    case isFalse => cases ht
    rename_i q
    rw [Bool.and_eq_true, Bool.and_eq_true, Bool.and_eq_true, Bool.and_eq_true] at q
    obtain ⟨⟨⟨⟨q1, q2⟩, q3⟩, q4⟩, q5⟩ := q
    split at ht
    case h_2 => cases ht
    rename_i us u hus hu
    split at ht
    case isFalse => cases ht
    rename_i w
    rw [Bool.and_eq_true, Bool.and_eq_true, Bool.and_eq_true, decide_eq_true_eq, Option.isNone_iff_eq_none] at w
    obtain ⟨⟨⟨w1, w2⟩, w3⟩, w4⟩ := w
    cases ht
    simp only [Option.bind_eq_some_iff] at hps
    obtain ⟨c, hc, hg⟩ := hps
    split at m4
    case h_2 => cases m4
    rename_i as has
    refine SE.mk xo (fun B => ?_) rfl
    refine r_lc xo (c := c) (ps := ps) (u := u) (nb := nbs ts) (ownN := ownN S own) hg q3 q5 q1 q2 w3 w4 m1 (ownN_snd S own) m3 (itP (S' := S.blk scope) xo has m4 hts hc hg m2 (sndl htc ies)) (fun X' xo' => r_tg xo' m2) (fun X' xo' => ?_) (fun X' xo' => r_ex fun B => ?_)
    · have l1 := tys_len hus
      have l2 := mEs_len m5
      have pl := sndl htc ifs (S.blk scope) Wno X' _ fs us xo' m5 hus
      match ifs, us, l1, w2 with
      | [], [], _, _ =>
        have : fs = [] := List.length_eq_zero_iff.mp l2
        subst this
        exact r_ts0
      | [e], [t], _, _ =>
        match fs, l2 with
        | [f], _ =>
          refine r_ts1 (by simpa [purs] using q2) fun B => ?_
          obtain ⟨a, r, e1, p1, _⟩ := pl.2.2 m6 w1 B
          cases e1
          exact p1
        | [], l2 => simp at l2
        | _ :: _ :: _, l2 => simp at l2
      | [], _ :: _, l1, _ => simp at l1
      | _ :: _, [], l1, _ => simp at l1
      | _, _ :: _ :: _, _, w2 => simp at w2
      | _ :: _ :: _, [_], l1, _ => simp at l1
    · have := (snd htc elt (S.blk scope) Wno X' _ elt' u xo' m7 hu).1 B
      rw [q1] at this
      exact this
  | .m2 o a b, S, W, X, Γ, ast, t, xo, hm, ht => by
    simp only [mE] at hm
    split at hm
    case h_2 => cases hm
    simp only [Bool.and_eq_true, decide_eq_true_eq] at hm
    obtain ⟨⟨⟨⟨⟨m1, m2⟩, m3⟩, m4⟩, m5⟩, m6⟩ := hm
    simp only [ty] at ht
    split at ht
    case h_2 => cases ht
    rename_i s u h1 h2
    split at ht
    case isFalse => cases ht
    rename_i q
    simp only [Bool.and_eq_true] at q
    obtain ⟨⟨q0, q1⟩, q2⟩ := q
    cases ht
    exact SE.mk xo (fun B => r_m2 xo m1 ((snd htc a S W X Γ _ s xo m5 h1).1 B) ((snd htc b S W X Γ _ u xo m6 h2).1 B) q0 q1 q2 m2 m3 (by rw [star_cons m4]; rfl)) rfl
  | .rev u a, S, W, X, Γ, ast, t, xo, hm, ht => by
    simp only [mE] at hm
    split at hm
    case h_2 => cases hm
    simp only [Bool.and_eq_true, decide_eq_true_eq] at hm
    obtain ⟨rfl, hm⟩ := hm
    simp only [ty] at ht
    split at ht
    case h_2 => cases ht
    rename_i s h1
    split at ht
    case h_2 => cases ht
    rename_i w hw
    split at ht
    case isFalse => cases ht
    rename_i hg
    cases ht
    exact SE.mk xo (fun B => r_rev xo ((snd htc a S W X Γ _ s xo hm h1).1 B) hw hg) rfl
  | .lcI own s elt g k ies ifs, S, W, X, Γ, ast, t, xo, hm, ht => by
    simp only [mE] at hm
    split at hm
    case h_2 => cases hm
    rename_i elt' tg iter fs scope pos
    simp only [Bool.and_eq_true] at hm
    obtain ⟨⟨⟨⟨⟨⟨m1, m2⟩, m3⟩, m4⟩, m5⟩, m6⟩, m7⟩ := hm
    simp only [ty] at ht
    split at ht
    case h_2 => cases ht
    rename_i ts hts
    split at ht
    case h_2 => cases ht
    rename_i ps hps
    split at ht
    case isFalse => cases ht
    rename_i q
    rw [Bool.and_eq_true, Bool.and_eq_true, Bool.and_eq_true, Bool.and_eq_true] at q
    obtain ⟨⟨⟨⟨q1, q2⟩, q3⟩, q4⟩, q5⟩ := q
    split at ht
    case h_2 => cases ht
    rename_i us u hus hu
    split at ht
    case isFalse => cases ht
    rename_i w
    rw [Bool.and_eq_true, Bool.and_eq_true, Bool.and_eq_true, decide_eq_true_eq, Option.isNone_iff_eq_none] at w
    obtain ⟨⟨⟨w1, w2⟩, w3⟩, w4⟩ := w
    cases ht
    simp only [Option.bind_eq_some_iff] at hps
    obtain ⟨c, hc, hg⟩ := hps
    split at m4
    case h_2 => cases m4
    rename_i as has
    refine SE.mk xo (fun B => ?_) rfl
    have hI := itP (B := B) (S' := S.blk scope) xo has m4 hts hc hg m2 (sndl htc ies)
    rw [show nbs ts = true from q3] at hI
    exact r_lcI xo (c := c) (ps := ps) (u := u) (ownN := ownN S own) hg (fun i hi => by simpa using List.all_eq_true.mp q4 i hi) q5 q1 q2 w3 w4 m1 (ownN_snd S own) m3 hI (fun X' xo' => r_tg xo' m2) (fun X' xo' => tsPI htc (sndl htc ifs) xo' m5 m6 hus w1 w2) (fun X' xo' => r_ex fun B => by
      have := (snd htc elt (S.blk scope) Wno X' _ elt' u xo' m7 hu).1 B
      rw [q1] at this
      exact this)
  | .dnew tk s, S, W, X, Γ, ast, t, xo, hm, ht => by
    simp only [mE] at hm
    split at hm
    case h_2 => cases hm
    simp only [ty, Option.some.injEq] at ht
    subst ht
    exact SE.mk xo (fun B => r_dnew) rfl
  | .dget2 u a k x, S, W, X, Γ, ast, t, xo, hm, ht => by
    simp only [mE] at hm
    split at hm
    case h_2 => cases hm
    simp only [Bool.and_eq_true, decide_eq_true_eq] at hm
    obtain ⟨⟨⟨⟨⟨⟨⟨m1, m2⟩, m3⟩, m4⟩, m5⟩, m6⟩, m7⟩, m8⟩ := hm
    subst m1
    simp only [ty] at ht
    split at ht
    case h_2 => cases ht
    rename_i s1 t1 w1 h1 h2 h3
    split at ht
    case isFalse => cases ht
    rename_i q
    rw [Bool.and_eq_true, Bool.and_eq_true, Bool.and_eq_true, Bool.and_eq_true, Bool.and_eq_true, Option.isNone_iff_eq_none, Option.isNone_iff_eq_none] at q
    obtain ⟨⟨⟨⟨⟨q0, q1⟩, q2⟩, q3⟩, q4⟩, q5⟩ := q
    split at ht
    case h_2 => cases ht
    rename_i c hc
    split at ht
    case isFalse => cases ht
    rename_i hg
    cases ht
    exact SE.mk xo (fun B => r_dget2 xo ((snd htc a S W X Γ _ s1 xo m6 h1).1 B) ((snd htc k S W X Γ _ t1 xo m7 h2).1 B) ((snd htc x S W X Γ _ w1 xo m8 h3).1 B) q0 q1 q2 q3 q4 q5 hc hg m2 m3 (by rw [star_cons m4, star_cons m5]; rfl)) rfl
  | .lc2 own own1 s elt g k ies ifs g1 k1 ies1 ifs1, S, W, X, Γ, ast, t, xo, hm, ht => by
    obtain ⟨rfl, ex, tg, iter, fs, tg1, iter1, fs1, scope, pos, c, c1, ps, ps1, u, nb, rfl, h⟩ := lc2P htc (sndl htc ies) (sndl htc ifs) (sndl htc ies1) (sndl htc ifs1) (snd htc elt) xo hm ht
    exact SE.mk xo (fun B => r_lc2 xo h.hg h.hown h.hps h.ho1 h.hg1 h.hps1 h.hpe h.hpi h.hpj h.hpi1 h.hu h.hcv h.hblk (ownN_snd S own) h.hset h.hset1 (h.hI B) h.hG h.hT h.hI1 h.hG1 h.hT1 h.hE) rfl
  | .app i e, S, W, X, Γ, ast, t, xo, hm, ht => by
    simp only [mE] at hm
    split at hm
    case h_2 => cases hm
    simp only [Bool.and_eq_true, decide_eq_true_eq] at hm
    obtain ⟨⟨⟨⟨m1, m2⟩, m3⟩, m4⟩, m5⟩ := hm
    subst m2
    simp only [ty] at ht
    split at ht
    case h_2 => cases ht
    rename_i s u hΓ hu
    split at ht
    case isFalse => cases ht
    rename_i q
    simp only [Bool.and_eq_true, Option.isNone_iff_eq_none] at q
    cases ht
    exact SE.mk xo (fun B => r_app xo m1 hΓ ((snd htc e S W X Γ _ u xo m5 hu).1 B) q.1.1 q.1.2 q.2 m3 (by rw [star_cons m4]; rfl)) rfl
  | .app2 i k e, S, W, X, Γ, ast, t, xo, hm, ht => by
    simp only [mE] at hm
    split at hm
    case h_2 => cases hm
    simp only [Bool.and_eq_true, decide_eq_true_eq] at hm
    obtain ⟨⟨⟨⟨⟨⟨m1, m2⟩, m3⟩, m4⟩, m6⟩, m7⟩, m5⟩ := hm
    subst m2
    simp only [ty] at ht
    split at ht
    case h_2 => cases ht
    rename_i s tk u hΓ hk hu
    split at ht
    case isFalse => cases ht
    rename_i q
    simp only [Bool.and_eq_true, Option.isNone_iff_eq_none] at q
    obtain ⟨⟨⟨⟨q1, q2⟩, q3⟩, q4⟩, q5⟩ := q
    cases ht
    exact SE.mk xo (fun B => r_app2 xo m1 hΓ ((snd htc k S W X Γ _ tk xo m7 hk).1 B) q1 q2 m6 ((snd htc e S W X Γ _ u xo m5 hu).1 B) q3 q4 q5 m3 (by rw [star_cons m4]; rfl)) rfl
  | .idx2 i k j, S, W, X, Γ, ast, t, xo, hm, ht => by
    simp only [mE] at hm
    split at hm
    case h_2 => cases hm
    simp only [Bool.and_eq_true] at hm
    obtain ⟨⟨⟨⟨m1, m2⟩, m3⟩, m4⟩, m5⟩ := hm
    simp only [ty] at ht
    split at ht
    case h_2 => cases ht
    rename_i s tk tj hΓ hk hj
    split at ht
    case isFalse => cases ht
    rename_i q
    simp only [Bool.and_eq_true] at q
    obtain ⟨⟨⟨⟨q1, q2⟩, q3⟩, q4⟩, q5⟩ := q
    cases ht
    exact SE.mk xo (fun B => r_idx2 xo m1 hΓ ((snd htc k S W X Γ _ tk xo m4 hk).1 B) q1 q3 m2 ((snd htc j S W X Γ _ tj xo m5 hj).1 B) q2 q4 m3 q5) rfl
theorem sndl (htc : tc.sg = sg) : ∀ es : List E, SL G sg tc es
  | [], S, W, X, Γ, as, ts, xo, hm, ht => by
    simp only [mEs, List.isEmpty_iff] at hm
    subst hm
    simp only [tys, Option.some.injEq] at ht
    subst ht
    exact ⟨fun B => r_nil, fun B => ⟨rfl, rfl⟩, fun _ _ B => rfl⟩
  | e :: es, S, W, X, Γ, as, ts, xo, hm, ht => by
    cases as with
    | nil => simp [mEs] at hm
    | cons a r =>
    simp only [mEs, Bool.and_eq_true] at hm
    simp only [tys] at ht
    split at ht
    case h_2 => cases ht
    rename_i t tr h1 h2
    split at ht
    case isFalse => cases ht
    rename_i q
    cases ht
    obtain ⟨p1, p2⟩ := snd htc e S W X Γ a t xo hm.1.2 h1
    obtain ⟨q1, q2, q3⟩ := sndl htc es S W X Γ r tr xo hm.2 h2
    refine ⟨fun B => r_cons (p1 B) (q1 B) q (star_cons hm.1.1), fun B => ⟨t, tr, a, r, rfl, rfl, p1 B, q2 B⟩, fun k1 k2 B => ?_⟩
    simp only [List.all_cons, Bool.and_eq_true] at k1 k2
    exact ⟨a, r, rfl, p2 k1.1 k2.1 B, q3 (by simpa using k1.2) (by simpa using k2.2) B⟩
end
end
end VC
end

section
set_option Elab.async false
set_option linter.all false
set_option autoImplicit false
set_option maxRecDepth 100000
/-! VC18: the text of statements, their typing, the main theorem for statements. -/
namespace VC
open PySem PySem.Spec L2

/-! ### typing -/
def jn1 (s t : Shp) : Shp := if ge0 s t = true then t else if ge0 t s = true then s else .X
def jnS : SEnv → SEnv → SEnv
  | s :: Γ, t :: Δ => jn1 s t :: jnS Γ Δ
  | _, _ => []
def joinS : Option SEnv → Option SEnv → Option SEnv
  | none, r => r
  | r, none => r
  | some a, some b => some (jnS a b)
/-- from a to b the shapes get weaker -/
def geO : Option SEnv → Option SEnv → Bool
  | none, _ => true
  | some a, some b => geS a b
  | some _, none => false
def ioB (ro : List Nat) (m : List Shp) (Γ : SEnv) : Bool := ro.all fun j => decide (Γ[j]? = m[j]?)
def chk (ro : List Nat) (m : List Shp) : Option (Option SEnv) → Option (Option SEnv)
  | some (some Γ) => if ioB ro m Γ then some (some Γ) else none
  | r => r
def plOk (ro : List Nat) (Γ : SEnv) (i : Nat) : Bool := decide (i < Γ.length) && !(ro.contains i)
mutual
def tyS (tc : TC) (m : List Shp) (rt : Shp) (lp : Option SEnv) (Γ : SEnv) : S → Option (Option SEnv)
  | .asg i s e => match ty tc Γ e with
    | some t => if t.2.isNone && cv t.1 s && plOk tc.ro Γ i then some (some (Γ.set i s)) else none
    | none => none
  | .mv i j => match Γ[j]? with
    | some s => if decide (s ≠ .X) && decide (i ≠ j) && plOk tc.ro Γ i then some (some ((Γ.set j .X).set i s)) else none
    | none => none
  | .unp is e => match ty tc Γ e with
    | some t => if t.2.isNone && flat t.1 && is.all (plOk tc.ro Γ) then some (some (setS Γ (is.map fun i => (i, t.1)))) else none
    | none => none
  | .unl is e => match ty tc Γ e with
    | some t => if t.2.isNone && flat t.1 && is.all (plOk tc.ro Γ) then some (some (setS Γ (is.map fun i => (i, t.1)))) else none
    | none => none
  | .par is ss es => match tys tc Γ es with
    | some ts => if parOk ts ss && is.all (plOk tc.ro Γ) && decide (ts.length = 2) then some (some (setS Γ (is.zip ss))) else none
    | none => none
  | .aug i o e => match ty tc Γ e with
    | some t => if decide (Γ[i]? = some .A) && rdOk t.1 && pur e && plOk tc.ro Γ i then some (some Γ) else none
    | none => none
  | .set i k e => match Γ[i]?, ty tc Γ e, ty tc Γ k with
    | some (.O s), some t, some tk => if t.2.isNone && cv t.1 s && pur k && rdOk tk.1 then some (some Γ) else none
    | some (.K s), some t, some tk => if t.2.isNone && cv t.1 s && pur k && ge0 tk.1 .F then some (some Γ) else none
    | some (.T s), some t, some tk => if t.2.isNone && cv t.1 s && pur k && ge0 tk.1 .F then some (some Γ) else none
    | _, _, _ => none
  | .set2 i k j e => match Γ[i]?, ty tc Γ e, ty tc Γ k, ty tc Γ j with
    | some (.O (.O s)), some t, some tk, some tj => if t.2.isNone && cv t.1 s && pur k && rdOk tk.1 && pur j && rdOk tj.1 then some (some Γ) else none
    | _, _, _, _ => none
  | .ex e => match ty tc Γ e with
    | some _ => some (some Γ)
    | none => none
  | .ite c a b => match ty tc Γ c, tySs tc m rt lp Γ a, tySs tc m rt lp Γ b with
    | some t, some Γa, some Γb => if rdOk t.1 && geO Γa (joinS Γa Γb) && geO Γb (joinS Γa Γb) then some (joinS Γa Γb) else none
    | _, _, _ => none
  | .for_ Gl g k ies body => match tys tc Γ ies with
    | some ts => (match isOf k ts with
      | some c => (match tgTy c g with
        | some ps => if nbs ts && ps.all (fun q => plOk tc.ro Gl q.1) && geS Γ Gl && ioB tc.ro m Gl then
            (match tySs tc m rt (some Gl) (setS Gl ps) body with
            | some Γb => if geO Γb (some Gl) then some (some Gl) else none
            | none => none) else none
        | none => none)
      | none => none)
    | none => none
  | .whl Gl c body => match ty tc Gl c with
    | some t => if rdOk t.1 && geS Γ Gl && ioB tc.ro m Gl then
        (match tySs tc m rt (some Gl) Gl body with
        | some Γb => if geO Γb (some Gl) then some (some Gl) else none
        | none => none) else none
    | none => none
  | .ret e => match ty tc Γ e with
    | some t => if t.2.isNone && cv t.1 rt then some none else none
    | none => none
  | .retMv i => match Γ[i]? with
    | some s => if decide (s ≠ .X) && ge0 s rt && !(tc.ro.contains i) then some none else none
    | none => none
  | .ret0 => if flat rt then some none else none
  | .brk => match lp with
    | some Gl => if geS Γ Gl then some none else none
    | none => none
  | .cnt => match lp with
    | some Gl => if geS Γ Gl then some none else none
    | none => none
  | .pas => some (some Γ)
  | .bad => some none
  | .frz i => match Γ[i]? with
    | some s => if frzOk s then some (some (Γ.set i .F)) else none
    | none => none
def tySs (tc : TC) (m : List Shp) (rt : Shp) (lp : Option SEnv) (Γ : SEnv) : List S → Option (Option SEnv)
  | [] => some (some Γ)
  | s :: ss => match chk tc.ro m (tyS tc m rt lp Γ s) with
    | some (some Γ1) => tySs tc m rt lp Γ1 ss
    | some none => if ss.isEmpty then some none else none
    | none => none
end

/-! ### texts -/
/-- a comprehension stored at once -/
def swB (S : SC) (x : Str) (p pos : Pos) (scope : Scope) : Bool := locB S.sc x && (p.line == pos.line) && !(scope.names.any fun (n, k) => n == x && (k == .local || k == .cell))
def notLcI : E → Bool
  | .lcI _ _ _ _ _ _ _ => false
  | _ => true
def asgB (S : SC) (x : Str) (p : Pos) (v : Expr) : Bool :=
  match v with
  | .ListComp _ _ scope pos => funB S.sc
  | v => noComp v
mutual
def mS : S → SC → Stmt → Bool
  | .asg i _ e, S, ast => (match ast with | .Assign [.Name x p] v _ => stB S i x && asgB S x p v && mE e S v && notLcI e | _ => false)
  | .mv i j, S, ast => (match ast with | .Assign [.Name x _] (.Name y _) _ => stB S i x && visB S j y | _ => false)
  | .unp is e, S, ast => (match ast with | .Assign [.Tuple es _ _] v _ => stNs S is es && unpB v && noComp v && mE e S v | _ => false)
  | .unl is e, S, ast => (match ast with | .Assign [.Tuple es _ _] v _ => stNs S is es && unpB v && noComp v && mE e S v | _ => false)
  | .par is _ es, S, ast => (match is with
    | [i, j] => (match ast with | .Assign [.Tuple [.Name x px, .Name y py] _ _] (.Tuple [a, b] _ _) _ => stB S i x && stB S j y && decide (i ≠ j) && swap2B S x y px py [a, b] && mEs es S [a, b] | _ => false)
    | _ => false)
  | .aug i o e, S, ast => (match ast with | .AugAssign (.Name x _) op v _ => stB S i x && decide (augOf o = some op) && mE e S v | _ => false)
  | .set i k e, S, ast => (match ast with | .Assign [.Subscript (.Name x _) kk _] v _ => visB S i x && noSl kk && noComp v && mE k S kk && mE e S v | _ => false)
  | .set2 i k j e, S, ast => (match ast with | .Assign [.Subscript (.Subscript (.Name x _) ka _) ja _] v _ => visB S i x && noSl ka && noSl ja && noComp v && mE k S ka && mE j S ja && mE e S v | _ => false)
  | .ex e, S, ast => (match ast with | .Expr v _ => noComp v && mE e S v | _ => false)
  | .ite c a b, S, ast => (match ast with | .If c' a' b' _ => okT c && mE c S c' && mSs a S a' && mSs b S b' | _ => false)
  | .for_ _ g k ies body, S, ast => (match ast with | .For tg iter bs [] _ => tgB S g tg && noSet iter && (match itB S k iter with | some as => mEs ies S as | none => false) && mSs body S bs | _ => false)
  | .whl _ c body, S, ast => (match ast with | .While c' bs [] _ => okT c && mE c S c' && mSs body S bs | _ => false)
  | .ret e, S, ast => (match ast with | .Return (some v) _ => mE e S v | _ => false)
  | .retMv i, S, ast => (match ast with | .Return (some (.Name x _)) _ => visB S i x | _ => false)
  | .ret0, S, ast => (match ast with | .Return none _ => true | _ => false)
  | .brk, S, ast => (match ast with | .Break _ => true | _ => false)
  | .cnt, S, ast => (match ast with | .Continue _ => true | _ => false)
  | .pas, S, ast => (match ast with | .Pass _ => true | .Expr (.Constant (.str _) _ _) _ => true | _ => false)
  | .frz _, S, ast => false
  | .bad, _, ast => (match ast with | .Raise _ _ _ => true | _ => false)
def mSs : List S → SC → List Stmt → Bool
  | [], _, as => as.isEmpty
  | s :: ss, S, as => (match s with
    | .frz _ => mSs ss S as
    | _ => (match as with | a :: r => mS s S a && mSs ss S r | [] => false))
end

section
variable {G : Gd} {sg : List Sig} {W Wb : WX} {S : SC} {X : Cx} {B : Bs} {Γ : SEnv} {tc : TC} {tg : Expr} {ro : List Nat} {m : List Shp} {rt : Shp} {lp : Option SEnv} {Γ' : Option SEnv}
theorem plOk_of {i : Nat} (h : plOk ro Γ i = true) : i < Γ.length ∧ i ∉ ro := by
  simp only [plOk, Bool.and_eq_true, decide_eq_true_eq, Bool.not_eq_true'] at h
  exact ⟨h.1, by simpa using h.2⟩
theorem ioB_of (h : ioB ro m Γ = true) : ∀ j ∈ ro, Γ[j]? = m[j]? := fun j hj => by simpa using List.all_eq_true.mp h j hj
theorem geO_of {a b : Option SEnv} (h : geO a b = true) : ∀ Γ1, a = some Γ1 → ∃ Γ2, b = some Γ2 ∧ geS Γ1 Γ2 = true := fun Γ1 e => by
  subst e
  cases b with
  | none => cases h
  | some c => exact ⟨c, rfl, h⟩
theorem sub_asg {x : Expr} {kk : Expr} {p2 : Pos} {env : PySem.Env} (h : noSl kk = true) (v : Value) : assign (.Subscript x kk p2) env v = (do
      let ov ← holding [v] (eval x env)
      let iv ← holding [v, ov] (eval kk env)
      standAt p2
      holding [v, ov, iv] (setItem ov iv v)
      release [v, ov, iv] []) := by
  cases kk <;> first | rfl | (simp [noSl] at h; done)

/-- y = [.. for .. for ..] on one line -/
theorem r_setLc2 (xo : XOk G sg W S X) {i : Nat} {s0 : Shp} {y : Str} {py spos : Pos} {own own1 : List Nat} {s : Shp} {elt : E} {g g1 : Tg} {k k1 : ItK} {ies ifs ies1 ifs1 : List E} {c c1 : IS} {ps ps1 : List (Nat × Shp)} {u : Ts} {nb : Bool} {ex iter tg iter1 tg1 : Expr} {fs fs1 : List Expr} {scope : Scope} {pos : Pos}
    (h : Lc2H G sg W S X Γ own own1 s elt g k ies ifs g1 k1 ies1 ifs1 ex tg iter fs tg1 iter1 fs1 scope c c1 ps ps1 u nb)
    (hy : stB S i y = true) (hf : funB S.sc = true) (hsw : swB S y py pos scope = true) (hc : cv (.O s) s0 = true) (hi : i < Γ.length) (hr : i ∉ ro) (io : ∀ j ∈ ro, Γ[j]? = m[j]?) :
    PS X (.Assign [.Name y py] (.ListComp ex [⟨tg, iter, fs, 0⟩, ⟨tg1, iter1, fs1, 0⟩] scope pos) spos) (tS G W ro m rt lp Γ (.asg i s0 (.lc2 own own1 s elt g k ies ifs g1 k1 ies1 ifs1)) (some (Γ.set i s0))) := by
  have bo : BlkOk X.N X.env.scope scope (ownN S own) := blkOk_by (by rw [xo.N, xo.sc]; exact h.hblk)
  simp only [swB, Bool.and_eq_true, Bool.not_eq_true'] at hsw
  obtain ⟨⟨s1, s2⟩, s3⟩ := hsw
  simp only [stB, Bool.and_eq_true, decide_eq_true_eq] at hy
  have hyl : X.env.scope.names.lookup y = some .local := by rw [xo.sc]; exact locB_of s1
  refine PS_imp (ps_setLc2 (vs1 := own1) xo.calm (by rw [xo.N]; exact xo.nd) (by rw [xo.N]; exact hy.1) hyl (sw_true (by rw [xo.sc]; exact funB_of hf) hyl s2 s3) (r_IB (ro := ro) h.hI) bo (fun i hi => by rw [ownN_snd]; simpa using List.all_eq_true.mp h.ho1 i hi) (fun s H C cl fp => h.hG _ (xo.blk s H C cl fp)) (fun s H C cl fp => h.hT _ (xo.blk s H C cl fp)) (fun s H C cl fp => h.hI1 _ (xo.blk s H C cl fp)) (fun s H C cl fp => h.hG1 _ (xo.blk s H C cl fp)) (fun s H C cl fp => h.hT1 _ (xo.blk s H C cl fp)) (fun s H C cl fp => h.hE _ (xo.blk s H C cl fp)) (noSet_ok h.hset) (fun env x => noSet_ok h.hset1 x)) ?_
  rw [ownN_snd]
  refine asg_imp (t := (.O s, none)) rfl hc hi hr io ?_
  rintro σ H Q ⟨B, hB, h'⟩
  exact ⟨B, hB, lc2_imp (nb := nb) h.hg h.hown h.hps h.ho1 h.hg1 h.hps1 h.hpe h.hpi h.hpj h.hpi1 h.hu h.hcv h'⟩
/-- y = [..] on one line -/
theorem r_setLc (xo : XOk G sg W S X) {i : Nat} {s0 : Shp} {y : Str} {py spos : Pos} {own : List Nat} {ownN : List (Str × Nat)} {s : Shp} {elt : E} {g : Tg} {k : ItK} {ies ifs : List E} {c : IS} {ps : List (Nat × Shp)} {u : Ts} {nb : Bool} {ex iter : Expr} {fs : List Expr} {scope : Scope} {pos : Pos} (hg : tgTy c g = some ps) (hown : own.all (fun i => decide (i < Γ.length)) = true) (hps : ps.all (fun q => own.contains q.1) = true)
    (hpe : pur elt = true) (hpi : purs ifs = true) (hu : u.2 = none) (hcv : cv u.1 s = true) (hblk : blkC S.N S.sc scope ownN = true) (hon : ownN.map (·.2) = own) (hset : noSet iter = true)
    (hI : ∀ B, PI X tg iter (tI G W B Γ (purs ies) nb k c ies))
    (hG : ∀ (X' : Cx), XOk G sg Wno (S.blk scope) X' → PG X' tg (tgR G.K g))
    (hT : ∀ (X' : Cx), XOk G sg Wno (S.blk scope) X' → PTs X' fs (tTs G Wno (setS (wipeS Γ own) ps) ifs))
    (hE : ∀ (X' : Cx), XOk G sg Wno (S.blk scope) X' → PE X' ex (tEx G Wno (setS (wipeS Γ own) ps) elt u))
    (hy : stB S i y = true) (hf : funB S.sc = true) (hsw : swB S y py pos scope = true) (hc : cv (.O s) s0 = true) (hi : i < Γ.length) (hr : i ∉ ro) (io : ∀ j ∈ ro, Γ[j]? = m[j]?) :
    PS X (.Assign [.Name y py] (.ListComp ex [⟨tg, iter, fs, 0⟩] scope pos) spos) (tS G W ro m rt lp Γ (.asg i s0 (.lc own s elt g k ies ifs)) (some (Γ.set i s0))) := by
  have bo : BlkOk X.N X.env.scope scope ownN := blkOk_by (by rw [xo.N, xo.sc]; exact hblk)
  simp only [swB, Bool.and_eq_true, Bool.not_eq_true'] at hsw
  obtain ⟨⟨s1, s2⟩, s3⟩ := hsw
  simp only [stB, Bool.and_eq_true, decide_eq_true_eq] at hy
  have hyl : X.env.scope.names.lookup y = some .local := by rw [xo.sc]; exact locB_of s1
  refine PS_imp (ps_setLc xo.calm (by rw [xo.N]; exact xo.nd) (by rw [xo.N]; exact hy.1) hyl (sw_true (by rw [xo.sc]; exact funB_of hf) hyl s2 s3) (r_IB (ro := ro) hI) bo (fun s H C cl fp => hG _ (xo.blk s H C cl fp)) (fun s H C cl fp => hT _ (xo.blk s H C cl fp)) (fun s H C cl fp => hE _ (xo.blk s H C cl fp)) (noSet_ok hset)) ?_
  rw [hon]
  refine asg_imp (t := (.O s, none)) rfl hc hi hr io ?_
  rintro σ H Q ⟨B, hB, h⟩
  exact ⟨B, hB, lc_imp (nb := nb) hg hown hps hpe hpi hu hcv h⟩
theorem sw_false {x : Str} {p pos : Pos} {elt : Expr} {gs : List Comprehension} {scope : Scope} {l : Nat} (xo : XOk G sg W S X) (h : swB S x p pos scope = false) : swapsWith (.ListComp elt gs scope pos) (some (.Name x p)) l X.env = pure false := by
  unfold swapsWith
  have : (X.env.blockKind == .function && X.env.kindOf x == some .local && p.line == pos.line && !(scope.names.any fun (n, k) => n == x && (k == .local || k == .cell))) = false := by
    cases hh : (X.env.blockKind == .function && X.env.kindOf x == some .local && p.line == pos.line && !(scope.names.any fun (n, k) => n == x && (k == .local || k == .cell))) with
    | false => rfl
    | true =>
      simp only [Bool.and_eq_true] at hh
      obtain ⟨⟨⟨a, b⟩, c⟩, d⟩ := hh
      have kx : S.sc.names.lookup x = some .local := by
        have : X.env.scope.names.lookup x = some .local := by simpa [PySem.Env.kindOf] using b
        rw [← xo.sc]; exact this
      have l1 : locB S.sc x = true := by unfold locB; rw [kx]
      unfold swB at h
      rw [l1, c, d] at h
      cases h
  simp only [Expr.pos]
  rw [this]
end

section
variable (G : Gd) (sg : List Sig) (tc : TC) (m : List Shp) (rt : Shp)
def SS (s : S) : Prop := ∀ (S : SC) (W : WX) (X : Cx) (lp : Option SEnv) (Γ : SEnv) (ast : Stmt) (Γ' : Option SEnv), XOk G sg W S X → (∀ j ∈ tc.ro, Γ[j]? = m[j]?) → mS s S ast = true → tyS tc m rt lp Γ s = some Γ' → PS X ast (tS G W tc.ro m rt lp Γ s Γ')
def SSs (ss : List S) : Prop := ∀ (S : SC) (W : WX) (X : Cx) (lp : Option SEnv) (Γ : SEnv) (as : List Stmt) (Γ' : Option SEnv), XOk G sg W S X → (∀ j ∈ tc.ro, Γ[j]? = m[j]?) → mSs ss S as = true → tySs tc m rt lp Γ ss = some Γ' → PSs X as (tSs G W tc.ro m rt lp Γ ss Γ')
end
section
variable {G : Gd} {sg : List Sig} {tc : TC} {m : List Shp} {rt : Shp}
theorem mE_lc {e : E} {S : SC} {a : Expr} {b : List Comprehension} {c : Scope} {d : Pos} (hn : notLcI e = true) (h : mE e S (.ListComp a b c d) = true) : (∃ own s elt g k ies ifs, e = .lc own s elt g k ies ifs) ∨ ∃ own own1 s elt g k ies ifs g1 k1 ies1 ifs1, e = .lc2 own own1 s elt g k ies ifs g1 k1 ies1 ifs1 := by
  cases e with
  | lc own s elt g k ies ifs => exact .inl ⟨_, _, _, _, _, _, _, rfl⟩
  | lc2 own own1 s elt g k ies ifs g1 k1 ies1 ifs1 => exact .inr ⟨_, _, _, _, _, _, _, _, _, _, _, _, rfl⟩
  | lcI own s elt g k ies ifs => simp [notLcI] at hn
  | bi b args => cases b <;> simp [mE] at h
  | _ => simp [mE] at h
theorem setS_io {ro : List Nat} {ps : List (Nat × Shp)} {Γ : SEnv} (io : ∀ j ∈ ro, Γ[j]? = m[j]?) (h : ∀ q ∈ ps, q.1 ∉ ro) : ∀ j ∈ ro, (setS Γ ps)[j]? = m[j]? := by
  induction ps generalizing Γ with
  | nil => exact io
  | cons q ps ih =>
    obtain ⟨i, s⟩ := q
    unfold setS
    refine ih (fun j hj => ?_) fun q hq => h q (List.mem_cons_of_mem _ hq)
    rw [List.getElem?_set_ne fun e => h (i, s) List.mem_cons_self (by rw [e]; exact hj)]
    exact io j hj
theorem geS_io {ro : List Nat} {Γ Gl : SEnv} (io : ∀ j ∈ ro, Γ[j]? = m[j]?) (h : ioB ro m Gl = true) : ∀ j ∈ ro, Gl[j]? = m[j]? := ioB_of h
mutual
theorem sndS (htc : tc.sg = sg) : ∀ s : S, SS G sg tc m rt s
  | .asg i s e, S, W, X, lp, Γ, ast, Γ', xo, io, hm, ht => by
    simp only [mS] at hm
    split at hm
    case h_2 => cases hm
    rename_i x p v pos
    simp only [Bool.and_eq_true] at hm
    obtain ⟨⟨⟨m1, m2⟩, m3⟩, m4⟩ := hm
    simp only [tyS] at ht
    split at ht
    case h_2 => cases ht
    rename_i t h1
    split at ht
    case isFalse => cases ht
    rename_i q
    simp only [Bool.and_eq_true, Option.isNone_iff_eq_none] at q
    obtain ⟨⟨q1, q2⟩, q3⟩ := q
    obtain ⟨q3, q4⟩ := plOk_of q3
    cases ht
    have pe := (snd htc e S W X Γ v t xo m3 h1).1
    by_cases hl : noComp v = true
    · exact r_asg xo m1 pe q1 q2 q3 q4 io (noComp_ok hl)
    · have : ∃ a b c d, v = .ListComp a b c d := by
        cases v <;> first | exact ⟨_, _, _, _, rfl⟩ | exact absurd rfl hl | (simp [asgB, noComp] at m2; done)
      obtain ⟨elt', gs, scope, vpos, rfl⟩ := this
      have hf : funB S.sc = true := m2
      cases hsw : swB S x p vpos scope with
      | false => exact r_asg xo m1 pe q1 q2 q3 q4 io (sw_false xo hsw)
      | true =>
        -- stored at once
        rcases mE_lc m4 m3 with ⟨own, s', elt, g, k, ies, ifs, rfl⟩ | ⟨own, own1, s', elt, g, k, ies, ifs, g1, k1, ies1, ifs1, rfl⟩
        case inr =>
          obtain ⟨rfl, ex, tg, iter, fs, tg1, iter1, fs1, scope, pos, c, c1, ps, ps1, u, nb, e, h⟩ := lc2P htc (sndl htc ies) (sndl htc ifs) (sndl htc ies1) (sndl htc ifs1) (snd htc elt) xo m3 h1
          cases e
          exact r_setLc2 xo h m1 hf hsw q2 q3 q4 io
        simp only [mE] at m3
        split at m3
        case h_2 => cases m3
        rename_i elt2 tg iter fs scope2 pos2 heq
        cases heq
        simp only [Bool.and_eq_true] at m3
        obtain ⟨⟨⟨⟨⟨⟨n1, n2⟩, n3⟩, n4⟩, n5⟩, n6⟩, n7⟩ := m3
        simp only [ty] at h1
        split at h1
        case h_2 => cases h1
        rename_i ts hts
        split at h1
        case h_2 => cases h1
        rename_i ps hps
        split at h1
        case isFalse => cases h1
        rename_i q
        rw [Bool.and_eq_true, Bool.and_eq_true, Bool.and_eq_true, Bool.and_eq_true] at q
        obtain ⟨⟨⟨⟨r1, r2⟩, r3⟩, r4⟩, r5⟩ := q
        split at h1
        case h_2 => cases h1
        rename_i us u hus hu
        split at h1
        case isFalse => cases h1
        rename_i w
        rw [Bool.and_eq_true, Bool.and_eq_true, Bool.and_eq_true, decide_eq_true_eq, Option.isNone_iff_eq_none] at w
        obtain ⟨⟨⟨w1, w2⟩, w3⟩, w4⟩ := w
        cases h1
        simp only [Option.bind_eq_some_iff] at hps
        obtain ⟨c, hc, hg⟩ := hps
        split at n4
        case h_2 => cases n4
        rename_i as has
        refine r_setLc xo (c := c) (ps := ps) (u := u) (nb := nbs ts) (ownN := ownN S own) hg r3 r5 r1 r2 w3 w4 n1 (ownN_snd S own) n3 (fun B => itP (S' := S.blk scope) xo has n4 hts hc hg n2 (sndl htc ies)) (fun X' xo' => r_tg xo' n2) (fun X' xo' => ?_) (fun X' xo' => r_ex fun B => ?_) m1 hf hsw q2 q3 q4 io
        · have l1 := tys_len hus
          have l2 := mEs_len n5
          have pl := sndl htc ifs (S.blk scope) Wno X' _ fs us xo' n5 hus
          match ifs, us, l1, w2 with
          | [], [], _, _ =>
            have : fs = [] := List.length_eq_zero_iff.mp l2
            subst this
            exact r_ts0
          | [e], [t], _, _ =>
            match fs, l2 with
            | [f], _ =>
              refine r_ts1 (by simpa [purs] using r2) fun B => ?_
              obtain ⟨a, r, e1, p1, _⟩ := pl.2.2 n6 w1 B
              cases e1
              exact p1
            | [], l2 => simp at l2
            | _ :: _ :: _, l2 => simp at l2
          | [], _ :: _, l1, _ => simp at l1
          | _ :: _, [], l1, _ => simp at l1
          | _, _ :: _ :: _, _, w2 => simp at w2
          | _ :: _ :: _, [_], l1, _ => simp at l1
        · have := (snd htc elt (S.blk scope) Wno X' _ elt' u xo' n7 hu).1 B
          rw [r1] at this
          exact this
  | .mv i j, S, W, X, lp, Γ, ast, Γ', xo, io, hm, ht => by
    simp only [mS] at hm
    split at hm
    case h_2 => cases hm
    simp only [Bool.and_eq_true] at hm
    simp only [tyS] at ht
    split at ht
    case h_2 => cases ht
    rename_i s h1
    split at ht
    case isFalse => cases ht
    rename_i q
    simp only [Bool.and_eq_true, decide_eq_true_eq] at q
    obtain ⟨⟨q1, q2⟩, q3⟩ := q
    obtain ⟨q3, q4⟩ := plOk_of q3
    cases ht
    exact r_mv xo hm.1 hm.2 h1 q1 q3 q2 q4
  | .unp is e, S, W, X, lp, Γ, ast, Γ', xo, io, hm, ht => by
    simp only [mS] at hm
    split at hm
    case h_2 => cases hm
    simp only [Bool.and_eq_true] at hm
    obtain ⟨⟨⟨m1, m2⟩, m3⟩, m4⟩ := hm
    simp only [tyS] at ht
    split at ht
    case h_2 => cases ht
    rename_i t h1
    split at ht
    case isFalse => cases ht
    rename_i q
    rw [Bool.and_eq_true, Bool.and_eq_true, Option.isNone_iff_eq_none] at q
    cases ht
    exact r_unp xo m1 (snd htc e S W X Γ _ t xo m4 h1).1 q.1.1 q.1.2 (fun i hi => plOk_of (List.all_eq_true.mp q.2 i hi)) m2 m3 io
  | .unl is e, S, W, X, lp, Γ, ast, Γ', xo, io, hm, ht => by
    simp only [mS] at hm
    split at hm
    case h_2 => cases hm
    simp only [Bool.and_eq_true] at hm
    obtain ⟨⟨⟨m1, m2⟩, m3⟩, m4⟩ := hm
    simp only [tyS] at ht
    split at ht
    case h_2 => cases ht
    rename_i t h1
    split at ht
    case isFalse => cases ht
    rename_i q
    rw [Bool.and_eq_true, Bool.and_eq_true, Option.isNone_iff_eq_none] at q
    cases ht
    exact r_unl xo m1 (snd htc e S W X Γ _ t xo m4 h1).1 q.1.1 q.1.2 (fun i hi => plOk_of (List.all_eq_true.mp q.2 i hi)) m2 m3 io
  | .par is ss es, S, W, X, lp, Γ, ast, Γ', xo, io, hm, ht => by
    simp only [mS] at hm
    split at hm
    case h_2 => cases hm
    split at hm
    case h_2 => cases hm
    simp only [Bool.and_eq_true, decide_eq_true_eq] at hm
    obtain ⟨⟨⟨⟨m1, m2⟩, m3⟩, m4⟩, m5⟩ := hm
    simp only [tyS] at ht
    split at ht
    case h_2 => cases ht
    rename_i ts h1
    split at ht
    case isFalse => cases ht
    rename_i q
    rw [Bool.and_eq_true, Bool.and_eq_true, decide_eq_true_eq] at q
    cases ht
    exact r_par2 xo m1 m2 m3 m4 (sndl htc es S W X Γ _ ts xo m5 h1).1 q.1.1 (fun i hi => plOk_of (List.all_eq_true.mp q.1.2 i hi)) io q.2
  | .aug i o e, S, W, X, lp, Γ, ast, Γ', xo, io, hm, ht => by
    simp only [mS] at hm
    split at hm
    case h_2 => cases hm
    simp only [Bool.and_eq_true, decide_eq_true_eq] at hm
    simp only [tyS] at ht
    split at ht
    case h_2 => cases ht
    rename_i t h1
    split at ht
    case isFalse => cases ht
    rename_i q
    simp only [Bool.and_eq_true, decide_eq_true_eq] at q
    obtain ⟨⟨⟨q1, q2⟩, q3⟩, q4⟩ := q
    cases ht
    exact r_aug xo hm.1.1 hm.1.2 q1 (snd htc e S W X Γ _ t xo hm.2 h1).1 q2 q3 (plOk_of q4).2 io
  | .set i k e, S, W, X, lp, Γ, ast, Γ', xo, io, hm, ht => by
    simp only [mS] at hm
    split at hm
    case h_2 => cases hm
    simp only [Bool.and_eq_true] at hm
    obtain ⟨⟨⟨⟨m1, m2⟩, m3⟩, m4⟩, m5⟩ := hm
    simp only [tyS] at ht
    split at ht
    case h_4 => cases ht
    · rename_i s t tk hΓ h1 h2
      split at ht
      case isFalse => cases ht
      rename_i q
      simp only [Bool.and_eq_true, Option.isNone_iff_eq_none] at q
      obtain ⟨⟨⟨q1, q2⟩, q3⟩, q4⟩ := q
      cases ht
      exact r_set xo m1 hΓ (snd htc e S W X Γ _ t xo m5 h1).1 q1 q2 (snd htc k S W X Γ _ tk xo m4 h2).1 q3 q4 m3 io (sub_asg m2)
    · rename_i s t tk hΓ h1 h2
      split at ht
      case isFalse => cases ht
      rename_i q
      simp only [Bool.and_eq_true, Option.isNone_iff_eq_none] at q
      obtain ⟨⟨⟨q1, q2⟩, q3⟩, q4⟩ := q
      cases ht
      exact r_setDK xo m1 hΓ (snd htc e S W X Γ _ t xo m5 h1).1 q1 q2 (snd htc k S W X Γ _ tk xo m4 h2).1 q3 q4 m3 io
    · rename_i s t tk hΓ h1 h2
      split at ht
      case isFalse => cases ht
      rename_i q
      simp only [Bool.and_eq_true, Option.isNone_iff_eq_none] at q
      obtain ⟨⟨⟨q1, q2⟩, q3⟩, q4⟩ := q
      cases ht
      exact r_setDT xo m1 hΓ (snd htc e S W X Γ _ t xo m5 h1).1 q1 q2 (snd htc k S W X Γ _ tk xo m4 h2).1 q3 q4 m3 io
  | .set2 i k j e, S, W, X, lp, Γ, ast, Γ', xo, io, hm, ht => by
    simp only [mS] at hm
    split at hm
    case h_2 => cases hm
    simp only [Bool.and_eq_true] at hm
    obtain ⟨⟨⟨⟨⟨⟨m1, m2⟩, m3⟩, m4⟩, m5⟩, m6⟩, m7⟩ := hm
    simp only [tyS] at ht
    split at ht
    case h_2 => cases ht
    rename_i s t tk tj hΓ h1 h2 h3
    split at ht
    case isFalse => cases ht
    rename_i q
    simp only [Bool.and_eq_true, Option.isNone_iff_eq_none] at q
    obtain ⟨⟨⟨⟨⟨q1, q2⟩, q3⟩, q4⟩, q5⟩, q6⟩ := q
    cases ht
    exact r_set2 xo m1 hΓ (snd htc e S W X Γ _ t xo m7 h1).1 q1 q2 (snd htc k S W X Γ _ tk xo m5 h2).1 q3 q4 m2 (snd htc j S W X Γ _ tj xo m6 h3).1 q5 q6 m4 io (sub_asg m3)
  | .ex e, S, W, X, lp, Γ, ast, Γ', xo, io, hm, ht => by
    simp only [mS] at hm
    split at hm
    case h_2 => cases hm
    simp only [Bool.and_eq_true] at hm
    simp only [tyS] at ht
    split at ht
    case h_2 => cases ht
    rename_i t h1
    cases ht
    exact r_sex (snd htc e S W X Γ _ t xo hm.2 h1).1 hm.1 io
  | .ite c a b, S, W, X, lp, Γ, ast, Γ', xo, io, hm, ht => by
    simp only [mS] at hm
    split at hm
    case h_2 => cases hm
    simp only [Bool.and_eq_true] at hm
    obtain ⟨⟨⟨m0, m1⟩, m2⟩, m3⟩ := hm
    simp only [tyS] at ht
    split at ht
    case h_2 => cases ht
    rename_i t Γa Γb h1 h2 h3
    split at ht
    case isFalse => cases ht
    rename_i q
    simp only [Bool.and_eq_true] at q
    cases ht
    exact r_sif ((snd htc c S W X Γ _ t xo m1 h1).2 m0 q.1.1) (sndSs htc a S W X lp Γ _ Γa xo io m2 h2) (sndSs htc b S W X lp Γ _ Γb xo io m3 h3) (geO_of q.1.2) (geO_of q.2) io
  | .for_ Gl g k ies body, S, W, X, lp, Γ, ast, Γ', xo, io, hm, ht => by
    simp only [mS] at hm
    split at hm
    case h_2 => cases hm
    simp only [Bool.and_eq_true] at hm
    obtain ⟨⟨⟨m1, m2⟩, m3⟩, m4⟩ := hm
    split at m3
    case h_2 => cases m3
    rename_i as has
    simp only [tyS] at ht
    split at ht
    case h_2 => cases ht
    rename_i ts h1
    split at ht
    case h_2 => cases ht
    rename_i c hc
    split at ht
    case h_2 => cases ht
    rename_i ps hg
    split at ht
    case isFalse => cases ht
    rename_i q
    rw [Bool.and_eq_true, Bool.and_eq_true, Bool.and_eq_true] at q
    obtain ⟨⟨⟨q1, q2⟩, q3⟩, q5⟩ := q
    split at ht
    case h_2 => cases ht
    rename_i Γb h2
    split at ht
    case isFalse => cases ht
    rename_i q4
    cases ht
    have hps : ∀ q ∈ ps, q.1 < Gl.length ∧ q.1 ∉ tc.ro := fun q hq => plOk_of (List.all_eq_true.mp q2 q hq)
    have io2 := ioB_of q5
    refine r_for xo (c := c) (ps := ps) (fun B => ?_) (r_tg xo m1) m2 hg hps q3 (sndSs htc body S W X (some Gl) _ _ Γb xo (setS_io io2 fun q hq => (hps q hq).2) m4 h2) (fun Γ1 e => ?_) io
    · have := itP (S' := S) (B := B) xo has m3 h1 hc hg m1 (sndl htc ies)
      rw [q1] at this
      exact this
    · obtain ⟨Γ2, e2, g⟩ := geO_of q4 Γ1 e
      cases e2; exact g
  | .whl Gl c body, S, W, X, lp, Γ, ast, Γ', xo, io, hm, ht => by
    simp only [mS] at hm
    split at hm
    case h_2 => cases hm
    simp only [Bool.and_eq_true] at hm
    obtain ⟨⟨m1, m2⟩, m3⟩ := hm
    simp only [tyS] at ht
    split at ht
    case h_2 => cases ht
    rename_i t h1
    split at ht
    case isFalse => cases ht
    rename_i q
    simp only [Bool.and_eq_true] at q
    obtain ⟨⟨q1, q2⟩, q3⟩ := q
    split at ht
    case h_2 => cases ht
    rename_i Γb h2
    split at ht
    case isFalse => cases ht
    rename_i q4
    cases ht
    have io2 := ioB_of q3
    refine r_whl xo ((snd htc c S W X Gl _ t xo m2 h1).2 m1 q1) q2 (sndSs htc body S W X (some Gl) Gl _ Γb xo io2 m3 h2) (fun Γ1 e => ?_) io2
    obtain ⟨Γ2, e2, g⟩ := geO_of q4 Γ1 e
    cases e2; exact g
  | .ret e, S, W, X, lp, Γ, ast, Γ', xo, io, hm, ht => by
    simp only [mS] at hm
    split at hm
    case h_2 => cases hm
    simp only [tyS] at ht
    split at ht
    case h_2 => cases ht
    rename_i t h1
    split at ht
    case isFalse => cases ht
    rename_i q
    simp only [Bool.and_eq_true, Option.isNone_iff_eq_none] at q
    cases ht
    exact r_ret (snd htc e S W X Γ _ t xo hm h1).1 q.1 q.2 io
  | .retMv i, S, W, X, lp, Γ, ast, Γ', xo, io, hm, ht => by
    simp only [mS] at hm
    split at hm
    case h_2 => cases hm
    simp only [tyS] at ht
    split at ht
    case h_2 => cases ht
    rename_i s h1
    split at ht
    case isFalse => cases ht
    rename_i q
    simp only [Bool.and_eq_true, decide_eq_true_eq, Bool.not_eq_true'] at q
    cases ht
    exact r_retMv xo hm h1 q.1.1 q.1.2 (by simpa using q.2) io
  | .ret0, S, W, X, lp, Γ, ast, Γ', xo, io, hm, ht => by
    simp only [mS] at hm
    split at hm
    case h_2 => cases hm
    simp only [tyS] at ht
    split at ht
    case isFalse => cases ht
    rename_i q
    cases ht
    exact r_ret0 q io
  | .brk, S, W, X, lp, Γ, ast, Γ', xo, io, hm, ht => by
    simp only [mS] at hm
    split at hm
    case h_2 => cases hm
    simp only [tyS] at ht
    split at ht
    case h_2 => cases ht
    split at ht
    case isFalse => cases ht
    rename_i q
    cases ht
    exact r_brk rfl q
  | .cnt, S, W, X, lp, Γ, ast, Γ', xo, io, hm, ht => by
    simp only [mS] at hm
    split at hm
    case h_2 => cases hm
    simp only [tyS] at ht
    split at ht
    case h_2 => cases ht
    split at ht
    case isFalse => cases ht
    rename_i q
    cases ht
    exact r_cnt rfl q
  | .pas, S, W, X, lp, Γ, ast, Γ', xo, io, hm, ht => by
    simp only [tyS, Option.some.injEq] at ht
    subst ht
    simp only [mS] at hm
    split at hm
    · exact r_pass
    · exact r_doc
    · cases hm
  | .frz i, S, W, X, lp, Γ, ast, Γ', xo, io, hm, ht => by
    simp only [mS] at hm
    cases hm
  | .bad, S, W, X, lp, Γ, ast, Γ', xo, io, hm, ht => by
    refine ⟨fun pins s σ H D I h => ?_⟩
    obtain ⟨B, env, F, fp, hB, rel, k⟩ := h
    simp only [evS] at k
    exact k.elim
theorem sndSs (htc : tc.sg = sg) : ∀ ss : List S, SSs G sg tc m rt ss
  | [], S, W, X, lp, Γ, as, Γ', xo, io, hm, ht => by
    simp only [mSs, List.isEmpty_iff] at hm
    subst hm
    simp only [tySs, Option.some.injEq] at ht
    subst ht
    exact r_snil
  | s :: ss, S, W, X, lp, Γ, as, Γ', xo, io, hm, ht => by
    by_cases hfz : ∃ i, s = .frz i
    · obtain ⟨i, rfl⟩ := hfz
      simp only [mSs] at hm
      simp only [tySs, tyS] at ht
      cases hΓ : Γ[i]? with
      | none => rw [hΓ] at ht; simp [chk] at ht
      | some s =>
        rw [hΓ] at ht
        simp only at ht
        by_cases hf : frzOk s = true
        · rw [if_pos hf] at ht
          simp only [chk] at ht
          by_cases hi : ioB tc.ro m (Γ.set i .F) = true
          · rw [if_pos hi] at ht
            exact r_frz hΓ hf (sndSs htc ss S W X lp _ as Γ' xo (ioB_of hi) hm ht)
          · rw [if_neg hi] at ht; simp at ht
        · rw [if_neg hf] at ht; simp [chk] at ht
    · have hm' : ∃ a r, as = a :: r ∧ mS s S a = true ∧ mSs ss S r = true := by
        cases as with
        | nil => cases s <;> first | exact absurd ⟨_, rfl⟩ hfz | (simp only [mSs] at hm; cases hm)
        | cons a r =>
          refine ⟨a, r, rfl, ?_⟩
          cases s <;> first | exact absurd ⟨_, rfl⟩ hfz | (simp only [mSs, Bool.and_eq_true] at hm; exact hm)
      obtain ⟨a, r, rfl, m1, m2⟩ := hm'
      simp only [tySs] at ht
      cases h1 : tyS tc m rt lp Γ s with
      | none => rw [h1] at ht; simp [chk] at ht
      | some Γ1 =>
        have ps := sndS htc s S W X lp Γ a Γ1 xo io m1 h1
        rw [h1] at ht
        cases Γ1 with
        | none =>
          simp only [chk] at ht
          split at ht
          · rename_i he
            cases ht
            have : ss = [] := by simpa using he
            subst this
            simp only [mSs, List.isEmpty_iff] at m2
            subst m2
            exact r_slast ps
          · cases ht
        | some Γ1 =>
          simp only [chk] at ht
          by_cases hi : ioB tc.ro m Γ1 = true
          · rw [if_pos hi] at ht
            exact r_scons ps (sndSs htc ss S W X lp Γ1 r Γ' xo (ioB_of hi) m2 ht)
          · rw [if_neg hi] at ht; simp at ht
end
end
end VC
end

section
set_option Elab.async false
set_option linter.all false
set_option autoImplicit false
set_option maxRecDepth 100000
/-! VC19: a def keeps its promise. -/
namespace VC
open PySem PySem.Spec L2

def stOf (sc : Scope) (x : Str) : Bool := match sc.names.lookup x with | some .local => true | some .cell => true | _ => false
/-- all that is to be looked at in a def's text -/
def defB (sg : List Sig) (glo : List (Str × Nat)) (free : List Str) (cs : List (Str × Key)) (df : Def) (N ps : List Str) (sc : Scope) (body : List Stmt) : Bool :=
  funB sc && !sc.isCoroutine && !sc.isGenerator && decide N.Nodup && decide (N.take ps.length = ps) && ps.all (stOf sc) && sc.names.all (fun y => match y.2 with | .free => false | _ => true) &&
  decide (df.np = ps.length) && decide (df.nl = N.length) && decide (df.modes.length = df.np) && decide df.ios.Nodup && df.ios.all (fun i => decide (i < df.np)) &&
  mSs df.body ⟨N, sc, glo, free, stOf sc, cs⟩ body &&
  (match tySs ⟨sg, df.ios⟩ df.modes df.ret none (df.modes ++ List.replicate (df.nl - df.np) .X) df.body with
  | some none => true
  | some (some Γ1) => flat df.ret && ioB df.ios df.modes Γ1
  | none => false)
theorem stOf_of {sc : Scope} {x : Str} (h : stOf sc x = true) : sc.names.lookup x = some .local ∨ sc.names.lookup x = some .cell := by
  unfold stOf at h
  split at h
  · exact .inl (by assumption)
  · exact .inr (by assumption)
  · cases h
theorem relE_app {K : PySem.W.Frag} {F H : Hp} {k : Nat} : ∀ {Γ : SEnv} {env : Env} {σ : L2.St} {fp : Fps}, RelE K F H Γ env σ fp → RelE K F H (Γ ++ List.replicate k .X) (env ++ List.replicate k none) (σ ++ List.replicate k none) (fp ++ List.replicate k [])
  | [], _, _, _, h => by
    obtain ⟨rfl, rfl, rfl⟩ := h
    simp only [List.nil_append]
    induction k with
    | zero => exact ⟨rfl, rfl, rfl⟩
    | succ k ih => exact ⟨none, _, none, _, [], _, rfl, rfl, rfl, rfl, ih⟩
  | s :: Γ, _, _, _, h => by
    obtain ⟨o, e2, w, σ2, f1, f2, rfl, rfl, rfl, h1, h2⟩ := h
    exact ⟨o, _, w, _, f1, _, rfl, rfl, rfl, h1, relE_app h2⟩
theorem flat_app (fp : Fps) (k : Nat) : (fp ++ List.replicate k ([] : List Addr)).flatten = fp.flatten := by
  rw [List.flatten_append]
  have : (List.replicate k ([] : List Addr)).flatten = [] := by
    induction k with
    | zero => rfl
    | succ k ih => rw [List.replicate_succ, List.flatten_cons, ih]; rfl
  rw [this, List.append_nil]
/-- the parts of the parameters that go out -/
def outF (fp : Fps) (ios : List Nat) : Fps := ios.map fun i => (fp[i]?).getD []
theorem outR_of {K : PySem.W.Frag} {B : Bs} {Γ : SEnv} {env : Env} {F H : Hp} {fp : Fps} {σ : L2.St} {m : List Shp} {vs : List V} (rel : Rel K B Γ env F fp σ H) (hm : ∀ s, (∃ i ∈ B.ios, m[i]? = some s) → s ≠ .X) (io : Io B m Γ) (hσ : ∀ i ∈ B.ios, B.σ[i]? = (vs[i]?).map some) :
    ∀ {ios : List Nat} {outs : List D}, (∀ i ∈ ios, i ∈ B.ios ∧ i < m.length) → outsOf env ios = some outs → OutR K F H m vs ios outs (outF fp ios)
  | [], outs, _, h => by
    simp only [outsOf, Option.some.injEq] at h
    subst h
    exact ⟨rfl, rfl⟩
  | i :: is, outs, hi, h => by
    simp only [outsOf] at h
    split at h
    case h_2 => cases h
    rename_i d hd
    simp only [Option.map_eq_some_iff] at h
    obtain ⟨r, hr, rfl⟩ := h
    obtain ⟨i1, i2⟩ := hi i List.mem_cons_self
    obtain ⟨s, hs⟩ : ∃ s, m[i]? = some s := ⟨m[i], List.getElem?_eq_getElem i2⟩
    have hΓ : Γ[i]? = some s := (io i i1).trans hs
    obtain ⟨v, fv, e1, e2, ow⟩ := rel.e.get hΓ (hm s ⟨i, i1, hs⟩) hd
    have hv : vs[i]? = some v := by
      have := rel.io i i1
      rw [e1, hσ i i1] at this
      cases hq : vs[i]? with
      | none => rw [hq] at this; cases this
      | some w => rw [hq] at this; simp at this; rw [this]
    refine ⟨d, r, fv, outF fp is, s, v, rfl, ?_, hs, hv, ow, outR_of rel hm io hσ (fun j hj => hi j (List.mem_cons_of_mem _ hj)) hr⟩
    show ((fp[i]?).getD []) :: _ = _
    rw [e2]; rfl
theorem outF_mem {fp : Fps} {ios : List Nat} {a : Addr} (h : a ∈ (outF fp ios).flatten) : ∃ i f, i ∈ ios ∧ fp[i]? = some f ∧ a ∈ f := by
  obtain ⟨f, hf, ha⟩ := List.mem_flatten.mp h
  obtain ⟨i, hi, rfl⟩ := List.mem_map.mp hf
  cases e : fp[i]? with
  | none => rw [e] at ha; simp at ha
  | some g => rw [e] at ha; exact ⟨i, g, hi, e, ha⟩
theorem outF_nd {fp : Fps} (nd : fp.flatten.Nodup) : ∀ {ios : List Nat}, ios.Nodup → (outF fp ios).flatten.Nodup
  | [], _ => List.nodup_nil
  | i :: is, h => by
    obtain ⟨h1, h2⟩ := List.nodup_cons.mp h
    show (((fp[i]?).getD []) ++ (outF fp is).flatten).Nodup
    refine List.nodup_append.mpr ⟨?_, outF_nd nd h2, fun a ha b hb e => ?_⟩
    · cases e : fp[i]? with
      | none => exact List.nodup_nil
      | some g => exact nd_at nd e
    · subst e
      obtain ⟨j, f, hj, e1, e2⟩ := outF_mem hb
      cases e : fp[i]? with
      | none => rw [e] at ha; simp at ha
      | some g =>
        rw [e] at ha
        exact at_apart nd e e1 (fun z => h1 (by rw [z]; exact hj)) ha e2

theorem def_ok {P : Program} {w : World} {K : PySem.W.Frag} {mg : Str → Option Value} {base : Heap} {cA : Nat → Addr} {T : List Def} {sg : List Sig} {glo : List (Str × Nat)} {free : List Str} {cs : List (Str × Key)} {f n : Nat} {df : Def} {N ps : List Str} {x qual : Str} {params : Arguments} {body : List Stmt} {scope : Scope} {a : Addr} {fd : FuncData}
    (hT : T[f]? = some df) (hB : defB sg glo free cs df N ps scope body = true) (hX : df.modes.all (fun s => decide (s ≠ .X)) = true) (F : FunD K x qual params body scope [] [] a fd)
    (hfree : ∀ x, x ∈ free → mg x = none) (hcst : ∀ x c, cs.lookup x = some c → ∃ u, mg x = some u ∧ RelV (kV c) u)
    (calls : ∀ x f, glo.lookup x = some f → ∃ g a fd ps, sg[f]? = some g ∧ mg x = some (.ref a) ∧ PySem.W.keepIn K (.ref a) = true ∧ Binds K fd ps [] ∧ FnOk P w K mg base (L2.CX P w) (n + 1) a fd ps (spC ⟨K, cA, callD T n⟩ g f)) :
    FnOk P w K mg base (L2.CX P w) (n + 2) a fd ps (spC ⟨K, cA, callD T (n + 1)⟩ ⟨df.modes, df.ios, df.ret⟩ f) := by
  simp only [defB, Bool.and_eq_true, decide_eq_true_eq, Bool.not_eq_true'] at hB
  obtain ⟨⟨⟨⟨⟨⟨⟨⟨⟨⟨⟨⟨⟨b1, b2⟩, b3⟩, b4⟩, b5⟩, b6⟩, b7⟩, b8⟩, b9⟩, b10⟩, b11⟩, b12⟩, b13⟩, b14⟩ := hB
  have fs : FnScope N ps scope := ⟨funB_of b1, b2, b3, b4, b5, fun x hx => stOf_of (List.all_eq_true.mp b6 x hx), fun y hy e => by
    have := List.all_eq_true.mp b7 y hy
    rw [e] at this
    cases this⟩
  have hlen : ∀ vs H Q E, spC ⟨K, cA, callD T (n + 1)⟩ ⟨df.modes, df.ios, df.ret⟩ f vs H Q E → vs.length = ps.length := fun vs H Q E ⟨ds, F, fps, h1, _⟩ => by
    have h1 : vs.length = df.modes.length := h1
    omega
  have hpl : ps.length ≤ N.length := by have := congrArg List.length b5; rw [List.length_take] at this; omega
  have hiol : ∀ i ∈ df.ios, i < df.np := fun i hi => by simpa using List.all_eq_true.mp b12 i hi
  obtain ⟨Γ', hty, hfl⟩ : ∃ Γ', tySs ⟨sg, df.ios⟩ df.modes df.ret none (df.modes ++ List.replicate (df.nl - df.np) .X) df.body = some Γ' ∧ (∀ Γ1, Γ' = some Γ1 → flat df.ret = true ∧ ioB df.ios df.modes Γ1 = true) := by
    split at b14
    · rename_i e; exact ⟨none, e, fun _ h => by cases h⟩
    · rename_i Γ1 e; exact ⟨some Γ1, e, fun _ h => by cases h; simpa using b14⟩
    · cases b14
  refine F.ok fs hlen fun cdv A outer s H vs Q E hr hsp => ?_
  let W : WX := fun cls d _ H => E cls d H
  let S : SC := ⟨N, scope, glo, free, stOf scope, cs⟩
  let X : Cx := cxOf (L2.CX P w) P w K mg base N qual scope a cdv A outer s H E
  have xo : XOk ⟨K, cA, callD T n⟩ sg W S X := {
    N := rfl
    nd := b4
    sc := rfl
    calm := rfl
    K := rfl
    hu := by
      have := hr.un
      show (A.deeper _).units + 65 < cLine
      omega
    tk := takes_of rfl rfl rfl rfl
    po := passes_of rfl
    free := hfree
    cst := hcst
    st := fun x h => ⟨stOf_of h, .inl rfl⟩
    calls := fun x f h => by
      obtain ⟨g, a', fd', ps', h1, h2, h3, h4, h5⟩ := calls x f h
      exact ⟨g, a', fd', ps', n + 1, h1, h2, h3, h4, h5, hr⟩ }
  have io0 : ∀ j ∈ df.ios, (df.modes ++ List.replicate (df.nl - df.np) Shp.X)[j]? = df.modes[j]? := fun j hj => by
    rw [List.getElem?_append_left (by have := hiol j hj; omega)]
  have pss := sndSs (G := ⟨K, cA, callD T n⟩) (sg := sg) (tc := ⟨sg, df.ios⟩) (m := df.modes) (rt := df.ret) rfl df.body S W X none _ body Γ' xo io0 b13 hty
  refine ⟨_, pss, ?_⟩
  obtain ⟨ds, F0, fps, l1, rele, nd, sub, tups, hk⟩ := hsp
  have l1 : vs.length = df.modes.length := l1
  obtain ⟨d1, d2, d3⟩ := rele.len
  have lds : ds.length = df.np := by
    have : (ds.map some).length = df.modes.length := d1
    rw [List.length_map] at this; omega
  have hstart : L2.start N vs = vs.map some ++ List.replicate (df.nl - df.np) none := by
    unfold L2.start
    congr 2
    omega
  let B : Bs := ⟨F0, H, fps.flatten, L2.start N vs, df.ios⟩
  have rel : Rel K B (df.modes ++ List.replicate (df.nl - df.np) .X) (ds.map some ++ List.replicate (df.nl - df.np) none) F0 (fps ++ List.replicate (df.nl - df.np) []) (L2.start N vs) H := {
    e := by rw [hstart]; exact relE_app rele
    nd := by rw [flat_app]; exact nd
    sub := sub
    tup := tups
    fr := Fr.refl
    new := fun a z => by rw [flat_app] at z; exact .inl z
    io := fun i _ => rfl }
  refine ⟨B, _, F0, _, rfl, rel, ?_⟩
  have hX' : ∀ s, (∃ i ∈ B.ios, df.modes[i]? = some s) → s ≠ .X := fun s ⟨i, _, e⟩ => by
    simpa using List.all_eq_true.mp hX s (List.mem_of_getElem? e)
  have hσ : ∀ i ∈ B.ios, B.σ[i]? = (vs[i]?).map some := fun i hi => by
    have := hiol i hi
    show (L2.start N vs)[i]? = _
    rw [hstart, List.getElem?_append_left (by simp; omega), List.getElem?_map]
  have hios : ∀ i ∈ df.ios, i ∈ B.ios ∧ i < df.modes.length := fun i hi => ⟨hi, by have := hiol i hi; omega⟩
  -- what the evaluator says
  have hcall : callD T (n + 1) f ds = endC df.ios (evSs (callD T n) df.body (ds.map some ++ List.replicate (df.nl - df.np) none)) := by
    simp only [callD, hT, lds, if_true]
  rw [show (⟨K, cA, callD T (n + 1)⟩ : Gd).C f ds = callD T (n + 1) f ds from rfl, hcall] at hk
  show KS ⟨K, cA, callD T n⟩ W B df.modes df.ret none Γ' _ (evSs (callD T n) df.body (ds.map some ++ List.replicate (df.nl - df.np) none))
  -- the end of the def
  have fin : ∀ (d : D) (env' : Env), endC df.ios (.ok (.rt d, env')) = endC df.ios (evSs (callD T n) df.body (ds.map some ++ List.replicate (df.nl - df.np) none)) → KR ⟨K, cA, callD T n⟩ B df.modes df.ret { nx := fun _ H' => Q .non H', rt := Q } d env' := fun d env' he => by
    rw [← he] at hk
    intro v F' H' fp' Γx σ' fr rel' hio ow ndr nw ap
    simp only [endC] at hk
    cases ho : outsOf env' df.ios with
    | none => simp only [ho] at hk
    | some outs =>
      simp only [ho] at hk
      refine hk v F' H' fr (outF fp' df.ios) ow (outR_of rel' hX' hio hσ hios ho) (List.nodup_append.mpr ⟨ndr, outF_nd rel'.nd b11, fun a ha b hb e => ?_⟩) rel'.sub rel'.tup rel'.fr fun a z => ?_
      · subst e
        obtain ⟨i, g, hi, e1, e2⟩ := outF_mem hb
        exact ap i hi g e1 a ha e2
      · rcases List.mem_append.mp z with y | y
        · exact nw a y
        · obtain ⟨i, g, hi, e1, e2⟩ := outF_mem y
          exact rel'.new a (mem_at e1 e2)
  cases hev : evSs (callD T n) df.body (ds.map some ++ List.replicate (df.nl - df.np) none) with
  | no => rw [hev] at hk; exact hk
  | exc xd env' =>
    rw [hev] at hk
    intro Γx σ' hio F' H' fp' cls dx rel' ex
    simp only [endC] at hk
    cases ho : outsOf env' df.ios with
    | none => simp only [ho] at hk
    | some outs =>
      simp only [ho] at hk
      refine hk F' H' (outF fp' df.ios) cls dx (outR_of rel' hX' hio hσ hios ho) (outF_nd rel'.nd b11) rel'.sub rel'.tup rel'.fr (fun a z => ?_) ex
      obtain ⟨i, g, hi, e1, e2⟩ := outF_mem z
      exact rel'.new a (mem_at e1 e2)
  | ok q =>
    obtain ⟨fl, env'⟩ := q
    cases fl with
    | rt d => exact fin d env' (by rw [hev])
    | nx =>
      have := fin .non env' (by rw [hev]; rfl)
      intro Γn hn σ' F' H' fp' rel'
      refine this .non F' H' fp' Γn σ' [] rel' ?_ ?_ List.nodup_nil (fun a z => by simp at z) (fun i hi f hf a ha => by simp at ha)
      · exact ioB_of (hfl Γn hn).2
      · have hf := (hfl Γn hn).1
        cases hr : df.ret <;> rw [hr] at hf <;> simp [flat] at hf
        · exact ⟨rfl, rfl⟩
        · exact ⟨rfl, rfl, rfl⟩
        · exact ⟨rfl, rfl⟩
    | bk => intro Γl hl; cases hl
    | ct => intro Γl hl; cases hl
end VC
end

section
set_option Elab.async false
set_option linter.all false
set_option autoImplicit false
set_option maxRecDepth 100000
/-! VC20: a whole text; a law's end. -/
namespace VC
open PySem PySem.Spec L2

/-- where a def stands -/
structure DI where
  name : Str
  N : List Str
  ps : List Str
  st : Stmt
def DI.dd (d : DI) : He.DefD := ⟨(d.name, none), d.name, d.name, defArgs d.st, defBody d.st, defScope d.st, [], []⟩
def gloOf (ds : List DI) : List (Str × Nat) := (ds.map (·.name)).zipIdx
def sgOf (T : List Def) : List Sig := T.map fun d => ⟨d.modes, d.ios, d.ret⟩
def tabB (T : List Def) (ds : List DI) (free : List Str) (cs : List (Str × Key)) : Bool := decide (T.length = ds.length) &&
  (T.zip ds).all fun p => defB (sgOf T) (gloOf ds) free cs p.1 p.2.N p.2.ps (defScope p.2.st) (defBody p.2.st) && p.1.modes.all (fun s => decide (s ≠ .X))
/-- a def's parameters are bound in their order -/
def BindD (d : DI) : Prop := ∀ (kV doc pm : Value) (an : Option Addr) (cdv ct : Value) (us : List Value), us.length = d.ps.length → bindArgs (PySem.W.fnOf d.name d.name (defArgs d.st) (defBody d.st) (defScope d.st) .none kV doc pm an cdv ct) ⟨us, []⟩ = pure (d.ps.zip us)
def BindAll : List DI → Prop
  | [] => True
  | d :: r => BindD d ∧ BindAll r
theorem BindAll.at : ∀ {ds : List DI} {i : Nat} {d : DI}, BindAll ds → ds[i]? = some d → BindD d
  | [], _, _, _, e => by simp at e
  | d :: r, 0, x, h, e => by simp at e; subst e; exact h.1
  | d :: r, i + 1, x, h, e => BindAll.at (i := i) h.2 (by simpa using e)
def cstF (p : Str × Key) : He.Fa := match p.2 with | .inl i => .int p.1 i | .inr z => .str p.1 z
def factsOf (ds : List DI) (free : List Str) (cs : List (Str × Key)) : List He.Fa := (ds.map (fun d => .glo d.name) ++ free.map .free) ++ cs.map cstF
section
variable {K : PySem.W.Frag} {h base : Heap} {mg : Str → Option Value} {T : List Def} {ds : List DI} {free : List Str} {cs : List (Str × Key)} {P : Program} {w : World}
theorem def_at (X : K.In h) (G : h.Ns mainGlobals mg) (c : He.SaysD (factsOf ds free cs) (ds.map DI.dd) K) {i : Nat} {d : DI} (hd : ds[i]? = some d) : ∃ a fd, mg d.name = some (.ref a) ∧ FunD K d.name d.name (defArgs d.st) (defBody d.st) (defScope d.st) [] [] a fd := by
  obtain ⟨fd, F⟩ := c.def_ i (d := d.dd) (by rw [List.getElem?_map, hd]; rfl)
  refine ⟨He.fAd K (d.name, none), fd, He.glo_ok X G (c.fact i (f := .glo d.name) ?_), F⟩
  have hi := (List.getElem?_eq_some_iff.mp hd).1
  unfold factsOf
  rw [List.getElem?_append_left (by simp; omega), List.getElem?_append_left (by simpa using hi), List.getElem?_map, hd]
  rfl
theorem free_at (X : K.In h) (G : h.Ns mainGlobals mg) (c : He.SaysD (factsOf ds free cs) (ds.map DI.dd) K) {x : Str} (hx : x ∈ free) : mg x = none := by
  obtain ⟨j, hj⟩ := List.getElem?_of_mem hx
  refine He.free_ok X G (c.fact (ds.length + j) (f := .free x) ?_)
  unfold factsOf
  have hjl := (List.getElem?_eq_some_iff.mp hj).1
  rw [List.getElem?_append_left (by simp; omega), List.getElem?_append_right (by simp)]
  simp [hj]
theorem cst_at (X : K.In h) (G : h.Ns mainGlobals mg) (c : He.SaysD (factsOf ds free cs) (ds.map DI.dd) K) {x : Str} {k : Key} (hx : cs.lookup x = some k) : ∃ u, mg x = some u ∧ RelV (kV k) u := by
  obtain ⟨j, hj⟩ := List.getElem?_of_mem (PySem.mem_of_lookup hx)
  have f := c.fact (ds.length + free.length + j) (f := cstF (x, k)) (by
    unfold factsOf
    rw [List.getElem?_append_right (by simp)]
    simp [hj])
  cases k with
  | inl i =>
    obtain ⟨t, e⟩ := He.int_ok X G f
    exact ⟨_, e, by simp [kV, RelV]⟩
  | inr z =>
    obtain ⟨t, e⟩ := He.str_ok X G f
    exact ⟨_, e, by simp [kV, RelV]⟩
theorem glo_at {x : Str} {f : Nat} (h : (gloOf ds).lookup x = some f) : ∃ d, ds[f]? = some d ∧ d.name = x := by
  have m := PySem.mem_of_lookup h
  unfold gloOf at m
  rw [List.mem_zipIdx_iff_getElem?, List.getElem?_map] at m
  simpa using m
/-- every def keeps its promise, at every level -/
theorem prog_ok (cA : Nat → Addr) (X : K.In h) (G : h.Ns mainGlobals mg) (c : He.SaysD (factsOf ds free cs) (ds.map DI.dd) K) (hT : tabB T ds free cs = true) (hb : BindAll ds) :
    ∀ (n f : Nat) (df : Def) (d : DI) (a : Addr) (fd : FuncData), T[f]? = some df → ds[f]? = some d → mg d.name = some (.ref a) → FunD K d.name d.name (defArgs d.st) (defBody d.st) (defScope d.st) [] [] a fd →
      FnOk P w K mg base (L2.CX P w) (n + 1) a fd d.ps (spC ⟨K, cA, callD T n⟩ ⟨df.modes, df.ios, df.ret⟩ f) := by
  simp only [tabB, Bool.and_eq_true, decide_eq_true_eq] at hT
  obtain ⟨hl, hT⟩ := hT
  intro n
  induction n with
  | zero =>
    intro f df d a fd h1 h2 h3 F
    have no : ∀ vs H Q E, ¬ spC ⟨K, cA, callD T 0⟩ ⟨df.modes, df.ios, df.ret⟩ f vs H Q E := fun vs H Q E ⟨ds, F, fps, _, _, _, _, _, k⟩ => k
    exact ⟨fun vs H Q E h => (no _ _ _ _ h).elim, fun _ _ _ _ _ _ _ _ _ _ _ _ _ h => (no _ _ _ _ h).elim⟩
  | succ n ih =>
    intro f df d a fd h1 h2 h3 F
    have hz : (df, d) ∈ T.zip ds := by
      refine List.mem_of_getElem? (i := f) ?_
      rw [List.getElem?_zip_eq_some]
      exact ⟨h1, h2⟩
    have hB := List.all_eq_true.mp hT _ hz
    simp only [Bool.and_eq_true] at hB
    refine def_ok h1 hB.1 hB.2 F (fun x hx => free_at X G c hx) (fun x k hx => cst_at X G c hx) fun x f' hx => ?_
    obtain ⟨d', e1, rfl⟩ := glo_at hx
    have hi := (List.getElem?_eq_some_iff.mp e1).1
    obtain ⟨a', fd', g1, g2⟩ := def_at X G c e1
    have e2 : T[f']? = some (T[f']'(by omega)) := List.getElem?_eq_getElem _
    refine ⟨⟨(T[f']'(by omega)).modes, (T[f']'(by omega)).ios, (T[f']'(by omega)).ret⟩, a', fd', d'.ps, ?_, g1, g2.kp, g2.bindsN (hb.at e1), ih f' _ d' a' fd' e2 e1 g1 g2⟩
    unfold sgOf
    rw [List.getElem?_map, e2]; rfl
end
theorem rps_intL {K : PySem.W.Frag} {H : Hp} : ∀ ns : List Int, Rps K H (ns.map .int) (ns.map .int)
  | [] => rfl
  | n :: ns => ⟨.int n, ns.map .int, rfl, rfl, rps_intL ns⟩
/-- the walk, by a promise with exceptions -/
theorem walkV {l : PySem.W.OpenLaw} {n k : Nat} {q : Program} {loose : List Str} {XP : (Str → Option Value) → Heap → Prop} {YP : World → Heap → Prop} {d : DefRec} {CX : World → CXT} {x : Str}
    (hn : l.most = some n) (hn2 : n ≤ sizeLine) (hdf : d.params.defaults = []) (hr : Room k callerA)
    (F : ∀ (w : World) (mg : Str → Option Value) (fa : Addr) (h : Heap), YP w h → h.Ns mainGlobals mg → mg d.name = some (.ref fa) →
      ∃ (K : PySem.W.Frag) (fd : FuncData) (sp : Sp), K.In h ∧ (∀ (s : Shared) (u : Value), BindsTo s fd ⟨[u], []⟩ [(x, u)]) ∧
        (∀ (H : Hp) (a : Addr) (ns : List Int), ns.length ≤ n → Only H → SqL K H a (ns.map V.int) → sp [.ref a] H (fun v _ => v = .bl true) fun _ _ _ => False) ∧
        ∀ base : Heap, K.In base → base.Ns mainGlobals mg → FnOk l.prog w K mg base (CX w) k fa fd [x] sp)
    (hCX : ∀ (w : World) (H : Hp) (s : Shared) (e : Value) (s' : Shared), CX w [] H s (fun _ _ _ => False) e s' → False) :
    PySem.W.WalkO q loose XP YP l.row.toRowW d [] (fun f vs => PySem.call f vs) := by
  refine Att.attach_call hn hdf fun w s₀ s₁ mg mb fa o pm cd doc a vs ns G Y ho hd hcd hmg hobj hints hlen hg => ?_
  obtain ⟨K, fd, sp, KX, hb, hsp, hF⟩ := F w mg fa _ Y G.T.g hmg
  exact law_call KX G.T.g G.T.b G.T.builtins G.T.nolimit hg hobj hints (Nat.le_trans hlen hn2) hr hF hb (fun H hO hS => hsp H a ns hlen hO hS) fun H e s' => hCX w H s₁ e s'
/-- a law holds when its evaluation comes out true -/
theorem law_walk {l : PySem.W.OpenLaw} {n lvl f : Nat} {q : Program} {loose : List Str} {XP : (Str → Option Value) → Heap → Prop} {d : DefRec} {T : List Def} {ds : List DI} {free : List Str} {cs : List (Str × Key)} {df : Def} {di : DI}
    (hn : l.most = some n) (hn2 : n ≤ sizeLine) (hdf : d.params.defaults = []) (hr : Room (lvl + 1) callerA) (hT : tabB T ds free cs = true) (hb : BindAll ds) (h1 : T[f]? = some df) (h2 : ds[f]? = some di) (hps : di.ps = [("script" : Str)]) (hnm : d.name = di.name) (hs : df.modes = [.Q]) (hio : df.ios = []) (hrt : df.ret = .A)
    (law : ∀ ns : List Int, ns.length ≤ n → callD T lvl f [.lst (ns.map .int)] = .ok (.bl true) []) :
    PySem.W.WalkO q loose XP (He.hookD 4 (factsOf ds free cs) (ds.map DI.dd)).says l.row.toRowW d [] (fun f vs => PySem.call f vs) := by
  refine walkV (k := lvl + 1) (x := "script") (CX := fun w => L2.CX l.prog w) hn hn2 hdf hr ?_ (fun w H s e s' ⟨_, _, _, _, _, _, _, _, _, _, _, _, k⟩ => k)
  intro w mg fa h Y G hmg
  obtain ⟨K, KX, c⟩ := Y
  obtain ⟨a, fd, g1, F⟩ := def_at KX G c h2
  rw [hnm, g1] at hmg
  cases hmg
  have b : ∀ (s : Shared) (u : Value), BindsTo s fd ⟨[u], []⟩ [("script", u)] := fun s u => by
    have := F.bindsA (hb.at h2) s [u] (by rw [hps]; rfl)
    rw [hps] at this
    exact this
  refine ⟨K, fd, spC ⟨K, fun _ => fa, callD T lvl⟩ ⟨df.modes, df.ios, df.ret⟩ f, KX, b, fun H la ns hl hO hS => ?_, fun base _ _ => ?_⟩
  · have hle : (ns.map VC.D.int).length ≤ lim := by
      rw [List.length_map, lim_eq]; omega
    rw [hs, hio, hrt]
    refine ⟨[.lst (ns.map .int)], H, [[]], rfl, ⟨some (.lst (ns.map .int)), [], some (.ref la), [], [], [], rfl, rfl, rfl, .inr ⟨.ref la, rfl, rfl, la, ns.map .int, rfl, hS, hle, rps_intL ns⟩, rfl, rfl, rfl⟩, by simp, Sub.refl _, fun _ _ h => h, ?_⟩
    show (match callD T lvl f [.lst (ns.map .int)] with
      | .ok d outs => _
      | .exc x outs => _
      | .no => False)
    rw [law ns hl]
    intro v F' H' fr fos ow _ _ _ _ _ _
    have : v = .bl true := ow.2.2
    exact this
  · have := prog_ok (P := l.prog) (w := w) (base := base) (fun _ => fa) KX G c hT hb lvl f df di fa fd h1 h2 g1 F
    rw [hps] at this
    exact this
end VC
end

section
set_option Elab.async false
set_option linter.all false
set_option autoImplicit false
set_option maxRecDepth 100000
/-! VC21: reckoning with the evaluator. -/
namespace VC
open PySem

section
variable {C : Calls} {env : Env} {ss : List S}
theorem evSs_append (a b : List S) : ∀ env, evSs C (a ++ b) env = (evSs C a env).bind fun p => match p.1 with | .nx => evSs C b p.2 | _ => .ok p := by
  induction a with
  | nil => intro env; simp only [List.nil_append, evSs, R.bind_ok]
  | cons s a ih =>
    intro env
    simp only [List.cons_append, evSs]
    cases evS C s env with
    | no => rfl
    | exc x e => rfl
    | ok q =>
      obtain ⟨f, e⟩ := q
      cases f <;> simp only [R.bind_ok]
      exact ih e
/-- the first statements come through -/
theorem evSs_cut {a b : List S} {env env1 : Env} (h : evSs C a env = .ok (.nx, env1)) : evSs C (a ++ b) env = evSs C b env1 := by
  rw [evSs_append, h]; rfl
theorem evSs_take (n : Nat) {l : List S} {env env1 : Env} (h : evSs C (l.take n) env = .ok (.nx, env1)) : evSs C l env = evSs C (l.drop n) env1 := by
  conv => lhs; rw [← List.take_append_drop n l]
  exact evSs_cut h
theorem x_nil : evSs C [] env = .ok (.nx, env) := by simp only [evSs]
theorem x_asg {i : Nat} {s : Shp} {e : E} : evSs C (.asg i s e :: ss) env = (evE C e env).bind fun p => evSs C ss (p.2.set i (some p.1)) := by
  simp only [evSs, evS]
  cases evE C e env <;> rfl
theorem x_mv {i j : Nat} : evSs C (.mv i j :: ss) env = (getV env j).bind fun p => evSs C ss (p.2.set i (some p.1)) := by
  simp only [evSs, evS]
  cases getV env j <;> rfl
theorem x_frz {i : Nat} : evSs C (.frz i :: ss) env = evSs C ss env := by simp only [evSs, evS, R.bind_ok]
theorem x_pas : evSs C (.pas :: ss) env = evSs C ss env := by simp only [evSs, evS, R.bind_ok]
theorem x_ex {e : E} : evSs C (.ex e :: ss) env = (evE C e env).bind fun p => evSs C ss p.2 := by
  simp only [evSs, evS]
  cases evE C e env <;> rfl
theorem x_ret {e : E} : evSs C (.ret e :: ss) env = (evE C e env).bind fun p => .ok (.rt p.1, p.2) := by
  simp only [evSs, evS]
  cases evE C e env <;> rfl
theorem x_retMv {i : Nat} : evSs C (.retMv i :: ss) env = (getV env i).bind fun p => .ok (.rt p.1, p.2) := by
  simp only [evSs, evS]
  cases getV env i <;> rfl
theorem x_ret0 : evSs C (.ret0 :: ss) env = .ok (.rt .non, env) := by simp only [evSs, evS, R.bind_ok]
theorem x_brk : evSs C (.brk :: ss) env = .ok (.bk, env) := by simp only [evSs, evS, R.bind_ok]
theorem x_cnt : evSs C (.cnt :: ss) env = .ok (.ct, env) := by simp only [evSs, evS, R.bind_ok]
theorem x_unp {is : List Nat} {e : E} {ds : List D} {env1 env2 : Env} (h : evE C e env = .ok (.tup ds, env1)) (h2 : setAll env1 is ds = some env2) : evSs C (.unp is e :: ss) env = evSs C ss env2 := by
  simp only [evSs, evS, h, R.bind_ok, h2]
theorem x_unl {is : List Nat} {e : E} {ds : List D} {env1 env2 : Env} (h : evE C e env = .ok (.lst ds, env1)) (h2 : setAll env1 is ds = some env2) : evSs C (.unl is e :: ss) env = evSs C ss env2 := by
  simp only [evSs, evS, h, R.bind_ok, h2]
theorem x_aug {i : Nat} {o : Op2} {e : E} {x y z : D} {env1 : Env} (h0 : getV env i = .ok (x, env)) (h : evE C e env = .ok (y, env1)) (h2 : op2D o x y = some z) : evSs C (.aug i o e :: ss) env = evSs C ss (env1.set i (some z)) := by
  simp only [evSs, evS, h0, h, R.bind_ok, h2]
theorem x_ite {c : E} {a b : List S} : evSs C (.ite c a b :: ss) env = (evE C c env).bind fun p => (truR p).bind fun q => if q.1 = true then evSs C (a ++ ss) q.2 else evSs C (b ++ ss) q.2 := by
  simp only [evSs, evS]
  cases evE C c env with
  | no => rfl
  | exc x e => rfl
  | ok p =>
    simp only [R.bind_ok]
    cases truR p with
    | no => rfl
    | exc x e => rfl
    | ok q =>
      obtain ⟨k, e⟩ := q
      simp only [R.bind_ok, evSs_append]
      cases k <;> rfl
theorem x_for {G : SEnv} {g : Tg} {k : ItK} {ies : List E} {body : List S} {ds items : List D} {env1 : Env} (h : evEs C ies env = .ok (ds, env1)) (h2 : itD k ds = some items) :
    evSs C (.for_ G g k ies body :: ss) env = (forD (fun d e => (bindTg g d e).bind fun e1 => evSs C body e1) items env1).bind fun p => match p.1 with | .nx => evSs C ss p.2 | _ => .ok p := by
  simp only [evSs, evS, h, R.bind_ok, h2]
  try rfl
theorem g_var {i : Nat} {d : D} (h : env[i]? = some (some d)) : getV env i = .ok (d, env) := by simp only [getV, h]
/-! ### the operators -/
theorem o_addI (i j : Int) : op2D .addA (.int i) (.int j) = some (.int (i + j)) := rfl
theorem o_addS (x y : Str) (h : x.length + y.length ≤ lim) : op2D .addA (.str x) (.str y) = some (.str (x ++ y)) := by simp only [op2D, h, if_true]
theorem o_addL (s : Shp) (xs ys : List D) (h : xs.length + ys.length ≤ lim) : op2D (.addL s) (.lst xs) (.lst ys) = some (.lst (xs ++ ys)) := by simp only [op2D, h, if_true]
theorem o_sub (i j : Int) : op2D .sub (.int i) (.int j) = some (.int (i - j)) := rfl
theorem o_mul (i j : Int) (h : (-18446744073709551616 < i ∧ i < 18446744073709551616) ∨ (-18446744073709551616 < j ∧ j < 18446744073709551616)) : op2D .mul (.int i) (.int j) = some (.int (i * j)) := by
  have : mulOk i j = true := by
    have e : (2 : Int) ^ 64 = 18446744073709551616 := rfl
    simp only [mulOk, e, Bool.or_eq_true, Bool.and_eq_true, decide_eq_true_eq]
    exact h
  simp only [op2D, this, if_true]
theorem o_fdiv (i j : Int) (h : j ≠ 0 ∧ -1073741824 < j ∧ j < 1073741824) : op2D .fdiv (.int i) (.int j) = some (.int (i.fdiv j)) := by
  have : j ≠ 0 ∧ j.natAbs < 1073741824 := ⟨h.1, by omega⟩
  simp only [op2D, this, and_self, if_true, ne_eq, not_false_eq_true]
theorem o_mod (i j : Int) (h : j ≠ 0) : op2D .mod (.int i) (.int j) = some (.int (i.fmod j)) := by simp only [op2D, h, ne_eq, not_false_eq_true, if_true]
theorem o_pow (i j : Int) (h : 0 ≤ j ∧ j ≤ 1000000) (h2 : -18446744073709551616 < i ∧ i < 18446744073709551616) : op2D .pow (.int i) (.int j) = some (.int (i ^ j.toNat)) := by
  have e : (2 : Nat) ^ 64 = 18446744073709551616 := rfl
  have : 0 ≤ j ∧ j ≤ 1000000 ∧ i.natAbs < 2 ^ 64 := ⟨h.1, h.2, by rw [e]; omega⟩
  simp only [op2D, this, and_self, if_true]
theorem c_lt (i j : Int) : cmpD .lt (.int i) (.int j) = some (decide (i < j)) := rfl
theorem c_le (i j : Int) : cmpD .le (.int i) (.int j) = some (decide (i ≤ j)) := rfl
theorem c_gt (i j : Int) : cmpD .gt (.int i) (.int j) = some (decide (j < i)) := rfl
theorem c_ge (i j : Int) : cmpD .ge (.int i) (.int j) = some (decide (j ≤ i)) := rfl
theorem eqv_int (i j : Int) : eqD (.int i) (.int j) = decide (i = j) := by
  simp only [eqD, toPD]
  rfl
theorem c_eqI (i j : Int) : cmpD .eq (.int i) (.int j) = some (decide (i = j)) := by
  simp only [cmpD, eqv_int]; rfl
theorem c_neI (i j : Int) : cmpD .ne (.int i) (.int j) = some (!decide (i = j)) := by
  simp only [cmpD, eqv_int]; rfl
theorem t_bl (b : Bool) (e : Env) : truR (.bl b, e) = .ok (b, e) := rfl
theorem t_int (i : Int) (e : Env) : truR (.int i, e) = .ok (i != 0, e) := rfl
theorem t_lst (xs : List D) (e : Env) : truR (.lst xs, e) = .ok (!xs.isEmpty, e) := rfl
theorem t_non (e : Env) : truR (.non, e) = .ok (false, e) := rfl
theorem ofO_some {α : Type} (a : α) (e : Env) : ofO (some a) e = .ok (a, e) := rfl
theorem b_len (xs : List D) : biD .len [.lst xs] = some (.int xs.length) := rfl
theorem b_lenT (xs : List D) : biD .len [.tup xs] = some (.int xs.length) := rfl
theorem b_abs (i : Int) : biD .abs [.int i] = some (.int (if i < 0 then -i else i)) := rfl
theorem b_max (i j : Int) : biD .max2 [.int i, .int j] = some (.int (if j > i then j else i)) := rfl
theorem b_min (i j : Int) : biD .min2 [.int i, .int j] = some (.int (if j < i then j else i)) := rfl
theorem b_int (i : Int) : biD .int1 [.int i] = some (.int i) := rfl
theorem b_list (s : Shp) (xs : List D) : biD (.list1 s) [.lst xs] = some (.lst xs) := rfl
theorem b_listT (s : Shp) (xs : List D) : biD (.list1 s) [.tup xs] = some (.lst xs) := rfl
theorem intsOf_int : ∀ is : List Int, intsOf (is.map .int) = some is
  | [] => rfl
  | i :: is => by simp only [List.map_cons, intsOf, intsOf_int is, Option.map_some]
theorem b_sorted (s : Shp) (is : List Int) : biD (.sorted s) [.lst (is.map .int)] = some (.lst ((sortI is).map .int)) := by simp only [biD, intsOf_int, Option.map_some]
theorem b_sum (is : List Int) : biD .sum [.lst (is.map .int)] = some (.int is.sum) := by simp only [biD, intsOf_int, Option.map_some]
theorem a_app {env : Env} {i : Nat} {xs : List D} {d : D} (h : env[i]? = some (some (.lst xs))) (hl : xs.length < lim) : appD env i d = .ok (.non, env.set i (some (.lst (xs ++ [d])))) := by simp only [appD, h, hl, if_true]
theorem e_app {env env1 : Env} {i : Nat} {e : E} {xs ys : List D} {d : D} (h0 : env[i]? = some (some (.lst ys))) (h : evE C e env = .ok (d, env1)) (h1 : env1[i]? = some (some (.lst xs))) (hl : xs.length < lim) : evE C (.app i e) env = .ok (.non, env1.set i (some (.lst (xs ++ [d])))) := by
  simp only [evE, h0, h, R.bind_ok]
  exact a_app h1 hl
/-- an index that is not below 0 -/
theorem i_lst {xs : List D} {k : Int} {d : D} (h0 : 0 ≤ k) (h : xs[k.toNat]? = some d) : idxD (.lst xs) (.int k) = some d := by
  have hl := (List.getElem?_eq_some_iff.mp h).1
  have : ixN xs.length k = some k.toNat := by
    unfold ixN
    rw [if_pos h0, if_pos (by omega)]
  simp only [idxD, this, Option.bind_some, h]
theorem i_tup {xs : List D} {k : Int} {d : D} (h0 : 0 ≤ k) (h : xs[k.toNat]? = some d) : idxD (.tup xs) (.int k) = some d := by
  have hl := (List.getElem?_eq_some_iff.mp h).1
  have : ixN xs.length k = some k.toNat := by
    unfold ixN
    rw [if_pos h0, if_pos (by omega)]
  simp only [idxD, this, Option.bind_some, h]
theorem i_nat {xs : List D} {k : Nat} {d : D} (h : xs[k]? = some d) : idxD (.lst xs) (.int k) = some d := i_lst (by omega) (by simpa using h)
end

/-! ### loops -/
/-- a loop that runs to its end: Inv by what is left -/
theorem forD_fold {σ α : Type} (abs : σ → Env) (step : σ → α → σ) (enc : α → D) (body : D → Env → R (Fl × Env)) (Inv : σ → List α → Prop) :
    ∀ (items : List α) (s : σ), (∀ s a r, Inv s (a :: r) → body (enc a) (abs s) = .ok (.nx, abs (step s a)) ∧ Inv (step s a) r) → Inv s items → forD body (items.map enc) (abs s) = .ok (.nx, abs (items.foldl step s)) ∧ Inv (items.foldl step s) []
  | [], s, _, i => ⟨rfl, i⟩
  | a :: r, s, h, i => by
    obtain ⟨h1, h2⟩ := h s a r i
    simp only [List.map_cons, forD, h1, R.bind_ok, List.foldl_cons]
    exact forD_fold abs step enc body Inv r _ h h2
theorem rngL_map : ∀ (n : Nat) (lo : Int), rngL lo n = (List.range n).map fun k => .int (lo + (k : Nat))
  | 0, _ => rfl
  | n + 1, lo => by
    rw [rngL, rngL_map n (lo + 1), List.range_succ_eq_map, List.map_cons, List.map_map]
    congr 1
    · simp
    · apply List.map_congr_left
      intro k _
      simp; omega
theorem it_rng (n : Nat) (h : n ≤ 4611686018427387903) : itD .rng1 [.int (n : Int)] = some ((List.range n).map fun k => .int (k : Nat)) := by
  have e2 : (2 : Int) ^ 62 = 4611686018427387904 := rfl
  have : rngOk (n : Int) = true := by simp only [rngOk, e2, Bool.and_eq_true, decide_eq_true_eq]; omega
  have e : rngL 0 (n : Int).toNat = (List.range n).map fun k => .int (k : Nat) := by
    rw [Int.toNat_natCast, rngL_map]
    exact List.map_congr_left fun k _ => by rw [Int.zero_add]
  simp only [itD, this, if_true, e]

/-! ### comprehensions -/
theorem lcD_fm {α : Type} (enc : α → D) (p : α → Bool) (f : α → D) (bind : D → Env → R Env) (test : Env → R (Bool × Env)) (elt : Env → R (D × Env)) (P : Env → Prop) :
    ∀ (items : List α) (env : Env), (∀ a ∈ items, ∀ e, P e → ∃ e1, bind (enc a) e = .ok e1 ∧ P e1 ∧ test e1 = .ok (p a, e1) ∧ (p a = true → elt e1 = .ok (f a, e1))) → P env →
    ∃ env2, lcD bind test elt (items.map enc) env = .ok ((items.filter p).map f, env2) ∧ P env2
  | [], env, _, h => ⟨env, rfl, h⟩
  | a :: r, env, k, h => by
    obtain ⟨e1, h1, h2, h3, h4⟩ := k a List.mem_cons_self env h
    obtain ⟨e2, h5, h6⟩ := lcD_fm enc p f bind test elt P r e1 (fun b hb => k b (List.mem_cons_of_mem _ hb)) h2
    refine ⟨e2, ?_, h6⟩
    simp only [List.map_cons, lcD, h1, R.bind_ok, h3]
    cases hp : p a with
    | true => simp only [if_true, h4 hp, R.bind_ok, h5, List.filter_cons, hp, List.map_cons]
    | false => simp only [Bool.false_eq_true, if_false, h5, List.filter_cons, hp]
/-- [elt for x in .. if ..], pure -/
theorem e_lc {α : Type} {C : Calls} {env : Env} {own : List Nat} {s : Shp} {elt : E} {i : Nat} {k : ItK} {ies ifs : List E} {ds : List D} (enc : α → D) (p : α → Bool) (f : α → D) (items : List α)
    (h1 : evEs C ies env = .ok (ds, env)) (h2 : itD k ds = some (items.map enc)) (h3 : lcOk k (items.map enc) = true) (hi : i ∈ own) (hl : i < env.length)
    (h : ∀ a ∈ items, ∀ e : Env, (∀ j, j ∉ own → e[j]? = env[j]?) → e[i]? = some (some (enc a)) → evTs C ifs e = .ok (p a, e) ∧ (p a = true → evE C elt e = .ok (f a, e))) :
    evE C (.lc own s elt (.nm i) k ies ifs) env = .ok (.lst ((items.filter p).map f), env) := by
  obtain ⟨e2, h4, h5⟩ := lcD_fm enc p f (bindTg (.nm i)) (evTs C ifs) (evE C elt) (Agr own env) items (wipeD env own) (fun a ha e he => by
    have hle : i < e.length := by rw [he.len]; exact hl
    refine ⟨e.set i (some (enc a)), rfl, ⟨by rw [List.length_set]; exact he.len, fun j hj => ?_⟩, h a ha _ (fun j hj => ?_) (by rw [List.getElem?_set_self hle])⟩
    · rw [List.getElem?_set_ne fun z => hj (by rw [← z]; exact hi)]; exact he.at_ j hj
    · rw [List.getElem?_set_ne fun z => hj (by rw [← z]; exact hi)]; exact he.at_ j hj) (Agr.wiped env own)
  simp only [evE, h1, R.bind_ok, h2, h3, if_true, h4, backD_eq h5]
theorem ts_nil {C : Calls} {env : Env} : evTs C [] env = .ok (true, env) := by simp only [evTs]
theorem ts_one {C : Calls} {env : Env} {c : E} {b : Bool} (h : evE C c env = .ok (.bl b, env)) : evTs C [c] env = .ok (b, env) := by
  simp only [evTs, h, R.bind_ok, t_bl]
  cases b <;> rfl
/-- .. with any target -/
theorem e_lcG {α : Type} {C : Calls} {env : Env} {own : List Nat} {s : Shp} {elt : E} {g : Tg} {k : ItK} {ies ifs : List E} {ds : List D} (enc : α → D) (p : α → Bool) (f : α → D) (items : List α)
    (h1 : evEs C ies env = .ok (ds, env)) (h2 : itD k ds = some (items.map enc)) (h3 : lcOk k (items.map enc) = true)
    (h : ∀ a ∈ items, ∀ e : Env, Agr own env e → ∃ e1, bindTg g (enc a) e = .ok e1 ∧ Agr own env e1 ∧ evTs C ifs e1 = .ok (p a, e1) ∧ (p a = true → evE C elt e1 = .ok (f a, e1))) :
    evE C (.lc own s elt g k ies ifs) env = .ok (.lst ((items.filter p).map f), env) := by
  obtain ⟨e2, h4, h5⟩ := lcD_fm enc p f (bindTg g) (evTs C ifs) (evE C elt) (Agr own env) items (wipeD env own) h (Agr.wiped env own)
  simp only [evE, h1, R.bind_ok, h2, h3, if_true, h4, backD_eq h5]
/-- a loop, by what is left: I holds ahead of each turn, Q at a return from within -/
theorem forD_inv {α : Type} (enc : α → D) (body : D → Env → R (Fl × Env)) (I : List α → Env → Prop) (Q : D → Env → Prop) (Qb : Env → Prop) :
    ∀ (items : List α) (env : Env), (∀ a r e, I (a :: r) e → (∃ e1, (body (enc a) e = .ok (.nx, e1) ∨ body (enc a) e = .ok (.ct, e1)) ∧ I r e1) ∨ (∃ d e1, body (enc a) e = .ok (.rt d, e1) ∧ Q d e1) ∨ (∃ e1, body (enc a) e = .ok (.bk, e1) ∧ Qb e1)) → I items env →
    (∃ e2, forD body (items.map enc) env = .ok (.nx, e2) ∧ (I [] e2 ∨ Qb e2)) ∨ (∃ d e2, forD body (items.map enc) env = .ok (.rt d, e2) ∧ Q d e2)
  | [], env, _, i => .inl ⟨env, rfl, .inl i⟩
  | a :: r, env, h, i => by
    rcases h a r env i with ⟨e1, hb, i1⟩ | ⟨d, e1, hb, q⟩ | ⟨e1, hb, q⟩
    · have step : forD body ((a :: r).map enc) env = forD body (r.map enc) e1 := by
        rcases hb with hb | hb <;> simp only [List.map_cons, forD, hb, R.bind_ok]
      rw [step]
      exact forD_inv enc body I Q Qb r e1 h i1
    · exact .inr ⟨d, e1, by simp only [List.map_cons, forD, hb, R.bind_ok], q⟩
    · exact .inl ⟨e1, by simp only [List.map_cons, forD, hb, R.bind_ok], .inr q⟩
/-- the first item that p takes is answered by a return -/
theorem forD_find {α : Type} (enc : α → D) (body : D → Env → R (Fl × Env)) (P : Env → Prop) (p : α → Bool) (ret : α → D) :
    ∀ (items : List α) (env : Env), (∀ a ∈ items, ∀ e, P e → ∃ e1, body (enc a) e = .ok (if p a = true then .rt (ret a) else .nx, e1) ∧ P e1) → P env →
    ∃ e2, forD body (items.map enc) env = .ok (match items.find? p with | some a => .rt (ret a) | none => .nx, e2) ∧ P e2
  | [], env, _, h => ⟨env, rfl, h⟩
  | a :: r, env, k, h => by
    obtain ⟨e1, hb, h1⟩ := k a List.mem_cons_self env h
    cases hp : p a with
    | true =>
      rw [hp, if_pos rfl] at hb
      exact ⟨e1, by simp only [List.map_cons, forD, hb, R.bind_ok, List.find?_cons, hp], h1⟩
    | false =>
      rw [hp, if_neg (by decide)] at hb
      obtain ⟨e2, h2, h3⟩ := forD_find enc body P p ret r e1 (fun b hb => k b (List.mem_cons_of_mem _ hb)) h1
      exact ⟨e2, by simp only [List.map_cons, forD, hb, R.bind_ok, List.find?_cons, hp, h2], h3⟩
theorem zipL_map {α β : Type} (f : α → D) (g : β → D) : ∀ (xs : List α) (ys : List β), zipL (xs.map f) (ys.map g) = (xs.zip ys).map fun p => .tup [f p.1, g p.2]
  | [], ys => by simp [zipL]
  | x :: xs, [] => by simp [zipL]
  | x :: xs, y :: ys => by simp [zipL, zipL_map f g xs ys]
theorem enumL_map {α : Type} (f : α → D) : ∀ (xs : List α) (k : Nat), enumL (k : Int) (xs.map f) = (xs.zipIdx k).map fun p => .tup [.int (p.2 : Nat), f p.1]
  | [], k => rfl
  | x :: xs, k => by
    have : ((k : Int) + 1) = ((k + 1 : Nat) : Int) := by omega
    simp only [List.map_cons, enumL, this, enumL_map f xs (k + 1), List.zipIdx_cons]
theorem cutL_lo {α : Type} (xs : List α) (i : Nat) : cutL xs (some (i : Int)) none = xs.drop i := by
  unfold cutL sIx
  have h : ¬ ((i : Int) < 0) := by omega
  simp only [h, if_false, Int.toNat_natCast]
  by_cases hi : i ≤ xs.length
  · rw [Nat.min_eq_left hi]
    exact List.take_of_length_le (by simp)
  · rw [Nat.min_eq_right (by omega), List.drop_eq_nil_of_le (Nat.le_refl _), List.drop_eq_nil_of_le (by omega)]
    simp
/-! ### one step of an expression -/
section
variable {C : Calls} {env : Env}
theorem E_bi {b : Bi} {args : List E} : evE C (.bi b args) env = (evEs C args env).bind fun p => ofO (biD b p.1) p.2 := by simp only [evE]
theorem E_call {f : Nat} {args : List E} : evE C (.call f [] args) env = (evEs C args env).bind fun p => match C f p.1 with | .ok d [] => .ok (d, p.2) | .exc x [] => .exc x p.2 | _ => .no := by
  simp only [evE]
  cases evEs C args env with
  | no => rfl
  | exc x e => rfl
  | ok p =>
    simp only [R.bind_ok]
    cases hc : C f p.1 with
    | no => rfl
    | ok d os => cases os <;> rfl
    | exc x os => cases os <;> rfl
theorem Es_nil : evEs C [] env = .ok ([], env) := by simp only [evEs]
theorem Es_cons {e : E} {es : List E} : evEs C (e :: es) env = (evE C e env).bind fun p => (evEs C es p.2).bind fun q => .ok (p.1 :: q.1, q.2) := by simp only [evEs]
theorem E_bin {o : Op2} {a b : E} : evE C (.bin o a b) env = (evE C a env).bind fun p => (evE C b p.2).bind fun q => ofO (op2D o p.1 q.1) q.2 := by simp only [evE]
theorem E_cmp {o : CO} {a b : E} : evE C (.cmp o a b) env = (evE C a env).bind fun p => (evE C b p.2).bind fun q => ofO ((cmpD o p.1 q.1).map .bl) q.2 := by simp only [evE]
theorem E_idx {a b : E} : evE C (.idx a b) env = (evE C a env).bind fun p => (evE C b p.2).bind fun q => ofO (idxD p.1 q.1) q.2 := by simp only [evE]
theorem E_tup {es : List E} : evE C (.tup es) env = (evEs C es env).bind fun p => .ok (.tup p.1, p.2) := by simp only [evE]
theorem E_lst {s : Shp} {es : List E} : evE C (.lst s es) env = (evEs C es env).bind fun p => .ok (.lst p.1, p.2) := by simp only [evE]
theorem E_not {a : E} : evE C (.not a) env = (evE C a env).bind fun p => (truR p).bind fun q => .ok (.bl (!q.1), q.2) := by simp only [evE]
theorem E_var {i : Nat} : evE C (.var i) env = getV env i := by simp only [evE]
theorem E_int {i : Int} : evE C (.int i) env = .ok (.int i, env) := by simp only [evE]
theorem E_str {x : Str} : evE C (.str x) env = .ok (.str x, env) := by simp only [evE]
theorem E_bl {b : Bool} : evE C (.bl b) env = .ok (.bl b, env) := by simp only [evE]
theorem E_non : evE C .non env = .ok (.non, env) := by simp only [evE]
end
section
variable {C : Calls} {env env1 : Env}
theorem E_or1 {a b : E} {es : List E} {x : Bool} (h : evE C a env = .ok (.bl x, env1)) : evE C (.or (a :: b :: es)) env = if x = true then .ok (.bl true, env1) else evE C (.or (b :: es)) env1 := by
  simp only [evE, evOr, h, R.bind_ok, t_bl]
  cases x <;> rfl
theorem E_or0 {a : E} : evE C (.or [a]) env = evE C a env := by
  simp only [evE, evOr]
  cases evE C a env <;> rfl
theorem E_and1 {a b : E} {es : List E} {x : Bool} (h : evE C a env = .ok (.bl x, env1)) : evE C (.and (a :: b :: es)) env = if x = true then evE C (.and (b :: es)) env1 else .ok (.bl false, env1) := by
  simp only [evE, evAnd, h, R.bind_ok, t_bl]
  cases x <;> rfl
theorem E_and0 {a : E} : evE C (.and [a]) env = evE C a env := by
  simp only [evE, evAnd]
  cases evE C a env <;> rfl
theorem E_neg {a : E} {i : Int} (h : evE C a env = .ok (.int i, env1)) : evE C (.neg a) env = .ok (.int (-i), env1) := by simp only [evE, h, R.bind_ok]
end
theorem i_last {xs : List D} {d : D} (h : xs.getLast? = some d) : idxD (.lst xs) (.int (-1)) = some d := by
  have hne : xs ≠ [] := by rintro rfl; simp at h
  have hl : 0 < xs.length := List.length_pos_iff.mpr hne
  have e : ixN xs.length (-1) = some (xs.length - 1) := by
    unfold ixN
    rw [if_neg (by decide), if_pos (by omega)]
    congr 1; omega
  have e2 : xs[xs.length - 1]? = some d := by rw [← h, List.getLast?_eq_getElem?]
  simp only [idxD, e, Option.bind_some, e2]
theorem eqD_str (x y : Str) : eqD (.str x) (.str y) = (x == y) := rfl
theorem c_eqS (x y : Str) : cmpD .eq (.str x) (.str y) = some (x == y) := by simp only [cmpD, eqD_str]; rfl
theorem c_neS (x y : Str) : cmpD .ne (.str x) (.str y) = some (!(x == y)) := by simp only [cmpD, eqD_str]; rfl
theorem plains_strs : ∀ xs : List Str, plains (xs.map .str) = true ∧ deps (xs.map .str) = 0
  | [] => ⟨by simp only [List.map_nil, plains], by simp only [List.map_nil, deps]⟩
  | x :: r => by
    obtain ⟨a, b⟩ := plains_strs r
    exact ⟨by simp only [List.map_cons, plains, plain, a, Bool.and_true], by simp only [List.map_cons, deps, dep, b, Nat.max_self]⟩
theorem eqOk_strs (xs : List Str) : eqOk (.lst (xs.map .str)) = true := by
  obtain ⟨a, b⟩ := plains_strs xs
  simp only [eqOk, plain, dep, a, b]; rfl
theorem any_strs (xs : List Str) (x : Str) : ((xs.map D.str).any fun z => eqD z (.str x)) = decide (x ∈ xs) := by
  rw [Bool.eq_iff_iff, List.any_eq_true, decide_eq_true_eq]
  constructor
  · rintro ⟨z, hz, he⟩
    obtain ⟨y, hy, rfl⟩ := List.mem_map.mp hz
    rw [eqD_str] at he
    have : y = x := by simpa using he
    rw [← this]; exact hy
  · intro h
    exact ⟨.str x, List.mem_map.mpr ⟨x, h, rfl⟩, by rw [eqD_str]; simp⟩
theorem c_inS (xs : List Str) (x : Str) : cmpD .inn (.str x) (.lst (xs.map .str)) = some (decide (x ∈ xs)) := by
  have : eqOk (.str x) = true := rfl
  simp only [cmpD, inD, this, eqOk_strs, and_self, if_true, any_strs]
theorem c_ninS (xs : List Str) (x : Str) : cmpD .nin (.str x) (.lst (xs.map .str)) = some (!decide (x ∈ xs)) := by
  have : eqOk (.str x) = true := rfl
  simp only [cmpD, inD, this, eqOk_strs, and_self, if_true, any_strs, Option.map_some]
theorem E_chn {C : Calls} {env : Env} {o o' : CO} {a b c : E} {x y z : D} {k k2 : Bool} (h1 : evE C a env = .ok (x, env)) (h2 : evE C b env = .ok (y, env)) (h3 : cmpD o x y = some k) (h4 : evE C c env = .ok (z, env)) (h5 : cmpD o' y z = some k2) : evE C (.chn o o' a b c) env = .ok (.bl (k && k2), env) := by
  simp only [evE, h1, h2, h3, R.bind_ok]
  cases k with
  | true => simp only [h4, R.bind_ok, h5, Option.map_some, ofO, Bool.true_and]
  | false => rfl
theorem b_minL (i : Int) (is : List Int) : biD .minL [.lst ((i :: is).map .int)] = some (.int (is.foldl min i)) := by simp only [biD, intsOf_int, Option.bind_some]
theorem b_maxL (i : Int) (is : List Int) : biD .maxL [.lst ((i :: is).map .int)] = some (.int (is.foldl max i)) := by simp only [biD, intsOf_int, Option.bind_some]
end VC
end

section
set_option Elab.async false
set_option linter.all false
/-! VC22: reckoning in order: what comes later stands behind a name. -/
namespace VC
open PySem
variable {C : Calls} {env : Env}
def kBin2 (o : Op2) (x : D) (q : D × Env) : R (D × Env) := ofO (op2D o x q.1) q.2
def kBin1 (C : Calls) (o : Op2) (b : E) (p : D × Env) : R (D × Env) := (evE C b p.2).bind (kBin2 o p.1)
theorem F_bin {o : Op2} {a b : E} : evE C (.bin o a b) env = (evE C a env).bind (kBin1 C o b) := by simp only [evE]; rfl
theorem kBin1_ok {o : Op2} {b : E} {x : D} : kBin1 C o b (x, env) = (evE C b env).bind (kBin2 o x) := rfl
theorem kBin2_ok {o : Op2} {x y : D} : kBin2 o x (y, env) = ofO (op2D o x y) env := rfl
def kCmp2 (o : CO) (x : D) (q : D × Env) : R (D × Env) := ofO ((cmpD o x q.1).map .bl) q.2
def kCmp1 (C : Calls) (o : CO) (b : E) (p : D × Env) : R (D × Env) := (evE C b p.2).bind (kCmp2 o p.1)
theorem F_cmp {o : CO} {a b : E} : evE C (.cmp o a b) env = (evE C a env).bind (kCmp1 C o b) := by simp only [evE]; rfl
theorem kCmp1_ok {o : CO} {b : E} {x : D} : kCmp1 C o b (x, env) = (evE C b env).bind (kCmp2 o x) := rfl
theorem kCmp2_ok {o : CO} {x y : D} : kCmp2 o x (y, env) = ofO ((cmpD o x y).map .bl) env := rfl
def kIdx2 (x : D) (q : D × Env) : R (D × Env) := ofO (idxD x q.1) q.2
def kIdx1 (C : Calls) (b : E) (p : D × Env) : R (D × Env) := (evE C b p.2).bind (kIdx2 p.1)
theorem F_idx {a b : E} : evE C (.idx a b) env = (evE C a env).bind (kIdx1 C b) := by simp only [evE]; rfl
theorem kIdx1_ok {b : E} {x : D} : kIdx1 C b (x, env) = (evE C b env).bind (kIdx2 x) := rfl
theorem kIdx2_ok {x y : D} : kIdx2 x (y, env) = ofO (idxD x y) env := rfl
def kCons2 (d : D) (q : List D × Env) : R (List D × Env) := .ok (d :: q.1, q.2)
def kCons1 (C : Calls) (es : List E) (p : D × Env) : R (List D × Env) := (evEs C es p.2).bind (kCons2 p.1)
theorem Fs_cons {e : E} {es : List E} : evEs C (e :: es) env = (evE C e env).bind (kCons1 C es) := by simp only [evEs]; rfl
theorem kCons1_ok {es : List E} {d : D} : kCons1 C es (d, env) = (evEs C es env).bind (kCons2 d) := rfl
theorem kCons2_ok {d : D} {ds : List D} : kCons2 d (ds, env) = .ok (d :: ds, env) := rfl
def kTup (q : List D × Env) : R (D × Env) := .ok (.tup q.1, q.2)
theorem F_tup {es : List E} : evE C (.tup es) env = (evEs C es env).bind kTup := by simp only [evE]; rfl
theorem kTup_ok {ds : List D} : kTup (ds, env) = .ok (.tup ds, env) := rfl
def kLst (q : List D × Env) : R (D × Env) := .ok (.lst q.1, q.2)
theorem F_lst {s : Shp} {es : List E} : evE C (.lst s es) env = (evEs C es env).bind kLst := by simp only [evE]; rfl
theorem kLst_ok {ds : List D} : kLst (ds, env) = .ok (.lst ds, env) := rfl
def kBi (b : Bi) (q : List D × Env) : R (D × Env) := ofO (biD b q.1) q.2
theorem F_bi {b : Bi} {es : List E} : evE C (.bi b es) env = (evEs C es env).bind (kBi b) := by simp only [evE]; rfl
theorem kBi_ok {b : Bi} {ds : List D} : kBi b (ds, env) = ofO (biD b ds) env := rfl
def rcE (r : RC) (env : Env) : R (D × Env) := match r with | .ok d [] => .ok (d, env) | .exc x [] => .exc x env | _ => .no
def kCall (C : Calls) (f : Nat) (q : List D × Env) : R (D × Env) := rcE (C f q.1) q.2
theorem F_call {f : Nat} {es : List E} : evE C (.call f [] es) env = (evEs C es env).bind (kCall C f) := by rw [E_call]; rfl
theorem kCall_ok {f : Nat} {ds : List D} : kCall C f (ds, env) = rcE (C f ds) env := rfl
theorem rcE_ok {d : D} : rcE (.ok d []) env = .ok (d, env) := rfl
def kNot2 (q : Bool × Env) : R (D × Env) := .ok (.bl (!q.1), q.2)
def kNot1 (p : D × Env) : R (D × Env) := (truR p).bind kNot2
theorem F_not {a : E} : evE C (.not a) env = (evE C a env).bind kNot1 := by rw [E_not]; rfl
theorem kNot1_ok {d : D} : kNot1 (d, env) = (truR (d, env)).bind kNot2 := rfl
theorem kNot2_ok {b : Bool} : kNot2 (b, env) = .ok (.bl (!b), env) := rfl
def kNeg (p : D × Env) : R (D × Env) := match p.1 with | .int i => .ok (.int (-i), p.2) | _ => .no
theorem F_neg {a : E} : evE C (.neg a) env = (evE C a env).bind kNeg := by simp only [evE]; rfl
theorem kNeg_ok {i : Int} : kNeg (.int i, env) = .ok (.int (-i), env) := rfl
def kIte2 (C : Calls) (a b : E) (q : Bool × Env) : R (D × Env) := if q.1 = true then evE C a q.2 else evE C b q.2
def kIte1 (C : Calls) (a b : E) (p : D × Env) : R (D × Env) := (truR p).bind (kIte2 C a b)
theorem F_ite {c a b : E} : evE C (.ite c a b) env = (evE C c env).bind (kIte1 C a b) := by simp only [evE]; rfl
theorem kIte1_ok {a b : E} {d : D} : kIte1 C a b (d, env) = (truR (d, env)).bind (kIte2 C a b) := rfl
theorem kIte2_ok {a b : E} {k : Bool} : kIte2 C a b (k, env) = if k = true then evE C a env else evE C b env := rfl
def kOr2 (C : Calls) (es : List E) (p : D × Env) (q : Bool × Env) : R (D × Env) := if q.1 = true then .ok p else evE C (.or es) q.2
def kOr1 (C : Calls) (es : List E) (p : D × Env) : R (D × Env) := (truR p).bind (kOr2 C es p)
theorem F_or {a b : E} {es : List E} : evE C (.or (a :: b :: es)) env = (evE C a env).bind (kOr1 C (b :: es)) := by
  simp only [evE]
  rw [evOr]
  rfl
theorem kOr1_ok {es : List E} {d : D} : kOr1 C es (d, env) = (truR (d, env)).bind (kOr2 C es (d, env)) := rfl
theorem kOr2_ok {es : List E} {p : D × Env} {b : Bool} : kOr2 C es p (b, env) = if b = true then .ok p else evE C (.or es) env := rfl
def kAnd2 (C : Calls) (es : List E) (p : D × Env) (q : Bool × Env) : R (D × Env) := if q.1 = true then evE C (.and es) q.2 else .ok p
def kAnd1 (C : Calls) (es : List E) (p : D × Env) : R (D × Env) := (truR p).bind (kAnd2 C es p)
theorem F_and {a b : E} {es : List E} : evE C (.and (a :: b :: es)) env = (evE C a env).bind (kAnd1 C (b :: es)) := by
  simp only [evE]
  rw [evAnd]
  rfl
theorem kAnd1_ok {es : List E} {d : D} : kAnd1 C es (d, env) = (truR (d, env)).bind (kAnd2 C es (d, env)) := rfl
theorem kAnd2_ok {es : List E} {p : D × Env} {b : Bool} : kAnd2 C es p (b, env) = if b = true then evE C (.and es) env else .ok p := rfl
def kChn3 (o' : CO) (y : D) (q : D × Env) : R (D × Env) := ofO ((cmpD o' y q.1).map .bl) q.2
def chnO (C : Calls) (o' : CO) (c : E) (y : D) (env : Env) (r : Option Bool) : R (D × Env) := match r with | some true => (evE C c env).bind (kChn3 o' y) | some false => .ok (.bl false, env) | none => .no
def kChn2 (C : Calls) (o o' : CO) (c : E) (x : D) (q : D × Env) : R (D × Env) := chnO C o' c q.1 q.2 (cmpD o x q.1)
def kChn1 (C : Calls) (o o' : CO) (b c : E) (p : D × Env) : R (D × Env) := (evE C b p.2).bind (kChn2 C o o' c p.1)
theorem F_chn {o o' : CO} {a b c : E} : evE C (.chn o o' a b c) env = (evE C a env).bind (kChn1 C o o' b c) := by simp only [evE]; rfl
theorem kChn1_ok {o o' : CO} {b c : E} {x : D} : kChn1 C o o' b c (x, env) = (evE C b env).bind (kChn2 C o o' c x) := rfl
theorem kChn2_ok {o o' : CO} {c : E} {x y : D} : kChn2 C o o' c x (y, env) = chnO C o' c y env (cmpD o x y) := rfl
theorem chnO_ok {o' : CO} {c : E} {y : D} {b : Bool} : chnO C o' c y env (some b) = if b = true then (evE C c env).bind (kChn3 o' y) else .ok (.bl false, env) := by cases b <;> rfl
theorem kChn3_ok {o' : CO} {x y : D} : kChn3 o' y (x, env) = ofO ((cmpD o' y x).map .bl) env := rfl
def appH (env : Env) (i : Nat) (d : D) : Option (Option D) → R (D × Env)
  | some (some (.lst xs)) => if xs.length < lim then .ok (.non, env.set i (some (.lst (xs ++ [d])))) else .no
  | _ => .no
def kApp (i : Nat) (p : D × Env) : R (D × Env) := appD p.2 i p.1
theorem kApp_ok {i : Nat} {d : D} : kApp i (d, env) = appH env i d env[i]? := rfl
theorem appH_ok {i : Nat} {d : D} {xs : List D} : appH env i d (some (some (.lst xs))) = if xs.length < lim then .ok (.non, env.set i (some (.lst (xs ++ [d])))) else .no := rfl
def appG (C : Calls) (i : Nat) (e : E) (env : Env) : Option (Option D) → R (D × Env)
  | some (some (.lst _)) => (evE C e env).bind (kApp i)
  | _ => .no
theorem F_app {i : Nat} {e : E} : evE C (.app i e) env = appG C i e env env[i]? := by
  simp only [evE]
  generalize env[i]? = o
  cases o with
  | none => rfl
  | some o => cases o with
    | none => rfl
    | some d => cases d <;> rfl
theorem appG_ok {i : Nat} {e : E} {xs : List D} : appG C i e env (some (some (.lst xs))) = (evE C e env).bind (kApp i) := rfl
/-! ### statements -/
def kAsg (C : Calls) (i : Nat) (ss : List S) (p : D × Env) : R (Fl × Env) := evSs C ss (p.2.set i (some p.1))
theorem y_asg {i : Nat} {s : Shp} {e : E} {ss : List S} : evSs C (.asg i s e :: ss) env = (evE C e env).bind (kAsg C i ss) := x_asg
theorem kAsg_ok {i : Nat} {ss : List S} {d : D} : kAsg C i ss (d, env) = evSs C ss (env.set i (some d)) := rfl
def kEx (C : Calls) (ss : List S) (p : D × Env) : R (Fl × Env) := evSs C ss p.2
theorem y_ex {e : E} {ss : List S} : evSs C (.ex e :: ss) env = (evE C e env).bind (kEx C ss) := x_ex
theorem kEx_ok {ss : List S} {d : D} : kEx C ss (d, env) = evSs C ss env := rfl
def kRet (p : D × Env) : R (Fl × Env) := .ok (.rt p.1, p.2)
theorem y_ret {e : E} {ss : List S} : evSs C (.ret e :: ss) env = (evE C e env).bind kRet := x_ret
theorem y_retMv {i : Nat} {ss : List S} : evSs C (.retMv i :: ss) env = (getV env i).bind kRet := x_retMv
theorem kRet_ok {d : D} : kRet (d, env) = .ok (.rt d, env) := rfl
theorem y_mv {i j : Nat} {ss : List S} : evSs C (.mv i j :: ss) env = (getV env j).bind (kAsg C i ss) := x_mv
def kSi2 (C : Calls) (a b ss : List S) (q : Bool × Env) : R (Fl × Env) := if q.1 = true then evSs C (a ++ ss) q.2 else evSs C (b ++ ss) q.2
def kSi1 (C : Calls) (a b ss : List S) (p : D × Env) : R (Fl × Env) := (truR p).bind (kSi2 C a b ss)
theorem y_ite {c : E} {a b ss : List S} : evSs C (.ite c a b :: ss) env = (evE C c env).bind (kSi1 C a b ss) := x_ite
theorem kSi1_ok {a b ss : List S} {d : D} : kSi1 C a b ss (d, env) = (truR (d, env)).bind (kSi2 C a b ss) := rfl
theorem kSi2_ok {a b ss : List S} {k : Bool} : kSi2 C a b ss (k, env) = if k = true then evSs C (a ++ ss) env else evSs C (b ++ ss) env := rfl
/-- behind a loop -/
def kFor (C : Calls) (ss : List S) (p : Fl × Env) : R (Fl × Env) := match p.1 with | .nx => evSs C ss p.2 | _ => .ok p
theorem y_for {G : SEnv} {g : Tg} {k : ItK} {ies : List E} {body ss : List S} {ds items : List D} {env1 : Env} (h : evEs C ies env = .ok (ds, env1)) (h2 : itD k ds = some items) :
    evSs C (.for_ G g k ies body :: ss) env = (forD (fun d e => (bindTg g d e).bind fun e1 => evSs C body e1) items env1).bind (kFor C ss) := x_for h h2
theorem kFor_nx {ss : List S} : kFor C ss (.nx, env) = evSs C ss env := rfl
theorem kFor_rt {ss : List S} {d : D} : kFor C ss (.rt d, env) = .ok (.rt d, env) := rfl
/-- a turn -/
def kTurn (C : Calls) (body : List S) (e : Env) : R (Fl × Env) := evSs C body e
theorem t_nm {i : Nat} {d : D} {body : List S} : ((bindTg (.nm i) d env).bind fun e1 => evSs C body e1) = evSs C body (env.set i (some d)) := rfl
theorem t_tp {is : List Nat} {ds : List D} {body : List S} {e1 : Env} (h : setAll env is ds = some e1) : ((bindTg (.tp is) (.tup ds) env).bind fun e1 => evSs C body e1) = evSs C body e1 := by simp only [bindTg, h, R.bind_ok]
/-- one name's place -/
theorem gv {i : Nat} {d : D} (h : env[i]? = some (some d)) : getV env i = .ok (d, env) := g_var h
theorem y_set {i : Nat} {k e : E} {ss : List S} {v : D} {ks : List (List Key)} {ds xs : List D} {kk : List Key} (h : evE C e env = .ok (v, env)) (h0 : env[i]? = some (some (.dT ks ds))) (h1 : evE C k env = .ok (.tup xs, env)) (h2 : keysD xs = some kk) (hl : ks.length < lim) :
    evSs C (.set i k e :: ss) env = evSs C ss (env.set i (some (.dT (putKs ks kk) (putDs ks ds kk v)))) := by
  simp only [evSs, evS, h, R.bind_ok, h0, h1, setIx, h2, hl, if_true]
theorem F_dget2T {u : Shp} {a k x : E} {ks : List (List Key)} {ds xs : List D} {kk : List Key} {z : D} (h : evE C a env = .ok (.dT ks ds, env)) (h1 : evE C k env = .ok (.tup xs, env)) (h2 : keysD xs = some kk) (h3 : evE C x env = .ok (z, env)) :
    evE C (.dget2 u a k x) env = .ok ((lookD ks ds kk).getD z, env) := by
  simp only [evE, h, R.bind_ok, h1, h3, dgetD, h2, Option.map_some, ofO_some]
theorem y_setL {i : Nat} {k e : E} {ss : List S} {v : D} {xs : List D} {o : Nat} (h : evE C e env = .ok (v, env)) (h0 : env[i]? = some (some (.lst xs))) (h1 : evE C k env = .ok (.int (o : Nat), env)) (hl : o < xs.length) :
    evSs C (.set i k e :: ss) env = evSs C ss (env.set i (some (.lst (xs.set o v)))) := by
  have hx : ixN xs.length (o : Int) = some o := by
    unfold ixN
    rw [if_pos (by omega), if_pos (by omega)]
    simp
  simp only [evSs, evS, h, R.bind_ok, h0, h1, setIx, hx]
theorem F_callIO {f : Nat} {ios : List (Option Nat)} {args : List E} {ds outs : List D} {d : D} {env1 e : Env} (h : evEs C args env = .ok (ds, env1)) (h2 : C f ds = .ok d outs) (h3 : setOuts env1 ios outs = some e) : evE C (.call f ios args) env = .ok (d, e) := by
  simp only [evE, h, R.bind_ok, h2, h3]
theorem look_put {κ : Type} [DecidableEq κ] (v : D) (k k' : κ) : ∀ {ks : List κ} {ds : List D}, ks.length = ds.length → lookD (putKs ks k) (putDs ks ds k v) k' = if k = k' then some v else lookD ks ds k'
  | [], [], _ => by
    simp only [putKs, putDs, List.not_mem_nil, if_false, List.nil_append, lookD]
  | [], _ :: _, h => by simp at h
  | _ :: _, [], h => by simp at h
  | x :: ks, d :: ds, h => by
    have hl : ks.length = ds.length := by simpa using h
    have ih := look_put v k k' hl
    by_cases hx : x = k
    · subst hx
      have e : putKs (x :: ks) x = x :: ks := by unfold putKs; rw [if_pos List.mem_cons_self]
      rw [e]
      simp only [putDs, if_true, lookD]
      split <;> rfl
    · have e : putKs (x :: ks) k = x :: putKs ks k := by
        unfold putKs
        by_cases hk : k ∈ ks
        · rw [if_pos hk, if_pos (List.mem_cons_of_mem _ hk)]
        · rw [if_neg hk, if_neg (by simp only [List.mem_cons, not_or]; exact ⟨fun z => hx z.symm, hk⟩)]; rfl
      rw [e]
      simp only [putDs, if_neg hx, lookD]
      by_cases h2 : x = k'
      · subst h2
        rw [if_pos rfl, if_neg (fun z => hx z.symm), if_pos rfl]
      · rw [if_neg h2, ih]
        split
        · rfl
        · first | rfl | rw [if_neg h2]
theorem put_len {κ : Type} [DecidableEq κ] (v : D) (k : κ) : ∀ {ks : List κ} {ds : List D}, ks.length = ds.length → (putKs ks k).length = (putDs ks ds k v).length
  | [], [], _ => by simp only [putKs, putDs, List.not_mem_nil, if_false]; rfl
  | [], _ :: _, h => by simp at h
  | _ :: _, [], h => by simp at h
  | x :: ks, d :: ds, h => by
    have hl : ks.length = ds.length := by simpa using h
    have ih := put_len v k hl
    by_cases hx : x = k
    · subst hx
      have e : putKs (x :: ks) x = x :: ks := by unfold putKs; rw [if_pos List.mem_cons_self]
      rw [e]
      simp only [putDs, if_true]
      simpa using hl
    · have e : putKs (x :: ks) k = x :: putKs ks k := by
        unfold putKs
        by_cases hk : k ∈ ks
        · rw [if_pos hk, if_pos (List.mem_cons_of_mem _ hk)]
        · rw [if_neg hk, if_neg (by simp only [List.mem_cons, not_or]; exact ⟨fun z => hx z.symm, hk⟩)]; rfl
      rw [e]
      simp only [putDs, if_neg hx, List.length_cons, ih]
theorem putKs_le {κ : Type} [DecidableEq κ] {ks : List κ} {k : κ} : (putKs ks k).length ≤ ks.length + 1 := by
  unfold putKs
  split
  · omega
  · rw [List.length_append]; simp
theorem call_def {T : List Def} {n f : Nat} {df : Def} {args : List D} (h : T[f]? = some df) (hl : args.length = df.np) : callD T (n + 1) f args = endC df.ios (evSs (callD T n) df.body (args.map some ++ List.replicate (df.nl - df.np) none)) := by
  simp only [callD, h, hl, if_true]
theorem filt_true {α : Type} (xs : List α) : (xs.filter fun _ => true) = xs := by simp
theorem b_any (bs : List Bool) : biD .any1 [.lst (bs.map .bl)] = some (.bl (bs.any id)) := by
  have : ∀ bs : List Bool, blsOf (bs.map .bl) = some bs := fun bs => by
    induction bs with
    | nil => rfl
    | cons b r ih => simp only [List.map_cons, blsOf, ih, Option.map_some]
  simp only [biD, this, Option.map_some]
theorem b_all (bs : List Bool) : biD .all1 [.lst (bs.map .bl)] = some (.bl (bs.all id)) := by
  have : ∀ bs : List Bool, blsOf (bs.map .bl) = some bs := fun bs => by
    induction bs with
    | nil => rfl
    | cons b r ih => simp only [List.map_cons, blsOf, ih, Option.map_some]
  simp only [biD, this, Option.map_some]
theorem b_tupL (xs : List D) : biD .tup1 [.lst xs] = some (.tup xs) := rfl
theorem b_tupT (xs : List D) : biD .tup1 [.tup xs] = some (.tup xs) := rfl
/-- a loop that puts to the end of a list -/
theorem forD_acc {α β τ : Type} (mk : List β → τ → Env) (out : α → List β) (enc : α → D) (body : D → Env → R (Fl × Env)) (c N : Nat) : ∀ (items : List α) (acc : List β) (j : τ), (∀ a ∈ items, (out a).length ≤ c) → acc.length + items.length * c ≤ N →
    (∀ a ∈ items, ∀ acc j, acc.length + c ≤ N → ∃ j', body (enc a) (mk acc j) = .ok (.nx, mk (acc ++ out a) j')) → ∃ j', forD body (items.map enc) (mk acc j) = .ok (.nx, mk (acc ++ items.flatMap out) j')
  | [], acc, j, _, _, _ => ⟨j, by simp only [List.map_nil, forD, List.flatMap_nil, List.append_nil]⟩
  | a :: r, acc, j, h1, h2, h3 => by
    simp only [List.length_cons, Nat.succ_mul] at h2
    obtain ⟨j1, e1⟩ := h3 a List.mem_cons_self acc j (by omega)
    have ho := h1 a List.mem_cons_self
    obtain ⟨j2, e2⟩ := forD_acc mk out enc body c N r (acc ++ out a) j1 (fun b hb => h1 b (List.mem_cons_of_mem _ hb)) (by rw [List.length_append]; omega) fun b hb => h3 b (List.mem_cons_of_mem _ hb)
    refine ⟨j2, ?_⟩
    simp only [List.map_cons, forD, e1, R.bind_ok, e2, List.flatMap_cons, List.append_assoc]
/-- a loop whose turns all go on: what holds stays -/
theorem forD_all {α τ : Type} (mk : τ → Env) (enc : α → D) (body : D → Env → R (Fl × Env)) : ∀ (items : List α) (j : τ), (∀ a ∈ items, ∀ j, ∃ j', body (enc a) (mk j) = .ok (.nx, mk j')) → ∃ j', forD body (items.map enc) (mk j) = .ok (.nx, mk j')
  | [], j, _ => ⟨j, by simp only [List.map_nil, forD]⟩
  | a :: r, j, h => by
    obtain ⟨j1, e1⟩ := h a List.mem_cons_self j
    obtain ⟨j2, e2⟩ := forD_all mk enc body r j1 fun b hb => h b (List.mem_cons_of_mem _ hb)
    exact ⟨j2, by simp only [List.map_cons, forD, e1, R.bind_ok, e2]⟩
/-- a loop whose turns all go on, by what was walked -/
theorem forD_pre {α : Type} (enc : α → D) (body : D → Env → R (Fl × Env)) (I : List α → Env → Prop) (all : List α) (h : ∀ pre a r env, pre ++ a :: r = all → I pre env → ∃ e1, body (enc a) env = .ok (.nx, e1) ∧ I (pre ++ [a]) e1) : ∀ (rest pre : List α) (env : Env), pre ++ rest = all → I pre env → ∃ e2, forD body (rest.map enc) env = .ok (.nx, e2) ∧ I all e2
  | [], pre, env, e, i => ⟨env, rfl, by rw [List.append_nil] at e; rw [← e]; exact i⟩
  | a :: r, pre, env, e, i => by
    obtain ⟨e1, h1, i1⟩ := h pre a r env e i
    obtain ⟨e2, h2, i2⟩ := forD_pre enc body I all h r (pre ++ [a]) e1 (by rw [List.append_assoc]; exact e) i1
    exact ⟨e2, by simp only [List.map_cons, forD, h1, R.bind_ok, h2], i2⟩
theorem lcD2_fm {α : Type} (enc : α → D) (p : α → Bool) (xs : α → List D) (bind : D → Env → R Env) (test : Env → R (Bool × Env)) (inner : Env → R (List D × Env)) (P : Env → Prop) :
    ∀ (items : List α) (env : Env), (∀ a ∈ items, ∀ e, P e → ∃ e1, bind (enc a) e = .ok e1 ∧ P e1 ∧ test e1 = .ok (p a, e1) ∧ (p a = true → ∃ e2, inner e1 = .ok (xs a, e2) ∧ P e2)) → P env →
    ∃ env2, lcD2 bind test inner (items.map enc) env = .ok (items.flatMap (fun a => if p a = true then xs a else []), env2) ∧ P env2
  | [], env, _, h => ⟨env, rfl, h⟩
  | a :: r, env, k, h => by
    obtain ⟨e1, h1, h2, h3, h4⟩ := k a List.mem_cons_self env h
    cases hp : p a with
    | true =>
      obtain ⟨e2, h5, h6⟩ := h4 hp
      obtain ⟨e3, h7, h8⟩ := lcD2_fm enc p xs bind test inner P r e2 (fun b hb => k b (List.mem_cons_of_mem _ hb)) h6
      exact ⟨e3, by simp only [List.map_cons, lcD2, h1, R.bind_ok, h3, hp, if_true, h5, h7, List.flatMap_cons], h8⟩
    | false =>
      obtain ⟨e3, h7, h8⟩ := lcD2_fm enc p xs bind test inner P r e1 (fun b hb => k b (List.mem_cons_of_mem _ hb)) h2
      exact ⟨e3, by simp only [List.map_cons, lcD2, h1, R.bind_ok, h3, hp, Bool.false_eq_true, if_false, h7, List.flatMap_cons, List.nil_append], h8⟩
/-- [elt for .. in .. if .. for .. in .. if ..] -/
theorem e_lc2 {α β : Type} {C : Calls} {env : Env} {own own1 : List Nat} {s : Shp} {elt : E} {g g1 : Tg} {k k1 : ItK} {ies ifs ies1 ifs1 : List E} {ds : List D} (enc : α → D) (p : α → Bool) (enc1 : β → D) (items1 : α → List β) (q : α → β → Bool) (f : α → β → D) (items : List α)
    (h1 : evEs C ies env = .ok (ds, env)) (h2 : itD k ds = some (items.map enc)) (hsub : ∀ j ∈ own1, j ∈ own) (hl : (items.flatMap fun a => if p a = true then ((items1 a).filter (q a)).map (f a) else []).length ≤ lim)
    (h : ∀ a ∈ items, ∀ e : Env, Agr own env e → ∃ e1, bindTg g (enc a) e = .ok e1 ∧ Agr own env e1 ∧ evTs C ifs e1 = .ok (p a, e1) ∧ (p a = true → ∃ ds1, evEs C ies1 e1 = .ok (ds1, e1) ∧ itD k1 ds1 = some ((items1 a).map enc1) ∧
      ∀ b ∈ items1 a, ∀ e2 : Env, Agr own1 e1 e2 → ∃ e3, bindTg g1 (enc1 b) e2 = .ok e3 ∧ Agr own1 e1 e3 ∧ evTs C ifs1 e3 = .ok (q a b, e3) ∧ (q a b = true → evE C elt e3 = .ok (f a b, e3)))) :
    evE C (.lc2 own own1 s elt g k ies ifs g1 k1 ies1 ifs1) env = .ok (.lst (items.flatMap fun a => if p a = true then ((items1 a).filter (q a)).map (f a) else []), env) := by
  obtain ⟨e2, h4, h5⟩ := lcD2_fm enc p (fun a => ((items1 a).filter (q a)).map (f a)) (bindTg g) (evTs C ifs) (fun e => (evEs C ies1 e).bind fun (x : List D × Env) => match itD k1 x.1 with
            | some items1 => lcD (bindTg g1) (evTs C ifs1) (evE C elt) items1 (wipeD x.2 own1)
            | none => .no) (Agr own env) items (wipeD env own) (fun a ha e he => by
    obtain ⟨e1, b1, b2, b3, b4⟩ := h a ha e he
    refine ⟨e1, b1, b2, b3, fun hp => ?_⟩
    obtain ⟨ds1, c1, c2, c3⟩ := b4 hp
    obtain ⟨e3, d1, d2⟩ := lcD_fm enc1 (q a) (f a) (bindTg g1) (evTs C ifs1) (evE C elt) (Agr own1 e1) (items1 a) (wipeD e1 own1) c3 (Agr.wiped e1 own1)
    refine ⟨e3, ?_, b2.trans ⟨d2.len, fun j hj => d2.at_ j fun z => hj (hsub j z)⟩⟩
    simp only [c1, R.bind_ok, c2, d1]) (Agr.wiped env own)
  simp only [evE, h1, R.bind_ok, h2]
  generalize hX : lcD2 (bindTg g) (evTs C ifs) _ (items.map enc) (wipeD env own) = X
  have e : X = .ok (_, e2) := hX.symm.trans h4
  rw [e]
  simp only [hl, if_true, backD_eq h5]
theorem ex_len0 {α : Type} {l : List α} (h : l.length = 0) : l = [] := List.length_eq_zero_iff.mp h
theorem ex_len1 {α : Type} {l : List α} (h : l.length = 1) : ∃ x0, l = [x0] := by
  cases l with
  | nil => simp at h
  | cons a r =>
    have h' : r.length = 0 := by simpa using h
    have e := ex_len0 h'
    subst e
    exact ⟨a, rfl⟩
theorem ex_len2 {α : Type} {l : List α} (h : l.length = 2) : ∃ x0 x1, l = [x0, x1] := by
  cases l with
  | nil => simp at h
  | cons a r =>
    have h' : r.length = 1 := by simpa using h
    obtain ⟨x1, e⟩ := ex_len1 h'
    subst e
    exact ⟨a, x1, rfl⟩
theorem ex_len3 {α : Type} {l : List α} (h : l.length = 3) : ∃ x0 x1 x2, l = [x0, x1, x2] := by
  cases l with
  | nil => simp at h
  | cons a r =>
    have h' : r.length = 2 := by simpa using h
    obtain ⟨x1, x2, e⟩ := ex_len2 h'
    subst e
    exact ⟨a, x1, x2, rfl⟩
theorem ex_len4 {α : Type} {l : List α} (h : l.length = 4) : ∃ x0 x1 x2 x3, l = [x0, x1, x2, x3] := by
  cases l with
  | nil => simp at h
  | cons a r =>
    have h' : r.length = 3 := by simpa using h
    obtain ⟨x1, x2, x3, e⟩ := ex_len3 h'
    subst e
    exact ⟨a, x1, x2, x3, rfl⟩
theorem ex_len5 {α : Type} {l : List α} (h : l.length = 5) : ∃ x0 x1 x2 x3 x4, l = [x0, x1, x2, x3, x4] := by
  cases l with
  | nil => simp at h
  | cons a r =>
    have h' : r.length = 4 := by simpa using h
    obtain ⟨x1, x2, x3, x4, e⟩ := ex_len4 h'
    subst e
    exact ⟨a, x1, x2, x3, x4, rfl⟩
theorem ex_len6 {α : Type} {l : List α} (h : l.length = 6) : ∃ x0 x1 x2 x3 x4 x5, l = [x0, x1, x2, x3, x4, x5] := by
  cases l with
  | nil => simp at h
  | cons a r =>
    have h' : r.length = 5 := by simpa using h
    obtain ⟨x1, x2, x3, x4, x5, e⟩ := ex_len5 h'
    subst e
    exact ⟨a, x1, x2, x3, x4, x5, rfl⟩
theorem ex_len7 {α : Type} {l : List α} (h : l.length = 7) : ∃ x0 x1 x2 x3 x4 x5 x6, l = [x0, x1, x2, x3, x4, x5, x6] := by
  cases l with
  | nil => simp at h
  | cons a r =>
    have h' : r.length = 6 := by simpa using h
    obtain ⟨x1, x2, x3, x4, x5, x6, e⟩ := ex_len6 h'
    subst e
    exact ⟨a, x1, x2, x3, x4, x5, x6, rfl⟩
theorem ex_len8 {α : Type} {l : List α} (h : l.length = 8) : ∃ x0 x1 x2 x3 x4 x5 x6 x7, l = [x0, x1, x2, x3, x4, x5, x6, x7] := by
  cases l with
  | nil => simp at h
  | cons a r =>
    have h' : r.length = 7 := by simpa using h
    obtain ⟨x1, x2, x3, x4, x5, x6, x7, e⟩ := ex_len7 h'
    subst e
    exact ⟨a, x1, x2, x3, x4, x5, x6, x7, rfl⟩
theorem ex_len9 {α : Type} {l : List α} (h : l.length = 9) : ∃ x0 x1 x2 x3 x4 x5 x6 x7 x8, l = [x0, x1, x2, x3, x4, x5, x6, x7, x8] := by
  cases l with
  | nil => simp at h
  | cons a r =>
    have h' : r.length = 8 := by simpa using h
    obtain ⟨x1, x2, x3, x4, x5, x6, x7, x8, e⟩ := ex_len8 h'
    subst e
    exact ⟨a, x1, x2, x3, x4, x5, x6, x7, x8, rfl⟩
theorem ex_len10 {α : Type} {l : List α} (h : l.length = 10) : ∃ x0 x1 x2 x3 x4 x5 x6 x7 x8 x9, l = [x0, x1, x2, x3, x4, x5, x6, x7, x8, x9] := by
  cases l with
  | nil => simp at h
  | cons a r =>
    have h' : r.length = 9 := by simpa using h
    obtain ⟨x1, x2, x3, x4, x5, x6, x7, x8, x9, e⟩ := ex_len9 h'
    subst e
    exact ⟨a, x1, x2, x3, x4, x5, x6, x7, x8, x9, rfl⟩
theorem ex_len11 {α : Type} {l : List α} (h : l.length = 11) : ∃ x0 x1 x2 x3 x4 x5 x6 x7 x8 x9 x10, l = [x0, x1, x2, x3, x4, x5, x6, x7, x8, x9, x10] := by
  cases l with
  | nil => simp at h
  | cons a r =>
    have h' : r.length = 10 := by simpa using h
    obtain ⟨x1, x2, x3, x4, x5, x6, x7, x8, x9, x10, e⟩ := ex_len10 h'
    subst e
    exact ⟨a, x1, x2, x3, x4, x5, x6, x7, x8, x9, x10, rfl⟩
theorem ex_len12 {α : Type} {l : List α} (h : l.length = 12) : ∃ x0 x1 x2 x3 x4 x5 x6 x7 x8 x9 x10 x11, l = [x0, x1, x2, x3, x4, x5, x6, x7, x8, x9, x10, x11] := by
  cases l with
  | nil => simp at h
  | cons a r =>
    have h' : r.length = 11 := by simpa using h
    obtain ⟨x1, x2, x3, x4, x5, x6, x7, x8, x9, x10, x11, e⟩ := ex_len11 h'
    subst e
    exact ⟨a, x1, x2, x3, x4, x5, x6, x7, x8, x9, x10, x11, rfl⟩
theorem ex_len13 {α : Type} {l : List α} (h : l.length = 13) : ∃ x0 x1 x2 x3 x4 x5 x6 x7 x8 x9 x10 x11 x12, l = [x0, x1, x2, x3, x4, x5, x6, x7, x8, x9, x10, x11, x12] := by
  cases l with
  | nil => simp at h
  | cons a r =>
    have h' : r.length = 12 := by simpa using h
    obtain ⟨x1, x2, x3, x4, x5, x6, x7, x8, x9, x10, x11, x12, e⟩ := ex_len12 h'
    subst e
    exact ⟨a, x1, x2, x3, x4, x5, x6, x7, x8, x9, x10, x11, x12, rfl⟩
theorem ex_len14 {α : Type} {l : List α} (h : l.length = 14) : ∃ x0 x1 x2 x3 x4 x5 x6 x7 x8 x9 x10 x11 x12 x13, l = [x0, x1, x2, x3, x4, x5, x6, x7, x8, x9, x10, x11, x12, x13] := by
  cases l with
  | nil => simp at h
  | cons a r =>
    have h' : r.length = 13 := by simpa using h
    obtain ⟨x1, x2, x3, x4, x5, x6, x7, x8, x9, x10, x11, x12, x13, e⟩ := ex_len13 h'
    subst e
    exact ⟨a, x1, x2, x3, x4, x5, x6, x7, x8, x9, x10, x11, x12, x13, rfl⟩
theorem ex_len15 {α : Type} {l : List α} (h : l.length = 15) : ∃ x0 x1 x2 x3 x4 x5 x6 x7 x8 x9 x10 x11 x12 x13 x14, l = [x0, x1, x2, x3, x4, x5, x6, x7, x8, x9, x10, x11, x12, x13, x14] := by
  cases l with
  | nil => simp at h
  | cons a r =>
    have h' : r.length = 14 := by simpa using h
    obtain ⟨x1, x2, x3, x4, x5, x6, x7, x8, x9, x10, x11, x12, x13, x14, e⟩ := ex_len14 h'
    subst e
    exact ⟨a, x1, x2, x3, x4, x5, x6, x7, x8, x9, x10, x11, x12, x13, x14, rfl⟩
theorem ex_len16 {α : Type} {l : List α} (h : l.length = 16) : ∃ x0 x1 x2 x3 x4 x5 x6 x7 x8 x9 x10 x11 x12 x13 x14 x15, l = [x0, x1, x2, x3, x4, x5, x6, x7, x8, x9, x10, x11, x12, x13, x14, x15] := by
  cases l with
  | nil => simp at h
  | cons a r =>
    have h' : r.length = 15 := by simpa using h
    obtain ⟨x1, x2, x3, x4, x5, x6, x7, x8, x9, x10, x11, x12, x13, x14, x15, e⟩ := ex_len15 h'
    subst e
    exact ⟨a, x1, x2, x3, x4, x5, x6, x7, x8, x9, x10, x11, x12, x13, x14, x15, rfl⟩
theorem ex_len17 {α : Type} {l : List α} (h : l.length = 17) : ∃ x0 x1 x2 x3 x4 x5 x6 x7 x8 x9 x10 x11 x12 x13 x14 x15 x16, l = [x0, x1, x2, x3, x4, x5, x6, x7, x8, x9, x10, x11, x12, x13, x14, x15, x16] := by
  cases l with
  | nil => simp at h
  | cons a r =>
    have h' : r.length = 16 := by simpa using h
    obtain ⟨x1, x2, x3, x4, x5, x6, x7, x8, x9, x10, x11, x12, x13, x14, x15, x16, e⟩ := ex_len16 h'
    subst e
    exact ⟨a, x1, x2, x3, x4, x5, x6, x7, x8, x9, x10, x11, x12, x13, x14, x15, x16, rfl⟩
theorem ex_len18 {α : Type} {l : List α} (h : l.length = 18) : ∃ x0 x1 x2 x3 x4 x5 x6 x7 x8 x9 x10 x11 x12 x13 x14 x15 x16 x17, l = [x0, x1, x2, x3, x4, x5, x6, x7, x8, x9, x10, x11, x12, x13, x14, x15, x16, x17] := by
  cases l with
  | nil => simp at h
  | cons a r =>
    have h' : r.length = 17 := by simpa using h
    obtain ⟨x1, x2, x3, x4, x5, x6, x7, x8, x9, x10, x11, x12, x13, x14, x15, x16, x17, e⟩ := ex_len17 h'
    subst e
    exact ⟨a, x1, x2, x3, x4, x5, x6, x7, x8, x9, x10, x11, x12, x13, x14, x15, x16, x17, rfl⟩
theorem agr_set {own : List Nat} {env e : Env} {i : Nat} (h : Agr own env e) (hi : i ∈ own) (x : Option D) : Agr own env (e.set i x) :=
  ⟨by rw [List.length_set]; exact h.len, fun j hj => by rw [List.getElem?_set_ne fun z => hj (by rw [← z]; exact hi)]; exact h.at_ j hj⟩
theorem eqD_lst_nil : eqD (.lst []) (.lst []) = true := rfl
theorem eqD_pair (a b c d : Int) : eqD (.tup [.int a, .int b]) (.tup [.int c, .int d]) = (decide (a = c) && decide (b = d)) := by
  show (PyData.eqv (.int a) (.int c) && (PyData.eqv (.int b) (.int d) && true)) = _
  rw [Bool.and_true]
  have e1 := eqv_int a c
  have e2 := eqv_int b d
  unfold eqD at e1 e2
  simp only [toPD] at e1 e2
  rw [e1, e2]
mutual
theorem toPD_plain : ∀ d : D, VC.plain d = true → (toPD d).plain = true
  | .non, _ => rfl
  | .bl _, _ => rfl
  | .int _, _ => rfl
  | .str _, _ => rfl
  | .tup xs, h => by simp only [toPD, PyData.plain]; exact toPDs_plain xs (by simpa only [VC.plain] using h)
  | .lst xs, h => by simp only [toPD, PyData.plain]; exact toPDs_plain xs (by simpa only [VC.plain] using h)
  | .dK _ _, h => by simp [VC.plain] at h
  | .dT _ _, h => by simp [VC.plain] at h
  | .st _, h => by simp [VC.plain] at h
  | .ins _ _ _, h => by simp [VC.plain] at h
  | .exc _ _ _, h => by simp [VC.plain] at h
theorem toPDs_plain : ∀ xs : List D, plains xs = true → PyData.plainAll (toPDs xs) = true
  | [], _ => rfl
  | x :: xs, h => by
    simp only [plains, Bool.and_eq_true] at h
    simp only [toPDs, PyData.plainAll, toPD_plain x h.1, toPDs_plain xs h.2, Bool.and_self]
end
theorem eqD_self {d : D} (h : eqOk d = true) : eqD d d = true := by
  unfold eqD
  refine SeqAt.eqv_refl_plain _ (toPD_plain d ?_)
  simp only [eqOk, Bool.and_eq_true] at h
  exact h.1
theorem c_eq_self {d : D} (h : eqOk d = true) : cmpD .eq d d = some true := by
  simp only [cmpD, h, and_self, if_true, eqD_self h]
theorem c_ne_self {d : D} (h : eqOk d = true) : cmpD .ne d d = some false := by
  simp only [cmpD, h, and_self, if_true, eqD_self h, Bool.not_true]
theorem ts_lst {C : Calls} {env : Env} {c : E} {xs : List D} (h : evE C c env = .ok (.lst xs, env)) : evTs C [c] env = .ok (!xs.isEmpty, env) := by
  simp only [evTs, h, R.bind_ok, t_lst]
  cases xs.isEmpty <;> rfl
theorem plains_map {α : Type} (f : α → D) (k : Nat) (h : ∀ a, VC.plain (f a) = true ∧ dep (f a) ≤ k) : ∀ l : List α, plains (l.map f) = true ∧ deps (l.map f) ≤ k
  | [] => ⟨rfl, Nat.zero_le _⟩
  | a :: l => by
    obtain ⟨h1, h2⟩ := plains_map f k h l
    obtain ⟨h3, h4⟩ := h a
    exact ⟨by simp only [List.map_cons, plains, h1, h3, Bool.and_true], by simp only [List.map_cons, deps]; omega⟩
theorem plains_mem (k : Nat) : ∀ l : List D, (∀ a ∈ l, VC.plain a = true ∧ dep a ≤ k) → plains l = true ∧ deps l ≤ k
  | [], _ => ⟨rfl, Nat.zero_le _⟩
  | a :: l, h => by
    obtain ⟨h1, h2⟩ := plains_mem k l fun b hb => h b (List.mem_cons_of_mem _ hb)
    obtain ⟨h3, h4⟩ := h a List.mem_cons_self
    exact ⟨by simp only [plains, h1, h3, Bool.and_true], by simp only [deps]; omega⟩
theorem pl_int (i : Int) : VC.plain (.int i) = true ∧ dep (.int i) ≤ 0 := ⟨rfl, Nat.le_refl _⟩
theorem pl_str (i : Str) : VC.plain (.str i) = true ∧ dep (.str i) ≤ 0 := ⟨rfl, Nat.le_refl _⟩
theorem pl_tup {k : Nat} {l : List D} (h : plains l = true ∧ deps l ≤ k) : VC.plain (.tup l) = true ∧ dep (.tup l) ≤ k + 1 := ⟨by simpa only [VC.plain] using h.1, by simp only [dep]; omega⟩
theorem pl_lst {k : Nat} {l : List D} (h : plains l = true ∧ deps l ≤ k) : VC.plain (.lst l) = true ∧ dep (.lst l) ≤ k + 1 := ⟨by simpa only [VC.plain] using h.1, by simp only [dep]; omega⟩
theorem eqOk_le {k : Nat} {d : D} (h : VC.plain d = true ∧ dep d ≤ k) (hk : k ≤ 60) : eqOk d = true := by
  have h2 : dep d ≤ 60 := Nat.le_trans h.2 hk
  simp only [eqOk, h.1, h2, decide_true, Bool.and_self]
theorem any_ints (xs : List Nat) (x : Nat) : ((xs.map fun n : Nat => D.int n).any fun z => eqD z (.int x)) = decide (x ∈ xs) := by
  induction xs with
  | nil => rfl
  | cons y r ih =>
    rw [List.map_cons, List.any_cons, ih, eqv_int]
    by_cases e : y = x
    · subst e; simp
    · have h1 : decide ((y : Int) = (x : Int)) = false := by simp; omega
      rw [h1, Bool.false_or]
      by_cases h2 : x ∈ r
      · simp [h2]
      · have : ¬ x ∈ y :: r := fun z => (List.mem_cons.mp z).elim (fun z => e z.symm) h2
        simp [h2, this]
theorem c_ninN (xs : List Nat) (x : Nat) : cmpD .nin (.int x) (.lst (xs.map fun n : Nat => D.int n)) = some (!decide (x ∈ xs)) := by
  have h1 : eqOk (.int (x : Int)) = true := rfl
  have h2 : eqOk (.lst (xs.map fun n : Nat => D.int n)) = true := eqOk_le (pl_lst (plains_map (fun n : Nat => D.int n) 0 (fun n => pl_int n) xs)) (by omega)
  simp only [cmpD, inD, h1, h2, and_self, if_true, Option.map_some, any_ints]
theorem c_inN (xs : List Nat) (x : Nat) : cmpD .inn (.int x) (.lst (xs.map fun n : Nat => D.int n)) = some (decide (x ∈ xs)) := by
  have h1 : eqOk (.int (x : Int)) = true := rfl
  have h2 : eqOk (.lst (xs.map fun n : Nat => D.int n)) = true := eqOk_le (pl_lst (plains_map (fun n : Nat => D.int n) 0 (fun n => pl_int n) xs)) (by omega)
  simp only [cmpD, inD, h1, h2, and_self, if_true, any_ints]
theorem it_rng2 (i j : Int) (hi : -4611686018427387904 ≤ i ∧ i < 4611686018427387904) (hj : -4611686018427387904 ≤ j ∧ j < 4611686018427387904) : itD .rng2 [.int i, .int j] = some ((List.range (j - i).toNat).map fun k : Nat => .int (i + k)) := by
  have e2 : (2 : Int) ^ 62 = 4611686018427387904 := rfl
  have h1 : rngOk i = true := by simp only [rngOk, e2, Bool.and_eq_true, decide_eq_true_eq]; omega
  have h2 : rngOk j = true := by simp only [rngOk, e2, Bool.and_eq_true, decide_eq_true_eq]; omega
  simp only [itD, h1, h2, and_self, if_true, rngL_map]
theorem F_app2 {C : Calls} {env : Env} {i : Nat} {k e : E} {ds xs : List D} {n : Nat} {z : Int} {d : D} (h0 : env[i]? = some (some (.lst ds))) (h1 : evE C k env = .ok (.int z, env)) (h2 : ixN ds.length z = some n) (h3 : ds[n]? = some (.lst xs)) (h4 : evE C e env = .ok (d, env)) (hl : xs.length < lim) : evE C (.app2 i k e) env = .ok (.non, env.set i (some (.lst (ds.set n (.lst (xs ++ [d])))))) := by
  simp only [evE, h0, h1, R.bind_ok, inL, h2, h3, h4, app2D, atL, hl, if_true]
theorem F_idx2 {C : Calls} {env : Env} {i : Nat} {k j : E} {ds xs : List D} {n : Nat} {z : Int} {y d : D} (h0 : env[i]? = some (some (.lst ds))) (h1 : evE C k env = .ok (.int z, env)) (h2 : ixN ds.length z = some n) (h3 : ds[n]? = some (.lst xs)) (h4 : evE C j env = .ok (y, env)) (h5 : idxD (.lst xs) y = some d) : evE C (.idx2 i k j) env = .ok (d, env) := by
  simp only [evE, h0, h1, R.bind_ok, inL, h2, h3, h4, idx2D, atL, h5, ofO]
theorem y_set2 {C : Calls} {env : Env} {ss : List S} {i : Nat} {k j e : E} {ds xs : List D} {n m : Nat} {z w : Int} {v : D} (h : evE C e env = .ok (v, env)) (h0 : env[i]? = some (some (.lst ds))) (h1 : evE C k env = .ok (.int z, env)) (h2 : ixN ds.length z = some n) (h3 : ds[n]? = some (.lst xs)) (h4 : evE C j env = .ok (.int w, env)) (h5 : ixN xs.length w = some m) : evSs C (.set2 i k j e :: ss) env = evSs C ss (env.set i (some (.lst (ds.set n (.lst (xs.set m v)))))) := by
  simp only [evSs, evS, h, h0, h1, R.bind_ok, inL, h2, h3, h4, set2D, atL, h5]
theorem F_rev {C : Calls} {env : Env} {s : Shp} {a : E} {xs : List D} (h : evE C a env = .ok (.lst xs, env)) : evE C (.rev s a) env = .ok (.lst xs.reverse, env) := by
  simp only [evE, h, R.bind_ok]
theorem F_slc2 {C : Calls} {env : Env} {s : Shp} {a b c : E} {xs : List D} {i j : Int} (h : evE C a env = .ok (.lst xs, env)) (h1 : evE C b env = .ok (.int i, env)) (h2 : evE C c env = .ok (.int j, env)) : evE C (.slc s .both a [b, c]) env = .ok (.lst (cutL xs (some i) (some j)), env) := by
  simp only [evE, h, R.bind_ok, evIs, h1, h2, slcD, ofO_some]
end VC
end

section
set_option Elab.async false
set_option linter.all false
set_option maxRecDepth 100000
set_option maxHeartbeats 400000
namespace VC
open PySem
def d__law_numbers : Def := ⟨3, 7, [.Q, .A, .A], [], (.O .A), [
  .asg 3 .A (.bin .mul (.int 1000003) (.bin .addA (.var 1) (.int 1))),
  .ite (.cmp .lt (.var 1) (.bi .len [(.var 0)])) [.asg 3 .A (.bi .int1 [(.idx (.var 0) (.var 1))])] [],
  .ite (.cmp .lt (.var 3) (.int 0)) [.asg 3 .A (.bin .sub (.int 1) (.bin .mul (.int 2) (.var 3)))] [],
  .asg 4 (.O .A) (.lst .A []),
  .for_ [.Q, .A, .A, .A, (.O .A), .X, .X] (.nm 5) .rng1 [(.var 2)] [.ite (.cmp .ge (.var 3) (.bin .pow (.int 10) (.int 18))) [.ex (.app 4 (.bin .mod (.var 3) (.int 1009))), .asg 3 .A (.bin .fdiv (.var 3) (.int 1009))] [.asg 6 .A (.bin .mod (.bin .addA (.bin .addA (.bin .mul (.var 3) (.int 48271)) (.bin .mul (.bin .addA (.var 5) (.int 1)) (.int 69621))) (.bin .mul (.var 1) (.int 4001))) (.int 2147483647)), .asg 6 .A (.bin .mod (.bin .addA (.bin .mul (.var 6) (.var 6)) (.bin .mul (.int 16807) (.bin .addA (.var 5) (.int 3)))) (.int 2147483629)), .ex (.app 4 (.bin .mod (.bin .fdiv (.var 6) (.int 7)) (.int 1009)))]],
  .retMv 4]⟩
structure NS where
  cell : Int
  nums : List Int
  k : Option D
  mixed : Option D
def nmix (cell k at_ : Int) : Int := (cell * 48271 + (k + 1) * 69621 + at_ * 4001).fmod 2147483647
def nmix2 (m k : Int) : Int := (m * m + 16807 * (k + 3)).fmod 2147483629
def nstep (at_ : Int) (s : NS) (k : Nat) : NS :=
  if 1000000000000000000 ≤ s.cell then ⟨s.cell.fdiv 1009, s.nums ++ [s.cell.fmod 1009], some (.int k), s.mixed⟩
  else ⟨s.cell, s.nums ++ [((nmix2 (nmix s.cell k at_) k).fdiv 7).fmod 1009], some (.int k), some (.int (nmix2 (nmix s.cell k at_) k))⟩
def nabs (sc : D) (at_ count : Int) (s : NS) : Env := [some sc, some (.int at_), some (.int count), some (.int s.cell), some (.lst (s.nums.map .int)), s.k, s.mixed]
def ncell0 (ns : List Int) (at_ : Nat) : Int := match ns[at_]? with | some c => c | none => 1000003 * ((at_ : Int) + 1)
def ncell (ns : List Int) (at_ : Nat) : Int := if ncell0 ns at_ < 0 then 1 - 2 * ncell0 ns at_ else ncell0 ns at_
def numM (ns : List Int) (at_ count : Nat) : List Int := ((List.range count).foldl (nstep at_) ⟨ncell ns at_, [], none, none⟩).nums

theorem n_cell (C : Calls) (ns : List Int) (at_ count : Nat) : evSs C (d__law_numbers.body.take 3) [some (.lst (ns.map .int)), some (.int at_), some (.int count), none, none, none, none] = .ok (.nx, [some (.lst (ns.map .int)), some (.int at_), some (.int count), some (.int (ncell ns at_)), none, none, none]) := by
  simp -implicitDefEqProofs (disch := omega) only [d__law_numbers, List.take, x_asg, x_nil, x_ite, evE, evEs, getV, R.bind_ok, List.getElem?_cons_succ, List.getElem?_cons_zero, o_addI, o_mul, ofO_some, List.set_cons_succ, List.set_cons_zero, c_lt, Option.map_some, t_bl, b_len, List.length_map, decide_eq_true_eq, List.nil_append, List.cons_append]
  by_cases h : (at_ : Int) < ns.length
  · have hl : at_ < ns.length := by omega
    have hd : (ns.map D.int)[at_]? = some (.int ns[at_]) := by simp [hl]
    have hc0 : ncell0 ns at_ = ns[at_] := by simp [ncell0, hl]
    simp -implicitDefEqProofs (disch := omega) only [h, if_true, x_asg, x_nil, x_ite, evE, evEs, getV, R.bind_ok, List.getElem?_cons_succ, List.getElem?_cons_zero, i_nat hd, b_int, o_addI, o_sub, o_mul, ofO_some, List.set_cons_succ, List.set_cons_zero, c_lt, Option.map_some, t_bl, decide_eq_true_eq, List.nil_append, List.cons_append, ncell, hc0]
    split <;> rfl
  · have hc0 : ncell0 ns at_ = 1000003 * ((at_ : Int) + 1) := by
      have : ns[at_]? = none := List.getElem?_eq_none (by omega)
      simp [ncell0, this]
    simp -implicitDefEqProofs (disch := omega) only [h, if_false, x_asg, x_nil, x_ite, evE, evEs, getV, R.bind_ok, List.getElem?_cons_succ, List.getElem?_cons_zero, b_int, o_addI, o_sub, o_mul, ofO_some, List.set_cons_succ, List.set_cons_zero, c_lt, Option.map_some, t_bl, decide_eq_true_eq, List.nil_append, List.cons_append, ncell, hc0]
    split <;> rfl
def nbody : List S := [.ite (.cmp .ge (.var 3) (.bin .pow (.int 10) (.int 18))) [.ex (.app 4 (.bin .mod (.var 3) (.int 1009))), .asg 3 .A (.bin .fdiv (.var 3) (.int 1009))] [.asg 6 .A (.bin .mod (.bin .addA (.bin .addA (.bin .mul (.var 3) (.int 48271)) (.bin .mul (.bin .addA (.var 5) (.int 1)) (.int 69621))) (.bin .mul (.var 1) (.int 4001))) (.int 2147483647)), .asg 6 .A (.bin .mod (.bin .addA (.bin .mul (.var 6) (.var 6)) (.bin .mul (.int 16807) (.bin .addA (.var 5) (.int 3)))) (.int 2147483629)), .ex (.app 4 (.bin .mod (.bin .fdiv (.var 6) (.int 7)) (.int 1009)))]]


theorem e18 : (10 : Int) ^ (18 : Int).toNat = 1000000000000000000 := by decide
theorem n_turn (C : Calls) (sc : D) (at_ count : Nat) (s : NS) (a : Nat) (hl : s.nums.length < lim) : ((bindTg (.nm 5) (.int a) (nabs sc at_ count s)).bind fun e1 => evSs C nbody e1) = .ok (.nx, nabs sc at_ count (nstep at_ s a)) := by
  have hl : (s.nums.map D.int).length < lim := by rw [List.length_map]; exact hl
  simp -implicitDefEqProofs (disch := omega) only [nbody, bindTg, nabs, R.bind_ok, List.set_cons_succ, List.set_cons_zero, x_ite, evE, evEs, getV, List.getElem?_cons_succ, List.getElem?_cons_zero, o_pow, ofO_some, c_ge, Option.map_some, t_bl, decide_eq_true_eq, List.nil_append, List.cons_append, e18]
  by_cases hcl : (1000000000000000000 : Int) ≤ s.cell
  · simp -implicitDefEqProofs (disch := omega) only [hcl, if_true, x_ex, x_asg, x_nil, evE, evEs, getV, R.bind_ok, List.getElem?_cons_succ, List.getElem?_cons_zero, o_mod, o_fdiv, ofO_some, List.set_cons_succ, List.set_cons_zero, appD, hl, nstep, List.map_append, List.map_cons, List.map_nil]
  · have b1 : -18446744073709551616 < nmix s.cell a at_ ∧ nmix s.cell a at_ < 18446744073709551616 := by
      unfold nmix
      have h1 := Int.fmod_nonneg_of_pos (s.cell * 48271 + ((a : Int) + 1) * 69621 + at_ * 4001) (b := 2147483647) (by decide)
      have h2 := Int.fmod_lt_of_pos (s.cell * 48271 + ((a : Int) + 1) * 69621 + at_ * 4001) (b := 2147483647) (by decide)
      omega
    have e1 : (s.cell * 48271 + ((a : Int) + 1) * 69621 + (at_ : Int) * 4001).fmod 2147483647 = nmix s.cell a at_ := rfl
    have e2 : ∀ m k : Int, (m * m + 16807 * (k + 3)).fmod 2147483629 = nmix2 m k := fun _ _ => rfl
    simp -implicitDefEqProofs (disch := first | omega | exact Or.inl b1) only [hcl, if_false, x_ex, x_asg, x_nil, evE, evEs, getV, R.bind_ok, List.getElem?_cons_succ, List.getElem?_cons_zero, o_addI, o_mul, o_mod, o_fdiv, ofO_some, List.set_cons_succ, List.set_cons_zero, e1, e2, appD, hl, if_true, nstep, List.map_append, List.map_cons, List.map_nil]

theorem e_numbers {T : List Def} {f n : Nat} (hT : T[f]? = some d__law_numbers) (ns : List Int) (at_ count : Nat) (hc : count ≤ 1000000) : callD T (n + 1) f [.lst (ns.map .int), .int at_, .int count] = .ok (.lst ((numM ns at_ count).map .int)) [] := by
  have loop := fun C => forD_fold (nabs (.lst (ns.map .int)) at_ count) (nstep at_) (fun k : Nat => .int k) (fun d e => (bindTg (.nm 5) d e).bind fun e1 => evSs C nbody e1) (fun s r => s.nums.length + r.length = count) (List.range count) ⟨ncell ns at_, [], none, none⟩ (fun s a r hi => by
    simp only [List.length_cons] at hi
    refine ⟨n_turn C _ at_ count s a (by unfold lim; omega), ?_⟩
    unfold nstep
    split <;> simp <;> omega) (by simp)
  have e0 : callD T (n + 1) f [.lst (ns.map .int), .int at_, .int count] = endC [] (evSs (callD T n) d__law_numbers.body [some (.lst (ns.map .int)), some (.int at_), some (.int count), none, none, none, none]) := by
    simp only [callD, hT]
    rfl
  rw [e0]
  generalize callD T n = C
  rw [evSs_take 3 (n_cell C ns at_ count)]
  have e1 : d__law_numbers.body.drop 3 = [.asg 4 (.O .A) (.lst .A []), .for_ [.Q, .A, .A, .A, (.O .A), .X, .X] (.nm 5) .rng1 [(.var 2)] nbody, .retMv 4] := rfl
  rw [e1]
  simp -implicitDefEqProofs only [x_asg, evE, evEs, R.bind_ok, List.set_cons_succ, List.set_cons_zero]
  rw [x_for (ds := [.int count]) (env1 := nabs (.lst (ns.map .int)) at_ count ⟨ncell ns at_, [], none, none⟩) (by simp -implicitDefEqProofs only [nabs, evEs, evE, getV, R.bind_ok, List.getElem?_cons_succ, List.getElem?_cons_zero, List.map_nil]) (it_rng count (by omega)), (loop C).1]
  simp -implicitDefEqProofs only [R.bind_ok, x_retMv, nabs, getV, List.getElem?_cons_succ, List.getElem?_cons_zero, endC, outsOf, numM]
theorem nfold (at_ : Int) : ∀ (l : List Nat) (s : NS), (∀ x ∈ s.nums, 0 ≤ x ∧ x < 1009) → (l.foldl (nstep at_) s).nums.length = s.nums.length + l.length ∧ ∀ x ∈ (l.foldl (nstep at_) s).nums, 0 ≤ x ∧ x < 1009
  | [], s, h => ⟨rfl, h⟩
  | k :: l, s, h => by
    have rng : ∀ i : Int, 0 ≤ i.fmod 1009 ∧ i.fmod 1009 < 1009 := fun i => ⟨Int.fmod_nonneg_of_pos i (by decide), Int.fmod_lt_of_pos i (by decide)⟩
    have st : (nstep at_ s k).nums.length = s.nums.length + 1 ∧ ∀ x ∈ (nstep at_ s k).nums, 0 ≤ x ∧ x < 1009 := by
      unfold nstep
      split
      · refine ⟨by simp, fun x hx => ?_⟩
        rcases List.mem_append.mp hx with z | z
        · exact h x z
        · have : x = s.cell.fmod 1009 := by simpa using z
          rw [this]; exact rng _
      · refine ⟨by simp, fun x hx => ?_⟩
        rcases List.mem_append.mp hx with z | z
        · exact h x z
        · have : x = ((nmix2 (nmix s.cell k at_) k).fdiv 7).fmod 1009 := by simpa using z
          rw [this]; exact rng _
    obtain ⟨a, b⟩ := nfold at_ l (nstep at_ s k) st.2
    exact ⟨by rw [List.foldl_cons, a, st.1, List.length_cons]; omega, b⟩
theorem numM_len (ns : List Int) (at_ count : Nat) : (numM ns at_ count).length = count := by
  have := (nfold at_ (List.range count) ⟨ncell ns at_, [], none, none⟩ (by simp)).1
  unfold numM
  rw [this]; simp
theorem numM_rng (ns : List Int) (at_ count : Nat) : ∀ x ∈ numM ns at_ count, 0 ≤ x ∧ x < 1009 := (nfold at_ (List.range count) ⟨ncell ns at_, [], none, none⟩ (by simp)).2
end VC
end

section
set_option Elab.async false
set_option linter.all false
set_option maxRecDepth 100000
set_option maxHeartbeats 0
namespace Lk63
open PySem PySem.Spec VC
open L2 (defScope defBody defArgs)
abbrev prog := PySem.Challenge.pw_visitscounted_k63_stretches_and_returns
def top (i : Nat) : Stmt := prog.main.body.getD i (.Pass ⟨0, 0, 0, 0⟩)
def d_is_whole : Def := ⟨1, 1, [.F], [], .A, [
  .ret (.and [(.bi (.isI .int) [(.var 0)]), (.not (.bi (.isI .bool) [(.var 0)]))])]⟩
def d_is_count : Def := ⟨1, 1, [.F], [], .A, [
  .ret (.and [(.call 0 [] [(.var 0)]), (.cmp .ge (.var 0) (.int 0))])]⟩
def d_check_list : Def := ⟨3, 5, [.A, .F, .A], [], .A, [
  .ite (.cmp .ne (.bi .len [(.var 1)]) (.bin .addA (.bin .sub (.var 2) (.var 0)) (.int 1))) [.bad] [],
  .for_ [.A, .F, .A, .X, .X] (.tp [3, 4]) .enumS [(.var 1), (.var 0)] [.ite (.not (.call 1 [] [(.var 4)])) [.bad] []]]⟩
def d_check_stretches : Def := ⟨1, 4, [.F], [], .A, [
  .asg 1 .A (.bi .len [(.var 0)]),
  .ite (.not (.chn .le .le (.int 1) (.var 1) (.int 31))) [.bad] [],
  .for_ [.F, .A, .X, .X] (.tp [2, 3]) .enumS [(.var 0), (.int 1)] [.ex (.call 2 [] [(.var 2), (.var 3), (.var 1)])],
  .ret (.var 1)]⟩
def d_number_of : Def := ⟨3, 3, [.F, .F, .F], [], .F, [
  .ret (.idx (.idx (.var 0) (.bin .sub (.var 1) (.int 1))) (.bin .sub (.var 2) (.var 1)))]⟩
def d_comes_within : Def := ⟨3, 4, [.F, .A, .A], [], .A, [
  .ret (.bi .any1 [(.lc [3] .A (.chn .le .le (.var 1) (.var 3) (.var 2)) (.nm 3) .e [(.var 0)] [])])]⟩
def d_visitors_within : Def := ⟨3, 5, [.F, .A, .A], [], .A, [
  .ret (.bi .sum [(.lc [3, 4] .F (.var 4) (.tp [3, 4]) .e [(.var 0)] [(.call 5 [] [(.var 3), (.var 1), (.var 2)])])])]⟩
def d_stretches_of : Def := ⟨2, 5, [.F, .A], [], (.O (.O .A)), [
  .asg 2 (.O (.O .A)) (.lst (.O .A) []),
  .for_ [.F, .A, (.O (.O .A)), .X, .X] (.nm 3) .rng2 [(.int 1), (.bin .addA (.var 1) (.int 1))] [.ex (.app 2 (.lc [4] .A (.call 6 [] [(.var 0), (.var 3), (.var 4)]) (.nm 4) .rng2 [(.var 3), (.bin .addA (.var 1) (.int 1))] []))],
  .retMv 2]⟩
def d_all_visitors : Def := ⟨1, 1, [.F], [], .F, [
  .ret (.call 4 [] [(.var 0), (.int 1), (.bi .len [(.var 0)])])]⟩
def d_missed : Def := ⟨3, 3, [.F, .A, .A], [], .F, [
  .ite (.or [(.cmp .eq (.var 1) (.int 0)), (.cmp .gt (.var 2) (.bi .len [(.var 0)]))]) [.ret (.int 0)] [],
  .ite (.cmp .lt (.var 2) (.var 1)) [.ret (.call 8 [] [(.var 0)])] [],
  .ret (.bin .sub (.call 8 [] [(.var 0)]) (.call 4 [] [(.var 0), (.var 1), (.var 2)]))]⟩
def d_step_number : Def := ⟨3, 6, [.F, .A, .A], [], .A, [
  .asg 3 .F (.call 9 [] [(.var 0), (.bin .addA (.var 1) (.int 1)), (.bin .sub (.var 2) (.int 1))]),
  .asg 4 .F (.call 9 [] [(.var 0), (.var 1), (.bin .sub (.var 2) (.int 1))]),
  .asg 5 .F (.call 9 [] [(.var 0), (.bin .addA (.var 1) (.int 1)), (.var 2)]),
  .ret (.bin .addA (.bin .sub (.bin .sub (.var 3) (.var 4)) (.var 5)) (.call 9 [] [(.var 0), (.var 1), (.var 2)]))]⟩
def d_came_back : Def := ⟨2, 5, [.F, .A], [], (.O .A), [
  .asg 2 (.O .A) (.lst .A []),
  .for_ [.F, .A, (.O .A), .X, .X] (.nm 3) .rng2 [(.bin .addA (.var 1) (.int 1)), (.bin .addA (.bi .len [(.var 0)]) (.int 1))] [.asg 4 .A (.call 10 [] [(.var 0), (.var 1), (.var 3)]), .ite (.cmp .gt (.var 4) (.int 0)) [.ex (.app 2 (.tup [(.var 3), (.var 4)]))] []],
  .retMv 2]⟩
def d_last_visits : Def := ⟨1, 3, [.F], [], (.O .A), [
  .asg 1 .A (.bin .addA (.bi .len [(.var 0)]) (.int 1)),
  .ret (.lc [2] .A (.call 10 [] [(.var 0), (.var 2), (.var 1)]) (.nm 2) .rng2 [(.int 1), (.var 1)] [])]⟩
def d__law_numbers : Def := ⟨3, 7, [.Q, .A, .A], [], (.O .A), [
  .asg 3 .A (.bin .mul (.int 1000003) (.bin .addA (.var 1) (.int 1))),
  .ite (.cmp .lt (.var 1) (.bi .len [(.var 0)])) [.asg 3 .A (.bi .int1 [(.idx (.var 0) (.var 1))])] [],
  .ite (.cmp .lt (.var 3) (.int 0)) [.asg 3 .A (.bin .sub (.int 1) (.bin .mul (.int 2) (.var 3)))] [],
  .asg 4 (.O .A) (.lst .A []),
  .for_ [.Q, .A, .A, .A, (.O .A), .X, .X] (.nm 5) .rng1 [(.var 2)] [.ite (.cmp .ge (.var 3) (.bin .pow (.int 10) (.int 18))) [.ex (.app 4 (.bin .mod (.var 3) (.int 1009))), .asg 3 .A (.bin .fdiv (.var 3) (.int 1009))] [.asg 6 .A (.bin .mod (.bin .addA (.bin .addA (.bin .mul (.var 3) (.int 48271)) (.bin .mul (.bin .addA (.var 5) (.int 1)) (.int 69621))) (.bin .mul (.var 1) (.int 4001))) (.int 2147483647)), .asg 6 .A (.bin .mod (.bin .addA (.bin .mul (.var 6) (.var 6)) (.bin .mul (.int 16807) (.bin .addA (.var 5) (.int 3)))) (.int 2147483629)), .ex (.app 4 (.bin .mod (.bin .fdiv (.var 6) (.int 7)) (.int 1009)))]],
  .retMv 4]⟩
def d__law_is_integer : Def := ⟨1, 1, [.F], [], .A, [
  .ret (.and [(.bi (.isI .int) [(.var 0)]), (.not (.bi (.isI .bool) [(.var 0)]))])]⟩
def d__law_days : Def := ⟨2, 5, [.F, .A], [], .F, [
  .asg 2 .A (.bin .addA (.idx (.var 0) (.int 0)) (.bin .mul (.int 1009) (.bin .addA (.idx (.var 0) (.int 1)) (.bin .mul (.int 1009) (.bin .addA (.idx (.var 0) (.int 2)) (.bin .mul (.int 1009) (.idx (.var 0) (.int 3)))))))),
  .asg 3 (.O .A) (.lst .A []),
  .for_ [.F, .A, .A, (.O .A), .X] (.nm 4) .rng2 [(.int 1), (.bin .addA (.var 1) (.int 1))] [.ite (.cmp .eq (.bin .mod (.var 2) (.int 2)) (.int 1)) [.ex (.app 3 (.var 4))] [], .asg 2 .A (.bin .fdiv (.var 2) (.int 2))],
  .frz 3,
  .ite (.not (.var 3)) [.asg 3 (.O .A) (.lst .A [(.bin .addA (.int 1) (.bin .mod (.idx (.var 0) (.int 4)) (.var 1)))]), .frz 3] [],
  .ret (.bi .tup1 [(.var 3)])]⟩
def d__law_diaries : Def := ⟨4, 11, [.Q, .A, .A, .A], [], (.O .F), [
  .asg 4 (.O .F) (.lst .F []),
  .for_ [.Q, .A, .A, .A, (.O .F), .X, .X, .X, .X, .X, .X] (.nm 5) .rng1 [(.var 3)] [.asg 6 .F (.call 13 [] [(.var 0), (.bin .addA (.var 1) (.var 5)), (.int 8)]), .asg 7 .F (.call 15 [] [(.var 6), (.var 2)]), .ite (.cmp .eq (.bin .mod (.idx (.var 6) (.int 7)) (.int 3)) (.int 0)) [.asg 8 .A (.bin .addA (.int 1) (.bin .mod (.idx (.var 6) (.int 5)) (.var 2))), .asg 7 .A (.bi .tup1 [(.lc [10] .A (.var 10) (.nm 10) .rng2 [(.var 8), (.bin .addA (.var 2) (.int 1))] [(.cmp .lt (.var 10) (.bin .addA (.bin .addA (.var 8) (.int 1)) (.bin .mod (.idx (.var 6) (.int 6)) (.int 4))))])])] [], .ite (.cmp .nin (.var 7) (.lc [9] .F (.idx (.var 9) (.int 0)) (.nm 9) .e [(.var 4)] [])) [.ex (.app 4 (.tup [(.var 7), (.idx (.lst .A [(.int 1), (.bin .addA (.int 1) (.bin .mod (.idx (.var 6) (.int 6)) (.int 4))), (.bin .addA (.idx (.var 6) (.int 5)) (.int 1)), (.bin .addA (.bin .pow (.int 10) (.int 12)) (.idx (.var 6) (.int 6)))]) (.bin .mod (.idx (.var 6) (.int 4)) (.int 4)))]))] []],
  .retMv 4]⟩
def d__law_stretches : Def := ⟨2, 9, [.F, .A], [], (.O .F), [
  .asg 2 (.O .F) (.lst .F []),
  .for_ [.F, .A, (.O .F), .X, .X, .X, .X, .X, .X] (.nm 3) .rng2 [(.int 1), (.bin .addA (.var 1) (.int 1))] [.asg 4 (.O .A) (.lst .A []), .for_ [.F, .A, (.O .F), .A, (.O .A), .X, .X, .X, .X] (.nm 5) .rng2 [(.var 3), (.bin .addA (.var 1) (.int 1))] [.ex (.app 4 (.bi .sum [(.lc [6, 7] .F (.var 7) (.tp [6, 7]) .e [(.var 0)] [(.lc [8] .F (.var 8) (.nm 8) .e [(.var 6)] [(.chn .le .le (.var 3) (.var 8) (.var 5))])])]))], .frz 4, .ex (.app 2 (.var 4))],
  .retMv 2]⟩
def d__law_counted : Def := ⟨2, 7, [.F, .A], [], (.T .A), [
  .asg 2 (.T .A) (.dnew true .A),
  .for_ [.F, .A, (.T .A), .X, .X, .X, .X] (.tp [3, 4]) .e [(.var 0)] [.asg 5 .F (.bin (.addL .F) (.bin (.addL .F) (.lst .A [(.int 0)]) (.bi (.list1 .F) [(.var 3)])) (.lst .A [(.bin .addA (.var 1) (.int 1))])), .for_ [.F, .A, (.T .A), .F, .F, .F, .X] (.nm 6) .rng1 [(.bin .sub (.bi .len [(.var 5)]) (.int 1))] [.set 2 (.tup [(.idx (.var 5) (.var 6)), (.idx (.var 5) (.bin .addA (.var 6) (.int 1)))]) (.bin .addA (.dget2 .A (.var 2) (.tup [(.idx (.var 5) (.var 6)), (.idx (.var 5) (.bin .addA (.var 6) (.int 1)))]) (.int 0)) (.var 4))]],
  .retMv 2]⟩
def d__law_unseen : Def := ⟨3, 4, [.F, .A, .A], [], .F, [
  .asg 3 .A (.bi .len [(.var 0)]),
  .ite (.or [(.cmp .lt (.var 1) (.int 1)), (.cmp .gt (.var 2) (.var 3))]) [.ret (.int 0)] [],
  .ite (.cmp .lt (.var 2) (.var 1)) [.ret (.idx (.idx (.var 0) (.int 0)) (.bin .sub (.var 3) (.int 1)))] [],
  .ret (.bin .sub (.idx (.idx (.var 0) (.int 0)) (.bin .sub (.var 3) (.int 1))) (.idx (.idx (.var 0) (.bin .sub (.var 1) (.int 1))) (.bin .sub (.var 2) (.var 1))))]⟩
def d__law_step : Def := ⟨3, 4, [.F, .A, .A], [], .A, [
  .asg 3 .A (.bin .sub (.call 19 [] [(.var 0), (.bin .addA (.var 1) (.int 1)), (.bin .sub (.var 2) (.int 1))]) (.call 19 [] [(.var 0), (.var 1), (.bin .sub (.var 2) (.int 1))])),
  .ret (.bin .sub (.var 3) (.bin .sub (.call 19 [] [(.var 0), (.bin .addA (.var 1) (.int 1)), (.var 2)]) (.call 19 [] [(.var 0), (.var 1), (.var 2)])))]⟩
def d__law_are_numbers : Def := ⟨2, 4, [.F, .F], [], .A, [
  .ite (.or [(.not (.bi (.isI .list) [(.var 0)])), (.cmp .ne (.var 0) (.var 1))]) [.ret (.bl false)] [],
  .for_ [.F, .F, .X, .X] (.nm 2) .e [(.var 0)] [.ite (.or [(.not (.bi (.isI .list) [(.var 2)])), (.not (.bi .all1 [(.lc [3] .A (.call 14 [] [(.var 3)]) (.nm 3) .e [(.var 2)] [])]))]) [.ret (.bl false)] []],
  .ret (.bl true)]⟩
def d__law_meets : Def := ⟨3, 10, [.F, .A, .F], [], .A, [
  .asg 3 .F (.bi (.sorted .A) [(.lc [9] .A (.bin .addA (.int 1) (.bin .mod (.idx (.var 2) (.var 9)) (.var 1))) (.nm 9) .rng1 [(.int 4)] [])]),
  .unl [5, 6, 7, 8] (.var 3),
  .asg 4 .A (.bin .addA (.call 4 [] [(.var 0), (.var 5), (.var 7)]) (.call 4 [] [(.var 0), (.var 6), (.var 8)])),
  .ite (.cmp .lt (.var 4) (.bin .addA (.call 4 [] [(.var 0), (.var 5), (.var 8)]) (.call 4 [] [(.var 0), (.var 6), (.var 7)]))) [.ret (.bl false)] [],
  .ret (.chn .le .le (.call 4 [] [(.var 0), (.var 6), (.var 7)]) (.call 4 [] [(.var 0), (.var 5), (.var 7)]) (.call 4 [] [(.var 0), (.var 5), (.var 8)]))]⟩
def d__law_listed : Def := ⟨2, 4, [.F, .F], [], .A, [
  .ite (.or [(.not (.bi (.isI .list) [(.var 0)])), (.cmp .ne (.var 0) (.var 1))]) [.ret (.bl false)] [],
  .for_ [.F, .F, .X, .X] (.nm 2) .e [(.var 0)] [.ite (.or [(.not (.bi (.isI .tuple) [(.var 2)])), (.not (.bi .all1 [(.lc [3] .A (.call 14 [] [(.var 3)]) (.nm 3) .e [(.var 2)] [])]))]) [.ret (.bl false)] []],
  .ret (.bl true)]⟩
def d__law_returns_hold : Def := ⟨2, 12, [.F, .F], [], .A, [
  .asg 2 .A (.bi .len [(.var 0)]),
  .asg 3 .F (.lc [8] .F (.bi (.list1 .F) [(.var 8)]) (.nm 8) .e [(.var 0)] []),
  .for_ [.F, .F, .A, .F, .X, .X, .X, .X, .X, .X, .X, .X] (.nm 4) .rng2 [(.int 1), (.bin .addA (.var 2) (.int 1))] [.asg 6 .F (.lc [9] .F (.tup [(.var 9), (.dget2 .F (.var 1) (.tup [(.var 4), (.var 9)]) (.int 0))]) (.nm 9) .rng2 [(.bin .addA (.var 4) (.int 1)), (.bin .addA (.var 2) (.int 1))] []), .asg 7 (.O .A) (.call 11 [] [(.var 3), (.var 4)]), .ite (.or [(.not (.call 23 [] [(.var 7), (.lc [11] .F (.var 11) (.nm 11) .e [(.var 6)] [(.cmp .gt (.idx (.var 11) (.int 1)) (.int 0))])])), (.cmp .ne (.var 3) (.var 0))]) [.ret (.bl false)] [], .ex (.app 7 (.tup [(.int 0), (.int 0)]))],
  .asg 5 .F (.call 12 [] [(.var 3)]),
  .ite (.or [(.not (.bi (.isI .list) [(.var 5)])), (.not (.bi .all1 [(.lc [10] .A (.call 14 [] [(.var 10)]) (.nm 10) .e [(.var 5)] [])])), (.cmp .ne (.var 3) (.var 0))]) [.ret (.bl false)] [],
  .ret (.cmp .eq (.var 5) (.lc [4] .F (.dget2 .F (.var 1) (.tup [(.var 4), (.bin .addA (.var 2) (.int 1))]) (.int 0)) (.nm 4) .rng2 [(.int 1), (.bin .addA (.var 2) (.int 1))] []))]⟩
def d_law : Def := ⟨1, 18, [.Q], [], .A, [
  .asg 1 .F (.call 13 [] [(.var 0), (.int 0), (.int 12)]),
  .asg 2 .A (.bin .addA (.int 1) (.bin .mod (.idx (.var 1) (.int 0)) (.int 8))),
  .ite (.cmp .eq (.bin .mod (.idx (.var 1) (.int 1)) (.int 16)) (.int 0)) [.asg 2 .A (.bin .addA (.int 1) (.bin .mod (.idx (.var 1) (.int 0)) (.int 31)))] [],
  .asg 3 .F (.call 16 [] [(.var 0), (.int 1), (.var 2), (.bin .mod (.idx (.var 1) (.int 2)) (.int 7))]),
  .asg 4 .F (.call 17 [] [(.var 3), (.var 2)]),
  .asg 5 .F (.bi (.list1 .F) [(.var 3)]),
  .for_ [.Q, .F, .A, .F, .F, .F, .X, .X, .X, .X, .X, .X, .X, .X, .X, .X, .X, .X] (.nm 6) .rng1 [(.int 2)] [.asg 12 (.O (.O .A)) (.call 7 [] [(.var 5), (.var 2)]), .ite (.or [(.cmp .ne (.var 5) (.var 3)), (.not (.call 21 [] [(.var 12), (.var 4)]))]) [.ret (.bl false)] [], .ex (.app2 12 (.int 0) (.int 0))],
  .ite (.or [(.cmp .ne (.call 7 [] [(.rev .F (.var 3)), (.var 2)]) (.var 4)), (.cmp .ne (.call 3 [] [(.lc [15] .F (.bi (.list1 .F) [(.var 15)]) (.nm 15) .e [(.var 4)] [])]) (.var 2))]) [.ret (.bl false)] [],
  .for_ [.Q, .F, .A, .F, .F, .F, .X, .X, .X, .X, .X, .X, .X, .X, .X, .X, .X, .X] (.nm 6) .rng1 [(.int 3)] [.ite (.not (.call 22 [] [(.var 4), (.var 2), (.slc .F .both (.var 1) [(.bin .addA (.int 3) (.var 6)), (.bin .addA (.int 7) (.var 6))])])) [.ret (.bl false)] []],
  .ite (.not (.call 24 [] [(.var 4), (.call 18 [] [(.var 3), (.var 2)])])) [.ret (.bl false)] [],
  .ite (.cmp .ne (.bi .sum [(.call 12 [] [(.var 4)])]) (.bi .sum [(.lc [16, 17] .F (.var 17) (.tp [16, 17]) .e [(.var 3)] [])])) [.ret (.bl false)] [],
  .asg 7 .A (.bin .addA (.int 1) (.bin .mod (.idx (.var 1) (.int 9)) (.int 6))),
  .asg 8 (.O .F) (.lst .F []),
  .asg 9 (.T .A) (.dnew true .A),
  .for_ [.Q, .F, .A, .F, .F, .F, .X, .A, (.O .F), (.T .A), .X, .X, .X, .X, .X, .X, .X, .X] (.nm 10) .rng1 [(.var 7)] [.ex (.app 8 (.lc [14] .A (.bin .mod (.var 14) (.int 7)) (.nm 14) .e [(.call 13 [] [(.var 0), (.bin .addA (.int 10) (.var 10)), (.bin .sub (.var 7) (.var 10))])] []))],
  .frz 8,
  .for_ [.Q, .F, .A, .F, .F, .F, .X, .A, .F, (.T .A), .X, .X, .X, .X, .X, .X, .X, .X] (.nm 11) .rng2 [(.int 1), (.bin .addA (.var 7) (.int 1))] [.for_ [.Q, .F, .A, .F, .F, .F, .X, .A, .F, (.T .A), .X, .A, .X, .X, .X, .X, .X, .X] (.nm 13) .rng2 [(.bin .addA (.var 11) (.int 1)), (.bin .addA (.var 7) (.int 2))] [.set 9 (.tup [(.var 11), (.var 13)]) (.call 20 [] [(.var 8), (.var 11), (.var 13)])]],
  .frz 9,
  .ret (.call 24 [] [(.var 8), (.var 9)])]⟩
def T : List Def := [d_is_whole, d_is_count, d_check_list, d_check_stretches, d_number_of, d_comes_within, d_visitors_within, d_stretches_of, d_all_visitors, d_missed, d_step_number, d_came_back, d_last_visits, d__law_numbers, d__law_is_integer, d__law_days, d__law_diaries, d__law_stretches, d__law_counted, d__law_unseen, d__law_step, d__law_are_numbers, d__law_meets, d__law_listed, d__law_returns_hold, d_law]
def ds : List DI := [⟨"is_whole", ["value"], ["value"], top 4⟩,
  ⟨"is_count", ["value"], ["value"], top 7⟩,
  ⟨"check_list", ["first", "numbers", "days", "last", "number"], ["first", "numbers", "days"], top 8⟩,
  ⟨"check_stretches", ["stretches", "days", "first", "numbers"], ["stretches"], top 9⟩,
  ⟨"number_of", ["stretches", "first", "last"], ["stretches", "first", "last"], top 10⟩,
  ⟨"comes_within", ["days", "first", "last", "day"], ["days", "first", "last"], top 11⟩,
  ⟨"visitors_within", ["diaries", "first", "last", "days", "count"], ["diaries", "first", "last"], top 12⟩,
  ⟨"stretches_of", ["diaries", "days", "found", "first", "last"], ["diaries", "days"], top 13⟩,
  ⟨"all_visitors", ["stretches"], ["stretches"], top 15⟩,
  ⟨"missed", ["stretches", "first", "last"], ["stretches", "first", "last"], top 16⟩,
  ⟨"step_number", ["stretches", "a", "b", "between", "with_a", "with_b"], ["stretches", "a", "b"], top 17⟩,
  ⟨"came_back", ["stretches", "day", "found", "other", "visitors"], ["stretches", "day"], top 19⟩,
  ⟨"last_visits", ["stretches", "end", "day"], ["stretches"], top 20⟩,
  ⟨"_law_numbers", ["script", "at", "count", "cell", "numbers", "k", "mixed"], ["script", "at", "count"], top 22⟩,
  ⟨"_law_is_integer", ["value"], ["value"], top 23⟩,
  ⟨"_law_days", ["numbers", "days", "number", "found", "day"], ["numbers", "days"], top 24⟩,
  ⟨"_law_diaries", ["script", "at", "days", "many", "found", "k", "numbers", "came", "first", "entry", "day"], ["script", "at", "days", "many"], top 25⟩,
  ⟨"_law_stretches", ["diaries", "days", "table", "first", "row", "last", "came", "count", "day"], ["diaries", "days"], top 26⟩,
  ⟨"_law_counted", ["diaries", "days", "steps", "came", "count", "path", "k"], ["diaries", "days"], top 27⟩,
  ⟨"_law_unseen", ["stretches", "i", "j", "days"], ["stretches", "i", "j"], top 28⟩,
  ⟨"_law_step", ["stretches", "a", "b", "gone"], ["stretches", "a", "b"], top 29⟩,
  ⟨"_law_are_numbers", ["told", "due", "row", "number"], ["told", "due"], top 30⟩,
  ⟨"_law_meets", ["told", "days", "numbers", "ends", "both", "a", "b", "c", "d", "k"], ["told", "days", "numbers"], top 31⟩,
  ⟨"_law_listed", ["told", "due", "entry", "part"], ["told", "due"], top 32⟩,
  ⟨"_law_returns_hold", ["table", "counted", "days", "given", "day", "last", "due", "told", "row", "after", "number", "entry"], ["table", "counted"], top 33⟩,
  ⟨"law", ["script", "sizes", "days", "diaries", "due", "given", "turn", "width", "strange", "steps", "k", "day", "told", "after", "number", "row", "came", "count"], ["script"], top 34⟩]
def cs : List (Str × Key) := [("MOST_DAYS", .inl 31)]
def free : List Str := ["all", "any", "bool", "enumerate", "int", "isinstance", "len", "list", "range", "sorted", "sum", "tuple"]
theorem bnd : BindAll ds := ⟨fun _ _ _ _ _ _ us hl => match us, hl with | [_], _ => rfl, fun _ _ _ _ _ _ us hl => match us, hl with | [_], _ => rfl, fun _ _ _ _ _ _ us hl => match us, hl with | [_, _, _], _ => rfl, fun _ _ _ _ _ _ us hl => match us, hl with | [_], _ => rfl, fun _ _ _ _ _ _ us hl => match us, hl with | [_, _, _], _ => rfl, fun _ _ _ _ _ _ us hl => match us, hl with | [_, _, _], _ => rfl, fun _ _ _ _ _ _ us hl => match us, hl with | [_, _, _], _ => rfl, fun _ _ _ _ _ _ us hl => match us, hl with | [_, _], _ => rfl, fun _ _ _ _ _ _ us hl => match us, hl with | [_], _ => rfl, fun _ _ _ _ _ _ us hl => match us, hl with | [_, _, _], _ => rfl, fun _ _ _ _ _ _ us hl => match us, hl with | [_, _, _], _ => rfl, fun _ _ _ _ _ _ us hl => match us, hl with | [_, _], _ => rfl, fun _ _ _ _ _ _ us hl => match us, hl with | [_], _ => rfl, fun _ _ _ _ _ _ us hl => match us, hl with | [_, _, _], _ => rfl, fun _ _ _ _ _ _ us hl => match us, hl with | [_], _ => rfl, fun _ _ _ _ _ _ us hl => match us, hl with | [_, _], _ => rfl, fun _ _ _ _ _ _ us hl => match us, hl with | [_, _, _, _], _ => rfl, fun _ _ _ _ _ _ us hl => match us, hl with | [_, _], _ => rfl, fun _ _ _ _ _ _ us hl => match us, hl with | [_, _], _ => rfl, fun _ _ _ _ _ _ us hl => match us, hl with | [_, _, _], _ => rfl, fun _ _ _ _ _ _ us hl => match us, hl with | [_, _, _], _ => rfl, fun _ _ _ _ _ _ us hl => match us, hl with | [_, _], _ => rfl, fun _ _ _ _ _ _ us hl => match us, hl with | [_, _, _], _ => rfl, fun _ _ _ _ _ _ us hl => match us, hl with | [_, _], _ => rfl, fun _ _ _ _ _ _ us hl => match us, hl with | [_, _], _ => rfl, fun _ _ _ _ _ _ us hl => match us, hl with | [_], _ => rfl, trivial⟩
def one (f : Nat) : Bool := match T[f]?, ds[f]? with
  | some df, some d => defB (sgOf T) (gloOf ds) free cs df d.N d.ps (defScope d.st) (defBody d.st) && df.modes.all (fun s => decide (s ≠ .X))
  | _, _ => false
theorem tab : tabB T ds free cs = true := by decide +kernel
end Lk63
end

section
set_option Elab.async false
set_option linter.all false
set_option maxRecDepth 100000
set_option maxHeartbeats 400000
namespace Lk63
open PySem VC
/-! tables: tf i j for 1 ≤ i ≤ j ≤ n -/
def eR (tf : Int → Int → Int) (n : Nat) (i : Int) : D := .lst ((List.range ((n : Int) + 1 - i).toNat).map fun c : Nat => .int (tf i (i + c)))
def eT (tf : Int → Int → Int) (n : Nat) : D := .lst ((List.range n).map fun r : Nat => eR tf n ((r : Int) + 1))
theorem t_row (tf : Int → Int → Int) (n : Nat) (i : Int) (h1 : 1 ≤ i) (h2 : i ≤ n) : idxD (eT tf n) (.int (i - 1)) = some (eR tf n i) := by
  refine i_lst (by omega) ?_
  rw [List.getElem?_map, List.getElem?_range (by omega), Option.map_some]
  congr 2
  omega
theorem t_cell (tf : Int → Int → Int) (n : Nat) (i j : Int) (h1 : i ≤ j) (h2 : j ≤ n) : idxD (eR tf n i) (.int (j - i)) = some (.int (tf i j)) := by
  refine i_lst (by omega) ?_
  rw [List.getElem?_map, List.getElem?_range (by omega), Option.map_some]
  congr 3
  omega
theorem t_len (tf : Int → Int → Int) (n : Nat) : biD .len [eT tf n] = some (.int n) := by
  show some (D.int _) = _
  simp
theorem e_number (tf : Int → Int → Int) (n : Nat) (i j : Int) (h1 : 1 ≤ i) (h2 : i ≤ j) (h3 : j ≤ n) (m : Nat) (hm : 1 ≤ m) : callD T m 4 [eT tf n, .int i, .int j] = .ok (.int (tf i j)) [] := by
  obtain ⟨m, rfl⟩ : ∃ k, m = k + 1 := ⟨m - 1, by omega⟩
  rw [VC.call_def (df := d_number_of) rfl rfl]
  generalize callD T m = C
  show endC [] (evSs C [.ret (.idx (.idx (.var 0) (.bin .sub (.var 1) (.int 1))) (.bin .sub (.var 2) (.var 1)))] [some (eT tf n), some (.int i), some (.int j)]) = _
  simp -implicitDefEqProofs only [y_asg, kAsg_ok, y_ex, kEx_ok, y_ret, y_retMv, kRet_ok, y_mv, y_ite, kSi1_ok, kSi2_ok, x_frz, x_pas, x_nil, x_ret0, x_brk, x_cnt, F_bin, kBin1_ok, kBin2_ok, F_cmp, kCmp1_ok, kCmp2_ok, F_idx, kIdx1_ok, kIdx2_ok, Fs_cons, kCons1_ok, kCons2_ok, F_tup, kTup_ok, F_lst, kLst_ok, F_bi, kBi_ok, F_call, kCall_ok, rcE_ok, F_not, kNot1_ok, kNot2_ok, F_neg, kNeg_ok, F_ite, kIte1_ok, kIte2_ok, F_or, kOr1_ok, kOr2_ok, E_or0, F_and, kAnd1_ok, kAnd2_ok, E_and0, F_chn, kChn1_ok, kChn2_ok, chnO_ok, kChn3_ok, F_app, kApp_ok, appH_ok, appG_ok, E_var, E_int, E_str, E_bl, E_non, Es_nil, R.bind_ok, ofO_some, Option.map_some, t_bl, o_addI, o_sub, o_mod, c_lt, c_le, c_gt, c_ge, c_eqI, c_neI, List.cons_append, List.nil_append, getV, List.getElem?_cons_zero, List.getElem?_cons_succ, List.set_cons_zero, List.set_cons_succ, decide_eq_true_eq, Bool.not_true, Bool.not_false, t_row tf n i h1 (by omega), t_cell tf n i j h2 h3]
  rfl
theorem e_all (tf : Int → Int → Int) (n : Nat) (hn : 1 ≤ n) (m : Nat) (hm : 2 ≤ m) : callD T m 8 [eT tf n] = .ok (.int (tf 1 n)) [] := by
  obtain ⟨m, rfl⟩ : ∃ k, m = k + 1 := ⟨m - 1, by omega⟩
  rw [VC.call_def (df := d_all_visitors) rfl rfl]
  have h := e_number tf n 1 n (by omega) (by omega) (by omega) m (by omega)
  revert h
  generalize callD T m = C
  intro h
  show endC [] (evSs C [.ret (.call 4 [] [(.var 0), (.int 1), (.bi .len [(.var 0)])])] [some (eT tf n)]) = _
  simp -implicitDefEqProofs only [y_asg, kAsg_ok, y_ex, kEx_ok, y_ret, y_retMv, kRet_ok, y_mv, y_ite, kSi1_ok, kSi2_ok, x_frz, x_pas, x_nil, x_ret0, x_brk, x_cnt, F_bin, kBin1_ok, kBin2_ok, F_cmp, kCmp1_ok, kCmp2_ok, F_idx, kIdx1_ok, kIdx2_ok, Fs_cons, kCons1_ok, kCons2_ok, F_tup, kTup_ok, F_lst, kLst_ok, F_bi, kBi_ok, F_call, kCall_ok, rcE_ok, F_not, kNot1_ok, kNot2_ok, F_neg, kNeg_ok, F_ite, kIte1_ok, kIte2_ok, F_or, kOr1_ok, kOr2_ok, E_or0, F_and, kAnd1_ok, kAnd2_ok, E_and0, F_chn, kChn1_ok, kChn2_ok, chnO_ok, kChn3_ok, F_app, kApp_ok, appH_ok, appG_ok, E_var, E_int, E_str, E_bl, E_non, Es_nil, R.bind_ok, ofO_some, Option.map_some, t_bl, o_addI, o_sub, o_mod, c_lt, c_le, c_gt, c_ge, c_eqI, c_neI, List.cons_append, List.nil_append, getV, List.getElem?_cons_zero, List.getElem?_cons_succ, List.set_cons_zero, List.set_cons_succ, decide_eq_true_eq, Bool.not_true, Bool.not_false, t_len, h]
  rfl
/-- who is missed -/
def Mi (tf : Int → Int → Int) (n : Nat) (i j : Int) : Int := if i < 1 ∨ (n : Int) < j then 0 else if j < i then tf 1 n else tf 1 n - tf i j
theorem e_missed (tf : Int → Int → Int) (n : Nat) (hn : 1 ≤ n) (i j : Int) (hi : 0 ≤ i) (m : Nat) (hm : 3 ≤ m) : callD T m 9 [eT tf n, .int i, .int j] = .ok (.int (Mi tf n i j)) [] := by
  obtain ⟨m, rfl⟩ : ∃ k, m = k + 1 := ⟨m - 1, by omega⟩
  rw [VC.call_def (df := d_missed) rfl rfl]
  have h0 := fun a b c => e_number tf n i j a b c m (by omega)
  have h1 := e_all tf n hn m (by omega)
  revert h0 h1
  generalize callD T m = C
  intro h0 h1
  show endC [] (evSs C [.ite (.or [(.cmp .eq (.var 1) (.int 0)), (.cmp .gt (.var 2) (.bi .len [(.var 0)]))]) [.ret (.int 0)] [], .ite (.cmp .lt (.var 2) (.var 1)) [.ret (.call 8 [] [(.var 0)])] [], .ret (.bin .sub (.call 8 [] [(.var 0)]) (.call 4 [] [(.var 0), (.var 1), (.var 2)]))] [some (eT tf n), some (.int i), some (.int j)]) = _
  unfold Mi
  by_cases c1 : i = 0
  · subst c1
    simp -implicitDefEqProofs only [y_asg, kAsg_ok, y_ex, kEx_ok, y_ret, y_retMv, kRet_ok, y_mv, y_ite, kSi1_ok, kSi2_ok, x_frz, x_pas, x_nil, x_ret0, x_brk, x_cnt, F_bin, kBin1_ok, kBin2_ok, F_cmp, kCmp1_ok, kCmp2_ok, F_idx, kIdx1_ok, kIdx2_ok, Fs_cons, kCons1_ok, kCons2_ok, F_tup, kTup_ok, F_lst, kLst_ok, F_bi, kBi_ok, F_call, kCall_ok, rcE_ok, F_not, kNot1_ok, kNot2_ok, F_neg, kNeg_ok, F_ite, kIte1_ok, kIte2_ok, F_or, kOr1_ok, kOr2_ok, E_or0, F_and, kAnd1_ok, kAnd2_ok, E_and0, F_chn, kChn1_ok, kChn2_ok, chnO_ok, kChn3_ok, F_app, kApp_ok, appH_ok, appG_ok, E_var, E_int, E_str, E_bl, E_non, Es_nil, R.bind_ok, ofO_some, Option.map_some, t_bl, o_addI, o_sub, o_mod, c_lt, c_le, c_gt, c_ge, c_eqI, c_neI, List.cons_append, List.nil_append, getV, List.getElem?_cons_zero, List.getElem?_cons_succ, List.set_cons_zero, List.set_cons_succ, decide_eq_true_eq, Bool.not_true, Bool.not_false, decide_true, if_true]
    rw [if_pos (by omega)]
    rfl
  · by_cases c2 : (n : Int) < j
    · simp -implicitDefEqProofs only [y_asg, kAsg_ok, y_ex, kEx_ok, y_ret, y_retMv, kRet_ok, y_mv, y_ite, kSi1_ok, kSi2_ok, x_frz, x_pas, x_nil, x_ret0, x_brk, x_cnt, F_bin, kBin1_ok, kBin2_ok, F_cmp, kCmp1_ok, kCmp2_ok, F_idx, kIdx1_ok, kIdx2_ok, Fs_cons, kCons1_ok, kCons2_ok, F_tup, kTup_ok, F_lst, kLst_ok, F_bi, kBi_ok, F_call, kCall_ok, rcE_ok, F_not, kNot1_ok, kNot2_ok, F_neg, kNeg_ok, F_ite, kIte1_ok, kIte2_ok, F_or, kOr1_ok, kOr2_ok, E_or0, F_and, kAnd1_ok, kAnd2_ok, E_and0, F_chn, kChn1_ok, kChn2_ok, chnO_ok, kChn3_ok, F_app, kApp_ok, appH_ok, appG_ok, E_var, E_int, E_str, E_bl, E_non, Es_nil, R.bind_ok, ofO_some, Option.map_some, t_bl, o_addI, o_sub, o_mod, c_lt, c_le, c_gt, c_ge, c_eqI, c_neI, List.cons_append, List.nil_append, getV, List.getElem?_cons_zero, List.getElem?_cons_succ, List.set_cons_zero, List.set_cons_succ, decide_eq_true_eq, Bool.not_true, Bool.not_false, t_len, c1, c2, decide_true, decide_false, Bool.false_eq_true, if_true, if_false, false_or, or_true]
      rfl
    · by_cases c3 : j < i
      · simp -implicitDefEqProofs only [y_asg, kAsg_ok, y_ex, kEx_ok, y_ret, y_retMv, kRet_ok, y_mv, y_ite, kSi1_ok, kSi2_ok, x_frz, x_pas, x_nil, x_ret0, x_brk, x_cnt, F_bin, kBin1_ok, kBin2_ok, F_cmp, kCmp1_ok, kCmp2_ok, F_idx, kIdx1_ok, kIdx2_ok, Fs_cons, kCons1_ok, kCons2_ok, F_tup, kTup_ok, F_lst, kLst_ok, F_bi, kBi_ok, F_call, kCall_ok, rcE_ok, F_not, kNot1_ok, kNot2_ok, F_neg, kNeg_ok, F_ite, kIte1_ok, kIte2_ok, F_or, kOr1_ok, kOr2_ok, E_or0, F_and, kAnd1_ok, kAnd2_ok, E_and0, F_chn, kChn1_ok, kChn2_ok, chnO_ok, kChn3_ok, F_app, kApp_ok, appH_ok, appG_ok, E_var, E_int, E_str, E_bl, E_non, Es_nil, R.bind_ok, ofO_some, Option.map_some, t_bl, o_addI, o_sub, o_mod, c_lt, c_le, c_gt, c_ge, c_eqI, c_neI, List.cons_append, List.nil_append, getV, List.getElem?_cons_zero, List.getElem?_cons_succ, List.set_cons_zero, List.set_cons_succ, decide_eq_true_eq, Bool.not_true, Bool.not_false, t_len, c1, c2, c3, decide_true, decide_false, Bool.false_eq_true, if_true, if_false, h1, or_false]
        rw [if_neg (show ¬ i < 1 by omega)]
        rfl
      · simp -implicitDefEqProofs only [y_asg, kAsg_ok, y_ex, kEx_ok, y_ret, y_retMv, kRet_ok, y_mv, y_ite, kSi1_ok, kSi2_ok, x_frz, x_pas, x_nil, x_ret0, x_brk, x_cnt, F_bin, kBin1_ok, kBin2_ok, F_cmp, kCmp1_ok, kCmp2_ok, F_idx, kIdx1_ok, kIdx2_ok, Fs_cons, kCons1_ok, kCons2_ok, F_tup, kTup_ok, F_lst, kLst_ok, F_bi, kBi_ok, F_call, kCall_ok, rcE_ok, F_not, kNot1_ok, kNot2_ok, F_neg, kNeg_ok, F_ite, kIte1_ok, kIte2_ok, F_or, kOr1_ok, kOr2_ok, E_or0, F_and, kAnd1_ok, kAnd2_ok, E_and0, F_chn, kChn1_ok, kChn2_ok, chnO_ok, kChn3_ok, F_app, kApp_ok, appH_ok, appG_ok, E_var, E_int, E_str, E_bl, E_non, Es_nil, R.bind_ok, ofO_some, Option.map_some, t_bl, o_addI, o_sub, o_mod, c_lt, c_le, c_gt, c_ge, c_eqI, c_neI, List.cons_append, List.nil_append, getV, List.getElem?_cons_zero, List.getElem?_cons_succ, List.set_cons_zero, List.set_cons_succ, decide_eq_true_eq, Bool.not_true, Bool.not_false, t_len, c1, c2, c3, decide_true, decide_false, Bool.false_eq_true, if_true, if_false, h1, h0 (by omega) (by omega) (by omega), or_false]
        rw [if_neg (show ¬ i < 1 by omega)]
        rfl
def stepM (tf : Int → Int → Int) (n : Nat) (a b : Int) : Int := Mi tf n (a + 1) (b - 1) - Mi tf n a (b - 1) - Mi tf n (a + 1) b + Mi tf n a b
theorem e_step (tf : Int → Int → Int) (n : Nat) (hn : 1 ≤ n) (a b : Int) (ha : 0 ≤ a) (m : Nat) (hm : 4 ≤ m) : callD T m 10 [eT tf n, .int a, .int b] = .ok (.int (stepM tf n a b)) [] := by
  obtain ⟨m, rfl⟩ : ∃ k, m = k + 1 := ⟨m - 1, by omega⟩
  rw [VC.call_def (df := d_step_number) rfl rfl]
  have h0 := fun i j hi => e_missed tf n hn i j hi m (by omega)
  have h1 := h0 (a + 1) (b - 1) (by omega)
  have h2 := h0 a (b - 1) (by omega)
  have h3 := h0 (a + 1) b (by omega)
  have h4 := h0 a b (by omega)
  clear h0
  revert h1 h2 h3 h4
  generalize callD T m = C
  intro h1 h2 h3 h4
  show endC [] (evSs C [.asg 3 .F (.call 9 [] [(.var 0), (.bin .addA (.var 1) (.int 1)), (.bin .sub (.var 2) (.int 1))]), .asg 4 .F (.call 9 [] [(.var 0), (.var 1), (.bin .sub (.var 2) (.int 1))]), .asg 5 .F (.call 9 [] [(.var 0), (.bin .addA (.var 1) (.int 1)), (.var 2)]), .ret (.bin .addA (.bin .sub (.bin .sub (.var 3) (.var 4)) (.var 5)) (.call 9 [] [(.var 0), (.var 1), (.var 2)]))] [some (eT tf n), some (.int a), some (.int b), none, none, none]) = _
  simp -implicitDefEqProofs only [y_asg, kAsg_ok, y_ex, kEx_ok, y_ret, y_retMv, kRet_ok, y_mv, y_ite, kSi1_ok, kSi2_ok, x_frz, x_pas, x_nil, x_ret0, x_brk, x_cnt, F_bin, kBin1_ok, kBin2_ok, F_cmp, kCmp1_ok, kCmp2_ok, F_idx, kIdx1_ok, kIdx2_ok, Fs_cons, kCons1_ok, kCons2_ok, F_tup, kTup_ok, F_lst, kLst_ok, F_bi, kBi_ok, F_call, kCall_ok, rcE_ok, F_not, kNot1_ok, kNot2_ok, F_neg, kNeg_ok, F_ite, kIte1_ok, kIte2_ok, F_or, kOr1_ok, kOr2_ok, E_or0, F_and, kAnd1_ok, kAnd2_ok, E_and0, F_chn, kChn1_ok, kChn2_ok, chnO_ok, kChn3_ok, F_app, kApp_ok, appH_ok, appG_ok, E_var, E_int, E_str, E_bl, E_non, Es_nil, R.bind_ok, ofO_some, Option.map_some, t_bl, o_addI, o_sub, o_mod, c_lt, c_le, c_gt, c_ge, c_eqI, c_neI, List.cons_append, List.nil_append, getV, List.getElem?_cons_zero, List.getElem?_cons_succ, List.set_cons_zero, List.set_cons_succ, decide_eq_true_eq, Bool.not_true, Bool.not_false, h1, h2, h3, h4]
  rfl
/-- the law's own reckoning -/
theorem e_unseen (tf : Int → Int → Int) (n : Nat) (hn : 1 ≤ n) (i j : Int) (hi : 0 ≤ i) (m : Nat) (hm : 1 ≤ m) : callD T m 19 [eT tf n, .int i, .int j] = .ok (.int (Mi tf n i j)) [] := by
  obtain ⟨m, rfl⟩ : ∃ k, m = k + 1 := ⟨m - 1, by omega⟩
  rw [VC.call_def (df := d__law_unseen) rfl rfl]
  generalize callD T m = C
  have r1 : idxD (eT tf n) (.int 0) = some (eR tf n 1) := t_row tf n 1 (by omega) (by omega)
  have r2 : idxD (eR tf n 1) (.int ((n : Int) - 1)) = some (.int (tf 1 n)) := t_cell tf n 1 n (by omega) (by omega)
  have r3 := fun a b => t_row tf n i a b
  have r4 := fun a b => t_cell tf n i j a b
  show endC [] (evSs C [.asg 3 .A (.bi .len [(.var 0)]), .ite (.or [(.cmp .lt (.var 1) (.int 1)), (.cmp .gt (.var 2) (.var 3))]) [.ret (.int 0)] [], .ite (.cmp .lt (.var 2) (.var 1)) [.ret (.idx (.idx (.var 0) (.int 0)) (.bin .sub (.var 3) (.int 1)))] [], .ret (.bin .sub (.idx (.idx (.var 0) (.int 0)) (.bin .sub (.var 3) (.int 1))) (.idx (.idx (.var 0) (.bin .sub (.var 1) (.int 1))) (.bin .sub (.var 2) (.var 1))))] [some (eT tf n), some (.int i), some (.int j), none]) = _
  unfold Mi
  by_cases c1 : i < 1
  · simp -implicitDefEqProofs only [y_asg, kAsg_ok, y_ex, kEx_ok, y_ret, y_retMv, kRet_ok, y_mv, y_ite, kSi1_ok, kSi2_ok, x_frz, x_pas, x_nil, x_ret0, x_brk, x_cnt, F_bin, kBin1_ok, kBin2_ok, F_cmp, kCmp1_ok, kCmp2_ok, F_idx, kIdx1_ok, kIdx2_ok, Fs_cons, kCons1_ok, kCons2_ok, F_tup, kTup_ok, F_lst, kLst_ok, F_bi, kBi_ok, F_call, kCall_ok, rcE_ok, F_not, kNot1_ok, kNot2_ok, F_neg, kNeg_ok, F_ite, kIte1_ok, kIte2_ok, F_or, kOr1_ok, kOr2_ok, E_or0, F_and, kAnd1_ok, kAnd2_ok, E_and0, F_chn, kChn1_ok, kChn2_ok, chnO_ok, kChn3_ok, F_app, kApp_ok, appH_ok, appG_ok, E_var, E_int, E_str, E_bl, E_non, Es_nil, R.bind_ok, ofO_some, Option.map_some, t_bl, o_addI, o_sub, o_mod, c_lt, c_le, c_gt, c_ge, c_eqI, c_neI, List.cons_append, List.nil_append, getV, List.getElem?_cons_zero, List.getElem?_cons_succ, List.set_cons_zero, List.set_cons_succ, decide_eq_true_eq, Bool.not_true, Bool.not_false, t_len, c1, decide_true, if_true, true_or]
    rfl
  · by_cases c2 : (n : Int) < j
    · simp -implicitDefEqProofs only [y_asg, kAsg_ok, y_ex, kEx_ok, y_ret, y_retMv, kRet_ok, y_mv, y_ite, kSi1_ok, kSi2_ok, x_frz, x_pas, x_nil, x_ret0, x_brk, x_cnt, F_bin, kBin1_ok, kBin2_ok, F_cmp, kCmp1_ok, kCmp2_ok, F_idx, kIdx1_ok, kIdx2_ok, Fs_cons, kCons1_ok, kCons2_ok, F_tup, kTup_ok, F_lst, kLst_ok, F_bi, kBi_ok, F_call, kCall_ok, rcE_ok, F_not, kNot1_ok, kNot2_ok, F_neg, kNeg_ok, F_ite, kIte1_ok, kIte2_ok, F_or, kOr1_ok, kOr2_ok, E_or0, F_and, kAnd1_ok, kAnd2_ok, E_and0, F_chn, kChn1_ok, kChn2_ok, chnO_ok, kChn3_ok, F_app, kApp_ok, appH_ok, appG_ok, E_var, E_int, E_str, E_bl, E_non, Es_nil, R.bind_ok, ofO_some, Option.map_some, t_bl, o_addI, o_sub, o_mod, c_lt, c_le, c_gt, c_ge, c_eqI, c_neI, List.cons_append, List.nil_append, getV, List.getElem?_cons_zero, List.getElem?_cons_succ, List.set_cons_zero, List.set_cons_succ, decide_eq_true_eq, Bool.not_true, Bool.not_false, t_len, c1, c2, decide_true, decide_false, Bool.false_eq_true, if_true, if_false, false_or]
      rfl
    · by_cases c3 : j < i
      · simp -implicitDefEqProofs only [y_asg, kAsg_ok, y_ex, kEx_ok, y_ret, y_retMv, kRet_ok, y_mv, y_ite, kSi1_ok, kSi2_ok, x_frz, x_pas, x_nil, x_ret0, x_brk, x_cnt, F_bin, kBin1_ok, kBin2_ok, F_cmp, kCmp1_ok, kCmp2_ok, F_idx, kIdx1_ok, kIdx2_ok, Fs_cons, kCons1_ok, kCons2_ok, F_tup, kTup_ok, F_lst, kLst_ok, F_bi, kBi_ok, F_call, kCall_ok, rcE_ok, F_not, kNot1_ok, kNot2_ok, F_neg, kNeg_ok, F_ite, kIte1_ok, kIte2_ok, F_or, kOr1_ok, kOr2_ok, E_or0, F_and, kAnd1_ok, kAnd2_ok, E_and0, F_chn, kChn1_ok, kChn2_ok, chnO_ok, kChn3_ok, F_app, kApp_ok, appH_ok, appG_ok, E_var, E_int, E_str, E_bl, E_non, Es_nil, R.bind_ok, ofO_some, Option.map_some, t_bl, o_addI, o_sub, o_mod, c_lt, c_le, c_gt, c_ge, c_eqI, c_neI, List.cons_append, List.nil_append, getV, List.getElem?_cons_zero, List.getElem?_cons_succ, List.set_cons_zero, List.set_cons_succ, decide_eq_true_eq, Bool.not_true, Bool.not_false, t_len, c1, c2, c3, decide_true, decide_false, Bool.false_eq_true, if_true, if_false, r1, r2, or_self]
        rfl
      · simp -implicitDefEqProofs only [y_asg, kAsg_ok, y_ex, kEx_ok, y_ret, y_retMv, kRet_ok, y_mv, y_ite, kSi1_ok, kSi2_ok, x_frz, x_pas, x_nil, x_ret0, x_brk, x_cnt, F_bin, kBin1_ok, kBin2_ok, F_cmp, kCmp1_ok, kCmp2_ok, F_idx, kIdx1_ok, kIdx2_ok, Fs_cons, kCons1_ok, kCons2_ok, F_tup, kTup_ok, F_lst, kLst_ok, F_bi, kBi_ok, F_call, kCall_ok, rcE_ok, F_not, kNot1_ok, kNot2_ok, F_neg, kNeg_ok, F_ite, kIte1_ok, kIte2_ok, F_or, kOr1_ok, kOr2_ok, E_or0, F_and, kAnd1_ok, kAnd2_ok, E_and0, F_chn, kChn1_ok, kChn2_ok, chnO_ok, kChn3_ok, F_app, kApp_ok, appH_ok, appG_ok, E_var, E_int, E_str, E_bl, E_non, Es_nil, R.bind_ok, ofO_some, Option.map_some, t_bl, o_addI, o_sub, o_mod, c_lt, c_le, c_gt, c_ge, c_eqI, c_neI, List.cons_append, List.nil_append, getV, List.getElem?_cons_zero, List.getElem?_cons_succ, List.set_cons_zero, List.set_cons_succ, decide_eq_true_eq, Bool.not_true, Bool.not_false, t_len, c1, c2, c3, decide_true, decide_false, Bool.false_eq_true, if_true, if_false, r1, r2, r3 (by omega) (by omega), r4 (by omega) (by omega), or_self]
        rfl
theorem e_lstep (tf : Int → Int → Int) (n : Nat) (hn : 1 ≤ n) (a b : Int) (ha : 0 ≤ a) (m : Nat) (hm : 2 ≤ m) : callD T m 20 [eT tf n, .int a, .int b] = .ok (.int (stepM tf n a b)) [] := by
  obtain ⟨m, rfl⟩ : ∃ k, m = k + 1 := ⟨m - 1, by omega⟩
  rw [VC.call_def (df := d__law_step) rfl rfl]
  have h0 := fun i j hi => e_unseen tf n hn i j hi m (by omega)
  have h1 := h0 (a + 1) (b - 1) (by omega)
  have h2 := h0 a (b - 1) (by omega)
  have h3 := h0 (a + 1) b (by omega)
  have h4 := h0 a b (by omega)
  clear h0
  revert h1 h2 h3 h4
  generalize callD T m = C
  intro h1 h2 h3 h4
  show endC [] (evSs C [.asg 3 .A (.bin .sub (.call 19 [] [(.var 0), (.bin .addA (.var 1) (.int 1)), (.bin .sub (.var 2) (.int 1))]) (.call 19 [] [(.var 0), (.var 1), (.bin .sub (.var 2) (.int 1))])), .ret (.bin .sub (.var 3) (.bin .sub (.call 19 [] [(.var 0), (.bin .addA (.var 1) (.int 1)), (.var 2)]) (.call 19 [] [(.var 0), (.var 1), (.var 2)])))] [some (eT tf n), some (.int a), some (.int b), none]) = _
  simp -implicitDefEqProofs only [y_asg, kAsg_ok, y_ex, kEx_ok, y_ret, y_retMv, kRet_ok, y_mv, y_ite, kSi1_ok, kSi2_ok, x_frz, x_pas, x_nil, x_ret0, x_brk, x_cnt, F_bin, kBin1_ok, kBin2_ok, F_cmp, kCmp1_ok, kCmp2_ok, F_idx, kIdx1_ok, kIdx2_ok, Fs_cons, kCons1_ok, kCons2_ok, F_tup, kTup_ok, F_lst, kLst_ok, F_bi, kBi_ok, F_call, kCall_ok, rcE_ok, F_not, kNot1_ok, kNot2_ok, F_neg, kNeg_ok, F_ite, kIte1_ok, kIte2_ok, F_or, kOr1_ok, kOr2_ok, E_or0, F_and, kAnd1_ok, kAnd2_ok, E_and0, F_chn, kChn1_ok, kChn2_ok, chnO_ok, kChn3_ok, F_app, kApp_ok, appH_ok, appG_ok, E_var, E_int, E_str, E_bl, E_non, Es_nil, R.bind_ok, ofO_some, Option.map_some, t_bl, o_addI, o_sub, o_mod, c_lt, c_le, c_gt, c_ge, c_eqI, c_neI, List.cons_append, List.nil_append, getV, List.getElem?_cons_zero, List.getElem?_cons_succ, List.set_cons_zero, List.set_cons_succ, decide_eq_true_eq, Bool.not_true, Bool.not_false, h1, h2, h3, h4]
  have e : Mi tf n (a + 1) (b - 1) - Mi tf n a (b - 1) - (Mi tf n (a + 1) b - Mi tf n a b) = stepM tf n a b := by unfold stepM; omega
  rw [e]
  rfl
end Lk63
end

section
set_option Elab.async false
set_option linter.all false
set_option maxRecDepth 100000
set_option maxHeartbeats 400000
namespace Lk63
open PySem VC
theorem b_isI (i : Int) : biD (.isI .int) [.int i] = some (.bl true) := rfl
theorem b_isB (i : Int) : biD (.isI .bool) [.int i] = some (.bl false) := rfl
theorem b_isL (xs : List D) : biD (.isI .list) [.lst xs] = some (.bl true) := rfl
theorem b_isT (xs : List D) : biD (.isI .tuple) [.tup xs] = some (.bl true) := rfl
theorem e_isint (i : Int) (m : Nat) (hm : 1 ≤ m) : callD T m 14 [.int i] = .ok (.bl true) [] := by
  obtain ⟨m, rfl⟩ : ∃ k, m = k + 1 := ⟨m - 1, by omega⟩
  rw [VC.call_def (df := d__law_is_integer) rfl rfl]
  generalize callD T m = C
  show endC [] (evSs C [.ret (.and [(.bi (.isI .int) [(.var 0)]), (.not (.bi (.isI .bool) [(.var 0)]))])] [some (.int i)]) = _
  simp -implicitDefEqProofs only [y_asg, kAsg_ok, y_ex, kEx_ok, y_ret, y_retMv, kRet_ok, y_mv, y_ite, kSi1_ok, kSi2_ok, x_frz, x_pas, x_nil, x_ret0, x_brk, x_cnt, F_bin, kBin1_ok, kBin2_ok, F_cmp, kCmp1_ok, kCmp2_ok, F_idx, kIdx1_ok, kIdx2_ok, Fs_cons, kCons1_ok, kCons2_ok, F_tup, kTup_ok, F_lst, kLst_ok, F_bi, kBi_ok, F_call, kCall_ok, rcE_ok, F_not, kNot1_ok, kNot2_ok, F_neg, kNeg_ok, F_ite, kIte1_ok, kIte2_ok, F_or, kOr1_ok, kOr2_ok, E_or0, F_and, kAnd1_ok, kAnd2_ok, E_and0, F_chn, kChn1_ok, kChn2_ok, chnO_ok, kChn3_ok, F_app, kApp_ok, appH_ok, appG_ok, E_var, E_int, E_str, E_bl, E_non, Es_nil, R.bind_ok, ofO_some, Option.map_some, t_bl, o_addI, o_sub, o_mod, c_lt, c_le, c_gt, c_ge, c_eqI, c_neI, List.cons_append, List.nil_append, getV, List.getElem?_cons_zero, List.getElem?_cons_succ, List.set_cons_zero, List.set_cons_succ, decide_eq_true_eq, Bool.not_true, Bool.not_false, b_isI, b_isB, if_true]
  rfl
theorem sum_app (a b : List Int) : (a ++ b).sum = a.sum + b.sum := by
  induction a with
  | nil => simp
  | cons x a ih => rw [List.cons_append, List.sum_cons, List.sum_cons, ih]; omega
theorem sum_flat {α β : Type} (f : α → List β) (g : β → Int) : ∀ l : List α, ((l.flatMap f).map g).sum = (l.map fun a => ((f a).map g).sum).sum
  | [] => rfl
  | a :: l => by rw [List.flatMap_cons, List.map_append, sum_app, sum_flat f g l, List.map_cons, List.sum_cons]
theorem sum_filter {α : Type} (p : α → Bool) (g : α → Int) : ∀ l : List α, ((l.filter p).map g).sum = (l.map fun x => if p x = true then g x else 0).sum
  | [] => rfl
  | a :: l => by
    rw [List.filter_cons, List.map_cons, List.sum_cons, ← sum_filter p g l]
    split
    · rw [List.map_cons, List.sum_cons]
    · omega
theorem sum_tel (F : Nat → Int) : ∀ k, ((List.range k).map fun c => F (c + 1) - F c).sum = F k - F 0
  | 0 => by simp
  | k + 1 => by rw [List.range_succ, List.map_append, sum_app, sum_tel F k]; simp; omega
theorem sum_congr {α : Type} {f g : α → Int} {l : List α} (h : ∀ a ∈ l, f a = g a) : (l.map f).sum = (l.map g).sum := by rw [List.map_congr_left h]
theorem sum_zero {α : Type} : ∀ l : List α, (l.map fun _ => (0 : Int)).sum = 0
  | [] => rfl
  | a :: l => by rw [List.map_cons, List.sum_cons, sum_zero l]; rfl
theorem Mi_lo (tf : Int → Int → Int) (n : Nat) (i j : Int) (h : i < 1) : Mi tf n i j = 0 := by unfold Mi; rw [if_pos (.inl h)]
theorem Mi_hi (tf : Int → Int → Int) (n : Nat) (i j : Int) (h : (n : Int) < j) : Mi tf n i j = 0 := by unfold Mi; rw [if_pos (.inr h)]
theorem Mi_no (tf : Int → Int → Int) (n : Nat) (i j : Int) (h1 : 1 ≤ i) (h2 : j ≤ n) (h3 : j < i) : Mi tf n i j = tf 1 n := by unfold Mi; rw [if_neg (by omega), if_pos h3]
theorem Mi_in (tf : Int → Int → Int) (n : Nat) (i j : Int) (h1 : 1 ≤ i) (h2 : j ≤ n) (h3 : i ≤ j) : Mi tf n i j = tf 1 n - tf i j := by unfold Mi; rw [if_neg (by omega), if_neg (by omega)]
end Lk63
end

section
set_option Elab.async false
set_option linter.all false
set_option maxRecDepth 100000
set_option maxHeartbeats 400000
namespace Lk63
open PySem VC
/-! the law's inputs -/
theorem fmod_rng (x b : Int) (h : 0 < b) : 0 ≤ x.fmod b ∧ x.fmod b < b := ⟨Int.fmod_nonneg_of_pos x h, Int.fmod_lt_of_pos x h⟩
theorem nums_at (ns : List Int) (at_ count i : Nat) (h : i < count) : ∃ x : Int, ((numM ns at_ count).map D.int)[i]? = some (.int x) ∧ 0 ≤ x ∧ x < 1009 := by
  have hl : i < (numM ns at_ count).length := by rw [numM_len]; exact h
  exact ⟨(numM ns at_ count)[i], by simp [hl], numM_rng ns at_ count _ (List.getElem_mem hl)⟩
theorem e_nums (ns : List Int) (at_ count : Nat) (hc : count ≤ 1000000) (n : Nat) (hn : 1 ≤ n) : callD T n 13 [.lst (ns.map .int), .int at_, .int count] = .ok (.lst ((numM ns at_ count).map .int)) [] := by
  obtain ⟨m, rfl⟩ : ∃ m, n = m + 1 := ⟨n - 1, by omega⟩
  exact e_numbers (f := 13) rfl ns at_ count hc
/-- good days: rising, within 1..n, not none -/
structure Good (n : Nat) (is : List Int) : Prop where
  asc : is.Pairwise (· < ·)
  rng : ∀ d ∈ is, 1 ≤ d ∧ d ≤ n
  ne : is ≠ []
def dbody : List VC.S := [.ite (.cmp .eq (.bin .mod (.var 2) (.int 2)) (.int 1)) [.ex (.app 3 (.var 4))] [], .asg 2 .A (.bin .fdiv (.var 2) (.int 2))]
def dtail : List VC.S := [.frz 3, .ite (.not (.var 3)) [.asg 3 (.O .A) (.lst .A [(.bin .addA (.int 1) (.bin .mod (.idx (.var 0) (.int 4)) (.var 1)))]), .frz 3] [], .ret (.bi .tup1 [(.var 3)])]
theorem e_days (n : Nat) (hn : 1 ≤ n) (hn2 : n ≤ 1000) (L : List D) (hL : ∀ i : Nat, i < 8 → ∃ x : Int, L[i]? = some (.int x) ∧ 0 ≤ x ∧ x < 1009) (m : Nat) (hm : 1 ≤ m) :
    ∃ is : List Int, callD T m 15 [.lst L, .int n] = .ok (.tup (is.map .int)) [] ∧ Good n is := by
  obtain ⟨m, rfl⟩ : ∃ k, m = k + 1 := ⟨m - 1, by omega⟩
  rw [VC.call_def (df := d__law_days) rfl rfl]
  generalize callD T m = C
  obtain ⟨x0, q0, _⟩ := hL 0 (by omega)
  obtain ⟨x1, q1, _⟩ := hL 1 (by omega)
  obtain ⟨x2, q2, _⟩ := hL 2 (by omega)
  obtain ⟨x3, q3, _⟩ := hL 3 (by omega)
  obtain ⟨x4, q4, _⟩ := hL 4 (by omega)
  have i0 : idxD (.lst L) (.int 0) = some (.int x0) := i_lst (by decide) q0
  have i1 : idxD (.lst L) (.int 1) = some (.int x1) := i_lst (by decide) q1
  have i2 : idxD (.lst L) (.int 2) = some (.int x2) := i_lst (by decide) q2
  have i3 : idxD (.lst L) (.int 3) = some (.int x3) := i_lst (by decide) q3
  have i4 : idxD (.lst L) (.int 4) = some (.int x4) := i_lst (by decide) q4
  let mk : Int → List Int → Option D → VC.Env := fun num found j => [some (.lst L), some (.int n), some (.int num), some (.lst (found.map .int)), j]
  have loop := forD_inv (fun k : Nat => D.int ((1 : Int) + k)) (fun d e => (bindTg (.nm 4) d e).bind fun e1 => evSs C dbody e1)
    (fun l e => ∃ (num : Int) (found : List Int) (j : Option D), e = mk num found j ∧ found.length + l.length ≤ n ∧ l.Pairwise (· < ·) ∧ (∀ k ∈ l, k < n) ∧ found.Pairwise (· < ·) ∧ (∀ d ∈ found, 1 ≤ d ∧ d ≤ n ∧ ∀ k ∈ l, d < 1 + (k : Int)))
    (fun _ _ => False) (fun _ => False) (List.range n) (mk (x0 + 1009 * (x1 + 1009 * (x2 + 1009 * x3))) [] none)
    (fun k r e ⟨num, found, j, he, hl, hp, hr, ha, hb⟩ => by
      left
      simp only [List.length_cons] at hl
      have hl' : (found.map D.int).length < lim := by rw [List.length_map]; unfold lim; omega
      obtain ⟨p1, p2⟩ := List.pairwise_cons.mp hp
      have hkn := hr k List.mem_cons_self
      subst he
      by_cases h : num.fmod 2 = 1
      · refine ⟨mk (num.fdiv 2) (found ++ [(1 : Int) + k]) (some (.int ((1 : Int) + k))), .inl ?_, _, _, _, rfl, by rw [List.length_append]; simp; omega, p2, fun q hq => hr q (List.mem_cons_of_mem _ hq), ?_, ?_⟩
        · rw [t_nm]
          simp -implicitDefEqProofs (disch := decide) only [dbody, mk, y_asg, kAsg_ok, y_ex, kEx_ok, y_ret, y_retMv, kRet_ok, y_mv, y_ite, kSi1_ok, kSi2_ok, x_frz, x_pas, x_nil, x_ret0, x_brk, x_cnt, F_bin, kBin1_ok, kBin2_ok, F_cmp, kCmp1_ok, kCmp2_ok, F_idx, kIdx1_ok, kIdx2_ok, Fs_cons, kCons1_ok, kCons2_ok, F_tup, kTup_ok, F_lst, kLst_ok, F_bi, kBi_ok, F_call, kCall_ok, rcE_ok, F_not, kNot1_ok, kNot2_ok, F_neg, kNeg_ok, F_ite, kIte1_ok, kIte2_ok, F_or, kOr1_ok, kOr2_ok, E_or0, F_and, kAnd1_ok, kAnd2_ok, E_and0, F_chn, kChn1_ok, kChn2_ok, chnO_ok, kChn3_ok, F_app, kApp_ok, appH_ok, appG_ok, E_var, E_int, E_str, E_bl, E_non, Es_nil, R.bind_ok, ofO_some, Option.map_some, t_bl, o_addI, o_sub, o_mod, c_lt, c_le, c_gt, c_ge, c_eqI, c_neI, List.cons_append, List.nil_append, getV, List.getElem?_cons_zero, List.getElem?_cons_succ, List.set_cons_zero, List.set_cons_succ, decide_eq_true_eq, Bool.not_true, Bool.not_false, h, decide_true, if_true, hl', o_fdiv]
          rw [List.map_append]; rfl
        · refine List.pairwise_append.mpr ⟨ha, List.pairwise_singleton _ _, fun a h1 b h2 => ?_⟩
          have : b = (1 : Int) + k := by simpa using h2
          subst this
          exact (hb a h1).2.2 k List.mem_cons_self
        · intro d hd
          rcases List.mem_append.mp hd with h1 | h1
          · obtain ⟨a, b, c⟩ := hb d h1
            exact ⟨a, b, fun q hq => c q (List.mem_cons_of_mem _ hq)⟩
          · have : d = (1 : Int) + k := by simpa using h1
            subst this
            exact ⟨by omega, by omega, fun q hq => by have := p1 q hq; omega⟩
      · refine ⟨mk (num.fdiv 2) found (some (.int ((1 : Int) + k))), .inl ?_, _, _, _, rfl, by omega, p2, fun q hq => hr q (List.mem_cons_of_mem _ hq), ha, fun d hd => ?_⟩
        · rw [t_nm]
          simp -implicitDefEqProofs (disch := decide) only [dbody, mk, y_asg, kAsg_ok, y_ex, kEx_ok, y_ret, y_retMv, kRet_ok, y_mv, y_ite, kSi1_ok, kSi2_ok, x_frz, x_pas, x_nil, x_ret0, x_brk, x_cnt, F_bin, kBin1_ok, kBin2_ok, F_cmp, kCmp1_ok, kCmp2_ok, F_idx, kIdx1_ok, kIdx2_ok, Fs_cons, kCons1_ok, kCons2_ok, F_tup, kTup_ok, F_lst, kLst_ok, F_bi, kBi_ok, F_call, kCall_ok, rcE_ok, F_not, kNot1_ok, kNot2_ok, F_neg, kNeg_ok, F_ite, kIte1_ok, kIte2_ok, F_or, kOr1_ok, kOr2_ok, E_or0, F_and, kAnd1_ok, kAnd2_ok, E_and0, F_chn, kChn1_ok, kChn2_ok, chnO_ok, kChn3_ok, F_app, kApp_ok, appH_ok, appG_ok, E_var, E_int, E_str, E_bl, E_non, Es_nil, R.bind_ok, ofO_some, Option.map_some, t_bl, o_addI, o_sub, o_mod, c_lt, c_le, c_gt, c_ge, c_eqI, c_neI, List.cons_append, List.nil_append, getV, List.getElem?_cons_zero, List.getElem?_cons_succ, List.set_cons_zero, List.set_cons_succ, decide_eq_true_eq, Bool.not_true, Bool.not_false, h, decide_false, Bool.false_eq_true, if_false, o_fdiv]
        · obtain ⟨a, b, c⟩ := hb d hd
          exact ⟨a, b, fun q hq => c q (List.mem_cons_of_mem _ hq)⟩)
    ⟨_, [], none, rfl, by simp, List.pairwise_lt_range, fun k hk => List.mem_range.mp hk, List.Pairwise.nil, by simp⟩
  rcases loop with ⟨e2, h1, h2 | h2⟩ | ⟨d, e2, _, h⟩
  · obtain ⟨num, found, j, rfl, hl, _, _, ha, hb⟩ := h2
    have hn0 : (n : Int) ≠ 0 := by omega
    have start : endC [] (evSs C d__law_days.body [some (.lst L), some (.int n), none, none, none]) = endC [] (evSs C dtail (mk num found j)) := by
      show endC [] (evSs C (.asg 2 _ _ :: .asg 3 _ (.lst .A []) :: .for_ _ _ _ _ dbody :: dtail) [some (.lst L), some (.int n), none, none, none]) = _
      simp -implicitDefEqProofs (disch := omega) only [y_asg, kAsg_ok, y_ex, kEx_ok, y_ret, y_retMv, kRet_ok, y_mv, y_ite, kSi1_ok, kSi2_ok, x_frz, x_pas, x_nil, x_ret0, x_brk, x_cnt, F_bin, kBin1_ok, kBin2_ok, F_cmp, kCmp1_ok, kCmp2_ok, F_idx, kIdx1_ok, kIdx2_ok, Fs_cons, kCons1_ok, kCons2_ok, F_tup, kTup_ok, F_lst, kLst_ok, F_bi, kBi_ok, F_call, kCall_ok, rcE_ok, F_not, kNot1_ok, kNot2_ok, F_neg, kNeg_ok, F_ite, kIte1_ok, kIte2_ok, F_or, kOr1_ok, kOr2_ok, E_or0, F_and, kAnd1_ok, kAnd2_ok, E_and0, F_chn, kChn1_ok, kChn2_ok, chnO_ok, kChn3_ok, F_app, kApp_ok, appH_ok, appG_ok, E_var, E_int, E_str, E_bl, E_non, Es_nil, R.bind_ok, ofO_some, Option.map_some, t_bl, o_addI, o_sub, o_mod, c_lt, c_le, c_gt, c_ge, c_eqI, c_neI, List.cons_append, List.nil_append, getV, List.getElem?_cons_zero, List.getElem?_cons_succ, List.set_cons_zero, List.set_cons_succ, decide_eq_true_eq, Bool.not_true, Bool.not_false, i0, i1, i2, i3, o_mul]
      rw [y_for (ds := [.int 1, .int ((n : Int) + 1)]) (items := (List.range n).map fun k : Nat => .int ((1 : Int) + k)) (env1 := mk (x0 + 1009 * (x1 + 1009 * (x2 + 1009 * x3))) [] none) (by simp -implicitDefEqProofs only [mk, y_asg, kAsg_ok, y_ex, kEx_ok, y_ret, y_retMv, kRet_ok, y_mv, y_ite, kSi1_ok, kSi2_ok, x_frz, x_pas, x_nil, x_ret0, x_brk, x_cnt, F_bin, kBin1_ok, kBin2_ok, F_cmp, kCmp1_ok, kCmp2_ok, F_idx, kIdx1_ok, kIdx2_ok, Fs_cons, kCons1_ok, kCons2_ok, F_tup, kTup_ok, F_lst, kLst_ok, F_bi, kBi_ok, F_call, kCall_ok, rcE_ok, F_not, kNot1_ok, kNot2_ok, F_neg, kNeg_ok, F_ite, kIte1_ok, kIte2_ok, F_or, kOr1_ok, kOr2_ok, E_or0, F_and, kAnd1_ok, kAnd2_ok, E_and0, F_chn, kChn1_ok, kChn2_ok, chnO_ok, kChn3_ok, F_app, kApp_ok, appH_ok, appG_ok, E_var, E_int, E_str, E_bl, E_non, Es_nil, R.bind_ok, ofO_some, Option.map_some, t_bl, o_addI, o_sub, o_mod, c_lt, c_le, c_gt, c_ge, c_eqI, c_neI, List.cons_append, List.nil_append, getV, List.getElem?_cons_zero, List.getElem?_cons_succ, List.set_cons_zero, List.set_cons_succ, decide_eq_true_eq, Bool.not_true, Bool.not_false]; rfl) (by rw [it_rng2 _ _ (by omega) (by omega)]; congr 3; omega), h1, R.bind_ok, kFor_nx]
    by_cases hf : found = []
    · subst hf
      refine ⟨[1 + x4.fmod n], ?_, List.pairwise_singleton _ _, ?_, by simp⟩
      · refine start.trans ?_
        simp -implicitDefEqProofs (disch := exact hn0) only [dtail, mk, y_asg, kAsg_ok, y_ex, kEx_ok, y_ret, y_retMv, kRet_ok, y_mv, y_ite, kSi1_ok, kSi2_ok, x_frz, x_pas, x_nil, x_ret0, x_brk, x_cnt, F_bin, kBin1_ok, kBin2_ok, F_cmp, kCmp1_ok, kCmp2_ok, F_idx, kIdx1_ok, kIdx2_ok, Fs_cons, kCons1_ok, kCons2_ok, F_tup, kTup_ok, F_lst, kLst_ok, F_bi, kBi_ok, F_call, kCall_ok, rcE_ok, F_not, kNot1_ok, kNot2_ok, F_neg, kNeg_ok, F_ite, kIte1_ok, kIte2_ok, F_or, kOr1_ok, kOr2_ok, E_or0, F_and, kAnd1_ok, kAnd2_ok, E_and0, F_chn, kChn1_ok, kChn2_ok, chnO_ok, kChn3_ok, F_app, kApp_ok, appH_ok, appG_ok, E_var, E_int, E_str, E_bl, E_non, Es_nil, R.bind_ok, ofO_some, Option.map_some, t_bl, o_addI, o_sub, o_mod, c_lt, c_le, c_gt, c_ge, c_eqI, c_neI, List.cons_append, List.nil_append, getV, List.getElem?_cons_zero, List.getElem?_cons_succ, List.set_cons_zero, List.set_cons_succ, decide_eq_true_eq, Bool.not_true, Bool.not_false, t_lst, List.map_nil, List.isEmpty_nil, if_true, i4, b_tupL]
        rfl
      · intro d hd
        have : d = 1 + x4.fmod n := by simpa using hd
        have := fmod_rng x4 n (by omega)
        omega
    · refine ⟨found, ?_, ha, fun d hd => ⟨(hb d hd).1, (hb d hd).2.1⟩, hf⟩
      have hne : (found.map D.int).isEmpty = false := by
        cases found with
        | nil => exact absurd rfl hf
        | cons => rfl
      refine start.trans ?_
      simp -implicitDefEqProofs only [dtail, mk, y_asg, kAsg_ok, y_ex, kEx_ok, y_ret, y_retMv, kRet_ok, y_mv, y_ite, kSi1_ok, kSi2_ok, x_frz, x_pas, x_nil, x_ret0, x_brk, x_cnt, F_bin, kBin1_ok, kBin2_ok, F_cmp, kCmp1_ok, kCmp2_ok, F_idx, kIdx1_ok, kIdx2_ok, Fs_cons, kCons1_ok, kCons2_ok, F_tup, kTup_ok, F_lst, kLst_ok, F_bi, kBi_ok, F_call, kCall_ok, rcE_ok, F_not, kNot1_ok, kNot2_ok, F_neg, kNeg_ok, F_ite, kIte1_ok, kIte2_ok, F_or, kOr1_ok, kOr2_ok, E_or0, F_and, kAnd1_ok, kAnd2_ok, E_and0, F_chn, kChn1_ok, kChn2_ok, chnO_ok, kChn3_ok, F_app, kApp_ok, appH_ok, appG_ok, E_var, E_int, E_str, E_bl, E_non, Es_nil, R.bind_ok, ofO_some, Option.map_some, t_bl, o_addI, o_sub, o_mod, c_lt, c_le, c_gt, c_ge, c_eqI, c_neI, List.cons_append, List.nil_append, getV, List.getElem?_cons_zero, List.getElem?_cons_succ, List.set_cons_zero, List.set_cons_succ, decide_eq_true_eq, Bool.not_true, Bool.not_false, t_lst, hne, Bool.false_eq_true, if_false, b_tupL]
      rfl
  · exact absurd h2 id
  · exact absurd h id
end Lk63
end

section
set_option Elab.async false
set_option linter.all false
set_option maxRecDepth 100000
set_option maxHeartbeats 400000
namespace Lk63
open PySem VC
def eDi (d : List Int × Int) : D := .tup [.tup (d.1.map .int), .int d.2]
theorem pl_ints (is : List Int) : VC.plain (.tup (is.map D.int)) = true ∧ dep (.tup (is.map D.int)) ≤ 1 := pl_tup (plains_map D.int 0 pl_int is)
theorem nin_ok (is : List Int) (ds : List (List Int × Int)) : ∃ b, cmpD .nin (.tup (is.map .int)) (.lst (ds.map fun d => .tup (d.1.map .int))) = some b := by
  have h1 : eqOk (.tup (is.map .int)) = true := eqOk_le (pl_ints is) (by omega)
  have h2 : eqOk (.lst (ds.map fun d => .tup (d.1.map .int))) = true := eqOk_le (pl_lst (plains_map (fun d : List Int × Int => D.tup (d.1.map .int)) 1 (fun d => pl_ints d.1) ds)) (by omega)
  refine ⟨!((ds.map fun d : List Int × Int => D.tup (d.1.map .int)).any fun z => eqD z (.tup (is.map .int))), ?_⟩
  simp only [cmpD, inD, h1, h2, and_self, if_true, Option.map_some]
theorem four_pos (P : Int → Prop) (a b c d x : Int) (ha : P a) (hb : P b) (hc : P c) (hd : P d) : ∃ v : Int, idxD (.lst [.int a, .int b, .int c, .int d]) (.int (x.fmod 4)) = some (.int v) ∧ P v := by
  have r := fmod_rng x 4 (by decide)
  generalize x.fmod 4 = y at r
  have : y = 0 ∨ y = 1 ∨ y = 2 ∨ y = 3 := by omega
  rcases this with rfl | rfl | rfl | rfl
  · exact ⟨a, rfl, ha⟩
  · exact ⟨b, rfl, hb⟩
  · exact ⟨c, rfl, hc⟩
  · exact ⟨d, rfl, hd⟩
def b1 : List VC.S := [.asg 6 .F (.call 13 [] [(.var 0), (.bin .addA (.var 1) (.var 5)), (.int 8)]), .asg 7 .F (.call 15 [] [(.var 6), (.var 2)])]
def b2 : List VC.S := [.ite (.cmp .eq (.bin .mod (.idx (.var 6) (.int 7)) (.int 3)) (.int 0)) [.asg 8 .A (.bin .addA (.int 1) (.bin .mod (.idx (.var 6) (.int 5)) (.var 2))), .asg 7 .A (.bi .tup1 [(.lc [10] .A (.var 10) (.nm 10) .rng2 [(.var 8), (.bin .addA (.var 2) (.int 1))] [(.cmp .lt (.var 10) (.bin .addA (.bin .addA (.var 8) (.int 1)) (.bin .mod (.idx (.var 6) (.int 6)) (.int 4))))])])] []]
def b3 : List VC.S := [.ite (.cmp .nin (.var 7) (.lc [9] .F (.idx (.var 9) (.int 0)) (.nm 9) .e [(.var 4)] [])) [.ex (.app 4 (.tup [(.var 7), (.idx (.lst .A [(.int 1), (.bin .addA (.int 1) (.bin .mod (.idx (.var 6) (.int 6)) (.int 4))), (.bin .addA (.idx (.var 6) (.int 5)) (.int 1)), (.bin .addA (.bin .pow (.int 10) (.int 12)) (.idx (.var 6) (.int 6)))]) (.bin .mod (.idx (.var 6) (.int 4)) (.int 4)))]))] []]
def mkD (S : D) (at_ n many : Int) (ds : List (List Int × Int)) (j5 j6 j7 j8 : Option D) : VC.Env := [some S, some (.int at_), some (.int n), some (.int many), some (.lst (ds.map eDi)), j5, j6, j7, j8, none, none]
theorem t_b2 (C : Calls) (n : Nat) (hn : 1 ≤ n) (hn2 : n ≤ 1000) (S : D) (at_ many : Int) (ds : List (List Int × Int)) (j5 j8 : Option D) (L : List D) (x5 x6 x7 : Int) (i5 : idxD (.lst L) (.int 5) = some (.int x5)) (i6 : idxD (.lst L) (.int 6) = some (.int x6)) (i7 : idxD (.lst L) (.int 7) = some (.int x7)) (is : List Int) (hg : Good n is) :
    ∃ (is' : List Int) (j8' : Option D), evSs C b2 (mkD S at_ n many ds j5 (some (.lst L)) (some (.tup (is.map .int))) j8) = .ok (.nx, mkD S at_ n many ds j5 (some (.lst L)) (some (.tup (is'.map .int))) j8') ∧ Good n is' := by
  have hn0 : (n : Int) ≠ 0 := by omega
  by_cases h : x7.fmod 3 = 0
  · have r5 := fmod_rng x5 n (by omega)
    have r6 := fmod_rng x6 4 (by decide)
    obtain ⟨f, hf⟩ : ∃ f : Int, 1 + x5.fmod n = f := ⟨_, rfl⟩
    obtain ⟨w, hw⟩ : ∃ w : Int, f + 1 + x6.fmod 4 = w := ⟨_, rfl⟩
    let en := mkD S at_ n many ds j5 (some (.lst L)) (some (.tup (is.map .int))) (some (.int f))
    have e := e_lc (C := C) (env := en) (own := [10]) (s := .A) (elt := .var 10) (i := 10) (k := .rng2) (ies := [(.var 8), (.bin .addA (.var 2) (.int 1))]) (ifs := [(.cmp .lt (.var 10) (.bin .addA (.bin .addA (.var 8) (.int 1)) (.bin .mod (.idx (.var 6) (.int 6)) (.int 4))))]) (ds := [.int f, .int ((n : Int) + 1)]) (fun k : Nat => D.int (f + k)) (fun k : Nat => decide (f + (k : Int) < w)) (fun k : Nat => D.int (f + k)) (List.range ((n : Int) + 1 - f).toNat)
      (by simp -implicitDefEqProofs only [y_asg, kAsg_ok, y_ex, kEx_ok, y_ret, y_retMv, kRet_ok, y_mv, y_ite, kSi1_ok, kSi2_ok, x_frz, x_pas, x_nil, x_ret0, x_brk, x_cnt, F_bin, kBin1_ok, kBin2_ok, F_cmp, kCmp1_ok, kCmp2_ok, F_idx, kIdx1_ok, kIdx2_ok, Fs_cons, kCons1_ok, kCons2_ok, F_tup, kTup_ok, F_lst, kLst_ok, F_bi, kBi_ok, F_call, kCall_ok, rcE_ok, F_not, kNot1_ok, kNot2_ok, F_neg, kNeg_ok, F_ite, kIte1_ok, kIte2_ok, F_or, kOr1_ok, kOr2_ok, E_or0, F_and, kAnd1_ok, kAnd2_ok, E_and0, F_chn, kChn1_ok, kChn2_ok, chnO_ok, kChn3_ok, F_app, kApp_ok, appH_ok, appG_ok, E_var, E_int, E_str, E_bl, E_non, Es_nil, R.bind_ok, ofO_some, Option.map_some, t_bl, o_addI, o_sub, o_mod, c_lt, c_le, c_gt, c_ge, c_eqI, c_neI, List.cons_append, List.nil_append, getV, List.getElem?_cons_zero, List.getElem?_cons_succ, List.set_cons_zero, List.set_cons_succ, decide_eq_true_eq, Bool.not_true, Bool.not_false, en, mkD]) (it_rng2 _ _ (by omega) (by omega)) (by simp [lcOk, lim]; omega) (by decide) (by simp [en, mkD]) (fun k hk e he hi => by
        have g8 : e[8]? = some (some (.int f)) := he 8 (by decide)
        have g6 : e[6]? = some (some (.lst L)) := he 6 (by decide)
        refine ⟨ts_one ?_, fun _ => by simp -implicitDefEqProofs only [y_asg, kAsg_ok, y_ex, kEx_ok, y_ret, y_retMv, kRet_ok, y_mv, y_ite, kSi1_ok, kSi2_ok, x_frz, x_pas, x_nil, x_ret0, x_brk, x_cnt, F_bin, kBin1_ok, kBin2_ok, F_cmp, kCmp1_ok, kCmp2_ok, F_idx, kIdx1_ok, kIdx2_ok, Fs_cons, kCons1_ok, kCons2_ok, F_tup, kTup_ok, F_lst, kLst_ok, F_bi, kBi_ok, F_call, kCall_ok, rcE_ok, F_not, kNot1_ok, kNot2_ok, F_neg, kNeg_ok, F_ite, kIte1_ok, kIte2_ok, F_or, kOr1_ok, kOr2_ok, E_or0, F_and, kAnd1_ok, kAnd2_ok, E_and0, F_chn, kChn1_ok, kChn2_ok, chnO_ok, kChn3_ok, F_app, kApp_ok, appH_ok, appG_ok, E_var, E_int, E_str, E_bl, E_non, Es_nil, R.bind_ok, ofO_some, Option.map_some, t_bl, o_addI, o_sub, o_mod, c_lt, c_le, c_gt, c_ge, c_eqI, c_neI, List.cons_append, List.nil_append, getV, List.getElem?_cons_zero, List.getElem?_cons_succ, List.set_cons_zero, List.set_cons_succ, decide_eq_true_eq, Bool.not_true, Bool.not_false, hi]⟩
        simp -implicitDefEqProofs (disch := decide) only [y_asg, kAsg_ok, y_ex, kEx_ok, y_ret, y_retMv, kRet_ok, y_mv, y_ite, kSi1_ok, kSi2_ok, x_frz, x_pas, x_nil, x_ret0, x_brk, x_cnt, F_bin, kBin1_ok, kBin2_ok, F_cmp, kCmp1_ok, kCmp2_ok, F_idx, kIdx1_ok, kIdx2_ok, Fs_cons, kCons1_ok, kCons2_ok, F_tup, kTup_ok, F_lst, kLst_ok, F_bi, kBi_ok, F_call, kCall_ok, rcE_ok, F_not, kNot1_ok, kNot2_ok, F_neg, kNeg_ok, F_ite, kIte1_ok, kIte2_ok, F_or, kOr1_ok, kOr2_ok, E_or0, F_and, kAnd1_ok, kAnd2_ok, E_and0, F_chn, kChn1_ok, kChn2_ok, chnO_ok, kChn3_ok, F_app, kApp_ok, appH_ok, appG_ok, E_var, E_int, E_str, E_bl, E_non, Es_nil, R.bind_ok, ofO_some, Option.map_some, t_bl, o_addI, o_sub, o_mod, c_lt, c_le, c_gt, c_ge, c_eqI, c_neI, List.cons_append, List.nil_append, getV, List.getElem?_cons_zero, List.getElem?_cons_succ, List.set_cons_zero, List.set_cons_succ, decide_eq_true_eq, Bool.not_true, Bool.not_false, hi, g8, g6, i6, hw])
    have em : ((List.range ((n : Int) + 1 - f).toNat).filter fun k : Nat => decide (f + (k : Int) < w)).map (fun k : Nat => D.int (f + k)) = ((((List.range ((n : Int) + 1 - f).toNat).filter fun k : Nat => decide (f + (k : Int) < w)).map fun k : Nat => f + (k : Int))).map .int := by rw [List.map_map]; rfl
    rw [em] at e
    refine ⟨((List.range ((n : Int) + 1 - f).toNat).filter fun k : Nat => decide (f + (k : Int) < w)).map fun k : Nat => f + (k : Int), some (.int f), ?_, ?_, ?_, ?_⟩
    · simp only [en, mkD] at e
      simp -implicitDefEqProofs (disch := first | exact hn0 | decide) only [b2, mkD, y_asg, kAsg_ok, y_ex, kEx_ok, y_ret, y_retMv, kRet_ok, y_mv, y_ite, kSi1_ok, kSi2_ok, x_frz, x_pas, x_nil, x_ret0, x_brk, x_cnt, F_bin, kBin1_ok, kBin2_ok, F_cmp, kCmp1_ok, kCmp2_ok, F_idx, kIdx1_ok, kIdx2_ok, Fs_cons, kCons1_ok, kCons2_ok, F_tup, kTup_ok, F_lst, kLst_ok, F_bi, kBi_ok, F_call, kCall_ok, rcE_ok, F_not, kNot1_ok, kNot2_ok, F_neg, kNeg_ok, F_ite, kIte1_ok, kIte2_ok, F_or, kOr1_ok, kOr2_ok, E_or0, F_and, kAnd1_ok, kAnd2_ok, E_and0, F_chn, kChn1_ok, kChn2_ok, chnO_ok, kChn3_ok, F_app, kApp_ok, appH_ok, appG_ok, E_var, E_int, E_str, E_bl, E_non, Es_nil, R.bind_ok, ofO_some, Option.map_some, t_bl, o_addI, o_sub, o_mod, c_lt, c_le, c_gt, c_ge, c_eqI, c_neI, List.cons_append, List.nil_append, getV, List.getElem?_cons_zero, List.getElem?_cons_succ, List.set_cons_zero, List.set_cons_succ, decide_eq_true_eq, Bool.not_true, Bool.not_false, i5, i7, h, decide_true, if_true, hf, e, b_tupL]
    · refine List.pairwise_map.mpr (List.Pairwise.filter _ ?_)
      exact List.pairwise_lt_range.imp fun hab => by omega
    · intro d hd
      obtain ⟨k, hk, rfl⟩ := List.mem_map.mp hd
      have := List.mem_range.mp (List.mem_filter.mp hk).1
      omega
    · intro hnil
      have h0 : (0 : Nat) ∈ (List.range ((n : Int) + 1 - f).toNat).filter fun k : Nat => decide (f + (k : Int) < w) := by
        rw [List.mem_filter, List.mem_range]
        exact ⟨by omega, by simp; omega⟩
      rw [List.map_eq_nil_iff.mp hnil] at h0
      simp at h0
  · refine ⟨is, j8, ?_, hg⟩
    simp -implicitDefEqProofs (disch := decide) only [b2, mkD, y_asg, kAsg_ok, y_ex, kEx_ok, y_ret, y_retMv, kRet_ok, y_mv, y_ite, kSi1_ok, kSi2_ok, x_frz, x_pas, x_nil, x_ret0, x_brk, x_cnt, F_bin, kBin1_ok, kBin2_ok, F_cmp, kCmp1_ok, kCmp2_ok, F_idx, kIdx1_ok, kIdx2_ok, Fs_cons, kCons1_ok, kCons2_ok, F_tup, kTup_ok, F_lst, kLst_ok, F_bi, kBi_ok, F_call, kCall_ok, rcE_ok, F_not, kNot1_ok, kNot2_ok, F_neg, kNeg_ok, F_ite, kIte1_ok, kIte2_ok, F_or, kOr1_ok, kOr2_ok, E_or0, F_and, kAnd1_ok, kAnd2_ok, E_and0, F_chn, kChn1_ok, kChn2_ok, chnO_ok, kChn3_ok, F_app, kApp_ok, appH_ok, appG_ok, E_var, E_int, E_str, E_bl, E_non, Es_nil, R.bind_ok, ofO_some, Option.map_some, t_bl, o_addI, o_sub, o_mod, c_lt, c_le, c_gt, c_ge, c_eqI, c_neI, List.cons_append, List.nil_append, getV, List.getElem?_cons_zero, List.getElem?_cons_succ, List.set_cons_zero, List.set_cons_succ, decide_eq_true_eq, Bool.not_true, Bool.not_false, i7, h, decide_false, Bool.false_eq_true, if_false]
theorem t_b3 (C : Calls) (n : Nat) (S : D) (at_ many : Int) (ds : List (List Int × Int)) (hl : ds.length ≤ 1000) (j5 j8 : Option D) (L : List D) (x4 x5 x6 : Int) (i4 : idxD (.lst L) (.int 4) = some (.int x4)) (i5 : idxD (.lst L) (.int 5) = some (.int x5)) (i6 : idxD (.lst L) (.int 6) = some (.int x6)) (p5 : 0 ≤ x5) (p6 : 0 ≤ x6) (is : List Int) (hg : Good n is) (hd : ∀ d ∈ ds, Good n d.1 ∧ 0 ≤ d.2) :
    ∃ (ds' : List (List Int × Int)), evSs C b3 (mkD S at_ n many ds j5 (some (.lst L)) (some (.tup (is.map .int))) j8) = .ok (.nx, mkD S at_ n many ds' j5 (some (.lst L)) (some (.tup (is.map .int))) j8) ∧ ds'.length ≤ ds.length + 1 ∧ ∀ d ∈ ds', Good n d.1 ∧ 0 ≤ d.2 := by
  obtain ⟨b, hb⟩ := nin_ok is ds
  have r6 := fmod_rng x6 4 (by decide)
  have e12 : (10 : Int) ^ (12 : Int).toNat = 1000000000000 := by decide
  obtain ⟨v, hv, hv0⟩ := four_pos (fun v => 0 ≤ v) 1 (1 + x6.fmod 4) (x5 + 1) ((10 : Int) ^ (12 : Int).toNat + x6) x4 (by decide) (by omega) (by omega) (by rw [e12]; omega)
  let en := mkD S at_ n many ds j5 (some (.lst L)) (some (.tup (is.map .int))) j8
  have e := e_lc (C := C) (env := en) (own := [9]) (s := .F) (elt := .idx (.var 9) (.int 0)) (i := 9) (k := .e) (ies := [(.var 4)]) (ifs := []) (ds := [.lst (ds.map eDi)]) eDi (fun _ => true) (fun d => D.tup (d.1.map .int)) ds
    (by simp -implicitDefEqProofs only [y_asg, kAsg_ok, y_ex, kEx_ok, y_ret, y_retMv, kRet_ok, y_mv, y_ite, kSi1_ok, kSi2_ok, x_frz, x_pas, x_nil, x_ret0, x_brk, x_cnt, F_bin, kBin1_ok, kBin2_ok, F_cmp, kCmp1_ok, kCmp2_ok, F_idx, kIdx1_ok, kIdx2_ok, Fs_cons, kCons1_ok, kCons2_ok, F_tup, kTup_ok, F_lst, kLst_ok, F_bi, kBi_ok, F_call, kCall_ok, rcE_ok, F_not, kNot1_ok, kNot2_ok, F_neg, kNeg_ok, F_ite, kIte1_ok, kIte2_ok, F_or, kOr1_ok, kOr2_ok, E_or0, F_and, kAnd1_ok, kAnd2_ok, E_and0, F_chn, kChn1_ok, kChn2_ok, chnO_ok, kChn3_ok, F_app, kApp_ok, appH_ok, appG_ok, E_var, E_int, E_str, E_bl, E_non, Es_nil, R.bind_ok, ofO_some, Option.map_some, t_bl, o_addI, o_sub, o_mod, c_lt, c_le, c_gt, c_ge, c_eqI, c_neI, List.cons_append, List.nil_append, getV, List.getElem?_cons_zero, List.getElem?_cons_succ, List.set_cons_zero, List.set_cons_succ, decide_eq_true_eq, Bool.not_true, Bool.not_false, en, mkD]) rfl rfl (by decide) (by simp [en, mkD]) (fun d hd e he hi => ⟨ts_nil, fun _ => by
      have i0 : idxD (eDi d) (.int 0) = some (.tup (d.1.map .int)) := rfl
      simp -implicitDefEqProofs only [y_asg, kAsg_ok, y_ex, kEx_ok, y_ret, y_retMv, kRet_ok, y_mv, y_ite, kSi1_ok, kSi2_ok, x_frz, x_pas, x_nil, x_ret0, x_brk, x_cnt, F_bin, kBin1_ok, kBin2_ok, F_cmp, kCmp1_ok, kCmp2_ok, F_idx, kIdx1_ok, kIdx2_ok, Fs_cons, kCons1_ok, kCons2_ok, F_tup, kTup_ok, F_lst, kLst_ok, F_bi, kBi_ok, F_call, kCall_ok, rcE_ok, F_not, kNot1_ok, kNot2_ok, F_neg, kNeg_ok, F_ite, kIte1_ok, kIte2_ok, F_or, kOr1_ok, kOr2_ok, E_or0, F_and, kAnd1_ok, kAnd2_ok, E_and0, F_chn, kChn1_ok, kChn2_ok, chnO_ok, kChn3_ok, F_app, kApp_ok, appH_ok, appG_ok, E_var, E_int, E_str, E_bl, E_non, Es_nil, R.bind_ok, ofO_some, Option.map_some, t_bl, o_addI, o_sub, o_mod, c_lt, c_le, c_gt, c_ge, c_eqI, c_neI, List.cons_append, List.nil_append, getV, List.getElem?_cons_zero, List.getElem?_cons_succ, List.set_cons_zero, List.set_cons_succ, decide_eq_true_eq, Bool.not_true, Bool.not_false, hi, i0]⟩)
  rw [filt_true] at e
  have hl' : (ds.map eDi).length < lim := by rw [List.length_map]; unfold lim; omega
  simp only [en, mkD] at e
  cases b with
  | false =>
    refine ⟨ds, ?_, by omega, hd⟩
    simp -implicitDefEqProofs only [b3, mkD, y_asg, kAsg_ok, y_ex, kEx_ok, y_ret, y_retMv, kRet_ok, y_mv, y_ite, kSi1_ok, kSi2_ok, x_frz, x_pas, x_nil, x_ret0, x_brk, x_cnt, F_bin, kBin1_ok, kBin2_ok, F_cmp, kCmp1_ok, kCmp2_ok, F_idx, kIdx1_ok, kIdx2_ok, Fs_cons, kCons1_ok, kCons2_ok, F_tup, kTup_ok, F_lst, kLst_ok, F_bi, kBi_ok, F_call, kCall_ok, rcE_ok, F_not, kNot1_ok, kNot2_ok, F_neg, kNeg_ok, F_ite, kIte1_ok, kIte2_ok, F_or, kOr1_ok, kOr2_ok, E_or0, F_and, kAnd1_ok, kAnd2_ok, E_and0, F_chn, kChn1_ok, kChn2_ok, chnO_ok, kChn3_ok, F_app, kApp_ok, appH_ok, appG_ok, E_var, E_int, E_str, E_bl, E_non, Es_nil, R.bind_ok, ofO_some, Option.map_some, t_bl, o_addI, o_sub, o_mod, c_lt, c_le, c_gt, c_ge, c_eqI, c_neI, List.cons_append, List.nil_append, getV, List.getElem?_cons_zero, List.getElem?_cons_succ, List.set_cons_zero, List.set_cons_succ, decide_eq_true_eq, Bool.not_true, Bool.not_false, e, hb, Bool.false_eq_true, if_false]
  | true =>
    refine ⟨ds ++ [(is, v)], ?_, by simp, fun d h => ?_⟩
    · simp -implicitDefEqProofs (disch := decide) only [b3, mkD, y_asg, kAsg_ok, y_ex, kEx_ok, y_ret, y_retMv, kRet_ok, y_mv, y_ite, kSi1_ok, kSi2_ok, x_frz, x_pas, x_nil, x_ret0, x_brk, x_cnt, F_bin, kBin1_ok, kBin2_ok, F_cmp, kCmp1_ok, kCmp2_ok, F_idx, kIdx1_ok, kIdx2_ok, Fs_cons, kCons1_ok, kCons2_ok, F_tup, kTup_ok, F_lst, kLst_ok, F_bi, kBi_ok, F_call, kCall_ok, rcE_ok, F_not, kNot1_ok, kNot2_ok, F_neg, kNeg_ok, F_ite, kIte1_ok, kIte2_ok, F_or, kOr1_ok, kOr2_ok, E_or0, F_and, kAnd1_ok, kAnd2_ok, E_and0, F_chn, kChn1_ok, kChn2_ok, chnO_ok, kChn3_ok, F_app, kApp_ok, appH_ok, appG_ok, E_var, E_int, E_str, E_bl, E_non, Es_nil, R.bind_ok, ofO_some, Option.map_some, t_bl, o_addI, o_sub, o_mod, c_lt, c_le, c_gt, c_ge, c_eqI, c_neI, List.cons_append, List.nil_append, getV, List.getElem?_cons_zero, List.getElem?_cons_succ, List.set_cons_zero, List.set_cons_succ, decide_eq_true_eq, Bool.not_true, Bool.not_false, e, hb, if_true, i4, i5, i6, o_pow, hv, hl']
      rw [List.map_append]; rfl
    · rcases List.mem_append.mp h with h | h
      · exact hd d h
      · have : d = (is, v) := by simpa using h
        subst this
        exact ⟨hg, hv0⟩
theorem e_diaries (ns : List Int) (at_ : Nat) (n : Nat) (hn : 1 ≤ n) (hn2 : n ≤ 1000) (many : Nat) (hmany : many ≤ 100) (m : Nat) (hm : 2 ≤ m) :
    ∃ ds : List (List Int × Int), callD T m 16 [.lst (ns.map .int), .int at_, .int n, .int many] = .ok (.lst (ds.map eDi)) [] ∧ (∀ d ∈ ds, Good n d.1 ∧ 0 ≤ d.2) ∧ ds.length ≤ many := by
  obtain ⟨m, rfl⟩ : ∃ k, m = k + 1 := ⟨m - 1, by omega⟩
  rw [VC.call_def (df := d__law_diaries) rfl rfl]
  have h6 := fun k : Nat => e_nums ns (at_ + k) 8 (by omega) m (by omega)
  have h8 := fun L hL => e_days n hn hn2 L hL m (by omega)
  revert h6 h8
  generalize callD T m = C
  intro h6 h8
  have loop := forD_inv (fun k : Nat => D.int k) (fun d e => (bindTg (.nm 5) d e).bind fun e1 => evSs C (b1 ++ (b2 ++ b3)) e1)
    (fun l e => ∃ (ds : List (List Int × Int)) (j5 j6 j7 j8 : Option D), e = mkD (.lst (ns.map .int)) at_ n many ds j5 j6 j7 j8 ∧ ds.length + l.length ≤ many ∧ ∀ d ∈ ds, Good n d.1 ∧ 0 ≤ d.2)
    (fun _ _ => False) (fun _ => False) (List.range many) (mkD (.lst (ns.map .int)) at_ n many [] none none none none)
    (fun k r e ⟨ds, j5, j6, j7, j8, he, hl, hd⟩ => by
      left
      simp only [List.length_cons] at hl
      have atL : ∀ i : Nat, i < 8 → ∃ x : Int, ((numM ns (at_ + k) 8).map D.int)[i]? = some (.int x) ∧ 0 ≤ x ∧ x < 1009 := nums_at ns (at_ + k) 8
      have h6k := h6 k
      have c : ((at_ + k : Nat) : Int) = (at_ : Int) + (k : Int) := by omega
      rw [c] at h6k
      generalize (numM ns (at_ + k) 8).map D.int = L at atL h6k
      obtain ⟨is, h8k, hg⟩ := h8 L atL
      obtain ⟨x4, q4, _⟩ := atL 4 (by omega)
      obtain ⟨x5, q5, p5, _⟩ := atL 5 (by omega)
      obtain ⟨x6, q6, p6, _⟩ := atL 6 (by omega)
      obtain ⟨x7, q7, _⟩ := atL 7 (by omega)
      have i4 : idxD (.lst L) (.int 4) = some (.int x4) := i_lst (by decide) q4
      have i5 : idxD (.lst L) (.int 5) = some (.int x5) := i_lst (by decide) q5
      have i6 : idxD (.lst L) (.int 6) = some (.int x6) := i_lst (by decide) q6
      have i7 : idxD (.lst L) (.int 7) = some (.int x7) := i_lst (by decide) q7
      obtain ⟨is', j8', t2, hg'⟩ := t_b2 C n hn hn2 (.lst (ns.map .int)) at_ many ds (some (.int k)) j8 L x5 x6 x7 i5 i6 i7 is hg
      obtain ⟨ds', t3, hl', hd'⟩ := t_b3 C n (.lst (ns.map .int)) at_ many ds (by omega) (some (.int k)) j8' L x4 x5 x6 i4 i5 i6 p5 p6 is' hg' hd
      refine ⟨_, .inl ?_, ds', some (.int k), some (.lst L), some (.tup (is'.map .int)), j8', rfl, by omega, hd'⟩
      subst he
      have h6k' : C 13 [.lst (ns.map .int), .int ((at_ : Int) + (k : Int)), .int 8] = .ok (.lst L) [] := h6k
      have t1 : evSs C b1 ((mkD (.lst (ns.map .int)) at_ n many ds j5 j6 j7 j8).set 5 (some (.int k))) = .ok (.nx, mkD (.lst (ns.map .int)) at_ n many ds (some (.int k)) (some (.lst L)) (some (.tup (is.map .int))) j8) := by
        simp -implicitDefEqProofs only [b1, mkD, y_asg, kAsg_ok, y_ex, kEx_ok, y_ret, y_retMv, kRet_ok, y_mv, y_ite, kSi1_ok, kSi2_ok, x_frz, x_pas, x_nil, x_ret0, x_brk, x_cnt, F_bin, kBin1_ok, kBin2_ok, F_cmp, kCmp1_ok, kCmp2_ok, F_idx, kIdx1_ok, kIdx2_ok, Fs_cons, kCons1_ok, kCons2_ok, F_tup, kTup_ok, F_lst, kLst_ok, F_bi, kBi_ok, F_call, kCall_ok, rcE_ok, F_not, kNot1_ok, kNot2_ok, F_neg, kNeg_ok, F_ite, kIte1_ok, kIte2_ok, F_or, kOr1_ok, kOr2_ok, E_or0, F_and, kAnd1_ok, kAnd2_ok, E_and0, F_chn, kChn1_ok, kChn2_ok, chnO_ok, kChn3_ok, F_app, kApp_ok, appH_ok, appG_ok, E_var, E_int, E_str, E_bl, E_non, Es_nil, R.bind_ok, ofO_some, Option.map_some, t_bl, o_addI, o_sub, o_mod, c_lt, c_le, c_gt, c_ge, c_eqI, c_neI, List.cons_append, List.nil_append, getV, List.getElem?_cons_zero, List.getElem?_cons_succ, List.set_cons_zero, List.set_cons_succ, decide_eq_true_eq, Bool.not_true, Bool.not_false, h6k', h8k]
      rw [t_nm, evSs_cut t1, evSs_cut t2, t3])
    ⟨[], none, none, none, none, rfl, by simp, by simp⟩
  rcases loop with ⟨e2, h1, h2 | h2⟩ | ⟨d, e2, _, h⟩
  · obtain ⟨ds, j5, j6, j7, j8, rfl, hl, hd⟩ := h2
    refine ⟨ds, ?_, hd, by simpa using hl⟩
    show endC [] (evSs C [.asg 4 _ (.lst .F []), .for_ _ _ _ _ (b1 ++ (b2 ++ b3)), .retMv 4] [some (.lst (ns.map .int)), some (.int at_), some (.int n), some (.int many), none, none, none, none, none, none, none]) = _
    simp -implicitDefEqProofs only [y_asg, kAsg_ok, y_ex, kEx_ok, y_ret, y_retMv, kRet_ok, y_mv, y_ite, kSi1_ok, kSi2_ok, x_frz, x_pas, x_nil, x_ret0, x_brk, x_cnt, F_bin, kBin1_ok, kBin2_ok, F_cmp, kCmp1_ok, kCmp2_ok, F_idx, kIdx1_ok, kIdx2_ok, Fs_cons, kCons1_ok, kCons2_ok, F_tup, kTup_ok, F_lst, kLst_ok, F_bi, kBi_ok, F_call, kCall_ok, rcE_ok, F_not, kNot1_ok, kNot2_ok, F_neg, kNeg_ok, F_ite, kIte1_ok, kIte2_ok, F_or, kOr1_ok, kOr2_ok, E_or0, F_and, kAnd1_ok, kAnd2_ok, E_and0, F_chn, kChn1_ok, kChn2_ok, chnO_ok, kChn3_ok, F_app, kApp_ok, appH_ok, appG_ok, E_var, E_int, E_str, E_bl, E_non, Es_nil, R.bind_ok, ofO_some, Option.map_some, t_bl, o_addI, o_sub, o_mod, c_lt, c_le, c_gt, c_ge, c_eqI, c_neI, List.cons_append, List.nil_append, getV, List.getElem?_cons_zero, List.getElem?_cons_succ, List.set_cons_zero, List.set_cons_succ, decide_eq_true_eq, Bool.not_true, Bool.not_false]
    rw [y_for (ds := [.int (many : Nat)]) (items := (List.range many).map fun k : Nat => D.int k) (env1 := mkD (.lst (ns.map .int)) at_ n many [] none none none none) (by simp -implicitDefEqProofs only [mkD, y_asg, kAsg_ok, y_ex, kEx_ok, y_ret, y_retMv, kRet_ok, y_mv, y_ite, kSi1_ok, kSi2_ok, x_frz, x_pas, x_nil, x_ret0, x_brk, x_cnt, F_bin, kBin1_ok, kBin2_ok, F_cmp, kCmp1_ok, kCmp2_ok, F_idx, kIdx1_ok, kIdx2_ok, Fs_cons, kCons1_ok, kCons2_ok, F_tup, kTup_ok, F_lst, kLst_ok, F_bi, kBi_ok, F_call, kCall_ok, rcE_ok, F_not, kNot1_ok, kNot2_ok, F_neg, kNeg_ok, F_ite, kIte1_ok, kIte2_ok, F_or, kOr1_ok, kOr2_ok, E_or0, F_and, kAnd1_ok, kAnd2_ok, E_and0, F_chn, kChn1_ok, kChn2_ok, chnO_ok, kChn3_ok, F_app, kApp_ok, appH_ok, appG_ok, E_var, E_int, E_str, E_bl, E_non, Es_nil, R.bind_ok, ofO_some, Option.map_some, t_bl, o_addI, o_sub, o_mod, c_lt, c_le, c_gt, c_ge, c_eqI, c_neI, List.cons_append, List.nil_append, getV, List.getElem?_cons_zero, List.getElem?_cons_succ, List.set_cons_zero, List.set_cons_succ, decide_eq_true_eq, Bool.not_true, Bool.not_false]; rfl) (it_rng many (by omega)), h1, R.bind_ok, kFor_nx]
    simp -implicitDefEqProofs only [mkD, y_asg, kAsg_ok, y_ex, kEx_ok, y_ret, y_retMv, kRet_ok, y_mv, y_ite, kSi1_ok, kSi2_ok, x_frz, x_pas, x_nil, x_ret0, x_brk, x_cnt, F_bin, kBin1_ok, kBin2_ok, F_cmp, kCmp1_ok, kCmp2_ok, F_idx, kIdx1_ok, kIdx2_ok, Fs_cons, kCons1_ok, kCons2_ok, F_tup, kTup_ok, F_lst, kLst_ok, F_bi, kBi_ok, F_call, kCall_ok, rcE_ok, F_not, kNot1_ok, kNot2_ok, F_neg, kNeg_ok, F_ite, kIte1_ok, kIte2_ok, F_or, kOr1_ok, kOr2_ok, E_or0, F_and, kAnd1_ok, kAnd2_ok, E_and0, F_chn, kChn1_ok, kChn2_ok, chnO_ok, kChn3_ok, F_app, kApp_ok, appH_ok, appG_ok, E_var, E_int, E_str, E_bl, E_non, Es_nil, R.bind_ok, ofO_some, Option.map_some, t_bl, o_addI, o_sub, o_mod, c_lt, c_le, c_gt, c_ge, c_eqI, c_neI, List.cons_append, List.nil_append, getV, List.getElem?_cons_zero, List.getElem?_cons_succ, List.set_cons_zero, List.set_cons_succ, decide_eq_true_eq, Bool.not_true, Bool.not_false]
    rfl
  · exact absurd h2 id
  · exact absurd h id
end Lk63
end

section
set_option Elab.async false
set_option linter.all false
set_option maxRecDepth 100000
set_option maxHeartbeats 400000
namespace Lk63
open PySem VC
/-- how many came within i..j -/
def tfD (ds : List (List Int × Int)) (i j : Int) : Int := ((ds.filter fun d => !(d.1.filter fun t => decide (i ≤ t) && decide (t ≤ j)).isEmpty).map (·.2)).sum
theorem flat_one {α β : Type} (f : α → β) (l : List α) : l.flatMap (fun a => [f a]) = l.map f := by
  induction l with
  | nil => rfl
  | cons a l ih => rw [List.flatMap_cons, ih]; rfl
theorem e_sumc (C : Calls) (ds : List (List Int × Int)) (n : Nat) (x2 x4 : Option D) (i j : Int) : evE C (.bi .sum [(.lc [6, 7] .F (.var 7) (.tp [6, 7]) .e [(.var 0)] [(.lc [8] .F (.var 8) (.nm 8) .e [(.var 6)] [(.chn .le .le (.var 3) (.var 8) (.var 5))])])]) [some (.lst (ds.map eDi)), some (.int n), x2, some (.int i), x4, some (.int j), none, none, none] =
    .ok (.int (tfD ds i j), [some (.lst (ds.map eDi)), some (.int n), x2, some (.int i), x4, some (.int j), none, none, none]) := by
  have e := e_lcG (C := C) (env := [some (.lst (ds.map eDi)), some (.int n), x2, some (.int i), x4, some (.int j), none, none, none]) (own := [6, 7]) (s := .F) (elt := .var 7) (g := .tp [6, 7]) (k := .e) (ies := [.var 0]) (ifs := [(.lc [8] .F (.var 8) (.nm 8) .e [(.var 6)] [(.chn .le .le (.var 3) (.var 8) (.var 5))])]) (ds := [.lst (ds.map eDi)]) eDi (fun d => !(d.1.filter fun t => decide (i ≤ t) && decide (t ≤ j)).isEmpty) (fun d => .int d.2) ds
    (by simp -implicitDefEqProofs only [y_asg, kAsg_ok, y_ex, kEx_ok, y_ret, y_retMv, kRet_ok, y_mv, y_ite, kSi1_ok, kSi2_ok, x_frz, x_pas, x_nil, x_ret0, x_brk, x_cnt, F_bin, kBin1_ok, kBin2_ok, F_cmp, kCmp1_ok, kCmp2_ok, F_idx, kIdx1_ok, kIdx2_ok, Fs_cons, kCons1_ok, kCons2_ok, F_tup, kTup_ok, F_lst, kLst_ok, F_bi, kBi_ok, F_call, kCall_ok, rcE_ok, F_not, kNot1_ok, kNot2_ok, F_neg, kNeg_ok, F_ite, kIte1_ok, kIte2_ok, F_or, kOr1_ok, kOr2_ok, E_or0, F_and, kAnd1_ok, kAnd2_ok, E_and0, F_chn, kChn1_ok, kChn2_ok, chnO_ok, kChn3_ok, F_app, kApp_ok, appH_ok, appG_ok, E_var, E_int, E_str, E_bl, E_non, Es_nil, R.bind_ok, ofO_some, Option.map_some, t_bl, o_addI, o_sub, o_mod, c_lt, c_le, c_gt, c_ge, c_eqI, c_neI, List.cons_append, List.nil_append, getV, List.getElem?_cons_zero, List.getElem?_cons_succ, List.set_cons_zero, List.set_cons_succ, decide_eq_true_eq, Bool.not_true, Bool.not_false]) rfl rfl (fun d hd e he => by
      obtain ⟨y0, y1, y2, y3, y4, y5, y6, y7, y8, rfl⟩ := ex_len9 he.len
      have h3 : y3 = some (.int i) := by simpa using he.at_ 3 (by decide)
      have h5 : y5 = some (.int j) := by simpa using he.at_ 5 (by decide)
      subst h3 h5
      refine ⟨_, rfl, agr_set (i := 7) (agr_set (i := 6) he (by decide) _) (by decide) _, ?_, fun _ => ?_⟩
      · have e2 := e_lc (C := C) (env := [y0, y1, y2, some (.int i), y4, some (.int j), some (.tup (d.1.map .int)), some (.int d.2), y8]) (own := [8]) (s := .F) (elt := .var 8) (i := 8) (k := .e) (ies := [.var 6]) (ifs := [(.chn .le .le (.var 3) (.var 8) (.var 5))]) (ds := [.tup (d.1.map .int)]) D.int (fun t => decide (i ≤ t) && decide (t ≤ j)) D.int d.1
          (by simp -implicitDefEqProofs only [y_asg, kAsg_ok, y_ex, kEx_ok, y_ret, y_retMv, kRet_ok, y_mv, y_ite, kSi1_ok, kSi2_ok, x_frz, x_pas, x_nil, x_ret0, x_brk, x_cnt, F_bin, kBin1_ok, kBin2_ok, F_cmp, kCmp1_ok, kCmp2_ok, F_idx, kIdx1_ok, kIdx2_ok, Fs_cons, kCons1_ok, kCons2_ok, F_tup, kTup_ok, F_lst, kLst_ok, F_bi, kBi_ok, F_call, kCall_ok, rcE_ok, F_not, kNot1_ok, kNot2_ok, F_neg, kNeg_ok, F_ite, kIte1_ok, kIte2_ok, F_or, kOr1_ok, kOr2_ok, E_or0, F_and, kAnd1_ok, kAnd2_ok, E_and0, F_chn, kChn1_ok, kChn2_ok, chnO_ok, kChn3_ok, F_app, kApp_ok, appH_ok, appG_ok, E_var, E_int, E_str, E_bl, E_non, Es_nil, R.bind_ok, ofO_some, Option.map_some, t_bl, o_addI, o_sub, o_mod, c_lt, c_le, c_gt, c_ge, c_eqI, c_neI, List.cons_append, List.nil_append, getV, List.getElem?_cons_zero, List.getElem?_cons_succ, List.set_cons_zero, List.set_cons_succ, decide_eq_true_eq, Bool.not_true, Bool.not_false]) rfl rfl (by decide) (by simp) (fun t ht e he hi => by
            have g3 : e[3]? = some (some (.int i)) := he 3 (by decide)
            have g5 : e[5]? = some (some (.int j)) := he 5 (by decide)
            refine ⟨ts_one ?_, fun _ => by simp -implicitDefEqProofs only [y_asg, kAsg_ok, y_ex, kEx_ok, y_ret, y_retMv, kRet_ok, y_mv, y_ite, kSi1_ok, kSi2_ok, x_frz, x_pas, x_nil, x_ret0, x_brk, x_cnt, F_bin, kBin1_ok, kBin2_ok, F_cmp, kCmp1_ok, kCmp2_ok, F_idx, kIdx1_ok, kIdx2_ok, Fs_cons, kCons1_ok, kCons2_ok, F_tup, kTup_ok, F_lst, kLst_ok, F_bi, kBi_ok, F_call, kCall_ok, rcE_ok, F_not, kNot1_ok, kNot2_ok, F_neg, kNeg_ok, F_ite, kIte1_ok, kIte2_ok, F_or, kOr1_ok, kOr2_ok, E_or0, F_and, kAnd1_ok, kAnd2_ok, E_and0, F_chn, kChn1_ok, kChn2_ok, chnO_ok, kChn3_ok, F_app, kApp_ok, appH_ok, appG_ok, E_var, E_int, E_str, E_bl, E_non, Es_nil, R.bind_ok, ofO_some, Option.map_some, t_bl, o_addI, o_sub, o_mod, c_lt, c_le, c_gt, c_ge, c_eqI, c_neI, List.cons_append, List.nil_append, getV, List.getElem?_cons_zero, List.getElem?_cons_succ, List.set_cons_zero, List.set_cons_succ, decide_eq_true_eq, Bool.not_true, Bool.not_false, hi]⟩
            simp -implicitDefEqProofs only [y_asg, kAsg_ok, y_ex, kEx_ok, y_ret, y_retMv, kRet_ok, y_mv, y_ite, kSi1_ok, kSi2_ok, x_frz, x_pas, x_nil, x_ret0, x_brk, x_cnt, F_bin, kBin1_ok, kBin2_ok, F_cmp, kCmp1_ok, kCmp2_ok, F_idx, kIdx1_ok, kIdx2_ok, Fs_cons, kCons1_ok, kCons2_ok, F_tup, kTup_ok, F_lst, kLst_ok, F_bi, kBi_ok, F_call, kCall_ok, rcE_ok, F_not, kNot1_ok, kNot2_ok, F_neg, kNeg_ok, F_ite, kIte1_ok, kIte2_ok, F_or, kOr1_ok, kOr2_ok, E_or0, F_and, kAnd1_ok, kAnd2_ok, E_and0, F_chn, kChn1_ok, kChn2_ok, chnO_ok, kChn3_ok, F_app, kApp_ok, appH_ok, appG_ok, E_var, E_int, E_str, E_bl, E_non, Es_nil, R.bind_ok, ofO_some, Option.map_some, t_bl, o_addI, o_sub, o_mod, c_lt, c_le, c_gt, c_ge, c_eqI, c_neI, List.cons_append, List.nil_append, getV, List.getElem?_cons_zero, List.getElem?_cons_succ, List.set_cons_zero, List.set_cons_succ, decide_eq_true_eq, Bool.not_true, Bool.not_false, hi, g3, g5]
            by_cases h : i ≤ t
            · simp [h]
            · simp [h])
        have := ts_lst e2
        rwa [List.isEmpty_map] at this
      · simp -implicitDefEqProofs only [y_asg, kAsg_ok, y_ex, kEx_ok, y_ret, y_retMv, kRet_ok, y_mv, y_ite, kSi1_ok, kSi2_ok, x_frz, x_pas, x_nil, x_ret0, x_brk, x_cnt, F_bin, kBin1_ok, kBin2_ok, F_cmp, kCmp1_ok, kCmp2_ok, F_idx, kIdx1_ok, kIdx2_ok, Fs_cons, kCons1_ok, kCons2_ok, F_tup, kTup_ok, F_lst, kLst_ok, F_bi, kBi_ok, F_call, kCall_ok, rcE_ok, F_not, kNot1_ok, kNot2_ok, F_neg, kNeg_ok, F_ite, kIte1_ok, kIte2_ok, F_or, kOr1_ok, kOr2_ok, E_or0, F_and, kAnd1_ok, kAnd2_ok, E_and0, F_chn, kChn1_ok, kChn2_ok, chnO_ok, kChn3_ok, F_app, kApp_ok, appH_ok, appG_ok, E_var, E_int, E_str, E_bl, E_non, Es_nil, R.bind_ok, ofO_some, Option.map_some, t_bl, o_addI, o_sub, o_mod, c_lt, c_le, c_gt, c_ge, c_eqI, c_neI, List.cons_append, List.nil_append, getV, List.getElem?_cons_zero, List.getElem?_cons_succ, List.set_cons_zero, List.set_cons_succ, decide_eq_true_eq, Bool.not_true, Bool.not_false])
  have em : (ds.filter fun d => !(d.1.filter fun t => decide (i ≤ t) && decide (t ≤ j)).isEmpty).map (fun d => D.int d.2) = ((ds.filter fun d => !(d.1.filter fun t => decide (i ≤ t) && decide (t ≤ j)).isEmpty).map (·.2)).map .int := by rw [List.map_map]; rfl
  rw [em] at e
  simp -implicitDefEqProofs only [y_asg, kAsg_ok, y_ex, kEx_ok, y_ret, y_retMv, kRet_ok, y_mv, y_ite, kSi1_ok, kSi2_ok, x_frz, x_pas, x_nil, x_ret0, x_brk, x_cnt, F_bin, kBin1_ok, kBin2_ok, F_cmp, kCmp1_ok, kCmp2_ok, F_idx, kIdx1_ok, kIdx2_ok, Fs_cons, kCons1_ok, kCons2_ok, F_tup, kTup_ok, F_lst, kLst_ok, F_bi, kBi_ok, F_call, kCall_ok, rcE_ok, F_not, kNot1_ok, kNot2_ok, F_neg, kNeg_ok, F_ite, kIte1_ok, kIte2_ok, F_or, kOr1_ok, kOr2_ok, E_or0, F_and, kAnd1_ok, kAnd2_ok, E_and0, F_chn, kChn1_ok, kChn2_ok, chnO_ok, kChn3_ok, F_app, kApp_ok, appH_ok, appG_ok, E_var, E_int, E_str, E_bl, E_non, Es_nil, R.bind_ok, ofO_some, Option.map_some, t_bl, o_addI, o_sub, o_mod, c_lt, c_le, c_gt, c_ge, c_eqI, c_neI, List.cons_append, List.nil_append, getV, List.getElem?_cons_zero, List.getElem?_cons_succ, List.set_cons_zero, List.set_cons_succ, decide_eq_true_eq, Bool.not_true, Bool.not_false, e, b_sum]
  rfl
def rb : List VC.S := [.ex (.app 4 (.bi .sum [(.lc [6, 7] .F (.var 7) (.tp [6, 7]) .e [(.var 0)] [(.lc [8] .F (.var 8) (.nm 8) .e [(.var 6)] [(.chn .le .le (.var 3) (.var 8) (.var 5))])])]))]
theorem e_stretches (ds : List (List Int × Int)) (n : Nat) (hn : n ≤ 1000) (m : Nat) (hm : 1 ≤ m) : callD T m 17 [.lst (ds.map eDi), .int n] = .ok (eT (tfD ds) n) [] := by
  obtain ⟨m, rfl⟩ : ∃ k, m = k + 1 := ⟨m - 1, by omega⟩
  rw [VC.call_def (df := d__law_stretches) rfl rfl]
  generalize callD T m = C
  let mk : List D → Option D × Option D × Option D → VC.Env := fun rows j => [some (.lst (ds.map eDi)), some (.int n), some (.lst rows), j.1, j.2.1, j.2.2, none, none, none]
  have inner : ∀ (i : Nat), 1 ≤ i → i ≤ n → ∀ rows j5, ∃ j', forD (fun d e => (bindTg (.nm 5) d e).bind fun e1 => evSs C rb e1) ((List.range (n + 1 - i)).map fun k : Nat => .int ((i : Int) + k)) (mk rows (some (.int i), some (.lst []), j5)) = .ok (.nx, mk rows (some (.int i), some (eR (tfD ds) n i), j')) := fun i h1 h2 rows j5 => by
    obtain ⟨j', e⟩ := forD_acc (τ := Option D) (fun (acc : List D) j => mk rows (some (.int i), some (.lst acc), j)) (fun k : Nat => [D.int (tfD ds i ((i : Int) + k))]) (fun k : Nat => .int ((i : Int) + k)) (fun d e => (bindTg (.nm 5) d e).bind fun e1 => evSs C rb e1) 1 2000 (List.range (n + 1 - i)) [] j5 (fun _ _ => by simp) (by simp; omega) (fun k hk acc j hl => by
      refine ⟨some (.int ((i : Int) + k)), ?_⟩
      have hl' : acc.length < lim := by unfold lim; omega
      rw [t_nm]
      have es := e_sumc C ds n (some (.lst rows)) (some (.lst acc)) i ((i : Int) + k)
      show evSs C [.ex (.app 4 _)] [some (.lst (ds.map eDi)), some (.int n), some (.lst rows), some (.int i), some (.lst acc), some (.int ((i : Int) + k)), none, none, none] = _
      rw [y_ex, F_app]
      simp -implicitDefEqProofs only [List.getElem?_cons_zero, List.getElem?_cons_succ, appG_ok]
      rw [es]
      simp -implicitDefEqProofs only [y_asg, kAsg_ok, y_ex, kEx_ok, y_ret, y_retMv, kRet_ok, y_mv, y_ite, kSi1_ok, kSi2_ok, x_frz, x_pas, x_nil, x_ret0, x_brk, x_cnt, F_bin, kBin1_ok, kBin2_ok, F_cmp, kCmp1_ok, kCmp2_ok, F_idx, kIdx1_ok, kIdx2_ok, Fs_cons, kCons1_ok, kCons2_ok, F_tup, kTup_ok, F_lst, kLst_ok, F_bi, kBi_ok, F_call, kCall_ok, rcE_ok, F_not, kNot1_ok, kNot2_ok, F_neg, kNeg_ok, F_ite, kIte1_ok, kIte2_ok, F_or, kOr1_ok, kOr2_ok, E_or0, F_and, kAnd1_ok, kAnd2_ok, E_and0, F_chn, kChn1_ok, kChn2_ok, chnO_ok, kChn3_ok, F_app, kApp_ok, appH_ok, appG_ok, E_var, E_int, E_str, E_bl, E_non, Es_nil, R.bind_ok, ofO_some, Option.map_some, t_bl, o_addI, o_sub, o_mod, c_lt, c_le, c_gt, c_ge, c_eqI, c_neI, List.cons_append, List.nil_append, getV, List.getElem?_cons_zero, List.getElem?_cons_succ, List.set_cons_zero, List.set_cons_succ, decide_eq_true_eq, Bool.not_true, Bool.not_false, hl', if_true, mk])
    refine ⟨j', e.trans ?_⟩
    rw [flat_one, List.nil_append]
    have : (n + 1 - i) = ((n : Int) + 1 - i).toNat := by omega
    rw [this]
    rfl
  obtain ⟨j', e⟩ := forD_acc (τ := Option D × Option D × Option D) mk (fun k : Nat => [eR (tfD ds) n ((k : Int) + 1)]) (fun k : Nat => .int ((1 : Int) + k)) (fun d e => (bindTg (.nm 3) d e).bind fun e1 => evSs C [.asg 4 (.O .A) (.lst .A []), .for_ [.F, .A, (.O .F), .A, (.O .A), .X, .X, .X, .X] (.nm 5) .rng2 [(.var 3), (.bin .addA (.var 1) (.int 1))] rb, .frz 4, .ex (.app 2 (.var 4))] e1) 1 2000 (List.range n) [] (none, none, none) (fun _ _ => by simp) (by simp; omega) (fun k hk acc j hl => by
    have hk' := List.mem_range.mp hk
    have hl' : acc.length < lim := by unfold lim; omega
    obtain ⟨j', e⟩ := inner (1 + k) (by omega) (by omega) acc j.2.2
    have c : ((1 + k : Nat) : Int) = (1 : Int) + k := by omega
    rw [c] at e
    refine ⟨(some (.int ((1 : Int) + k)), some (eR (tfD ds) n ((1 : Int) + k)), j'), ?_⟩
    rw [t_nm]
    simp -implicitDefEqProofs only [y_asg, kAsg_ok, y_ex, kEx_ok, y_ret, y_retMv, kRet_ok, y_mv, y_ite, kSi1_ok, kSi2_ok, x_frz, x_pas, x_nil, x_ret0, x_brk, x_cnt, F_bin, kBin1_ok, kBin2_ok, F_cmp, kCmp1_ok, kCmp2_ok, F_idx, kIdx1_ok, kIdx2_ok, Fs_cons, kCons1_ok, kCons2_ok, F_tup, kTup_ok, F_lst, kLst_ok, F_bi, kBi_ok, F_call, kCall_ok, rcE_ok, F_not, kNot1_ok, kNot2_ok, F_neg, kNeg_ok, F_ite, kIte1_ok, kIte2_ok, F_or, kOr1_ok, kOr2_ok, E_or0, F_and, kAnd1_ok, kAnd2_ok, E_and0, F_chn, kChn1_ok, kChn2_ok, chnO_ok, kChn3_ok, F_app, kApp_ok, appH_ok, appG_ok, E_var, E_int, E_str, E_bl, E_non, Es_nil, R.bind_ok, ofO_some, Option.map_some, t_bl, o_addI, o_sub, o_mod, c_lt, c_le, c_gt, c_ge, c_eqI, c_neI, List.cons_append, List.nil_append, getV, List.getElem?_cons_zero, List.getElem?_cons_succ, List.set_cons_zero, List.set_cons_succ, decide_eq_true_eq, Bool.not_true, Bool.not_false, mk]
    rw [y_for (ds := [.int ((1 : Int) + k), .int ((n : Int) + 1)]) (items := (List.range (n + 1 - (1 + k))).map fun l : Nat => .int ((1 : Int) + k + l)) (env1 := mk acc (some (.int ((1 : Int) + k)), some (.lst []), j.2.2)) (by simp -implicitDefEqProofs only [mk, y_asg, kAsg_ok, y_ex, kEx_ok, y_ret, y_retMv, kRet_ok, y_mv, y_ite, kSi1_ok, kSi2_ok, x_frz, x_pas, x_nil, x_ret0, x_brk, x_cnt, F_bin, kBin1_ok, kBin2_ok, F_cmp, kCmp1_ok, kCmp2_ok, F_idx, kIdx1_ok, kIdx2_ok, Fs_cons, kCons1_ok, kCons2_ok, F_tup, kTup_ok, F_lst, kLst_ok, F_bi, kBi_ok, F_call, kCall_ok, rcE_ok, F_not, kNot1_ok, kNot2_ok, F_neg, kNeg_ok, F_ite, kIte1_ok, kIte2_ok, F_or, kOr1_ok, kOr2_ok, E_or0, F_and, kAnd1_ok, kAnd2_ok, E_and0, F_chn, kChn1_ok, kChn2_ok, chnO_ok, kChn3_ok, F_app, kApp_ok, appH_ok, appG_ok, E_var, E_int, E_str, E_bl, E_non, Es_nil, R.bind_ok, ofO_some, Option.map_some, t_bl, o_addI, o_sub, o_mod, c_lt, c_le, c_gt, c_ge, c_eqI, c_neI, List.cons_append, List.nil_append, getV, List.getElem?_cons_zero, List.getElem?_cons_succ, List.set_cons_zero, List.set_cons_succ, decide_eq_true_eq, Bool.not_true, Bool.not_false]) (by rw [it_rng2 _ _ (by omega) (by omega)]; congr 3; omega), e]
    simp -implicitDefEqProofs only [y_asg, kAsg_ok, y_ex, kEx_ok, y_ret, y_retMv, kRet_ok, y_mv, y_ite, kSi1_ok, kSi2_ok, x_frz, x_pas, x_nil, x_ret0, x_brk, x_cnt, F_bin, kBin1_ok, kBin2_ok, F_cmp, kCmp1_ok, kCmp2_ok, F_idx, kIdx1_ok, kIdx2_ok, Fs_cons, kCons1_ok, kCons2_ok, F_tup, kTup_ok, F_lst, kLst_ok, F_bi, kBi_ok, F_call, kCall_ok, rcE_ok, F_not, kNot1_ok, kNot2_ok, F_neg, kNeg_ok, F_ite, kIte1_ok, kIte2_ok, F_or, kOr1_ok, kOr2_ok, E_or0, F_and, kAnd1_ok, kAnd2_ok, E_and0, F_chn, kChn1_ok, kChn2_ok, chnO_ok, kChn3_ok, F_app, kApp_ok, appH_ok, appG_ok, E_var, E_int, E_str, E_bl, E_non, Es_nil, R.bind_ok, ofO_some, Option.map_some, t_bl, o_addI, o_sub, o_mod, c_lt, c_le, c_gt, c_ge, c_eqI, c_neI, List.cons_append, List.nil_append, getV, List.getElem?_cons_zero, List.getElem?_cons_succ, List.set_cons_zero, List.set_cons_succ, decide_eq_true_eq, Bool.not_true, Bool.not_false, kFor_nx, mk, hl', if_true]
    rw [Int.add_comm 1 (k : Int)])
  show endC [] (evSs C [.asg 2 _ (.lst .F []), .for_ _ _ _ _ [.asg 4 (.O .A) (.lst .A []), .for_ [.F, .A, (.O .F), .A, (.O .A), .X, .X, .X, .X] (.nm 5) .rng2 [(.var 3), (.bin .addA (.var 1) (.int 1))] rb, .frz 4, .ex (.app 2 (.var 4))], .retMv 2] [some (.lst (ds.map eDi)), some (.int n), none, none, none, none, none, none, none]) = _
  simp -implicitDefEqProofs only [y_asg, kAsg_ok, y_ex, kEx_ok, y_ret, y_retMv, kRet_ok, y_mv, y_ite, kSi1_ok, kSi2_ok, x_frz, x_pas, x_nil, x_ret0, x_brk, x_cnt, F_bin, kBin1_ok, kBin2_ok, F_cmp, kCmp1_ok, kCmp2_ok, F_idx, kIdx1_ok, kIdx2_ok, Fs_cons, kCons1_ok, kCons2_ok, F_tup, kTup_ok, F_lst, kLst_ok, F_bi, kBi_ok, F_call, kCall_ok, rcE_ok, F_not, kNot1_ok, kNot2_ok, F_neg, kNeg_ok, F_ite, kIte1_ok, kIte2_ok, F_or, kOr1_ok, kOr2_ok, E_or0, F_and, kAnd1_ok, kAnd2_ok, E_and0, F_chn, kChn1_ok, kChn2_ok, chnO_ok, kChn3_ok, F_app, kApp_ok, appH_ok, appG_ok, E_var, E_int, E_str, E_bl, E_non, Es_nil, R.bind_ok, ofO_some, Option.map_some, t_bl, o_addI, o_sub, o_mod, c_lt, c_le, c_gt, c_ge, c_eqI, c_neI, List.cons_append, List.nil_append, getV, List.getElem?_cons_zero, List.getElem?_cons_succ, List.set_cons_zero, List.set_cons_succ, decide_eq_true_eq, Bool.not_true, Bool.not_false]
  rw [y_for (ds := [.int 1, .int ((n : Int) + 1)]) (items := (List.range n).map fun k : Nat => .int ((1 : Int) + k)) (env1 := mk [] (none, none, none)) (by simp -implicitDefEqProofs only [mk, y_asg, kAsg_ok, y_ex, kEx_ok, y_ret, y_retMv, kRet_ok, y_mv, y_ite, kSi1_ok, kSi2_ok, x_frz, x_pas, x_nil, x_ret0, x_brk, x_cnt, F_bin, kBin1_ok, kBin2_ok, F_cmp, kCmp1_ok, kCmp2_ok, F_idx, kIdx1_ok, kIdx2_ok, Fs_cons, kCons1_ok, kCons2_ok, F_tup, kTup_ok, F_lst, kLst_ok, F_bi, kBi_ok, F_call, kCall_ok, rcE_ok, F_not, kNot1_ok, kNot2_ok, F_neg, kNeg_ok, F_ite, kIte1_ok, kIte2_ok, F_or, kOr1_ok, kOr2_ok, E_or0, F_and, kAnd1_ok, kAnd2_ok, E_and0, F_chn, kChn1_ok, kChn2_ok, chnO_ok, kChn3_ok, F_app, kApp_ok, appH_ok, appG_ok, E_var, E_int, E_str, E_bl, E_non, Es_nil, R.bind_ok, ofO_some, Option.map_some, t_bl, o_addI, o_sub, o_mod, c_lt, c_le, c_gt, c_ge, c_eqI, c_neI, List.cons_append, List.nil_append, getV, List.getElem?_cons_zero, List.getElem?_cons_succ, List.set_cons_zero, List.set_cons_succ, decide_eq_true_eq, Bool.not_true, Bool.not_false]) (by rw [it_rng2 _ _ (by omega) (by omega)]; congr 3; omega), e]
  simp -implicitDefEqProofs only [y_asg, kAsg_ok, y_ex, kEx_ok, y_ret, y_retMv, kRet_ok, y_mv, y_ite, kSi1_ok, kSi2_ok, x_frz, x_pas, x_nil, x_ret0, x_brk, x_cnt, F_bin, kBin1_ok, kBin2_ok, F_cmp, kCmp1_ok, kCmp2_ok, F_idx, kIdx1_ok, kIdx2_ok, Fs_cons, kCons1_ok, kCons2_ok, F_tup, kTup_ok, F_lst, kLst_ok, F_bi, kBi_ok, F_call, kCall_ok, rcE_ok, F_not, kNot1_ok, kNot2_ok, F_neg, kNeg_ok, F_ite, kIte1_ok, kIte2_ok, F_or, kOr1_ok, kOr2_ok, E_or0, F_and, kAnd1_ok, kAnd2_ok, E_and0, F_chn, kChn1_ok, kChn2_ok, chnO_ok, kChn3_ok, F_app, kApp_ok, appH_ok, appG_ok, E_var, E_int, E_str, E_bl, E_non, Es_nil, R.bind_ok, ofO_some, Option.map_some, t_bl, o_addI, o_sub, o_mod, c_lt, c_le, c_gt, c_ge, c_eqI, c_neI, List.cons_append, List.nil_append, getV, List.getElem?_cons_zero, List.getElem?_cons_succ, List.set_cons_zero, List.set_cons_succ, decide_eq_true_eq, Bool.not_true, Bool.not_false, kFor_nx, mk, flat_one]
  rfl
end Lk63
end

section
set_option Elab.async false
set_option linter.all false
set_option maxRecDepth 100000
set_option maxHeartbeats 400000
namespace Lk63
open PySem VC
/-! steps, counted along the paths -/
def path (n : Nat) (is : List Int) : List Int := (0 :: is) ++ [(n : Int) + 1]
def hit (P : List Int) (a b : Int) (c : Int) (k : Nat) : Int := if P.getD k 0 = a ∧ P.getD (k + 1) 0 = b then c else 0
def occ (P : List Int) (a b c : Int) : Int := ((List.range (P.length - 1)).map (hit P a b c)).sum
def cntD (n : Nat) (ds : List (List Int × Int)) (a b : Int) : Int := (ds.map fun d => occ (path n d.1) a b d.2).sum
/-- a dict of steps that says cnt -/
structure Dic (ks : List (List Key)) (vs : List D) (cnt : Int → Int → Int) (N : Nat) : Prop where
  len : ks.length = vs.length
  le : ks.length ≤ N
  say : ∀ a b : Int, (lookD ks vs [.inl a, .inl b]).getD (.int 0) = .int (cnt a b)
theorem Dic.put {ks : List (List Key)} {vs : List D} {cnt : Int → Int → Int} {N : Nat} (h : Dic ks vs cnt N) (x y c : Int) : Dic (putKs ks [.inl x, .inl y]) (putDs ks vs [.inl x, .inl y] (.int (cnt x y + c))) (fun a b => cnt a b + if x = a ∧ y = b then c else 0) (N + 1) where
  len := put_len _ _ h.len
  le := Nat.le_trans putKs_le (by have := h.le; omega)
  say := fun a b => by
    rw [look_put _ _ _ h.len]
    by_cases e : x = a ∧ y = b
    · obtain ⟨rfl, rfl⟩ := e
      rw [if_pos rfl, if_pos ⟨rfl, rfl⟩]; rfl
    · have : ¬ ([Sum.inl x, Sum.inl y] : List Key) = [Sum.inl a, Sum.inl b] := fun z => e (by
        injection z with z1 z2
        injection z2 with z2 _
        injection z1 with z1
        injection z2 with z2
        exact ⟨z1, z2⟩)
      rw [if_neg this, if_neg e, h.say]
      simp
def cb : List VC.S := [.set 2 (.tup [(.idx (.var 5) (.var 6)), (.idx (.var 5) (.bin .addA (.var 6) (.int 1)))]) (.bin .addA (.dget2 .A (.var 2) (.tup [(.idx (.var 5) (.var 6)), (.idx (.var 5) (.bin .addA (.var 6) (.int 1)))]) (.int 0)) (.var 4))]
def mkC (S : D) (n : Int) (ks : List (List Key)) (vs : List D) (j3 j4 j5 j6 : Option D) : VC.Env := [some S, some (.int n), some (.dT ks vs), j3, j4, j5, j6]
theorem c_turn (C : Calls) (S : D) (n : Int) (ks : List (List Key)) (vs : List D) (cnt : Int → Int → Int) (N : Nat) (hN : N < 1000000) (h : Dic ks vs cnt N) (j3 j6 : Option D) (c : Int) (P : List Int) (k : Nat) (hk : k + 1 < P.length) :
    ∃ ks' vs', evSs C cb (mkC S n ks vs j3 (some (.int c)) (some (.lst (P.map .int))) (some (.int k))) = .ok (.nx, mkC S n ks' vs' j3 (some (.int c)) (some (.lst (P.map .int))) (some (.int k))) ∧ Dic ks' vs' (fun a b => cnt a b + hit P a b c k) (N + 1) := by
  refine ⟨_, _, ?_, h.put (P.getD k 0) (P.getD (k + 1) 0) c⟩
  have i1 : idxD (.lst (P.map .int)) (.int k) = some (.int (P.getD k 0)) := i_nat (by
    rw [List.getElem?_map, List.getElem?_eq_getElem (by omega), Option.map_some, List.getD_eq_getElem?_getD, List.getElem?_eq_getElem (by omega), Option.getD_some])
  have i2 : idxD (.lst (P.map .int)) (.int ((k : Int) + 1)) = some (.int (P.getD (k + 1) 0)) := by
    rw [show (k : Int) + 1 = ((k + 1 : Nat) : Int) by omega]
    exact i_nat (by rw [List.getElem?_map, List.getElem?_eq_getElem (by omega), Option.map_some, List.getD_eq_getElem?_getD, List.getElem?_eq_getElem (by omega), Option.getD_some])
  have hl : ks.length < lim := by have := h.le; unfold lim; omega
  let en := mkC S n ks vs j3 (some (.int c)) (some (.lst (P.map .int))) (some (.int k))
  have et : evE C (.tup [(.idx (.var 5) (.var 6)), (.idx (.var 5) (.bin .addA (.var 6) (.int 1)))]) en = .ok (.tup [.int (P.getD k 0), .int (P.getD (k + 1) 0)], en) := by
    simp -implicitDefEqProofs only [y_asg, kAsg_ok, y_ex, kEx_ok, y_ret, y_retMv, kRet_ok, y_mv, y_ite, kSi1_ok, kSi2_ok, x_frz, x_pas, x_nil, x_ret0, x_brk, x_cnt, F_bin, kBin1_ok, kBin2_ok, F_cmp, kCmp1_ok, kCmp2_ok, F_idx, kIdx1_ok, kIdx2_ok, Fs_cons, kCons1_ok, kCons2_ok, F_tup, kTup_ok, F_lst, kLst_ok, F_bi, kBi_ok, F_call, kCall_ok, rcE_ok, F_not, kNot1_ok, kNot2_ok, F_neg, kNeg_ok, F_ite, kIte1_ok, kIte2_ok, F_or, kOr1_ok, kOr2_ok, E_or0, F_and, kAnd1_ok, kAnd2_ok, E_and0, F_chn, kChn1_ok, kChn2_ok, chnO_ok, kChn3_ok, F_app, kApp_ok, appH_ok, appG_ok, E_var, E_int, E_str, E_bl, E_non, Es_nil, R.bind_ok, ofO_some, Option.map_some, t_bl, o_addI, o_sub, o_mod, c_lt, c_le, c_gt, c_ge, c_eqI, c_neI, List.cons_append, List.nil_append, getV, List.getElem?_cons_zero, List.getElem?_cons_succ, List.set_cons_zero, List.set_cons_succ, decide_eq_true_eq, Bool.not_true, Bool.not_false, en, mkC, i1, i2]
  have eg : evE C (.dget2 .A (.var 2) (.tup [(.idx (.var 5) (.var 6)), (.idx (.var 5) (.bin .addA (.var 6) (.int 1)))]) (.int 0)) en = .ok (.int (cnt (P.getD k 0) (P.getD (k + 1) 0)), en) := by
    rw [F_dget2T (ks := ks) (ds := vs) (kk := [.inl (P.getD k 0), .inl (P.getD (k + 1) 0)]) (by simp -implicitDefEqProofs only [y_asg, kAsg_ok, y_ex, kEx_ok, y_ret, y_retMv, kRet_ok, y_mv, y_ite, kSi1_ok, kSi2_ok, x_frz, x_pas, x_nil, x_ret0, x_brk, x_cnt, F_bin, kBin1_ok, kBin2_ok, F_cmp, kCmp1_ok, kCmp2_ok, F_idx, kIdx1_ok, kIdx2_ok, Fs_cons, kCons1_ok, kCons2_ok, F_tup, kTup_ok, F_lst, kLst_ok, F_bi, kBi_ok, F_call, kCall_ok, rcE_ok, F_not, kNot1_ok, kNot2_ok, F_neg, kNeg_ok, F_ite, kIte1_ok, kIte2_ok, F_or, kOr1_ok, kOr2_ok, E_or0, F_and, kAnd1_ok, kAnd2_ok, E_and0, F_chn, kChn1_ok, kChn2_ok, chnO_ok, kChn3_ok, F_app, kApp_ok, appH_ok, appG_ok, E_var, E_int, E_str, E_bl, E_non, Es_nil, R.bind_ok, ofO_some, Option.map_some, t_bl, o_addI, o_sub, o_mod, c_lt, c_le, c_gt, c_ge, c_eqI, c_neI, List.cons_append, List.nil_append, getV, List.getElem?_cons_zero, List.getElem?_cons_succ, List.set_cons_zero, List.set_cons_succ, decide_eq_true_eq, Bool.not_true, Bool.not_false, en, mkC]) et rfl E_int, h.say]
  have ev : evE C (.bin .addA (.dget2 .A (.var 2) (.tup [(.idx (.var 5) (.var 6)), (.idx (.var 5) (.bin .addA (.var 6) (.int 1)))]) (.int 0)) (.var 4)) en = .ok (.int (cnt (P.getD k 0) (P.getD (k + 1) 0) + c), en) := by
    rw [F_bin, eg]
    simp -implicitDefEqProofs only [y_asg, kAsg_ok, y_ex, kEx_ok, y_ret, y_retMv, kRet_ok, y_mv, y_ite, kSi1_ok, kSi2_ok, x_frz, x_pas, x_nil, x_ret0, x_brk, x_cnt, F_bin, kBin1_ok, kBin2_ok, F_cmp, kCmp1_ok, kCmp2_ok, F_idx, kIdx1_ok, kIdx2_ok, Fs_cons, kCons1_ok, kCons2_ok, F_tup, kTup_ok, F_lst, kLst_ok, F_bi, kBi_ok, F_call, kCall_ok, rcE_ok, F_not, kNot1_ok, kNot2_ok, F_neg, kNeg_ok, F_ite, kIte1_ok, kIte2_ok, F_or, kOr1_ok, kOr2_ok, E_or0, F_and, kAnd1_ok, kAnd2_ok, E_and0, F_chn, kChn1_ok, kChn2_ok, chnO_ok, kChn3_ok, F_app, kApp_ok, appH_ok, appG_ok, E_var, E_int, E_str, E_bl, E_non, Es_nil, R.bind_ok, ofO_some, Option.map_some, t_bl, o_addI, o_sub, o_mod, c_lt, c_le, c_gt, c_ge, c_eqI, c_neI, List.cons_append, List.nil_append, getV, List.getElem?_cons_zero, List.getElem?_cons_succ, List.set_cons_zero, List.set_cons_succ, decide_eq_true_eq, Bool.not_true, Bool.not_false, en, mkC]
  show evSs C cb en = _
  unfold cb
  rw [y_set (ks := ks) (ds := vs) (kk := [.inl (P.getD k 0), .inl (P.getD (k + 1) 0)]) ev rfl et rfl hl, x_nil]
  rfl
theorem range_pre {q : Nat} {pre r : List Nat} {k : Nat} (h : pre ++ k :: r = List.range q) : k < q ∧ pre.length = k := by
  have h1 : k ∈ List.range q := by rw [← h]; simp
  have hk := List.mem_range.mp h1
  refine ⟨hk, ?_⟩
  have h2 : (pre ++ k :: r)[pre.length]? = some k := by simp
  rw [h] at h2
  have h3 : pre.length < q := by
    have := congrArg List.length h
    simp at this; omega
  rw [List.getElem?_range h3] at h2
  simpa using h2
/-- along one path -/
theorem c_path (C : Calls) (S : D) (n : Int) (ks : List (List Key)) (vs : List D) (cnt : Int → Int → Int) (N : Nat) (P : List Int) (hN : N + P.length < 1000000) (h : Dic ks vs cnt N) (j3 j6 : Option D) (c : Int) (hP : 1 ≤ P.length) :
    ∃ ks' vs' j6', forD (fun d e => (bindTg (.nm 6) d e).bind fun e1 => evSs C cb e1) ((List.range (P.length - 1)).map fun k : Nat => D.int k) (mkC S n ks vs j3 (some (.int c)) (some (.lst (P.map .int))) j6) = .ok (.nx, mkC S n ks' vs' j3 (some (.int c)) (some (.lst (P.map .int))) j6') ∧ Dic ks' vs' (fun a b => cnt a b + occ P a b c) (N + P.length) := by
  obtain ⟨e2, h1, ks', vs', j6', rfl, hd⟩ := forD_pre (fun k : Nat => D.int k) (fun d e => (bindTg (.nm 6) d e).bind fun e1 => evSs C cb e1)
    (fun pre e => ∃ ks' vs' j6', e = mkC S n ks' vs' j3 (some (.int c)) (some (.lst (P.map .int))) j6' ∧ Dic ks' vs' (fun a b => cnt a b + (pre.map (hit P a b c)).sum) (N + pre.length)) (List.range (P.length - 1))
    (fun pre k r e hpre ⟨ks1, vs1, j1, he, d1⟩ => by
      obtain ⟨hk, hl⟩ := range_pre hpre
      subst he
      obtain ⟨ks2, vs2, e2, d2⟩ := c_turn C S n ks1 vs1 _ (N + pre.length) (by omega) d1 j3 j1 c P k (by omega)
      refine ⟨_, by rw [t_nm]; exact e2, ks2, vs2, _, rfl, ?_⟩
      have e : (fun a b => cnt a b + (pre.map (hit P a b c)).sum + hit P a b c k) = fun a b => cnt a b + ((pre ++ [k]).map (hit P a b c)).sum := by
        funext a b
        rw [List.map_append, sum_app]; simp; omega
      rw [e] at d2
      rw [List.length_append]
      exact d2) (List.range (P.length - 1)) [] _ rfl ⟨ks, vs, j6, rfl, by simpa using h⟩
  refine ⟨ks', vs', j6', h1, hd.len, ?_, hd.say⟩
  have := hd.le
  rw [List.length_range] at this
  omega
theorem e_counted (ds : List (List Int × Int)) (n : Nat) (hn : n ≤ 1000) (hg : ∀ d ∈ ds, d.1.length ≤ n) (hl : ds.length ≤ 100) (m : Nat) (hm : 1 ≤ m) :
    ∃ ks vs, callD T m 18 [.lst (ds.map eDi), .int n] = .ok (.dT ks vs) [] ∧ ∀ a b : Int, (lookD ks vs [.inl a, .inl b]).getD (.int 0) = .int (cntD n ds a b) := by
  obtain ⟨m, rfl⟩ : ∃ k, m = k + 1 := ⟨m - 1, by omega⟩
  rw [VC.call_def (df := d__law_counted) rfl rfl]
  generalize callD T m = C
  obtain ⟨e2, h1, ks, vs, j3, j4, j5, j6, rfl, hd⟩ := forD_pre eDi (fun d e => (bindTg (.tp [3, 4]) d e).bind fun e1 => evSs C [.asg 5 .F (.bin (.addL .F) (.bin (.addL .F) (.lst .A [(.int 0)]) (.bi (.list1 .F) [(.var 3)])) (.lst .A [(.bin .addA (.var 1) (.int 1))])), .for_ [.F, .A, (.T .A), .F, .F, .F, .X] (.nm 6) .rng1 [(.bin .sub (.bi .len [(.var 5)]) (.int 1))] cb] e1)
    (fun pre e => ∃ ks vs j3 j4 j5 j6, e = mkC (.lst (ds.map eDi)) n ks vs j3 j4 j5 j6 ∧ Dic ks vs (cntD n pre) (pre.length * (n + 2))) ds
    (fun pre d r e hpre ⟨ks, vs, j3, j4, j5, j6, he, hd⟩ => by
      subst he
      have hdm : d ∈ ds := by rw [← hpre]; simp
      have hdl := hg d hdm
      have hpl : pre.length < ds.length := by rw [← hpre]; simp
      have hmul : pre.length * (n + 2) ≤ 100 * 1002 := Nat.mul_le_mul (by omega) (by omega)
      have hPl : (path n d.1).length = d.1.length + 2 := by simp [path]
      obtain ⟨ks', vs', j6', e, hd'⟩ := c_path C (.lst (ds.map eDi)) n ks vs (cntD n pre) (pre.length * (n + 2)) (path n d.1) (by omega) hd (some (.tup (d.1.map .int))) j6 d.2 (by omega)
      refine ⟨mkC (.lst (ds.map eDi)) n ks' vs' (some (.tup (d.1.map .int))) (some (.int d.2)) (some (.lst ((path n d.1).map .int))) j6', ?_, ks', vs', _, _, _, _, rfl, hd'.len, ?_, ?_⟩
      · rw [show eDi d = .tup [.tup (d.1.map .int), .int d.2] from rfl, t_tp (e1 := mkC (.lst (ds.map eDi)) n ks vs (some (.tup (d.1.map .int))) (some (.int d.2)) j5 j6) rfl]
        have a1 : op2D (.addL .F) (.lst [.int 0]) (.lst (d.1.map .int)) = some (.lst ((0 :: d.1).map .int)) := by
          rw [o_addL _ _ _ (by simp [lim]; omega)]; rfl
        have a2 : op2D (.addL .F) (.lst ((0 :: d.1).map .int)) (.lst [.int ((n : Int) + 1)]) = some (.lst ((path n d.1).map .int)) := by
          rw [o_addL _ _ _ (by simp [lim]; omega)]
          unfold path
          rw [List.map_append]; rfl
        simp -implicitDefEqProofs only [mkC, y_asg, kAsg_ok, y_ex, kEx_ok, y_ret, y_retMv, kRet_ok, y_mv, y_ite, kSi1_ok, kSi2_ok, x_frz, x_pas, x_nil, x_ret0, x_brk, x_cnt, F_bin, kBin1_ok, kBin2_ok, F_cmp, kCmp1_ok, kCmp2_ok, F_idx, kIdx1_ok, kIdx2_ok, Fs_cons, kCons1_ok, kCons2_ok, F_tup, kTup_ok, F_lst, kLst_ok, F_bi, kBi_ok, F_call, kCall_ok, rcE_ok, F_not, kNot1_ok, kNot2_ok, F_neg, kNeg_ok, F_ite, kIte1_ok, kIte2_ok, F_or, kOr1_ok, kOr2_ok, E_or0, F_and, kAnd1_ok, kAnd2_ok, E_and0, F_chn, kChn1_ok, kChn2_ok, chnO_ok, kChn3_ok, F_app, kApp_ok, appH_ok, appG_ok, E_var, E_int, E_str, E_bl, E_non, Es_nil, R.bind_ok, ofO_some, Option.map_some, t_bl, o_addI, o_sub, o_mod, c_lt, c_le, c_gt, c_ge, c_eqI, c_neI, List.cons_append, List.nil_append, getV, List.getElem?_cons_zero, List.getElem?_cons_succ, List.set_cons_zero, List.set_cons_succ, decide_eq_true_eq, Bool.not_true, Bool.not_false, b_listT, a1, a2]
        have hlen : biD .len [.lst ((path n d.1).map .int)] = some (.int ((path n d.1).length : Int)) := by
          have := b_len ((path n d.1).map D.int)
          rwa [List.length_map] at this
        rw [y_for (ds := [.int (((path n d.1).length - 1 : Nat) : Int)]) (items := (List.range ((path n d.1).length - 1)).map fun k : Nat => D.int k) (env1 := mkC (.lst (ds.map eDi)) n ks vs (some (.tup (d.1.map .int))) (some (.int d.2)) (some (.lst ((path n d.1).map .int))) j6) (by
          simp -implicitDefEqProofs only [mkC, y_asg, kAsg_ok, y_ex, kEx_ok, y_ret, y_retMv, kRet_ok, y_mv, y_ite, kSi1_ok, kSi2_ok, x_frz, x_pas, x_nil, x_ret0, x_brk, x_cnt, F_bin, kBin1_ok, kBin2_ok, F_cmp, kCmp1_ok, kCmp2_ok, F_idx, kIdx1_ok, kIdx2_ok, Fs_cons, kCons1_ok, kCons2_ok, F_tup, kTup_ok, F_lst, kLst_ok, F_bi, kBi_ok, F_call, kCall_ok, rcE_ok, F_not, kNot1_ok, kNot2_ok, F_neg, kNeg_ok, F_ite, kIte1_ok, kIte2_ok, F_or, kOr1_ok, kOr2_ok, E_or0, F_and, kAnd1_ok, kAnd2_ok, E_and0, F_chn, kChn1_ok, kChn2_ok, chnO_ok, kChn3_ok, F_app, kApp_ok, appH_ok, appG_ok, E_var, E_int, E_str, E_bl, E_non, Es_nil, R.bind_ok, ofO_some, Option.map_some, t_bl, o_addI, o_sub, o_mod, c_lt, c_le, c_gt, c_ge, c_eqI, c_neI, List.cons_append, List.nil_append, getV, List.getElem?_cons_zero, List.getElem?_cons_succ, List.set_cons_zero, List.set_cons_succ, decide_eq_true_eq, Bool.not_true, Bool.not_false, hlen]
          rw [show (((path n d.1).length - 1 : Nat) : Int) = ((path n d.1).length : Int) - 1 by omega]) (it_rng _ (by omega)), e, R.bind_ok, kFor_nx, x_nil]
        rfl
      · have := hd'.le
        rw [List.length_append, List.length_singleton, Nat.succ_mul]
        omega
      · intro a b
        rw [hd'.say]
        congr 1
        unfold cntD
        rw [List.map_append, sum_app]; simp) ds [] (mkC (.lst (ds.map eDi)) n [] [] none none none none) rfl ⟨[], [], none, none, none, none, rfl, rfl, by simp, fun a b => rfl⟩
  refine ⟨ks, vs, ?_, hd.say⟩
  show endC [] (evSs C [.asg 2 _ (.dnew true .A), .for_ _ _ _ _ [.asg 5 _ _, .for_ _ _ _ _ cb], .retMv 2] [some (.lst (ds.map eDi)), some (.int n), none, none, none, none, none]) = _
  have en : evE C (.dnew true .A) [some (.lst (ds.map eDi)), some (.int n), none, none, none, none, none] = .ok (.dT [] [], [some (.lst (ds.map eDi)), some (.int n), none, none, none, none, none]) := by simp only [evE, if_true]
  rw [y_asg, en, R.bind_ok, kAsg_ok]
  rw [y_for (ds := [.lst (ds.map eDi)]) (items := ds.map eDi) (env1 := mkC (.lst (ds.map eDi)) n [] [] none none none none) (by simp -implicitDefEqProofs only [mkC, y_asg, kAsg_ok, y_ex, kEx_ok, y_ret, y_retMv, kRet_ok, y_mv, y_ite, kSi1_ok, kSi2_ok, x_frz, x_pas, x_nil, x_ret0, x_brk, x_cnt, F_bin, kBin1_ok, kBin2_ok, F_cmp, kCmp1_ok, kCmp2_ok, F_idx, kIdx1_ok, kIdx2_ok, Fs_cons, kCons1_ok, kCons2_ok, F_tup, kTup_ok, F_lst, kLst_ok, F_bi, kBi_ok, F_call, kCall_ok, rcE_ok, F_not, kNot1_ok, kNot2_ok, F_neg, kNeg_ok, F_ite, kIte1_ok, kIte2_ok, F_or, kOr1_ok, kOr2_ok, E_or0, F_and, kAnd1_ok, kAnd2_ok, E_and0, F_chn, kChn1_ok, kChn2_ok, chnO_ok, kChn3_ok, F_app, kApp_ok, appH_ok, appG_ok, E_var, E_int, E_str, E_bl, E_non, Es_nil, R.bind_ok, ofO_some, Option.map_some, t_bl, o_addI, o_sub, o_mod, c_lt, c_le, c_gt, c_ge, c_eqI, c_neI, List.cons_append, List.nil_append, getV, List.getElem?_cons_zero, List.getElem?_cons_succ, List.set_cons_zero, List.set_cons_succ, decide_eq_true_eq, Bool.not_true, Bool.not_false]) rfl, h1, R.bind_ok, kFor_nx]
  simp -implicitDefEqProofs only [mkC, y_asg, kAsg_ok, y_ex, kEx_ok, y_ret, y_retMv, kRet_ok, y_mv, y_ite, kSi1_ok, kSi2_ok, x_frz, x_pas, x_nil, x_ret0, x_brk, x_cnt, F_bin, kBin1_ok, kBin2_ok, F_cmp, kCmp1_ok, kCmp2_ok, F_idx, kIdx1_ok, kIdx2_ok, Fs_cons, kCons1_ok, kCons2_ok, F_tup, kTup_ok, F_lst, kLst_ok, F_bi, kBi_ok, F_call, kCall_ok, rcE_ok, F_not, kNot1_ok, kNot2_ok, F_neg, kNeg_ok, F_ite, kIte1_ok, kIte2_ok, F_or, kOr1_ok, kOr2_ok, E_or0, F_and, kAnd1_ok, kAnd2_ok, E_and0, F_chn, kChn1_ok, kChn2_ok, chnO_ok, kChn3_ok, F_app, kApp_ok, appH_ok, appG_ok, E_var, E_int, E_str, E_bl, E_non, Es_nil, R.bind_ok, ofO_some, Option.map_some, t_bl, o_addI, o_sub, o_mod, c_lt, c_le, c_gt, c_ge, c_eqI, c_neI, List.cons_append, List.nil_append, getV, List.getElem?_cons_zero, List.getElem?_cons_succ, List.set_cons_zero, List.set_cons_succ, decide_eq_true_eq, Bool.not_true, Bool.not_false]
  rfl
end Lk63
end

section
set_option Elab.async false
set_option linter.all false
set_option maxRecDepth 100000
set_option maxHeartbeats 400000
namespace Lk63
open PySem VC
/-! the plain law: what is counted along the paths is what the stretches give -/
def tf1 (d : List Int × Int) (i j : Int) : Int := if (!(d.1.filter fun t => decide (i ≤ t) && decide (t ≤ j)).isEmpty) = true then d.2 else 0
theorem tfD_cons (d : List Int × Int) (ds : List (List Int × Int)) (i j : Int) : tfD (d :: ds) i j = tf1 d i j + tfD ds i j := by
  unfold tfD tf1
  rw [sum_filter, sum_filter, List.map_cons, List.sum_cons]
theorem Mi_add (f g h : Int → Int → Int) (n : Nat) (e : ∀ i j, f i j = g i j + h i j) (i j : Int) : Mi f n i j = Mi g n i j + Mi h n i j := by
  unfold Mi
  split
  · rfl
  · split
    · exact e _ _
    · rw [e, e]; omega
theorem step_cons (d : List Int × Int) (ds : List (List Int × Int)) (n : Nat) (a b : Int) : stepM (tfD (d :: ds)) n a b = stepM (tf1 d) n a b + stepM (tfD ds) n a b := by
  have h := Mi_add (tfD (d :: ds)) (tf1 d) (tfD ds) n (tfD_cons d ds)
  unfold stepM
  rw [h, h, h, h]
  omega
def Hit (P : List Int) (i j : Int) : Prop := ∃ p ∈ P, i ≤ p ∧ p ≤ j
theorem mem_path (n : Nat) (is : List Int) (p : Int) : p ∈ path n is ↔ p = 0 ∨ p ∈ is ∨ p = (n : Int) + 1 := by
  unfold path
  simp
theorem path_asc (n : Nat) (is : List Int) (g : Good n is) : (path n is).Pairwise (· < ·) := by
  unfold path
  refine List.pairwise_append.mpr ⟨List.pairwise_cons.mpr ⟨fun d hd => by have := g.rng d hd; omega, g.asc⟩, List.pairwise_singleton _ _, fun x hx y hy => ?_⟩
  have : y = (n : Int) + 1 := by simpa using hy
  rcases List.mem_cons.mp hx with rfl | h
  · omega
  · have := g.rng x h; omega
open Classical in
theorem Mi_one (n : Nat) (hn : 1 ≤ n) (is : List Int) (c : Int) (g : Good n is) (i j : Int) (h1 : 0 ≤ i) (h2 : i ≤ (n : Int) + 1) (h3 : 0 ≤ j) (h4 : j ≤ (n : Int) + 1) : Mi (tf1 (is, c)) n i j = if Hit (path n is) i j then 0 else c := by
  have one : ∀ i j : Int, tf1 (is, c) i j = if ∃ t ∈ is, i ≤ t ∧ t ≤ j then c else 0 := fun i j => by
    unfold tf1
    have : (!(is.filter fun t => decide (i ≤ t) && decide (t ≤ j)).isEmpty) = true ↔ ∃ t ∈ is, i ≤ t ∧ t ≤ j := by
      rw [Bool.not_eq_true', List.isEmpty_eq_false_iff_exists_mem]
      constructor
      · rintro ⟨t, ht⟩
        obtain ⟨a, b⟩ := List.mem_filter.mp ht
        exact ⟨t, a, by simpa using b⟩
      · rintro ⟨t, a, b⟩
        exact ⟨t, List.mem_filter.mpr ⟨a, by simpa using b⟩⟩
    by_cases h : ∃ t ∈ is, i ≤ t ∧ t ≤ j
    · rw [if_pos (this.mpr h), if_pos h]
    · rw [if_neg fun z => h (this.mp z), if_neg h]
  have whole : tf1 (is, c) 1 n = c := by
    rw [one, if_pos]
    cases is with
    | nil => exact absurd rfl g.ne
    | cons t r => exact ⟨t, List.mem_cons_self, g.rng t List.mem_cons_self⟩
  by_cases c1 : i < 1
  · rw [Mi_lo _ _ _ _ c1, if_pos ⟨0, (mem_path n is 0).mpr (.inl rfl), by omega, h3⟩]
  · by_cases c2 : (n : Int) < j
    · rw [Mi_hi _ _ _ _ c2, if_pos ⟨(n : Int) + 1, (mem_path n is _).mpr (.inr (.inr rfl)), h2, by omega⟩]
    · by_cases c3 : j < i
      · rw [Mi_no _ _ _ _ (by omega) (by omega) c3, whole, if_neg]
        rintro ⟨p, _, a, b⟩
        omega
      · rw [Mi_in _ _ _ _ (by omega) (by omega) (by omega), whole, one]
        by_cases h : ∃ t ∈ is, i ≤ t ∧ t ≤ j
        · rw [if_pos h, if_pos]
          · omega
          · obtain ⟨t, a, b⟩ := h
            exact ⟨t, (mem_path n is t).mpr (.inr (.inl a)), b⟩
        · rw [if_neg h, if_neg]
          · omega
          · rintro ⟨p, hp, a, b⟩
            rcases (mem_path n is p).mp hp with rfl | q | rfl
            · omega
            · exact h ⟨p, q, a, b⟩
            · omega
theorem occ_cons (x y : Int) (r : List Int) (a b c : Int) : occ (x :: y :: r) a b c = (if x = a ∧ y = b then c else 0) + occ (y :: r) a b c := by
  unfold occ
  have e : (x :: y :: r).length - 1 = r.length + 1 := by simp
  have e2 : (y :: r).length - 1 = r.length := by simp
  rw [e, e2, List.range_succ_eq_map, List.map_cons, List.sum_cons, List.map_map]
  congr 1
open Classical in
theorem occ_asc (a b c : Int) (hab : a < b) : ∀ P : List Int, P.Pairwise (· < ·) → occ P a b c = if a ∈ P ∧ b ∈ P ∧ ¬ ∃ p ∈ P, a < p ∧ p < b then c else 0
  | [], _ => by rw [if_neg (fun h => by simp at h)]; rfl
  | [x], _ => by
    rw [if_neg]
    · rfl
    · rintro ⟨h1, h2, _⟩
      have : a = x := by simpa using h1
      have : b = x := by simpa using h2
      omega
  | x :: y :: r, h => by
    obtain ⟨h1, h2⟩ := List.pairwise_cons.mp h
    obtain ⟨h3, h4⟩ := List.pairwise_cons.mp h2
    have hxy := h1 y List.mem_cons_self
    rw [occ_cons, occ_asc a b c hab (y :: r) h2]
    by_cases hx : x = a
    · subst hx
      have na : x ∉ y :: r := fun z => by have := h1 x z; omega
      have e2 : (if x ∈ y :: r ∧ b ∈ y :: r ∧ ¬ ∃ p ∈ y :: r, x < p ∧ p < b then c else 0) = 0 := if_neg fun z => na z.1
      rw [e2]
      by_cases hy : y = b
      · subst hy
        have hn : ¬ ∃ p ∈ x :: y :: r, x < p ∧ p < y := by
          rintro ⟨p, hp, q1, q2⟩
          rcases List.mem_cons.mp hp with rfl | hp
          · omega
          · rcases List.mem_cons.mp hp with rfl | hp
            · omega
            · have := h3 p hp; omega
        have k : x ∈ x :: y :: r ∧ y ∈ x :: y :: r ∧ ¬ ∃ p ∈ x :: y :: r, x < p ∧ p < y := ⟨List.mem_cons_self, List.mem_cons_of_mem _ List.mem_cons_self, hn⟩
        rw [if_pos ⟨rfl, rfl⟩, if_pos k, Int.add_zero]
      · rw [if_neg (fun z => hy z.2), if_neg]
        · rfl
        · rintro ⟨_, hb, hn⟩
          rcases List.mem_cons.mp hb with hb | hb
          · omega
          · rcases List.mem_cons.mp hb with hb | hb
            · exact hy hb.symm
            · exact hn ⟨y, by simp, hxy, h3 b hb⟩
    · rw [if_neg (fun z => hx z.1), Int.zero_add]
      have key : (a ∈ y :: r ∧ b ∈ y :: r ∧ ¬ ∃ p ∈ y :: r, a < p ∧ p < b) ↔ (a ∈ x :: y :: r ∧ b ∈ x :: y :: r ∧ ¬ ∃ p ∈ x :: y :: r, a < p ∧ p < b) := by
        constructor
        · rintro ⟨q1, q2, q3⟩
          refine ⟨List.mem_cons_of_mem _ q1, List.mem_cons_of_mem _ q2, ?_⟩
          rintro ⟨p, hp, s1, s2⟩
          rcases List.mem_cons.mp hp with rfl | hp
          · have := h1 a q1; omega
          · exact q3 ⟨p, hp, s1, s2⟩
        · rintro ⟨q1, q2, q3⟩
          have q1' : a ∈ y :: r := by
            rcases List.mem_cons.mp q1 with e | e
            · exact absurd e.symm hx
            · exact e
          refine ⟨q1', ?_, fun ⟨p, hp, s⟩ => q3 ⟨p, List.mem_cons_of_mem _ hp, s⟩⟩
          rcases List.mem_cons.mp q2 with e | e
          · have := h1 a q1'; omega
          · exact e
      by_cases k : a ∈ y :: r ∧ b ∈ y :: r ∧ ¬ ∃ p ∈ y :: r, a < p ∧ p < b
      · rw [if_pos k, if_pos (key.mp k)]
      · rw [if_neg k, if_neg fun z => k (key.mpr z)]
open Classical in
theorem step_one (n : Nat) (hn : 1 ≤ n) (is : List Int) (c : Int) (g : Good n is) (a b : Int) (h1 : 0 ≤ a) (h2 : a < b) (h3 : b ≤ (n : Int) + 1) : stepM (tf1 (is, c)) n a b = occ (path n is) a b c := by
  rw [occ_asc a b c h2 _ (path_asc n is g)]
  unfold stepM
  rw [Mi_one n hn is c g _ _ (by omega) (by omega) (by omega) (by omega), Mi_one n hn is c g _ _ (by omega) (by omega) (by omega) (by omega), Mi_one n hn is c g _ _ (by omega) (by omega) (by omega) (by omega), Mi_one n hn is c g _ _ (by omega) (by omega) (by omega) (by omega)]
  generalize path n is = P
  by_cases E : ∃ p ∈ P, a < p ∧ p < b
  · obtain ⟨p, hp, s1, s2⟩ := E
    rw [if_pos (show Hit P (a + 1) (b - 1) from ⟨p, hp, by omega, by omega⟩), if_pos (show Hit P a (b - 1) from ⟨p, hp, by omega, by omega⟩), if_pos (show Hit P (a + 1) b from ⟨p, hp, by omega, by omega⟩), if_pos (show Hit P a b from ⟨p, hp, by omega, by omega⟩), if_neg fun z => z.2.2 ⟨p, hp, s1, s2⟩]
    rfl
  · have n1 : ¬ Hit P (a + 1) (b - 1) := fun ⟨p, hp, s1, s2⟩ => E ⟨p, hp, by omega, by omega⟩
    rw [if_neg n1]
    by_cases A : a ∈ P
    · rw [if_pos (show Hit P a (b - 1) from ⟨a, A, by omega, by omega⟩), if_pos (show Hit P a b from ⟨a, A, by omega, by omega⟩)]
      by_cases Bm : b ∈ P
      · rw [if_pos (show Hit P (a + 1) b from ⟨b, Bm, by omega, by omega⟩), if_pos ⟨A, Bm, E⟩]
        omega
      · have n2 : ¬ Hit P (a + 1) b := fun ⟨p, hp, s1, s2⟩ => by
          by_cases e : p = b
          · exact Bm (e ▸ hp)
          · exact E ⟨p, hp, by omega, by omega⟩
        rw [if_neg n2, if_neg fun z => Bm z.2.1]
        omega
    · have n2 : ¬ Hit P a (b - 1) := fun ⟨p, hp, s1, s2⟩ => by
        by_cases e : p = a
        · exact A (e ▸ hp)
        · exact E ⟨p, hp, by omega, by omega⟩
      rw [if_neg n2, if_neg (show ¬ (a ∈ P ∧ b ∈ P ∧ ¬ ∃ p ∈ P, a < p ∧ p < b) from fun z => A z.1)]
      by_cases Bm : b ∈ P
      · rw [if_pos (show Hit P (a + 1) b from ⟨b, Bm, by omega, by omega⟩), if_pos (show Hit P a b from ⟨b, Bm, by omega, by omega⟩)]
        omega
      · have n3 : ¬ Hit P (a + 1) b := fun ⟨p, hp, s1, s2⟩ => by
          by_cases e : p = b
          · exact Bm (e ▸ hp)
          · exact E ⟨p, hp, by omega, by omega⟩
        have n4 : ¬ Hit P a b := fun ⟨p, hp, s1, s2⟩ => by
          by_cases e : p = b
          · exact Bm (e ▸ hp)
          · by_cases e2 : p = a
            · exact A (e2 ▸ hp)
            · exact E ⟨p, hp, by omega, by omega⟩
        rw [if_neg n3, if_neg n4]
        omega
theorem step_cnt (n : Nat) (hn : 1 ≤ n) (a b : Int) (h1 : 0 ≤ a) (h2 : a < b) (h3 : b ≤ (n : Int) + 1) : ∀ ds : List (List Int × Int), (∀ d ∈ ds, Good n d.1) → stepM (tfD ds) n a b = cntD n ds a b
  | [], _ => by
    have : ∀ i j, Mi (tfD []) n i j = 0 := fun i j => by
      unfold Mi
      split
      · rfl
      · split <;> rfl
    unfold stepM
    rw [this, this, this, this]
    rfl
  | d :: ds, h => by
    rw [step_cons, step_one n hn d.1 d.2 (h d List.mem_cons_self) a b h1 h2 h3, step_cnt n hn a b h1 h2 h3 ds fun e he => h e (List.mem_cons_of_mem _ he)]
    unfold cntD
    rw [List.map_cons, List.sum_cons]
end Lk63
end

section
set_option Elab.async false
set_option linter.all false
set_option maxRecDepth 100000
set_option maxHeartbeats 400000
namespace Lk63
open PySem VC
def inB (i j t : Int) : Bool := decide (i ≤ t) && decide (t ≤ j)
theorem any_filter {α : Type} (p : α → Bool) (l : List α) : l.any p = !(l.filter p).isEmpty := by
  induction l with
  | nil => rfl
  | cons a l ih => rw [List.any_cons, List.filter_cons, ih]; cases p a <;> simp
theorem e_within (is : List Int) (i j : Int) (m : Nat) (hm : 1 ≤ m) : callD T m 5 [.tup (is.map .int), .int i, .int j] = .ok (.bl (!(is.filter fun t => decide (i ≤ t) && decide (t ≤ j)).isEmpty)) [] := by
  obtain ⟨m, rfl⟩ : ∃ k, m = k + 1 := ⟨m - 1, by omega⟩
  rw [VC.call_def (df := d_comes_within) rfl rfl]
  generalize callD T m = C
  have e := e_lc (C := C) (env := [some (.tup (is.map .int)), some (.int i), some (.int j), none]) (own := [3]) (s := .A) (elt := .chn .le .le (.var 1) (.var 3) (.var 2)) (i := 3) (k := .e) (ies := [.var 0]) (ifs := []) (ds := [.tup (is.map .int)]) D.int (fun _ => true) (fun t => D.bl (inB i j t)) is
    (by simp -implicitDefEqProofs only [y_asg, kAsg_ok, y_ex, kEx_ok, y_ret, y_retMv, kRet_ok, y_mv, y_ite, kSi1_ok, kSi2_ok, x_frz, x_pas, x_nil, x_ret0, x_brk, x_cnt, F_bin, kBin1_ok, kBin2_ok, F_cmp, kCmp1_ok, kCmp2_ok, F_idx, kIdx1_ok, kIdx2_ok, Fs_cons, kCons1_ok, kCons2_ok, F_tup, kTup_ok, F_lst, kLst_ok, F_bi, kBi_ok, F_call, kCall_ok, rcE_ok, F_not, kNot1_ok, kNot2_ok, F_neg, kNeg_ok, F_ite, kIte1_ok, kIte2_ok, F_or, kOr1_ok, kOr2_ok, E_or0, F_and, kAnd1_ok, kAnd2_ok, E_and0, F_chn, kChn1_ok, kChn2_ok, chnO_ok, kChn3_ok, F_app, kApp_ok, appH_ok, appG_ok, E_var, E_int, E_str, E_bl, E_non, Es_nil, R.bind_ok, ofO_some, Option.map_some, t_bl, o_addI, o_sub, o_mod, c_lt, c_le, c_gt, c_ge, c_eqI, c_neI, List.cons_append, List.nil_append, getV, List.getElem?_cons_zero, List.getElem?_cons_succ, List.set_cons_zero, List.set_cons_succ, decide_eq_true_eq, Bool.not_true, Bool.not_false]) rfl rfl (by decide) (by simp) (fun t ht e he hi => ⟨ts_nil, fun _ => by
      have g1 : e[1]? = some (some (.int i)) := he 1 (by decide)
      have g2 : e[2]? = some (some (.int j)) := he 2 (by decide)
      simp -implicitDefEqProofs only [y_asg, kAsg_ok, y_ex, kEx_ok, y_ret, y_retMv, kRet_ok, y_mv, y_ite, kSi1_ok, kSi2_ok, x_frz, x_pas, x_nil, x_ret0, x_brk, x_cnt, F_bin, kBin1_ok, kBin2_ok, F_cmp, kCmp1_ok, kCmp2_ok, F_idx, kIdx1_ok, kIdx2_ok, Fs_cons, kCons1_ok, kCons2_ok, F_tup, kTup_ok, F_lst, kLst_ok, F_bi, kBi_ok, F_call, kCall_ok, rcE_ok, F_not, kNot1_ok, kNot2_ok, F_neg, kNeg_ok, F_ite, kIte1_ok, kIte2_ok, F_or, kOr1_ok, kOr2_ok, E_or0, F_and, kAnd1_ok, kAnd2_ok, E_and0, F_chn, kChn1_ok, kChn2_ok, chnO_ok, kChn3_ok, F_app, kApp_ok, appH_ok, appG_ok, E_var, E_int, E_str, E_bl, E_non, Es_nil, R.bind_ok, ofO_some, Option.map_some, t_bl, o_addI, o_sub, o_mod, c_lt, c_le, c_gt, c_ge, c_eqI, c_neI, List.cons_append, List.nil_append, getV, List.getElem?_cons_zero, List.getElem?_cons_succ, List.set_cons_zero, List.set_cons_succ, decide_eq_true_eq, Bool.not_true, Bool.not_false, hi, g1, g2]
      unfold inB
      by_cases h : i ≤ t <;> simp [h]⟩)
  rw [filt_true] at e
  have em : is.map (fun t => D.bl (inB i j t)) = (is.map (inB i j)).map .bl := by rw [List.map_map]; rfl
  rw [em] at e
  show endC [] (evSs C [.ret (.bi .any1 [_])] [some (.tup (is.map .int)), some (.int i), some (.int j), none]) = _
  rw [y_ret, F_bi, Fs_cons, e]
  have ea : (is.map (inB i j)).any id = !(is.filter fun t => decide (i ≤ t) && decide (t ≤ j)).isEmpty := by
    rw [← any_filter, List.any_map]; rfl
  simp -implicitDefEqProofs only [y_asg, kAsg_ok, y_ex, kEx_ok, y_ret, y_retMv, kRet_ok, y_mv, y_ite, kSi1_ok, kSi2_ok, x_frz, x_pas, x_nil, x_ret0, x_brk, x_cnt, F_bin, kBin1_ok, kBin2_ok, F_cmp, kCmp1_ok, kCmp2_ok, F_idx, kIdx1_ok, kIdx2_ok, Fs_cons, kCons1_ok, kCons2_ok, F_tup, kTup_ok, F_lst, kLst_ok, F_bi, kBi_ok, F_call, kCall_ok, rcE_ok, F_not, kNot1_ok, kNot2_ok, F_neg, kNeg_ok, F_ite, kIte1_ok, kIte2_ok, F_or, kOr1_ok, kOr2_ok, E_or0, F_and, kAnd1_ok, kAnd2_ok, E_and0, F_chn, kChn1_ok, kChn2_ok, chnO_ok, kChn3_ok, F_app, kApp_ok, appH_ok, appG_ok, E_var, E_int, E_str, E_bl, E_non, Es_nil, R.bind_ok, ofO_some, Option.map_some, t_bl, o_addI, o_sub, o_mod, c_lt, c_le, c_gt, c_ge, c_eqI, c_neI, List.cons_append, List.nil_append, getV, List.getElem?_cons_zero, List.getElem?_cons_succ, List.set_cons_zero, List.set_cons_succ, decide_eq_true_eq, Bool.not_true, Bool.not_false, b_any, ea]
  rfl
theorem e_visitors (ds : List (List Int × Int)) (i j : Int) (m : Nat) (hm : 2 ≤ m) : callD T m 6 [.lst (ds.map eDi), .int i, .int j] = .ok (.int (tfD ds i j)) [] := by
  obtain ⟨m, rfl⟩ : ∃ k, m = k + 1 := ⟨m - 1, by omega⟩
  rw [VC.call_def (df := d_visitors_within) rfl rfl]
  have h5 := fun is => e_within is i j m (by omega)
  revert h5
  generalize callD T m = C
  intro h5
  have e := e_lcG (C := C) (env := [some (.lst (ds.map eDi)), some (.int i), some (.int j), none, none]) (own := [3, 4]) (s := .F) (elt := .var 4) (g := .tp [3, 4]) (k := .e) (ies := [.var 0]) (ifs := [(.call 5 [] [(.var 3), (.var 1), (.var 2)])]) (ds := [.lst (ds.map eDi)]) eDi (fun d => !(d.1.filter fun t => decide (i ≤ t) && decide (t ≤ j)).isEmpty) (fun d => .int d.2) ds
    (by simp -implicitDefEqProofs only [y_asg, kAsg_ok, y_ex, kEx_ok, y_ret, y_retMv, kRet_ok, y_mv, y_ite, kSi1_ok, kSi2_ok, x_frz, x_pas, x_nil, x_ret0, x_brk, x_cnt, F_bin, kBin1_ok, kBin2_ok, F_cmp, kCmp1_ok, kCmp2_ok, F_idx, kIdx1_ok, kIdx2_ok, Fs_cons, kCons1_ok, kCons2_ok, F_tup, kTup_ok, F_lst, kLst_ok, F_bi, kBi_ok, F_call, kCall_ok, rcE_ok, F_not, kNot1_ok, kNot2_ok, F_neg, kNeg_ok, F_ite, kIte1_ok, kIte2_ok, F_or, kOr1_ok, kOr2_ok, E_or0, F_and, kAnd1_ok, kAnd2_ok, E_and0, F_chn, kChn1_ok, kChn2_ok, chnO_ok, kChn3_ok, F_app, kApp_ok, appH_ok, appG_ok, E_var, E_int, E_str, E_bl, E_non, Es_nil, R.bind_ok, ofO_some, Option.map_some, t_bl, o_addI, o_sub, o_mod, c_lt, c_le, c_gt, c_ge, c_eqI, c_neI, List.cons_append, List.nil_append, getV, List.getElem?_cons_zero, List.getElem?_cons_succ, List.set_cons_zero, List.set_cons_succ, decide_eq_true_eq, Bool.not_true, Bool.not_false]) rfl rfl (fun d hd e he => by
      obtain ⟨y0, y1, y2, y3, y4, rfl⟩ := ex_len5 he.len
      have h1 : y1 = some (.int i) := by simpa using he.at_ 1 (by decide)
      have h2 : y2 = some (.int j) := by simpa using he.at_ 2 (by decide)
      subst h1 h2
      refine ⟨_, rfl, agr_set (i := 4) (agr_set (i := 3) he (by decide) _) (by decide) _, ts_one ?_, fun _ => ?_⟩
      · have := h5 d.1
        simp -implicitDefEqProofs only [y_asg, kAsg_ok, y_ex, kEx_ok, y_ret, y_retMv, kRet_ok, y_mv, y_ite, kSi1_ok, kSi2_ok, x_frz, x_pas, x_nil, x_ret0, x_brk, x_cnt, F_bin, kBin1_ok, kBin2_ok, F_cmp, kCmp1_ok, kCmp2_ok, F_idx, kIdx1_ok, kIdx2_ok, Fs_cons, kCons1_ok, kCons2_ok, F_tup, kTup_ok, F_lst, kLst_ok, F_bi, kBi_ok, F_call, kCall_ok, rcE_ok, F_not, kNot1_ok, kNot2_ok, F_neg, kNeg_ok, F_ite, kIte1_ok, kIte2_ok, F_or, kOr1_ok, kOr2_ok, E_or0, F_and, kAnd1_ok, kAnd2_ok, E_and0, F_chn, kChn1_ok, kChn2_ok, chnO_ok, kChn3_ok, F_app, kApp_ok, appH_ok, appG_ok, E_var, E_int, E_str, E_bl, E_non, Es_nil, R.bind_ok, ofO_some, Option.map_some, t_bl, o_addI, o_sub, o_mod, c_lt, c_le, c_gt, c_ge, c_eqI, c_neI, List.cons_append, List.nil_append, getV, List.getElem?_cons_zero, List.getElem?_cons_succ, List.set_cons_zero, List.set_cons_succ, decide_eq_true_eq, Bool.not_true, Bool.not_false, this]
      · simp -implicitDefEqProofs only [y_asg, kAsg_ok, y_ex, kEx_ok, y_ret, y_retMv, kRet_ok, y_mv, y_ite, kSi1_ok, kSi2_ok, x_frz, x_pas, x_nil, x_ret0, x_brk, x_cnt, F_bin, kBin1_ok, kBin2_ok, F_cmp, kCmp1_ok, kCmp2_ok, F_idx, kIdx1_ok, kIdx2_ok, Fs_cons, kCons1_ok, kCons2_ok, F_tup, kTup_ok, F_lst, kLst_ok, F_bi, kBi_ok, F_call, kCall_ok, rcE_ok, F_not, kNot1_ok, kNot2_ok, F_neg, kNeg_ok, F_ite, kIte1_ok, kIte2_ok, F_or, kOr1_ok, kOr2_ok, E_or0, F_and, kAnd1_ok, kAnd2_ok, E_and0, F_chn, kChn1_ok, kChn2_ok, chnO_ok, kChn3_ok, F_app, kApp_ok, appH_ok, appG_ok, E_var, E_int, E_str, E_bl, E_non, Es_nil, R.bind_ok, ofO_some, Option.map_some, t_bl, o_addI, o_sub, o_mod, c_lt, c_le, c_gt, c_ge, c_eqI, c_neI, List.cons_append, List.nil_append, getV, List.getElem?_cons_zero, List.getElem?_cons_succ, List.set_cons_zero, List.set_cons_succ, decide_eq_true_eq, Bool.not_true, Bool.not_false])
  have em : (ds.filter fun d => !(d.1.filter fun t => decide (i ≤ t) && decide (t ≤ j)).isEmpty).map (fun d => D.int d.2) = ((ds.filter fun d => !(d.1.filter fun t => decide (i ≤ t) && decide (t ≤ j)).isEmpty).map (·.2)).map .int := by rw [List.map_map]; rfl
  rw [em] at e
  show endC [] (evSs C [.ret (.bi .sum [_])] [some (.lst (ds.map eDi)), some (.int i), some (.int j), none, none]) = _
  rw [y_ret, F_bi, Fs_cons, e]
  simp -implicitDefEqProofs only [y_asg, kAsg_ok, y_ex, kEx_ok, y_ret, y_retMv, kRet_ok, y_mv, y_ite, kSi1_ok, kSi2_ok, x_frz, x_pas, x_nil, x_ret0, x_brk, x_cnt, F_bin, kBin1_ok, kBin2_ok, F_cmp, kCmp1_ok, kCmp2_ok, F_idx, kIdx1_ok, kIdx2_ok, Fs_cons, kCons1_ok, kCons2_ok, F_tup, kTup_ok, F_lst, kLst_ok, F_bi, kBi_ok, F_call, kCall_ok, rcE_ok, F_not, kNot1_ok, kNot2_ok, F_neg, kNeg_ok, F_ite, kIte1_ok, kIte2_ok, F_or, kOr1_ok, kOr2_ok, E_or0, F_and, kAnd1_ok, kAnd2_ok, E_and0, F_chn, kChn1_ok, kChn2_ok, chnO_ok, kChn3_ok, F_app, kApp_ok, appH_ok, appG_ok, E_var, E_int, E_str, E_bl, E_non, Es_nil, R.bind_ok, ofO_some, Option.map_some, t_bl, o_addI, o_sub, o_mod, c_lt, c_le, c_gt, c_ge, c_eqI, c_neI, List.cons_append, List.nil_append, getV, List.getElem?_cons_zero, List.getElem?_cons_succ, List.set_cons_zero, List.set_cons_succ, decide_eq_true_eq, Bool.not_true, Bool.not_false, b_sum]
  rfl
theorem e_stretches_of (ds : List (List Int × Int)) (n : Nat) (hn : n ≤ 1000) (m : Nat) (hm : 3 ≤ m) : callD T m 7 [.lst (ds.map eDi), .int n] = .ok (eT (tfD ds) n) [] := by
  obtain ⟨m, rfl⟩ : ∃ k, m = k + 1 := ⟨m - 1, by omega⟩
  rw [VC.call_def (df := d_stretches_of) rfl rfl]
  have h6 := fun i j => e_visitors ds i j m (by omega)
  revert h6
  generalize callD T m = C
  intro h6
  let mk : List D → Option D → VC.Env := fun rows j => [some (.lst (ds.map eDi)), some (.int n), some (.lst rows), j, none]
  obtain ⟨j', e⟩ := forD_acc (τ := Option D) mk (fun k : Nat => [eR (tfD ds) n ((k : Int) + 1)]) (fun k : Nat => .int ((1 : Int) + k)) (fun d e => (bindTg (.nm 3) d e).bind fun e1 => evSs C [.ex (.app 2 (.lc [4] .A (.call 6 [] [(.var 0), (.var 3), (.var 4)]) (.nm 4) .rng2 [(.var 3), (.bin .addA (.var 1) (.int 1))] []))] e1) 1 2000 (List.range n) [] none (fun _ _ => by simp) (by simp; omega) (fun k hk acc j hl => by
    have hk' := List.mem_range.mp hk
    have hl' : acc.length < lim := by unfold lim; omega
    refine ⟨some (.int ((1 : Int) + k)), ?_⟩
    rw [t_nm]
    have e := e_lc (C := C) (env := mk acc (some (.int ((1 : Int) + k)))) (own := [4]) (s := .A) (elt := .call 6 [] [(.var 0), (.var 3), (.var 4)]) (i := 4) (k := .rng2) (ies := [(.var 3), (.bin .addA (.var 1) (.int 1))]) (ifs := []) (ds := [.int ((1 : Int) + k), .int ((n : Int) + 1)]) (fun c : Nat => D.int ((1 : Int) + k + c)) (fun _ => true) (fun c : Nat => D.int (tfD ds ((1 : Int) + k) ((1 : Int) + k + c))) (List.range (n - k))
      (by simp -implicitDefEqProofs only [y_asg, kAsg_ok, y_ex, kEx_ok, y_ret, y_retMv, kRet_ok, y_mv, y_ite, kSi1_ok, kSi2_ok, x_frz, x_pas, x_nil, x_ret0, x_brk, x_cnt, F_bin, kBin1_ok, kBin2_ok, F_cmp, kCmp1_ok, kCmp2_ok, F_idx, kIdx1_ok, kIdx2_ok, Fs_cons, kCons1_ok, kCons2_ok, F_tup, kTup_ok, F_lst, kLst_ok, F_bi, kBi_ok, F_call, kCall_ok, rcE_ok, F_not, kNot1_ok, kNot2_ok, F_neg, kNeg_ok, F_ite, kIte1_ok, kIte2_ok, F_or, kOr1_ok, kOr2_ok, E_or0, F_and, kAnd1_ok, kAnd2_ok, E_and0, F_chn, kChn1_ok, kChn2_ok, chnO_ok, kChn3_ok, F_app, kApp_ok, appH_ok, appG_ok, E_var, E_int, E_str, E_bl, E_non, Es_nil, R.bind_ok, ofO_some, Option.map_some, t_bl, o_addI, o_sub, o_mod, c_lt, c_le, c_gt, c_ge, c_eqI, c_neI, List.cons_append, List.nil_append, getV, List.getElem?_cons_zero, List.getElem?_cons_succ, List.set_cons_zero, List.set_cons_succ, decide_eq_true_eq, Bool.not_true, Bool.not_false, mk]) (by rw [it_rng2 _ _ (by omega) (by omega)]; congr 3; omega) (by simp [lcOk, lim]; omega) (by decide) (by simp [mk]) (fun c hc e he hi => ⟨ts_nil, fun _ => by
        have g0 : e[0]? = some (some (.lst (ds.map eDi))) := he 0 (by decide)
        have g3 : e[3]? = some (some (.int ((1 : Int) + k))) := he 3 (by decide)
        simp -implicitDefEqProofs only [y_asg, kAsg_ok, y_ex, kEx_ok, y_ret, y_retMv, kRet_ok, y_mv, y_ite, kSi1_ok, kSi2_ok, x_frz, x_pas, x_nil, x_ret0, x_brk, x_cnt, F_bin, kBin1_ok, kBin2_ok, F_cmp, kCmp1_ok, kCmp2_ok, F_idx, kIdx1_ok, kIdx2_ok, Fs_cons, kCons1_ok, kCons2_ok, F_tup, kTup_ok, F_lst, kLst_ok, F_bi, kBi_ok, F_call, kCall_ok, rcE_ok, F_not, kNot1_ok, kNot2_ok, F_neg, kNeg_ok, F_ite, kIte1_ok, kIte2_ok, F_or, kOr1_ok, kOr2_ok, E_or0, F_and, kAnd1_ok, kAnd2_ok, E_and0, F_chn, kChn1_ok, kChn2_ok, chnO_ok, kChn3_ok, F_app, kApp_ok, appH_ok, appG_ok, E_var, E_int, E_str, E_bl, E_non, Es_nil, R.bind_ok, ofO_some, Option.map_some, t_bl, o_addI, o_sub, o_mod, c_lt, c_le, c_gt, c_ge, c_eqI, c_neI, List.cons_append, List.nil_append, getV, List.getElem?_cons_zero, List.getElem?_cons_succ, List.set_cons_zero, List.set_cons_succ, decide_eq_true_eq, Bool.not_true, Bool.not_false, hi, g0, g3, h6]⟩)
    rw [filt_true] at e
    have er : D.lst ((List.range (n - k)).map fun c : Nat => D.int (tfD ds ((1 : Int) + k) ((1 : Int) + k + c))) = eR (tfD ds) n ((k : Int) + 1) := by
      unfold eR
      rw [show ((n : Int) + 1 - ((k : Int) + 1)).toNat = n - k by omega, Int.add_comm 1 (k : Int)]
    rw [er] at e
    show evSs C [.ex (.app 2 _)] (mk acc (some (.int ((1 : Int) + k)))) = _
    rw [y_ex, F_app]
    simp -implicitDefEqProofs only [mk, List.getElem?_cons_zero, List.getElem?_cons_succ, appG_ok]
    simp only [mk] at e
    rw [e]
    simp -implicitDefEqProofs only [y_asg, kAsg_ok, y_ex, kEx_ok, y_ret, y_retMv, kRet_ok, y_mv, y_ite, kSi1_ok, kSi2_ok, x_frz, x_pas, x_nil, x_ret0, x_brk, x_cnt, F_bin, kBin1_ok, kBin2_ok, F_cmp, kCmp1_ok, kCmp2_ok, F_idx, kIdx1_ok, kIdx2_ok, Fs_cons, kCons1_ok, kCons2_ok, F_tup, kTup_ok, F_lst, kLst_ok, F_bi, kBi_ok, F_call, kCall_ok, rcE_ok, F_not, kNot1_ok, kNot2_ok, F_neg, kNeg_ok, F_ite, kIte1_ok, kIte2_ok, F_or, kOr1_ok, kOr2_ok, E_or0, F_and, kAnd1_ok, kAnd2_ok, E_and0, F_chn, kChn1_ok, kChn2_ok, chnO_ok, kChn3_ok, F_app, kApp_ok, appH_ok, appG_ok, E_var, E_int, E_str, E_bl, E_non, Es_nil, R.bind_ok, ofO_some, Option.map_some, t_bl, o_addI, o_sub, o_mod, c_lt, c_le, c_gt, c_ge, c_eqI, c_neI, List.cons_append, List.nil_append, getV, List.getElem?_cons_zero, List.getElem?_cons_succ, List.set_cons_zero, List.set_cons_succ, decide_eq_true_eq, Bool.not_true, Bool.not_false, hl', if_true])
  show endC [] (evSs C [.asg 2 _ (.lst _ []), .for_ _ _ _ _ [.ex (.app 2 (.lc [4] .A (.call 6 [] [(.var 0), (.var 3), (.var 4)]) (.nm 4) .rng2 [(.var 3), (.bin .addA (.var 1) (.int 1))] []))], .retMv 2] [some (.lst (ds.map eDi)), some (.int n), none, none, none]) = _
  simp -implicitDefEqProofs only [y_asg, kAsg_ok, y_ex, kEx_ok, y_ret, y_retMv, kRet_ok, y_mv, y_ite, kSi1_ok, kSi2_ok, x_frz, x_pas, x_nil, x_ret0, x_brk, x_cnt, F_bin, kBin1_ok, kBin2_ok, F_cmp, kCmp1_ok, kCmp2_ok, F_idx, kIdx1_ok, kIdx2_ok, Fs_cons, kCons1_ok, kCons2_ok, F_tup, kTup_ok, F_lst, kLst_ok, F_bi, kBi_ok, F_call, kCall_ok, rcE_ok, F_not, kNot1_ok, kNot2_ok, F_neg, kNeg_ok, F_ite, kIte1_ok, kIte2_ok, F_or, kOr1_ok, kOr2_ok, E_or0, F_and, kAnd1_ok, kAnd2_ok, E_and0, F_chn, kChn1_ok, kChn2_ok, chnO_ok, kChn3_ok, F_app, kApp_ok, appH_ok, appG_ok, E_var, E_int, E_str, E_bl, E_non, Es_nil, R.bind_ok, ofO_some, Option.map_some, t_bl, o_addI, o_sub, o_mod, c_lt, c_le, c_gt, c_ge, c_eqI, c_neI, List.cons_append, List.nil_append, getV, List.getElem?_cons_zero, List.getElem?_cons_succ, List.set_cons_zero, List.set_cons_succ, decide_eq_true_eq, Bool.not_true, Bool.not_false]
  rw [y_for (ds := [.int 1, .int ((n : Int) + 1)]) (items := (List.range n).map fun k : Nat => .int ((1 : Int) + k)) (env1 := mk [] none) (by simp -implicitDefEqProofs only [mk, y_asg, kAsg_ok, y_ex, kEx_ok, y_ret, y_retMv, kRet_ok, y_mv, y_ite, kSi1_ok, kSi2_ok, x_frz, x_pas, x_nil, x_ret0, x_brk, x_cnt, F_bin, kBin1_ok, kBin2_ok, F_cmp, kCmp1_ok, kCmp2_ok, F_idx, kIdx1_ok, kIdx2_ok, Fs_cons, kCons1_ok, kCons2_ok, F_tup, kTup_ok, F_lst, kLst_ok, F_bi, kBi_ok, F_call, kCall_ok, rcE_ok, F_not, kNot1_ok, kNot2_ok, F_neg, kNeg_ok, F_ite, kIte1_ok, kIte2_ok, F_or, kOr1_ok, kOr2_ok, E_or0, F_and, kAnd1_ok, kAnd2_ok, E_and0, F_chn, kChn1_ok, kChn2_ok, chnO_ok, kChn3_ok, F_app, kApp_ok, appH_ok, appG_ok, E_var, E_int, E_str, E_bl, E_non, Es_nil, R.bind_ok, ofO_some, Option.map_some, t_bl, o_addI, o_sub, o_mod, c_lt, c_le, c_gt, c_ge, c_eqI, c_neI, List.cons_append, List.nil_append, getV, List.getElem?_cons_zero, List.getElem?_cons_succ, List.set_cons_zero, List.set_cons_succ, decide_eq_true_eq, Bool.not_true, Bool.not_false]) (by rw [it_rng2 _ _ (by omega) (by omega)]; congr 3; omega), e]
  simp -implicitDefEqProofs only [y_asg, kAsg_ok, y_ex, kEx_ok, y_ret, y_retMv, kRet_ok, y_mv, y_ite, kSi1_ok, kSi2_ok, x_frz, x_pas, x_nil, x_ret0, x_brk, x_cnt, F_bin, kBin1_ok, kBin2_ok, F_cmp, kCmp1_ok, kCmp2_ok, F_idx, kIdx1_ok, kIdx2_ok, Fs_cons, kCons1_ok, kCons2_ok, F_tup, kTup_ok, F_lst, kLst_ok, F_bi, kBi_ok, F_call, kCall_ok, rcE_ok, F_not, kNot1_ok, kNot2_ok, F_neg, kNeg_ok, F_ite, kIte1_ok, kIte2_ok, F_or, kOr1_ok, kOr2_ok, E_or0, F_and, kAnd1_ok, kAnd2_ok, E_and0, F_chn, kChn1_ok, kChn2_ok, chnO_ok, kChn3_ok, F_app, kApp_ok, appH_ok, appG_ok, E_var, E_int, E_str, E_bl, E_non, Es_nil, R.bind_ok, ofO_some, Option.map_some, t_bl, o_addI, o_sub, o_mod, c_lt, c_le, c_gt, c_ge, c_eqI, c_neI, List.cons_append, List.nil_append, getV, List.getElem?_cons_zero, List.getElem?_cons_succ, List.set_cons_zero, List.set_cons_succ, decide_eq_true_eq, Bool.not_true, Bool.not_false, kFor_nx, mk, flat_one]
  rfl
end Lk63
end

section
set_option Elab.async false
set_option linter.all false
set_option maxRecDepth 100000
set_option maxHeartbeats 400000
namespace Lk63
open PySem VC
theorem e_whole (i : Int) (m : Nat) (hm : 1 ≤ m) : callD T m 0 [.int i] = .ok (.bl true) [] := by
  obtain ⟨m, rfl⟩ : ∃ k, m = k + 1 := ⟨m - 1, by omega⟩
  rw [VC.call_def (df := d_is_whole) rfl rfl]
  generalize callD T m = C
  show endC [] (evSs C [.ret _] [some (.int i)]) = _
  simp -implicitDefEqProofs only [y_asg, kAsg_ok, y_ex, kEx_ok, y_ret, y_retMv, kRet_ok, y_mv, y_ite, kSi1_ok, kSi2_ok, x_frz, x_pas, x_nil, x_ret0, x_brk, x_cnt, F_bin, kBin1_ok, kBin2_ok, F_cmp, kCmp1_ok, kCmp2_ok, F_idx, kIdx1_ok, kIdx2_ok, Fs_cons, kCons1_ok, kCons2_ok, F_tup, kTup_ok, F_lst, kLst_ok, F_bi, kBi_ok, F_call, kCall_ok, rcE_ok, F_not, kNot1_ok, kNot2_ok, F_neg, kNeg_ok, F_ite, kIte1_ok, kIte2_ok, F_or, kOr1_ok, kOr2_ok, E_or0, F_and, kAnd1_ok, kAnd2_ok, E_and0, F_chn, kChn1_ok, kChn2_ok, chnO_ok, kChn3_ok, F_app, kApp_ok, appH_ok, appG_ok, E_var, E_int, E_str, E_bl, E_non, Es_nil, R.bind_ok, ofO_some, Option.map_some, t_bl, o_addI, o_sub, o_mod, c_lt, c_le, c_gt, c_ge, c_eqI, c_neI, List.cons_append, List.nil_append, getV, List.getElem?_cons_zero, List.getElem?_cons_succ, List.set_cons_zero, List.set_cons_succ, decide_eq_true_eq, Bool.not_true, Bool.not_false, b_isI, b_isB, if_true]
  rfl
theorem e_count (i : Int) (hi : 0 ≤ i) (m : Nat) (hm : 2 ≤ m) : callD T m 1 [.int i] = .ok (.bl true) [] := by
  obtain ⟨m, rfl⟩ : ∃ k, m = k + 1 := ⟨m - 1, by omega⟩
  rw [VC.call_def (df := d_is_count) rfl rfl]
  have h0 := e_whole i m (by omega)
  revert h0
  generalize callD T m = C
  intro h0
  show endC [] (evSs C [.ret _] [some (.int i)]) = _
  simp -implicitDefEqProofs only [y_asg, kAsg_ok, y_ex, kEx_ok, y_ret, y_retMv, kRet_ok, y_mv, y_ite, kSi1_ok, kSi2_ok, x_frz, x_pas, x_nil, x_ret0, x_brk, x_cnt, F_bin, kBin1_ok, kBin2_ok, F_cmp, kCmp1_ok, kCmp2_ok, F_idx, kIdx1_ok, kIdx2_ok, Fs_cons, kCons1_ok, kCons2_ok, F_tup, kTup_ok, F_lst, kLst_ok, F_bi, kBi_ok, F_call, kCall_ok, rcE_ok, F_not, kNot1_ok, kNot2_ok, F_neg, kNeg_ok, F_ite, kIte1_ok, kIte2_ok, F_or, kOr1_ok, kOr2_ok, E_or0, F_and, kAnd1_ok, kAnd2_ok, E_and0, F_chn, kChn1_ok, kChn2_ok, chnO_ok, kChn3_ok, F_app, kApp_ok, appH_ok, appG_ok, E_var, E_int, E_str, E_bl, E_non, Es_nil, R.bind_ok, ofO_some, Option.map_some, t_bl, o_addI, o_sub, o_mod, c_lt, c_le, c_gt, c_ge, c_eqI, c_neI, List.cons_append, List.nil_append, getV, List.getElem?_cons_zero, List.getElem?_cons_succ, List.set_cons_zero, List.set_cons_succ, decide_eq_true_eq, Bool.not_true, Bool.not_false, h0, if_true, hi, decide_true]
  rfl
theorem r_len (tf : Int → Int → Int) (n : Nat) (i : Int) : biD .len [eR tf n i] = some (.int ((((n : Int) + 1 - i).toNat : Nat) : Int)) := by
  unfold eR
  rw [b_len]
  simp
theorem e_check_list (tf : Int → Int → Int) (n : Nat) (hn : n ≤ 1000) (i : Int) (h1 : 1 ≤ i) (h2 : i ≤ n) (hp : ∀ j : Int, i ≤ j → j ≤ n → 0 ≤ tf i j) (m : Nat) (hm : 3 ≤ m) : callD T m 2 [.int i, eR tf n i, .int n] = .ok .non [] := by
  obtain ⟨m, rfl⟩ : ∃ k, m = k + 1 := ⟨m - 1, by omega⟩
  rw [VC.call_def (df := d_check_list) rfl rfl]
  have hc := fun x hx => e_count x hx m (by omega)
  revert hc
  generalize callD T m = C
  intro hc
  let mk : Option D × Option D → VC.Env := fun j => [some (.int i), some (eR tf n i), some (.int n), j.1, j.2]
  obtain ⟨j, e⟩ := forD_all mk (fun c : Nat => D.tup [.int (i + c), .int (tf i (i + c))]) (fun d e => (bindTg (.tp [3, 4]) d e).bind fun e1 => evSs C [.ite (.not (.call 1 [] [(.var 4)])) [.bad] []] e1) (List.range ((n : Int) + 1 - i).toNat) (none, none) (fun c hc' j => by
    have hc' := List.mem_range.mp hc'
    refine ⟨(some (.int (i + c)), some (.int (tf i (i + c)))), ?_⟩
    rw [t_tp (e1 := mk (some (.int (i + c)), some (.int (tf i (i + c))))) rfl]
    have h := hc (tf i (i + c)) (hp _ (by omega) (by omega))
    simp -implicitDefEqProofs only [y_asg, kAsg_ok, y_ex, kEx_ok, y_ret, y_retMv, kRet_ok, y_mv, y_ite, kSi1_ok, kSi2_ok, x_frz, x_pas, x_nil, x_ret0, x_brk, x_cnt, F_bin, kBin1_ok, kBin2_ok, F_cmp, kCmp1_ok, kCmp2_ok, F_idx, kIdx1_ok, kIdx2_ok, Fs_cons, kCons1_ok, kCons2_ok, F_tup, kTup_ok, F_lst, kLst_ok, F_bi, kBi_ok, F_call, kCall_ok, rcE_ok, F_not, kNot1_ok, kNot2_ok, F_neg, kNeg_ok, F_ite, kIte1_ok, kIte2_ok, F_or, kOr1_ok, kOr2_ok, E_or0, F_and, kAnd1_ok, kAnd2_ok, E_and0, F_chn, kChn1_ok, kChn2_ok, chnO_ok, kChn3_ok, F_app, kApp_ok, appH_ok, appG_ok, E_var, E_int, E_str, E_bl, E_non, Es_nil, R.bind_ok, ofO_some, Option.map_some, t_bl, o_addI, o_sub, o_mod, c_lt, c_le, c_gt, c_ge, c_eqI, c_neI, List.cons_append, List.nil_append, getV, List.getElem?_cons_zero, List.getElem?_cons_succ, List.set_cons_zero, List.set_cons_succ, decide_eq_true_eq, Bool.not_true, Bool.not_false, mk, h, if_false, Bool.false_eq_true])
  have hen : ∀ (l : List Nat) (k : Int) (o : Nat), l = List.range' o l.length → k = i + o → enumL k (l.map fun c : Nat => D.int (tf i (i + c))) = l.map fun c : Nat => D.tup [.int (i + c), .int (tf i (i + c))] := fun l => by
    induction l with
    | nil => intro k o _ _; rfl
    | cons c l ih =>
      intro k o hl hk
      rw [List.length_cons, List.range'_succ] at hl
      injection hl with h1 h2
      subst h1
      simp only [List.map_cons, enumL]
      rw [hk, ← hk, ih (k + 1) (c + 1) h2 (by omega), hk]
  have hit : itD .enumS [eR tf n i, .int i] = some ((List.range ((n : Int) + 1 - i).toNat).map fun c : Nat => D.tup [.int (i + c), .int (tf i (i + c))]) := by
    have q : rngOk i = true := by unfold rngOk; simp; omega
    show (if rngOk i = true then some (enumL i ((List.range ((n : Int) + 1 - i).toNat).map fun c : Nat => D.int (tf i (i + c)))) else none) = _
    rw [if_pos q, hen _ i 0 (by simp [List.range_eq_range']) (by omega)]
  have hl := r_len tf n i
  have hlz : (((((n : Int) + 1 - i).toNat : Nat) : Int) = (n : Int) - i + 1) := by omega
  rw [hlz] at hl
  have nn : decide ((n : Int) - i + 1 ≠ (n : Int) - i + 1) = false := by simp
  show endC [] (evSs C [.ite _ [.bad] [], .for_ _ _ _ _ [.ite (.not (.call 1 [] [(.var 4)])) [.bad] []]] [some (.int i), some (eR tf n i), some (.int n), none, none]) = _
  simp -implicitDefEqProofs only [y_asg, kAsg_ok, y_ex, kEx_ok, y_ret, y_retMv, kRet_ok, y_mv, y_ite, kSi1_ok, kSi2_ok, x_frz, x_pas, x_nil, x_ret0, x_brk, x_cnt, F_bin, kBin1_ok, kBin2_ok, F_cmp, kCmp1_ok, kCmp2_ok, F_idx, kIdx1_ok, kIdx2_ok, Fs_cons, kCons1_ok, kCons2_ok, F_tup, kTup_ok, F_lst, kLst_ok, F_bi, kBi_ok, F_call, kCall_ok, rcE_ok, F_not, kNot1_ok, kNot2_ok, F_neg, kNeg_ok, F_ite, kIte1_ok, kIte2_ok, F_or, kOr1_ok, kOr2_ok, E_or0, F_and, kAnd1_ok, kAnd2_ok, E_and0, F_chn, kChn1_ok, kChn2_ok, chnO_ok, kChn3_ok, F_app, kApp_ok, appH_ok, appG_ok, E_var, E_int, E_str, E_bl, E_non, Es_nil, R.bind_ok, ofO_some, Option.map_some, t_bl, o_addI, o_sub, o_mod, c_lt, c_le, c_gt, c_ge, c_eqI, c_neI, List.cons_append, List.nil_append, getV, List.getElem?_cons_zero, List.getElem?_cons_succ, List.set_cons_zero, List.set_cons_succ, decide_eq_true_eq, Bool.not_true, Bool.not_false, hl, nn, if_false, Bool.false_eq_true]
  rw [y_for (ds := [eR tf n i, .int i]) (items := (List.range ((n : Int) + 1 - i).toNat).map fun c : Nat => D.tup [.int (i + c), .int (tf i (i + c))]) (env1 := mk (none, none)) (by simp -implicitDefEqProofs only [mk, y_asg, kAsg_ok, y_ex, kEx_ok, y_ret, y_retMv, kRet_ok, y_mv, y_ite, kSi1_ok, kSi2_ok, x_frz, x_pas, x_nil, x_ret0, x_brk, x_cnt, F_bin, kBin1_ok, kBin2_ok, F_cmp, kCmp1_ok, kCmp2_ok, F_idx, kIdx1_ok, kIdx2_ok, Fs_cons, kCons1_ok, kCons2_ok, F_tup, kTup_ok, F_lst, kLst_ok, F_bi, kBi_ok, F_call, kCall_ok, rcE_ok, F_not, kNot1_ok, kNot2_ok, F_neg, kNeg_ok, F_ite, kIte1_ok, kIte2_ok, F_or, kOr1_ok, kOr2_ok, E_or0, F_and, kAnd1_ok, kAnd2_ok, E_and0, F_chn, kChn1_ok, kChn2_ok, chnO_ok, kChn3_ok, F_app, kApp_ok, appH_ok, appG_ok, E_var, E_int, E_str, E_bl, E_non, Es_nil, R.bind_ok, ofO_some, Option.map_some, t_bl, o_addI, o_sub, o_mod, c_lt, c_le, c_gt, c_ge, c_eqI, c_neI, List.cons_append, List.nil_append, getV, List.getElem?_cons_zero, List.getElem?_cons_succ, List.set_cons_zero, List.set_cons_succ, decide_eq_true_eq, Bool.not_true, Bool.not_false]) hit, e, R.bind_ok, kFor_nx, x_nil]
  rfl
theorem e_check (tf : Int → Int → Int) (n : Nat) (h1 : 1 ≤ n) (hn : n ≤ 31) (hp : ∀ i j : Int, 1 ≤ i → i ≤ j → j ≤ n → 0 ≤ tf i j) (m : Nat) (hm : 4 ≤ m) : callD T m 3 [eT tf n] = .ok (.int n) [] := by
  obtain ⟨m, rfl⟩ : ∃ k, m = k + 1 := ⟨m - 1, by omega⟩
  rw [VC.call_def (df := d_check_stretches) rfl rfl]
  have hc := fun (i : Int) (a : 1 ≤ i) (b : i ≤ n) => e_check_list tf n (by omega) i a b (fun j c d => hp i j a c d) m (by omega)
  revert hc
  generalize callD T m = C
  intro hc
  let mk : Option D × Option D → VC.Env := fun j => [some (eT tf n), some (.int n), j.1, j.2]
  obtain ⟨j, e⟩ := forD_all mk (fun r : Nat => D.tup [.int ((1 : Int) + r), eR tf n ((r : Int) + 1)]) (fun d e => (bindTg (.tp [2, 3]) d e).bind fun e1 => evSs C [.ex (.call 2 [] [(.var 2), (.var 3), (.var 1)])] e1) (List.range n) (none, none) (fun r hr j => by
    have hr := List.mem_range.mp hr
    refine ⟨(some (.int ((1 : Int) + r)), some (eR tf n ((r : Int) + 1))), ?_⟩
    rw [t_tp (e1 := mk (some (.int ((1 : Int) + r)), some (eR tf n ((r : Int) + 1)))) rfl]
    have h := hc ((1 : Int) + r) (by omega) (by omega)
    rw [Int.add_comm 1 (r : Int)] at h ⊢
    simp -implicitDefEqProofs only [y_asg, kAsg_ok, y_ex, kEx_ok, y_ret, y_retMv, kRet_ok, y_mv, y_ite, kSi1_ok, kSi2_ok, x_frz, x_pas, x_nil, x_ret0, x_brk, x_cnt, F_bin, kBin1_ok, kBin2_ok, F_cmp, kCmp1_ok, kCmp2_ok, F_idx, kIdx1_ok, kIdx2_ok, Fs_cons, kCons1_ok, kCons2_ok, F_tup, kTup_ok, F_lst, kLst_ok, F_bi, kBi_ok, F_call, kCall_ok, rcE_ok, F_not, kNot1_ok, kNot2_ok, F_neg, kNeg_ok, F_ite, kIte1_ok, kIte2_ok, F_or, kOr1_ok, kOr2_ok, E_or0, F_and, kAnd1_ok, kAnd2_ok, E_and0, F_chn, kChn1_ok, kChn2_ok, chnO_ok, kChn3_ok, F_app, kApp_ok, appH_ok, appG_ok, E_var, E_int, E_str, E_bl, E_non, Es_nil, R.bind_ok, ofO_some, Option.map_some, t_bl, o_addI, o_sub, o_mod, c_lt, c_le, c_gt, c_ge, c_eqI, c_neI, List.cons_append, List.nil_append, getV, List.getElem?_cons_zero, List.getElem?_cons_succ, List.set_cons_zero, List.set_cons_succ, decide_eq_true_eq, Bool.not_true, Bool.not_false, mk, h])
  have hen : ∀ (l : List Nat) (k : Int) (o : Nat), l = List.range' o l.length → k = 1 + o → enumL k (l.map fun r : Nat => eR tf n ((r : Int) + 1)) = l.map fun r : Nat => D.tup [.int ((1 : Int) + r), eR tf n ((r : Int) + 1)] := fun l => by
    induction l with
    | nil => intro k o _ _; rfl
    | cons c l ih =>
      intro k o hl hk
      rw [List.length_cons, List.range'_succ] at hl
      injection hl with h1 h2
      subst h1
      simp only [List.map_cons, enumL]
      rw [hk, ← hk, ih (k + 1) (c + 1) h2 (by omega), hk]
  have hit : itD .enumS [eT tf n, .int 1] = some ((List.range n).map fun r : Nat => D.tup [.int ((1 : Int) + r), eR tf n ((r : Int) + 1)]) := by
    have q : rngOk 1 = true := by decide
    show (if rngOk 1 = true then some (enumL 1 ((List.range n).map fun r : Nat => eR tf n ((r : Int) + 1))) else none) = _
    rw [if_pos q, hen _ 1 0 (by simp [List.range_eq_range']) (by omega)]
  have hl := t_len tf n
  have c1 : (1 : Int) ≤ n := by omega
  have c2 : (n : Int) ≤ 31 := by omega
  show endC [] (evSs C [.asg 1 _ _, .ite _ [.bad] [], .for_ _ _ _ _ [.ex (.call 2 [] [(.var 2), (.var 3), (.var 1)])], .ret _] [some (eT tf n), none, none, none]) = _
  simp -implicitDefEqProofs only [y_asg, kAsg_ok, y_ex, kEx_ok, y_ret, y_retMv, kRet_ok, y_mv, y_ite, kSi1_ok, kSi2_ok, x_frz, x_pas, x_nil, x_ret0, x_brk, x_cnt, F_bin, kBin1_ok, kBin2_ok, F_cmp, kCmp1_ok, kCmp2_ok, F_idx, kIdx1_ok, kIdx2_ok, Fs_cons, kCons1_ok, kCons2_ok, F_tup, kTup_ok, F_lst, kLst_ok, F_bi, kBi_ok, F_call, kCall_ok, rcE_ok, F_not, kNot1_ok, kNot2_ok, F_neg, kNeg_ok, F_ite, kIte1_ok, kIte2_ok, F_or, kOr1_ok, kOr2_ok, E_or0, F_and, kAnd1_ok, kAnd2_ok, E_and0, F_chn, kChn1_ok, kChn2_ok, chnO_ok, kChn3_ok, F_app, kApp_ok, appH_ok, appG_ok, E_var, E_int, E_str, E_bl, E_non, Es_nil, R.bind_ok, ofO_some, Option.map_some, t_bl, o_addI, o_sub, o_mod, c_lt, c_le, c_gt, c_ge, c_eqI, c_neI, List.cons_append, List.nil_append, getV, List.getElem?_cons_zero, List.getElem?_cons_succ, List.set_cons_zero, List.set_cons_succ, decide_eq_true_eq, Bool.not_true, Bool.not_false, hl, c1, c2, decide_true, if_true, if_false, Bool.false_eq_true]
  rw [y_for (ds := [eT tf n, .int 1]) (items := (List.range n).map fun r : Nat => D.tup [.int ((1 : Int) + r), eR tf n ((r : Int) + 1)]) (env1 := mk (none, none)) (by simp -implicitDefEqProofs only [mk, y_asg, kAsg_ok, y_ex, kEx_ok, y_ret, y_retMv, kRet_ok, y_mv, y_ite, kSi1_ok, kSi2_ok, x_frz, x_pas, x_nil, x_ret0, x_brk, x_cnt, F_bin, kBin1_ok, kBin2_ok, F_cmp, kCmp1_ok, kCmp2_ok, F_idx, kIdx1_ok, kIdx2_ok, Fs_cons, kCons1_ok, kCons2_ok, F_tup, kTup_ok, F_lst, kLst_ok, F_bi, kBi_ok, F_call, kCall_ok, rcE_ok, F_not, kNot1_ok, kNot2_ok, F_neg, kNeg_ok, F_ite, kIte1_ok, kIte2_ok, F_or, kOr1_ok, kOr2_ok, E_or0, F_and, kAnd1_ok, kAnd2_ok, E_and0, F_chn, kChn1_ok, kChn2_ok, chnO_ok, kChn3_ok, F_app, kApp_ok, appH_ok, appG_ok, E_var, E_int, E_str, E_bl, E_non, Es_nil, R.bind_ok, ofO_some, Option.map_some, t_bl, o_addI, o_sub, o_mod, c_lt, c_le, c_gt, c_ge, c_eqI, c_neI, List.cons_append, List.nil_append, getV, List.getElem?_cons_zero, List.getElem?_cons_succ, List.set_cons_zero, List.set_cons_succ, decide_eq_true_eq, Bool.not_true, Bool.not_false]) hit, e, R.bind_ok, kFor_nx]
  simp -implicitDefEqProofs only [y_asg, kAsg_ok, y_ex, kEx_ok, y_ret, y_retMv, kRet_ok, y_mv, y_ite, kSi1_ok, kSi2_ok, x_frz, x_pas, x_nil, x_ret0, x_brk, x_cnt, F_bin, kBin1_ok, kBin2_ok, F_cmp, kCmp1_ok, kCmp2_ok, F_idx, kIdx1_ok, kIdx2_ok, Fs_cons, kCons1_ok, kCons2_ok, F_tup, kTup_ok, F_lst, kLst_ok, F_bi, kBi_ok, F_call, kCall_ok, rcE_ok, F_not, kNot1_ok, kNot2_ok, F_neg, kNeg_ok, F_ite, kIte1_ok, kIte2_ok, F_or, kOr1_ok, kOr2_ok, E_or0, F_and, kAnd1_ok, kAnd2_ok, E_and0, F_chn, kChn1_ok, kChn2_ok, chnO_ok, kChn3_ok, F_app, kApp_ok, appH_ok, appG_ok, E_var, E_int, E_str, E_bl, E_non, Es_nil, R.bind_ok, ofO_some, Option.map_some, t_bl, o_addI, o_sub, o_mod, c_lt, c_le, c_gt, c_ge, c_eqI, c_neI, List.cons_append, List.nil_append, getV, List.getElem?_cons_zero, List.getElem?_cons_succ, List.set_cons_zero, List.set_cons_succ, decide_eq_true_eq, Bool.not_true, Bool.not_false, mk]
  rfl
end Lk63
end

section
set_option Elab.async false
set_option linter.all false
set_option maxRecDepth 100000
set_option maxHeartbeats 400000
namespace Lk63
open PySem VC
theorem eqOk_T (tf : Int → Int → Int) (n : Nat) : eqOk (eT tf n) = true :=
  eqOk_le (pl_lst (plains_map (fun r : Nat => eR tf n ((r : Int) + 1)) 1 (fun r => pl_lst (plains_map (fun c : Nat => D.int (tf ((r : Int) + 1) ((r : Int) + 1 + c))) 0 (fun c => pl_int _) _)) _)) (by omega)
theorem flat_single {α β : Type} (f : α → List β) (l : List α) (p : α → Bool) (g : α → β) (h : ∀ a, f a = if p a = true then [g a] else []) : l.flatMap f = (l.filter p).map g := by
  induction l with
  | nil => rfl
  | cons a l ih =>
    rw [List.flatMap_cons, List.filter_cons, ih, h a]
    cases p a <;> simp
def oths (n day : Nat) : List Int := (List.range (n - day)).map fun c : Nat => (day : Int) + 1 + c
theorem oths_rng {n day : Nat} {o : Int} (h : o ∈ oths n day) : (day : Int) < o ∧ o ≤ n := by
  obtain ⟨c, hc, rfl⟩ := List.mem_map.mp h
  have := List.mem_range.mp hc
  omega
def e2 (p : Int × Int) : D := .tup [.int p.1, .int p.2]
def back (tf : Int → Int → Int) (n day : Nat) : List (Int × Int) := ((oths n day).filter fun o => decide (0 < stepM tf n day o)).map fun o => (o, stepM tf n day o)
theorem back_len (tf : Int → Int → Int) (n day : Nat) : (back tf n day).length ≤ n := by
  unfold back
  rw [List.length_map]
  refine Nat.le_trans (List.length_filter_le _ _) ?_
  simp [oths]
theorem it_oths (n day : Nat) (hn : n ≤ 1000) (hd : day ≤ n) : itD .rng2 [.int ((day : Int) + 1), .int ((n : Int) + 1)] = some ((oths n day).map .int) := by
  rw [it_rng2 _ _ (by omega) (by omega)]
  unfold oths
  rw [List.map_map]
  congr 3
  omega
theorem e_came (tf : Int → Int → Int) (n : Nat) (h1 : 1 ≤ n) (hn : n ≤ 1000) (day : Nat) (hd : day ≤ n) (m : Nat) (hm : 5 ≤ m) : callD T m 11 [eT tf n, .int day] = .ok (.lst ((back tf n day).map e2)) [] := by
  obtain ⟨m, rfl⟩ : ∃ k, m = k + 1 := ⟨m - 1, by omega⟩
  rw [VC.call_def (df := d_came_back) rfl rfl]
  have hs := fun (a b : Int) (ha : 0 ≤ a) => e_step tf n h1 a b ha m (by omega)
  revert hs
  generalize callD T m = C
  intro hs
  let mk : List (Int × Int) → Option D × Option D → VC.Env := fun acc j => [some (eT tf n), some (.int day), some (.lst (acc.map e2)), j.1, j.2]
  obtain ⟨j', e⟩ := forD_acc (τ := Option D × Option D) mk (fun o : Int => if decide (0 < stepM tf n day o) = true then [(o, stepM tf n day o)] else []) D.int (fun d e => (bindTg (.nm 3) d e).bind fun e1 => evSs C [.asg 4 .A (.call 10 [] [(.var 0), (.var 1), (.var 3)]), .ite (.cmp .gt (.var 4) (.int 0)) [.ex (.app 2 (.tup [(.var 3), (.var 4)]))] []] e1) 1 2000 (oths n day) [] (none, none) (fun o _ => by split <;> simp) (by simp [oths]; omega) (fun o ho acc j hl => by
    have hl' : (acc.map e2).length < lim := by rw [List.length_map]; unfold lim; omega
    refine ⟨(some (.int o), some (.int (stepM tf n day o))), ?_⟩
    rw [t_nm]
    have h := hs day o (by omega)
    by_cases hp : 0 < stepM tf n day o
    · simp -implicitDefEqProofs only [y_asg, kAsg_ok, y_ex, kEx_ok, y_ret, y_retMv, kRet_ok, y_mv, y_ite, kSi1_ok, kSi2_ok, x_frz, x_pas, x_nil, x_ret0, x_brk, x_cnt, F_bin, kBin1_ok, kBin2_ok, F_cmp, kCmp1_ok, kCmp2_ok, F_idx, kIdx1_ok, kIdx2_ok, Fs_cons, kCons1_ok, kCons2_ok, F_tup, kTup_ok, F_lst, kLst_ok, F_bi, kBi_ok, F_call, kCall_ok, rcE_ok, F_not, kNot1_ok, kNot2_ok, F_neg, kNeg_ok, F_ite, kIte1_ok, kIte2_ok, F_or, kOr1_ok, kOr2_ok, E_or0, F_and, kAnd1_ok, kAnd2_ok, E_and0, F_chn, kChn1_ok, kChn2_ok, chnO_ok, kChn3_ok, F_app, kApp_ok, appH_ok, appG_ok, E_var, E_int, E_str, E_bl, E_non, Es_nil, R.bind_ok, ofO_some, Option.map_some, t_bl, o_addI, o_sub, o_mod, c_lt, c_le, c_gt, c_ge, c_eqI, c_neI, List.cons_append, List.nil_append, getV, List.getElem?_cons_zero, List.getElem?_cons_succ, List.set_cons_zero, List.set_cons_succ, decide_eq_true_eq, Bool.not_true, Bool.not_false, mk, h, hp, decide_true, if_true, hl', List.map_append, List.map_cons, List.map_nil]
      rfl
    · simp -implicitDefEqProofs only [y_asg, kAsg_ok, y_ex, kEx_ok, y_ret, y_retMv, kRet_ok, y_mv, y_ite, kSi1_ok, kSi2_ok, x_frz, x_pas, x_nil, x_ret0, x_brk, x_cnt, F_bin, kBin1_ok, kBin2_ok, F_cmp, kCmp1_ok, kCmp2_ok, F_idx, kIdx1_ok, kIdx2_ok, Fs_cons, kCons1_ok, kCons2_ok, F_tup, kTup_ok, F_lst, kLst_ok, F_bi, kBi_ok, F_call, kCall_ok, rcE_ok, F_not, kNot1_ok, kNot2_ok, F_neg, kNeg_ok, F_ite, kIte1_ok, kIte2_ok, F_or, kOr1_ok, kOr2_ok, E_or0, F_and, kAnd1_ok, kAnd2_ok, E_and0, F_chn, kChn1_ok, kChn2_ok, chnO_ok, kChn3_ok, F_app, kApp_ok, appH_ok, appG_ok, E_var, E_int, E_str, E_bl, E_non, Es_nil, R.bind_ok, ofO_some, Option.map_some, t_bl, o_addI, o_sub, o_mod, c_lt, c_le, c_gt, c_ge, c_eqI, c_neI, List.cons_append, List.nil_append, getV, List.getElem?_cons_zero, List.getElem?_cons_succ, List.set_cons_zero, List.set_cons_succ, decide_eq_true_eq, Bool.not_true, Bool.not_false, mk, h, hp, decide_false, if_false, Bool.false_eq_true, List.append_nil])
  have hl := t_len tf n
  show endC [] (evSs C [.asg 2 _ (.lst .A []), .for_ _ _ _ _ [.asg 4 .A (.call 10 [] [(.var 0), (.var 1), (.var 3)]), .ite (.cmp .gt (.var 4) (.int 0)) [.ex (.app 2 (.tup [(.var 3), (.var 4)]))] []], .retMv 2] [some (eT tf n), some (.int day), none, none, none]) = _
  simp -implicitDefEqProofs only [y_asg, kAsg_ok, y_ex, kEx_ok, y_ret, y_retMv, kRet_ok, y_mv, y_ite, kSi1_ok, kSi2_ok, x_frz, x_pas, x_nil, x_ret0, x_brk, x_cnt, F_bin, kBin1_ok, kBin2_ok, F_cmp, kCmp1_ok, kCmp2_ok, F_idx, kIdx1_ok, kIdx2_ok, Fs_cons, kCons1_ok, kCons2_ok, F_tup, kTup_ok, F_lst, kLst_ok, F_bi, kBi_ok, F_call, kCall_ok, rcE_ok, F_not, kNot1_ok, kNot2_ok, F_neg, kNeg_ok, F_ite, kIte1_ok, kIte2_ok, F_or, kOr1_ok, kOr2_ok, E_or0, F_and, kAnd1_ok, kAnd2_ok, E_and0, F_chn, kChn1_ok, kChn2_ok, chnO_ok, kChn3_ok, F_app, kApp_ok, appH_ok, appG_ok, E_var, E_int, E_str, E_bl, E_non, Es_nil, R.bind_ok, ofO_some, Option.map_some, t_bl, o_addI, o_sub, o_mod, c_lt, c_le, c_gt, c_ge, c_eqI, c_neI, List.cons_append, List.nil_append, getV, List.getElem?_cons_zero, List.getElem?_cons_succ, List.set_cons_zero, List.set_cons_succ, decide_eq_true_eq, Bool.not_true, Bool.not_false]
  rw [y_for (ds := [.int ((day : Int) + 1), .int ((n : Int) + 1)]) (items := (oths n day).map .int) (env1 := mk [] (none, none)) (by simp -implicitDefEqProofs only [mk, y_asg, kAsg_ok, y_ex, kEx_ok, y_ret, y_retMv, kRet_ok, y_mv, y_ite, kSi1_ok, kSi2_ok, x_frz, x_pas, x_nil, x_ret0, x_brk, x_cnt, F_bin, kBin1_ok, kBin2_ok, F_cmp, kCmp1_ok, kCmp2_ok, F_idx, kIdx1_ok, kIdx2_ok, Fs_cons, kCons1_ok, kCons2_ok, F_tup, kTup_ok, F_lst, kLst_ok, F_bi, kBi_ok, F_call, kCall_ok, rcE_ok, F_not, kNot1_ok, kNot2_ok, F_neg, kNeg_ok, F_ite, kIte1_ok, kIte2_ok, F_or, kOr1_ok, kOr2_ok, E_or0, F_and, kAnd1_ok, kAnd2_ok, E_and0, F_chn, kChn1_ok, kChn2_ok, chnO_ok, kChn3_ok, F_app, kApp_ok, appH_ok, appG_ok, E_var, E_int, E_str, E_bl, E_non, Es_nil, R.bind_ok, ofO_some, Option.map_some, t_bl, o_addI, o_sub, o_mod, c_lt, c_le, c_gt, c_ge, c_eqI, c_neI, List.cons_append, List.nil_append, getV, List.getElem?_cons_zero, List.getElem?_cons_succ, List.set_cons_zero, List.set_cons_succ, decide_eq_true_eq, Bool.not_true, Bool.not_false, hl]; rfl) (it_oths n day hn hd), e]
  rw [flat_single _ _ (fun o => decide (0 < stepM tf n day o)) (fun o => (o, stepM tf n day o)) (fun o => rfl)]
  simp -implicitDefEqProofs only [y_asg, kAsg_ok, y_ex, kEx_ok, y_ret, y_retMv, kRet_ok, y_mv, y_ite, kSi1_ok, kSi2_ok, x_frz, x_pas, x_nil, x_ret0, x_brk, x_cnt, F_bin, kBin1_ok, kBin2_ok, F_cmp, kCmp1_ok, kCmp2_ok, F_idx, kIdx1_ok, kIdx2_ok, Fs_cons, kCons1_ok, kCons2_ok, F_tup, kTup_ok, F_lst, kLst_ok, F_bi, kBi_ok, F_call, kCall_ok, rcE_ok, F_not, kNot1_ok, kNot2_ok, F_neg, kNeg_ok, F_ite, kIte1_ok, kIte2_ok, F_or, kOr1_ok, kOr2_ok, E_or0, F_and, kAnd1_ok, kAnd2_ok, E_and0, F_chn, kChn1_ok, kChn2_ok, chnO_ok, kChn3_ok, F_app, kApp_ok, appH_ok, appG_ok, E_var, E_int, E_str, E_bl, E_non, Es_nil, R.bind_ok, ofO_some, Option.map_some, t_bl, o_addI, o_sub, o_mod, c_lt, c_le, c_gt, c_ge, c_eqI, c_neI, List.cons_append, List.nil_append, getV, List.getElem?_cons_zero, List.getElem?_cons_succ, List.set_cons_zero, List.set_cons_succ, decide_eq_true_eq, Bool.not_true, Bool.not_false, kFor_nx, mk]
  rfl
theorem e_last (tf : Int → Int → Int) (n : Nat) (h1 : 1 ≤ n) (hn : n ≤ 1000) (m : Nat) (hm : 5 ≤ m) : callD T m 12 [eT tf n] = .ok (.lst (((List.range n).map fun r : Nat => stepM tf n ((1 : Int) + r) ((n : Int) + 1)).map .int)) [] := by
  obtain ⟨m, rfl⟩ : ∃ k, m = k + 1 := ⟨m - 1, by omega⟩
  rw [VC.call_def (df := d_last_visits) rfl rfl]
  have hs := fun (a b : Int) (ha : 0 ≤ a) => e_step tf n h1 a b ha m (by omega)
  revert hs
  generalize callD T m = C
  intro hs
  have hl := t_len tf n
  have e := e_lc (C := C) (env := [some (eT tf n), some (.int ((n : Int) + 1)), none]) (own := [2]) (s := .A) (elt := .call 10 [] [(.var 0), (.var 2), (.var 1)]) (i := 2) (k := .rng2) (ies := [(.int 1), (.var 1)]) (ifs := []) (ds := [.int 1, .int ((n : Int) + 1)]) (fun r : Nat => D.int ((1 : Int) + r)) (fun _ => true) (fun r : Nat => D.int (stepM tf n ((1 : Int) + r) ((n : Int) + 1))) (List.range n)
    (by simp -implicitDefEqProofs only [y_asg, kAsg_ok, y_ex, kEx_ok, y_ret, y_retMv, kRet_ok, y_mv, y_ite, kSi1_ok, kSi2_ok, x_frz, x_pas, x_nil, x_ret0, x_brk, x_cnt, F_bin, kBin1_ok, kBin2_ok, F_cmp, kCmp1_ok, kCmp2_ok, F_idx, kIdx1_ok, kIdx2_ok, Fs_cons, kCons1_ok, kCons2_ok, F_tup, kTup_ok, F_lst, kLst_ok, F_bi, kBi_ok, F_call, kCall_ok, rcE_ok, F_not, kNot1_ok, kNot2_ok, F_neg, kNeg_ok, F_ite, kIte1_ok, kIte2_ok, F_or, kOr1_ok, kOr2_ok, E_or0, F_and, kAnd1_ok, kAnd2_ok, E_and0, F_chn, kChn1_ok, kChn2_ok, chnO_ok, kChn3_ok, F_app, kApp_ok, appH_ok, appG_ok, E_var, E_int, E_str, E_bl, E_non, Es_nil, R.bind_ok, ofO_some, Option.map_some, t_bl, o_addI, o_sub, o_mod, c_lt, c_le, c_gt, c_ge, c_eqI, c_neI, List.cons_append, List.nil_append, getV, List.getElem?_cons_zero, List.getElem?_cons_succ, List.set_cons_zero, List.set_cons_succ, decide_eq_true_eq, Bool.not_true, Bool.not_false]) (by rw [it_rng2 _ _ (by omega) (by omega)]; congr 3; omega) (by simp [lcOk, lim]; omega) (by decide) (by simp) (fun r hr e he hi => ⟨ts_nil, fun _ => by
      have g0 : e[0]? = some (some (eT tf n)) := he 0 (by decide)
      have g1 : e[1]? = some (some (.int ((n : Int) + 1))) := he 1 (by decide)
      have h := hs ((1 : Int) + r) ((n : Int) + 1) (by omega)
      simp -implicitDefEqProofs only [y_asg, kAsg_ok, y_ex, kEx_ok, y_ret, y_retMv, kRet_ok, y_mv, y_ite, kSi1_ok, kSi2_ok, x_frz, x_pas, x_nil, x_ret0, x_brk, x_cnt, F_bin, kBin1_ok, kBin2_ok, F_cmp, kCmp1_ok, kCmp2_ok, F_idx, kIdx1_ok, kIdx2_ok, Fs_cons, kCons1_ok, kCons2_ok, F_tup, kTup_ok, F_lst, kLst_ok, F_bi, kBi_ok, F_call, kCall_ok, rcE_ok, F_not, kNot1_ok, kNot2_ok, F_neg, kNeg_ok, F_ite, kIte1_ok, kIte2_ok, F_or, kOr1_ok, kOr2_ok, E_or0, F_and, kAnd1_ok, kAnd2_ok, E_and0, F_chn, kChn1_ok, kChn2_ok, chnO_ok, kChn3_ok, F_app, kApp_ok, appH_ok, appG_ok, E_var, E_int, E_str, E_bl, E_non, Es_nil, R.bind_ok, ofO_some, Option.map_some, t_bl, o_addI, o_sub, o_mod, c_lt, c_le, c_gt, c_ge, c_eqI, c_neI, List.cons_append, List.nil_append, getV, List.getElem?_cons_zero, List.getElem?_cons_succ, List.set_cons_zero, List.set_cons_succ, decide_eq_true_eq, Bool.not_true, Bool.not_false, hi, g0, g1, h]⟩)
  rw [filt_true] at e
  have em : (List.range n).map (fun r : Nat => D.int (stepM tf n ((1 : Int) + r) ((n : Int) + 1))) = ((List.range n).map fun r : Nat => stepM tf n ((1 : Int) + r) ((n : Int) + 1)).map .int := by rw [List.map_map]; rfl
  rw [em] at e
  show endC [] (evSs C [.asg 1 _ _, .ret (.lc [2] .A (.call 10 [] [(.var 0), (.var 2), (.var 1)]) (.nm 2) .rng2 [(.int 1), (.var 1)] [])] [some (eT tf n), none, none]) = _
  simp -implicitDefEqProofs only [y_asg, F_bin, F_bi, Fs_cons, Es_nil, E_var, E_int, getV, List.getElem?_cons_zero, List.getElem?_cons_succ, R.bind_ok, kCons1_ok, kCons2_ok, kBi_ok, hl, ofO_some, kBin1_ok, kBin2_ok, o_addI, kAsg_ok, List.set_cons_succ, List.set_cons_zero]
  rw [y_ret, e]
  rfl
theorem all_isint (C : Calls) (h14 : ∀ i : Int, C 14 [.int i] = .ok (.bl true) []) (env : VC.Env) (o v : Nat) (xs : List Int) (x : D) (hx : x = .lst (xs.map .int) ∨ x = .tup (xs.map .int)) (hv : env[v]? = some (some x)) (hl : o < env.length) : evE C (.bi .all1 [(.lc [o] .A (.call 14 [] [(.var o)]) (.nm o) .e [(.var v)] [])]) env = .ok (.bl true, env) := by
  have hit : itD .e [x] = some (xs.map .int) := by rcases hx with rfl | rfl <;> rfl
  have e := e_lc (C := C) (env := env) (own := [o]) (s := .A) (elt := .call 14 [] [(.var o)]) (i := o) (k := .e) (ies := [.var v]) (ifs := []) (ds := [x]) D.int (fun _ => true) (fun _ => D.bl true) xs
    (by simp -implicitDefEqProofs only [Fs_cons, Es_nil, E_var, gv hv, R.bind_ok, kCons1_ok, kCons2_ok]) hit rfl (by simp) hl (fun i _ e he hi => ⟨ts_nil, fun _ => by
      simp -implicitDefEqProofs only [F_call, Fs_cons, Es_nil, E_var, gv hi, R.bind_ok, kCons1_ok, kCons2_ok, kCall_ok, h14, rcE_ok]⟩)
  rw [filt_true] at e
  have em : xs.map (fun _ => D.bl true) = (xs.map fun _ => true).map .bl := by rw [List.map_map]; rfl
  rw [em] at e
  have ea : (xs.map fun _ => true).any id = (xs.map fun _ => true).any id := rfl
  have eall : (xs.map fun _ => true).all id = true := by simp
  rw [F_bi, Fs_cons, e]
  simp -implicitDefEqProofs only [R.bind_ok, kCons1_ok, Es_nil, kCons2_ok, kBi_ok, b_all, eall, ofO_some]
theorem e_arenum (tf : Int → Int → Int) (n : Nat) (m : Nat) (hm : 2 ≤ m) : callD T m 21 [eT tf n, eT tf n] = .ok (.bl true) [] := by
  obtain ⟨m, rfl⟩ : ∃ k, m = k + 1 := ⟨m - 1, by omega⟩
  rw [VC.call_def (df := d__law_are_numbers) rfl rfl]
  have h14 := fun i => e_isint i m (by omega)
  revert h14
  generalize callD T m = C
  intro h14
  let mk : Option D → VC.Env := fun j => [some (eT tf n), some (eT tf n), j, none]
  obtain ⟨j', e⟩ := forD_all mk (fun r : Nat => eR tf n ((r : Int) + 1)) (fun d e => (bindTg (.nm 2) d e).bind fun e1 => evSs C [.ite (.or [(.not (.bi (.isI .list) [(.var 2)])), (.not (.bi .all1 [(.lc [3] .A (.call 14 [] [(.var 3)]) (.nm 3) .e [(.var 2)] [])]))]) [.ret (.bl false)] []] e1) (List.range n) none (fun r hr j => by
    refine ⟨some (eR tf n ((r : Int) + 1)), ?_⟩
    rw [t_nm]
    have ea := all_isint C h14 (mk (some (eR tf n ((r : Int) + 1)))) 3 2 ((List.range ((n : Int) + 1 - ((r : Int) + 1)).toNat).map fun c : Nat => tf ((r : Int) + 1) ((r : Int) + 1 + c)) (eR tf n ((r : Int) + 1)) (.inl (by unfold eR; rw [List.map_map]; rfl)) rfl (by simp [mk])
    have eL : biD (.isI .list) [eR tf n ((r : Int) + 1)] = some (.bl true) := rfl
    simp only [mk] at ea
    simp -implicitDefEqProofs only [y_asg, kAsg_ok, y_ex, kEx_ok, y_ret, y_retMv, kRet_ok, y_mv, y_ite, kSi1_ok, kSi2_ok, x_frz, x_pas, x_nil, x_ret0, x_brk, x_cnt, F_bin, kBin1_ok, kBin2_ok, F_cmp, kCmp1_ok, kCmp2_ok, F_idx, kIdx1_ok, kIdx2_ok, Fs_cons, kCons1_ok, kCons2_ok, F_tup, kTup_ok, F_lst, kLst_ok, F_bi, kBi_ok, F_call, kCall_ok, rcE_ok, F_not, kNot1_ok, kNot2_ok, F_neg, kNeg_ok, F_ite, kIte1_ok, kIte2_ok, F_or, kOr1_ok, kOr2_ok, E_or0, F_and, kAnd1_ok, kAnd2_ok, E_and0, F_chn, kChn1_ok, kChn2_ok, chnO_ok, kChn3_ok, F_app, kApp_ok, appH_ok, appG_ok, E_var, E_int, E_str, E_bl, E_non, Es_nil, R.bind_ok, ofO_some, Option.map_some, t_bl, o_addI, o_sub, o_mod, c_lt, c_le, c_gt, c_ge, c_eqI, c_neI, List.cons_append, List.nil_append, getV, List.getElem?_cons_zero, List.getElem?_cons_succ, List.set_cons_zero, List.set_cons_succ, decide_eq_true_eq, Bool.not_true, Bool.not_false, mk, eL, ea, if_false, Bool.false_eq_true])
  have ne := c_ne_self (eqOk_T tf n)
  have eL : biD (.isI .list) [eT tf n] = some (.bl true) := rfl
  show endC [] (evSs C [.ite (.or [(.not (.bi (.isI .list) [(.var 0)])), (.cmp .ne (.var 0) (.var 1))]) [.ret (.bl false)] [], .for_ _ _ _ _ _, .ret (.bl true)] [some (eT tf n), some (eT tf n), none, none]) = _
  simp -implicitDefEqProofs only [y_asg, kAsg_ok, y_ex, kEx_ok, y_ret, y_retMv, kRet_ok, y_mv, y_ite, kSi1_ok, kSi2_ok, x_frz, x_pas, x_nil, x_ret0, x_brk, x_cnt, F_bin, kBin1_ok, kBin2_ok, F_cmp, kCmp1_ok, kCmp2_ok, F_idx, kIdx1_ok, kIdx2_ok, Fs_cons, kCons1_ok, kCons2_ok, F_tup, kTup_ok, F_lst, kLst_ok, F_bi, kBi_ok, F_call, kCall_ok, rcE_ok, F_not, kNot1_ok, kNot2_ok, F_neg, kNeg_ok, F_ite, kIte1_ok, kIte2_ok, F_or, kOr1_ok, kOr2_ok, E_or0, F_and, kAnd1_ok, kAnd2_ok, E_and0, F_chn, kChn1_ok, kChn2_ok, chnO_ok, kChn3_ok, F_app, kApp_ok, appH_ok, appG_ok, E_var, E_int, E_str, E_bl, E_non, Es_nil, R.bind_ok, ofO_some, Option.map_some, t_bl, o_addI, o_sub, o_mod, c_lt, c_le, c_gt, c_ge, c_eqI, c_neI, List.cons_append, List.nil_append, getV, List.getElem?_cons_zero, List.getElem?_cons_succ, List.set_cons_zero, List.set_cons_succ, decide_eq_true_eq, Bool.not_true, Bool.not_false, eL, ne, Bool.false_eq_true, if_false]
  rw [y_for (ds := [eT tf n]) (items := (List.range n).map fun r : Nat => eR tf n ((r : Int) + 1)) (env1 := mk none) (by simp -implicitDefEqProofs only [mk, y_asg, kAsg_ok, y_ex, kEx_ok, y_ret, y_retMv, kRet_ok, y_mv, y_ite, kSi1_ok, kSi2_ok, x_frz, x_pas, x_nil, x_ret0, x_brk, x_cnt, F_bin, kBin1_ok, kBin2_ok, F_cmp, kCmp1_ok, kCmp2_ok, F_idx, kIdx1_ok, kIdx2_ok, Fs_cons, kCons1_ok, kCons2_ok, F_tup, kTup_ok, F_lst, kLst_ok, F_bi, kBi_ok, F_call, kCall_ok, rcE_ok, F_not, kNot1_ok, kNot2_ok, F_neg, kNeg_ok, F_ite, kIte1_ok, kIte2_ok, F_or, kOr1_ok, kOr2_ok, E_or0, F_and, kAnd1_ok, kAnd2_ok, E_and0, F_chn, kChn1_ok, kChn2_ok, chnO_ok, kChn3_ok, F_app, kApp_ok, appH_ok, appG_ok, E_var, E_int, E_str, E_bl, E_non, Es_nil, R.bind_ok, ofO_some, Option.map_some, t_bl, o_addI, o_sub, o_mod, c_lt, c_le, c_gt, c_ge, c_eqI, c_neI, List.cons_append, List.nil_append, getV, List.getElem?_cons_zero, List.getElem?_cons_succ, List.set_cons_zero, List.set_cons_succ, decide_eq_true_eq, Bool.not_true, Bool.not_false]) rfl, e]
  simp -implicitDefEqProofs only [R.bind_ok, kFor_nx, mk, y_asg, kAsg_ok, y_ex, kEx_ok, y_ret, y_retMv, kRet_ok, y_mv, y_ite, kSi1_ok, kSi2_ok, x_frz, x_pas, x_nil, x_ret0, x_brk, x_cnt, F_bin, kBin1_ok, kBin2_ok, F_cmp, kCmp1_ok, kCmp2_ok, F_idx, kIdx1_ok, kIdx2_ok, Fs_cons, kCons1_ok, kCons2_ok, F_tup, kTup_ok, F_lst, kLst_ok, F_bi, kBi_ok, F_call, kCall_ok, rcE_ok, F_not, kNot1_ok, kNot2_ok, F_neg, kNeg_ok, F_ite, kIte1_ok, kIte2_ok, F_or, kOr1_ok, kOr2_ok, E_or0, F_and, kAnd1_ok, kAnd2_ok, E_and0, F_chn, kChn1_ok, kChn2_ok, chnO_ok, kChn3_ok, F_app, kApp_ok, appH_ok, appG_ok, E_var, E_int, E_str, E_bl, E_non, Es_nil, R.bind_ok, ofO_some, Option.map_some, t_bl, o_addI, o_sub, o_mod, c_lt, c_le, c_gt, c_ge, c_eqI, c_neI, List.cons_append, List.nil_append, getV, List.getElem?_cons_zero, List.getElem?_cons_succ, List.set_cons_zero, List.set_cons_succ, decide_eq_true_eq, Bool.not_true, Bool.not_false]
  rfl
theorem e_listed (xs : List (Int × Int)) (m : Nat) (hm : 2 ≤ m) : callD T m 23 [.lst (xs.map e2), .lst (xs.map e2)] = .ok (.bl true) [] := by
  obtain ⟨m, rfl⟩ : ∃ k, m = k + 1 := ⟨m - 1, by omega⟩
  rw [VC.call_def (df := d__law_listed) rfl rfl]
  have h14 := fun i => e_isint i m (by omega)
  revert h14
  generalize callD T m = C
  intro h14
  let mk : Option D → VC.Env := fun j => [some (.lst (xs.map e2)), some (.lst (xs.map e2)), j, none]
  obtain ⟨j', e⟩ := forD_all mk e2 (fun d e => (bindTg (.nm 2) d e).bind fun e1 => evSs C [.ite (.or [(.not (.bi (.isI .tuple) [(.var 2)])), (.not (.bi .all1 [(.lc [3] .A (.call 14 [] [(.var 3)]) (.nm 3) .e [(.var 2)] [])]))]) [.ret (.bl false)] []] e1) xs none (fun p hp j => by
    refine ⟨some (e2 p), ?_⟩
    rw [t_nm]
    have ea := all_isint C h14 (mk (some (e2 p))) 3 2 [p.1, p.2] (e2 p) (.inr rfl) rfl (by simp [mk])
    have eL : biD (.isI .tuple) [e2 p] = some (.bl true) := rfl
    simp only [mk] at ea
    simp -implicitDefEqProofs only [y_asg, kAsg_ok, y_ex, kEx_ok, y_ret, y_retMv, kRet_ok, y_mv, y_ite, kSi1_ok, kSi2_ok, x_frz, x_pas, x_nil, x_ret0, x_brk, x_cnt, F_bin, kBin1_ok, kBin2_ok, F_cmp, kCmp1_ok, kCmp2_ok, F_idx, kIdx1_ok, kIdx2_ok, Fs_cons, kCons1_ok, kCons2_ok, F_tup, kTup_ok, F_lst, kLst_ok, F_bi, kBi_ok, F_call, kCall_ok, rcE_ok, F_not, kNot1_ok, kNot2_ok, F_neg, kNeg_ok, F_ite, kIte1_ok, kIte2_ok, F_or, kOr1_ok, kOr2_ok, E_or0, F_and, kAnd1_ok, kAnd2_ok, E_and0, F_chn, kChn1_ok, kChn2_ok, chnO_ok, kChn3_ok, F_app, kApp_ok, appH_ok, appG_ok, E_var, E_int, E_str, E_bl, E_non, Es_nil, R.bind_ok, ofO_some, Option.map_some, t_bl, o_addI, o_sub, o_mod, c_lt, c_le, c_gt, c_ge, c_eqI, c_neI, List.cons_append, List.nil_append, getV, List.getElem?_cons_zero, List.getElem?_cons_succ, List.set_cons_zero, List.set_cons_succ, decide_eq_true_eq, Bool.not_true, Bool.not_false, mk, eL, ea, if_false, Bool.false_eq_true])
  have ne := c_ne_self (d := .lst (xs.map e2)) (eqOk_le (pl_lst (plains_map e2 1 (fun p => pl_tup (k := 0) ⟨rfl, Nat.le_refl _⟩) xs)) (by omega))
  have eL : biD (.isI .list) [.lst (xs.map e2)] = some (.bl true) := rfl
  show endC [] (evSs C [.ite (.or [(.not (.bi (.isI .list) [(.var 0)])), (.cmp .ne (.var 0) (.var 1))]) [.ret (.bl false)] [], .for_ _ _ _ _ _, .ret (.bl true)] [some (.lst (xs.map e2)), some (.lst (xs.map e2)), none, none]) = _
  simp -implicitDefEqProofs only [y_asg, kAsg_ok, y_ex, kEx_ok, y_ret, y_retMv, kRet_ok, y_mv, y_ite, kSi1_ok, kSi2_ok, x_frz, x_pas, x_nil, x_ret0, x_brk, x_cnt, F_bin, kBin1_ok, kBin2_ok, F_cmp, kCmp1_ok, kCmp2_ok, F_idx, kIdx1_ok, kIdx2_ok, Fs_cons, kCons1_ok, kCons2_ok, F_tup, kTup_ok, F_lst, kLst_ok, F_bi, kBi_ok, F_call, kCall_ok, rcE_ok, F_not, kNot1_ok, kNot2_ok, F_neg, kNeg_ok, F_ite, kIte1_ok, kIte2_ok, F_or, kOr1_ok, kOr2_ok, E_or0, F_and, kAnd1_ok, kAnd2_ok, E_and0, F_chn, kChn1_ok, kChn2_ok, chnO_ok, kChn3_ok, F_app, kApp_ok, appH_ok, appG_ok, E_var, E_int, E_str, E_bl, E_non, Es_nil, R.bind_ok, ofO_some, Option.map_some, t_bl, o_addI, o_sub, o_mod, c_lt, c_le, c_gt, c_ge, c_eqI, c_neI, List.cons_append, List.nil_append, getV, List.getElem?_cons_zero, List.getElem?_cons_succ, List.set_cons_zero, List.set_cons_succ, decide_eq_true_eq, Bool.not_true, Bool.not_false, eL, ne, Bool.false_eq_true, if_false]
  rw [y_for (ds := [.lst (xs.map e2)]) (items := xs.map e2) (env1 := mk none) (by simp -implicitDefEqProofs only [mk, y_asg, kAsg_ok, y_ex, kEx_ok, y_ret, y_retMv, kRet_ok, y_mv, y_ite, kSi1_ok, kSi2_ok, x_frz, x_pas, x_nil, x_ret0, x_brk, x_cnt, F_bin, kBin1_ok, kBin2_ok, F_cmp, kCmp1_ok, kCmp2_ok, F_idx, kIdx1_ok, kIdx2_ok, Fs_cons, kCons1_ok, kCons2_ok, F_tup, kTup_ok, F_lst, kLst_ok, F_bi, kBi_ok, F_call, kCall_ok, rcE_ok, F_not, kNot1_ok, kNot2_ok, F_neg, kNeg_ok, F_ite, kIte1_ok, kIte2_ok, F_or, kOr1_ok, kOr2_ok, E_or0, F_and, kAnd1_ok, kAnd2_ok, E_and0, F_chn, kChn1_ok, kChn2_ok, chnO_ok, kChn3_ok, F_app, kApp_ok, appH_ok, appG_ok, E_var, E_int, E_str, E_bl, E_non, Es_nil, R.bind_ok, ofO_some, Option.map_some, t_bl, o_addI, o_sub, o_mod, c_lt, c_le, c_gt, c_ge, c_eqI, c_neI, List.cons_append, List.nil_append, getV, List.getElem?_cons_zero, List.getElem?_cons_succ, List.set_cons_zero, List.set_cons_succ, decide_eq_true_eq, Bool.not_true, Bool.not_false]) rfl, e]
  simp -implicitDefEqProofs only [R.bind_ok, kFor_nx, mk, y_asg, kAsg_ok, y_ex, kEx_ok, y_ret, y_retMv, kRet_ok, y_mv, y_ite, kSi1_ok, kSi2_ok, x_frz, x_pas, x_nil, x_ret0, x_brk, x_cnt, F_bin, kBin1_ok, kBin2_ok, F_cmp, kCmp1_ok, kCmp2_ok, F_idx, kIdx1_ok, kIdx2_ok, Fs_cons, kCons1_ok, kCons2_ok, F_tup, kTup_ok, F_lst, kLst_ok, F_bi, kBi_ok, F_call, kCall_ok, rcE_ok, F_not, kNot1_ok, kNot2_ok, F_neg, kNeg_ok, F_ite, kIte1_ok, kIte2_ok, F_or, kOr1_ok, kOr2_ok, E_or0, F_and, kAnd1_ok, kAnd2_ok, E_and0, F_chn, kChn1_ok, kChn2_ok, chnO_ok, kChn3_ok, F_app, kApp_ok, appH_ok, appG_ok, E_var, E_int, E_str, E_bl, E_non, Es_nil, R.bind_ok, ofO_some, Option.map_some, t_bl, o_addI, o_sub, o_mod, c_lt, c_le, c_gt, c_ge, c_eqI, c_neI, List.cons_append, List.nil_append, getV, List.getElem?_cons_zero, List.getElem?_cons_succ, List.set_cons_zero, List.set_cons_succ, decide_eq_true_eq, Bool.not_true, Bool.not_false]
  rfl
end Lk63
end

section
set_option Elab.async false
set_option linter.all false
set_option maxRecDepth 100000
set_option maxHeartbeats 400000
namespace Lk63
open PySem VC
/-- wider has no fewer; two that cross -/
structure Law2 (tf : Int → Int → Int) (n : Nat) : Prop where
  cross : ∀ a b c d : Int, 1 ≤ a → a ≤ b → b ≤ c → c ≤ d → d ≤ n → tf a d + tf b c ≤ tf a c + tf b d
  left : ∀ a b c : Int, 1 ≤ a → a ≤ b → b ≤ c → c ≤ n → tf b c ≤ tf a c
  right : ∀ a c d : Int, 1 ≤ a → a ≤ c → c ≤ d → d ≤ n → tf a c ≤ tf a d
theorem e_meets (tf : Int → Int → Int) (n : Nat) (h1 : 1 ≤ n) (hn : n ≤ 1000) (h : Law2 tf n) (L : List D) (hL : ∀ k : Nat, k < 4 → ∃ x : Int, idxD (.lst L) (.int k) = some (.int x)) (m : Nat) (hm : 2 ≤ m) : callD T m 22 [eT tf n, .int n, .lst L] = .ok (.bl true) [] := by
  obtain ⟨m, rfl⟩ : ∃ k, m = k + 1 := ⟨m - 1, by omega⟩
  rw [VC.call_def (df := d__law_meets) rfl rfl]
  have h4 := fun (i j : Int) (a : 1 ≤ i) (b : i ≤ j) (c : j ≤ n) => e_number tf n i j a b c m (by omega)
  revert h4
  generalize callD T m = C
  intro h4
  obtain ⟨X, hX⟩ : ∃ X : Nat → Int, ∀ k : Nat, k < 4 → idxD (.lst L) (.int k) = some (.int (X k)) := ⟨fun k => if q : k < 4 then (hL k q).choose else 0, fun k q => by
    simp only [q, dif_pos]
    exact (hL k q).choose_spec⟩
  have nz : (n : Int) ≠ 0 := by omega
  have e := e_lc (C := C) (env := [some (eT tf n), some (.int n), some (.lst L), none, none, none, none, none, none, none]) (own := [9]) (s := .A) (elt := .bin .addA (.int 1) (.bin .mod (.idx (.var 2) (.var 9)) (.var 1))) (i := 9) (k := .rng1) (ies := [(.int 4)]) (ifs := []) (ds := [.int (4 : Nat)]) (fun k : Nat => D.int k) (fun _ => true) (fun k : Nat => D.int (1 + (X k).fmod n)) (List.range 4)
    (by simp -implicitDefEqProofs only [y_asg, kAsg_ok, y_ex, kEx_ok, y_ret, y_retMv, kRet_ok, y_mv, y_ite, kSi1_ok, kSi2_ok, x_frz, x_pas, x_nil, x_ret0, x_brk, x_cnt, F_bin, kBin1_ok, kBin2_ok, F_cmp, kCmp1_ok, kCmp2_ok, F_idx, kIdx1_ok, kIdx2_ok, Fs_cons, kCons1_ok, kCons2_ok, F_tup, kTup_ok, F_lst, kLst_ok, F_bi, kBi_ok, F_call, kCall_ok, rcE_ok, F_not, kNot1_ok, kNot2_ok, F_neg, kNeg_ok, F_ite, kIte1_ok, kIte2_ok, F_or, kOr1_ok, kOr2_ok, E_or0, F_and, kAnd1_ok, kAnd2_ok, E_and0, F_chn, kChn1_ok, kChn2_ok, chnO_ok, kChn3_ok, F_app, kApp_ok, appH_ok, appG_ok, E_var, E_int, E_str, E_bl, E_non, Es_nil, R.bind_ok, ofO_some, Option.map_some, t_bl, o_addI, o_sub, o_mod, c_lt, c_le, c_gt, c_ge, c_eqI, c_neI, List.cons_append, List.nil_append, getV, List.getElem?_cons_zero, List.getElem?_cons_succ, List.set_cons_zero, List.set_cons_succ, decide_eq_true_eq, Bool.not_true, Bool.not_false]; rfl) (it_rng 4 (by omega)) (by simp [lcOk, lim]) (by decide) (by simp) (fun k hk e he hi => ⟨ts_nil, fun _ => by
      have g1 : e[1]? = some (some (.int n)) := he 1 (by decide)
      have g2 : e[2]? = some (some (.lst L)) := he 2 (by decide)
      have hx := hX k (List.mem_range.mp hk)
      simp -implicitDefEqProofs (disch := exact nz) only [y_asg, kAsg_ok, y_ex, kEx_ok, y_ret, y_retMv, kRet_ok, y_mv, y_ite, kSi1_ok, kSi2_ok, x_frz, x_pas, x_nil, x_ret0, x_brk, x_cnt, F_bin, kBin1_ok, kBin2_ok, F_cmp, kCmp1_ok, kCmp2_ok, F_idx, kIdx1_ok, kIdx2_ok, Fs_cons, kCons1_ok, kCons2_ok, F_tup, kTup_ok, F_lst, kLst_ok, F_bi, kBi_ok, F_call, kCall_ok, rcE_ok, F_not, kNot1_ok, kNot2_ok, F_neg, kNeg_ok, F_ite, kIte1_ok, kIte2_ok, F_or, kOr1_ok, kOr2_ok, E_or0, F_and, kAnd1_ok, kAnd2_ok, E_and0, F_chn, kChn1_ok, kChn2_ok, chnO_ok, kChn3_ok, F_app, kApp_ok, appH_ok, appG_ok, E_var, E_int, E_str, E_bl, E_non, Es_nil, R.bind_ok, ofO_some, Option.map_some, t_bl, o_addI, o_sub, o_mod, c_lt, c_le, c_gt, c_ge, c_eqI, c_neI, List.cons_append, List.nil_append, getV, List.getElem?_cons_zero, List.getElem?_cons_succ, List.set_cons_zero, List.set_cons_succ, decide_eq_true_eq, Bool.not_true, Bool.not_false, hi, g1, g2, hx]⟩)
  rw [filt_true] at e
  have em : (List.range 4).map (fun k : Nat => D.int (1 + (X k).fmod n)) = ((List.range 4).map fun k : Nat => 1 + (X k).fmod n).map .int := by rw [List.map_map]; rfl
  rw [em] at e
  have hs := sortI_sorted ((List.range 4).map fun k : Nat => 1 + (X k).fmod n)
  have hp := sortI_perm ((List.range 4).map fun k : Nat => 1 + (X k).fmod n)
  have hl4 : (sortI ((List.range 4).map fun k : Nat => 1 + (X k).fmod n)).length = 4 := by rw [hp.length_eq]; simp
  have hr : ∀ x ∈ sortI ((List.range 4).map fun k : Nat => 1 + (X k).fmod n), 1 ≤ x ∧ x ≤ n := fun x hx => by
    obtain ⟨k, _, rfl⟩ := List.mem_map.mp (hp.mem_iff.mp hx)
    have := fmod_rng (X k) n (by omega)
    omega
  have eb := b_sorted .A ((List.range 4).map fun k : Nat => 1 + (X k).fmod n)
  obtain ⟨a, b, c, d, eq⟩ := ex_len4 hl4
  rw [eq] at hs hr eb
  have ra := hr a (by simp)
  have rd := hr d (by simp)
  have ab : a ≤ b := (List.pairwise_cons.mp hs).1 b (by simp)
  have hs := (List.pairwise_cons.mp hs).2
  have bc : b ≤ c := (List.pairwise_cons.mp hs).1 c (by simp)
  have hs := (List.pairwise_cons.mp hs).2
  have cd : c ≤ d := (List.pairwise_cons.mp hs).1 d (by simp)
  have hac := h4 a c ra.1 (by omega) (by omega)
  have hbd := h4 b d (by omega) (by omega) rd.2
  have had := h4 a d ra.1 (by omega) rd.2
  have hbc := h4 b c (by omega) bc (by omega)
  have q1 := h.cross a b c d ra.1 ab bc cd rd.2
  have q2 := h.left a b c ra.1 ab bc (by omega)
  have q3 := h.right a c d ra.1 (by omega) cd rd.2
  have q1' : ¬ (tf a c + tf b d < tf a d + tf b c) := by omega
  show endC [] (evSs C (.asg 3 .F (.bi (.sorted .A) [_]) :: .unl [5, 6, 7, 8] (.var 3) :: [.asg 4 .A _, .ite _ [.ret (.bl false)] [], .ret _]) [some (eT tf n), some (.int n), some (.lst L), none, none, none, none, none, none, none]) = _
  rw [y_asg, F_bi, Fs_cons, e]
  simp -implicitDefEqProofs only [R.bind_ok, kCons1_ok, Es_nil, kCons2_ok, kBi_ok, eb, ofO_some, kAsg_ok, List.set_cons_succ, List.set_cons_zero]
  rw [x_unl (ds := [.int a, .int b, .int c, .int d]) (env1 := [some (eT tf n), some (.int n), some (.lst L), some (.lst [.int a, .int b, .int c, .int d]), none, none, none, none, none, none]) (env2 := [some (eT tf n), some (.int n), some (.lst L), some (.lst [.int a, .int b, .int c, .int d]), none, some (.int a), some (.int b), some (.int c), some (.int d), none]) (by rw [E_var]; rfl) rfl]
  simp -implicitDefEqProofs only [y_asg, kAsg_ok, y_ex, kEx_ok, y_ret, y_retMv, kRet_ok, y_mv, y_ite, kSi1_ok, kSi2_ok, x_frz, x_pas, x_nil, x_ret0, x_brk, x_cnt, F_bin, kBin1_ok, kBin2_ok, F_cmp, kCmp1_ok, kCmp2_ok, F_idx, kIdx1_ok, kIdx2_ok, Fs_cons, kCons1_ok, kCons2_ok, F_tup, kTup_ok, F_lst, kLst_ok, F_bi, kBi_ok, F_call, kCall_ok, rcE_ok, F_not, kNot1_ok, kNot2_ok, F_neg, kNeg_ok, F_ite, kIte1_ok, kIte2_ok, F_or, kOr1_ok, kOr2_ok, E_or0, F_and, kAnd1_ok, kAnd2_ok, E_and0, F_chn, kChn1_ok, kChn2_ok, chnO_ok, kChn3_ok, F_app, kApp_ok, appH_ok, appG_ok, E_var, E_int, E_str, E_bl, E_non, Es_nil, R.bind_ok, ofO_some, Option.map_some, t_bl, o_addI, o_sub, o_mod, c_lt, c_le, c_gt, c_ge, c_eqI, c_neI, List.cons_append, List.nil_append, getV, List.getElem?_cons_zero, List.getElem?_cons_succ, List.set_cons_zero, List.set_cons_succ, decide_eq_true_eq, Bool.not_true, Bool.not_false, hac, hbd, had, hbc, q1', q2, q3, decide_false, decide_true, if_false, if_true, Bool.false_eq_true]
  rfl
def rhb : List VC.S := [.asg 6 .F (.lc [9] .F (.tup [(.var 9), (.dget2 .F (.var 1) (.tup [(.var 4), (.var 9)]) (.int 0))]) (.nm 9) .rng2 [(.bin .addA (.var 4) (.int 1)), (.bin .addA (.var 2) (.int 1))] []), .asg 7 (.O .A) (.call 11 [] [(.var 3), (.var 4)]), .ite (.or [(.not (.call 23 [] [(.var 7), (.lc [11] .F (.var 11) (.nm 11) .e [(.var 6)] [(.cmp .gt (.idx (.var 11) (.int 1)) (.int 0))])])), (.cmp .ne (.var 3) (.var 0))]) [.ret (.bl false)] [], .ex (.app 7 (.tup [(.int 0), (.int 0)]))]
theorem copyT (C : Calls) (tf : Int → Int → Int) (n : Nat) (env : VC.Env) (o i : Nat) (hi : env[i]? = some (some (eT tf n))) (hl : o < env.length) : evE C (.lc [o] .F (.bi (.list1 .F) [(.var o)]) (.nm o) .e [(.var i)] []) env = .ok (eT tf n, env) := by
  have e := e_lc (C := C) (env := env) (own := [o]) (s := .F) (elt := .bi (.list1 .F) [(.var o)]) (i := o) (k := .e) (ies := [.var i]) (ifs := []) (ds := [eT tf n]) (fun r : Nat => eR tf n ((r : Int) + 1)) (fun _ => true) (fun r : Nat => eR tf n ((r : Int) + 1)) (List.range n)
    (by simp -implicitDefEqProofs only [Fs_cons, Es_nil, E_var, gv hi, R.bind_ok, kCons1_ok, kCons2_ok]) rfl rfl (by simp) hl (fun r hr e he h => ⟨ts_nil, fun _ => by
      simp -implicitDefEqProofs only [F_bi, Fs_cons, Es_nil, E_var, gv h, R.bind_ok, kCons1_ok, kCons2_ok, kBi_ok]
      rfl⟩)
  rw [filt_true] at e
  exact e
theorem e_returns (tf : Int → Int → Int) (n : Nat) (h1 : 1 ≤ n) (hn : n ≤ 1000) (ks : List (List Key)) (vs : List D) (say : ∀ a b : Int, 1 ≤ a → a < b → b ≤ (n : Int) + 1 → (lookD ks vs [.inl a, .inl b]).getD (.int 0) = .int (stepM tf n a b)) (m : Nat) (hm : 6 ≤ m) : callD T m 24 [eT tf n, .dT ks vs] = .ok (.bl true) [] := by
  obtain ⟨m, rfl⟩ : ∃ k, m = k + 1 := ⟨m - 1, by omega⟩
  rw [VC.call_def (df := d__law_returns_hold) rfl rfl]
  have h11 := fun (day : Nat) (hd : day ≤ n) => e_came tf n h1 hn day hd m (by omega)
  have h12 := e_last tf n h1 hn m (by omega)
  have h23 := fun xs => e_listed xs m (by omega)
  have h14 := fun i => e_isint i m (by omega)
  revert h11 h12 h23 h14
  generalize callD T m = C
  intro h11 h12 h23 h14
  have hl := t_len tf n
  have neT := c_ne_self (eqOk_T tf n)
  let mk : Option D × Option D × Option D → VC.Env := fun j => [some (eT tf n), some (.dT ks vs), some (.int n), some (eT tf n), j.1, none, j.2.1, j.2.2, none, none, none, none]
  obtain ⟨j', e⟩ := forD_all mk (fun r : Nat => D.int ((1 : Int) + r)) (fun d e => (bindTg (.nm 4) d e).bind fun e1 => evSs C rhb e1) (List.range n) (none, none, none) (fun r hr j => by
    have hr := List.mem_range.mp hr
    have c : ((1 + r : Nat) : Int) = (1 : Int) + r := by omega
    have h11' := h11 (1 + r) (by omega)
    rw [c] at h11'
    let due : List (Int × Int) := (oths n (1 + r)).map fun o => (o, stepM tf n ((1 : Int) + r) o)
    refine ⟨(some (.int ((1 : Int) + r)), some (.lst (due.map e2)), some (.lst ((back tf n (1 + r)).map e2 ++ [.tup [.int 0, .int 0]]))), ?_⟩
    rw [t_nm]
    have lc1 := e_lc (C := C) (env := mk (some (.int ((1 : Int) + r)), j.2.1, j.2.2)) (own := [9]) (s := .F) (elt := .tup [(.var 9), (.dget2 .F (.var 1) (.tup [(.var 4), (.var 9)]) (.int 0))]) (i := 9) (k := .rng2) (ies := [(.bin .addA (.var 4) (.int 1)), (.bin .addA (.var 2) (.int 1))]) (ifs := []) (ds := [.int ((1 : Int) + r + 1), .int ((n : Int) + 1)]) D.int (fun _ => true) (fun o => e2 (o, stepM tf n ((1 : Int) + r) o)) (oths n (1 + r))
      (by simp -implicitDefEqProofs only [y_asg, kAsg_ok, y_ex, kEx_ok, y_ret, y_retMv, kRet_ok, y_mv, y_ite, kSi1_ok, kSi2_ok, x_frz, x_pas, x_nil, x_ret0, x_brk, x_cnt, F_bin, kBin1_ok, kBin2_ok, F_cmp, kCmp1_ok, kCmp2_ok, F_idx, kIdx1_ok, kIdx2_ok, Fs_cons, kCons1_ok, kCons2_ok, F_tup, kTup_ok, F_lst, kLst_ok, F_bi, kBi_ok, F_call, kCall_ok, rcE_ok, F_not, kNot1_ok, kNot2_ok, F_neg, kNeg_ok, F_ite, kIte1_ok, kIte2_ok, F_or, kOr1_ok, kOr2_ok, E_or0, F_and, kAnd1_ok, kAnd2_ok, E_and0, F_chn, kChn1_ok, kChn2_ok, chnO_ok, kChn3_ok, F_app, kApp_ok, appH_ok, appG_ok, E_var, E_int, E_str, E_bl, E_non, Es_nil, R.bind_ok, ofO_some, Option.map_some, t_bl, o_addI, o_sub, o_mod, c_lt, c_le, c_gt, c_ge, c_eqI, c_neI, List.cons_append, List.nil_append, getV, List.getElem?_cons_zero, List.getElem?_cons_succ, List.set_cons_zero, List.set_cons_succ, decide_eq_true_eq, Bool.not_true, Bool.not_false, mk]) (by have := it_oths n (1 + r) hn (by omega); rw [c] at this; exact this) (by simp [lcOk, lim, oths]; omega) (by decide) (by simp [mk]) (fun o ho e he hi => ⟨ts_nil, fun _ => by
        have g1 : e[1]? = some (some (.dT ks vs)) := he 1 (by decide)
        have g4 : e[4]? = some (some (.int ((1 : Int) + r))) := he 4 (by decide)
        have ro := oths_rng ho
        have et : evE C (.tup [(.var 4), (.var 9)]) e = .ok (.tup [.int ((1 : Int) + r), .int o], e) := by
          simp -implicitDefEqProofs only [y_asg, kAsg_ok, y_ex, kEx_ok, y_ret, y_retMv, kRet_ok, y_mv, y_ite, kSi1_ok, kSi2_ok, x_frz, x_pas, x_nil, x_ret0, x_brk, x_cnt, F_bin, kBin1_ok, kBin2_ok, F_cmp, kCmp1_ok, kCmp2_ok, F_idx, kIdx1_ok, kIdx2_ok, Fs_cons, kCons1_ok, kCons2_ok, F_tup, kTup_ok, F_lst, kLst_ok, F_bi, kBi_ok, F_call, kCall_ok, rcE_ok, F_not, kNot1_ok, kNot2_ok, F_neg, kNeg_ok, F_ite, kIte1_ok, kIte2_ok, F_or, kOr1_ok, kOr2_ok, E_or0, F_and, kAnd1_ok, kAnd2_ok, E_and0, F_chn, kChn1_ok, kChn2_ok, chnO_ok, kChn3_ok, F_app, kApp_ok, appH_ok, appG_ok, E_var, E_int, E_str, E_bl, E_non, Es_nil, R.bind_ok, ofO_some, Option.map_some, t_bl, o_addI, o_sub, o_mod, c_lt, c_le, c_gt, c_ge, c_eqI, c_neI, List.cons_append, List.nil_append, getV, List.getElem?_cons_zero, List.getElem?_cons_succ, List.set_cons_zero, List.set_cons_succ, decide_eq_true_eq, Bool.not_true, Bool.not_false, hi, g4]
        have eg : evE C (.dget2 .F (.var 1) (.tup [(.var 4), (.var 9)]) (.int 0)) e = .ok (.int (stepM tf n ((1 : Int) + r) o), e) := by
          rw [F_dget2T (ks := ks) (ds := vs) (kk := [.inl ((1 : Int) + r), .inl o]) (by simp -implicitDefEqProofs only [y_asg, kAsg_ok, y_ex, kEx_ok, y_ret, y_retMv, kRet_ok, y_mv, y_ite, kSi1_ok, kSi2_ok, x_frz, x_pas, x_nil, x_ret0, x_brk, x_cnt, F_bin, kBin1_ok, kBin2_ok, F_cmp, kCmp1_ok, kCmp2_ok, F_idx, kIdx1_ok, kIdx2_ok, Fs_cons, kCons1_ok, kCons2_ok, F_tup, kTup_ok, F_lst, kLst_ok, F_bi, kBi_ok, F_call, kCall_ok, rcE_ok, F_not, kNot1_ok, kNot2_ok, F_neg, kNeg_ok, F_ite, kIte1_ok, kIte2_ok, F_or, kOr1_ok, kOr2_ok, E_or0, F_and, kAnd1_ok, kAnd2_ok, E_and0, F_chn, kChn1_ok, kChn2_ok, chnO_ok, kChn3_ok, F_app, kApp_ok, appH_ok, appG_ok, E_var, E_int, E_str, E_bl, E_non, Es_nil, R.bind_ok, ofO_some, Option.map_some, t_bl, o_addI, o_sub, o_mod, c_lt, c_le, c_gt, c_ge, c_eqI, c_neI, List.cons_append, List.nil_append, getV, List.getElem?_cons_zero, List.getElem?_cons_succ, List.set_cons_zero, List.set_cons_succ, decide_eq_true_eq, Bool.not_true, Bool.not_false, g1]) et rfl E_int, say _ _ (by omega) (by omega) (by omega)]
        rw [F_tup, Fs_cons, E_var, gv hi, R.bind_ok, kCons1_ok, Fs_cons, eg, R.bind_ok, kCons1_ok, Es_nil]
        rfl⟩)
    rw [filt_true] at lc1
    have em : (oths n (1 + r)).map (fun o => e2 (o, stepM tf n ((1 : Int) + r) o)) = due.map e2 := by simp only [due, List.map_map]; rfl
    rw [em] at lc1
    have lc2 := e_lc (C := C) (env := mk (some (.int ((1 : Int) + r)), some (.lst (due.map e2)), some (.lst ((back tf n (1 + r)).map e2)))) (own := [11]) (s := .F) (elt := .var 11) (i := 11) (k := .e) (ies := [.var 6]) (ifs := [(.cmp .gt (.idx (.var 11) (.int 1)) (.int 0))]) (ds := [.lst (due.map e2)]) e2 (fun p => decide (0 < p.2)) e2 due
      (by simp -implicitDefEqProofs only [y_asg, kAsg_ok, y_ex, kEx_ok, y_ret, y_retMv, kRet_ok, y_mv, y_ite, kSi1_ok, kSi2_ok, x_frz, x_pas, x_nil, x_ret0, x_brk, x_cnt, F_bin, kBin1_ok, kBin2_ok, F_cmp, kCmp1_ok, kCmp2_ok, F_idx, kIdx1_ok, kIdx2_ok, Fs_cons, kCons1_ok, kCons2_ok, F_tup, kTup_ok, F_lst, kLst_ok, F_bi, kBi_ok, F_call, kCall_ok, rcE_ok, F_not, kNot1_ok, kNot2_ok, F_neg, kNeg_ok, F_ite, kIte1_ok, kIte2_ok, F_or, kOr1_ok, kOr2_ok, E_or0, F_and, kAnd1_ok, kAnd2_ok, E_and0, F_chn, kChn1_ok, kChn2_ok, chnO_ok, kChn3_ok, F_app, kApp_ok, appH_ok, appG_ok, E_var, E_int, E_str, E_bl, E_non, Es_nil, R.bind_ok, ofO_some, Option.map_some, t_bl, o_addI, o_sub, o_mod, c_lt, c_le, c_gt, c_ge, c_eqI, c_neI, List.cons_append, List.nil_append, getV, List.getElem?_cons_zero, List.getElem?_cons_succ, List.set_cons_zero, List.set_cons_succ, decide_eq_true_eq, Bool.not_true, Bool.not_false, mk]) rfl rfl (by decide) (by simp [mk]) (fun p hp e he hi => by
        have i1 : idxD (e2 p) (.int 1) = some (.int p.2) := rfl
        refine ⟨ts_one ?_, fun _ => by simp -implicitDefEqProofs only [y_asg, kAsg_ok, y_ex, kEx_ok, y_ret, y_retMv, kRet_ok, y_mv, y_ite, kSi1_ok, kSi2_ok, x_frz, x_pas, x_nil, x_ret0, x_brk, x_cnt, F_bin, kBin1_ok, kBin2_ok, F_cmp, kCmp1_ok, kCmp2_ok, F_idx, kIdx1_ok, kIdx2_ok, Fs_cons, kCons1_ok, kCons2_ok, F_tup, kTup_ok, F_lst, kLst_ok, F_bi, kBi_ok, F_call, kCall_ok, rcE_ok, F_not, kNot1_ok, kNot2_ok, F_neg, kNeg_ok, F_ite, kIte1_ok, kIte2_ok, F_or, kOr1_ok, kOr2_ok, E_or0, F_and, kAnd1_ok, kAnd2_ok, E_and0, F_chn, kChn1_ok, kChn2_ok, chnO_ok, kChn3_ok, F_app, kApp_ok, appH_ok, appG_ok, E_var, E_int, E_str, E_bl, E_non, Es_nil, R.bind_ok, ofO_some, Option.map_some, t_bl, o_addI, o_sub, o_mod, c_lt, c_le, c_gt, c_ge, c_eqI, c_neI, List.cons_append, List.nil_append, getV, List.getElem?_cons_zero, List.getElem?_cons_succ, List.set_cons_zero, List.set_cons_succ, decide_eq_true_eq, Bool.not_true, Bool.not_false, hi]⟩
        simp -implicitDefEqProofs only [y_asg, kAsg_ok, y_ex, kEx_ok, y_ret, y_retMv, kRet_ok, y_mv, y_ite, kSi1_ok, kSi2_ok, x_frz, x_pas, x_nil, x_ret0, x_brk, x_cnt, F_bin, kBin1_ok, kBin2_ok, F_cmp, kCmp1_ok, kCmp2_ok, F_idx, kIdx1_ok, kIdx2_ok, Fs_cons, kCons1_ok, kCons2_ok, F_tup, kTup_ok, F_lst, kLst_ok, F_bi, kBi_ok, F_call, kCall_ok, rcE_ok, F_not, kNot1_ok, kNot2_ok, F_neg, kNeg_ok, F_ite, kIte1_ok, kIte2_ok, F_or, kOr1_ok, kOr2_ok, E_or0, F_and, kAnd1_ok, kAnd2_ok, E_and0, F_chn, kChn1_ok, kChn2_ok, chnO_ok, kChn3_ok, F_app, kApp_ok, appH_ok, appG_ok, E_var, E_int, E_str, E_bl, E_non, Es_nil, R.bind_ok, ofO_some, Option.map_some, t_bl, o_addI, o_sub, o_mod, c_lt, c_le, c_gt, c_ge, c_eqI, c_neI, List.cons_append, List.nil_append, getV, List.getElem?_cons_zero, List.getElem?_cons_succ, List.set_cons_zero, List.set_cons_succ, decide_eq_true_eq, Bool.not_true, Bool.not_false, hi, i1])
    have ef : due.filter (fun p => decide (0 < p.2)) = back tf n (1 + r) := by
      simp only [due, back, List.filter_map]
      first | rfl | (rw [c]; rfl) | (congr 1; rw [c]; rfl) | (congr 1; rw [c])
    rw [ef] at lc2
    have hl' : ((back tf n (1 + r)).map e2).length < lim := by
      have := back_len tf n (1 + r)
      rw [List.length_map]; unfold lim; omega
    have h23' := h23 (back tf n (1 + r))
    show evSs C rhb (mk (some (.int ((1 : Int) + r)), j.2.1, j.2.2)) = _
    unfold rhb
    rw [y_asg, lc1]
    simp only [mk] at lc2
    simp -implicitDefEqProofs only [R.bind_ok, kAsg_ok, mk, List.set_cons_succ, List.set_cons_zero, y_asg, F_call, Fs_cons, kCons1_ok, kCons2_ok, Es_nil, E_var, getV, List.getElem?_cons_zero, List.getElem?_cons_succ, kCall_ok, h11', rcE_ok, y_ite, F_or, F_not, lc2, h23', kNot1_ok, t_bl, kNot2_ok, Bool.not_true, kOr1_ok, kOr2_ok, Bool.false_eq_true, if_false, F_cmp, kCmp1_ok, kCmp2_ok, neT, Option.map_some, ofO_some, E_or0, kSi1_ok, kSi2_ok, List.nil_append, y_ex, F_app, appG_ok, F_tup, E_int, kTup_ok, kApp_ok, appH_ok, hl', if_true, kEx_ok, x_nil])
  let en5 : VC.Env := [some (eT tf n), some (.dT ks vs), some (.int n), some (eT tf n), j'.1, some (.lst (((List.range n).map fun r : Nat => stepM tf n ((1 : Int) + r) ((n : Int) + 1)).map .int)), j'.2.1, j'.2.2, none, none, none, none]
  have ea := all_isint C h14 en5 10 5 ((List.range n).map fun r : Nat => stepM tf n ((1 : Int) + r) ((n : Int) + 1)) _ (.inl rfl) rfl (by simp [en5])
  have lc3 := e_lc (C := C) (env := en5) (own := [4]) (s := .F) (elt := .dget2 .F (.var 1) (.tup [(.var 4), (.bin .addA (.var 2) (.int 1))]) (.int 0)) (i := 4) (k := .rng2) (ies := [(.int 1), (.bin .addA (.var 2) (.int 1))]) (ifs := []) (ds := [.int 1, .int ((n : Int) + 1)]) (fun r : Nat => D.int ((1 : Int) + r)) (fun _ => true) (fun r : Nat => D.int (stepM tf n ((1 : Int) + r) ((n : Int) + 1))) (List.range n)
    (by simp -implicitDefEqProofs only [y_asg, kAsg_ok, y_ex, kEx_ok, y_ret, y_retMv, kRet_ok, y_mv, y_ite, kSi1_ok, kSi2_ok, x_frz, x_pas, x_nil, x_ret0, x_brk, x_cnt, F_bin, kBin1_ok, kBin2_ok, F_cmp, kCmp1_ok, kCmp2_ok, F_idx, kIdx1_ok, kIdx2_ok, Fs_cons, kCons1_ok, kCons2_ok, F_tup, kTup_ok, F_lst, kLst_ok, F_bi, kBi_ok, F_call, kCall_ok, rcE_ok, F_not, kNot1_ok, kNot2_ok, F_neg, kNeg_ok, F_ite, kIte1_ok, kIte2_ok, F_or, kOr1_ok, kOr2_ok, E_or0, F_and, kAnd1_ok, kAnd2_ok, E_and0, F_chn, kChn1_ok, kChn2_ok, chnO_ok, kChn3_ok, F_app, kApp_ok, appH_ok, appG_ok, E_var, E_int, E_str, E_bl, E_non, Es_nil, R.bind_ok, ofO_some, Option.map_some, t_bl, o_addI, o_sub, o_mod, c_lt, c_le, c_gt, c_ge, c_eqI, c_neI, List.cons_append, List.nil_append, getV, List.getElem?_cons_zero, List.getElem?_cons_succ, List.set_cons_zero, List.set_cons_succ, decide_eq_true_eq, Bool.not_true, Bool.not_false, en5]) (by rw [it_rng2 _ _ (by omega) (by omega)]; congr 3; omega) (by simp [lcOk, lim]; omega) (by decide) (by simp [en5]) (fun r hr e he hi => ⟨ts_nil, fun _ => by
      have hr := List.mem_range.mp hr
      have g1 : e[1]? = some (some (.dT ks vs)) := he 1 (by decide)
      have g2 : e[2]? = some (some (.int n)) := he 2 (by decide)
      have et : evE C (.tup [(.var 4), (.bin .addA (.var 2) (.int 1))]) e = .ok (.tup [.int ((1 : Int) + r), .int ((n : Int) + 1)], e) := by
        simp -implicitDefEqProofs only [y_asg, kAsg_ok, y_ex, kEx_ok, y_ret, y_retMv, kRet_ok, y_mv, y_ite, kSi1_ok, kSi2_ok, x_frz, x_pas, x_nil, x_ret0, x_brk, x_cnt, F_bin, kBin1_ok, kBin2_ok, F_cmp, kCmp1_ok, kCmp2_ok, F_idx, kIdx1_ok, kIdx2_ok, Fs_cons, kCons1_ok, kCons2_ok, F_tup, kTup_ok, F_lst, kLst_ok, F_bi, kBi_ok, F_call, kCall_ok, rcE_ok, F_not, kNot1_ok, kNot2_ok, F_neg, kNeg_ok, F_ite, kIte1_ok, kIte2_ok, F_or, kOr1_ok, kOr2_ok, E_or0, F_and, kAnd1_ok, kAnd2_ok, E_and0, F_chn, kChn1_ok, kChn2_ok, chnO_ok, kChn3_ok, F_app, kApp_ok, appH_ok, appG_ok, E_var, E_int, E_str, E_bl, E_non, Es_nil, R.bind_ok, ofO_some, Option.map_some, t_bl, o_addI, o_sub, o_mod, c_lt, c_le, c_gt, c_ge, c_eqI, c_neI, List.cons_append, List.nil_append, getV, List.getElem?_cons_zero, List.getElem?_cons_succ, List.set_cons_zero, List.set_cons_succ, decide_eq_true_eq, Bool.not_true, Bool.not_false, hi, g2]
      rw [F_dget2T (ks := ks) (ds := vs) (kk := [.inl ((1 : Int) + r), .inl ((n : Int) + 1)]) (by simp -implicitDefEqProofs only [y_asg, kAsg_ok, y_ex, kEx_ok, y_ret, y_retMv, kRet_ok, y_mv, y_ite, kSi1_ok, kSi2_ok, x_frz, x_pas, x_nil, x_ret0, x_brk, x_cnt, F_bin, kBin1_ok, kBin2_ok, F_cmp, kCmp1_ok, kCmp2_ok, F_idx, kIdx1_ok, kIdx2_ok, Fs_cons, kCons1_ok, kCons2_ok, F_tup, kTup_ok, F_lst, kLst_ok, F_bi, kBi_ok, F_call, kCall_ok, rcE_ok, F_not, kNot1_ok, kNot2_ok, F_neg, kNeg_ok, F_ite, kIte1_ok, kIte2_ok, F_or, kOr1_ok, kOr2_ok, E_or0, F_and, kAnd1_ok, kAnd2_ok, E_and0, F_chn, kChn1_ok, kChn2_ok, chnO_ok, kChn3_ok, F_app, kApp_ok, appH_ok, appG_ok, E_var, E_int, E_str, E_bl, E_non, Es_nil, R.bind_ok, ofO_some, Option.map_some, t_bl, o_addI, o_sub, o_mod, c_lt, c_le, c_gt, c_ge, c_eqI, c_neI, List.cons_append, List.nil_append, getV, List.getElem?_cons_zero, List.getElem?_cons_succ, List.set_cons_zero, List.set_cons_succ, decide_eq_true_eq, Bool.not_true, Bool.not_false, g1]) et rfl E_int, say _ _ (by omega) (by omega) (by omega)]⟩)
  rw [filt_true] at lc3
  have em : (List.range n).map (fun r : Nat => D.int (stepM tf n ((1 : Int) + r) ((n : Int) + 1))) = ((List.range n).map fun r : Nat => stepM tf n ((1 : Int) + r) ((n : Int) + 1)).map .int := by rw [List.map_map]; rfl
  rw [em] at lc3
  have eL : biD (.isI .list) [.lst (((List.range n).map fun r : Nat => stepM tf n ((1 : Int) + r) ((n : Int) + 1)).map .int)] = some (.bl true) := rfl
  have eqs := c_eq_self (d := .lst (((List.range n).map fun r : Nat => stepM tf n ((1 : Int) + r) ((n : Int) + 1)).map .int)) (eqOk_le (pl_lst (plains_map D.int 0 (fun i => pl_int i) _)) (by omega))
  show endC [] (evSs C (.asg 2 .A (.bi .len [(.var 0)]) :: .asg 3 .F (.lc [8] .F (.bi (.list1 .F) [(.var 8)]) (.nm 8) .e [(.var 0)] []) :: .for_ [.F, .F, .A, .F, .X, .X, .X, .X, .X, .X, .X, .X] (.nm 4) .rng2 [(.int 1), (.bin .addA (.var 2) (.int 1))] rhb :: .asg 5 .F (.call 12 [] [(.var 3)]) :: .ite (.or [(.not (.bi (.isI .list) [(.var 5)])), (.not (.bi .all1 [(.lc [10] .A (.call 14 [] [(.var 10)]) (.nm 10) .e [(.var 5)] [])])), (.cmp .ne (.var 3) (.var 0))]) [.ret (.bl false)] [] :: [.ret (.cmp .eq (.var 5) (.lc [4] .F (.dget2 .F (.var 1) (.tup [(.var 4), (.bin .addA (.var 2) (.int 1))]) (.int 0)) (.nm 4) .rng2 [(.int 1), (.bin .addA (.var 2) (.int 1))] []))]) [some (eT tf n), some (.dT ks vs), none, none, none, none, none, none, none, none, none, none]) = _
  have s1 : ∀ ss, evSs C (.asg 2 .A (.bi .len [(.var 0)]) :: ss) [some (eT tf n), some (.dT ks vs), none, none, none, none, none, none, none, none, none, none] = evSs C ss [some (eT tf n), some (.dT ks vs), some (.int n), none, none, none, none, none, none, none, none, none] := fun ss => by
    simp -implicitDefEqProofs only [y_asg, kAsg_ok, y_ex, kEx_ok, y_ret, y_retMv, kRet_ok, y_mv, y_ite, kSi1_ok, kSi2_ok, x_frz, x_pas, x_nil, x_ret0, x_brk, x_cnt, F_bin, kBin1_ok, kBin2_ok, F_cmp, kCmp1_ok, kCmp2_ok, F_idx, kIdx1_ok, kIdx2_ok, Fs_cons, kCons1_ok, kCons2_ok, F_tup, kTup_ok, F_lst, kLst_ok, F_bi, kBi_ok, F_call, kCall_ok, rcE_ok, F_not, kNot1_ok, kNot2_ok, F_neg, kNeg_ok, F_ite, kIte1_ok, kIte2_ok, F_or, kOr1_ok, kOr2_ok, E_or0, F_and, kAnd1_ok, kAnd2_ok, E_and0, F_chn, kChn1_ok, kChn2_ok, chnO_ok, kChn3_ok, F_app, kApp_ok, appH_ok, appG_ok, E_var, E_int, E_str, E_bl, E_non, Es_nil, R.bind_ok, ofO_some, Option.map_some, t_bl, o_addI, o_sub, o_mod, c_lt, c_le, c_gt, c_ge, c_eqI, c_neI, List.cons_append, List.nil_append, getV, List.getElem?_cons_zero, List.getElem?_cons_succ, List.set_cons_zero, List.set_cons_succ, decide_eq_true_eq, Bool.not_true, Bool.not_false, hl]
  rw [s1, y_asg, copyT C tf n _ 8 0 rfl (by simp), R.bind_ok, kAsg_ok]
  rw [y_for (ds := [.int 1, .int ((n : Int) + 1)]) (items := (List.range n).map fun r : Nat => .int ((1 : Int) + r)) (env1 := mk (none, none, none)) (by simp -implicitDefEqProofs only [mk, y_asg, kAsg_ok, y_ex, kEx_ok, y_ret, y_retMv, kRet_ok, y_mv, y_ite, kSi1_ok, kSi2_ok, x_frz, x_pas, x_nil, x_ret0, x_brk, x_cnt, F_bin, kBin1_ok, kBin2_ok, F_cmp, kCmp1_ok, kCmp2_ok, F_idx, kIdx1_ok, kIdx2_ok, Fs_cons, kCons1_ok, kCons2_ok, F_tup, kTup_ok, F_lst, kLst_ok, F_bi, kBi_ok, F_call, kCall_ok, rcE_ok, F_not, kNot1_ok, kNot2_ok, F_neg, kNeg_ok, F_ite, kIte1_ok, kIte2_ok, F_or, kOr1_ok, kOr2_ok, E_or0, F_and, kAnd1_ok, kAnd2_ok, E_and0, F_chn, kChn1_ok, kChn2_ok, chnO_ok, kChn3_ok, F_app, kApp_ok, appH_ok, appG_ok, E_var, E_int, E_str, E_bl, E_non, Es_nil, R.bind_ok, ofO_some, Option.map_some, t_bl, o_addI, o_sub, o_mod, c_lt, c_le, c_gt, c_ge, c_eqI, c_neI, List.cons_append, List.nil_append, getV, List.getElem?_cons_zero, List.getElem?_cons_succ, List.set_cons_zero, List.set_cons_succ, decide_eq_true_eq, Bool.not_true, Bool.not_false]) (by rw [it_rng2 _ _ (by omega) (by omega), show ((n : Int) + 1 - 1).toNat = n by omega]), e, R.bind_ok, kFor_nx]
  have s2 : ∀ ss, evSs C (.asg 5 .F (.call 12 [] [(.var 3)]) :: ss) (mk j') = evSs C ss en5 := fun ss => by
    simp -implicitDefEqProofs only [y_asg, kAsg_ok, y_ex, kEx_ok, y_ret, y_retMv, kRet_ok, y_mv, y_ite, kSi1_ok, kSi2_ok, x_frz, x_pas, x_nil, x_ret0, x_brk, x_cnt, F_bin, kBin1_ok, kBin2_ok, F_cmp, kCmp1_ok, kCmp2_ok, F_idx, kIdx1_ok, kIdx2_ok, Fs_cons, kCons1_ok, kCons2_ok, F_tup, kTup_ok, F_lst, kLst_ok, F_bi, kBi_ok, F_call, kCall_ok, rcE_ok, F_not, kNot1_ok, kNot2_ok, F_neg, kNeg_ok, F_ite, kIte1_ok, kIte2_ok, F_or, kOr1_ok, kOr2_ok, E_or0, F_and, kAnd1_ok, kAnd2_ok, E_and0, F_chn, kChn1_ok, kChn2_ok, chnO_ok, kChn3_ok, F_app, kApp_ok, appH_ok, appG_ok, E_var, E_int, E_str, E_bl, E_non, Es_nil, R.bind_ok, ofO_some, Option.map_some, t_bl, o_addI, o_sub, o_mod, c_lt, c_le, c_gt, c_ge, c_eqI, c_neI, List.cons_append, List.nil_append, getV, List.getElem?_cons_zero, List.getElem?_cons_succ, List.set_cons_zero, List.set_cons_succ, decide_eq_true_eq, Bool.not_true, Bool.not_false, mk, h12, en5]
  rw [s2, y_ite]
  have c1 : evE C (.or [(.not (.bi (.isI .list) [(.var 5)])), (.not (.bi .all1 [(.lc [10] .A (.call 14 [] [(.var 10)]) (.nm 10) .e [(.var 5)] [])])), (.cmp .ne (.var 3) (.var 0))]) en5 = .ok (.bl false, en5) := by
    simp only [en5] at ea
    simp -implicitDefEqProofs only [y_asg, kAsg_ok, y_ex, kEx_ok, y_ret, y_retMv, kRet_ok, y_mv, y_ite, kSi1_ok, kSi2_ok, x_frz, x_pas, x_nil, x_ret0, x_brk, x_cnt, F_bin, kBin1_ok, kBin2_ok, F_cmp, kCmp1_ok, kCmp2_ok, F_idx, kIdx1_ok, kIdx2_ok, Fs_cons, kCons1_ok, kCons2_ok, F_tup, kTup_ok, F_lst, kLst_ok, F_bi, kBi_ok, F_call, kCall_ok, rcE_ok, F_not, kNot1_ok, kNot2_ok, F_neg, kNeg_ok, F_ite, kIte1_ok, kIte2_ok, F_or, kOr1_ok, kOr2_ok, E_or0, F_and, kAnd1_ok, kAnd2_ok, E_and0, F_chn, kChn1_ok, kChn2_ok, chnO_ok, kChn3_ok, F_app, kApp_ok, appH_ok, appG_ok, E_var, E_int, E_str, E_bl, E_non, Es_nil, R.bind_ok, ofO_some, Option.map_some, t_bl, o_addI, o_sub, o_mod, c_lt, c_le, c_gt, c_ge, c_eqI, c_neI, List.cons_append, List.nil_append, getV, List.getElem?_cons_zero, List.getElem?_cons_succ, List.set_cons_zero, List.set_cons_succ, decide_eq_true_eq, Bool.not_true, Bool.not_false, en5, eL, ea, neT, if_false, Bool.false_eq_true]
  rw [c1, R.bind_ok, kSi1_ok, t_bl, R.bind_ok, kSi2_ok, if_neg (by decide), List.nil_append, y_ret, F_cmp]
  have v5 : evE C (.var 5) en5 = .ok (.lst (((List.range n).map fun r : Nat => stepM tf n ((1 : Int) + r) ((n : Int) + 1)).map .int), en5) := by rw [E_var]; rfl
  rw [v5, R.bind_ok, kCmp1_ok, lc3, R.bind_ok, kCmp2_ok, eqs]
  rfl
end Lk63
end

section
set_option Elab.async false
set_option linter.all false
set_option maxRecDepth 100000
set_option maxHeartbeats 400000
namespace Lk63
open PySem VC
def HasIn (is : List Int) (i j : Int) : Prop := ∃ t ∈ is, i ≤ t ∧ t ≤ j
open Classical in
theorem tf1_eq (d : List Int × Int) (i j : Int) : tf1 d i j = if HasIn d.1 i j then d.2 else 0 := by
  unfold tf1 HasIn
  congr 1
  rw [← any_filter, List.any_eq_true]
  simp only [Bool.and_eq_true, decide_eq_true_eq]
theorem HasIn.wide {is : List Int} {i j i' j' : Int} (h : HasIn is i j) (h1 : i' ≤ i) (h2 : j ≤ j') : HasIn is i' j' := by
  obtain ⟨t, ht, a, b⟩ := h
  exact ⟨t, ht, by omega, by omega⟩
theorem tf1_nn (d : List Int × Int) (h : 0 ≤ d.2) (i j : Int) : 0 ≤ tf1 d i j := by
  rw [tf1_eq]; split <;> omega
theorem tf1_wide (d : List Int × Int) (h : 0 ≤ d.2) {i j i' j' : Int} (h1 : i' ≤ i) (h2 : j ≤ j') : tf1 d i j ≤ tf1 d i' j' := by
  rw [tf1_eq, tf1_eq]
  by_cases q : HasIn d.1 i j
  · rw [if_pos q, if_pos (q.wide h1 h2)]; exact Int.le_refl _
  · rw [if_neg q]; split <;> omega
theorem tf1_cross (d : List Int × Int) (h : 0 ≤ d.2) (a b c e : Int) (h1 : a ≤ b) (h2 : b ≤ c) (h3 : c ≤ e) : tf1 d a e + tf1 d b c ≤ tf1 d a c + tf1 d b e := by
  by_cases q : HasIn d.1 b c
  · rw [tf1_eq d a e, tf1_eq d b c, tf1_eq d a c, tf1_eq d b e, if_pos q, if_pos (q.wide (i' := a) (j' := e) h1 h3), if_pos (q.wide (i' := a) (j' := c) h1 (Int.le_refl _)), if_pos (q.wide (i' := b) (j' := e) (Int.le_refl _) h3)]
    exact Int.le_refl _
  · have z : tf1 d b c = 0 := by rw [tf1_eq, if_neg q]
    have n1 := tf1_nn d h a c
    have n2 := tf1_nn d h b e
    by_cases q2 : HasIn d.1 a e
    · obtain ⟨t, ht, x, y⟩ := q2
      have w : tf1 d a e = d.2 := by rw [tf1_eq, if_pos ⟨t, ht, x, y⟩]
      by_cases tb : t < b
      · have : tf1 d a c = d.2 := by rw [tf1_eq, if_pos ⟨t, ht, x, by omega⟩]
        omega
      · have tc : c < t := by
          by_cases w : c < t
          · exact w
          · exact absurd ⟨t, ht, by omega, by omega⟩ q
        have : tf1 d b e = d.2 := by rw [tf1_eq, if_pos ⟨t, ht, by omega, y⟩]
        omega
    · have : tf1 d a e = 0 := by rw [tf1_eq, if_neg q2]
      omega
theorem tfD_nil (i j : Int) : tfD [] i j = 0 := rfl
theorem tfD_nn : ∀ (ds : List (List Int × Int)), (∀ d ∈ ds, 0 ≤ d.2) → ∀ i j, 0 ≤ tfD ds i j
  | [], _, i, j => Int.le_refl _
  | d :: ds, h, i, j => by
    rw [tfD_cons]
    have := tfD_nn ds (fun x hx => h x (List.mem_cons_of_mem _ hx)) i j
    have := tf1_nn d (h d List.mem_cons_self) i j
    omega
theorem tfD_wide : ∀ (ds : List (List Int × Int)), (∀ d ∈ ds, 0 ≤ d.2) → ∀ {i j i' j' : Int}, i' ≤ i → j ≤ j' → tfD ds i j ≤ tfD ds i' j'
  | [], _, i, j, i', j', _, _ => Int.le_refl _
  | d :: ds, h, i, j, i', j', h1, h2 => by
    rw [tfD_cons, tfD_cons]
    have := tfD_wide ds (fun x hx => h x (List.mem_cons_of_mem _ hx)) h1 h2
    have := tf1_wide d (h d List.mem_cons_self) h1 h2
    omega
theorem tfD_cross : ∀ (ds : List (List Int × Int)), (∀ d ∈ ds, 0 ≤ d.2) → ∀ (a b c e : Int), a ≤ b → b ≤ c → c ≤ e → tfD ds a e + tfD ds b c ≤ tfD ds a c + tfD ds b e
  | [], _, a, b, c, e, _, _, _ => Int.le_refl _
  | d :: ds, h, a, b, c, e, h1, h2, h3 => by
    rw [tfD_cons, tfD_cons, tfD_cons, tfD_cons]
    have := tfD_cross ds (fun x hx => h x (List.mem_cons_of_mem _ hx)) a b c e h1 h2 h3
    have := tf1_cross d (h d List.mem_cons_self) a b c e h1 h2 h3
    omega
theorem law2 (ds : List (List Int × Int)) (n : Nat) (h : ∀ d ∈ ds, 0 ≤ d.2) : Law2 (tfD ds) n where
  cross := fun a b c d _ h1 h2 h3 _ => tfD_cross ds h a b c d h1 h2 h3
  left := fun a b c _ h1 _ _ => tfD_wide ds h h1 (Int.le_refl _)
  right := fun a c d _ _ h2 _ => tfD_wide ds h (Int.le_refl _) h2
theorem tfD_app (xs ys : List (List Int × Int)) (i j : Int) : tfD (xs ++ ys) i j = tfD xs i j + tfD ys i j := by
  induction xs with
  | nil => rw [List.nil_append, tfD_nil, Int.zero_add]
  | cons d xs ih => rw [List.cons_append, tfD_cons, tfD_cons, ih, Int.add_assoc]
theorem tfD_rev (ds : List (List Int × Int)) : tfD ds.reverse = tfD ds := by
  funext i j
  induction ds with
  | nil => rfl
  | cons d ds ih => rw [List.reverse_cons, tfD_app, ih, tfD_cons, tfD_cons, tfD_nil]; omega
theorem tfD_all (n : Nat) : ∀ (ds : List (List Int × Int)), (∀ d ∈ ds, Good n d.1) → tfD ds 1 n = (ds.map (·.2)).sum
  | [], _ => rfl
  | d :: ds, h => by
    rw [tfD_cons, tfD_all n ds (fun x hx => h x (List.mem_cons_of_mem _ hx)), List.map_cons, List.sum_cons]
    congr 1
    have g := h d List.mem_cons_self
    rw [tf1_eq, if_pos]
    obtain ⟨t, r, e⟩ := List.exists_cons_of_ne_nil g.ne
    exact ⟨t, by rw [e]; simp, g.rng t (by rw [e]; simp)⟩
theorem sum_last (tf : Int → Int → Int) (n : Nat) (h1 : 1 ≤ n) : ((List.range n).map fun r : Nat => stepM tf n ((1 : Int) + r) ((n : Int) + 1)).sum = tf 1 n := by
  have e : ((List.range n).map fun r : Nat => stepM tf n ((1 : Int) + r) ((n : Int) + 1)) = (List.range n).map fun r : Nat => (fun k : Nat => Mi tf n ((1 : Int) + k) n) (r + 1) - (fun k : Nat => Mi tf n ((1 : Int) + k) n) r := by
    apply List.map_congr_left
    intro r hr
    show stepM tf n ((1 : Int) + r) ((n : Int) + 1) = Mi tf n ((1 : Int) + ((r + 1 : Nat) : Int)) n - Mi tf n ((1 : Int) + r) n
    unfold stepM
    rw [Mi_hi tf n ((1 : Int) + r + 1) ((n : Int) + 1) (by omega), Mi_hi tf n ((1 : Int) + r) ((n : Int) + 1) (by omega), show (n : Int) + 1 - 1 = n by omega, show (1 : Int) + ((r + 1 : Nat) : Int) = (1 : Int) + r + 1 by omega]
    omega
  rw [e, sum_tel (fun k : Nat => Mi tf n ((1 : Int) + k) n) n]
  show Mi tf n ((1 : Int) + n) n - Mi tf n ((1 : Int) + (0 : Nat)) n = tf 1 n
  rw [Mi_no tf n _ _ (by omega) (by omega) (by omega), show (1 : Int) + ((0 : Nat) : Int) = 1 by rfl, Mi_in tf n 1 n (by omega) (by omega) (by omega)]
  omega
end Lk63
end

section
set_option Elab.async false
set_option linter.all false
set_option maxRecDepth 100000
set_option maxHeartbeats 400000
namespace Lk63
open PySem VC
def en (S : D) (a1 a2 a3 a4 a5 a6 a7 a8 a9 a10 a11 a12 a13 : Option D) : VC.Env := [some S, a1, a2, a3, a4, a5, a6, a7, a8, a9, a10, a11, a12, a13, none, none, none, none]
/-! ### the strange table -/
def tgM (ns : List Int) (w : Nat) (i j : Int) : Int := ((numM ns (10 + (i - 1).toNat) (w - (i - 1).toNat)).getD (j - i).toNat 0).fmod 7
def sb : List VC.S := [.ex (.app 8 (.lc [14] .A (.bin .mod (.var 14) (.int 7)) (.nm 14) .e [(.call 13 [] [(.var 0), (.bin .addA (.int 10) (.var 10)), (.bin .sub (.var 7) (.var 10))])] []))]
theorem t_strange (C : Calls) (ns : List Int) (w : Nat) (hw : w ≤ 1000) (h13 : ∀ a c : Nat, c ≤ 1000 → C 13 [.lst (ns.map .int), .int a, .int c] = .ok (.lst ((numM ns a c).map .int)) []) (a1 a2 a3 a4 a5 a6 a9 a11 a12 a13 : Option D) :
    ∃ j, forD (fun d e => (bindTg (.nm 10) d e).bind fun e1 => evSs C sb e1) ((List.range w).map fun k : Nat => .int k) (en (.lst (ns.map .int)) a1 a2 a3 a4 a5 a6 (some (.int w)) (some (.lst [])) a9 none a11 a12 a13) = .ok (.nx, en (.lst (ns.map .int)) a1 a2 a3 a4 a5 a6 (some (.int w)) (some (eT (tgM ns w) w)) a9 j a11 a12 a13) := by
  let mk : List D → Option D → VC.Env := fun acc j => en (.lst (ns.map .int)) a1 a2 a3 a4 a5 a6 (some (.int w)) (some (.lst acc)) a9 j a11 a12 a13
  obtain ⟨j', e⟩ := forD_acc (τ := Option D) mk (fun k : Nat => [eR (tgM ns w) w ((k : Int) + 1)]) (fun k : Nat => .int k) (fun d e => (bindTg (.nm 10) d e).bind fun e1 => evSs C sb e1) 1 2000 (List.range w) [] none (fun _ _ => by simp) (by simp; omega) (fun k hk acc j hl => by
    have hk' := List.mem_range.mp hk
    have hl' : acc.length < lim := by unfold lim; omega
    have h := h13 (10 + k) (w - k) (by omega)
    have c : ((10 + k : Nat) : Int) = (10 : Int) + (k : Int) := by omega
    have c2 : ((w - k : Nat) : Int) = (w : Int) - (k : Int) := by omega
    rw [c, c2] at h
    have hlen := numM_len ns (10 + k) (w - k)
    have htf : eR (tgM ns w) w ((k : Int) + 1) = .lst ((numM ns (10 + k) (w - k)).map fun x => D.int (x.fmod 7)) := by
      unfold eR
      congr 1
      have e1 : ((w : Int) + 1 - ((k : Int) + 1)).toNat = w - k := by omega
      rw [e1]
      apply List.ext_getElem
      · simp [hlen]
      · intro c h1 h2
        have hc : c < w - k := by simpa using h1
        rw [List.getElem_map, List.getElem_map, List.getElem_range]
        show D.int (((numM ns (10 + ((k : Int) + 1 - 1).toNat) (w - ((k : Int) + 1 - 1).toNat)).getD (((k : Int) + 1 + c) - ((k : Int) + 1)).toNat 0).fmod 7) = _
        rw [show ((k : Int) + 1 - 1).toNat = k by omega, show (((k : Int) + 1 + c) - ((k : Int) + 1)).toNat = c by omega, List.getD_eq_getElem?_getD, List.getElem?_eq_getElem (by omega), Option.getD_some]
    generalize numM ns (10 + k) (w - k) = L at h htf
    refine ⟨some (.int k), ?_⟩
    rw [t_nm]
    have el := e_lc (C := C) (env := mk acc (some (.int k))) (own := [14]) (s := .A) (elt := .bin .mod (.var 14) (.int 7)) (i := 14) (k := .e) (ies := [(.call 13 [] [(.var 0), (.bin .addA (.int 10) (.var 10)), (.bin .sub (.var 7) (.var 10))])]) (ifs := []) (ds := [.lst (L.map .int)]) D.int (fun _ => true) (fun x => .int (x.fmod 7)) L
      (by simp -implicitDefEqProofs only [mk, en, y_asg, kAsg_ok, y_ex, kEx_ok, y_ret, y_retMv, kRet_ok, y_mv, y_ite, kSi1_ok, kSi2_ok, x_frz, x_pas, x_nil, x_ret0, x_brk, x_cnt, F_bin, kBin1_ok, kBin2_ok, F_cmp, kCmp1_ok, kCmp2_ok, F_idx, kIdx1_ok, kIdx2_ok, Fs_cons, kCons1_ok, kCons2_ok, F_tup, kTup_ok, F_lst, kLst_ok, F_bi, kBi_ok, F_call, kCall_ok, rcE_ok, F_not, kNot1_ok, kNot2_ok, F_neg, kNeg_ok, F_ite, kIte1_ok, kIte2_ok, F_or, kOr1_ok, kOr2_ok, E_or0, F_and, kAnd1_ok, kAnd2_ok, E_and0, F_chn, kChn1_ok, kChn2_ok, chnO_ok, kChn3_ok, F_app, kApp_ok, appH_ok, appG_ok, E_var, E_int, E_str, E_bl, E_non, Es_nil, R.bind_ok, ofO_some, Option.map_some, t_bl, o_addI, o_sub, o_mod, c_lt, c_le, c_gt, c_ge, c_eqI, c_neI, List.cons_append, List.nil_append, getV, List.getElem?_cons_zero, List.getElem?_cons_succ, List.set_cons_zero, List.set_cons_succ, decide_eq_true_eq, Bool.not_true, Bool.not_false, h]) rfl rfl (by decide) (by simp [mk, en]) (fun x hx e he hi => ⟨ts_nil, fun _ => by
        simp -implicitDefEqProofs (disch := decide) only [y_asg, kAsg_ok, y_ex, kEx_ok, y_ret, y_retMv, kRet_ok, y_mv, y_ite, kSi1_ok, kSi2_ok, x_frz, x_pas, x_nil, x_ret0, x_brk, x_cnt, F_bin, kBin1_ok, kBin2_ok, F_cmp, kCmp1_ok, kCmp2_ok, F_idx, kIdx1_ok, kIdx2_ok, Fs_cons, kCons1_ok, kCons2_ok, F_tup, kTup_ok, F_lst, kLst_ok, F_bi, kBi_ok, F_call, kCall_ok, rcE_ok, F_not, kNot1_ok, kNot2_ok, F_neg, kNeg_ok, F_ite, kIte1_ok, kIte2_ok, F_or, kOr1_ok, kOr2_ok, E_or0, F_and, kAnd1_ok, kAnd2_ok, E_and0, F_chn, kChn1_ok, kChn2_ok, chnO_ok, kChn3_ok, F_app, kApp_ok, appH_ok, appG_ok, E_var, E_int, E_str, E_bl, E_non, Es_nil, R.bind_ok, ofO_some, Option.map_some, t_bl, o_addI, o_sub, o_mod, c_lt, c_le, c_gt, c_ge, c_eqI, c_neI, List.cons_append, List.nil_append, getV, List.getElem?_cons_zero, List.getElem?_cons_succ, List.set_cons_zero, List.set_cons_succ, decide_eq_true_eq, Bool.not_true, Bool.not_false, hi]⟩)
    rw [filt_true] at el
    show evSs C [.ex (.app 8 _)] (mk acc (some (.int k))) = _
    rw [y_ex, F_app]
    simp only [mk, en] at el
    simp -implicitDefEqProofs only [mk, en, List.getElem?_cons_zero, List.getElem?_cons_succ, appG_ok]
    rw [el]
    simp -implicitDefEqProofs only [y_asg, kAsg_ok, y_ex, kEx_ok, y_ret, y_retMv, kRet_ok, y_mv, y_ite, kSi1_ok, kSi2_ok, x_frz, x_pas, x_nil, x_ret0, x_brk, x_cnt, F_bin, kBin1_ok, kBin2_ok, F_cmp, kCmp1_ok, kCmp2_ok, F_idx, kIdx1_ok, kIdx2_ok, Fs_cons, kCons1_ok, kCons2_ok, F_tup, kTup_ok, F_lst, kLst_ok, F_bi, kBi_ok, F_call, kCall_ok, rcE_ok, F_not, kNot1_ok, kNot2_ok, F_neg, kNeg_ok, F_ite, kIte1_ok, kIte2_ok, F_or, kOr1_ok, kOr2_ok, E_or0, F_and, kAnd1_ok, kAnd2_ok, E_and0, F_chn, kChn1_ok, kChn2_ok, chnO_ok, kChn3_ok, F_app, kApp_ok, appH_ok, appG_ok, E_var, E_int, E_str, E_bl, E_non, Es_nil, R.bind_ok, ofO_some, Option.map_some, t_bl, o_addI, o_sub, o_mod, c_lt, c_le, c_gt, c_ge, c_eqI, c_neI, List.cons_append, List.nil_append, getV, List.getElem?_cons_zero, List.getElem?_cons_succ, List.set_cons_zero, List.set_cons_succ, decide_eq_true_eq, Bool.not_true, Bool.not_false, hl', if_true, htf])
  refine ⟨j', e.trans ?_⟩
  rw [flat_one, List.nil_append]
  rfl
/-! ### its steps, written down -/
structure Dc (ks : List (List Key)) (vs : List D) (f : Int → Int → Int) (P : Int → Int → Prop) (N : Nat) : Prop where
  len : ks.length = vs.length
  le : ks.length ≤ N
  say : ∀ a b : Int, P a b → lookD ks vs [.inl a, .inl b] = some (.int (f a b))
theorem Dc.put {ks : List (List Key)} {vs : List D} {f : Int → Int → Int} {P P' : Int → Int → Prop} {N N' : Nat} (h : Dc ks vs f P N) (x y : Int) (hN : N + 1 ≤ N') (hP : ∀ a b, P' a b → P a b ∨ (a = x ∧ b = y)) : Dc (putKs ks [.inl x, .inl y]) (putDs ks vs [.inl x, .inl y] (.int (f x y))) f P' N' where
  len := put_len _ _ h.len
  le := Nat.le_trans putKs_le (by have := h.le; omega)
  say := fun a b p => by
    rw [look_put _ _ _ h.len]
    by_cases e : x = a ∧ y = b
    · obtain ⟨rfl, rfl⟩ := e
      rw [if_pos rfl]
    · have : ¬ ([Sum.inl x, Sum.inl y] : List Key) = [Sum.inl a, Sum.inl b] := fun z => e (by
        injection z with z1 z2
        injection z2 with z2 _
        injection z1 with z1
        injection z2 with z2
        exact ⟨z1, z2⟩)
      rw [if_neg this]
      rcases hP a b p with q | q
      · exact h.say a b q
      · exact absurd ⟨q.1.symm, q.2.symm⟩ e
def ab : List VC.S := [.set 9 (.tup [(.var 11), (.var 13)]) (.call 20 [] [(.var 8), (.var 11), (.var 13)])]
def db : List VC.S := [.for_ [.Q, .F, .A, .F, .F, .F, .X, .A, .F, (.T .A), .X, .A, .X, .X, .X, .X, .X, .X] (.nm 13) .rng2 [(.bin .addA (.var 11) (.int 1)), (.bin .addA (.var 7) (.int 2))] ab]
theorem t_after (C : Calls) (S : D) (tg : Int → Int → Int) (w : Nat) (hw : w ≤ 1000) (h20 : ∀ a b : Int, 0 ≤ a → C 20 [eT tg w, .int a, .int b] = .ok (.int (stepM tg w a b)) []) (a1 a2 a3 a4 a5 a6 a10 a12 j13 : Option D) (ks : List (List Key)) (vs : List D) (P : Int → Int → Prop) (N : Nat) (hN : N + 1000 < 1000000) (hd : Dc ks vs (stepM tg w) P N) (r : Nat) (hr : r < w) :
    ∃ ks' vs' j13', forD (fun d e => (bindTg (.nm 13) d e).bind fun e1 => evSs C ab e1) ((List.range (w - r)).map fun c : Nat => .int ((1 : Int) + r + 1 + c)) (en S a1 a2 a3 a4 a5 a6 (some (.int w)) (some (eT tg w)) (some (.dT ks vs)) a10 (some (.int ((1 : Int) + r))) a12 j13) = .ok (.nx, en S a1 a2 a3 a4 a5 a6 (some (.int w)) (some (eT tg w)) (some (.dT ks' vs')) a10 (some (.int ((1 : Int) + r))) a12 j13') ∧
      Dc ks' vs' (stepM tg w) (fun a b => P a b ∨ (a = (1 : Int) + r ∧ a < b ∧ b ≤ (w : Int) + 1)) (N + (w - r)) := by
  obtain ⟨e2, h1, ks', vs', j', rfl, hd'⟩ := forD_pre (fun c : Nat => D.int ((1 : Int) + r + 1 + c)) (fun d e => (bindTg (.nm 13) d e).bind fun e1 => evSs C ab e1)
    (fun pre e => ∃ ks vs j, e = en S a1 a2 a3 a4 a5 a6 (some (.int w)) (some (eT tg w)) (some (.dT ks vs)) a10 (some (.int ((1 : Int) + r))) a12 j ∧ Dc ks vs (stepM tg w) (fun a b => P a b ∨ (a = (1 : Int) + r ∧ ∃ c ∈ pre, b = (1 : Int) + r + 1 + ((c : Nat) : Int))) (N + pre.length)) (List.range (w - r))
    (fun pre c rest e hpre ⟨ks, vs, j, he, hd⟩ => by
      subst he
      obtain ⟨hc, hpl⟩ := range_pre hpre
      refine ⟨_, ?_, _, _, some (.int ((1 : Int) + r + 1 + c)), rfl, hd.put ((1 : Int) + r) ((1 : Int) + r + 1 + c) (N' := N + (pre ++ [c]).length) (by rw [List.length_append, List.length_singleton]; omega) (fun a b p => ?_)⟩
      · rw [t_nm]
        let e1 := en S a1 a2 a3 a4 a5 a6 (some (.int w)) (some (eT tg w)) (some (.dT ks vs)) a10 (some (.int ((1 : Int) + r))) a12 (some (.int ((1 : Int) + r + 1 + c)))
        have hl : ks.length < lim := by have := hd.le; unfold lim; omega
        have h := h20 ((1 : Int) + r) ((1 : Int) + r + 1 + c) (by omega)
        have ev : evE C (.call 20 [] [(.var 8), (.var 11), (.var 13)]) e1 = .ok (.int (stepM tg w ((1 : Int) + r) ((1 : Int) + r + 1 + c)), e1) := by
          simp -implicitDefEqProofs only [y_asg, kAsg_ok, y_ex, kEx_ok, y_ret, y_retMv, kRet_ok, y_mv, y_ite, kSi1_ok, kSi2_ok, x_frz, x_pas, x_nil, x_ret0, x_brk, x_cnt, F_bin, kBin1_ok, kBin2_ok, F_cmp, kCmp1_ok, kCmp2_ok, F_idx, kIdx1_ok, kIdx2_ok, Fs_cons, kCons1_ok, kCons2_ok, F_tup, kTup_ok, F_lst, kLst_ok, F_bi, kBi_ok, F_call, kCall_ok, rcE_ok, F_not, kNot1_ok, kNot2_ok, F_neg, kNeg_ok, F_ite, kIte1_ok, kIte2_ok, F_or, kOr1_ok, kOr2_ok, E_or0, F_and, kAnd1_ok, kAnd2_ok, E_and0, F_chn, kChn1_ok, kChn2_ok, chnO_ok, kChn3_ok, F_app, kApp_ok, appH_ok, appG_ok, E_var, E_int, E_str, E_bl, E_non, Es_nil, R.bind_ok, ofO_some, Option.map_some, t_bl, o_addI, o_sub, o_mod, c_lt, c_le, c_gt, c_ge, c_eqI, c_neI, List.cons_append, List.nil_append, getV, List.getElem?_cons_zero, List.getElem?_cons_succ, List.set_cons_zero, List.set_cons_succ, decide_eq_true_eq, Bool.not_true, Bool.not_false, e1, en, h]
        have et : evE C (.tup [(.var 11), (.var 13)]) e1 = .ok (.tup [.int ((1 : Int) + r), .int ((1 : Int) + r + 1 + c)], e1) := by
          simp -implicitDefEqProofs only [y_asg, kAsg_ok, y_ex, kEx_ok, y_ret, y_retMv, kRet_ok, y_mv, y_ite, kSi1_ok, kSi2_ok, x_frz, x_pas, x_nil, x_ret0, x_brk, x_cnt, F_bin, kBin1_ok, kBin2_ok, F_cmp, kCmp1_ok, kCmp2_ok, F_idx, kIdx1_ok, kIdx2_ok, Fs_cons, kCons1_ok, kCons2_ok, F_tup, kTup_ok, F_lst, kLst_ok, F_bi, kBi_ok, F_call, kCall_ok, rcE_ok, F_not, kNot1_ok, kNot2_ok, F_neg, kNeg_ok, F_ite, kIte1_ok, kIte2_ok, F_or, kOr1_ok, kOr2_ok, E_or0, F_and, kAnd1_ok, kAnd2_ok, E_and0, F_chn, kChn1_ok, kChn2_ok, chnO_ok, kChn3_ok, F_app, kApp_ok, appH_ok, appG_ok, E_var, E_int, E_str, E_bl, E_non, Es_nil, R.bind_ok, ofO_some, Option.map_some, t_bl, o_addI, o_sub, o_mod, c_lt, c_le, c_gt, c_ge, c_eqI, c_neI, List.cons_append, List.nil_append, getV, List.getElem?_cons_zero, List.getElem?_cons_succ, List.set_cons_zero, List.set_cons_succ, decide_eq_true_eq, Bool.not_true, Bool.not_false, e1, en]
        show evSs C ab e1 = _
        unfold ab
        rw [y_set (ks := ks) (ds := vs) (kk := [.inl ((1 : Int) + r), .inl ((1 : Int) + r + 1 + c)]) ev rfl et rfl hl, x_nil]
        rfl
      · rcases p with p | ⟨p1, c', hc', p2⟩
        · exact .inl (.inl p)
        · rcases List.mem_append.mp hc' with z | z
          · exact .inl (.inr ⟨p1, c', z, p2⟩)
          · have : c' = c := by simpa using z
            subst this
            exact .inr ⟨p1, p2⟩) (List.range (w - r)) [] (en S a1 a2 a3 a4 a5 a6 (some (.int w)) (some (eT tg w)) (some (.dT ks vs)) a10 (some (.int ((1 : Int) + r))) a12 j13) rfl ⟨ks, vs, j13, rfl, hd.len, by simpa using hd.le, fun a b p => by
      rcases p with p | ⟨_, c, hc, _⟩
      · exact hd.say a b p
      · simp at hc⟩
  refine ⟨ks', vs', j', h1, hd'.len, by simpa using hd'.le, fun a b p => hd'.say a b ?_⟩
  rcases p with p | ⟨p1, p2, p3⟩
  · exact .inl p
  · exact .inr ⟨p1, (b - ((1 : Int) + r + 1)).toNat, List.mem_range.mpr (by omega), by omega⟩
theorem t_steps (C : Calls) (S : D) (tg : Int → Int → Int) (w : Nat) (hw : w ≤ 100) (h20 : ∀ a b : Int, 0 ≤ a → C 20 [eT tg w, .int a, .int b] = .ok (.int (stepM tg w a b)) []) (a1 a2 a3 a4 a5 a6 a10 a12 : Option D) :
    ∃ ks' vs' j11 j13, forD (fun d e => (bindTg (.nm 11) d e).bind fun e1 => evSs C db e1) ((List.range w).map fun r : Nat => .int ((1 : Int) + r)) (en S a1 a2 a3 a4 a5 a6 (some (.int w)) (some (eT tg w)) (some (.dT [] [])) a10 none a12 none) = .ok (.nx, en S a1 a2 a3 a4 a5 a6 (some (.int w)) (some (eT tg w)) (some (.dT ks' vs')) a10 j11 a12 j13) ∧
      ∀ a b : Int, 1 ≤ a → a < b → b ≤ (w : Int) + 1 → (lookD ks' vs' [.inl a, .inl b]).getD (.int 0) = .int (stepM tg w a b) := by
  obtain ⟨e2, h1, ks', vs', j11, j13, rfl, hd⟩ := forD_pre (fun r : Nat => D.int ((1 : Int) + r)) (fun d e => (bindTg (.nm 11) d e).bind fun e1 => evSs C db e1)
    (fun pre e => ∃ ks vs j11 j13, e = en S a1 a2 a3 a4 a5 a6 (some (.int w)) (some (eT tg w)) (some (.dT ks vs)) a10 j11 a12 j13 ∧ Dc ks vs (stepM tg w) (fun a b => ∃ r ∈ pre, a = (1 : Int) + ((r : Nat) : Int) ∧ a < b ∧ b ≤ (w : Int) + 1) (pre.length * 200)) (List.range w)
    (fun pre r rest e hpre ⟨ks, vs, j11, j13, he, hd⟩ => by
      subst he
      obtain ⟨hr, hpl⟩ := range_pre hpre
      have hmul : pre.length * 200 ≤ 100 * 200 := Nat.mul_le_mul (by omega) (Nat.le_refl _)
      obtain ⟨ks', vs', j13', h1, hd'⟩ := t_after C S tg w (by omega) h20 a1 a2 a3 a4 a5 a6 a10 a12 j13 ks vs _ (pre.length * 200) (by omega) hd r hr
      refine ⟨en S a1 a2 a3 a4 a5 a6 (some (.int w)) (some (eT tg w)) (some (.dT ks' vs')) a10 (some (.int ((1 : Int) + r))) a12 j13', ?_, ks', vs', _, _, rfl, hd'.len, ?_, fun a b p => hd'.say a b ?_⟩
      · rw [t_nm]
        show evSs C db (en S a1 a2 a3 a4 a5 a6 (some (.int w)) (some (eT tg w)) (some (.dT ks vs)) a10 (some (.int ((1 : Int) + r))) a12 j13) = _
        unfold db
        rw [y_for (ds := [.int ((1 : Int) + r + 1), .int ((w : Int) + 2)]) (items := (List.range (w - r)).map fun c : Nat => .int ((1 : Int) + r + 1 + c)) (env1 := en S a1 a2 a3 a4 a5 a6 (some (.int w)) (some (eT tg w)) (some (.dT ks vs)) a10 (some (.int ((1 : Int) + r))) a12 j13) (by simp -implicitDefEqProofs only [en, y_asg, kAsg_ok, y_ex, kEx_ok, y_ret, y_retMv, kRet_ok, y_mv, y_ite, kSi1_ok, kSi2_ok, x_frz, x_pas, x_nil, x_ret0, x_brk, x_cnt, F_bin, kBin1_ok, kBin2_ok, F_cmp, kCmp1_ok, kCmp2_ok, F_idx, kIdx1_ok, kIdx2_ok, Fs_cons, kCons1_ok, kCons2_ok, F_tup, kTup_ok, F_lst, kLst_ok, F_bi, kBi_ok, F_call, kCall_ok, rcE_ok, F_not, kNot1_ok, kNot2_ok, F_neg, kNeg_ok, F_ite, kIte1_ok, kIte2_ok, F_or, kOr1_ok, kOr2_ok, E_or0, F_and, kAnd1_ok, kAnd2_ok, E_and0, F_chn, kChn1_ok, kChn2_ok, chnO_ok, kChn3_ok, F_app, kApp_ok, appH_ok, appG_ok, E_var, E_int, E_str, E_bl, E_non, Es_nil, R.bind_ok, ofO_some, Option.map_some, t_bl, o_addI, o_sub, o_mod, c_lt, c_le, c_gt, c_ge, c_eqI, c_neI, List.cons_append, List.nil_append, getV, List.getElem?_cons_zero, List.getElem?_cons_succ, List.set_cons_zero, List.set_cons_succ, decide_eq_true_eq, Bool.not_true, Bool.not_false]) (by rw [it_rng2 _ _ (by omega) (by omega), show ((w : Int) + 2 - ((1 : Int) + r + 1)).toNat = w - r by omega]), h1, R.bind_ok, kFor_nx, x_nil]
      · have := hd'.le
        rw [List.length_append, List.length_singleton, Nat.succ_mul]
        omega
      · obtain ⟨r', hr', p1, p2, p3⟩ := p
        rcases List.mem_append.mp hr' with z | z
        · exact .inl ⟨r', z, p1, p2, p3⟩
        · have : r' = r := by simpa using z
          subst this
          exact .inr ⟨p1, p2, p3⟩) (List.range w) [] (en S a1 a2 a3 a4 a5 a6 (some (.int w)) (some (eT tg w)) (some (.dT [] [])) a10 none a12 none) rfl ⟨[], [], none, none, rfl, rfl, by simp, fun a b p => by obtain ⟨r, hr, _⟩ := p; simp at hr⟩
  refine ⟨ks', vs', j11, j13, h1, fun a b h1 h2 h3 => ?_⟩
  by_cases hw : a ≤ w
  · rw [hd.say a b ⟨(a - 1).toNat, List.mem_range.mpr (by omega), by omega, h2, h3⟩]; rfl
  · omega
end Lk63
end

section
set_option Elab.async false
set_option linter.all false
set_option maxRecDepth 100000
set_option maxHeartbeats 1000000
namespace Lk63
open PySem VC
def lvl : Nat := 8
theorem size_of (C : Calls) (S : D) (L : List D) (x0 x1 : Int) (h13 : C 13 [S, .int 0, .int 12] = .ok (.lst L) []) (i0 : idxD (.lst L) (.int 0) = some (.int x0)) (i1 : idxD (.lst L) (.int 1) = some (.int x1)) :
    ∃ n : Nat, 1 ≤ n ∧ n ≤ 31 ∧ evSs C (d_law.body.take 3) (en S none none none none none none none none none none none none none) = .ok (.nx, en S (some (.lst L)) (some (.int n)) none none none none none none none none none none none) := by
  have r0 := fmod_rng x0 8 (by decide)
  have r1 := fmod_rng x0 31 (by decide)
  by_cases h : x1.fmod 16 = 0
  · refine ⟨(1 + x0.fmod 31).toNat, by omega, by omega, ?_⟩
    show evSs C [.asg 1 .F (.call 13 [] [(.var 0), (.int 0), (.int 12)]), .asg 2 .A (.bin .addA (.int 1) (.bin .mod (.idx (.var 1) (.int 0)) (.int 8))), .ite (.cmp .eq (.bin .mod (.idx (.var 1) (.int 1)) (.int 16)) (.int 0)) [.asg 2 .A (.bin .addA (.int 1) (.bin .mod (.idx (.var 1) (.int 0)) (.int 31)))] []] _ = _
    simp -implicitDefEqProofs (disch := decide) only [en, y_asg, kAsg_ok, y_ex, kEx_ok, y_ret, y_retMv, kRet_ok, y_mv, y_ite, kSi1_ok, kSi2_ok, x_frz, x_pas, x_nil, x_ret0, x_brk, x_cnt, F_bin, kBin1_ok, kBin2_ok, F_cmp, kCmp1_ok, kCmp2_ok, F_idx, kIdx1_ok, kIdx2_ok, Fs_cons, kCons1_ok, kCons2_ok, F_tup, kTup_ok, F_lst, kLst_ok, F_bi, kBi_ok, F_call, kCall_ok, rcE_ok, F_not, kNot1_ok, kNot2_ok, F_neg, kNeg_ok, F_ite, kIte1_ok, kIte2_ok, F_or, kOr1_ok, kOr2_ok, E_or0, F_and, kAnd1_ok, kAnd2_ok, E_and0, F_chn, kChn1_ok, kChn2_ok, chnO_ok, kChn3_ok, F_app, kApp_ok, appH_ok, appG_ok, E_var, E_int, E_str, E_bl, E_non, Es_nil, R.bind_ok, ofO_some, Option.map_some, t_bl, o_addI, o_sub, o_mod, c_lt, c_le, c_gt, c_ge, c_eqI, c_neI, List.cons_append, List.nil_append, getV, List.getElem?_cons_zero, List.getElem?_cons_succ, List.set_cons_zero, List.set_cons_succ, decide_eq_true_eq, Bool.not_true, Bool.not_false, h13, i0, i1, h, decide_true, if_true]
    rw [Int.toNat_of_nonneg (by omega)]
  · refine ⟨(1 + x0.fmod 8).toNat, by omega, by omega, ?_⟩
    show evSs C [.asg 1 .F (.call 13 [] [(.var 0), (.int 0), (.int 12)]), .asg 2 .A (.bin .addA (.int 1) (.bin .mod (.idx (.var 1) (.int 0)) (.int 8))), .ite (.cmp .eq (.bin .mod (.idx (.var 1) (.int 1)) (.int 16)) (.int 0)) [.asg 2 .A (.bin .addA (.int 1) (.bin .mod (.idx (.var 1) (.int 0)) (.int 31)))] []] _ = _
    simp -implicitDefEqProofs (disch := decide) only [en, y_asg, kAsg_ok, y_ex, kEx_ok, y_ret, y_retMv, kRet_ok, y_mv, y_ite, kSi1_ok, kSi2_ok, x_frz, x_pas, x_nil, x_ret0, x_brk, x_cnt, F_bin, kBin1_ok, kBin2_ok, F_cmp, kCmp1_ok, kCmp2_ok, F_idx, kIdx1_ok, kIdx2_ok, Fs_cons, kCons1_ok, kCons2_ok, F_tup, kTup_ok, F_lst, kLst_ok, F_bi, kBi_ok, F_call, kCall_ok, rcE_ok, F_not, kNot1_ok, kNot2_ok, F_neg, kNeg_ok, F_ite, kIte1_ok, kIte2_ok, F_or, kOr1_ok, kOr2_ok, E_or0, F_and, kAnd1_ok, kAnd2_ok, E_and0, F_chn, kChn1_ok, kChn2_ok, chnO_ok, kChn3_ok, F_app, kApp_ok, appH_ok, appG_ok, E_var, E_int, E_str, E_bl, E_non, Es_nil, R.bind_ok, ofO_some, Option.map_some, t_bl, o_addI, o_sub, o_mod, c_lt, c_le, c_gt, c_ge, c_eqI, c_neI, List.cons_append, List.nil_append, getV, List.getElem?_cons_zero, List.getElem?_cons_succ, List.set_cons_zero, List.set_cons_succ, decide_eq_true_eq, Bool.not_true, Bool.not_false, h13, i0, i1, h, decide_false, Bool.false_eq_true, if_false]
    rw [Int.toNat_of_nonneg (by omega)]
theorem pl_eDi (d : List Int × Int) : VC.plain (eDi d) = true ∧ dep (eDi d) ≤ 2 := by
  have h := pl_ints d.1
  refine pl_tup (k := 1) ⟨?_, ?_⟩
  · simp only [plains]
    rw [h.1]; rfl
  · simp only [deps]
    have := h.2
    show max _ _ ≤ 1
    simp only [dep] at this ⊢
    omega
theorem cut4 (L : List D) (hl : L.length = 12) (t : Nat) (ht : t < 3) (hx : ∀ i : Nat, i < 12 → ∃ x : Int, L[i]? = some (.int x)) (k : Nat) (hk : k < 4) : ∃ x : Int, idxD (.lst (cutL L (some ((3 : Int) + t)) (some ((7 : Int) + t)))) (.int k) = some (.int x) := by
  obtain ⟨x, h⟩ := hx (3 + t + k) (by omega)
  refine ⟨x, i_nat ?_⟩
  have e1 : sIx L.length 0 (some ((3 : Int) + t)) = 3 + t := by unfold sIx; simp only; rw [if_neg (by omega)]; omega
  have e2 : sIx L.length L.length (some ((7 : Int) + t)) = 7 + t := by unfold sIx; simp only; rw [if_neg (by omega)]; omega
  unfold cutL
  rw [e1, e2, List.getElem?_take, if_pos (by omega), List.getElem?_drop]
  exact h
def tb : List VC.S := [.asg 12 (.O (.O .A)) (.call 7 [] [(.var 5), (.var 2)]), .ite (.or [(.cmp .ne (.var 5) (.var 3)), (.not (.call 21 [] [(.var 12), (.var 4)]))]) [.ret (.bl false)] [], .ex (.app2 12 (.int 0) (.int 0))]
def mb : List VC.S := [.ite (.not (.call 22 [] [(.var 4), (.var 2), (.slc .F .both (.var 1) [(.bin .addA (.int 3) (.var 6)), (.bin .addA (.int 7) (.var 6))])])) [.ret (.bl false)] []]
theorem asc_len : ∀ (is : List Int) (lo hi : Int), is.Pairwise (· < ·) → (∀ d ∈ is, lo ≤ d ∧ d ≤ hi) → is.length ≤ (hi - lo + 1).toNat
  | [], _, _, _, _ => Nat.zero_le _
  | x :: r, lo, hi, h, k => by
    obtain ⟨h1, h2⟩ := List.pairwise_cons.mp h
    have hx := k x List.mem_cons_self
    have := asc_len r (x + 1) hi h2 fun d hd => ⟨by have := h1 d hd; omega, (k d (List.mem_cons_of_mem _ hd)).2⟩
    rw [List.length_cons]
    omega
theorem law_true (ns : List Int) (hns : ns.length ≤ 63) : callD T lvl 25 [.lst (ns.map .int)] = .ok (.bl true) [] := by
  unfold lvl
  rw [VC.call_def (df := d_law) rfl rfl]
  have h13 := fun (a c : Nat) (hc : c ≤ 1000) => e_nums ns a c (by omega) 7 (by omega)
  have h16 := fun (n : Nat) (a : 1 ≤ n) (b : n ≤ 1000) (many : Nat) (c : many ≤ 100) => e_diaries ns 1 n a b many c 7 (by omega)
  have h17 := fun (ds : List (List Int × Int)) (n : Nat) (a : n ≤ 1000) => e_stretches ds n a 7 (by omega)
  have h18 := fun (ds : List (List Int × Int)) (n : Nat) (a : n ≤ 1000) (b : ∀ d ∈ ds, d.1.length ≤ n) (c : ds.length ≤ 100) => e_counted ds n a b c 7 (by omega)
  have h7 := fun (ds : List (List Int × Int)) (n : Nat) (a : n ≤ 1000) => e_stretches_of ds n a 7 (by omega)
  have h3 := fun (tf : Int → Int → Int) (n : Nat) (a : 1 ≤ n) (b : n ≤ 31) (c : ∀ i j : Int, 1 ≤ i → i ≤ j → j ≤ n → 0 ≤ tf i j) => e_check tf n a b c 7 (by omega)
  have h21 := fun (tf : Int → Int → Int) (n : Nat) => e_arenum tf n 7 (by omega)
  have h22 := fun (tf : Int → Int → Int) (n : Nat) (a : 1 ≤ n) (b : n ≤ 1000) (h : Law2 tf n) (L : List D) (hL : ∀ k : Nat, k < 4 → ∃ x : Int, idxD (.lst L) (.int k) = some (.int x)) => e_meets tf n a b h L hL 7 (by omega)
  have h24 := fun (tf : Int → Int → Int) (n : Nat) (a : 1 ≤ n) (b : n ≤ 1000) (ks : List (List Key)) (vs : List D) (say : ∀ a b : Int, 1 ≤ a → a < b → b ≤ (n : Int) + 1 → (lookD ks vs [.inl a, .inl b]).getD (.int 0) = .int (stepM tf n a b)) => e_returns tf n a b ks vs say 7 (by omega)
  have h12 := fun (tf : Int → Int → Int) (n : Nat) (a : 1 ≤ n) (b : n ≤ 1000) => e_last tf n a b 7 (by omega)
  have h20 := fun (tf : Int → Int → Int) (n : Nat) (hn : 1 ≤ n) (a b : Int) (ha : 0 ≤ a) => e_lstep tf n hn a b ha 7 (by omega)
  revert h13 h16 h17 h18 h7 h3 h21 h22 h24 h12 h20
  generalize callD T 7 = C
  intro h13 h16 h17 h18 h7 h3 h21 h22 h24 h12 h20
  let S : D := .lst (ns.map .int)
  have h0 := h13 0 12 (by omega)
  have atL : ∀ i : Nat, i < 12 → ∃ x : Int, ((numM ns 0 12).map D.int)[i]? = some (.int x) ∧ 0 ≤ x ∧ x < 1009 := nums_at ns 0 12
  have lenL : ((numM ns 0 12).map D.int).length = 12 := by rw [List.length_map, numM_len]
  generalize (numM ns 0 12).map D.int = L at atL lenL h0
  obtain ⟨x0, q0, _⟩ := atL 0 (by omega)
  obtain ⟨x1, q1, _⟩ := atL 1 (by omega)
  obtain ⟨x2, q2, _⟩ := atL 2 (by omega)
  obtain ⟨x9, q9, _⟩ := atL 9 (by omega)
  have i0 : idxD (.lst L) (.int 0) = some (.int x0) := i_lst (by decide) q0
  have i1 : idxD (.lst L) (.int 1) = some (.int x1) := i_lst (by decide) q1
  have i2 : idxD (.lst L) (.int 2) = some (.int x2) := i_lst (by decide) q2
  have i9 : idxD (.lst L) (.int 9) = some (.int x9) := i_lst (by decide) q9
  obtain ⟨n, hn, hn2, t3⟩ := size_of C S L x0 x1 h0 i0 i1
  have r2 := fmod_rng x2 7 (by decide)
  obtain ⟨ds, hds, good2, dl⟩ := h16 n hn (by omega) (x2.fmod 7).toNat (by omega)
  have hds' : C 16 [S, .int 1, .int n, .int (x2.fmod 7)] = .ok (.lst (ds.map eDi)) [] := by
    rw [← hds, Int.toNat_of_nonneg r2.1]; rfl
  have good : ∀ d ∈ ds, Good n d.1 := fun d hd => (good2 d hd).1
  have pos : ∀ d ∈ ds, 0 ≤ d.2 := fun d hd => (good2 d hd).2
  have glen : ∀ d ∈ ds, d.1.length ≤ n := fun d hd => by
    have g := good d hd
    have := asc_len d.1 1 n g.asc g.rng
    omega
  have h17' := h17 ds n (by omega)
  have h7' := h7 ds n (by omega)
  have h7r := h7 ds.reverse n (by omega)
  rw [tfD_rev] at h7r
  obtain ⟨ks, vs, h18', say⟩ := h18 ds n (by omega) glen (by omega)
  have say' : ∀ a b : Int, 1 ≤ a → a < b → b ≤ (n : Int) + 1 → (lookD ks vs [.inl a, .inl b]).getD (.int 0) = .int (stepM (tfD ds) n a b) := fun a b p1 p2 p3 => by
    rw [say, step_cnt n hn a b (by omega) p2 p3 ds good]
  have h24' := h24 (tfD ds) n hn (by omega) ks vs say'
  have nn := tfD_nn ds pos
  have h3' := h3 (tfD ds) n hn hn2 (fun i j _ _ _ => nn i j)
  have l2 := law2 ds n pos
  have h21' := h21 (tfD ds) n
  have h12' := h12 (tfD ds) n hn (by omega)
  have es := (sum_last (tfD ds) n hn).trans (tfD_all n ds good)
  generalize tfD ds = tf at h17' h7' h7r h24' h3' l2 h21' h12' es
  have r9 := fmod_rng x9 6 (by decide)
  obtain ⟨w, hw⟩ : ∃ w : Nat, (1 : Int) + x9.fmod 6 = w := ⟨(1 + x9.fmod 6).toNat, by omega⟩
  have hw1 : 1 ≤ w := by omega
  have hw2 : w ≤ 6 := by omega
  let Di : D := .lst (ds.map eDi)
  show endC [] (evSs C d_law.body (en S none none none none none none none none none none none none none)) = _
  rw [evSs_take 3 t3]
  let e5 : VC.Env := en S (some (.lst L)) (some (.int n)) (some Di) (some (eT tf n)) (some Di) none none none none none none none none
  have s3 : ∀ ss, evSs C (.asg 3 .F (.call 16 [] [(.var 0), (.int 1), (.var 2), (.bin .mod (.idx (.var 1) (.int 2)) (.int 7))]) :: .asg 4 .F (.call 17 [] [(.var 3), (.var 2)]) :: .asg 5 .F (.bi (.list1 .F) [(.var 3)]) :: ss) (en S (some (.lst L)) (some (.int n)) none none none none none none none none none none none) = evSs C ss e5 := fun ss => by
    simp -implicitDefEqProofs (disch := decide) only [en, y_asg, kAsg_ok, y_ex, kEx_ok, y_ret, y_retMv, kRet_ok, y_mv, y_ite, kSi1_ok, kSi2_ok, x_frz, x_pas, x_nil, x_ret0, x_brk, x_cnt, F_bin, kBin1_ok, kBin2_ok, F_cmp, kCmp1_ok, kCmp2_ok, F_idx, kIdx1_ok, kIdx2_ok, Fs_cons, kCons1_ok, kCons2_ok, F_tup, kTup_ok, F_lst, kLst_ok, F_bi, kBi_ok, F_call, kCall_ok, rcE_ok, F_not, kNot1_ok, kNot2_ok, F_neg, kNeg_ok, F_ite, kIte1_ok, kIte2_ok, F_or, kOr1_ok, kOr2_ok, E_or0, F_and, kAnd1_ok, kAnd2_ok, E_and0, F_chn, kChn1_ok, kChn2_ok, chnO_ok, kChn3_ok, F_app, kApp_ok, appH_ok, appG_ok, E_var, E_int, E_str, E_bl, E_non, Es_nil, R.bind_ok, ofO_some, Option.map_some, t_bl, o_addI, o_sub, o_mod, c_lt, c_le, c_gt, c_ge, c_eqI, c_neI, List.cons_append, List.nil_append, getV, List.getElem?_cons_zero, List.getElem?_cons_succ, List.set_cons_zero, List.set_cons_succ, decide_eq_true_eq, Bool.not_true, Bool.not_false, i2, hds', h17', e5, Di, b_list]
  let rest5 : List VC.S := d_law.body.drop 6
  show endC [] (evSs C (.asg 3 .F (.call 16 [] [(.var 0), (.int 1), (.var 2), (.bin .mod (.idx (.var 1) (.int 2)) (.int 7))]) :: .asg 4 .F (.call 17 [] [(.var 3), (.var 2)]) :: .asg 5 .F (.bi (.list1 .F) [(.var 3)]) :: rest5) _) = _
  rw [s3]
  have neD := c_ne_self (d := Di) (eqOk_le (pl_lst (plains_map eDi 2 pl_eDi ds)) (by omega))
  have neT := c_ne_self (eqOk_T tf n)
  -- told twice
  let mk : Option D × Option D → VC.Env := fun j => en S (some (.lst L)) (some (.int n)) (some Di) (some (eT tf n)) (some Di) j.1 none none none none none j.2 none
  obtain ⟨j1, l1⟩ := forD_all mk (fun k : Nat => D.int k) (fun d e => (bindTg (.nm 6) d e).bind fun e1 => evSs C tb e1) (List.range 2) (none, none) (fun k hk j => by
    let rows : List D := (List.range n).map fun r : Nat => eR tf n ((r : Int) + 1)
    let row : List D := (List.range ((n : Int) + 1 - (((0 : Nat) : Int) + 1)).toNat).map fun c : Nat => .int (tf (((0 : Nat) : Int) + 1) (((0 : Nat) : Int) + 1 + c))
    have hr0 : rows[0]? = some (.lst row) := by
      simp only [rows, List.getElem?_map, List.getElem?_range (show 0 < n by omega), Option.map_some]
      rfl
    have hrl : rows.length = n := by simp [rows]
    refine ⟨(some (.int k), some (.lst (rows.set 0 (.lst (row ++ [.int 0]))))), ?_⟩
    rw [t_nm]
    let e12 : VC.Env := en S (some (.lst L)) (some (.int n)) (some Di) (some (eT tf n)) (some Di) (some (.int k)) none none none none none (some (.lst rows)) none
    have a1 : ∀ ss, evSs C (.asg 12 (.O (.O .A)) (.call 7 [] [(.var 5), (.var 2)]) :: .ite (.or [(.cmp .ne (.var 5) (.var 3)), (.not (.call 21 [] [(.var 12), (.var 4)]))]) [.ret (.bl false)] [] :: ss) ((mk j).set 6 (some (.int k))) = evSs C ss e12 := fun ss => by
      have h21'' : C 21 [.lst rows, eT tf n] = .ok (.bl true) [] := h21'
      have h7'' : C 7 [Di, .int n] = .ok (.lst rows) [] := h7'
      simp -implicitDefEqProofs only [mk, en, y_asg, kAsg_ok, y_ex, kEx_ok, y_ret, y_retMv, kRet_ok, y_mv, y_ite, kSi1_ok, kSi2_ok, x_frz, x_pas, x_nil, x_ret0, x_brk, x_cnt, F_bin, kBin1_ok, kBin2_ok, F_cmp, kCmp1_ok, kCmp2_ok, F_idx, kIdx1_ok, kIdx2_ok, Fs_cons, kCons1_ok, kCons2_ok, F_tup, kTup_ok, F_lst, kLst_ok, F_bi, kBi_ok, F_call, kCall_ok, rcE_ok, F_not, kNot1_ok, kNot2_ok, F_neg, kNeg_ok, F_ite, kIte1_ok, kIte2_ok, F_or, kOr1_ok, kOr2_ok, E_or0, F_and, kAnd1_ok, kAnd2_ok, E_and0, F_chn, kChn1_ok, kChn2_ok, chnO_ok, kChn3_ok, F_app, kApp_ok, appH_ok, appG_ok, E_var, E_int, E_str, E_bl, E_non, Es_nil, R.bind_ok, ofO_some, Option.map_some, t_bl, o_addI, o_sub, o_mod, c_lt, c_le, c_gt, c_ge, c_eqI, c_neI, List.cons_append, List.nil_append, getV, List.getElem?_cons_zero, List.getElem?_cons_succ, List.set_cons_zero, List.set_cons_succ, decide_eq_true_eq, Bool.not_true, Bool.not_false, h7'', neD, h21'', if_false, Bool.false_eq_true, e12]
    show evSs C (.asg 12 (.O (.O .A)) (.call 7 [] [(.var 5), (.var 2)]) :: .ite (.or [(.cmp .ne (.var 5) (.var 3)), (.not (.call 21 [] [(.var 12), (.var 4)]))]) [.ret (.bl false)] [] :: [.ex (.app2 12 (.int 0) (.int 0))]) ((mk j).set 6 (some (.int k))) = _
    rw [a1, y_ex, F_app2 (ds := rows) (xs := row) (n := 0) (z := 0) (d := .int 0) rfl E_int (by unfold VC.ixN; rw [hrl, if_pos (by omega), if_pos (by omega)]; rfl) hr0 E_int (by simp [row, lim]; omega), R.bind_ok, kEx_ok, x_nil]
    rfl)
  have f1 : evSs C rest5 e5 = evSs C (d_law.body.drop 7) (mk j1) := by
    show evSs C (.for_ _ (.nm 6) .rng1 [(.int 2)] tb :: d_law.body.drop 7) _ = _
    rw [y_for (ds := [.int (2 : Nat)]) (items := (List.range 2).map fun k : Nat => D.int k) (env1 := mk (none, none)) (by simp -implicitDefEqProofs only [mk, en, e5, y_asg, kAsg_ok, y_ex, kEx_ok, y_ret, y_retMv, kRet_ok, y_mv, y_ite, kSi1_ok, kSi2_ok, x_frz, x_pas, x_nil, x_ret0, x_brk, x_cnt, F_bin, kBin1_ok, kBin2_ok, F_cmp, kCmp1_ok, kCmp2_ok, F_idx, kIdx1_ok, kIdx2_ok, Fs_cons, kCons1_ok, kCons2_ok, F_tup, kTup_ok, F_lst, kLst_ok, F_bi, kBi_ok, F_call, kCall_ok, rcE_ok, F_not, kNot1_ok, kNot2_ok, F_neg, kNeg_ok, F_ite, kIte1_ok, kIte2_ok, F_or, kOr1_ok, kOr2_ok, E_or0, F_and, kAnd1_ok, kAnd2_ok, E_and0, F_chn, kChn1_ok, kChn2_ok, chnO_ok, kChn3_ok, F_app, kApp_ok, appH_ok, appG_ok, E_var, E_int, E_str, E_bl, E_non, Es_nil, R.bind_ok, ofO_some, Option.map_some, t_bl, o_addI, o_sub, o_mod, c_lt, c_le, c_gt, c_ge, c_eqI, c_neI, List.cons_append, List.nil_append, getV, List.getElem?_cons_zero, List.getElem?_cons_succ, List.set_cons_zero, List.set_cons_succ, decide_eq_true_eq, Bool.not_true, Bool.not_false]; rfl) (it_rng 2 (by omega)), l1, R.bind_ok, kFor_nx]
  rw [f1]
  -- turned round; checked
  have er : evE C (.rev .F (.var 3)) (mk j1) = .ok (.lst (ds.reverse.map eDi), mk j1) := by
    rw [List.map_reverse]
    exact F_rev (by rw [E_var]; rfl)
  have ec := copyT C tf n (mk j1) 15 4 rfl (by simp [mk, en])
  have nnI : decide ((n : Int) = (n : Int)) = true := by simp
  have c7 : evE C (.or [(.cmp .ne (.call 7 [] [(.rev .F (.var 3)), (.var 2)]) (.var 4)), (.cmp .ne (.call 3 [] [(.lc [15] .F (.bi (.list1 .F) [(.var 15)]) (.nm 15) .e [(.var 4)] [])]) (.var 2))]) (mk j1) = .ok (.bl false, mk j1) := by
    have v2 : evE C (.var 2) (mk j1) = .ok (.int n, mk j1) := by rw [E_var]; rfl
    have v4 : evE C (.var 4) (mk j1) = .ok (eT tf n, mk j1) := by rw [E_var]; rfl
    rw [F_or, F_cmp, F_call, Fs_cons, er, R.bind_ok, kCons1_ok, Fs_cons, v2, R.bind_ok, kCons1_ok, Es_nil, R.bind_ok, kCons2_ok, R.bind_ok, kCons2_ok, R.bind_ok, kCall_ok, h7r, rcE_ok, R.bind_ok, kCmp1_ok, v4, R.bind_ok, kCmp2_ok, neT, Option.map_some, ofO_some, R.bind_ok, kOr1_ok, t_bl, R.bind_ok, kOr2_ok, if_neg (by decide), E_or0, F_cmp, F_call, Fs_cons, ec, R.bind_ok, kCons1_ok, Es_nil, R.bind_ok, kCons2_ok, R.bind_ok, kCall_ok, h3', rcE_ok, R.bind_ok, kCmp1_ok, v2, R.bind_ok, kCmp2_ok, c_neI, nnI]
    rfl
  have f2 : evSs C (d_law.body.drop 7) (mk j1) = evSs C (d_law.body.drop 8) (mk j1) := by
    show evSs C (.ite (.or [(.cmp .ne (.call 7 [] [(.rev .F (.var 3)), (.var 2)]) (.var 4)), (.cmp .ne (.call 3 [] [(.lc [15] .F (.bi (.list1 .F) [(.var 15)]) (.nm 15) .e [(.var 4)] [])]) (.var 2))]) [.ret (.bl false)] [] :: d_law.body.drop 8) _ = _
    rw [y_ite, c7, R.bind_ok, kSi1_ok, t_bl, R.bind_ok, kSi2_ok, if_neg (by decide), List.nil_append]
  rw [f2]
  -- meets
  let mk2 : Option D → VC.Env := fun j => en S (some (.lst L)) (some (.int n)) (some Di) (some (eT tf n)) (some Di) j none none none none none j1.2 none
  obtain ⟨j2, l22⟩ := forD_all mk2 (fun k : Nat => D.int k) (fun d e => (bindTg (.nm 6) d e).bind fun e1 => evSs C mb e1) (List.range 3) j1.1 (fun k hk j => by
    refine ⟨some (.int k), ?_⟩
    rw [t_nm]
    have hm := h22 tf n hn (by omega) l2 (cutL L (some ((3 : Int) + k)) (some ((7 : Int) + k))) (fun q hq => cut4 L lenL k (List.mem_range.mp hk) (fun i hi => by obtain ⟨x, h, _⟩ := atL i hi; exact ⟨x, h⟩) q hq)
    show evSs C mb (mk2 (some (.int k))) = _
    have e1 : evE C (.slc .F .both (.var 1) [(.bin .addA (.int 3) (.var 6)), (.bin .addA (.int 7) (.var 6))]) (mk2 (some (.int k))) = .ok (.lst (cutL L (some ((3 : Int) + k)) (some ((7 : Int) + k))), mk2 (some (.int k))) :=
      F_slc2 (by rw [E_var]; rfl) (by simp -implicitDefEqProofs only [mk2, en, y_asg, kAsg_ok, y_ex, kEx_ok, y_ret, y_retMv, kRet_ok, y_mv, y_ite, kSi1_ok, kSi2_ok, x_frz, x_pas, x_nil, x_ret0, x_brk, x_cnt, F_bin, kBin1_ok, kBin2_ok, F_cmp, kCmp1_ok, kCmp2_ok, F_idx, kIdx1_ok, kIdx2_ok, Fs_cons, kCons1_ok, kCons2_ok, F_tup, kTup_ok, F_lst, kLst_ok, F_bi, kBi_ok, F_call, kCall_ok, rcE_ok, F_not, kNot1_ok, kNot2_ok, F_neg, kNeg_ok, F_ite, kIte1_ok, kIte2_ok, F_or, kOr1_ok, kOr2_ok, E_or0, F_and, kAnd1_ok, kAnd2_ok, E_and0, F_chn, kChn1_ok, kChn2_ok, chnO_ok, kChn3_ok, F_app, kApp_ok, appH_ok, appG_ok, E_var, E_int, E_str, E_bl, E_non, Es_nil, R.bind_ok, ofO_some, Option.map_some, t_bl, o_addI, o_sub, o_mod, c_lt, c_le, c_gt, c_ge, c_eqI, c_neI, List.cons_append, List.nil_append, getV, List.getElem?_cons_zero, List.getElem?_cons_succ, List.set_cons_zero, List.set_cons_succ, decide_eq_true_eq, Bool.not_true, Bool.not_false]) (by simp -implicitDefEqProofs only [mk2, en, y_asg, kAsg_ok, y_ex, kEx_ok, y_ret, y_retMv, kRet_ok, y_mv, y_ite, kSi1_ok, kSi2_ok, x_frz, x_pas, x_nil, x_ret0, x_brk, x_cnt, F_bin, kBin1_ok, kBin2_ok, F_cmp, kCmp1_ok, kCmp2_ok, F_idx, kIdx1_ok, kIdx2_ok, Fs_cons, kCons1_ok, kCons2_ok, F_tup, kTup_ok, F_lst, kLst_ok, F_bi, kBi_ok, F_call, kCall_ok, rcE_ok, F_not, kNot1_ok, kNot2_ok, F_neg, kNeg_ok, F_ite, kIte1_ok, kIte2_ok, F_or, kOr1_ok, kOr2_ok, E_or0, F_and, kAnd1_ok, kAnd2_ok, E_and0, F_chn, kChn1_ok, kChn2_ok, chnO_ok, kChn3_ok, F_app, kApp_ok, appH_ok, appG_ok, E_var, E_int, E_str, E_bl, E_non, Es_nil, R.bind_ok, ofO_some, Option.map_some, t_bl, o_addI, o_sub, o_mod, c_lt, c_le, c_gt, c_ge, c_eqI, c_neI, List.cons_append, List.nil_append, getV, List.getElem?_cons_zero, List.getElem?_cons_succ, List.set_cons_zero, List.set_cons_succ, decide_eq_true_eq, Bool.not_true, Bool.not_false])
    unfold mb
    simp only [mk2, en] at e1
    simp -implicitDefEqProofs only [mk2, en, y_asg, kAsg_ok, y_ex, kEx_ok, y_ret, y_retMv, kRet_ok, y_mv, y_ite, kSi1_ok, kSi2_ok, x_frz, x_pas, x_nil, x_ret0, x_brk, x_cnt, F_bin, kBin1_ok, kBin2_ok, F_cmp, kCmp1_ok, kCmp2_ok, F_idx, kIdx1_ok, kIdx2_ok, Fs_cons, kCons1_ok, kCons2_ok, F_tup, kTup_ok, F_lst, kLst_ok, F_bi, kBi_ok, F_call, kCall_ok, rcE_ok, F_not, kNot1_ok, kNot2_ok, F_neg, kNeg_ok, F_ite, kIte1_ok, kIte2_ok, F_or, kOr1_ok, kOr2_ok, E_or0, F_and, kAnd1_ok, kAnd2_ok, E_and0, F_chn, kChn1_ok, kChn2_ok, chnO_ok, kChn3_ok, F_app, kApp_ok, appH_ok, appG_ok, E_var, E_int, E_str, E_bl, E_non, Es_nil, R.bind_ok, ofO_some, Option.map_some, t_bl, o_addI, o_sub, o_mod, c_lt, c_le, c_gt, c_ge, c_eqI, c_neI, List.cons_append, List.nil_append, getV, List.getElem?_cons_zero, List.getElem?_cons_succ, List.set_cons_zero, List.set_cons_succ, decide_eq_true_eq, Bool.not_true, Bool.not_false, e1, hm, if_false, Bool.false_eq_true])
  have f3 : evSs C (d_law.body.drop 8) (mk j1) = evSs C (d_law.body.drop 9) (mk2 j2) := by
    show evSs C (.for_ _ (.nm 6) .rng1 [(.int 3)] mb :: d_law.body.drop 9) _ = _
    rw [y_for (ds := [.int (3 : Nat)]) (items := (List.range 3).map fun k : Nat => D.int k) (env1 := mk2 j1.1) (by simp -implicitDefEqProofs only [mk, mk2, en, y_asg, kAsg_ok, y_ex, kEx_ok, y_ret, y_retMv, kRet_ok, y_mv, y_ite, kSi1_ok, kSi2_ok, x_frz, x_pas, x_nil, x_ret0, x_brk, x_cnt, F_bin, kBin1_ok, kBin2_ok, F_cmp, kCmp1_ok, kCmp2_ok, F_idx, kIdx1_ok, kIdx2_ok, Fs_cons, kCons1_ok, kCons2_ok, F_tup, kTup_ok, F_lst, kLst_ok, F_bi, kBi_ok, F_call, kCall_ok, rcE_ok, F_not, kNot1_ok, kNot2_ok, F_neg, kNeg_ok, F_ite, kIte1_ok, kIte2_ok, F_or, kOr1_ok, kOr2_ok, E_or0, F_and, kAnd1_ok, kAnd2_ok, E_and0, F_chn, kChn1_ok, kChn2_ok, chnO_ok, kChn3_ok, F_app, kApp_ok, appH_ok, appG_ok, E_var, E_int, E_str, E_bl, E_non, Es_nil, R.bind_ok, ofO_some, Option.map_some, t_bl, o_addI, o_sub, o_mod, c_lt, c_le, c_gt, c_ge, c_eqI, c_neI, List.cons_append, List.nil_append, getV, List.getElem?_cons_zero, List.getElem?_cons_succ, List.set_cons_zero, List.set_cons_succ, decide_eq_true_eq, Bool.not_true, Bool.not_false]; rfl) (it_rng 3 (by omega)), l22, R.bind_ok, kFor_nx]
  rw [f3]
  have lcs := e_lcG (C := C) (env := mk2 j2) (own := [16, 17]) (s := .F) (elt := .var 17) (g := .tp [16, 17]) (k := .e) (ies := [(.var 3)]) (ifs := []) (ds := [Di]) eDi (fun _ => true) (fun d => .int d.2) ds
    (by simp -implicitDefEqProofs only [mk2, en, y_asg, kAsg_ok, y_ex, kEx_ok, y_ret, y_retMv, kRet_ok, y_mv, y_ite, kSi1_ok, kSi2_ok, x_frz, x_pas, x_nil, x_ret0, x_brk, x_cnt, F_bin, kBin1_ok, kBin2_ok, F_cmp, kCmp1_ok, kCmp2_ok, F_idx, kIdx1_ok, kIdx2_ok, Fs_cons, kCons1_ok, kCons2_ok, F_tup, kTup_ok, F_lst, kLst_ok, F_bi, kBi_ok, F_call, kCall_ok, rcE_ok, F_not, kNot1_ok, kNot2_ok, F_neg, kNeg_ok, F_ite, kIte1_ok, kIte2_ok, F_or, kOr1_ok, kOr2_ok, E_or0, F_and, kAnd1_ok, kAnd2_ok, E_and0, F_chn, kChn1_ok, kChn2_ok, chnO_ok, kChn3_ok, F_app, kApp_ok, appH_ok, appG_ok, E_var, E_int, E_str, E_bl, E_non, Es_nil, R.bind_ok, ofO_some, Option.map_some, t_bl, o_addI, o_sub, o_mod, c_lt, c_le, c_gt, c_ge, c_eqI, c_neI, List.cons_append, List.nil_append, getV, List.getElem?_cons_zero, List.getElem?_cons_succ, List.set_cons_zero, List.set_cons_succ, decide_eq_true_eq, Bool.not_true, Bool.not_false]) rfl rfl (fun d hd e he => by
      have hle : e.length = 18 := he.len
      refine ⟨(e.set 16 (some (.tup (d.1.map .int)))).set 17 (some (.int d.2)), rfl, agr_set (agr_set he (by decide) _) (by decide) _, ts_nil, fun _ => ?_⟩
      rw [E_var]
      exact gv (by rw [List.getElem?_set_self (by simp; omega)]))
  rw [filt_true] at lcs
  have emS : ds.map (fun d => D.int d.2) = (ds.map (·.2)).map .int := by rw [List.map_map]; rfl
  rw [emS] at lcs
  have nnS : decide ((ds.map (·.2)).sum = (ds.map (·.2)).sum) = true := by simp
  have f4 : evSs C (d_law.body.drop 9) (mk2 j2) = evSs C (d_law.body.drop 11) (mk2 j2) := by
    show evSs C (.ite (.not (.call 24 [] [(.var 4), (.call 18 [] [(.var 3), (.var 2)])])) [.ret (.bl false)] [] :: .ite (.cmp .ne (.bi .sum [(.call 12 [] [(.var 4)])]) (.bi .sum [(.lc [16, 17] .F (.var 17) (.tp [16, 17]) .e [(.var 3)] [])])) [.ret (.bl false)] [] :: d_law.body.drop 11) _ = _
    generalize d_law.body.drop 11 = rest
    simp only [mk2, en] at lcs
    have h18'' : C 18 [Di, .int n] = .ok (.dT ks vs) [] := h18'
    simp -implicitDefEqProofs only [mk2, en, y_asg, kAsg_ok, y_ex, kEx_ok, y_ret, y_retMv, kRet_ok, y_mv, y_ite, kSi1_ok, kSi2_ok, x_frz, x_pas, x_nil, x_ret0, x_brk, x_cnt, F_bin, kBin1_ok, kBin2_ok, F_cmp, kCmp1_ok, kCmp2_ok, F_idx, kIdx1_ok, kIdx2_ok, Fs_cons, kCons1_ok, kCons2_ok, F_tup, kTup_ok, F_lst, kLst_ok, F_bi, kBi_ok, F_call, kCall_ok, rcE_ok, F_not, kNot1_ok, kNot2_ok, F_neg, kNeg_ok, F_ite, kIte1_ok, kIte2_ok, F_or, kOr1_ok, kOr2_ok, E_or0, F_and, kAnd1_ok, kAnd2_ok, E_and0, F_chn, kChn1_ok, kChn2_ok, chnO_ok, kChn3_ok, F_app, kApp_ok, appH_ok, appG_ok, E_var, E_int, E_str, E_bl, E_non, Es_nil, R.bind_ok, ofO_some, Option.map_some, t_bl, o_addI, o_sub, o_mod, c_lt, c_le, c_gt, c_ge, c_eqI, c_neI, List.cons_append, List.nil_append, getV, List.getElem?_cons_zero, List.getElem?_cons_succ, List.set_cons_zero, List.set_cons_succ, decide_eq_true_eq, Bool.not_true, Bool.not_false, h18'', h24', h12', b_sum, es, lcs, nnS, decide_true, Bool.not_true, if_false, Bool.false_eq_true]
  rw [f4]
  -- the strange one
  have h13' : ∀ a c : Nat, c ≤ 1000 → C 13 [.lst (ns.map .int), .int a, .int c] = .ok (.lst ((numM ns a c).map .int)) [] := h13
  obtain ⟨j10, ls⟩ := t_strange C ns w (by omega) h13' (some (.lst L)) (some (.int n)) (some Di) (some (eT tf n)) (some Di) j2 (some (.dT [] [])) none j1.2 none
  obtain ⟨ks2, vs2, j11, j13, lst2, say2⟩ := t_steps C S (tgM ns w) w (by omega) (fun a b ha => h20 (tgM ns w) w hw1 a b ha) (some (.lst L)) (some (.int n)) (some Di) (some (eT tf n)) (some Di) j2 j10 j1.2
  have hlast := h24 (tgM ns w) w hw1 (by omega) ks2 vs2 say2
  have s5 : ∀ ss, evSs C (.asg 7 .A (.bin .addA (.int 1) (.bin .mod (.idx (.var 1) (.int 9)) (.int 6))) :: .asg 8 (.O .F) (.lst .F []) :: ss) (mk2 j2) = evSs C ss (en S (some (.lst L)) (some (.int n)) (some Di) (some (eT tf n)) (some Di) j2 (some (.int w)) (some (.lst [])) none none none j1.2 none) := fun ss => by
    simp -implicitDefEqProofs (disch := decide) only [mk2, en, y_asg, kAsg_ok, y_ex, kEx_ok, y_ret, y_retMv, kRet_ok, y_mv, y_ite, kSi1_ok, kSi2_ok, x_frz, x_pas, x_nil, x_ret0, x_brk, x_cnt, F_bin, kBin1_ok, kBin2_ok, F_cmp, kCmp1_ok, kCmp2_ok, F_idx, kIdx1_ok, kIdx2_ok, Fs_cons, kCons1_ok, kCons2_ok, F_tup, kTup_ok, F_lst, kLst_ok, F_bi, kBi_ok, F_call, kCall_ok, rcE_ok, F_not, kNot1_ok, kNot2_ok, F_neg, kNeg_ok, F_ite, kIte1_ok, kIte2_ok, F_or, kOr1_ok, kOr2_ok, E_or0, F_and, kAnd1_ok, kAnd2_ok, E_and0, F_chn, kChn1_ok, kChn2_ok, chnO_ok, kChn3_ok, F_app, kApp_ok, appH_ok, appG_ok, E_var, E_int, E_str, E_bl, E_non, Es_nil, R.bind_ok, ofO_some, Option.map_some, t_bl, o_addI, o_sub, o_mod, c_lt, c_le, c_gt, c_ge, c_eqI, c_neI, List.cons_append, List.nil_append, getV, List.getElem?_cons_zero, List.getElem?_cons_succ, List.set_cons_zero, List.set_cons_succ, decide_eq_true_eq, Bool.not_true, Bool.not_false, i9, hw]
  have end_ : evE C (.dnew true .A) (en S (some (.lst L)) (some (.int n)) (some Di) (some (eT tf n)) (some Di) j2 (some (.int w)) (some (.lst [])) none none none j1.2 none) = .ok (.dT [] [], en S (some (.lst L)) (some (.int n)) (some Di) (some (eT tf n)) (some Di) j2 (some (.int w)) (some (.lst [])) none none none j1.2 none) := by simp only [evE, if_true]
  show endC [] (evSs C (.asg 7 .A (.bin .addA (.int 1) (.bin .mod (.idx (.var 1) (.int 9)) (.int 6))) :: .asg 8 (.O .F) (.lst .F []) :: .asg 9 (.T .A) (.dnew true .A) :: .for_ [.Q, .F, .A, .F, .F, .F, .X, .A, (.O .F), (.T .A), .X, .X, .X, .X, .X, .X, .X, .X] (.nm 10) .rng1 [(.var 7)] sb :: .frz 8 :: .for_ [.Q, .F, .A, .F, .F, .F, .X, .A, .F, (.T .A), .X, .X, .X, .X, .X, .X, .X, .X] (.nm 11) .rng2 [(.int 1), (.bin .addA (.var 7) (.int 1))] db :: .frz 9 :: [.ret (.call 24 [] [(.var 8), (.var 9)])]) _) = _
  rw [s5, y_asg, end_, R.bind_ok, kAsg_ok]
  rw [y_for (ds := [.int (w : Nat)]) (items := (List.range w).map fun k : Nat => .int k) (env1 := en S (some (.lst L)) (some (.int n)) (some Di) (some (eT tf n)) (some Di) j2 (some (.int w)) (some (.lst [])) (some (.dT [] [])) none none j1.2 none) (by simp -implicitDefEqProofs only [en, y_asg, kAsg_ok, y_ex, kEx_ok, y_ret, y_retMv, kRet_ok, y_mv, y_ite, kSi1_ok, kSi2_ok, x_frz, x_pas, x_nil, x_ret0, x_brk, x_cnt, F_bin, kBin1_ok, kBin2_ok, F_cmp, kCmp1_ok, kCmp2_ok, F_idx, kIdx1_ok, kIdx2_ok, Fs_cons, kCons1_ok, kCons2_ok, F_tup, kTup_ok, F_lst, kLst_ok, F_bi, kBi_ok, F_call, kCall_ok, rcE_ok, F_not, kNot1_ok, kNot2_ok, F_neg, kNeg_ok, F_ite, kIte1_ok, kIte2_ok, F_or, kOr1_ok, kOr2_ok, E_or0, F_and, kAnd1_ok, kAnd2_ok, E_and0, F_chn, kChn1_ok, kChn2_ok, chnO_ok, kChn3_ok, F_app, kApp_ok, appH_ok, appG_ok, E_var, E_int, E_str, E_bl, E_non, Es_nil, R.bind_ok, ofO_some, Option.map_some, t_bl, o_addI, o_sub, o_mod, c_lt, c_le, c_gt, c_ge, c_eqI, c_neI, List.cons_append, List.nil_append, getV, List.getElem?_cons_zero, List.getElem?_cons_succ, List.set_cons_zero, List.set_cons_succ, decide_eq_true_eq, Bool.not_true, Bool.not_false]) (it_rng w (by omega)), ls, R.bind_ok, kFor_nx, x_frz]
  rw [y_for (ds := [.int 1, .int ((w : Int) + 1)]) (items := (List.range w).map fun r : Nat => .int ((1 : Int) + r)) (env1 := en S (some (.lst L)) (some (.int n)) (some Di) (some (eT tf n)) (some Di) j2 (some (.int w)) (some (eT (tgM ns w) w)) (some (.dT [] [])) j10 none j1.2 none) (by simp -implicitDefEqProofs only [en, y_asg, kAsg_ok, y_ex, kEx_ok, y_ret, y_retMv, kRet_ok, y_mv, y_ite, kSi1_ok, kSi2_ok, x_frz, x_pas, x_nil, x_ret0, x_brk, x_cnt, F_bin, kBin1_ok, kBin2_ok, F_cmp, kCmp1_ok, kCmp2_ok, F_idx, kIdx1_ok, kIdx2_ok, Fs_cons, kCons1_ok, kCons2_ok, F_tup, kTup_ok, F_lst, kLst_ok, F_bi, kBi_ok, F_call, kCall_ok, rcE_ok, F_not, kNot1_ok, kNot2_ok, F_neg, kNeg_ok, F_ite, kIte1_ok, kIte2_ok, F_or, kOr1_ok, kOr2_ok, E_or0, F_and, kAnd1_ok, kAnd2_ok, E_and0, F_chn, kChn1_ok, kChn2_ok, chnO_ok, kChn3_ok, F_app, kApp_ok, appH_ok, appG_ok, E_var, E_int, E_str, E_bl, E_non, Es_nil, R.bind_ok, ofO_some, Option.map_some, t_bl, o_addI, o_sub, o_mod, c_lt, c_le, c_gt, c_ge, c_eqI, c_neI, List.cons_append, List.nil_append, getV, List.getElem?_cons_zero, List.getElem?_cons_succ, List.set_cons_zero, List.set_cons_succ, decide_eq_true_eq, Bool.not_true, Bool.not_false]; rfl) (by rw [it_rng2 _ _ (by omega) (by omega), show ((w : Int) + 1 - 1).toNat = w by omega]), lst2, R.bind_ok, kFor_nx, x_frz]
  simp -implicitDefEqProofs only [en, y_asg, kAsg_ok, y_ex, kEx_ok, y_ret, y_retMv, kRet_ok, y_mv, y_ite, kSi1_ok, kSi2_ok, x_frz, x_pas, x_nil, x_ret0, x_brk, x_cnt, F_bin, kBin1_ok, kBin2_ok, F_cmp, kCmp1_ok, kCmp2_ok, F_idx, kIdx1_ok, kIdx2_ok, Fs_cons, kCons1_ok, kCons2_ok, F_tup, kTup_ok, F_lst, kLst_ok, F_bi, kBi_ok, F_call, kCall_ok, rcE_ok, F_not, kNot1_ok, kNot2_ok, F_neg, kNeg_ok, F_ite, kIte1_ok, kIte2_ok, F_or, kOr1_ok, kOr2_ok, E_or0, F_and, kAnd1_ok, kAnd2_ok, E_and0, F_chn, kChn1_ok, kChn2_ok, chnO_ok, kChn3_ok, F_app, kApp_ok, appH_ok, appG_ok, E_var, E_int, E_str, E_bl, E_non, Es_nil, R.bind_ok, ofO_some, Option.map_some, t_bl, o_addI, o_sub, o_mod, c_lt, c_le, c_gt, c_ge, c_eqI, c_neI, List.cons_append, List.nil_append, getV, List.getElem?_cons_zero, List.getElem?_cons_succ, List.set_cons_zero, List.set_cons_succ, decide_eq_true_eq, Bool.not_true, Bool.not_false, hlast]
  rfl
end Lk63
end

section
set_option Elab.async false
set_option linter.all false
set_option maxRecDepth 100000
set_option maxHeartbeats 0
namespace Lk63
open PySem PySem.Spec VC
open L2 (defScope defBody defArgs)
abbrev R : PySem.W.OpenRow := PySem.W.OpenLaw.row PySem.Challenge.rw_visitscounted_k63_stretches_and_returns
abbrev fn : List He.DefD := ds.map DI.dd
abbrev fa : List He.Fa := factsOf ds free cs
abbrev hk : PySem.W.Hook := He.hookD 4 fa fn
def ob (s : PySem.W.SharedT) : He.AlD := He.obsDG 4 fa fn (HandSHeadRun.getT s)
theorem ob_eq (s : PySem.W.SharedT) : ob s = hk.obs s.abs := He.obsDG_eq (HandSHeadRun.getT_eq s)
theorem run (w : World) : HandSHeadRun.RunEq R (PySem.W.view R.prog [34]) hk ob 8000 ["CountError", "BadStretch", "is_whole", "MOST_DAYS", "is_count", "check_list", "check_stretches", "number_of", "comes_within", "visitors_within", "stretches_of", "all_visitors", "missed", "step_number", "came_back", "last_visits", "_law_numbers", "_law_is_integer", "_law_days", "_law_diaries", "_law_stretches", "_law_counted", "_law_unseen", "_law_step", "_law_are_numbers", "_law_meets", "_law_listed", "_law_returns_hold"] w := by
  intro os
  kernel_rfl

end Lk63
end

section
set_option Elab.async false
set_option linter.all false
set_option maxRecDepth 100000
set_option maxHeartbeats 0
open PySem PySem.W PySem.Calls PyProof.Rows VC
theorem PySem.Challenge.cw_visitscounted_k63_stretches_and_returns_holds : PySem.Challenge.rw_visitscounted_k63_stretches_and_returns.Holds := by
  w_on; o_law
  refine HandSHeadRun.head_any (r := OpenLaw.row PySem.Challenge.rw_visitscounted_k63_stretches_and_returns) (q := view (OpenLaw.row PySem.Challenge.rw_visitscounted_k63_stretches_and_returns).prog [34]) (H := Lk63.hk) (ob := Lk63.ob) (M := 8000) (loose := ["CountError", "BadStretch", "is_whole", "MOST_DAYS", "is_count", "check_list", "check_stretches", "number_of", "comes_within", "visitors_within", "stretches_of", "all_visitors", "missed", "step_number", "came_back", "last_visits", "_law_numbers", "_law_is_integer", "_law_days", "_law_diaries", "_law_stretches", "_law_counted", "_law_unseen", "_law_step", "_law_are_numbers", "_law_meets", "_law_listed", "_law_returns_hold"]) (d := HandSHeadRun.topDef (OpenLaw.row PySem.Challenge.rw_visitscounted_k63_stretches_and_returns).prog 34) (kwd := []) Lk63.ob_eq
    (by kernel_rfl) (fun s => by kernel_rfl) Lk63.run (by kernel_rfl) (by kernel_rfl) (by kernel_rfl) (by rfl) (by first | assumption | decide +kernel) (by decide +kernel) ⟨rfl, rfl, rfl, rfl, rfl, by decide +kernel⟩ ?hw ?hc
  case hw => w_witness2
  case hc =>
    exact VC.law_walk (l := PySem.Challenge.rw_visitscounted_k63_stretches_and_returns) (lvl := Lk63.lvl) (f := 25) (T := Lk63.T) (ds := Lk63.ds) (free := Lk63.free) (cs := Lk63.cs) rfl (by decide) (by kernel_rfl) ⟨rfl, by decide, by decide⟩ Lk63.tab Lk63.bnd rfl rfl rfl (by kernel_rfl) rfl rfl rfl Lk63.law_true
end
