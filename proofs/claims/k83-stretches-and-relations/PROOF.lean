import PyProof.Rows.All
import Wide.All
import OpenK.AllK
import Wide.FinOn
import PySem.Challenge.RW_onlycompared_k83_stretches_and_relations
import HandS.ForMost
import HandS.ForExc
import HandS.Wide
import HandS.Gcd
import HandS.Deep
import HandS.Style
import HandS.IsInst
import HandS.TryMany
import HandS.TupLe
import HandS.Conv
import HandS.Lambda
import HandS.EndTab
import HandS.HeadWalk
import HandS.TupAny
import HandS.Flow
import HandS.Comp
import HandS.Iter
import KE.KMathGC
import KE.GoesMore
import KE.GoesComp
import KE.KDictKeyed
import KE.KDictList
import HandS.DictComp
import KE.SortKeyHeap
import KE.KSortKey
import PyProof.Rows.CallKw2
import HandS.Zip
import KE.GoesEnum
import HandS.ExcInit
import HandS.ExcField
import HandS.RaiseMore
import HandS.WordsExc
import HandS.Defaults
import PyProof.Rows.StrJoinMade
import HandS.TryOnly
import HandS.ExcIs
import HandS.Head0
import HandS.Head1
import HandS.Head2
import HandS.HeadEnd
import HandS.HeadHook1
import HandS.HeadHook2
import HandS.Head3
import KE.KNestM
set_option Elab.async false
set_option linter.all false
set_option maxRecDepth 100000
set_option maxHeartbeats 4000000
/-! PiA: a pure interpreter for a part of the language: data by value, lists owned or shared. -/
namespace Pi
open PySem

/-- data, by value -/
inductive D where
  | non | bl (b : Bool) | int (i : Int) | str (s : Str) | tup (xs : List D) | lst (xs : List D)
  deriving Inhabited

/-- a slot: nothing known; a value that is shared (never changed from now on); one that is owned (true: made in this def) -/
inductive Sl where
  | no | sh (d : D) | ow (l : Bool) (d : D)
  deriving Inhabited
abbrev Env := List Sl

/-- an error: its class by number, what it was made with -/
structure Exc where
  cls : Nat
  fld : Option (Str × D) := none

inductive Res (α : Type) where
  | ok (a : α) (env : Env) | ex (x : Exc) (env : Env) | bad
def Res.bind {α β : Type} (r : Res α) (f : α → Env → Res β) : Res β := match r with
  | .ok a env => f a env
  | .ex x env => .ex x env
  | .bad => .bad
@[simp] theorem Res.bind_ok {α β : Type} (a : α) (env : Env) (f : α → Env → Res β) : Res.bind (.ok a env) f = f a env := rfl
@[simp] theorem Res.bind_ex {α β : Type} (x : Exc) (env : Env) (f : α → Env → Res β) : Res.bind (.ex x env) f = .ex x env := rfl
@[simp] theorem Res.bind_bad {α β : Type} (f : α → Env → Res β) : Res.bind .bad f = .bad := rfl

/-- what a call hands back: the value, whether it is new, the parameters' slots behind it -/
inductive CRes where
  | ok (d : D) (fr : Bool) (ps : List Sl) | ex (x : Exc) | bad

inductive Bop where | add | sub | mul | fdiv | mod | pow
  deriving DecidableEq
inductive Cop where | eq | ne | lt | le | gt | ge | is | isnot | isin | notin
  deriving DecidableEq
inductive Ty where | int | bool | str | tuple | list
  deriving DecidableEq
inductive Bi where | len | abs | int | gcd | lcm | max | min | all | any | sum | list | tuple
  deriving DecidableEq
inductive ItK where | seq | range | enum | zip
  deriving DecidableEq
inductive Tg where | name (i : Nat) | tup (is : List Nat)

inductive E where
  | var (i : Nat)
  | con (d : D)
  | glo (i : Nat)
  | bin (o : Bop) (a b : E)
  | cmp (o : Cop) (a b : E)
  | neg (a : E)
  | not (a : E)
  | and (a b : E)
  | or (a b : E)
  | ite (c a b : E)
  | tup (es : List E)
  | lst (es : List E)
  | ix (a i : E)
  | cut (a lo hi : E)
  | rev (a : E)
  | bi (f : Bi) (es : List E)
  | isin (a : E) (ts : List Ty)
  | exis (i : Nat) (c : Nat)
  | call (f : Nat) (es : List E) (pm : List Nat)
  | call1 (f : Nat) (e : E)
  | lc (elt : E) (own : List Nat) (tg : Tg) (k : ItK) (es : List E) (conds : List E)
  | rng (t : Bool) (es : List E)
  | chn (o o' : Cop) (a b c : E)
  | idx (a b : E)
  | gdx (g : Nat) (e : E)
  | uniq (a : E)
  | sortk (a : E) (m : Nat)
  | lc2 (elt : E) (own : List Nat) (tg : Tg) (k : ItK) (es conds : List E) (tg1 : Tg) (k1 : ItK) (es1 conds1 : List E)

/-- statements of an except suite, expressions of it (i: the name of the error) -/
inductive XE where
  | con (d : D)
  | isin (c : Nat)
  | fld (f : Str)
  | tup (es : List XE)
  | ite (c a b : XE)
inductive XS where
  | asg (i : Nat) (e : XE)
inductive S where
  | asg (tg : Tg) (e : E)
  | par (is : List Nat) (es : List E)
  | set (x : Nat) (i e : E)
  | app (x : Nat) (e : E)
  | ext (x : Nat) (e : E)
  | aug (i : Nat) (o : Bop) (e : E)
  | expr (e : E)
  | ret (e : E)
  | retN
  | ite (c : E) (a b : List S)
  | whl (c : E) (b : List S)
  | fo (tg : Tg) (k : ItK) (es : List E) (b : List S)
  | pass
  | brk
  | cnt
  | raise (c : Nat)
  | raisE (c : Nat) (f : Str) (e : E)
  | tr (b : List S) (hs : List (Nat × Option Nat × List XS))

/-! ### operations on data -/
mutual
def D.eqb : D → D → Bool
  | .non, .non => true
  | .bl a, .bl b => a == b
  | .bl a, .int j => (if a then 1 else 0) == j
  | .int i, .bl b => i == (if b then 1 else 0)
  | .int i, .int j => i == j
  | .str x, .str y => x == y
  | .tup xs, .tup ys => D.eqbs xs ys
  | .lst xs, .lst ys => D.eqbs xs ys
  | _, _ => false
def D.eqbs : List D → List D → Bool
  | [], [] => true
  | x :: xs, y :: ys => D.eqb x y && D.eqbs xs ys
  | _, _ => false
end
mutual
def D.depth : D → Nat
  | .tup xs => D.depths xs + 1
  | .lst xs => D.depths xs + 1
  | _ => 0
def D.depths : List D → Nat
  | [] => 0
  | x :: xs => max (D.depth x) (D.depths xs)
end
def D.truth : D → Bool
  | .non => false
  | .bl b => b
  | .int i => i != 0
  | .str s => (s.length : Int) != 0
  | .tup xs => !xs.isEmpty
  | .lst xs => !xs.isEmpty

def mulOk (i j : Int) : Prop := i.natAbs.log2 + j.natAbs.log2 < 1000000 ∨ i.natAbs.log2 < 60 ∨ j.natAbs.log2 < 60
instance (i j : Int) : Decidable (mulOk i j) := inferInstanceAs (Decidable (_ ∨ _ ∨ _))
def divOk (j : Int) : Prop := 0 < j ∧ j.natAbs.log2 < 9000
instance (j : Int) : Decidable (divOk j) := inferInstanceAs (Decidable (_ ∧ _))

def opD : Bop → D → D → Option (D × Bool)
  | .add, .int i, .int j => some (.int (i + j), false)
  | .add, .tup xs, .tup ys => if xs.length + ys.length ≤ 100000 then some (.tup (xs ++ ys), false) else none
  | .add, .lst xs, .lst ys => if xs.length + ys.length ≤ 100000 then some (.lst (xs ++ ys), true) else none
  | .sub, .int i, .int j => some (.int (i - j), false)
  | .mul, .int i, .int j => if mulOk i j then some (.int (i * j), false) else none
  | .mul, .lst xs, .int j => if 0 ≤ j ∧ j ≤ 1000 ∧ xs.length ≤ 100 then some (.lst (List.replicate j.toNat xs).flatten, true) else none
  | .fdiv, .int i, .int j => if divOk j then some (.int (i / j), false) else if j < 0 ∧ j.natAbs.log2 < 9000 then some (.int (i.fdiv j), false) else none
  | .mod, .int i, .int j => if 0 < j then some (.int (i % j), false) else none
  | .pow, .int i, .int j => if 0 ≤ j ∧ j ≤ 1000 ∧ i.natAbs < 1000000 then some (.int (i ^ j.toNat), false) else none
  | _, _, _ => none

def cmpD : Cop → D → D → Option Bool
  | .eq, x, y => if x.depth ≤ 64 ∧ y.depth ≤ 64 then some (x.eqb y) else none
  | .ne, x, y => if x.depth ≤ 64 ∧ y.depth ≤ 64 then some (!x.eqb y) else none
  | .lt, .int i, .int j => some (decide (i < j))
  | .le, .int i, .int j => some (decide (i ≤ j))
  | .gt, .int i, .int j => some (decide (j < i))
  | .ge, .int i, .int j => some (decide (j ≤ i))
  | .is, .non, .non => some true
  | .is, .bl a, .bl b => some (a == b)
  | .is, _, .non => some false
  | .isnot, .non, .non => some false
  | .isnot, .bl a, .bl b => some (!(a == b))
  | .isnot, _, .non => some true
  | .is, .non, .bl _ => some false
  | .isnot, .non, .bl _ => some true
  | .isin, x, .lst ys => if x.depth ≤ 63 ∧ D.depths ys ≤ 63 then some (ys.any fun y => y.eqb x) else none
  | .notin, x, .lst ys => if x.depth ≤ 63 ∧ D.depths ys ≤ 63 then some (!ys.any fun y => y.eqb x) else none
  | .isin, x, .tup ys => if x.depth ≤ 63 ∧ D.depths ys ≤ 63 then some (ys.any fun y => y.eqb x) else none
  | .notin, x, .tup ys => if x.depth ≤ 63 ∧ D.depths ys ≤ 63 then some (!ys.any fun y => y.eqb x) else none
  | _, _, _ => none

def allInts : List D → Option (List Int)
  | [] => some []
  | .int i :: r => (allInts r).map (i :: ·)
  | _ :: _ => none
def allBls : List D → Option (List Bool)
  | [] => some []
  | .bl b :: r => (allBls r).map (b :: ·)
  | _ :: _ => none

def biD : Bi → List D → Option (D × Bool)
  | .len, [.lst xs] => some (.int xs.length, false)
  | .len, [.tup xs] => some (.int xs.length, false)
  | .abs, [.int i] => some (.int (if i < 0 then -i else i), false)
  | .int, [.int i] => some (.int i, false)
  | .int, [.bl b] => some (.int (if b then 1 else 0), false)
  | .gcd, [.int i, .int j] => some (.int (Nat.gcd i.natAbs j.natAbs : Nat), false)
  | .lcm, [.int i, .int j] => if i.natAbs.log2 < 9000 ∧ j.natAbs.log2 < 9000 then some (.int (Nat.lcm i.natAbs j.natAbs : Nat), false) else none
  | .max, [.int i, .int j] => some (.int (if i < j then j else i), false)
  | .min, [.int i, .int j] => some (.int (if j < i then j else i), false)
  | .all, [.lst xs] => (allBls xs).map fun bs => (.bl (bs.all id), false)
  | .any, [.lst xs] => (allBls xs).map fun bs => (.bl (bs.any id), false)
  | .sum, [.lst xs] => (allInts xs).map fun is => (.int is.sum, false)
  | .list, [.lst xs] => some (.lst xs, true)
  | .list, [.tup xs] => some (.lst xs, true)
  | .tuple, [.lst xs] => some (.tup xs, false)
  | .tuple, [.tup xs] => some (.tup xs, false)
  | _, _ => none

def idxD (xs : List D) (y : D) : Option (D × Bool) := if y.depth ≤ 63 ∧ D.depths xs ≤ 63 then (xs.findIdx? fun x => x.eqb y).map fun j => (.int (j : Nat), false) else none
def dicD (kvs : List (List Int × Int)) : D → Option (D × Bool)
  | .tup ds => (allInts ds).bind fun ks => (kvs.lookup ks).map fun v => (.int v, false)
  | _ => none
def ixD : D → D → Option D
  | .lst xs, .int i => L2.atI xs i
  | .tup xs, .int i => L2.atI xs i
  | _, _ => none
def cutL {α : Type} (xs : List α) (lo hi : Option Int) : List α := (xs.drop (HT.sIx xs.length 0 lo)).take (HT.sIx xs.length xs.length hi - HT.sIx xs.length 0 lo)
def cutD : D → Option Int → Option Int → Option (D × Bool)
  | .lst xs, a, b => some (.lst (cutL xs a b), true)
  | .tup xs, a, b => some (.tup (cutL xs a b), false)
  | _, _, _ => none
/-- each where it first stands -/
def uniqL : List D → List D → List D
  | acc, [] => acc
  | acc, d :: r => uniqL (if acc.any fun y => y.eqb d then acc else acc ++ [d]) r
def intTup : D → Option (List Int)
  | .tup ds => allInts ds
  | _ => none
def uniqD : D → Option (D × Bool)
  | .lst xs => if (xs.all fun d => (intTup d).isSome) = true ∧ xs.length ≤ 100000 then some (.lst (uniqL [] xs), true) else none
  | .tup xs => if (xs.all fun d => (intTup d).isSome) = true ∧ xs.length ≤ 100000 then some (.lst (uniqL [] xs), true) else none
  | _ => none
/-- number[0] * (m // number[1]) -/
def keyN (m : Int) : D → Option Int
  | .tup [.int t, .int b] => if divOk b ∧ mulOk t (m / b) then some (t * (m / b)) else none
  | _ => none
def sortN (m : Int) (xs : List D) : List D := xs.mergeSort fun x y => decide ((keyN m x).getD 0 ≤ (keyN m y).getD 0)
def sortkD (m : Int) : D → Option (D × Bool)
  | .lst xs => if (xs.all fun d => (keyN m d).isSome) = true ∧ xs.length ≤ 100000 then some (.lst (sortN m xs), true) else none
  | _ => none
def revD : D → Option (D × Bool)
  | .lst xs => some (.lst xs.reverse, true)
  | .tup xs => some (.tup xs.reverse, false)
  | _ => none

def tyD : D → Ty → Bool
  | .int _, .int => true
  | .bl _, .int => true
  | .bl _, .bool => true
  | .str _, .str => true
  | .tup _, .tuple => true
  | .lst _, .list => true
  | _, _ => false

def rangeD (lo : Int) (n : Nat) : List D := (List.range n).map fun (k : Nat) => D.int (lo + k)
def rngOk (i : Int) : Bool := decide (-(2 ^ 62) ≤ i) && decide (i < 2 ^ 62)
def iterD : ItK → List D → Option (List D)
  | .seq, [.lst xs] => some xs
  | .seq, [.tup xs] => some xs
  | .range, [.int n] => if rngOk n then some (rangeD 0 n.toNat) else none
  | .range, [.int a, .int b] => if rngOk a && rngOk b then some (rangeD a (b - a).toNat) else none
  | .enum, [.lst xs] => some ((List.range xs.length).zipWith (fun (k : Nat) x => D.tup [.int k, x]) xs)
  | .enum, [.tup xs] => some ((List.range xs.length).zipWith (fun (k : Nat) x => D.tup [.int k, x]) xs)
  | .zip, [.lst xs, .lst ys] => some (List.zipWith (fun x y => D.tup [x, y]) xs ys)
  | .zip, [.tup xs, .tup ys] => some (List.zipWith (fun x y => D.tup [x, y]) xs ys)
  | _, _ => none

/-- what an error may be made with -/
def fldOk : D → Bool
  | .int i => decide (-1 ≤ i) && decide (i < 1000000000)
  | .str s => decide (s.length ≤ 100000)
  | _ => false
/-! ### arguments -/
/-- an argument: a value, or a slot (its content is read when the operation is done) -/
inductive Arg where | val (d : D) | slot (i : Nat)
def Arg.peek (env : Env) : Arg → Option D
  | .val d => some d
  | .slot i => match env[i]? with
    | some (.sh d) => some d
    | some (.ow _ d) => some d
    | _ => none
def peeks (env : Env) : List Arg → Option (List D)
  | [] => some []
  | x :: xs => (x.peek env).bind fun d => (peeks env xs).map (d :: ·)
def argOf (e : E) (r : Res (D × Bool)) (env : Env) : Res Arg := match e with
  | .var i => match env[i]? with
    | some (.sh _) => .ok (.slot i) env
    | some (.ow _ _) => .ok (.slot i) env
    | _ => .bad
  | _ => r.bind fun d env' => .ok (.val d.1) env'
/-- a part of a slice: nothing, or an int -/
def partOf (e : E) (r : Res (D × Bool)) (env : Env) : Res (Option Int) := match e with
  | .con .non => .ok none env
  | _ => r.bind fun y e1 => match y.1 with
    | .int i => .ok (some i) e1
    | _ => .bad
def pureR {α : Type} (o : Option α) (env : Env) : Res α := match o with
  | some a => .ok a env
  | none => .bad
@[simp] theorem pureR_some {α : Type} (a : α) (env : Env) : pureR (some a) env = .ok a env := rfl
@[simp] theorem pureR_none {α : Type} (env : Env) : pureR (none : Option α) env = .bad := rfl

/-- what is walked is shared from then on -/
def shares : List Arg → Env → Env
  | [], env => env
  | .slot i :: r, env => match env[i]? with
    | some (.ow _ d) => shares r (env.set i (.sh d))
    | _ => shares r env
  | .val _ :: r, env => shares r env
/-- the items that are walked -/
def walkB (k : ItK) (xs : List Arg) (env : Env) : Res (List D) := match peeks env xs with
  | none => .bad
  | some ds => match iterD k ds with
    | none => .bad
    | some items => .ok items (shares xs env)
/-- the slots of the arguments of a call, what was taken from where -/
def takes : List (Arg × Bool) → Env → Option (List Sl × List (Option (Nat × Bool)) × Env)
  | [], env => some ([], [], env)
  | (.val d, _) :: r, env => (takes r env).map fun (a, t, e) => (.sh d :: a, none :: t, e)
  | (.slot i, b) :: r, env => match env[i]? with
    | some (.sh d) => (takes r env).map fun (a, t, e) => (.sh d :: a, none :: t, e)
    | some (.ow l d) => if b then (takes r (env.set i .no)).map fun (a, t, e) => (.ow false d :: a, some (i, l) :: t, e)
        else (takes r (env.set i (.sh d))).map fun (a, t, e) => (.sh d :: a, none :: t, e)
    | _ => none
def gives : List (Option (Nat × Bool)) → List Sl → Env → Env
  | some (i, l) :: t, .ow _ d :: ps, env => gives t ps (env.set i (.ow l d))
  | some (i, _) :: t, .sh d :: ps, env => gives t ps (env.set i (.sh d))
  | _ :: t, _ :: ps, env => gives t ps env
  | _, _, env => env

/-- a def: how many parameters, how many slots, which parameters are never stored, its body -/
structure Fn where
  np : Nat
  nl : Nat
  bor : List Bool
  body : List S
abbrev Table := List Fn

/-- storing -/
def storeT : List Nat → List D → Env → Option Env
  | [], [], env => some env
  | i :: is, d :: ds, env => if i < env.length then storeT is ds (env.set i (.sh d)) else none
  | _, _, _ => none
def Tg.slots : Tg → List Nat
  | .name i => [i]
  | .tup is => is
def Tg.store (tg : Tg) (d : D) (fr : Bool) (env : Env) : Option Env := match tg with
  | .name i => if i < env.length then some (env.set i (if fr then .ow true d else .sh d)) else none
  | .tup is => match d with
    | .tup ds => storeT is ds env
    | .lst ds => storeT is ds env
    | _ => none
def wipeE (env : Env) : List Nat → Env
  | [] => env
  | v :: vs => (wipeE env vs).set v .no
/-- the slots own as they stand in old -/
def backE (old env : Env) : List Nat → Env
  | [] => env
  | v :: vs => (backE old env vs).set v (old.getD v .no)

def lcLoop (f : D → Env → Res (Option D)) : List D → Env → List D → Res (List D)
  | [], env, acc => .ok acc env
  | x :: xs, env, acc => (f x env).bind fun o env' => match o with
    | some d => if acc.length < 100000 then lcLoop f xs env' (acc ++ [d]) else .bad
    | none => lcLoop f xs env' acc

/-- two clauses: what an item of the first one adds -/
def lcLoop2 (f : D → Env → List D → Res (List D)) : List D → Env → List D → Res (List D)
  | [], env, acc => .ok acc env
  | x :: xs, env, acc => (f x env acc).bind fun acc' env' => lcLoop2 f xs env' acc'
structure Lib where
  C : Nat → List Sl → CRes
  bor : Nat → List Bool
  con : Nat → Option D
  sub : Nat → Nat → Bool
  dic : Nat → Option (List (List Int × Int))

def doCall (L : Lib) (f : Nat) (xs : List Arg) (pm : List Nat) (env : Env) : Res (D × Bool) :=
  match takes ((pm.map fun k => xs.getD k (.val .non)).zip (L.bor f)) env with
  | none => .bad
  | some (args, t, env') => match L.C f args with
    | .ok d fr ps => .ok (d, fr) (gives t ps env')
    | .ex x => .ex x env'
    | .bad => .bad

/-- a call whose one argument is new: the callee may change it -/
def newCall (L : Lib) (f : Nat) (d : D) (env : Env) : Res (D × Bool) := match L.C f [.ow false d] with
  | .ok d fr _ => .ok (d, fr) env
  | .ex x => .ex x env
  | .bad => .bad

mutual
def eval (L : Lib) : E → Env → Res (D × Bool)
  | .var i, env => match env[i]? with
    | some (.sh d) => .ok (d, false) env
    | some (.ow _ d) => .ok (d, false) (env.set i (.sh d))
    | _ => .bad
  | .con d, env => .ok (d, false) env
  | .glo i, env => pureR ((L.con i).map fun d => (d, false)) env
  | .bin o a b, env => (argOf a (eval L a env) env).bind fun x env1 => (argOf b (eval L b env1) env1).bind fun y env2 =>
      pureR ((x.peek env2).bind fun d => (y.peek env2).bind fun e => opD o d e) env2
  | .cmp o a b, env => (argOf a (eval L a env) env).bind fun x env1 => (argOf b (eval L b env1) env1).bind fun y env2 =>
      pureR ((x.peek env2).bind fun d => (y.peek env2).bind fun e => (cmpD o d e).map fun k => (.bl k, false)) env2
  | .neg a, env => (argOf a (eval L a env) env).bind fun x env1 => match x.peek env1 with
      | some (.int i) => .ok (.int (-i), false) env1
      | _ => .bad
  | .not a, env => (argOf a (eval L a env) env).bind fun x env1 => match x.peek env1 with
      | some d => .ok (.bl (!d.truth), false) env1
      | _ => .bad
  | .and a b, env => (eval L a env).bind fun x env1 => if x.1.truth then eval L b env1 else .ok (x.1, false) env1
  | .or a b, env => (eval L a env).bind fun x env1 => if x.1.truth then .ok (x.1, false) env1 else eval L b env1
  | .ite c a b, env => (argOf c (eval L c env) env).bind fun x env1 => match x.peek env1 with
      | some d => if d.truth then eval L a env1 else eval L b env1
      | _ => .bad
  | .tup es, env => (evals L es env).bind fun ds env1 => .ok (.tup ds, false) env1
  | .lst es, env => (evals L es env).bind fun ds env1 => .ok (.lst ds, true) env1
  | .ix a i, env => (argOf a (eval L a env) env).bind fun x env1 => (argOf i (eval L i env1) env1).bind fun y env2 =>
      pureR ((x.peek env2).bind fun d => (y.peek env2).bind fun e => (ixD d e).map fun r => (r, false)) env2
  | .cut a lo hi, env => (argOf a (eval L a env) env).bind fun x env1 => (partOf lo (eval L lo env1) env1).bind fun l env2 => (partOf hi (eval L hi env2) env2).bind fun h env3 =>
      pureR ((x.peek env3).bind fun d => cutD d l h) env3
  | .rev a, env => (argOf a (eval L a env) env).bind fun x env1 => pureR ((x.peek env1).bind revD) env1
  | .bi f es, env => (args L es env).bind fun xs env1 => pureR ((peeks env1 xs).bind fun ds => biD f ds) env1
  | .isin a ts, env => (argOf a (eval L a env) env).bind fun x env1 => pureR ((x.peek env1).map fun d => (.bl (ts.any (tyD d)), false)) env1
  | .exis _ _, _ => .bad
  | .call f es pm, env => (args L es env).bind fun xs env1 => doCall L f xs pm env1
  | .call1 f e, env => (eval L e env).bind fun d env1 => if d.2 = true ∧ L.bor f = [true] then newCall L f d.1 env1 else doCall L f [.val d.1] [0] env1
  | .lc elt own tg k es conds, env => ((args L es env).bind (walkB k)).bind fun items env1 =>
        match lcLoop (fun d e => match tg.store d false e with
            | none => .bad
            | some e1 => (holds L conds e1).bind fun b e2 => if b then (eval L elt e2).bind fun r e3 => .ok (some r.1) (wipeE e3 own) else .ok none (wipeE e2 own)) items (wipeE env1 own) [] with
        | .ok ds env2 => .ok (.lst ds, true) (backE env1 env2 own)
        | _ => .bad
  | .rng t es, env => (evals L es env).bind fun ds env1 => pureR ((iterD .range ds).bind fun items => if items.length ≤ 100000 then some (if t then (.tup items, false) else (.lst items, true)) else none) env1
  | .chn o o' a b c, env => (eval L a env).bind fun x env1 => (eval L b env1).bind fun y env2 => match cmpD o x.1 y.1 with
      | none => .bad
      | some false => .ok (.bl false, false) env2
      | some true => (eval L c env2).bind fun z env3 => pureR ((cmpD o' y.1 z.1).map fun k => (.bl k, false)) env3
  | .idx a b, env => (eval L a env).bind fun x env1 => match x.1 with
      | .lst xs => (eval L b env1).bind fun y env2 => pureR (idxD xs y.1) env2
      | _ => .bad
  | .uniq a, env => (argOf a (eval L a env) env).bind fun x env1 => pureR ((x.peek env1).bind uniqD) env1
  | .sortk a m, env => (argOf a (eval L a env) env).bind fun x env1 => match env1[m]? with
      | some (.sh (.int k)) => pureR ((x.peek env1).bind (sortkD k)) env1
      | _ => .bad
  | .lc2 elt own tg k es conds tg1 k1 es1 conds1, env => ((args L es env).bind (walkB k)).bind fun items env1 =>
        match lcLoop2 (fun d e acc => match tg.store d false e with
            | none => .bad
            | some e1 => (holds L conds e1).bind fun b e2 => if b then
                ((args L es1 e2).bind (walkB k1)).bind fun items1 e3 =>
                  (lcLoop (fun d e => match tg1.store d false e with
                    | none => .bad
                    | some e1 => (holds L conds1 e1).bind fun b e2 => if b then (eval L elt e2).bind fun r e3 => .ok (some r.1) (wipeE e3 tg1.slots) else .ok none (wipeE e2 tg1.slots)) items1 (wipeE e3 tg1.slots) acc).bind fun acc' e4 => .ok acc' (wipeE e4 own)
              else .ok acc (wipeE e2 own)) items (wipeE env1 own) [] with
        | .ok ds env2 => .ok (.lst ds, true) (backE env1 env2 own)
        | _ => .bad
  | .gdx g e, env => (eval L e env).bind fun x env1 => pureR ((L.dic g).bind fun kvs => dicD kvs x.1) env1
def evals (L : Lib) : List E → Env → Res (List D)
  | [], env => .ok [] env
  | e :: es, env => (eval L e env).bind fun d env1 => (evals L es env1).bind fun ds env2 => .ok (d.1 :: ds) env2
def args (L : Lib) : List E → Env → Res (List Arg)
  | [], env => .ok [] env
  | e :: es, env => (argOf e (eval L e env) env).bind fun x env1 => (args L es env1).bind fun xs env2 => .ok (x :: xs) env2
def holds (L : Lib) : List E → Env → Res Bool
  | [], env => .ok true env
  | e :: es, env => (argOf e (eval L e env) env).bind fun x env1 => match x.peek env1 with
      | some d => if d.truth then holds L es env1 else .ok false env1
      | _ => .bad
end

/-- the values and whether they are new -/
def evalsF (L : Lib) : List E → Env → Res (List (D × Bool))
  | [], env => .ok [] env
  | e :: es, env => (eval L e env).bind fun d env1 => (evalsF L es env1).bind fun ds env2 => .ok (d :: ds) env2
def storeF : List Nat → List (D × Bool) → Env → Option Env
  | [], [], env => some env
  | i :: is, (d, fr) :: ds, env => if i < env.length then storeF is ds (env.set i (if fr then .ow true d else .sh d)) else none
  | _, _, _ => none
inductive Fl where | nx | rt (d : D) (fr : Bool) | bk | ct
def whLoop (c : Env → Res Bool) (b : Env → Res Fl) : Nat → Env → Res Fl
  | 0, _ => .bad
  | n + 1, env => (c env).bind fun k env1 => if k then (b env1).bind fun f env2 => match f with
      | .nx => whLoop c b n env2
      | .ct => whLoop c b n env2
      | .bk => .ok .nx env2
      | .rt d fr => .ok (.rt d fr) env2
    else .ok .nx env1
def foLoop (b : D → Env → Res Fl) : List D → Env → Res Fl
  | [], env => .ok .nx env
  | x :: xs, env => (b x env).bind fun f env2 => match f with
      | .nx => foLoop b xs env2
      | .ct => foLoop b xs env2
      | .bk => .ok .nx env2
      | .rt d fr => .ok (.rt d fr) env2
/-- how many turns a while may take -/
def turns : Nat := 1000000000
mutual
def evalX (L : Lib) (x : Exc) : XE → Option D
  | .con d => some d
  | .isin c => if x.fld.isNone = true then some (.bl (L.sub x.cls c)) else none
  | .fld f => x.fld.bind fun p => if p.1 = f then some p.2 else none
  | .tup es => (evalXs L x es).map .tup
  | .ite c a b => (evalX L x c).bind fun d => if d.truth then evalX L x a else evalX L x b
def evalXs (L : Lib) (x : Exc) : List XE → Option (List D)
  | [] => some []
  | e :: es => (evalX L x e).bind fun d => (evalXs L x es).map (d :: ·)
end
def execX (L : Lib) (x : Exc) : List XS → Env → Res Fl
  | [], env => .ok .nx env
  | .asg i e :: r, env => match evalX L x e with
    | some d => if i < env.length then execX L x r (env.set i (.sh d)) else .bad
    | none => .bad
def catchX (L : Lib) (x : Exc) : List (Nat × Option Nat × List XS) → Env → Res Fl
  | [], env => .ex x env
  | (c, n, h) :: r, env => if L.sub x.cls c then
      match n with
      | none => execX L x h env
      | some i => if i < env.length then (execX L x h (env.set i .no)).bind fun f env1 => .ok f (env1.set i .no) else .bad
    else catchX L x r env

mutual
def exec (L : Lib) : S → Env → Res Fl
  | .asg tg e, env => (eval L e env).bind fun d env1 => (pureR (tg.store d.1 d.2 env1) env1).bind fun env2 _ => .ok .nx env2
  | .par is es, env => (evalsF L es env).bind fun ds env1 => (pureR (storeF is ds env1) env1).bind fun env2 _ => .ok .nx env2
  | .set x i e, env => (eval L e env).bind fun d env1 => match env1[x]? with
      | some (.ow _ _) => (argOf i (eval L i env1) env1).bind fun y env2 => match env2[x]? with
        | some (.ow l (.lst xs)) => match y.peek env2 with
          | some (.int k) => match L2.ixN xs.length k with
            | some j => .ok .nx (env2.set x (.ow l (.lst (xs.set j d.1))))
            | none => .bad
          | _ => .bad
        | _ => .bad
      | _ => .bad
  | .app x e, env => match env[x]? with
      | some (.ow _ (.lst _)) => (eval L e env).bind fun d env1 => match env1[x]? with
        | some (.ow l (.lst xs)) => if xs.length < 100000 then .ok .nx (env1.set x (.ow l (.lst (xs ++ [d.1])))) else .bad
        | _ => .bad
      | _ => .bad
  | .ext x e, env => match env[x]? with
      | some (.ow _ (.lst _)) => (eval L e env).bind fun d env1 => match env1[x]? with
        | some (.ow l (.lst xs)) => match d.1 with
          | .lst ys => if xs.length + ys.length ≤ 100000 then .ok .nx (env1.set x (.ow l (.lst (xs ++ ys)))) else .bad
          | _ => .bad
        | _ => .bad
      | _ => .bad
  | .aug i o e, env => match env[i]? with
      | some (.sh (.int a)) => (argOf e (eval L e env) env).bind fun y env1 => match y.peek env1 with
        | some (.int b) => match o with
          | .add => if i < env1.length then .ok .nx (env1.set i (.sh (.int (a + b)))) else .bad
          | .sub => if i < env1.length then .ok .nx (env1.set i (.sh (.int (a - b)))) else .bad
          | _ => .bad
        | _ => .bad
      | _ => .bad
  | .expr e, env => (eval L e env).bind fun _ env1 => .ok .nx env1
  | .ret e, env => match e with
    | .var i => match env[i]? with
      | some (.ow true d) => .ok (.rt d true) (env.set i .no)
      | some (.ow false d) => .ok (.rt d false) (env.set i (.sh d))
      | some (.sh d) => .ok (.rt d false) env
      | _ => .bad
    | _ => (eval L e env).bind fun d env1 => .ok (.rt d.1 d.2) env1
  | .retN, env => .ok (.rt .non false) env
  | .ite c a b, env => (argOf c (eval L c env) env).bind fun x env1 => match x.peek env1 with
      | some d => if d.truth then execs L a env1 else execs L b env1
      | _ => .bad
  | .whl c b, env => whLoop (fun e => (argOf c (eval L c e) e).bind fun x env1 => pureR ((x.peek env1).map D.truth) env1) (fun e => execs L b e) turns env
  | .fo tg k es b, env => ((args L es env).bind (walkB k)).bind fun items env1 => foLoop (fun d e => match tg.store d false e with
          | none => .bad
          | some e1 => execs L b e1) items env1
  | .pass, env => .ok .nx env
  | .brk, env => .ok .bk env
  | .cnt, env => .ok .ct env
  | .raise c, env => .ex ⟨c, none⟩ env
  | .raisE c f e, env => (eval L e env).bind fun d env1 => if fldOk d.1 then .ex ⟨c, some (f, d.1)⟩ env1 else .bad
  | .tr b hs, env => match execs L b env with
      | .ex x env1 => catchX L x hs env1
      | r => r
def execs (L : Lib) : List S → Env → Res Fl
  | [], env => .ok .nx env
  | s :: ss, env => (exec L s env).bind fun f env1 => match f with
      | .nx => execs L ss env1
      | f => .ok f env1
end

structure Pg where
  G : Table
  con : List D
  sub : List (List Bool)
  dic : List (List (List Int × Int))
def Pg.lib (P : Pg) (C : Nat → List Sl → CRes) : Lib where
  C := C
  bor := fun f => match P.G[f]? with | some fn => fn.bor | none => []
  con := fun i => P.con[i]?
  sub := fun a b => (P.sub.getD a []).getD b false
  dic := fun i => P.dic[i]?
/-- what is owned may be handed in where the parameter is never stored -/
def borOk : List Sl → List Bool → Bool
  | [], _ => true
  | .ow _ _ :: r, b :: bs => b && borOk r bs
  | .ow _ _ :: _, [] => false
  | .sh _ :: r, bs => borOk r bs.tail
  | .no :: r, bs => borOk r bs.tail
/-- how a body ends -/
def outF (np : Nat) : Res Fl → CRes
  | .ok (.rt d fr) env => if np ≤ env.length then .ok d fr (env.take np) else .bad
  | .ok .nx env => if np ≤ env.length then .ok .non false (env.take np) else .bad
  | .ok _ _ => .bad
  | .ex x _ => .ex x
  | .bad => .bad
def callF (P : Pg) : Nat → Nat → List Sl → CRes
  | 0, _, _ => .bad
  | n + 1, f, as => match P.G[f]? with
    | none => .bad
    | some fn => if as.length = fn.np ∧ borOk as fn.bor = true then
        outF fn.np (execs (P.lib (callF P n)) fn.body (as ++ List.replicate (fn.nl - fn.np) .no))
      else .bad
end Pi

set_option Elab.async false
set_option linter.all false
set_option maxRecDepth 100000
set_option maxHeartbeats 4000000
/-! PiB: how data lies in the abstract heap; what an evaluation may change. -/
namespace Pi
open PySem PySem.Spec PyProof.Rows L2

abbrev Sg := List (Option V)
mutual
/-- v is the datum d; no list in it lies at an address of U -/
inductive Rep (K : PySem.W.Frag) (U : Addr → Prop) (H : Hp) : V → D → Prop
  | non : Rep K U H .non .non
  | bl (b : Bool) : Rep K U H (.bl b) (.bl b)
  | int (i : Int) : Rep K U H (.int i) (.int i)
  | str (x : Str) (h : PyData.strOk x = true ∧ x.length ≤ 100000) : Rep K U H (.str x) (.str x)
  | tup {a : Addr} {xs : List V} {ds : List D} : SqT K H a xs → RepAll K U H xs ds → Rep K U H (.ref a) (.tup ds)
  | lst {a : Addr} {xs : List V} {ds : List D} : Rd H a (.lst xs) → ¬ U a → RepAll K U H xs ds → Rep K U H (.ref a) (.lst ds)
inductive RepAll (K : PySem.W.Frag) (U : Addr → Prop) (H : Hp) : List V → List D → Prop
  | nil : RepAll K U H [] []
  | cons {v : V} {vs : List V} {d : D} {ds : List D} : Rep K U H v d → RepAll K U H vs ds → RepAll K U H (v :: vs) (d :: ds)
end

/-- the tables of code objects that are known, each with the name of what is made there -/
class HasT where
  T : List (Addr × Str)
structure TabsIn (T : List (Addr × Str)) (H : Hp) : Prop where
  tabs : LamX.Tabs T H
abbrev TabsT [t : HasT] (H : Hp) : Prop := TabsIn t.T H
/-- no table -/
def NT (o : HO) : Prop := ∀ ps, o ≠ .tbl ps
theorem nt_lst {xs : List V} : NT (.lst xs) := fun _ z => by cases z
theorem nt_tup {xs : List V} : NT (.tup xs) := fun _ z => by cases z
theorem nt_frz {o : Obj} {x : HO} : NT (.frz o x) := fun _ z => by cases z
/-- all but lists stays: the tables do -/
theorem tabs_lst {T : List (Addr × Str)} {H H' : Hp} (k : ∀ b o, H b = some o → (∀ xs, o ≠ .lst xs) → H' b = some o) (h : LamX.Tabs T H) : LamX.Tabs T H' := fun p hp => by
  obtain ⟨ps, h1, h2, h3⟩ := h p hp
  refine ⟨ps, k _ _ h1 (fun xs z => by cases z), h2, fun pos cv hc => ?_⟩
  obtain ⟨c, e1, e2⟩ := h3 pos cv hc
  exact ⟨c, e1, k _ _ e2 fun xs z => by unfold LamX.CodeO at z; cases z⟩
theorem tabs_upd {T : List (Addr × Str)} {H : Hp} {a : Addr} {xs : List V} {o : HO} (e : H a = some (.lst xs)) (h : TabsIn T H) (ho : NT o) : TabsIn T (upd H a o) :=
  ⟨tabs_lst (fun b u eb n => by
    rw [upd_ne (fun z => n xs ?_)]
    · exact eb
    · rw [z, e] at eb; exact (Option.some.inj eb).symm) h.tabs⟩
theorem tabs_new {T : List (Addr × Str)} {H : Hp} {a : Addr} {o : HO} (e : H a = none) (h : TabsIn T H) (ho : NT o) : TabsIn T (upd H a o) :=
  ⟨h.tabs.ext fun b u eb => by rw [upd_ne (ne_of_none eb e)]; exact eb⟩
variable [HasT]
/-- O: what may change; U, U': the addresses that are owned -/
structure Tr (O U : Addr → Prop) (H : Hp) (U' : Addr → Prop) (H' : Hp) : Prop where
  keep : ∀ b o, H b = some o → ¬ O b → NT o → H' b = some o
  tab : TabsT H → TabsT H'
  live : ∀ b, H b ≠ none → H' b ≠ none
  sub : ∀ b, U' b → U b ∨ H b = none
  res : ∀ b, U b → ¬ O b → U' b
theorem Tr.refl (O U : Addr → Prop) (H : Hp) : Tr O U H U H := ⟨fun _ _ h _ _ => h, id, fun _ h => h, fun _ h => .inl h, fun _ h _ => h⟩

section
variable {K : PySem.W.Frag} {O U U' : Addr → Prop} {H H' : Hp}
mutual
theorem Rep.mono (t : Tr O U H U' H') (hO : ∀ a, O a → U a ∧ ∃ xs, H a = some (.lst xs)) : ∀ {v : V} {d : D}, Rep K U H v d → Rep K U' H' v d
  | _, _, .non => .non
  | _, _, .bl b => .bl b
  | _, _, .int i => .int i
  | _, _, .str x h => .str x h
  | _, _, .tup (a := a) hs ha => by
    refine .tup ?_ (RepAll.mono t hO ha)
    rcases hs with (h | ⟨o, h⟩) | h
    · refine .inl (.inl (t.keep _ _ h (fun z => ?_) nt_tup))
      obtain ⟨_, xs, e⟩ := hO _ z
      rw [h] at e; cases e
    · refine .inl (.inr ⟨o, t.keep _ _ h (fun z => ?_) nt_frz⟩)
      obtain ⟨_, xs, e⟩ := hO _ z
      rw [h] at e; cases e
    · exact .inr h
  | _, _, .lst (a := a) hs hu ha => by
    have nO : ¬ O a := fun z => hu (hO _ z).1
    refine .lst ?_ ?_ (RepAll.mono t hO ha)
    · rcases hs with h | ⟨o, h⟩
      · exact .inl (t.keep _ _ h nO nt_lst)
      · exact .inr ⟨o, t.keep _ _ h nO nt_frz⟩
    · intro z
      rcases t.sub _ z with z | z
      · exact hu z
      · rcases hs with h | ⟨o, h⟩ <;> (rw [h] at z; cases z)
theorem RepAll.mono (t : Tr O U H U' H') (hO : ∀ a, O a → U a ∧ ∃ xs, H a = some (.lst xs)) : ∀ {vs : List V} {ds : List D}, RepAll K U H vs ds → RepAll K U' H' vs ds
  | _, _, .nil => .nil
  | _, _, .cons h hs => .cons (Rep.mono t hO h) (RepAll.mono t hO hs)
end
end

def OwnRep (K : PySem.W.Frag) (U : Addr → Prop) (H : Hp) (a : Addr) : D → Prop
  | .lst ds => ∃ vs, H a = some (.lst vs) ∧ RepAll K U H vs ds
  | _ => False
theorem OwnRep.lst {K : PySem.W.Frag} {U : Addr → Prop} {H : Hp} {a : Addr} {d : D} (h : OwnRep K U H a d) : ∃ xs, H a = some (.lst xs) := by
  cases d <;> first | exact h.elim | (obtain ⟨vs, e, _⟩ := h; exact ⟨vs, e⟩)

/-- a is owned by a slot -/
def Own (σ : Sg) (env : Env) (a : Addr) : Prop := ∃ (i : Nat) (l : Bool) (d : D), env[i]? = some (.ow l d) ∧ σ[i]? = some (some (.ref a))

structure Gd (K : PySem.W.Frag) (F : Addr → Prop) (σ : Sg) (env : Env) (U : Addr → Prop) (H : Hp) : Prop where
  len : env.length = σ.length
  sh : ∀ (i : Nat) (d : D), env[i]? = some (.sh d) → ∃ v, σ[i]? = some (some v) ∧ Rep K U H v d
  ow : ∀ (i : Nat) (l : Bool) (d : D), env[i]? = some (.ow l d) → ∃ a, σ[i]? = some (some (.ref a)) ∧ U a ∧ OwnRep K U H a d ∧ (l = true → F a)
  inj : ∀ (i j : Nat) (l l' : Bool) (d d' : D) (a : Addr), env[i]? = some (.ow l d) → env[j]? = some (.ow l' d') → σ[i]? = some (some (.ref a)) → σ[j]? = some (some (.ref a)) → i = j
  live : ∀ b, U b → H b ≠ none
  frs : ∀ b, H b = none → F b
  tab : TabsT H
theorem Gd.hO {K F σ env U H} (g : Gd K F σ env U H) : ∀ a, Own σ env a → U a ∧ ∃ xs, H a = some (.lst xs) := fun a ⟨i, l, d, e, s⟩ => by
  obtain ⟨a', e1, u, o, _⟩ := g.ow i l d e
  rw [s] at e1
  cases e1
  exact ⟨u, o.lst⟩

structure Post (K : PySem.W.Frag) (F : Addr → Prop) (σ : Sg) (env : Env) (U : Addr → Prop) (H : Hp) (σ' : Sg) (env' : Env) (U' : Addr → Prop) (H' : Hp) : Prop where
  tr : Tr (Own σ env) U H U' H'
  good : Gd K F σ' env' U' H'
  own : ∀ b, Own σ' env' b → Own σ env b ∨ H b = none
theorem Post.refl {K F σ env U H} (g : Gd K F σ env U H) : Post K F σ env U H σ env U H := ⟨Tr.refl _ _ _, g, fun _ h => .inl h⟩
theorem Post.trans {K F σ env U H σ1 env1 U1 H1 σ2 env2 U2 H2} (g : Gd K F σ env U H) (p : Post K F σ env U H σ1 env1 U1 H1) (q : Post K F σ1 env1 U1 H1 σ2 env2 U2 H2) : Post K F σ env U H σ2 env2 U2 H2 := by
  have hn : ∀ b, H1 b = none → H b = none := fun b e => Classical.byContradiction fun z => p.tr.live b z e
  have nO : ∀ b o, H b = some o → ¬ Own σ env b → ¬ Own σ1 env1 b := fun b o e n z => by
    rcases p.own b z with y | y
    · exact n y
    · rw [e] at y; cases y
  refine ⟨⟨fun b o e n t => q.tr.keep b o (p.tr.keep b o e n t) (nO b o e n) t, fun h => q.tr.tab (p.tr.tab h), fun b e => q.tr.live b (p.tr.live b e), fun b u => ?_, fun b u n => ?_⟩, q.good, fun b o => ?_⟩
  · rcases q.tr.sub b u with z | z
    · exact p.tr.sub b z
    · exact .inr (hn b z)
  · refine q.tr.res b (p.tr.res b u n) ?_
    cases e : H b with
    | none => exact absurd e (g.live b u)
    | some o => exact nO b o e n
  · rcases q.own b o with z | z
    · exact p.own b z
    · exact .inr (hn b z)
theorem Post.rep {K F σ env U H σ' env' U' H'} (g : Gd K F σ env U H) (p : Post K F σ env U H σ' env' U' H') {v : V} {d : D} (r : Rep K U H v d) : Rep K U' H' v d := r.mono p.tr g.hO
theorem Post.reps {K F σ env U H σ' env' U' H'} (g : Gd K F σ env U H) (p : Post K F σ env U H σ' env' U' H') {v : List V} {d : List D} (r : RepAll K U H v d) : RepAll K U' H' v d := r.mono p.tr g.hO
theorem OwnRep.mono {K : PySem.W.Frag} {O U U' : Addr → Prop} {H H' : Hp} {a : Addr} (t : Tr O U H U' H') (hO : ∀ a, O a → U a ∧ ∃ xs, H a = some (.lst xs)) (n : ¬ O a) : ∀ {d : D}, OwnRep K U H a d → OwnRep K U' H' a d
  | .lst ds, ⟨vs, e, r⟩ => ⟨vs, t.keep _ _ e n nt_lst, r.mono t hO⟩

/-- a value that has come: shared, or (fr) a new list that nothing else holds -/
def VRep (K : PySem.W.Frag) (σ : Sg) (env' : Env) (U' : Addr → Prop) (H' H : Hp) (v : V) (d : D) : Bool → Prop
  | false => Rep K U' H' v d
  | true => ∃ a, v = .ref a ∧ U' a ∧ OwnRep K U' H' a d ∧ ¬ Own σ env' a ∧ H a = none

/-- the set without an address -/
def Wo (U : Addr → Prop) (a : Addr) : Addr → Prop := fun b => U b ∧ b ≠ a
section
variable {K : PySem.W.Frag} {F : Addr → Prop} {σ : Sg} {env env' : Env} {U U' : Addr → Prop} {H H' H0 : Hp} {a : Addr} {d : D}
mutual
theorem Rep.wo (a : Addr) : ∀ {v : V} {d : D}, Rep K U H v d → Rep K (Wo U a) H v d
  | _, _, .non => .non
  | _, _, .bl b => .bl b
  | _, _, .int i => .int i
  | _, _, .str x h => .str x h
  | _, _, .tup hs ha => .tup hs (RepAll.wo a ha)
  | _, _, .lst hs hu ha => .lst hs (fun z => hu z.1) (RepAll.wo a ha)
theorem RepAll.wo (a : Addr) : ∀ {vs : List V} {ds : List D}, RepAll K U H vs ds → RepAll K (Wo U a) H vs ds
  | _, _, .nil => .nil
  | _, _, .cons h hs => .cons (Rep.wo a h) (RepAll.wo a hs)
end
theorem OwnRep.wo (a : Addr) {b : Addr} : ∀ {d : D}, OwnRep K U H b d → OwnRep K (Wo U a) H b d
  | .lst _, ⟨vs, e, r⟩ => ⟨vs, e, r.wo a⟩
/-- what was owned is shared from now on -/
theorem OwnRep.share : ∀ {d : D}, OwnRep K U H a d → Rep K (Wo U a) H (.ref a) d
  | .lst _, ⟨vs, e, r⟩ => .lst (.inl e) (fun z => z.2 rfl) (r.wo a)
theorem Gd.wo (g : Gd K F σ env U H) (n : ¬ Own σ env a) : Gd K F σ env (Wo U a) H := by
  refine ⟨g.len, fun i d e => ?_, fun i l d e => ?_, g.inj, fun b u => g.live b u.1, g.frs, g.tab⟩
  · obtain ⟨v, e1, r⟩ := g.sh i d e
    exact ⟨v, e1, r.wo a⟩
  · obtain ⟨b, e1, u, o, f⟩ := g.ow i l d e
    exact ⟨b, e1, ⟨u, fun z => n (z ▸ ⟨i, l, d, e, e1⟩)⟩, o.wo a, f⟩
/-- a new owned value is shared after all -/
theorem Post.drop (g : Gd K F σ env U H) (p : Post K F σ env U H σ env' U' H') (n : ¬ Own σ env' a) (hn : H a = none) : Post K F σ env U H σ env' (Wo U' a) H' := by
  refine ⟨⟨p.tr.keep, p.tr.tab, p.tr.live, fun b u => p.tr.sub b u.1, fun b u o => ⟨p.tr.res b u o, fun z => g.live b u (z ▸ hn)⟩⟩, p.good.wo n, p.own⟩
theorem VRep.drop (g : Gd K F σ env U H) (p : Post K F σ env U H σ env' U' H') {v : V} {fr : Bool} (r : VRep K σ env' U' H' H v d fr) : ∃ U2, Post K F σ env U H σ env' U2 H' ∧ Rep K U2 H' v d := by
  cases fr with
  | false => exact ⟨U', p, r⟩
  | true =>
    obtain ⟨a, rfl, u, o, n, hn⟩ := r
    exact ⟨_, p.drop g n hn, o.share⟩
/-- a slot's list is shared from now on -/
theorem own_set {i : Nat} {s : Sl} (hs : ∀ l d, s ≠ .ow l d) {b : Addr} (h : Own σ (env.set i s) b) : Own σ env b := by
  obtain ⟨j, l, d, e, e1⟩ := h
  by_cases hj : i = j
  · subst hj
    by_cases hl : i < env.length
    · rw [List.getElem?_set_self hl] at e
      cases e
      exact absurd rfl (hs l d)
    · rw [List.getElem?_eq_none (by simpa using hl)] at e
      cases e
  · rw [List.getElem?_set_ne hj] at e
    exact ⟨j, l, d, e, e1⟩
theorem get_set_ow {i j : Nat} {s : Sl} {x : Sl} (h : (env.set i s)[j]? = some x) : (i = j ∧ x = s) ∨ (i ≠ j ∧ env[j]? = some x) := by
  by_cases hj : i = j
  · subst hj
    by_cases hl : i < env.length
    · rw [List.getElem?_set_self hl] at h
      cases h
      exact .inl ⟨rfl, rfl⟩
    · rw [List.getElem?_eq_none (by simpa using hl)] at h
      cases h
  · rw [List.getElem?_set_ne hj] at h
    exact .inr ⟨hj, h⟩
theorem Post.share {i : Nat} {l : Bool} (g : Gd K F σ env U H) (e : env[i]? = some (.ow l d)) : ∃ a, σ[i]? = some (some (.ref a)) ∧ Post K F σ env U H σ (env.set i (.sh d)) (Wo U a) H ∧ Rep K (Wo U a) H (.ref a) d := by
  obtain ⟨a, e1, u, o, f⟩ := g.ow i l d e
  have ha : Own σ env a := ⟨i, l, d, e, e1⟩
  refine ⟨a, e1, ⟨⟨fun _ _ h _ _ => h, id, fun _ h => h, fun b z => .inl z.1, fun b z n => ⟨z, fun y => n (y ▸ ha)⟩⟩, ⟨by simpa using g.len, fun j d' h => ?_, fun j l' d' h => ?_, fun j k l1 l2 d1 d2 b h1 h2 s1 s2 => ?_, fun b z => g.live b z.1, g.frs, g.tab⟩, fun b h => .inl (own_set (by simp) h)⟩, o.share⟩
  · rcases get_set_ow h with ⟨rfl, q⟩ | ⟨_, q⟩
    · cases q
      exact ⟨_, e1, o.share⟩
    · obtain ⟨v, e2, r⟩ := g.sh j d' q
      exact ⟨v, e2, r.wo a⟩
  · rcases get_set_ow h with ⟨_, q⟩ | ⟨nj, q⟩
    · cases q
    · obtain ⟨b, e2, u2, o2, f2⟩ := g.ow j l' d' q
      refine ⟨b, e2, ⟨u2, fun z => ?_⟩, o2.wo a, f2⟩
      subst z
      exact nj (g.inj i j l l' d d' b e q e1 e2)
  · rcases get_set_ow h1 with ⟨_, q⟩ | ⟨_, q1⟩
    · cases q
    · rcases get_set_ow h2 with ⟨_, q⟩ | ⟨_, q2⟩
      · cases q
      · exact g.inj j k _ _ _ _ b q1 q2 s1 s2
/-- an argument as it is read -/
inductive Pk (K : PySem.W.Frag) (U : Addr → Prop) (H : Hp) : V → D → Prop
  | sh {v : V} {d : D} (r : Rep K U H v d) : Pk K U H v d
  | ow {a : Addr} {d : D} (r : OwnRep K U H a d) : Pk K U H (.ref a) d
def AOk (K : PySem.W.Frag) (σ : Sg) (U : Addr → Prop) (H : Hp) (v : V) : Arg → Prop
  | .val d => Rep K U H v d
  | .slot i => σ[i]? = some (some v)
theorem AOk.mono {x : Arg} {v : V} (g : Gd K F σ env U H) (p : Post K F σ env U H σ env' U' H') (h : AOk K σ U H v x) : AOk K σ U' H' v x := by
  cases x with
  | val d => exact p.rep g h
  | slot i => exact h
theorem Gd.peek (g : Gd K F σ env U H) {x : Arg} {v : V} (h : AOk K σ U H v x) (e : x.peek env = some d) : Pk K U H v d := by
  cases x with
  | val d' => cases e; exact .sh h
  | slot i =>
    have h : σ[i]? = some (some v) := h
    simp only [Arg.peek] at e
    split at e
    · rename_i d' q
      cases e
      obtain ⟨v', e1, r⟩ := g.sh i _ q
      rw [h] at e1; cases e1
      exact .sh r
    · rename_i l d' q
      cases e
      obtain ⟨a, e1, _, o, _⟩ := g.ow i _ _ q
      rw [h] at e1; cases e1
      exact .ow o
    · cases e
theorem Pk.int {v : V} {i : Int} (h : Pk K U H v (.int i)) : v = .int i := by
  cases h with
  | sh r => cases r; rfl
  | ow r => exact r.elim
theorem Pk.bl {v : V} {i : Bool} (h : Pk K U H v (.bl i)) : v = .bl i := by
  cases h with
  | sh r => cases r; rfl
  | ow r => exact r.elim
theorem Pk.non {v : V} (h : Pk K U H v .non) : v = .non := by
  cases h with
  | sh r => cases r; rfl
  | ow r => exact r.elim
theorem Pk.str {v : V} {x : Str} (h : Pk K U H v (.str x)) : v = .str x := by
  cases h with
  | sh r => cases r; rfl
  | ow r => exact r.elim
theorem Pk.tup {v : V} {ds : List D} (h : Pk K U H v (.tup ds)) : ∃ a vs, v = .ref a ∧ SqT K H a vs ∧ RepAll K U H vs ds := by
  cases h with
  | sh r => cases r with | tup h1 h2 => exact ⟨_, _, rfl, h1, h2⟩
  | ow r => exact r.elim
theorem Pk.lst {v : V} {ds : List D} (h : Pk K U H v (.lst ds)) : ∃ a vs, v = .ref a ∧ Rd H a (.lst vs) ∧ RepAll K U H vs ds := by
  cases h with
  | sh r => cases r with | lst h1 _ h2 => exact ⟨_, _, rfl, h1, h2⟩
  | ow r => obtain ⟨vs, e, h2⟩ := r; exact ⟨_, vs, rfl, .inl e, h2⟩
theorem RepAll.length : ∀ {vs : List V} {ds : List D}, RepAll K U H vs ds → vs.length = ds.length
  | _, _, .nil => rfl
  | _, _, .cons _ t => congrArg (· + 1) (RepAll.length t)
theorem RepAll.get : ∀ {vs : List V} {ds : List D} {i : Nat} {d : D}, RepAll K U H vs ds → ds[i]? = some d → ∃ v, vs[i]? = some v ∧ Rep K U H v d
  | _, _, _, _, .nil, e => by simp at e
  | _, _, 0, _, .cons r _, e => by simp at e; subst e; exact ⟨_, rfl, r⟩
  | _, _, i + 1, d, .cons _ t, e => by
    obtain ⟨u, h1, h2⟩ := RepAll.get (i := i) (d := d) t (by simpa using e)
    exact ⟨u, by simpa using h1, h2⟩
theorem RepAll.getV : ∀ {vs : List V} {ds : List D} {i : Nat} {v : V}, RepAll K U H vs ds → vs[i]? = some v → ∃ d, ds[i]? = some d ∧ Rep K U H v d
  | _, _, _, _, .nil, e => by simp at e
  | _, _, 0, _, .cons r _, e => by simp at e; subst e; exact ⟨_, rfl, r⟩
  | _, _, i + 1, d, .cons _ t, e => by
    obtain ⟨u, h1, h2⟩ := RepAll.getV (i := i) (v := d) t (by simpa using e)
    exact ⟨u, by simpa using h1, h2⟩
theorem RepAll.append : ∀ {vs ws : List V} {ds es : List D}, RepAll K U H vs ds → RepAll K U H ws es → RepAll K U H (vs ++ ws) (ds ++ es)
  | _, _, _, _, .nil, q => q
  | _, _, _, _, .cons r t, q => .cons r (RepAll.append t q)
theorem RepAll.take : ∀ {vs : List V} {ds : List D} (n : Nat), RepAll K U H vs ds → RepAll K U H (vs.take n) (ds.take n)
  | _, _, 0, _ => .nil
  | _, _, _ + 1, .nil => .nil
  | _, _, n + 1, .cons r t => .cons r (RepAll.take n t)
theorem RepAll.drop : ∀ {vs : List V} {ds : List D} (n : Nat), RepAll K U H vs ds → RepAll K U H (vs.drop n) (ds.drop n)
  | _, _, 0, r => r
  | _, _, _ + 1, .nil => .nil
  | _, _, n + 1, .cons _ t => RepAll.drop n t
theorem RepAll.set {v : V} {d : D} (r : Rep K U H v d) : ∀ {vs : List V} {ds : List D} (i : Nat), RepAll K U H vs ds → RepAll K U H (vs.set i v) (ds.set i d)
  | _, _, _, .nil => .nil
  | _, _, 0, .cons _ t => .cons r t
  | _, _, i + 1, .cons q t => .cons q (RepAll.set r i t)
theorem RepAll.reverse : ∀ {vs : List V} {ds : List D}, RepAll K U H vs ds → RepAll K U H vs.reverse ds.reverse
  | _, _, .nil => .nil
  | _, _, .cons r t => by
    rw [List.reverse_cons, List.reverse_cons]
    exact (RepAll.reverse t).append (.cons r .nil)
/-! new objects -/
theorem Post.new {p : Addr} {o : HO} (g : Gd K F σ env U H) (hn : H p = none) (ho : NT o := by first | exact nt_tup | exact nt_lst | exact nt_frz) : Post K F σ env U H σ env U (upd H p o) ∧ ∀ b u, H b = some u → upd H p o b = some u := by
  have k : ∀ b u, H b = some u → upd H p o b = some u := fun b u e => by rw [upd_ne (ne_of_none e hn)]; exact e
  have t : Tr (Own σ env) U H U (upd H p o) := by
    refine ⟨fun b u e _ _ => k b u e, fun h => tabs_new hn h ho, fun b e => ?_, fun _ h => .inl h, fun _ h _ => h⟩
    cases q : H b with
    | none => exact absurd q e
    | some u => rw [k b u q]; simp
  refine ⟨⟨t, ⟨g.len, fun i d e => ?_, fun i l d e => ?_, g.inj, fun b u => t.live b (g.live b u), fun b e => g.frs b ?_, t.tab g.tab⟩, fun _ h => .inl h⟩, k⟩
  · obtain ⟨v, e1, r⟩ := g.sh i d e
    exact ⟨v, e1, r.mono t g.hO⟩
  · obtain ⟨a, e1, u, q, f⟩ := g.ow i l d e
    refine ⟨a, e1, u, ?_, f⟩
    cases d <;> first | exact q.elim | (obtain ⟨vs, e2, r⟩ := q; exact ⟨vs, k _ _ e2, r.mono t g.hO⟩)
  · cases q : H b with
    | none => rfl
    | some u => rw [k b u q] at e; cases e
theorem new_tup {p : Addr} {vs : List V} {ds : List D} (g : Gd K F σ env U H) (hn : H p = none) (r : RepAll K U H vs ds) :
    Post K F σ env U H σ env U (upd H p (.tup vs)) ∧ Rep K U (upd H p (.tup vs)) (.ref p) (.tup ds) := by
  obtain ⟨q, k⟩ := Post.new (o := .tup vs) g hn
  exact ⟨q, .tup (.inl (.inl upd_same)) (q.reps g r)⟩
/-- one address more -/
def Wi (U : Addr → Prop) (a : Addr) : Addr → Prop := fun b => U b ∨ b = a
mutual
theorem Rep.wi {p : Addr} (hn : H p = none) : ∀ {v : V} {d : D}, Rep K U H v d → Rep K (Wi U p) H v d
  | _, _, .non => .non
  | _, _, .bl b => .bl b
  | _, _, .int i => .int i
  | _, _, .str x h => .str x h
  | _, _, .tup hs ha => .tup hs (RepAll.wi hn ha)
  | _, _, .lst hs hu ha => .lst hs (fun z => by
      rcases z with z | z
      · exact hu z
      · subst z
        rcases hs with h | ⟨o, h⟩ <;> (rw [hn] at h; cases h)) (RepAll.wi hn ha)
theorem RepAll.wi {p : Addr} (hn : H p = none) : ∀ {vs : List V} {ds : List D}, RepAll K U H vs ds → RepAll K (Wi U p) H vs ds
  | _, _, .nil => .nil
  | _, _, .cons h hs => .cons (Rep.wi hn h) (RepAll.wi hn hs)
end
theorem new_lst {p : Addr} {vs : List V} {ds : List D} (g : Gd K F σ env U H) (hn : H p = none) (r : RepAll K U H vs ds) :
    Post K F σ env U H σ env (Wi U p) (upd H p (.lst vs)) ∧ VRep K σ env (Wi U p) (upd H p (.lst vs)) H (.ref p) (.lst ds) true := by
  have k : ∀ b u, H b = some u → upd H p (.lst vs) b = some u := fun b u e => by rw [upd_ne (ne_of_none e hn)]; exact e
  have t : Tr (Own σ env) U H (Wi U p) (upd H p (.lst vs)) := by
    refine ⟨fun b u e _ _ => k b u e, fun h => tabs_new hn h nt_lst, fun b e => ?_, fun b h => ?_, fun _ h _ => .inl h⟩
    · cases q : H b with
      | none => exact absurd q e
      | some u => rw [k b u q]; simp
    · rcases h with h | h
      · exact .inl h
      · subst h; exact .inr hn
  refine ⟨⟨t, ⟨g.len, fun i d e => ?_, fun i l d e => ?_, g.inj, fun b u => ?_, fun b e => g.frs b ?_, t.tab g.tab⟩, fun _ h => .inl h⟩, p, rfl, .inr rfl, ⟨vs, upd_same, r.mono t g.hO⟩, fun z => ?_, hn⟩
  · obtain ⟨v, e1, r⟩ := g.sh i d e
    exact ⟨v, e1, r.mono t g.hO⟩
  · obtain ⟨a, e1, u, q, f⟩ := g.ow i l d e
    refine ⟨a, e1, .inl u, ?_, f⟩
    cases d <;> first | exact q.elim | (obtain ⟨vs, e2, r⟩ := q; exact ⟨vs, k _ _ e2, r.mono t g.hO⟩)
  · rcases u with u | u
    · exact t.live b (g.live b u)
    · subst u; rw [upd_same]; simp
  · cases q : H b with
    | none => rfl
    | some u => rw [k b u q] at e; cases e
  · obtain ⟨_, xs, e⟩ := g.hO _ z
    rw [hn] at e; cases e
end
end Pi

set_option Elab.async false
set_option linter.all false
set_option maxRecDepth 100000
set_option maxHeartbeats 4000000
/-! PiC: the operations on values keep to the interpreter's. -/
namespace Pi
open PySem PySem.Spec PyProof.Rows L2
variable [HasT]

/-! ### data as the library's -/
mutual
def D.py : D → PyData
  | .non => .none
  | .bl b => .bool b
  | .int i => .int i
  | .str s => .str s
  | .tup xs => .tuple (D.pys xs)
  | .lst xs => .list (D.pys xs)
def D.pys : List D → List PyData
  | [] => []
  | x :: xs => x.py :: D.pys xs
end
mutual
theorem D.eqb_py : ∀ d e : D, d.eqb e = PyData.eqv d.py e.py
  | .non, e => by cases e <;> simp [D.eqb, D.py, PyData.eqv]
  | .bl b, e => by cases e <;> simp [D.eqb, D.py, PyData.eqv]
  | .int b, e => by cases e <;> simp [D.eqb, D.py, PyData.eqv]
  | .str b, e => by cases e <;> simp [D.eqb, D.py, PyData.eqv]
  | .tup xs, e => by cases e <;> simp [D.eqb, D.py, PyData.eqv, D.eqbs_py xs]
  | .lst xs, e => by cases e <;> simp [D.eqb, D.py, PyData.eqv, D.eqbs_py xs]
theorem D.eqbs_py : ∀ ds es : List D, D.eqbs ds es = PyData.eqvAll (D.pys ds) (D.pys es)
  | [], [] => by simp [D.eqbs, D.pys, PyData.eqvAll]
  | [], _ :: _ => by simp [D.eqbs, D.pys, PyData.eqvAll]
  | _ :: _, [] => by simp [D.eqbs, D.pys, PyData.eqvAll]
  | x :: xs, y :: ys => by simp [D.eqbs, D.pys, PyData.eqvAll, D.eqb_py x y, D.eqbs_py xs ys]
end
mutual
theorem D.depth_py : ∀ d : D, d.py.depth = d.depth
  | .non => by simp [D.py, D.depth, PyData.depth]
  | .bl b => by simp [D.py, D.depth, PyData.depth]
  | .int b => by simp [D.py, D.depth, PyData.depth]
  | .str b => by simp [D.py, D.depth, PyData.depth]
  | .tup xs => by simp [D.py, D.depth, PyData.depth, D.depths_py xs]
  | .lst xs => by simp [D.py, D.depth, PyData.depth, D.depths_py xs]
theorem D.depths_py : ∀ ds : List D, PyData.depthAll (D.pys ds) = D.depths ds
  | [] => by simp [D.pys, D.depths, PyData.depthAll]
  | x :: xs => by simp [D.pys, D.depths, PyData.depthAll, D.depth_py x, D.depths_py xs]
end
section
variable {K : PySem.W.Frag} {U : Addr → Prop} {H : Hp}
mutual
theorem Rep.dp : ∀ {v : V} {d : D}, Rep K U H v d → Dp K H v d.py ∧ d.py.canLay0 = true
  | _, _, .non => ⟨.non, rfl⟩
  | _, _, .bl b => ⟨.bl b, rfl⟩
  | _, _, .int i => ⟨.int i, rfl⟩
  | _, _, .str x h => ⟨.str x, by simpa [D.py, PyData.canLay0] using h.1⟩
  | _, _, .tup hs ha => ⟨by rw [D.py]; exact .tup hs (RepAll.dp ha).1, by rw [D.py, PyData.canLay0]; exact (RepAll.dp ha).2⟩
  | _, _, .lst hs _ ha => ⟨by rw [D.py]; exact .lst (.inl hs) (RepAll.dp ha).1, by rw [D.py, PyData.canLay0]; exact (RepAll.dp ha).2⟩
theorem RepAll.dp : ∀ {vs : List V} {ds : List D}, RepAll K U H vs ds → DpAll K H vs (D.pys ds) ∧ PyData.canLayAll0 (D.pys ds) = true
  | _, _, .nil => ⟨by rw [D.pys]; exact .nil, by rw [D.pys, PyData.canLayAll0]⟩
  | _, _, .cons h hs => ⟨by rw [D.pys]; exact .cons (Rep.dp h).1 (RepAll.dp hs).1, by rw [D.pys, PyData.canLayAll0, (Rep.dp h).2, (RepAll.dp hs).2]; rfl⟩
end
theorem Pk.dp {v : V} {d : D} (h : Pk K U H v d) : Dp K H v d.py ∧ d.py.canLay0 = true := by
  cases h with
  | sh r => exact r.dp
  | ow r =>
    cases d <;> first
      | exact r.elim
      | (obtain ⟨vs, e, q⟩ := r
         exact ⟨by rw [D.py]; exact .lst (.inl (.inl e)) q.dp.1, by rw [D.py, PyData.canLay0]; exact q.dp.2⟩)
theorem Pk.shaped {v : V} {d : D} (h : Pk K U H v d) (hd : d.depth ≤ 64) : SeqAt.shaped d.py = true := by
  unfold SeqAt.shaped
  rw [h.dp.2, D.depth_py]
  simpa using hd
end

/-! ### the fixed part of a derivation -/
structure Sx where
  K : PySem.W.Frag
  F : Addr → Prop
  W : WX
  XR : Exc → Value → Option Addr → (Addr → Prop) → Hp → Prop

/-- what stands behind an operation that gives o -/
def Kout (B : Sx) (σ : Sg) (env : Env) (U : Addr → Prop) (H : Hp) (o : Option (D × Bool)) (Q : VK) : Prop :=
  ∃ r fr, o = some (r, fr) ∧ ∀ v U' H', Post B.K B.F σ env U H σ env U' H' → VRep B.K σ env U' H' H v r fr → Q v H'
section
variable {B : Sx} {σ : Sg} {env : Env} {U : Addr → Prop} {H : Hp} {Q : VK}
theorem Kout.sc {o : Option (D × Bool)} (g : Gd B.K B.F σ env U H) (h : Kout B σ env U H o Q) {r : D} {v : V} (e : o = some (r, false)) (rep : Rep B.K U H v r) : Q v H := by
  obtain ⟨r', fr, e', q⟩ := h
  rw [e] at e'; cases e'
  exact q v U H (.refl g) rep
theorem Kout.tup {o : Option (D × Bool)} (g : Gd B.K B.F σ env U H) (h : Kout B σ env U H o Q) {ds : List D} {vs : List V} (e : o = some (.tup ds, false)) (rep : RepAll B.K U H vs ds) : ∀ p, H p = none → Q (.ref p) (upd H p (.tup vs)) := fun p hp => by
  obtain ⟨r', fr, e', q⟩ := h
  rw [e] at e'; cases e'
  obtain ⟨a, b⟩ := new_tup g hp rep
  exact q _ _ _ a b
theorem Kout.lst {o : Option (D × Bool)} (g : Gd B.K B.F σ env U H) (h : Kout B σ env U H o Q) {ds : List D} {vs : List V} (e : o = some (.lst ds, true)) (rep : RepAll B.K U H vs ds) : ∀ p, H p = none → Q (.ref p) (upd H p (.lst vs)) := fun p hp => by
  obtain ⟨r', fr, e', q⟩ := h
  rw [e] at e'; cases e'
  obtain ⟨a, b⟩ := new_lst g hp rep
  exact q _ _ _ a b
end
def r2 (B : Sx) (f : D → D → Option (D × Bool)) : R2 := fun x y H Q => ∃ σ env U d e, Gd B.K B.F σ env U H ∧ Pk B.K U H x d ∧ Pk B.K U H y e ∧ Kout B σ env U H (f d e) Q

def bopOf : Operator → Option Bop
  | .Add => some .add | .Sub => some .sub | .Mult => some .mul | .FloorDiv => some .fdiv | .Mod => some .mod | .Pow => some .pow
  | _ => none
def copOf : CmpOp → Cop
  | .Eq => .eq | .NotEq => .ne | .Lt => .lt | .LtE => .le | .Gt => .gt | .GtE => .ge | .Is => .is | .IsNot => .isnot | .In => .isin | .NotIn => .notin

theorem line100 : (100000 : Nat) ≤ sizeLine := by rw [sizeLine_eq]; decide
section
variable {X : Cx} {B : Sx}
/-- a list that is read, its object as it was made -/
theorem Inv.rdM {pins : List (Addr × Obj)} {σ : Sg} {H : Hp} {s : Shared} {l : Addr} {xs : List V} (I : Inv X pins σ H s) (hH : Rd H l (.lst xs)) :
    xs.length ≤ sizeLine ∧ ∃ (its : List Value) (n : Nat), Vals xs its ∧ xs.length = its.length ∧ s.heap.get? l = some { cls := .type "list", data := .seq its.toArray n } := by
  obtain ⟨z, its, n, r, e⟩ : xs.length ≤ sizeLine ∧ ∃ (its : List Value) (n : Nat), Vals xs its ∧ s.heap.get? l = some { cls := .type "list", data := .seq its.toArray n } := hH.ok I.hok
  exact ⟨z, its, n, r, r.length, e⟩
def rCatR : R2 := fun x y H Q => ∃ l b xs zs, x = .ref l ∧ y = .ref b ∧ Rd H l (.lst xs) ∧ Rd H b (.lst zs) ∧ xs.length + zs.length ≤ sizeLine ∧ ∀ p, H p = none → Q (.ref p) (upd H p (.lst (xs ++ zs)))
theorem op_catR : OpR X (binaryOp .Add) rCatR := by
  intro pins s σ H x y v u Q I rx ry h
  obtain ⟨l, b, xs, zs, rfl, rfl, hH, hB, hz, q⟩ := h
  cases rx
  cases ry
  obtain ⟨z, its, n, r, hl, e⟩ := Inv.rdM I hH
  obtain ⟨z2, its2, n2, r2, hl2, e2⟩ := Inv.rdM I hB
  refine PySem.P.add_list e e2 ?_ (by rw [List.size_toArray, List.size_toArray]; omega)
  have ea : its.toArray ++ its2.toArray = (its ++ its2).toArray := by simp
  rw [ea]
  exact ⟨.ref _, _, I.lnew (t' := s.toks) (r.append r2) (by rw [List.length_append]; omega), rfl, q _ I.fresh⟩

def rRepR : R2 := fun x y H Q => ∃ l k xs, x = .ref l ∧ y = .int k ∧ Rd H l (.lst xs) ∧ 0 ≤ k ∧ k ≤ 1000 ∧ xs.length ≤ 100 ∧ ∀ p, H p = none → Q (.ref p) (upd H p (.lst (List.replicate k.toNat xs).flatten))
theorem op_repR : OpR X (binaryOp .Mult) rRepR := by
  intro pins s σ H x y v u Q I rx ry h
  obtain ⟨l, k, xs, rfl, rfl, hH, h1, h2, hz, q⟩ := h
  cases rx
  obtain ⟨t, rfl⟩ := ry
  obtain ⟨z, its, n, r, hl, e⟩ := Inv.rdM I hH
  have hml : xs.length * k.toNat ≤ 100 * 1000 := Nat.mul_le_mul hz (by omega)
  have hsl := sizeLine_eq
  have hlen : its.toArray.size * k.toNat ≤ sizeLine := by rw [List.size_toArray, ← hl]; exact Nat.le_trans hml (by rw [hsl]; decide)
  have hcap : ¬ its.toArray.size * k.toNat > (2 ^ 63 - 1) / 8 := by rw [List.size_toArray, ← hl]; omega
  have hfit : ¬ (!Builtin.List.listFitsIndex k) = true := by
    rw [fitsIndex_both (k := k) (by omega) (by omega)]
    simp
  have hnew : List.foldl (fun x1 x2 => x1 ++ x2) #[] (List.replicate (if its.toArray.isEmpty = true then 0 else k.toNat) its.toArray) = (List.replicate k.toNat its).flatten.toArray := by
    have f0 : ∀ m : Nat, List.foldl (fun x1 x2 => x1 ++ x2) #[] (List.replicate m its.toArray) = (List.replicate m its).flatten.toArray := fun m => by simpa using foldl_rep its m []
    cases its with
    | nil => rw [f0]; simp
    | cons a r' => rw [if_neg (by simp), f0]
  have sl := notLongL hlen
  refine wpAny_binaryOp_repeat_ref (T := "list") (U := "int") (by decide) ⟨_, e, rfl⟩ (fun s' => typeIs_int s' k t) noFill_list_mul F.fills_int_mul
    F.slot_int_rmul repeat_list F.slot_int_index.lookup (call_meets F.slot_int_rmul (typeIs_int s k t) F.entry_int_rmul
      (F.args_int_rmul_2 _ _) (int___rmul___int_list k t l its.toArray n) ⟨e, rfl, ⟨_, e, rfl⟩,
        call_meets F.slot_list_mul ⟨_, e, rfl⟩ F.entry_list_mul (F.args_list_mul_2 _ _)
          (AutoListH.list___mul___list_int_3 l its.toArray n k t hfit hcap (by rw [sl]; simp)) ⟨e, ?_⟩⟩)
  rw [hnew]
  exact ⟨.ref _, _, I.lnew (t' := s.toks) (r.rep k.toNat) (by rw [PyProof.Rows.lm_len_rep_flat, Nat.mul_comm, hl, ← List.size_toArray]; exact hlen), rfl, q _ I.fresh⟩
theorem RepAll.rep {K : PySem.W.Frag} {U : Addr → Prop} {H : Hp} {vs : List V} {ds : List D} (h : RepAll K U H vs ds) : ∀ n : Nat, RepAll K U H (List.replicate n vs).flatten (List.replicate n ds).flatten
  | 0 => .nil
  | n + 1 => by
    rw [List.replicate_succ, List.replicate_succ, List.flatten_cons, List.flatten_cons]
    exact h.append (RepAll.rep h n)

theorem op_fdivL : OpR X (binaryOp .FloorDiv) (rI (fun _ j => j < 0 ∧ j.natAbs.log2 < 9000) fun i j => .int (i.fdiv j)) := opI fun i j _ _ _ _ _ hc q => floordiv_int (by have := hc.1; omega) q (.inl (PyProof.noPylong_of_log2 hc.2))
theorem mulOk_ok {i j : Int} (h : mulOk i j) : IntMulOk i j := by
  have b : ∀ x : Int, Builtin.Int.intBits x ≤ x.natAbs.log2 + 1 := fun x => by
    unfold Builtin.Int.intBits
    split <;> omega
  have h1 := b i
  have h2 := b j
  rcases h with h | h | h
  · exact L2.CMulW.ok h
  · exact IntMulOk.of_left (by omega)
  · exact IntMulOk.of_right (by omega)
theorem op_mulX {X : Cx} : OpR X (binaryOp .Mult) (rI mulOk fun i j => .int (i * j)) := opI fun _ _ _ _ _ _ _ hc q => mul_int q (mulOk_ok hc)
theorem sound_bop {op : Operator} {o : Bop} (ho : bopOf op = some o) (hK : X.K = B.K) : OpR X (binaryOp op) (r2 B (opD o)) := by
  intro pins s σ H x y v u Q I rx ry h
  obtain ⟨σ0, env, U, d, e, g, hd, he, k⟩ := h
  have key : ∀ {C : Int → Int → Prop} {gg : Int → Int → Int} (i j : Int), OpR X (binaryOp op) (rI C fun i j => .int (gg i j)) → d = .int i → e = .int j → C i j → opD o d e = some (.int (gg i j), false) →
      wpAny (model X.prog X.w) X.A (binaryOp op v u) (EP X pins σ Q) X.xe s := by
    intro C gg i j R e1 e2 c e3
    subst e1 e2
    exact R pins s σ H x y v u Q I rx ry ⟨i, j, hd.int, he.int, c, k.sc g e3 (.int _)⟩
  have key0 : ∀ {gg : Int → Int → Int} (i j : Int), OpR X (binaryOp op) (rI0 fun i j => .int (gg i j)) → d = .int i → e = .int j → opD o d e = some (.int (gg i j), false) →
      wpAny (model X.prog X.w) X.A (binaryOp op v u) (EP X pins σ Q) X.xe s := by
    intro gg i j R e1 e2 e3
    subst e1 e2
    exact R pins s σ H x y v u Q I rx ry ⟨i, j, hd.int, he.int, k.sc g e3 (.int _)⟩
  obtain ⟨r, fr, eo, _⟩ := id k
  cases op <;> cases ho
  · -- Add
    cases d <;> cases e <;> try (simp [opD] at eo)
    · exact key0 _ _ op_add rfl rfl (by simp [opD])
    · rename_i xs ys
      obtain ⟨hz, _, _⟩ := eo
      have e3 : opD .add (.tup xs) (.tup ys) = some (.tup (xs ++ ys), false) := by simp [opD, hz]
      obtain ⟨a, vs, rfl, h1, h2⟩ := hd.tup
      obtain ⟨b, ws, rfl, h3, h4⟩ := he.tup
      refine op_catA pins s σ H _ _ v u Q I rx ry ⟨a, b, vs, ws, rfl, rfl, hK ▸ h1, hK ▸ h3, by rw [h2.length, h4.length]; exact Nat.le_trans hz line100, fun e0 => ?_, fun _ e0 => ?_, fun _ _ => k.tup g e3 (h2.append h4)⟩
      · subst e0
        cases h2
        exact k.sc g e3 (.tup h3 h4)
      · subst e0
        cases h4
        exact k.sc g e3 (.tup h1 (by rw [List.append_nil]; exact h2))
    · rename_i xs ys
      obtain ⟨hz, _, _⟩ := eo
      have e3 : opD .add (.lst xs) (.lst ys) = some (.lst (xs ++ ys), true) := by simp [opD, hz]
      obtain ⟨a, vs, rfl, h1, h2⟩ := hd.lst
      obtain ⟨b, ws, rfl, h3, h4⟩ := he.lst
      exact op_catR pins s σ H _ _ v u Q I rx ry ⟨a, b, vs, ws, rfl, rfl, h1, h3, by rw [h2.length, h4.length]; exact Nat.le_trans hz line100, k.lst g e3 (h2.append h4)⟩
  · cases d <;> cases e <;> try (simp [opD] at eo)
    exact key0 _ _ op_sub rfl rfl (by simp [opD])
  · cases d <;> cases e <;> try (simp [opD] at eo)
    · rename_i i j
      obtain ⟨hm, _⟩ := eo
      exact key i j op_mulX rfl rfl hm (by simp [opD, hm])
    · rename_i xs j
      obtain ⟨hm, _⟩ := eo
      obtain ⟨a, vs, rfl, h1, h2⟩ := hd.lst
      have hj := he.int
      exact op_repR pins s σ H _ _ v u Q I rx ry ⟨a, j, vs, rfl, hj, h1, hm.1, hm.2.1, by rw [h2.length]; exact hm.2.2, k.lst g (by simp [opD, hm]) (h2.rep _)⟩
  · cases d <;> cases e <;> try (simp [opD] at eo)
    rename_i i j
    obtain ⟨hm, _⟩ := eo
    exact key i j op_mod rfl rfl hm (by simp [opD, hm])
  · cases d <;> cases e <;> try (simp [opD] at eo)
    rename_i i j
    obtain ⟨hm, _⟩ := eo
    refine key i j op_pow rfl rfl ⟨hm.1, ?_, ?_⟩ (by simp [opD, hm])
    · have := hm.2.1; omega
    · exact Nat.lt_of_lt_of_le hm.2.2 (by decide)
  · cases d <;> cases e <;> try (simp [opD] at eo)
    rename_i i j
    by_cases hm : divOk j
    · exact key i j op_fdivW rfl rfl hm (by simp [opD, hm])
    · by_cases hn : j < 0 ∧ j.natAbs.log2 < 9000
      · exact key i j op_fdivL rfl rfl hn (by simp [opD, hm, hn])
      · simp [opD, hm, hn] at eo

theorem is_non_bl {A : Around} {M : Model} {b : Bool} {Q : Value → Shared → Prop} {E : Value → Shared → Prop} {s : Shared} (h : Q (.bool false) s) : wpAny M A (compareOp .Is .none (.bool b)) Q E s := by
  exact wpAny_is_other rfl (fun z => nomatch z) h
theorem isnot_non_bl {A : Around} {M : Model} {b : Bool} {Q : Value → Shared → Prop} {E : Value → Shared → Prop} {s : Shared} (h : Q (.bool true) s) : wpAny M A (compareOp .IsNot .none (.bool b)) Q E s := by
  exact wpAny_isNot_other rfl (fun z => nomatch z) h

theorem Pk.nn {K : PySem.W.Frag} {U : Addr → Prop} {H : Hp} {v : V} {d : D} (h : Pk K U H v d) (n : d ≠ .non) : v ≠ .non := by
  intro e
  subst e
  cases h with
  | sh r => cases r; exact n rfl
theorem op_inT (hu : X.A.units + 65 < cLine) : OpR X (compareOp .In) (fun x y H Q => ∃ d ds, Dp X.K H x d ∧ Dp X.K H y (.tuple ds) ∧ SeqAt.shaped d = true ∧ SeqAt.shaped (.tuple ds) = true ∧ Q (.bl (ds.any fun z => PyData.eqv z d)) H) := by
  intro pins s σ H x y v u Q I rx ry h
  obtain ⟨d, ds, hd, he, sd, se, q⟩ := h
  obtain ⟨as, r1⟩ := Dp.reads I d x v hd rx
  obtain ⟨bs, r2⟩ := Dp.reads I (.tuple ds) y u he ry
  exact SeqAt.in_tuple_reads r2 r1 (SeqAt.canLay_of_shaped se) (SeqAt.canLay_of_shaped sd) (room_in_shaped sd hu) ⟨.bl _, H, I, rfl, q⟩
theorem op_notInT (hu : X.A.units + 65 < cLine) : OpR X (compareOp .NotIn) (fun x y H Q => ∃ d ds, Dp X.K H x d ∧ Dp X.K H y (.tuple ds) ∧ SeqAt.shaped d = true ∧ SeqAt.shaped (.tuple ds) = true ∧ Q (.bl (!ds.any fun z => PyData.eqv z d)) H) := by
  intro pins s σ H x y v u Q I rx ry h
  obtain ⟨d, ds, hd, he, sd, se, q⟩ := h
  obtain ⟨as, r1⟩ := Dp.reads I d x v hd rx
  obtain ⟨bs, r2⟩ := Dp.reads I (.tuple ds) y u he ry
  exact SeqAt.notIn_tuple_reads r2 r1 (SeqAt.canLay_of_shaped se) (SeqAt.canLay_of_shaped sd) (room_in_shaped sd hu) ⟨.bl _, H, I, rfl, q⟩
theorem sound_cop (op : CmpOp) (hK : X.K = B.K) (hu : X.A.units + 65 < cLine) : OpR X (compareOp op) (r2 B fun d e => (cmpD (copOf op) d e).map fun k => (.bl k, false)) := by
  intro pins s σ H x y v u Q I rx ry h
  obtain ⟨σ0, env, U, d, e, g, hd, he, k⟩ := h
  obtain ⟨r, fr, eo, _⟩ := id k
  replace eo : (cmpD (copOf op) d e).map (fun k => (D.bl k, false)) = some (r, fr) := eo
  have fin : ∀ b, cmpD (copOf op) d e = some b → Q (.bl b) H := fun b eb => k.sc g (by show Option.map _ (cmpD (copOf op) d e) = _; rw [eb]; rfl) (.bl b)
  have keyI : ∀ {gg : Int → Int → Bool} (i j : Int), OpR X (compareOp op) (rI0 fun i j => .bl (gg i j)) → d = .int i → e = .int j → cmpD (copOf op) d e = some (gg i j) →
      wpAny (model X.prog X.w) X.A (compareOp op v u) (EP X pins σ Q) X.xe s := by
    intro gg i j R e1 e2 e3
    have f := fin _ e3
    subst e1 e2
    exact R pins s σ H x y v u Q I rx ry ⟨i, j, hd.int, he.int, f⟩
  have hu' : X.A.units + 64 < cLine := by omega
  cases op
  case Eq =>
    simp only [copOf, cmpD] at eo fin
    split at eo
    · rename_i hc
      refine op_eqD hu' pins s σ H x y v u Q I rx ry ⟨d.py, e.py, hK ▸ hd.dp.1, hK ▸ he.dp.1, hd.shaped hc.1, he.shaped hc.2, ?_⟩
      rw [← D.eqb_py]
      exact fin _ (by rw [if_pos hc])
    · simp at eo
  case NotEq =>
    simp only [copOf, cmpD] at eo fin
    split at eo
    · rename_i hc
      refine op_neD hu' pins s σ H x y v u Q I rx ry ⟨d.py, e.py, hK ▸ hd.dp.1, hK ▸ he.dp.1, hd.shaped hc.1, he.shaped hc.2, ?_⟩
      rw [← D.eqb_py]
      exact fin _ (by rw [if_pos hc])
    · simp at eo
  case Lt =>
    cases d <;> cases e <;> try (simp [copOf, cmpD] at eo)
    exact keyI _ _ op_lt rfl rfl (by simp [copOf, cmpD])
  case LtE =>
    cases d <;> cases e <;> try (simp [copOf, cmpD] at eo)
    exact keyI _ _ op_le rfl rfl (by simp [copOf, cmpD])
  case Gt =>
    cases d <;> cases e <;> try (simp [copOf, cmpD] at eo)
    exact keyI _ _ op_gt rfl rfl (by simp [copOf, cmpD])
  case GtE =>
    cases d <;> cases e <;> try (simp [copOf, cmpD] at eo)
    exact keyI _ _ op_ge rfl rfl (by simp [copOf, cmpD])
  case Is =>
    cases e with
    | non =>
      have ev := he.non
      subst ev
      refine op_isN pins s σ H x .non v u Q I rx ry ⟨rfl, ?_⟩
      cases d with
      | non => rw [hd.non]; exact fin true (by simp [copOf, cmpD])
      | _ => rw [decide_eq_false (hd.nn (by simp))]; exact fin false (by simp [copOf, cmpD])
    | bl b =>
      cases d with
      | bl c =>
        refine op_isBl pins s σ H x y v u Q I rx ry ⟨c, b, hd.bl, he.bl, ?_⟩
        have := fin (c == b) (by simp [copOf, cmpD])
        rwa [show decide (c = b) = (c == b) by cases c <;> cases b <;> rfl]
      | non =>
        have e1 := hd.non
        have e2 := he.bl
        subst e1 e2
        cases rx; cases ry
        exact is_non_bl ⟨.bl false, H, I, rfl, fin false (by simp [copOf, cmpD])⟩
      | _ => simp [copOf, cmpD] at eo
    | _ => cases d <;> simp [copOf, cmpD] at eo
  case IsNot =>
    cases e with
    | non =>
      have ev := he.non
      subst ev
      refine op_notN pins s σ H x .non v u Q I rx ry ⟨rfl, ?_⟩
      cases d with
      | non => rw [hd.non]; exact fin false (by simp [copOf, cmpD])
      | _ => rw [decide_eq_false (hd.nn (by simp))]; exact fin true (by simp [copOf, cmpD])
    | bl b =>
      cases d with
      | bl c =>
        refine op_notBl pins s σ H x y v u Q I rx ry ⟨c, b, hd.bl, he.bl, ?_⟩
        have := fin (!(c == b)) (by simp [copOf, cmpD])
        rwa [show decide (c = b) = (c == b) by cases c <;> cases b <;> rfl]
      | non =>
        have e1 := hd.non
        have e2 := he.bl
        subst e1 e2
        cases rx; cases ry
        exact isnot_non_bl ⟨.bl true, H, I, rfl, fin true (by simp [copOf, cmpD])⟩
      | _ => simp [copOf, cmpD] at eo
    | _ => cases d <;> simp [copOf, cmpD] at eo
  case In =>
    cases e with
    | lst ys =>
      simp only [copOf, cmpD] at eo fin
      split at eo
      · rename_i hc
        have hl : (D.lst ys).depth ≤ 64 := by rw [D.depth]; omega
        refine op_inD hu pins s σ H x y v u Q I rx ry ⟨d.py, D.pys ys, hK ▸ hd.dp.1, ?_, hd.shaped (by omega), ?_, ?_⟩
        · have := he.dp.1; rw [D.py] at this; exact hK ▸ this
        · have := he.shaped hl; rwa [D.py] at this
        · have e2 : ((D.pys ys).any fun z => PyData.eqv z d.py) = ys.any fun y => y.eqb d := by
            clear hl fin eo hc k he
            induction ys with
            | nil => simp [D.pys]
            | cons y ys ih => simp [D.pys, ih, D.eqb_py]
          rw [e2]
          exact fin _ (by rw [if_pos hc])
      · simp at eo
    | tup ys =>
      simp only [copOf, cmpD] at eo fin
      split at eo
      · rename_i hc
        have hl : (D.tup ys).depth ≤ 64 := by rw [D.depth]; omega
        refine op_inT hu pins s σ H x y v u Q I rx ry ⟨d.py, D.pys ys, hK ▸ hd.dp.1, ?_, hd.shaped (by omega), ?_, ?_⟩
        · have := he.dp.1; rw [D.py] at this; exact hK ▸ this
        · have := he.shaped hl; rwa [D.py] at this
        · have e2 : ((D.pys ys).any fun z => PyData.eqv z d.py) = ys.any fun y => y.eqb d := by
            clear hl fin eo hc k he
            induction ys with
            | nil => simp [D.pys]
            | cons y ys ih => simp [D.pys, ih, D.eqb_py]
          rw [e2]
          exact fin _ (by rw [if_pos hc])
      · simp at eo
    | _ => simp [copOf, cmpD] at eo
  case NotIn =>
    cases e with
    | lst ys =>
      simp only [copOf, cmpD] at eo fin
      split at eo
      · rename_i hc
        have hl : (D.lst ys).depth ≤ 64 := by rw [D.depth]; omega
        refine op_notInD hu pins s σ H x y v u Q I rx ry ⟨d.py, D.pys ys, hK ▸ hd.dp.1, ?_, hd.shaped (by omega), ?_, ?_⟩
        · have := he.dp.1; rw [D.py] at this; exact hK ▸ this
        · have := he.shaped hl; rwa [D.py] at this
        · have e2 : ((D.pys ys).any fun z => PyData.eqv z d.py) = ys.any fun y => y.eqb d := by
            clear hl fin eo hc k he
            induction ys with
            | nil => simp [D.pys]
            | cons y ys ih => simp [D.pys, ih, D.eqb_py]
          rw [e2]
          exact fin _ (by rw [if_pos hc])
      · simp at eo
    | tup ys =>
      simp only [copOf, cmpD] at eo fin
      split at eo
      · rename_i hc
        have hl : (D.tup ys).depth ≤ 64 := by rw [D.depth]; omega
        refine op_notInT hu pins s σ H x y v u Q I rx ry ⟨d.py, D.pys ys, hK ▸ hd.dp.1, ?_, hd.shaped (by omega), ?_, ?_⟩
        · have := he.dp.1; rw [D.py] at this; exact hK ▸ this
        · have := he.shaped hl; rwa [D.py] at this
        · have e2 : ((D.pys ys).any fun z => PyData.eqv z d.py) = ys.any fun y => y.eqb d := by
            clear hl fin eo hc k he
            induction ys with
            | nil => simp [D.pys]
            | cons y ys ih => simp [D.pys, ih, D.eqb_py]
          rw [e2]
          exact fin _ (by rw [if_pos hc])
      · simp at eo
    | _ => simp [copOf, cmpD] at eo
end
end Pi

set_option Elab.async false
set_option linter.all false
set_option maxRecDepth 100000
set_option maxHeartbeats 4000000
/-! PiD: expressions keep to the interpreter. -/
namespace Pi
open PySem PySem.Spec PyProof.Rows L2
variable [HasT]

/-- what is wanted behind r -/
def Wp (B : Sx) (σ : Sg) (env : Env) (U : Addr → Prop) (H : Hp) {α : Type} (r : Res α) (P : α → Env → (Addr → Prop) → Hp → Prop) : Prop := match r with
  | .ok a env' => ∀ U' H', Post B.K B.F σ env U H σ env' U' H' → P a env' U' H'
  | .ex x env' => ∀ U' H' c dx, Post B.K B.F σ env U H σ env' U' H' → B.XR x c dx U' H' → B.W c dx σ H'
  | .bad => False
section
variable {B : Sx} {σ : Sg} {env : Env} {U : Addr → Prop} {H : Hp} {α β : Type}
theorem Wp.bind {r : Res α} {f : α → Env → Res β} {P : β → Env → (Addr → Prop) → Hp → Prop} (g : Gd B.K B.F σ env U H) (h : Wp B σ env U H (r.bind f) P) :
    Wp B σ env U H r fun a env1 U1 H1 => Wp B σ env1 U1 H1 (f a env1) P := by
  cases r with
  | bad => exact h
  | ex x env1 => exact h
  | ok a env1 =>
    intro U1 H1 p1
    have h : Wp B σ env U H (f a env1) P := h
    generalize f a env1 = q at h
    cases q with
    | bad => exact h
    | ok b env2 => exact fun U2 H2 p2 => h U2 H2 (p1.trans g p2)
    | ex x env2 => exact fun U2 H2 c dx p2 => h U2 H2 c dx (p1.trans g p2)
theorem Wp.imp {r : Res α} {P P' : α → Env → (Addr → Prop) → Hp → Prop} (h : Wp B σ env U H r P) (k : ∀ a env' U' H', r = .ok a env' → Post B.K B.F σ env U H σ env' U' H' → P a env' U' H' → P' a env' U' H') : Wp B σ env U H r P' := by
  cases r with
  | bad => exact h
  | ex x env1 => exact h
  | ok a env1 => exact fun U1 H1 p1 => k a env1 U1 H1 rfl p1 (h U1 H1 p1)
theorem Wp.ok {a : α} {P : α → Env → (Addr → Prop) → Hp → Prop} (g : Gd B.K B.F σ env U H) (h : Wp B σ env U H (.ok a env) P) : P a env U H := h U H (.refl g)
theorem Wp.pure {o : Option α} {P : α → Env → (Addr → Prop) → Hp → Prop} (h : Wp B σ env U H (pureR o env) P) : ∃ a, o = some a ∧ Wp B σ env U H (.ok a env) P := by
  cases o with
  | none => exact h.elim
  | some a => exact ⟨a, rfl, h⟩
end
theorem Post.trans' {K F σ env U H σ1 env1 U1 H1 σ2 env2 U2 H2} (g : Gd K F σ env U H) (p : Post K F σ env U H σ1 env1 U1 H1) (q : Post K F σ1 env1 U1 H1 σ2 env2 U2 H2) : Post K F σ env U H σ2 env2 U2 H2 := Post.trans g p q

/-- the readings -/
def rdE (B : Sx) (L : Lib) (e : E) : TE := fun σ H Q => ∃ env U, Gd B.K B.F σ env U H ∧ Wp B σ env U H (eval L e env) fun x env' U' H' => ∀ v, VRep B.K σ env' U' H' H v x.1 x.2 → Q v H'
def rdA (B : Sx) (L : Lib) (e : E) : TE := fun σ H Q => ∃ env U, Gd B.K B.F σ env U H ∧ Wp B σ env U H (argOf e (eval L e env) env) fun x env' U' H' => ∀ v, AOk B.K σ U' H' v x → Q v H'
inductive AOks (K : PySem.W.Frag) (σ : Sg) (U : Addr → Prop) (H : Hp) : List V → List Arg → Prop
  | nil : AOks K σ U H [] []
  | cons {v : V} {vs : List V} {x : Arg} {xs : List Arg} : AOk K σ U H v x → AOks K σ U H vs xs → AOks K σ U H (v :: vs) (x :: xs)
def rdAs (B : Sx) (L : Lib) (es : List E) : TA := fun σ H Q => ∃ env U, Gd B.K B.F σ env U H ∧ Wp B σ env U H (args L es env) fun xs env' U' H' => ∀ vs, AOks B.K σ U' H' vs xs → Q vs H'
def rdEs (B : Sx) (L : Lib) (es : List E) : TA := fun σ H Q => ∃ env U, Gd B.K B.F σ env U H ∧ Wp B σ env U H (evals L es env) fun ds env' U' H' => ∀ vs, RepAll B.K U' H' vs ds → Q vs H'
/-- a test: P is told of the heap alone -/
def tst (L : Lib) (e : E) (env : Env) : Res Bool := (argOf e (eval L e env) env).bind fun x env1 => pureR ((x.peek env1).map D.truth) env1
def rdT (B : Sx) (L : Lib) (e : E) : TT := fun σ H Q => ∃ env U, Gd B.K B.F σ env U H ∧ Wp B σ env U H (tst L e env) fun k _ _ H' => Q k H'

theorem _root_.L2.PE.imp {X : Cx} {e : Expr} {t t' : TE} (h : PE X e t) (k : ∀ σ H Q, t' σ H Q → t σ H Q) : PE X e t' := ⟨fun pins s σ H Q I hw => h.run pins s σ H Q I (k σ H Q hw)⟩
theorem _root_.L2.PA.imp {X : Cx} {e : List Expr} {t t' : TA} (h : PA X e t) (k : ∀ σ H Q, t' σ H Q → t σ H Q) : PA X e t' := ⟨fun pos pins s σ H Q I hw => h.run pos pins s σ H Q I (k σ H Q hw)⟩
theorem _root_.L2.PT.imp {X : Cx} {e : Expr} {t t' : TT} (h : PT X e t) (k : ∀ σ H Q, t' σ H Q → t σ H Q) : PT X e t' := ⟨fun pins s σ H Q I hw => h.run pins s σ H Q I (k σ H Q hw)⟩
theorem _root_.L2.PW.imp {X : Cx} {e : Expr} {t t' : TT} (h : PW X e t) (k : ∀ σ H Q, t' σ H Q → t σ H Q) : PW X e t' := ⟨fun wh pins s σ H Q I hw => h.run wh pins s σ H Q I (k σ H Q hw)⟩

section
variable {B : Sx} {L : Lib} {σ : Sg} {env : Env} {U : Addr → Prop} {H : Hp} {K : PySem.W.Frag}
theorem AOks.mono {F : Addr → Prop} {env' : Env} {U' : Addr → Prop} {H' : Hp} (g : Gd K F σ env U H) (p : Post K F σ env U H σ env' U' H') : ∀ {vs : List V} {xs : List Arg}, AOks K σ U H vs xs → AOks K σ U' H' vs xs
  | _, _, .nil => .nil
  | _, _, .cons h t => .cons (h.mono g p) (AOks.mono g p t)
theorem Gd.peeks {F : Addr → Prop} (g : Gd K F σ env U H) : ∀ {vs : List V} {xs : List Arg} {ds : List D}, AOks K σ U H vs xs → peeks env xs = some ds → Paired (Pk K U H) vs ds
  | _, _, _, .nil, e => by simp only [Pi.peeks] at e; cases e; exact .nil
  | _, _, _, .cons (x := x) (xs := xs) h t, e => by
    simp only [Pi.peeks] at e
    cases e1 : x.peek env with
    | none => rw [e1] at e; cases e
    | some d =>
      rw [e1] at e
      cases e2 : Pi.peeks env xs with
      | none => rw [e2] at e; cases e
      | some ds =>
        rw [e2] at e
        cases e
        exact .cons (g.peek h e1) (Gd.peeks g t e2)
theorem VRep.rep0 {env' : Env} {U' : Addr → Prop} {H' : Hp} {v : V} {d : D} {fr : Bool} (r : VRep K σ env' U' H' H v d fr) : Pk K U' H' v d := by
  cases fr with
  | false => exact .sh r
  | true =>
    obtain ⟨a, rfl, _, o, _⟩ := r
    exact .ow o
theorem Pk.truth {v : V} {d : D} (h : Pk K U H v d) : TruV K v H d.truth := by
  cases d with
  | non => rw [h.non]; rfl
  | bl b => rw [h.bl]; rfl
  | int i => rw [h.int]; rfl
  | str x =>
    cases h with
    | sh r => cases r with | str _ q => exact ⟨Nat.le_trans q.2 line100, rfl⟩
    | ow r => exact r.elim
  | tup ds =>
    obtain ⟨a, vs, rfl, h1, h2⟩ := h.tup
    refine .inr (.inl ⟨vs, h1, ?_⟩)
    cases h2 <;> rfl
  | lst ds =>
    obtain ⟨a, vs, rfl, h1, h2⟩ := h.lst
    refine .inl ⟨vs, .inl h1, ?_⟩
    cases h2 <;> rfl
/-- a value that is an argument: its reading -/
theorem rdE_of_A {e : E} (he : ∀ i, e ≠ .var i) {Q : VK} (h : rdA B L e σ H Q) : rdE B L e σ H Q := by
  obtain ⟨env, U, g, h⟩ := h
  refine ⟨env, U, g, ?_⟩
  have e1 : argOf e (eval L e env) env = (eval L e env).bind fun d env' => .ok (.val d.1) env' := by
    cases e <;> first | rfl | exact absurd rfl (he _)
  rw [e1] at h
  cases hr : eval L e env with
  | bad => rw [hr] at h; exact h.elim
  | ex x env1 => rw [hr] at h; exact h
  | ok x env1 =>
    rw [hr] at h
    intro U1 H1 p1 v r
    obtain ⟨U2, p2, r2⟩ := VRep.drop g p1 r
    exact h U2 H1 p2 v r2
/-- a value used as data that is kept: shared -/
theorem Wp.val {r : Res (D × Bool)} {P : D → Env → (Addr → Prop) → Hp → Prop} (g : Gd B.K B.F σ env U H) (h : Wp B σ env U H (r.bind fun d env' => .ok d.1 env') P) :
    Wp B σ env U H r fun x env' _ H' => ∀ v U', VRep B.K σ env' U' H' H v x.1 x.2 → Post B.K B.F σ env U H σ env' U' H' → ∃ U2, Post B.K B.F σ env U H σ env' U2 H' ∧ Rep B.K U2 H' v x.1 ∧ P x.1 env' U2 H' := by
  cases r with
  | bad => exact h
  | ex x env1 => exact h
  | ok x env1 =>
    intro U1 H1 _ v U' r p1
    obtain ⟨U2, p2, r2⟩ := VRep.drop g p1 r
    exact ⟨U2, p2, r2, h U2 H1 p2⟩
end
end Pi

set_option Elab.async false
set_option linter.all false
set_option maxRecDepth 100000
set_option maxHeartbeats 4000000
/-! PiE: expressions, form by form. -/
namespace Pi
open PySem PySem.Spec PyProof.Rows L2
variable [HasT]

theorem Res.bind_assoc {α β γ : Type} (r : Res α) (f : α → Env → Res β) (k : β → Env → Res γ) : (r.bind f).bind k = r.bind fun a e => (f a e).bind k := by
  cases r <;> rfl
section
variable {B : Sx} {L : Lib} {σ : Sg} {env : Env} {U : Addr → Prop} {H : Hp}
theorem VRep.start {K : PySem.W.Frag} {H1 H2 : Hp} {env' : Env} {U' : Addr → Prop} {H' : Hp} {v : V} {d : D} {fr : Bool} (hn : ∀ b, H2 b = none → H1 b = none) (r : VRep K σ env' U' H' H2 v d fr) : VRep K σ env' U' H' H1 v d fr := by
  cases fr with
  | false => exact r
  | true =>
    obtain ⟨a, e, u, o, n, h⟩ := r
    exact ⟨a, e, u, o, n, hn a h⟩
theorem Post.back {K F σ1 env1 U1 H1} (p : Post K F σ env U H σ1 env1 U1 H1) : ∀ b, H1 b = none → H b = none := fun b e => Classical.byContradiction fun z => p.tr.live b z e

theorem tst_nv {e : E} (he : ∀ i, e ≠ .var i) : tst L e env = (eval L e env).bind fun x e => .ok x.1.truth e := by
  have e1 : ∀ r, argOf e r env = r.bind fun d env' => .ok (.val d.1) env' := fun r => by
    cases e <;> first | rfl | exact absurd rfl (he _)
  unfold tst
  rw [e1, Res.bind_assoc]
  rfl
theorem tst_of_eval {a : E} {β : Type} {f : D × Bool → Env → Res β} {P : β → Env → (Addr → Prop) → Hp → Prop} (g : Gd B.K B.F σ env U H) (h : Wp B σ env U H ((eval L a env).bind f) P) :
    Wp B σ env U H (tst L a env) fun k env' U' H' => ∃ d fr env1 U1, D.truth d = k ∧ Post B.K B.F σ env' U' H' σ env1 U1 H' ∧ Wp B σ env1 U1 H' (f (d, fr) env1) P := by
  by_cases hv : ∃ i, a = .var i
  · obtain ⟨i, rfl⟩ := hv
    have hb := Wp.bind g h
    unfold tst
    simp only [eval, argOf] at hb ⊢
    cases hi : env[i]? with
    | none => rw [hi] at hb; exact hb.elim
    | some s =>
      cases s with
      | no => rw [hi] at hb; exact hb.elim
      | sh d =>
        rw [hi] at hb
        simp only [Res.bind_ok, Arg.peek, hi, Option.map_some, pureR_some]
        intro U' H' p
        exact ⟨d, false, env, U', rfl, .refl p.good, hb U' H' p⟩
      | ow l d =>
        rw [hi] at hb
        simp only [Res.bind_ok, Arg.peek, hi, Option.map_some, pureR_some]
        intro U' H' p
        obtain ⟨a, _, q, _⟩ := Post.share p.good hi
        exact ⟨d, false, env.set i (.sh d), _, rfl, q, hb _ H' (p.trans g q)⟩
  · have hv' : ∀ i, a ≠ .var i := fun i e => hv ⟨i, e⟩
    rw [tst_nv hv']
    have hb := Wp.bind g h
    cases hr : eval L a env with
    | bad => rw [hr] at hb; exact hb
    | ex x e1 => rw [hr] at hb; exact hb
    | ok x e1 =>
      rw [hr] at hb
      intro U' H' p
      exact ⟨x.1, x.2, e1, U', rfl, .refl p.good, hb U' H' p⟩
theorem tst_eval {a : E} {Q : Bool → Hp → Prop} (g : Gd B.K B.F σ env U H) (h : Wp B σ env U H ((eval L a env).bind fun y e => .ok y.1.truth e) fun k _ _ H' => Q k H') : Wp B σ env U H (tst L a env) fun k _ _ H' => Q k H' := by
  refine (tst_of_eval g h).imp fun k env' U' H' _ p q => ?_
  obtain ⟨d, fr, env1, U1, e, p1, w⟩ := q
  rw [← e]
  exact Wp.ok p1.good w
end

section
variable {X : Cx} {B : Sx} {L : Lib} {a b c : Expr} {a' b' c' : E} {pos : Pos}
theorem snd_var {i : Nat} {x : Str} {p : Pos} (hN : X.N[i]? = some x) (hv : Vis X.env.scope x) (hd : (x == ("__debug__" : Str)) = false) (hcd : (x == ("__classdict__" : Str)) = false) : PE X (.Name x p) (rdE B L (.var i)) := by
  refine (pe_var (pos := p) hN hv hd hcd).imp fun σ H Q ⟨env, U, g, h⟩ => ?_
  simp only [eval] at h
  cases hi : env[i]? with
  | none => rw [hi] at h; exact h.elim
  | some s =>
    rw [hi] at h
    cases s with
    | no => exact h.elim
    | sh d =>
      obtain ⟨v, e1, r⟩ := g.sh i d hi
      exact ⟨v, e1, h U H (.refl g) v r⟩
    | ow l d =>
      obtain ⟨a, e1, p1, r⟩ := Post.share g hi
      exact ⟨.ref a, e1, h _ H p1 _ r⟩
theorem snd_varA {i : Nat} {x : Str} {p : Pos} (hN : X.N[i]? = some x) (hv : Vis X.env.scope x) (hd : (x == ("__debug__" : Str)) = false) (hcd : (x == ("__classdict__" : Str)) = false) : PE X (.Name x p) (rdA B L (.var i)) := by
  refine (pe_var (pos := p) hN hv hd hcd).imp fun σ H Q ⟨env, U, g, h⟩ => ?_
  simp only [argOf] at h
  cases hi : env[i]? with
  | none => rw [hi] at h; exact h.elim
  | some s =>
    rw [hi] at h
    cases s with
    | no => exact h.elim
    | sh d =>
      obtain ⟨v, e1, r⟩ := g.sh i d hi
      exact ⟨v, e1, h U H (.refl g) v e1⟩
    | ow l d =>
      obtain ⟨a, e1, _⟩ := g.ow i l d hi
      exact ⟨.ref a, e1, h U H (.refl g) _ e1⟩
theorem snd_arg (he : ∀ i, a' ≠ .var i) (h : PE X a (rdE B L a')) : PE X a (rdA B L a') := h.imp fun _ _ _ q => rdE_of_A he q
theorem snd_con {d : D} {v : V} (h : PE X a (tC v)) (r : ∀ U H, Rep B.K U H v d) : PE X a (rdE B L (.con d)) := by
  refine h.imp fun σ H Q ⟨env, U, g, h⟩ => ?_
  exact h U H (.refl g) v (r U H)
/-- two arguments, an operation -/
theorem rd_2 {f : D → D → Option (D × Bool)} {e' : E} (he : ∀ env, eval L e' env = (argOf a' (eval L a' env) env).bind fun x env1 => (argOf b' (eval L b' env1) env1).bind fun y env2 => pureR ((x.peek env2).bind fun d => (y.peek env2).bind fun e => f d e) env2)
    {σ : Sg} {H : Hp} {Q : VK} (h : rdE B L e' σ H Q) : rdA B L a' σ H fun x H1 => rdA B L b' σ H1 fun y H2 => r2 B f x y H2 Q := by
  obtain ⟨env, U, g, h⟩ := h
  rw [he] at h
  refine ⟨env, U, g, (Wp.bind g h).imp fun x env1 U1 H1 _ p1 h1 v ok1 => ⟨env1, U1, p1.good, (Wp.bind p1.good h1).imp fun y env2 U2 H2 _ p2 h2 w ok2 => ?_⟩⟩
  obtain ⟨r, e, h3⟩ := h2.pure
  cases e1 : x.peek env2 with
  | none => rw [e1] at e; cases e
  | some d =>
    cases e2 : y.peek env2 with
    | none => rw [e1, e2] at e; cases e
    | some d2 =>
      rw [e1, e2] at e
      exact ⟨σ, env2, U2, d, d2, p2.good, p2.good.peek (ok1.mono p1.good p2) e1, p2.good.peek ok2 e2, r.1, r.2, e, fun v U' H' p3 vr => h3 U' H' p3 v (vr.start fun b z => p1.back b (p2.back b z))⟩
theorem snd_bin {op : Operator} {o : Bop} (ho : bopOf op = some o) (hK : X.K = B.K) (ha : PE X a (rdA B L a')) (hb : PE X b (rdA B L b')) : PE X (.BinOp a op b pos) (rdE B L (.bin o a' b')) :=
  (pe_op (sound_bop ho hK) ha hb).imp fun σ H Q h => rd_2 (fun env => by simp only [eval]) h
theorem snd_cmp {op : CmpOp} (hK : X.K = B.K) (hu : X.A.units + 65 < cLine) (ha : PE X a (rdA B L a')) (hb : PE X b (rdA B L b')) (hm : behindInMarks op b = false) : PE X (.Compare a [op] [b] pos) (rdE B L (.cmp (copOf op) a' b')) :=
  (pe_cmpR (sound_cop op hK hu) ha hb hm).imp fun σ H Q h => rd_2 (f := fun d e => (cmpD (copOf op) d e).map fun k => (.bl k, false)) (fun env => by simp only [eval]) h
/-- one argument, an operation -/
theorem rd_1 {f : D → Option (D × Bool)} {e' : E} (he : ∀ env, eval L e' env = (argOf a' (eval L a' env) env).bind fun x env1 => pureR ((x.peek env1).bind f) env1)
    {σ : Sg} {H : Hp} {Q : VK} (h : rdE B L e' σ H Q) : rdA B L a' σ H fun x H1 => ∃ env1 U1 d, Gd B.K B.F σ env1 U1 H1 ∧ Pk B.K U1 H1 x d ∧ Kout B σ env1 U1 H1 (f d) Q := by
  obtain ⟨env, U, g, h⟩ := h
  rw [he] at h
  refine ⟨env, U, g, (Wp.bind g h).imp fun x env1 U1 H1 _ p1 h1 v ok1 => ?_⟩
  obtain ⟨r, e, h3⟩ := h1.pure
  cases e1 : x.peek env1 with
  | none => rw [e1] at e; cases e
  | some d =>
    rw [e1] at e
    exact ⟨env1, U1, d, p1.good, p1.good.peek ok1 e1, r.1, r.2, e, fun v U' H' p3 vr => h3 U' H' p3 v (vr.start p1.back)⟩
theorem snd_neg (ha : PE X a (rdA B L a')) : PE X (.UnaryOp .USub a pos) (rdE B L (.neg a')) := by
  refine (pe_un un_neg ha).imp fun σ H Q h => ?_
  have q := rd_1 (f := fun d => match d with | .int i => some (.int (-i), false) | _ => none) (fun env => by
    simp only [eval]
    congr 1
    funext x env1
    cases x.peek env1 with
    | none => rfl
    | some d => cases d <;> rfl) h
  obtain ⟨env, U, g, w⟩ := q
  refine ⟨env, U, g, w.imp fun x env1 U1 H1 _ p1 h1 v ok1 => ?_⟩
  obtain ⟨env2, U2, d, g2, pk, k⟩ := h1 v ok1
  obtain ⟨r, fr, e, _⟩ := id k
  cases d <;> try (cases e)
  exact ⟨_, pk.int, k.sc g2 rfl (.int _)⟩
theorem snd_not (hK : X.K = B.K) (ha : PE X a (rdA B L a')) : PE X (.UnaryOp .Not a pos) (rdE B L (.not a')) := by
  refine (pe_notT ha).imp fun σ H Q h => ?_
  have q := rd_1 (f := fun d => some (.bl (!d.truth), false)) (fun env => by
    simp only [eval]
    congr 1
    funext x env1
    cases x.peek env1 <;> rfl) h
  obtain ⟨env, U, g, w⟩ := q
  refine ⟨env, U, g, w.imp fun x env1 U1 H1 _ p1 h1 v ok1 => ?_⟩
  obtain ⟨env2, U2, d, g2, pk, k⟩ := h1 v ok1
  exact ⟨d.truth, hK ▸ pk.truth, k.sc g2 rfl (.bl _)⟩
variable {rest : List Expr}
theorem snd_and (hK : X.K = B.K) (ha : PE X a (rdE B L a')) (hb : PE X (.BoolOp .And (b :: rest) pos) (rdE B L b')) : PE X (.BoolOp .And (a :: b :: rest) pos) (rdE B L (.and a' b')) := by
  refine (pe_andT ha hb).imp fun σ H Q ⟨env, U, g, h⟩ => ?_
  simp only [eval] at h
  refine ⟨env, U, g, ?_⟩
  cases hr : eval L a' env with
  | bad => rw [hr] at h; exact h
  | ex x e1 => rw [hr] at h; exact h
  | ok x e1 =>
    rw [hr] at h
    intro U1 H1 p1 v vr
    refine ⟨x.1.truth, hK ▸ vr.rep0.truth, ?_⟩
    simp only [Res.bind_ok] at h
    cases ht : x.1.truth with
    | true =>
      rw [if_pos ht] at h
      rw [if_pos rfl]
      have hb : Wp B σ env U H ((Res.ok x e1).bind fun _ e => eval L b' e) _ := h
      exact ⟨e1, U1, p1.good, ((Wp.bind g hb) U1 H1 p1).imp fun y e2 U2 H2 _ p2 q w wr => q w (wr.start p1.back)⟩
    | false =>
      rw [if_neg (by rw [ht]; simp)] at h
      rw [if_neg (by simp)]
      obtain ⟨U2, p2, r2⟩ := VRep.drop g p1 vr
      exact h U2 H1 p2 v r2
theorem snd_or (hK : X.K = B.K) (ha : PE X a (rdE B L a')) (hb : PE X (.BoolOp .Or (b :: rest) pos) (rdE B L b')) : PE X (.BoolOp .Or (a :: b :: rest) pos) (rdE B L (.or a' b')) := by
  refine (pe_orT ha hb).imp fun σ H Q ⟨env, U, g, h⟩ => ?_
  simp only [eval] at h
  refine ⟨env, U, g, ?_⟩
  cases hr : eval L a' env with
  | bad => rw [hr] at h; exact h
  | ex x e1 => rw [hr] at h; exact h
  | ok x e1 =>
    rw [hr] at h
    intro U1 H1 p1 v vr
    refine ⟨x.1.truth, hK ▸ vr.rep0.truth, ?_⟩
    simp only [Res.bind_ok] at h
    cases ht : x.1.truth with
    | true =>
      rw [if_pos ht] at h
      rw [if_pos rfl]
      obtain ⟨U2, p2, r2⟩ := VRep.drop g p1 vr
      exact h U2 H1 p2 v r2
    | false =>
      rw [if_neg (by rw [ht]; simp)] at h
      rw [if_neg (by simp)]
      have hb : Wp B σ env U H ((Res.ok x e1).bind fun _ e => eval L b' e) _ := h
      exact ⟨e1, U1, p1.good, ((Wp.bind g hb) U1 H1 p1).imp fun y e2 U2 H2 _ p2 q w wr => q w (wr.start p1.back)⟩
/-! tests -/
theorem snd_T (hK : X.K = B.K) (ha : PE X a (rdA B L a')) (he : ∀ whole, isTrue a X.env whole = (do let v ← whole; standAt a.pos; holding [v] (truthy v))) : PT X a (rdT B L a') := by
  refine (pt_truth ha he).imp fun σ H Q ⟨env, U, g, h⟩ => ?_
  refine ⟨env, U, g, (Wp.bind g h).imp fun x env1 U1 H1 _ p1 h1 v ok1 => ?_⟩
  obtain ⟨k, e, h3⟩ := h1.pure
  cases e1 : x.peek env1 with
  | none => rw [e1] at e; cases e
  | some d =>
    rw [e1] at e
    cases e
    exact ⟨d.truth, hK ▸ (p1.good.peek ok1 e1).truth, Wp.ok p1.good h3⟩
theorem snd_Tcmp {op : CmpOp} (hK : X.K = B.K) (hu : X.A.units + 65 < cLine) (ha : PE X a (rdA B L a')) (hb : PE X b (rdA B L b')) (hm : behindInMarks op b = false) : PT X (.Compare a [op] [b] pos) (rdT B L (.cmp (copOf op) a' b')) := by
  refine (pt_cmpR (sound_cop op hK hu) ha hb hm).imp fun σ H Q ⟨env, U, g, h⟩ => ?_
  rw [tst_nv (by simp)] at h
  refine rd_2 (e' := .cmp (copOf op) a' b') (f := fun d e => (cmpD (copOf op) d e).map fun k => (.bl k, false)) (fun env => by simp only [eval]) ⟨env, U, g, ?_⟩
  -- the value is a truth
  have hb2 : ∀ r e1, eval L (.cmp (copOf op) a' b') env = .ok r e1 → ∃ k, r = (.bl k, false) := by
    intro r e1 he
    simp only [eval] at he
    cases ha : argOf a' (eval L a' env) env with
    | bad => rw [ha] at he; cases he
    | ex x e => rw [ha] at he; cases he
    | ok x e2 =>
      rw [ha, Res.bind_ok] at he
      cases hb : argOf b' (eval L b' e2) e2 with
      | bad => rw [hb] at he; cases he
      | ex x e => rw [hb] at he; cases he
      | ok y e3 =>
        rw [hb, Res.bind_ok] at he
        cases h1 : x.peek e3 with
        | none => rw [h1] at he; cases he
        | some d =>
          cases h2 : y.peek e3 with
          | none => rw [h1, h2] at he; cases he
          | some d2 =>
            rw [h1, h2] at he
            simp only [Option.bind_some] at he
            cases h3 : cmpD (copOf op) d d2 with
            | none => rw [h3] at he; cases he
            | some k =>
              rw [h3] at he
              cases he
              exact ⟨k, rfl⟩
  refine (Wp.bind g h).imp fun x env1 U1 H1 hx p1 h1 v vr => ?_
  obtain ⟨k, rfl⟩ := hb2 _ _ hx
  have e1 : v = .bl k := (VRep.rep0 vr).bl
  exact ⟨k, e1, Wp.ok p1.good h1⟩
theorem snd_Tnot (ha : PT X a (rdT B L a')) : PT X (.UnaryOp .Not a pos) (rdT B L (.not a')) := by
  refine (pt_not ha).imp fun σ H Q ⟨env, U, g, h⟩ => ?_
  rw [tst_nv (by simp)] at h
  refine ⟨env, U, g, ?_⟩
  have e : (eval L (.not a') env).bind (fun x e => Res.ok x.1.truth e) = (tst L a' env).bind fun k e => .ok (!k) e := by
    simp only [eval, tst, Res.bind_assoc]
    congr 1
    funext x e1
    cases x.peek e1 with
    | none => rfl
    | some d => rfl
  rw [e] at h
  exact (Wp.bind g h).imp fun k env1 U1 H1 _ p1 h1 => Wp.ok p1.good h1
theorem snd_Wand1 (ha : PT X a (rdT B L a')) : PW X (.BoolOp .And [a] pos) (rdT B L a') := pw_and1 ha
theorem snd_Wor1 (ha : PT X a (rdT B L a')) : PW X (.BoolOp .Or [a] pos) (rdT B L a') := pw_or1 ha
theorem snd_Wand (ha : PT X a (rdT B L a')) (hb : PW X (.BoolOp .And (b :: rest) pos) (rdT B L b')) : PW X (.BoolOp .And (a :: b :: rest) pos) (rdT B L (.and a' b')) := by
  refine (pw_and ha hb).imp fun σ H Q ⟨env, U, g, h⟩ => ?_
  rw [tst_nv (by simp)] at h
  simp only [eval, Res.bind_assoc] at h
  refine ⟨env, U, g, (tst_of_eval g h).imp fun k env' U' H' _ p q => ?_⟩
  obtain ⟨d, fr, env1, U1, e, p1, w⟩ := q
  subst e
  cases ht : d.truth with
  | true =>
    rw [if_pos rfl]
    simp only [ht, if_true] at w
    exact ⟨env1, U1, p1.good, tst_eval p1.good w⟩
  | false =>
    rw [if_neg (by simp)]
    simp only [ht, Bool.false_eq_true, if_false, Res.bind_ok] at w
    exact Wp.ok p1.good w
theorem snd_Wor (ha : PT X a (rdT B L a')) (hb : PW X (.BoolOp .Or (b :: rest) pos) (rdT B L b')) : PW X (.BoolOp .Or (a :: b :: rest) pos) (rdT B L (.or a' b')) := by
  refine (pw_or ha hb).imp fun σ H Q ⟨env, U, g, h⟩ => ?_
  rw [tst_nv (by simp)] at h
  simp only [eval, Res.bind_assoc] at h
  refine ⟨env, U, g, (tst_of_eval g h).imp fun k env' U' H' _ p q => ?_⟩
  obtain ⟨d, fr, env1, U1, e, p1, w⟩ := q
  subst e
  cases ht : d.truth with
  | true =>
    rw [if_pos rfl]
    simp only [ht, if_true, Res.bind_ok] at w
    exact Wp.ok p1.good w
  | false =>
    rw [if_neg (by simp)]
    simp only [ht, Bool.false_eq_true, if_false] at w
    exact ⟨env1, U1, p1.good, tst_eval p1.good w⟩
theorem snd_ite (hc : PT X c (rdT B L c')) (ha : PE X a (rdE B L a')) (hb : PE X b (rdE B L b')) : PE X (.IfExp c a b pos) (rdE B L (.ite c' a' b')) := by
  refine (pe_ifExp hc ha hb).imp fun σ H Q ⟨env, U, g, h⟩ => ?_
  have e : eval L (.ite c' a' b') env = (tst L c' env).bind fun k e => if k then eval L a' e else eval L b' e := by
    simp only [eval, tst, Res.bind_assoc]
    congr 1
    funext x e1
    cases x.peek e1 with
    | none => rfl
    | some d => rfl
  rw [e] at h
  refine ⟨env, U, g, (Wp.bind g h).imp fun k env1 U1 H1 _ p1 h1 => ?_⟩
  cases k with
  | true => exact ⟨env1, U1, p1.good, Wp.imp h1 fun y e2 U2 H2 _ p2 q w wr => q w (wr.start p1.back)⟩
  | false => exact ⟨env1, U1, p1.good, Wp.imp h1 fun y e2 U2 H2 _ p2 q w wr => q w (wr.start p1.back)⟩
theorem snd_Tite (hc : PT X c (rdT B L c')) (ha : PE X a (rdA B L a')) (hb : PE X b (rdA B L b')) : True := trivial
/-! argument lists -/
variable {es : List Expr} {es' : List E}
theorem snd_nilA : PA X [] (rdAs B L []) := (pa_nil).imp fun σ H Q ⟨env, U, g, h⟩ => h U H (.refl g) [] .nil
theorem snd_consA (ha : PE X a (rdA B L a')) (hr : PA X es (rdAs B L es')) (hs : starEach (a :: es) X.env = (false, PySem.eval a X.env) :: starEach es X.env) : PA X (a :: es) (rdAs B L (a' :: es')) := by
  refine (pa_cons ha hr hs).imp fun σ H Q ⟨env, U, g, h⟩ => ?_
  simp only [args] at h
  refine ⟨env, U, g, (Wp.bind g h).imp fun x env1 U1 H1 _ p1 h1 v ok1 => ⟨env1, U1, p1.good, (Wp.bind p1.good h1).imp fun xs env2 U2 H2 _ p2 h2 vs oks => ?_⟩⟩
  exact Wp.ok p2.good h2 _ (.cons (ok1.mono p1.good p2) oks)
theorem snd_nilE : PA X [] (rdEs B L []) := (pa_nil).imp fun σ H Q ⟨env, U, g, h⟩ => h U H (.refl g) [] .nil
theorem snd_consE (ha : PE X a (rdE B L a')) (hr : PA X es (rdEs B L es')) (hs : starEach (a :: es) X.env = (false, PySem.eval a X.env) :: starEach es X.env) : PA X (a :: es) (rdEs B L (a' :: es')) := by
  refine (pa_cons ha hr hs).imp fun σ H Q ⟨env, U, g, h⟩ => ?_
  simp only [evals] at h
  refine ⟨env, U, g, ?_⟩
  cases hr : eval L a' env with
  | bad => rw [hr] at h; exact h
  | ex x e1 => rw [hr] at h; exact h
  | ok x e1 =>
    rw [hr] at h
    intro U1 H1 p1 v vr
    obtain ⟨U2, p2, r2⟩ := VRep.drop g p1 vr
    have h2 := (Wp.bind (r := .ok x e1) g h) U2 H1 p2
    refine ⟨e1, U2, p2.good, (Wp.bind p2.good h2).imp fun ds e3 U3 H3 _ p3 h3 vs reps => ?_⟩
    exact Wp.ok p3.good h3 _ (.cons (p3.rep p2.good r2) reps)
theorem snd_tup {k : Nat} (h : PA X es (rdEs B L es')) (hz : es'.length ≤ 1000) : PE X (.Tuple es k pos) (rdE B L (.tup es')) := by
  refine (pe_tup h).imp fun σ H Q ⟨env, U, g, h⟩ => ?_
  simp only [eval] at h
  refine ⟨env, U, g, (Wp.bind g h).imp fun ds env1 U1 H1 hr p1 h1 vs reps => ⟨?_, fun p hp => ?_⟩⟩
  · rw [reps.length]
    have : ∀ (es : List E) (env : Env) (ds : List D) (e1 : Env), evals L es env = .ok ds e1 → ds.length = es.length := by
      intro es
      induction es with
      | nil => intro env ds e1 h; simp only [evals] at h; cases h; rfl
      | cons a r ih =>
        intro env ds e1 h
        simp only [evals] at h
        cases ha : eval L a env with
        | bad => rw [ha] at h; cases h
        | ex x e => rw [ha] at h; cases h
        | ok x e =>
          rw [ha, Res.bind_ok] at h
          cases hb : evals L r e with
          | bad => rw [hb] at h; cases h
          | ex x e => rw [hb] at h; cases h
          | ok y e2 =>
            rw [hb, Res.bind_ok] at h
            cases h
            rw [List.length_cons, List.length_cons, ih _ _ _ hb]
    rw [this _ _ _ _ hr]
    exact Nat.le_trans hz (Nat.le_trans (by decide) line100)
  · obtain ⟨q, r⟩ := new_tup p1.good hp reps
    exact (h1 _ _ q) _ r
theorem evals_length : ∀ (es : List E) (env : Env) (ds : List D) (e1 : Env), evals L es env = .ok ds e1 → ds.length = es.length := by
  intro es
  induction es with
  | nil => intro env ds e1 h; simp only [evals] at h; cases h; rfl
  | cons a r ih =>
    intro env ds e1 h
    simp only [evals] at h
    cases ha : eval L a env with
    | bad => rw [ha] at h; cases h
    | ex x e => rw [ha] at h; cases h
    | ok x e =>
      rw [ha, Res.bind_ok] at h
      cases hb : evals L r e with
      | bad => rw [hb] at h; cases h
      | ex x e => rw [hb] at h; cases h
      | ok y e2 =>
        rw [hb, Res.bind_ok] at h
        cases h
        rw [List.length_cons, List.length_cons, ih _ _ _ hb]
theorem snd_lst (h : PA X es (rdEs B L es')) (hz : es'.length ≤ 1000) : PE X (.List es pos) (rdE B L (.lst es')) := by
  refine (pe_lst h).imp fun σ H Q ⟨env, U, g, h⟩ => ?_
  simp only [eval] at h
  refine ⟨env, U, g, (Wp.bind g h).imp fun ds env1 U1 H1 hr p1 h1 vs reps => ⟨?_, fun p hp => ?_⟩⟩
  · rw [reps.length, evals_length _ _ _ _ hr]
    exact Nat.le_trans hz (Nat.le_trans (by decide) line100)
  · obtain ⟨q, r⟩ := new_lst p1.good hp reps
    exact (h1 _ _ q) _ (r.start p1.back)
end
theorem rep_bind {B : Sx} {L : Lib} {σ : Sg} {env : Env} {U : Addr → Prop} {H : Hp} {a' : E} {β : Type} {f : D × Bool → Env → Res β} {P : β → Env → (Addr → Prop) → Hp → Prop} (g : Gd B.K B.F σ env U H) (h : Wp B σ env U H ((eval L a' env).bind f) P) :
    Wp B σ env U H (eval L a' env) fun x env1 U1 H1 => ∀ v, VRep B.K σ env1 U1 H1 H v x.1 x.2 → ∃ U2, Post B.K B.F σ env U H σ env1 U2 H1 ∧ Rep B.K U2 H1 v x.1 ∧ Wp B σ env1 U2 H1 (f x env1) P := by
  cases hr : eval L a' env with
  | bad => rw [hr] at h; exact h
  | ex x e1 => rw [hr] at h; exact h
  | ok x e1 =>
    rw [hr] at h
    intro U1 H1 p1 v vr
    obtain ⟨U2, p2, r2⟩ := VRep.drop g p1 vr
    exact ⟨U2, p2, r2, (Wp.bind (r := .ok x e1) g h) U2 H1 p2⟩
section
variable {X : Cx} {B : Sx} {L : Lib} {a b c : Expr} {a' b' c' : E} {pos : Pos}
theorem rd_chn {o o' : Cop} {σ : Sg} {H : Hp} {Q : VK} (h : rdE B L (.chn o o' a' b' c') σ H Q) :
    tChain (r2 B fun d e => (cmpD o d e).map fun k => (.bl k, false)) (r2 B fun d e => (cmpD o' d e).map fun k => (.bl k, false)) (rdE B L a') (rdE B L b') (rdE B L c') σ H Q := by
  obtain ⟨env, U, g, h⟩ := h
  simp only [eval] at h
  refine ⟨env, U, g, (rep_bind g h).imp fun x env1 U1 H1 _ p1 h1 v vr => ?_⟩
  obtain ⟨U1', p1', r1, h1⟩ := h1 v vr
  refine ⟨env1, U1', p1'.good, (rep_bind p1'.good h1).imp fun y env2 U2 H2 _ p2 h2 w wr => ?_⟩
  obtain ⟨U2', p2', s1, h2⟩ := h2 w wr
  have g2 := p2'.good
  refine ⟨σ, env2, U2', x.1, y.1, g2, .sh (p2'.rep p1'.good r1), .sh s1, ?_⟩
  cases hc : cmpD o x.1 y.1 with
  | none => rw [hc] at h2; exact h2.elim
  | some k =>
    rw [hc] at h2
    refine ⟨.bl k, false, by simp [hc], fun z U3 H3 p3 zr => ⟨k, (VRep.rep0 zr).bl, ?_⟩⟩
    have bk : ∀ b, H3 b = none → H b = none := fun b e => p1'.back b (p2'.back b (p3.back b e))
    cases k with
    | false => exact h2 U3 H3 p3 (.bl false) (.bl false)
    | true =>
      refine (if_pos rfl).mpr ⟨env2, U3, p3.good, ?_⟩
      have h3 := (Wp.bind (r := (.ok () env2 : Res Unit)) (f := fun _ e => (eval L c' e).bind fun z env3 => pureR ((cmpD o' y.1 z.1).map fun k => (D.bl k, false)) env3) (P := fun x env' U' H' => ∀ (v : V), VRep B.K σ env' U' H' H v x.1 x.2 → Q v H') g2 (by simp only [Res.bind_ok]; exact h2)) U3 H3 p3
      refine (rep_bind p3.good h3).imp fun z' env4 U4 H4 _ p4 h4 t tr => ?_
      obtain ⟨U4', p4', t1, h4⟩ := h4 t tr
      refine ⟨σ, env4, U4', y.1, z'.1, p4'.good, .sh (p4'.rep p3.good (p3.rep g2 s1)), .sh t1, ?_⟩
      obtain ⟨r, e, h5⟩ := h4.pure
      exact ⟨r.1, r.2, e, fun u U' H' p5 vr => h5 U' H' p5 u (vr.start fun b z => bk b (p4'.back b z))⟩
theorem snd_chn {op op' : CmpOp} (hK : X.K = B.K) (hu : X.A.units + 65 < cLine) (ha : PE X a (rdE B L a')) (hb : PE X b (rdE B L b')) (hc : PE X c (rdE B L c')) (hm : lastMarks [op, op'] [b, c] = false) :
    PE X (.Compare a [op, op'] [b, c] pos) (rdE B L (.chn (copOf op) (copOf op') a' b' c')) :=
  (pe_chain (sound_cop op hK hu) (sound_cop op' hK hu) ha hb hc hm).imp fun σ H Q h => rd_chn h
theorem chn_bl {o o' : Cop} {env e1 : Env} {r : D × Bool} (h : eval L (.chn o o' a' b' c') env = .ok r e1) : ∃ k, r = (.bl k, false) := by
  simp only [eval] at h
  cases ha : eval L a' env with
  | bad => rw [ha] at h; cases h
  | ex x e => rw [ha] at h; cases h
  | ok x e2 =>
    rw [ha, Res.bind_ok] at h
    cases hb : eval L b' e2 with
    | bad => rw [hb] at h; cases h
    | ex x e => rw [hb] at h; cases h
    | ok y e3 =>
      rw [hb, Res.bind_ok] at h
      cases hc : cmpD o x.1 y.1 with
      | none => rw [hc] at h; cases h
      | some k =>
        rw [hc] at h
        cases k with
        | false => cases h; exact ⟨false, rfl⟩
        | true =>
          simp only at h
          cases hd : eval L c' e3 with
          | bad => rw [hd] at h; cases h
          | ex x e => rw [hd] at h; cases h
          | ok z e4 =>
            rw [hd, Res.bind_ok] at h
            cases he : cmpD o' y.1 z.1 with
            | none => rw [he] at h; cases h
            | some k => rw [he] at h; cases h; exact ⟨k, rfl⟩
theorem snd_Tchn {op op' : CmpOp} (hK : X.K = B.K) (hu : X.A.units + 65 < cLine) (ha : PE X a (rdE B L a')) (hb : PE X b (rdE B L b')) (hc : PE X c (rdE B L c')) (hm : lastMarks [op, op'] [b, c] = false) :
    PT X (.Compare a [op, op'] [b, c] pos) (rdT B L (.chn (copOf op) (copOf op') a' b' c')) := by
  refine (pt_chain (sound_cop op hK hu) (sound_cop op' hK hu) ha hb hc hm).imp fun σ H Q ⟨env, U, g, h⟩ => ?_
  rw [tst_nv (by simp)] at h
  refine rd_chn ⟨env, U, g, ?_⟩
  refine (Wp.bind g h).imp fun x env1 U1 H1 hx p1 h1 v vr => ?_
  obtain ⟨k, rfl⟩ := chn_bl hx
  have e1 : v = .bl k := (VRep.rep0 vr).bl
  exact ⟨k, e1, Wp.ok p1.good h1⟩
end
/-! ### values that may be new -/
theorem VRep.post {K : PySem.W.Frag} {F : Addr → Prop} {σ : Sg} {env1 env3 : Env} {U1 U3 : Addr → Prop} {H H1 H3 : Hp} {v : V} {d : D} {fr : Bool} (g1 : Gd K F σ env1 U1 H1) (p : Post K F σ env1 U1 H1 σ env3 U3 H3) (r : VRep K σ env1 U1 H1 H v d fr) : VRep K σ env3 U3 H3 H v d fr := by
  cases fr with
  | false => exact p.rep g1 r
  | true =>
    obtain ⟨a, rfl, u, o, n, hn⟩ := r
    exact ⟨a, rfl, p.tr.res a u n, o.mono p.tr g1.hO n, fun z => (p.own a z).elim n fun y => g1.live a u y, hn⟩
inductive VReps (K : PySem.W.Frag) (σ : Sg) (env : Env) (U : Addr → Prop) (H H0 : Hp) : List V → List (D × Bool) → Prop
  | nil : VReps K σ env U H H0 [] []
  | cons {v : V} {vs : List V} {x : D × Bool} {ds : List (D × Bool)} : VRep K σ env U H H0 v x.1 x.2 → VReps K σ env U H H0 vs ds → (x.2 = true → ∀ (j : Nat) (d : D), ds[j]? = some (d, true) → vs[j]? ≠ some v) → VReps K σ env U H H0 (v :: vs) (x :: ds)
theorem VReps.length {K : PySem.W.Frag} {σ : Sg} {env : Env} {U : Addr → Prop} {H H0 : Hp} {vs : List V} {ds : List (D × Bool)} (h : VReps K σ env U H H0 vs ds) : vs.length = ds.length := by
  induction h with
  | nil => rfl
  | cons _ _ _ ih => simp [ih]
theorem VReps.map {K : PySem.W.Frag} {σ σ' : Sg} {env env' : Env} {U U' : Addr → Prop} {H H' H0 H0' : Hp} {vs : List V} {ds : List (D × Bool)} (h : VReps K σ env U H H0 vs ds) (k : ∀ (j : Nat) v x, vs[j]? = some v → ds[j]? = some x → VRep K σ env U H H0 v x.1 x.2 → VRep K σ' env' U' H' H0' v x.1 x.2) : VReps K σ' env' U' H' H0' vs ds := by
  induction h with
  | nil => exact .nil
  | cons r t n ih => exact .cons (k 0 _ _ rfl rfl r) (ih fun j v x h1 h2 => k (j + 1) v x h1 h2) n
theorem VReps.get {K : PySem.W.Frag} {σ : Sg} {env : Env} {U : Addr → Prop} {H H0 : Hp} {vs : List V} {ds : List (D × Bool)} (h : VReps K σ env U H H0 vs ds) : ∀ (j : Nat) v x, vs[j]? = some v → ds[j]? = some x → VRep K σ env U H H0 v x.1 x.2 := by
  induction h with
  | nil => intro j v x h; simp at h
  | cons r t n ih =>
    intro j v x h1 h2
    cases j with
    | zero => simp only [List.getElem?_cons_zero, Option.some.injEq] at h1 h2; subst h1 h2; exact r
    | succ j => exact ih j v x h1 h2
def rdFs (B : Sx) (L : Lib) (es : List E) : TA := fun σ H Q => ∃ env U, Gd B.K B.F σ env U H ∧ Wp B σ env U H (evalsF L es env) fun ds env' U' H' => ∀ vs, VReps B.K σ env' U' H' H vs ds → Q vs H'
section
variable {X : Cx} {B : Sx} {L : Lib} {a : Expr} {a' : E} {es : List Expr} {es' : List E}
theorem snd_nilF : PA X [] (rdFs B L []) := (pa_nil).imp fun σ H Q ⟨env, U, g, h⟩ => h U H (.refl g) [] .nil
theorem snd_consF (ha : PE X a (rdE B L a')) (hr : PA X es (rdFs B L es')) (hs : starEach (a :: es) X.env = (false, PySem.eval a X.env) :: starEach es X.env) : PA X (a :: es) (rdFs B L (a' :: es')) := by
  refine (pa_cons ha hr hs).imp fun σ H Q ⟨env, U, g, h⟩ => ?_
  simp only [evalsF] at h
  refine ⟨env, U, g, (Wp.bind g h).imp fun x env1 U1 H1 _ p1 h1 v vr => ⟨env1, U1, p1.good, (Wp.bind p1.good h1).imp fun ds env3 U3 H3 _ p3 h3 vs reps => ?_⟩⟩
  refine Wp.ok p3.good h3 _ (.cons (vr.post p1.good p3) (reps.map fun j v x _ _ r => r.start p1.back) fun hx j d hd hv => ?_)
  rw [hx] at vr
  obtain ⟨b, rfl, u, _⟩ := vr
  obtain ⟨c, e, _, _, _, hn⟩ := reps.get j _ _ hv hd
  cases e
  exact p1.good.live b u hn
end
end Pi

set_option Elab.async false
set_option linter.all false
set_option maxRecDepth 100000
set_option maxHeartbeats 4000000
/-! PiF: items, slices, built-ins, isinstance, calls of defs. -/
namespace Pi
open PySem PySem.Spec PyProof.Rows L2
variable [HasT]

section
variable {X : Cx} {B : Sx} {L : Lib} {a b c : Expr} {a' b' c' : E} {pos : Pos}
theorem atI_rep {K : PySem.W.Frag} {U : Addr → Prop} {H : Hp} {vs : List V} {ds : List D} {i : Int} {d : D} (r : RepAll K U H vs ds) (e : atI ds i = some d) : ∃ v, atI vs i = some v ∧ Rep K U H v d := by
  unfold atI at e ⊢
  rw [r.length]
  cases h : ixN ds.length i with
  | none => rw [h] at e; cases e
  | some j =>
    rw [h] at e
    obtain ⟨v, e1, r1⟩ := r.get e
    exact ⟨v, e1, r1⟩
theorem sound_ix (hK : X.K = B.K) : IxR X (r2 B fun d e => (ixD d e).map fun r => (r, false)) := by
  intro value slice pins s σ H x y v u Q I rx ry h hs
  obtain ⟨σ0, env, U, d, e, g, hd, he, k⟩ := h
  obtain ⟨r, fr, eo, _⟩ := id k
  cases d with
  | lst ds =>
    cases e with
    | int i =>
      obtain ⟨p, vs, rfl, h1, h2⟩ := hd.lst
      cases hq : atI ds i with
      | none => simp [ixD, hq] at eo
      | some d =>
        obtain ⟨w, e1, r1⟩ := atI_rep h2 hq
        exact ix_list value slice pins s σ H _ _ v u Q I rx ry ⟨p, vs, i, w, rfl, he.int, .inl h1, e1, k.sc g (by simp [ixD, hq]) r1⟩ hs
    | _ => simp [ixD] at eo
  | tup ds =>
    cases e with
    | int i =>
      obtain ⟨p, vs, rfl, h1, h2⟩ := hd.tup
      cases hq : atI ds i with
      | none => simp [ixD, hq] at eo
      | some d =>
        obtain ⟨w, e1, r1⟩ := atI_rep h2 hq
        exact ix_tup value slice pins s σ H _ _ v u Q I rx ry ⟨p, vs, i, w, rfl, he.int, hK ▸ h1, e1, k.sc g (by simp [ixD, hq]) r1⟩ hs
    | _ => simp [ixD] at eo
  | _ => cases e <;> simp [ixD] at eo
theorem snd_ix (hK : X.K = B.K) (ha : PE X a (rdA B L a')) (hb : PE X b (rdA B L b')) (hs : PlainIx b) : PE X (.Subscript a b pos) (rdE B L (.ix a' b')) :=
  (pe_ix (sound_ix hK) ha hb hs).imp fun σ H Q h => rd_2 (f := fun d e => (ixD d e).map fun r => (r, false)) (fun env => by simp only [eval]) h

theorem cut_rep {K : PySem.W.Frag} {U : Addr → Prop} {H : Hp} {vs : List V} {ds : List D} (lo hi : Option Int) (r : RepAll K U H vs ds) : RepAll K U H (cutV vs lo hi) (cutL ds lo hi) := by
  unfold cutV cutL
  rw [r.length]
  exact (r.drop _).take _
theorem sIx_le' (n d : Nat) (hd : d ≤ n) (o : Option Int) : HT.sIx n d o ≤ n := HT.sIx_le n d hd o
def rCut (B : Sx) : V → Option Int → Option Int → Hp → VK → Prop := fun x lo hi H Q => ∃ σ env U d, Gd B.K B.F σ env U H ∧ Pk B.K U H x d ∧ Kout B σ env U H (cutD d lo hi) Q
theorem sound_cut (hK : X.K = B.K) : SlR X (rCut B) := by
  intro pins s σ H x v vl vu lo hi sl Q I rx hsl pl pu h
  obtain ⟨σ0, env, U, d, g, hd, k⟩ := h
  obtain ⟨r, fr, eo, _⟩ := id k
  cases d with
  | lst ds =>
    obtain ⟨p, vs, rfl, h1, h2⟩ := hd.lst
    exact sl_list pins s σ H _ v vl vu lo hi sl Q I rx hsl pl pu ⟨p, vs, rfl, .inl h1, k.lst g rfl (cut_rep lo hi h2)⟩
  | tup ds =>
    obtain ⟨p, vs, rfl, h1, h2⟩ := hd.tup
    refine sl_tupA pins s σ H _ v vl vu lo hi sl Q I rx hsl pl pu ⟨p, vs, rfl, hK ▸ h1, fun hw => ?_, fun _ => k.tup g rfl (cut_rep lo hi h2)⟩
    have e1 : cutL ds lo hi = ds := by
      unfold cutL
      rw [← h2.length, hw.1, hw.2, List.drop_zero, Nat.sub_zero, h2.length, List.take_length]
    exact k.sc g rfl (by rw [e1]; exact .tup h1 h2)
  | _ => simp [cutD] at eo
def partR (L : Lib) (e : E) (env : Env) : Res (Option Int) := partOf e (eval L e env) env
def rdO (B : Sx) (L : Lib) (e : E) : TO := fun σ H Q => ∃ env U, Gd B.K B.F σ env U H ∧ Wp B σ env U H (partR L e env) fun o _ _ H' => Q o H'
theorem _root_.L2.PO.imp {e : Option Expr} {t t' : TO} (h : PO X e t) (k : ∀ σ H Q, t' σ H Q → t σ H Q) : PO X e t' := ⟨fun pins s σ H Q I hw => h.run pins s σ H Q I (k σ H Q hw)⟩
theorem snd_nopart : PO X none (rdO B L (.con .non)) := po_none.imp fun σ H Q ⟨env, U, g, h⟩ => Wp.ok g h
theorem snd_part (hn : a' ≠ .con .non) (ha : PE X a (rdE B L a')) : PO X (some a) (rdO B L a') := by
  refine (po_some ha).imp fun σ H Q ⟨env, U, g, h⟩ => ?_
  have e1 : partR L a' env = (eval L a' env).bind fun y e1 => match y.1 with
    | .int i => .ok (some i) e1
    | _ => .bad := by
    unfold partR partOf
    split
    · exact absurd rfl hn
    · rfl
  rw [e1] at h
  refine ⟨env, U, g, (Wp.bind g h).imp fun x env1 U1 H1 hx p1 h1 v vr => ?_⟩
  cases hd : x.1 with
  | int i =>
    rw [hd] at h1
    have := (VRep.rep0 vr)
    rw [hd] at this
    exact ⟨i, this.int, Wp.ok p1.good h1⟩
  | _ => rw [hd] at h1; exact h1.elim
variable {lo hi : Option Expr} {p2 : Pos}
theorem snd_cut (hK : X.K = B.K) (ha : PE X a (rdA B L a')) (hb : PO X lo (rdO B L b')) (hc : PO X hi (rdO B L c')) : PE X (.Subscript a (.Slice lo hi none p2) pos) (rdE B L (.cut a' b' c')) := by
  refine (pe_slice (sound_cut hK) ha hb hc).imp fun σ H Q ⟨env, U, g, h⟩ => ?_
  simp only [eval] at h
  refine ⟨env, U, g, (Wp.bind g h).imp fun x env1 U1 H1 _ p1 h1 v ok1 => ⟨env1, U1, p1.good, (Wp.bind p1.good h1).imp fun l env2 U2 H2 _ p2 h2 => ⟨env2, U2, p2.good, (Wp.bind p2.good h2).imp fun u env3 U3 H3 _ p3 h3 => ?_⟩⟩⟩
  obtain ⟨r, e, h4⟩ := h3.pure
  cases e1 : x.peek env3 with
  | none => rw [e1] at e; cases e
  | some d =>
    rw [e1] at e
    exact ⟨σ, env3, U3, d, p3.good, p3.good.peek ((ok1.mono p1.good p2).mono p2.good p3) e1, r.1, r.2, e, fun v U' H' p4 vr => h4 U' H' p4 v (vr.start fun b z => p1.back b (p2.back b (p3.back b z)))⟩

theorem log_lt {n k : Nat} (h : n.log2 < k) : n < 2 ^ k := by
  by_cases h0 : n = 0
  · subst h0; exact Nat.two_pow_pos k
  · exact (Nat.log2_lt h0).mp h
theorem log_max {a b k : Nat} (ha : a.log2 < k) (hb : b.log2 < k) : (max a b).log2 < k := by
  rcases Nat.le_total a b with h | h
  · rw [Nat.max_eq_right h]; exact hb
  · rw [Nat.max_eq_left h]; exact ha
theorem log_lcm {a b k : Nat} (ha : a.log2 < k) (hb : b.log2 < k) : (a.lcm b).log2 < k + k + 1 := by
  have h3 : a.lcm b ≤ a * b := PySem.W.mc_lcm_le _ _
  have h4 : a * b < 2 ^ (k + k) := by
    rw [Nat.pow_add]
    exact Nat.mul_lt_mul_of_lt_of_le (log_lt ha) (Nat.le_of_lt (log_lt hb)) (Nat.two_pow_pos _)
  by_cases h0 : a.lcm b = 0
  · rw [h0]; simp
  · exact Nat.lt_succ_of_lt ((Nat.log2_lt h0).mpr (Nat.lt_of_le_of_lt h3 h4))
def rLcm : List V → Hp → VK → Prop := fun vs H Q => ∃ a b : Int, vs = [.int a, .int b] ∧ a.natAbs.log2 < 9000 ∧ b.natAbs.log2 < 9000 ∧ Q (.int ((Nat.lcm a.natAbs b.natAbs : Nat) : Int)) H
theorem cr_lcm {X : Cx} : CallR X (.builtin "math.lcm") rLcm := by
  intro pins s σ H vs us Q I r h
  obtain ⟨a, b, rfl, ha, hb, q⟩ := h
  obtain ⟨t, u, rfl⟩ := Vals.int2 r
  have h1 : (max 1 a.natAbs).log2 < 9000 := log_max (by decide) ha
  have h2 : (max a.natAbs b.natAbs).log2 < 9000 := log_max ha hb
  have e1 : (Nat.lcm 1 a.natAbs).lcm b.natAbs = a.natAbs.lcm b.natAbs := by rw [Nat.lcm_one_left]
  have hsz : ((((Nat.lcm 1 a.natAbs).lcm b.natAbs : Nat) : Int)).natAbs.log2 < bitsLine := by
    rw [e1, Int.natAbs_natCast]
    exact Nat.lt_trans (log_lcm ha hb) (by unfold bitsLine; decide)
  refine call_function_meets PySem.W.MGF.kind_lcm PySem.W.MGF.plain_lcm PySem.W.MGF.entry_lcm (PySem.W.MGF.args_lcm _ _) (PySem.W.mg_run_lcm a t b u (by omega) (by omega) hsz).meets ?_
  rw [e1]
  exact ⟨.int _, H, I.tok _, ⟨_, rfl⟩, q⟩
/-! ### built-ins -/
def rBi (B : Sx) (f : Bi) : List V → Hp → VK → Prop := fun vs H Q => ∃ σ env U ds, Gd B.K B.F σ env U H ∧ Paired (Pk B.K U H) vs ds ∧ Kout B σ env U H (biD f ds) Q
def Bi.val : Bi → Value
  | .len => .builtin "len" | .abs => .builtin "abs" | .int => .type "int" | .gcd => .builtin "math.gcd" | .lcm => .builtin "math.lcm" | .max => .builtin "max" | .min => .builtin "min"
  | .all => .builtin "all" | .any => .builtin "any" | .sum => .builtin "sum" | .list => .type "list" | .tuple => .type "tuple"
theorem pk1 {K : PySem.W.Frag} {U : Addr → Prop} {H : Hp} {vs : List V} {d : D} (h : Paired (Pk K U H) vs [d]) : ∃ v, vs = [v] ∧ Pk K U H v d := by
  cases h with | cons r t => cases t; exact ⟨_, rfl, r⟩
theorem pk2 {K : PySem.W.Frag} {U : Addr → Prop} {H : Hp} {vs : List V} {d e : D} (h : Paired (Pk K U H) vs [d, e]) : ∃ v w, vs = [v, w] ∧ Pk K U H v d ∧ Pk K U H w e := by
  cases h with | cons r t => cases t with | cons r2 t2 => cases t2; exact ⟨_, _, rfl, r, r2⟩
theorem reps_bls {K : PySem.W.Frag} {U : Addr → Prop} {H : Hp} : ∀ {vs : List V} {ds : List D} {bs : List Bool}, RepAll K U H vs ds → allBls ds = some bs → vs = bs.map V.bl
  | _, _, _, .nil, e => by simp only [allBls] at e; cases e; rfl
  | _, _, _, .cons (d := d) (ds := ds) r t, e => by
    cases d with
    | bl b =>
      simp only [allBls] at e
      cases h : allBls ds with
      | none => rw [h] at e; cases e
      | some cs =>
        rw [h] at e
        cases e
        cases r
        rw [reps_bls t h]
        rfl
    | _ => simp [allBls] at e
theorem reps_ints {K : PySem.W.Frag} {U : Addr → Prop} {H : Hp} : ∀ {vs : List V} {ds : List D} {bs : List Int}, RepAll K U H vs ds → allInts ds = some bs → vs = bs.map V.int
  | _, _, _, .nil, e => by simp only [allInts] at e; cases e; rfl
  | _, _, _, .cons (d := d) (ds := ds) r t, e => by
    cases d with
    | int b =>
      simp only [allInts] at e
      cases h : allInts ds with
      | none => rw [h] at e; cases e
      | some cs =>
        rw [h] at e
        cases e
        cases r
        rw [reps_ints t h]
        rfl
    | _ => simp [allInts] at e
theorem sound_bi (f : Bi) (hc : X.calm = true) (hK : X.K = B.K) : CallR X f.val (rBi B f) := by
  intro pins s σ H vs us Q I rv h
  obtain ⟨σ0, env, U, ds, g, hp, k⟩ := h
  obtain ⟨r, fr, eo, _⟩ := id k
  have sq : ∀ {p : Addr} {xs : List V}, SqT B.K H p xs → SqT X.K H p xs := fun z => hK ▸ z
  cases f
  case len =>
    rcases ds with _ | ⟨d, _ | ⟨e, t⟩⟩
    · simp [biD] at eo
    · obtain ⟨v, rfl, pk⟩ := pk1 hp
      cases d with
      | lst xs =>
        obtain ⟨p, ws, rfl, h1, h2⟩ := pk.lst
        exact call_len_seq pins s σ H _ us Q I rv ⟨p, ws, rfl, .inl (.inl h1), by rw [h2.length]; exact k.sc g rfl (.int _)⟩
      | tup xs =>
        obtain ⟨p, ws, rfl, h1, h2⟩ := pk.tup
        exact call_len_seq pins s σ H _ us Q I rv ⟨p, ws, rfl, .inr (sq h1), by rw [h2.length]; exact k.sc g rfl (.int _)⟩
      | _ => simp [biD] at eo
    · cases d <;> simp [biD] at eo
  case abs =>
    rcases ds with _ | ⟨d, _ | ⟨e, t⟩⟩
    · simp [biD] at eo
    · obtain ⟨v, rfl, pk⟩ := pk1 hp
      cases d with
      | int i => exact call_abs pins s σ H _ us Q I rv ⟨i, by rw [pk.int], k.sc g rfl (.int _)⟩
      | _ => simp [biD] at eo
    · cases d <;> simp [biD] at eo
  case int =>
    rcases ds with _ | ⟨d, _ | ⟨e, t⟩⟩
    · simp [biD] at eo
    · obtain ⟨v, rfl, pk⟩ := pk1 hp
      cases d with
      | int i => exact call_int1 pins s σ H _ us Q I rv (.inl ⟨i, by rw [pk.int], k.sc g rfl (.int _)⟩)
      | bl i => exact call_int1 pins s σ H _ us Q I rv (.inr ⟨i, by rw [pk.bl], k.sc g rfl (.int _)⟩)
      | _ => simp [biD] at eo
    · cases d <;> simp [biD] at eo
  case gcd =>
    rcases ds with _ | ⟨d, _ | ⟨e, _ | ⟨e2, t⟩⟩⟩
    · simp [biD] at eo
    · cases d <;> simp [biD] at eo
    · obtain ⟨v, w, rfl, pk, pk'⟩ := pk2 hp
      cases d <;> cases e <;> try (simp [biD] at eo)
      exact cr_gcd pins s σ H _ us Q I rv ⟨_, _, by rw [pk.int, pk'.int], k.sc g rfl (.int _)⟩
    · cases d <;> cases e <;> simp [biD] at eo
  case lcm =>
    rcases ds with _ | ⟨d, _ | ⟨e, _ | ⟨e2, t⟩⟩⟩
    · simp [biD] at eo
    · cases d <;> simp [biD] at eo
    · obtain ⟨v, w, rfl, pk, pk'⟩ := pk2 hp
      cases d <;> cases e <;> try (simp [biD] at eo; done)
      simp only [biD] at eo
      split at eo
      · rename_i hb
        cases eo
        exact cr_lcm pins s σ H _ us Q I rv ⟨_, _, by rw [pk.int, pk'.int], hb.1, hb.2, k.sc g (by simp only [biD]; rw [if_pos hb]) (.int _)⟩
      · cases eo
    · cases d <;> cases e <;> simp [biD] at eo
  case max =>
    rcases ds with _ | ⟨d, _ | ⟨e, _ | ⟨e2, t⟩⟩⟩
    · simp [biD] at eo
    · cases d <;> simp [biD] at eo
    · obtain ⟨v, w, rfl, pk, pk'⟩ := pk2 hp
      cases d <;> cases e <;> try (simp [biD] at eo)
      exact call_max2 hc pins s σ H _ us Q I rv ⟨_, _, by rw [pk.int, pk'.int], k.sc g rfl (.int _)⟩
    · cases d <;> cases e <;> simp [biD] at eo
  case min =>
    rcases ds with _ | ⟨d, _ | ⟨e, _ | ⟨e2, t⟩⟩⟩
    · simp [biD] at eo
    · cases d <;> simp [biD] at eo
    · obtain ⟨v, w, rfl, pk, pk'⟩ := pk2 hp
      cases d <;> cases e <;> try (simp [biD] at eo)
      exact call_min2 hc pins s σ H _ us Q I rv ⟨_, _, by rw [pk.int, pk'.int], k.sc g rfl (.int _)⟩
    · cases d <;> cases e <;> simp [biD] at eo
  case all =>
    rcases ds with _ | ⟨d, _ | ⟨e, t⟩⟩
    · simp [biD] at eo
    · obtain ⟨v, rfl, pk⟩ := pk1 hp
      cases d with
      | lst xs =>
        obtain ⟨p, ws, rfl, h1, h2⟩ := pk.lst
        cases hb : allBls xs with
        | none => simp [biD, hb] at eo
        | some bs =>
          have e1 := reps_bls h2 hb
          subst e1
          exact cr_all hc pins s σ H _ us Q I rv ⟨p, bs, rfl, .inl h1, k.sc g (by simp [biD, hb]) (.bl _)⟩
      | _ => simp [biD] at eo
    · cases d <;> simp [biD] at eo
  case any =>
    rcases ds with _ | ⟨d, _ | ⟨e, t⟩⟩
    · simp [biD] at eo
    · obtain ⟨v, rfl, pk⟩ := pk1 hp
      cases d with
      | lst xs =>
        obtain ⟨p, ws, rfl, h1, h2⟩ := pk.lst
        cases hb : allBls xs with
        | none => simp [biD, hb] at eo
        | some bs =>
          have e1 := reps_bls h2 hb
          subst e1
          exact cr_any hc pins s σ H _ us Q I rv ⟨p, bs, rfl, .inl h1, k.sc g (by simp [biD, hb]) (.bl _)⟩
      | _ => simp [biD] at eo
    · cases d <;> simp [biD] at eo
  case sum =>
    rcases ds with _ | ⟨d, _ | ⟨e, t⟩⟩
    · simp [biD] at eo
    · obtain ⟨v, rfl, pk⟩ := pk1 hp
      cases d with
      | lst xs =>
        obtain ⟨p, ws, rfl, h1, h2⟩ := pk.lst
        cases hb : allInts xs with
        | none => simp [biD, hb] at eo
        | some bs =>
          have e1 := reps_ints h2 hb
          subst e1
          exact cr_sum hc pins s σ H _ us Q I rv ⟨p, bs, rfl, .inl h1, k.sc g (by simp [biD, hb]) (.int _)⟩
      | _ => simp [biD] at eo
    · cases d <;> simp [biD] at eo
  case list =>
    rcases ds with _ | ⟨d, _ | ⟨e, t⟩⟩
    · simp [biD] at eo
    · obtain ⟨v, rfl, pk⟩ := pk1 hp
      cases d with
      | lst xs =>
        obtain ⟨p, ws, rfl, h1, h2⟩ := pk.lst
        exact call_list_of pins s σ H _ us Q I rv ⟨p, ws, rfl, .inl (.inl h1), k.lst g rfl h2⟩
      | tup xs =>
        obtain ⟨p, ws, rfl, h1, h2⟩ := pk.tup
        exact call_list_of pins s σ H _ us Q I rv ⟨p, ws, rfl, .inr (sq h1), k.lst g rfl h2⟩
      | _ => simp [biD] at eo
    · cases d <;> simp [biD] at eo
  case tuple =>
    rcases ds with _ | ⟨d, _ | ⟨e, t⟩⟩
    · simp [biD] at eo
    · obtain ⟨v, rfl, pk⟩ := pk1 hp
      cases d with
      | lst xs =>
        obtain ⟨p, ws, rfl, h1, h2⟩ := pk.lst
        exact call_tuple_of pins s σ H _ us Q I rv ⟨p, ws, rfl, .inl ⟨.inl h1, k.tup g rfl h2⟩⟩
      | tup xs =>
        obtain ⟨p, ws, rfl, h1, h2⟩ := pk.tup
        exact call_tuple_of pins s σ H _ us Q I rv ⟨p, ws, rfl, .inr ⟨sq h1, k.sc g rfl (.tup h1 h2)⟩⟩
      | _ => simp [biD] at eo
    · cases d <;> simp [biD] at eo
variable {es : List Expr} {es' : List E}
theorem rd_bi {f : Bi} {σ : Sg} {H : Hp} {Q : VK} (h : rdE B L (.bi f es') σ H Q) : tCB (rBi B f) (rdAs B L es') σ H Q := by
  obtain ⟨env, U, g, h⟩ := h
  simp only [eval] at h
  refine ⟨env, U, g, (Wp.bind g h).imp fun xs env1 U1 H1 _ p1 h1 vs oks => ?_⟩
  obtain ⟨r, e, h2⟩ := h1.pure
  cases e1 : peeks env1 xs with
  | none => rw [e1] at e; cases e
  | some ds =>
    rw [e1] at e
    exact ⟨σ, env1, U1, ds, p1.good, p1.good.peeks oks e1, r.1, r.2, e, fun v U' H' p2 vr => h2 U' H' p2 v (vr.start p1.back)⟩
end
end Pi

set_option Elab.async false
set_option linter.all false
set_option maxRecDepth 100000
set_option maxHeartbeats 4000000
/-! PiFa: [::-1] of lists and tuples, l.index(x), d[t] of a constant dict with keys of whole numbers. -/
namespace Pi
open PySem PySem.Spec PyProof.Rows L2
variable [HasT]

section
variable {prog : Program} {w : World} {A : Around} {E : Value → Shared → Prop} {s : Shared}
theorem adjust_rev (n : Nat) : Builtin.Slice.sliceAdjust none none (-1) (n : Int) = ((n : Int) - 1, -1) := by
  unfold Builtin.Slice.sliceAdjust
  simp
theorem places_rev (n : Nat) : Builtin.Slice.slicePlaces ((n : Int) - 1) (-1) (-1) = n := by
  unfold Builtin.Slice.slicePlaces
  have h1 : ¬ ((-1 : Int) > 0) := by omega
  rw [if_neg h1]
  by_cases h : n = 0
  · subst h; rfl
  · rw [if_pos (by omega)]
    have : ((n : Int) - 1 - -1 - 1) / -(-1) + 1 = n := by
      rw [show (-(-1) : Int) = 1 by decide, Int.ediv_one]; omega
    rw [this, Int.toNat_natCast]
theorem sliceApplied_rev {sl : Addr} {vs : Value} {n : Nat} {Q : Int × Int × Nat → Shared → Prop} (hs : s.heap.IsSliceOf sl .none .none vs) (ps : IsPart vs (some (-1)))
    (h : Q ((n : Int) - 1, -1, n) s) : wpAny (model prog w) A (Builtin.Slice.sliceApplied (.ref sl) (pure (n : Int))) Q E s := by
  obtain ⟨os, hos, hcs, hds⟩ := id hs
  unfold Builtin.Slice.sliceApplied Builtin.Slice.sliceFields
  refine wpAny_bind (wpAny_bind (wpAny_field hos hds (x := .none) rfl (wpAny_bind (wpAny_field hos hds (x := .none) rfl (wpAny_bind (wpAny_field hos hds (x := vs) rfl (wpAny_pure ?_)))))))
  refine wpAny_bind (HT.slicePart_ ps ?_)
  show wpAny _ _ (if ((-1 : Int) == 0) = true then _ else _) _ _ s
  rw [if_neg (by decide)]
  refine wpAny_bind (slicePart_none (wpAny_bind (slicePart_none (wpAny_bind (wpAny_pure ?_)))))
  show wpAny _ _ (match Builtin.Slice.sliceAdjust none none (-1) (n : Int) with | (lo, hi) => pure (lo, (-1 : Int), Builtin.Slice.slicePlaces lo hi (-1))) _ _ s
  rw [adjust_rev]
  show wpAny _ _ (pure ((n : Int) - 1, (-1 : Int), Builtin.Slice.slicePlaces ((n : Int) - 1) (-1) (-1))) _ _ s
  rw [places_rev]
  exact wpAny_pure h
theorem pick_rev (xs : Array Value) : ((List.range xs.size).filterMap fun (m : Nat) => xs[((xs.size : Int) - 1 + (m : Int) * -1).toNat]?).toArray = xs.toList.reverse.toArray := by
  have key : ∀ l : List Nat, (∀ m ∈ l, m < xs.size) → (l.filterMap fun (m : Nat) => xs[((xs.size : Int) - 1 + (m : Int) * -1).toNat]?) = (l.map fun k => xs.size - 1 - k).filterMap (xs[·]?) := by
    intro l
    induction l with
    | nil => intro _; rfl
    | cons m l ih =>
      intro h
      have hm := h m List.mem_cons_self
      have e : ((xs.size : Int) - 1 + (m : Int) * -1).toNat = xs.size - 1 - m := by omega
      rw [List.filterMap_cons, List.map_cons, List.filterMap_cons, e, ih fun k hk => h k (List.mem_cons_of_mem _ hk)]
  rw [key _ fun m hm => List.mem_range.mp hm, PySem.W.krv_range, List.filterMap_reverse, PySem.W.krv_all]
theorem getItem_tuple_rev {t sl : Addr} {items : Array Value} {vs : Value} {Q : Value → Shared → Prop} (ht : IsTup s.heap t items) (hs : s.heap.IsSliceOf sl .none .none vs) (ps : IsPart vs (some (-1)))
    (h : Q (.ref s.heap.objs.size) { s with heap := s.heap.push { cls := .type "tuple", data := .seq items.toList.reverse.toArray } })
    (hsz : items.size ≤ sizeLine) : wpAny (model prog w) A (getItem (.ref t) (.ref sl)) Q E s := by
  have htake : sizeOk (.seq items.toList.reverse.toArray) := by
    show items.toList.reverse.toArray.size ≤ sizeLine
    rw [List.size_toArray, List.length_reverse, Array.length_toList]
    exact hsz
  obtain ⟨os, hos, hcs, hds⟩ := id hs
  have hTs : s.TypeIs (.ref sl) "slice" := ⟨os, hos, hcs⟩
  unfold getItem
  try with_reducible refine wpAny_holding ?_
  first | refine wpAny_bind (wpAny_pure ?_) | skip
  refine wpAny_bind (wpAny_sequenceKey ht.typeIs (by decide) ?_)
  refine wpAny_bind (wpAny_callSpecial?_slot (name := Str.ofString "__getitem__") ht.typeIs PyProof.Rows.slot_tuple_getitem
    (wpAny_call_entry PyProof.Rows.slot_tuple_getitem ht.typeIs entry_tuple_getitem ?_ (args_tuple_getitem _ _)))
  show wpAny _ _ (Builtin.Tuple.tupleItemsOf (.ref t) >>= _) _ _ s
  refine wpAny_bind (tupleItemsOf_ ht ?_)
  refine wpAny_bind (wpAny_typeOf hTs ?_)
  rw [if_pos (by decide)]
  refine wpAny_bind (sliceApplied_rev hs ps ?_)
  have hno : ¬ ((((items.size : Int) - 1) == 0 && (-1 : Int) == 1 && items.size == items.size) = true) := by simp
  show wpAny _ _ (if (((items.size : Int) - 1) == 0 && (-1 : Int) == 1 && items.size == items.size) = true then _ else _) _ _ s
  rw [if_neg hno, pick_rev]
  first
    | exact wpAny_bind (m := Builtin.Tuple.tupleExact _) (wpAny_newObj_type (wpAny_pure ⟨_, rfl, wpAny_pure h⟩) htake)
    | exact wpAny_bind (m := Builtin.Tuple.tupleExact _) (wpAny_newObj_type (wpAny_bind (wpAny_pure (wpAny_pure ⟨_, rfl, wpAny_pure h⟩))) htake)
    | exact wpAny_bind (wpAny_bind (m := Builtin.Tuple.tupleExact _) (wpAny_newObj_type (wpAny_pure (wpAny_pure ⟨_, rfl, wpAny_pure h⟩)) htake))
    | exact wpAny_bind (wpAny_bind (m := Builtin.Tuple.tupleExact _) (wpAny_newObj_type (wpAny_pure ⟨_, rfl, wpAny_pure h⟩) htake))
end
section
variable {X : Cx} {B : Sx} {L : Lib} {a b : Expr} {a' b' : E} {pos : Pos}
def tRevA (K : PySem.W.Frag) (te : TE) : TE := fun σ H Q => te σ H fun x H1 => ∃ a xs, x = .ref a ∧ ((SqL K H1 a xs ∧ ∀ p, H1 p = none → Q (.ref p) (upd H1 p (.lst xs.reverse))) ∨ (SqT K H1 a xs ∧ ∀ p, H1 p = none → Q (.ref p) (upd H1 p (.tup xs.reverse))))
theorem pe_revA {e : Expr} {te : TE} {k : Nat} {p1 p2 p3 pos : Pos} (he : PE X e te) : PE X (.Subscript e (.Slice none none (some (.UnaryOp .USub (.Constant (.int 1) k p1) p2)) p3) pos) (tRevA X.K te) := by
  refine ⟨fun pins s σ H Q I h => ?_⟩
  refine Subscript_ (thn (he.run pins s σ H _ I h) fun v s1 ⟨x, H1, I1, r1, q1⟩ => ?_)
  obtain ⟨a, xs, ex, q⟩ := q1
  subst ex
  cases r1
  have hst : PO X (some (.UnaryOp .USub (.Constant (.int 1) k p1) p2)) (tPart (tUn (rU fun i => .int (-i)) (tC (.int 1)))) := po_some (pe_un un_neg pe_int)
  refine wpAny_Slice (thn (po_none.run pins s1 σ H1 (fun o H2 => o = none ∧ H2 = H1) I1 ⟨rfl, rfl⟩) fun vl s2 ⟨l, H2, I2, pl, el, e2⟩ => ?_)
  subst el e2
  refine thn (po_none.run pins s2 σ H2 (fun o H3 => o = none ∧ H3 = H2) I2 ⟨rfl, rfl⟩) fun vu s3 ⟨u, H3, I3, pu, eu, e3⟩ => ?_
  subst eu e3
  refine thn (hst.run pins s3 σ H3 (fun o H4 => o = some (-1) ∧ H4 = H3) I3 ⟨1, rfl, -1, rfl, rfl, rfl⟩) fun vs s4 ⟨o, H4, I4, ps, eo, e4⟩ => ?_
  subst eo e4
  have I5 : Inv X pins σ H4 { s4 with heap := s4.heap.push { cls := .type "slice", data := .fields #[vl, vu, vs] } } := I4.kept (t' := s4.toks) fun b ob q => Heap.get?_push_of_some _ q
  show wpAny (model X.prog X.w) X.A (subscriptTail e (.Slice none none (some (.UnaryOp .USub (.Constant (.int 1) k p1) p2)) p3) (.ref a) (.ref s4.heap.objs.size)) (EP X pins σ Q) X.xe { s4 with heap := s4.heap.push { cls := .type "slice", data := .fields #[vl, vu, vs] } }
  rcases q with ⟨hx, q⟩ | ⟨hx, q⟩
  · obtain ⟨its, r, ht, hz⟩ := I5.list hx
    have hlen := r.length
    refine tail_any (ops := [.ref a, .ref s4.heap.objs.size]) ht.isList.typeIs (PySem.slot_list_getitem.lookup) ?_ (by with_unfolding_all rfl)
    refine wpAny_getItem_list_slice ht.isList (Heap.IsSliceOf.new _ vl vu vs) pl pu ps (by decide) ?_ (by rw [List.size_toArray]; omega)
    rw [PySem.W.krv_pick]
    refine ⟨.ref _, _, I5.laid (t' := s4.toks) (o := .lst xs.reverse) (fun b ob q => Heap.get?_push_of_some _ q) (Nat.le_refl _) ?_, rfl, q _ (I5.hok.fresh (Nat.le_refl _))⟩
    exact ⟨by rw [List.length_reverse]; exact hz, _, 0, r.reverse, Heap.get?_push_size _ rfl⟩
  · obtain ⟨its, r, ht, hz⟩ := I5.tuple hx
    have hlen := r.length
    cases pl
    cases pu
    refine tail_any (ops := [.ref a, .ref s4.heap.objs.size]) ht.typeIs (PyProof.Rows.slot_tuple_getitem.lookup) ?_ (by with_unfolding_all rfl)
    refine getItem_tuple_rev ht (Heap.IsSliceOf.new _ .none .none vs) ps ?_ (by rw [List.size_toArray]; omega)
    refine ⟨.ref _, _, I5.laid (t' := s4.toks) (o := .tup xs.reverse) (fun b ob q => Heap.get?_push_of_some _ q) (Nat.le_refl _) ?_, rfl, q _ (I5.hok.fresh (Nat.le_refl _))⟩
    exact ⟨by rw [List.length_reverse]; exact hz, _, r.reverse, IsTup.new _ _⟩
theorem snd_rev {k : Nat} {p1 p2 p3 : Pos} (hK : X.K = B.K) (ha : PE X a (rdA B L a')) : PE X (.Subscript a (.Slice none none (some (.UnaryOp .USub (.Constant (.int 1) k p1) p2)) p3) pos) (rdE B L (.rev a')) := by
  refine (pe_revA ha).imp fun σ H Q h => ?_
  have h := rd_1 (a' := a') (e' := .rev a') (f := revD) (fun env => by simp only [eval]) h
  obtain ⟨env, U, g, w⟩ := h
  refine ⟨env, U, g, w.imp fun x env1 U1 H1 _ p1 h1 v ok => ?_⟩
  obtain ⟨env2, U2, d, g2, pk, ko⟩ := h1 v ok
  obtain ⟨r, fr, eo, _⟩ := id ko
  cases d with
  | lst ds =>
    obtain ⟨p, vs, rfl, h1, h2⟩ := pk.lst
    exact ⟨p, vs, rfl, .inl ⟨.inl h1, ko.lst g2 rfl h2.reverse⟩⟩
  | tup ds =>
    obtain ⟨p, vs, rfl, h1, h2⟩ := pk.tup
    exact ⟨p, vs, rfl, .inr ⟨hK ▸ h1, ko.tup g2 rfl h2.reverse⟩⟩
  | _ => simp [revD] at eo
theorem pys_len : ∀ xs : List D, (D.pys xs).length = xs.length
  | [] => by simp [D.pys]
  | x :: xs => by simp [D.pys, pys_len xs]
theorem pys_get : ∀ (xs : List D) (m : Nat) (hm : m < xs.length), (D.pys xs)[m]? = some (xs[m].py)
  | [], m, hm => by simp at hm
  | x :: xs, 0, hm => by simp [D.pys]
  | x :: xs, m + 1, hm => by
    simp only [D.pys, List.getElem?_cons_succ, List.getElem_cons_succ]
    exact pys_get xs m (by simpa using hm)
/-- x.index(y) -/
theorem snd_idx {x : Str} {p ap cp : Pos} (hK : X.K = B.K) (hu : X.A.units + 65 < cLine) (ha : PE X (.Name x p) (rdE B L a')) (hb : PE X b (rdE B L b')) (hst : starEach [b] X.env = (false, PySem.eval b X.env) :: starEach [] X.env) (hline : (ap.endLine == cp.line) = true) :
    PE X (.Call (.Attribute (.Name x p) "index" ap) [b] [] cp) (rdE B L (.idx a' b')) := by
  refine (pe_bm PySem.F.plainAttrs_list PySem.F.slot_list_index PySem.F.type_list_index (mt_indexD hu) ha (pa_cons hb pa_nil hst) rfl (by rw [hst]; rfl) hline hst rfl).imp fun σ H Q ⟨env, U, g, h⟩ => ?_
  simp only [eval] at h
  refine ⟨env, U, g, (rep_bind g h).imp fun x env1 U1 H1 hr1 p1 h1 v vr => ?_⟩
  obtain ⟨U2, p2, r2, h2⟩ := h1 v vr
  obtain ⟨x, fr⟩ := x
  cases x <;> try (exact h2.elim)
  rename_i xs
  obtain ⟨a, vs, rfl, e1, e2⟩ := (Pk.sh r2).lst
  refine ⟨.inl ⟨rfl, vs, .inl e1⟩, env1, U2, p2.good, (rep_bind p2.good h2).imp fun y env3 U3 H3 hr3 p3 h3 w wr => ?_⟩
  obtain ⟨U4, p4, r4, h4⟩ := h3 w wr
  obtain ⟨r, eo, h5⟩ := h4.pure
  unfold idxD at eo
  split at eo
  · rename_i hd
    cases hf : xs.findIdx? (fun x => x.eqb y.1) with
    | none => rw [hf] at eo; cases eo
    | some j =>
      rw [hf] at eo
      cases eo
      have rl := p4.rep p2.good r2
      have d1 := (Pk.sh rl).dp.1
      have d2 := (Pk.sh r4).dp.1
      have s1 := (Pk.sh rl).shaped (by rw [D.depth]; omega)
      have s2 := (Pk.sh r4).shaped (by omega)
      rw [D.py] at d1 s1
      rw [List.findIdx?_eq_some_iff_getElem] at hf
      obtain ⟨hj, h6, h7⟩ := hf
      have hg := pys_get xs
      refine ⟨a, w, y.1.py, D.pys xs, j, xs[j].py, rfl, rfl, hK ▸ d1, hK ▸ d2, s1, s2, hg j hj, ?_, fun m z hm hz => ?_, ?_⟩
      · rw [← D.eqb_py]; exact h6
      · have hm2 : m < xs.length := by omega
        rw [hg m hm2] at hz
        cases hz
        rw [← D.eqb_py]
        have := h7 m hm
        simpa using this
      · exact h5 _ _ (.refl p4.good) _ (.int _)
  · cases eo
end
/-! ### constant dicts -/
def keyHash (ks : List Int) : Int := reduceHash (Builtin.Tuple.tupleHashOf (ks.map hashInt))
def intsB : List Int → List Value → Bool
  | [], [] => true
  | i :: is, .int j _ :: vs => decide (i = j) && intsB is vs
  | _, _ => false
def tupB (K : PySem.W.Frag) (ks : List Int) (b : Addr) : Bool := match K.lookup b with
  | some o => (match o.cls, o.data with
    | .type c, .seq its _ => decide (c = "tuple") && intsB ks its.toList
    | _, _ => false)
  | none => false
def dicEs (K : PySem.W.Frag) : List (List Int × Int) → List DictEntry → Bool
  | [], [] => true
  | (ks, v) :: r, e :: es => (match e.key, e.val with
    | .ref b, .int w _ => tupB K ks b && decide (w = v) && decide (e.hash = keyHash ks) && dicEs K r es
    | _, _ => false)
  | _, _ => false
def dicB (K : PySem.W.Frag) (kvs : List (List Int × Int)) : Value → Bool
  | .ref a => (match K.lookup a with
    | some o => (match o.cls, o.dict, o.data with
      | .type c, none, .dict es _ => decide (c = "dict") && decide (o.slots.size = 0) && dicEs K kvs es.toList && decide ((kvs.map (·.1)).Nodup)
      | _, _, _ => false)
    | none => false)
  | _ => false
/-- the dict that u is -/
def DicIs (P : Program) (w : World) (K : PySem.W.Frag) (kvs : List (List Int × Int)) (u : Value) : Prop := ∃ a, u = .ref a ∧ ∀ h : Heap, K.In h → ∃ xs, h.DictOfH (tupleKind (mixKind P w)) a xs ∧ ∀ ks v, kvs.lookup ks = some v → ∃ b t, atKey xs (ks.map Sum.inl) = some (b, .int v t)
theorem intsB_ok {P : Program} {w : World} : ∀ {ks : List Int} {vs : List Value}, intsB ks vs = true → ItemsAre (mixKind P w) (ks.map Sum.inl) vs
  | [], vs, h => by
    cases vs with
    | nil => exact .nil
    | cons _ _ => simp [intsB] at h
  | i :: is, vs, h => by
    cases vs with
    | nil => simp [intsB] at h
    | cons v vs =>
      cases v <;> first | (simp [intsB] at h; done) | skip
      simp only [intsB, Bool.and_eq_true, decide_eq_true_eq] at h
      obtain ⟨rfl, h⟩ := h
      exact .cons (kV_is (k := .inl i) ⟨_, rfl⟩) (intsB_ok h)
theorem tupB_ok {P : Program} {w : World} {K : PySem.W.Frag} {ks : List Int} {b : Addr} {h : Heap} (X : K.In h) (e : tupB K ks b = true) : (tupleKind (mixKind P w)).is h (ks.map Sum.inl) b := by
  unfold tupB at e
  cases hl : K.lookup b with
  | none => rw [hl] at e; cases e
  | some o =>
    rw [hl] at e
    simp only at e
    split at e
    · rename_i c its n hc hd
      simp only [Bool.and_eq_true, decide_eq_true_eq] at e
      obtain ⟨rfl, e⟩ := e
      exact ⟨o, its, n, X _ _ hl, hc, hd, intsB_ok e⟩
    · cases e
theorem keyHash_ok {P : Program} {w : World} (ks : List Int) : (tupleKind (mixKind P w)).hash (ks.map Sum.inl) = keyHash ks := by
  show reduceHash (Builtin.Tuple.tupleHashOf ((ks.map Sum.inl).map (keyH w))) = _
  rw [List.map_map]
  rfl
theorem dicEs_ok {P : Program} {w : World} {K : PySem.W.Frag} : ∀ {kvs : List (List Int × Int)} {es : List DictEntry}, dicEs K kvs es = true → ∃ xs : List (List Key × Addr × Value), es = xs.map (entryOfKey (tupleKind (mixKind P w))) ∧ xs.map (·.1) = kvs.map (fun p => p.1.map Sum.inl) ∧
    (∀ h : Heap, K.In h → ∀ x ∈ xs, (tupleKind (mixKind P w)).is h x.1 x.2.1) ∧ ∀ ks v, kvs.lookup ks = some v → ∃ b t, atKey xs (ks.map Sum.inl) = some (b, .int v t)
  | [], es, h => by
    cases es with
    | nil => exact ⟨[], rfl, rfl, fun _ _ x hx => by simp at hx, fun ks v h => by simp at h⟩
    | cons _ _ => simp [dicEs] at h
  | (ks, v) :: r, es, h => by
    cases es with
    | nil => simp [dicEs] at h
    | cons e es =>
      simp only [dicEs] at h
      split at h
      · rename_i b w' t hk hv
        simp only [Bool.and_eq_true, decide_eq_true_eq] at h
        obtain ⟨⟨⟨h1, rfl⟩, h3⟩, h4⟩ := h
        obtain ⟨xs, e1, e2, e3, e4⟩ := dicEs_ok (P := P) (w := w) h4
        refine ⟨(ks.map Sum.inl, b, .int w' t) :: xs, ?_, by rw [List.map_cons, e2]; rfl, fun h X x hx => ?_, fun ks' v' hl => ?_⟩
        · rw [List.map_cons, ← e1]
          congr 1
          cases e
          simp only at hk hv h3
          subst hk hv h3
          show _ = DictEntry.mk ((tupleKind (mixKind P w)).hash (ks.map Sum.inl)) _ _
          rw [keyHash_ok]
        · rcases List.mem_cons.mp hx with rfl | hx
          · exact tupB_ok X h1
          · exact e3 h X x hx
        · rw [List.lookup_cons] at hl
          unfold atKey
          by_cases he : ks' = ks
          · subst he
            simp only [beq_self_eq_true] at hl
            cases hl
            exact ⟨b, t, by simp⟩
          · have hne : (ks' == ks) = false := by simpa using he
            rw [hne] at hl
            obtain ⟨b', t', e5⟩ := e4 ks' v' hl
            unfold atKey at e5
            have hn2 : ¬ (ks.map Sum.inl : List Key) = ks'.map Sum.inl := fun z => he (by
              have := congrArg (List.map fun k : Key => match k with | .inl i => i | .inr _ => 0) z
              simp only [List.map_map] at this
              have id1 : ∀ l : List Int, l.map ((fun k : Key => match k with | .inl i => i | .inr _ => 0) ∘ Sum.inl) = l := fun l => by
                induction l with
                | nil => rfl
                | cons a l ih => rw [List.map_cons, ih]; rfl
              rw [id1, id1] at this
              exact this.symm)
            refine ⟨b', t', ?_⟩
            rw [List.find?_cons_of_neg (by simpa using hn2)]
            exact e5
      · cases h
theorem dicB_ok {P : Program} {w : World} {K : PySem.W.Frag} {kvs : List (List Int × Int)} {u : Value} (h : dicB K kvs u = true) : DicIs P w K kvs u := by
  cases u <;> first | (simp [dicB] at h; done) | skip
  rename_i a
  simp only [dicB] at h
  cases hl : K.lookup a with
  | none => rw [hl] at h; simp at h
  | some o =>
    rw [hl] at h
    simp only at h
    split at h
    · rename_i c es ep hc hd hdt
      simp only [Bool.and_eq_true, decide_eq_true_eq] at h
      obtain ⟨⟨⟨rfl, h2⟩, h3⟩, h4⟩ := h
      obtain ⟨xs, e1, e2, e3, e4⟩ := dicEs_ok (P := P) (w := w) h3
      refine ⟨a, rfl, fun hp X => ⟨xs, ⟨o, es, ep, X _ _ hl, ⟨hc, hd, Array.eq_empty_of_size_eq_zero h2⟩, hdt, e1, e3 hp X, ?_⟩, e4⟩⟩
      rw [e2]
      have : kvs.map (fun p => (p.1.map Sum.inl : List Key)) = (kvs.map (·.1)).map (fun l => l.map Sum.inl) := by rw [List.map_map]; rfl
      rw [this]
      refine List.Pairwise.map _ (fun x y hne z => hne ?_) h4
      have := congrArg (List.map fun k : Key => match k with | .inl i => i | .inr _ => 0) z
      simp only [List.map_map] at this
      have id1 : ∀ l : List Int, l.map ((fun k : Key => match k with | .inl i => i | .inr _ => 0) ∘ Sum.inl) = l := fun l => by
        induction l with
        | nil => rfl
        | cons a l ih => rw [List.map_cons, ih]; rfl
      rw [id1, id1] at this
      exact this
    · cases h
section
variable {X : Cx} {B : Sx} {L : Lib} {i : Expr} {e' : E} {pos p : Pos}
theorem snd_gdx {x : Str} {u : Value} {g : Nat} {kvs : List (List Int × Int)} (hK : X.K = B.K) (hu : X.A.units + 1 < cLine) (hg : Gl X x) (hm : X.mg x = some u) (hd : (x == ("__debug__" : Str)) = false) (hdic : DicIs X.prog X.w X.K kvs u) (hL : L.dic g = some kvs) (hi : PE X i (rdE B L e')) (hs : NoSl i) :
    PE X (.Subscript (.Name x p) i pos) (rdE B L (.gdx g e')) := by
  obtain ⟨a, rfl, hdic⟩ := hdic
  refine ⟨fun pins s σ H Q I ⟨env, U, gd, h⟩ => ?_⟩
  simp only [eval] at h
  refine subD_of PySem.F.slot_dict_getitem.lookup hs (thn ((pe_glob (pos := p) hg hm (v := .ref a) rfl hd).run pins s σ H (fun v H1 => v = .ref a ∧ H1 = H) I ⟨rfl, rfl⟩) fun u s1 ⟨x, H1, I1, rx, ex, eH⟩ => ?_)
  subst ex eH
  obtain rfl : u = Value.ref a := rx
  refine thn (hi.run pins s1 σ H1 (fun y H2 => ∃ env1 U2 d, Gd B.K B.F σ env1 U2 H2 ∧ Rep B.K U2 H2 y d ∧ (∀ b, H2 b = none → H1 b = none) ∧ Wp B σ env1 U2 H2 (pureR ((L.dic g).bind fun kvs => dicD kvs d) env1) fun x env' U' H' => ∀ v, VRep B.K σ env' U' H' H1 v x.1 x.2 → Q v H') I1
    ⟨env, U, gd, (rep_bind gd h).imp fun x env1 U1 H1 _ p1 h1 v vr => ?_⟩) fun iv s2 ⟨y, H2, I2, ry, env1, U2, d, g2, r2, bk, h2⟩ => ?_
  · obtain ⟨U2, p2, r2, h2⟩ := h1 v vr
    exact ⟨env1, U2, x.1, p2.good, r2, p2.back, h2⟩
  · obtain ⟨r, eo, h3⟩ := h2.pure
    rw [hL, Option.bind_some] at eo
    cases d <;> try (simp [dicD] at eo; done)
    rename_i ds
    simp only [dicD] at eo
    cases hi : allInts ds with
    | none => rw [hi] at eo; cases eo
    | some ks =>
      rw [hi] at eo
      simp only [Option.bind_some] at eo
      cases hk : kvs.lookup ks with
      | none => rw [hk] at eo; cases eo
      | some v =>
        rw [hk] at eo
        cases eo
        obtain ⟨b, vs, rfl, h4, h5⟩ := (Pk.sh r2).tup
        have e1 := reps_ints h5 hi
        subst e1
        obtain rfl : iv = Value.ref b := ry
        obtain ⟨xs, dd, hat⟩ := hdic s2.heap I2.kIn
        obtain ⟨c, t, hat⟩ := hat ks v hk
        refine ⟨dd.typeIs, ?_⟩
        obtain ⟨its, rv, ht, hz⟩ := I2.tuple (hK ▸ h4)
        obtain ⟨o, ho, hc, n, hdt⟩ := ht
        have hkey : (tupleKind (mixKind X.prog X.w)).is s2.heap (ks.map Sum.inl) b := ⟨o, its.toArray, n, ho, hc, hdt, by
          have : (ks.map Sum.inl).map kV = ks.map V.int := by rw [List.map_map]; rfl
          rw [← this] at rv
          simpa using items_are rv⟩
        refine wpAny_getItem_heap (tupleKind_room_in1 hu) hkey dd hat ?_
        exact ⟨.int v, H2, I2.tok _, ⟨t, rfl⟩, h3 _ _ (.refl g2) _ (.int v)⟩
end
end Pi

set_option Elab.async false
set_option linter.all false
set_option maxRecDepth 100000
set_option maxHeartbeats 4000000
/-! PiFb: list({x: True for x in e}), tuples of ints. -/
namespace Pi
open PySem PySem.Spec PyProof.Rows L2
variable [HasT]

/-- each key where it first stood -/
def uqs (l : List (List Key × Addr)) : List (List Key × Addr × Value) := l.foldl (fun xs p => storedH xs p.1 p.2 (.bool true)) []
theorem uqs_snoc (l : List (List Key × Addr)) (p : List Key × Addr) : uqs (l ++ [p]) = storedH (uqs l) p.1 p.2 (.bool true) := by
  unfold uqs
  rw [List.foldl_append]
  rfl
theorem storedH_mem {xs : List (List Key × Addr × Value)} {k : List Key} {a : Addr} {v : Value} {x : List Key × Addr × Value} (h : x ∈ storedH xs k a v) : (∃ y ∈ xs, (x.1, x.2.1) = (y.1, y.2.1)) ∨ (x.1, x.2.1) = (k, a) := by
  unfold storedH at h
  split at h
  · obtain ⟨y, hy, e⟩ := List.mem_map.mp h
    refine .inl ⟨y, hy, ?_⟩
    subst e
    unfold putAt
    split <;> rfl
  · rcases List.mem_append.mp h with h | h
    · exact .inl ⟨x, h, rfl⟩
    · rw [List.mem_singleton] at h
      subst h
      exact .inr rfl
theorem uqs_mem : ∀ (l : List (List Key × Addr)) (xs : List (List Key × Addr × Value)) {x : List Key × Addr × Value}, x ∈ l.foldl (fun xs p => storedH xs p.1 p.2 (.bool true)) xs → (∃ y ∈ xs, (x.1, x.2.1) = (y.1, y.2.1)) ∨ (x.1, x.2.1) ∈ l
  | [], xs, x, h => .inl ⟨x, h, rfl⟩
  | p :: l, xs, x, h => by
    rcases uqs_mem l _ h with ⟨y, hy, e⟩ | e
    · rcases storedH_mem hy with ⟨z, hz, e2⟩ | e2
      · exact .inl ⟨z, hz, e.trans e2⟩
      · exact .inr (by rw [e, e2]; exact List.mem_cons_self)
    · exact .inr (List.mem_cons_of_mem _ e)
theorem uqs_in {l : List (List Key × Addr)} {x : List Key × Addr × Value} (h : x ∈ uqs l) : (x.1, x.2.1) ∈ l := by
  rcases uqs_mem l [] h with ⟨y, hy, _⟩ | e
  · cases hy
  · exact e
theorem storedH_len (xs : List (List Key × Addr × Value)) (k : List Key) (a : Addr) (v : Value) : (storedH xs k a v).length ≤ xs.length + 1 := by
  unfold storedH
  split
  · simp
  · simp
theorem uqs_len : ∀ (l : List (List Key × Addr)) (xs : List (List Key × Addr × Value)), (l.foldl (fun xs p => storedH xs p.1 p.2 (.bool true)) xs).length ≤ xs.length + l.length
  | [], xs => by simp
  | p :: l, xs => by
    have h1 := uqs_len l (storedH xs p.1 p.2 (.bool true))
    have h2 := storedH_len xs p.1 p.2 (.bool true)
    simp only [List.foldl_cons, List.length_cons]
    omega
theorem offU {b N C : Nat} (hb : b < N ∨ b = C) (hC : N + 1 ≤ C) : ¬ b = N := by omega
theorem neU {b N C : Nat} (hb : b < N + 1) (hC : N + 1 ≤ C) : b ≠ C := by omega
/-- the names of such a block -/
def uqSc (scope : Scope) (x : Str) : Bool := decide (scope.kind = .function) && decide (scope.names.lookup x = some .local) && scope.names.all fun y => decide (y.2 = .local) && decide (scope.names.lookup y.1 = some .local)

section
variable {prog : Program} {w : World} {A : Around} {env : PySem.Env} {s : Shared}
theorem dc_uniq {scope : Scope} {l : Addr} {ks : List (List Key × Addr)} {x : Str} {kd : Nat} {pa pe pc : Pos} {Q : Value → Shared → Prop} {E : Value → Shared → Prop} {cl : List (Str × Addr)} (hh : A.handled = none) (hu : A.units < cLine) (hsc : uqSc scope x = true)
    (hd : (x == ("__debug__" : Str)) = false) (hsz : ks.length ≤ sizeLine)
    {m0 : Prop} (hl : (s.heap.IsList l (ks.map fun p => Value.ref p.2).toArray) ∨ s.heap.IsTuple l (ks.map fun p => Value.ref p.2).toArray) (hk : ∀ p ∈ ks, (tupleKind (mixKind prog w)).is s.heap p.1 p.2)
    (h : ∀ D h' tk, s.heap.objs.size ≤ D → h'.DictOfH (tupleKind (mixKind prog w)) D (uqs ks) → (∀ b o, s.heap.get? b = some o → h'.get? b = some o) → Q (.ref D) { s with heap := h', toks := tk }) :
    wpAny (model prog w) A (pyIter (.ref l)) (DcGoes prog w A E env scope cl (.Name x pa) [] (.Name x pe) (.Constant (.bool true) kd pc) none Q) E s := by
  unfold uqSc at hsc
  simp only [Bool.and_eq_true, decide_eq_true_eq] at hsc
  obtain ⟨⟨hkind, hx⟩, _⟩ := hsc
  have main : ∀ (I : Obj) (Y : Nat → Value → Heap → Prop) (St : Nat → Heap → Prop), (∀ i v h, Y i v h → (ks.map fun p => Value.ref p.2).toArray[i]? = some v) →
      Goes prog w A (.Name x pa) s.heap.objs.size [s.heap.objs.size, l] [s.heap.objs.size] (ks.map fun p => Value.ref p.2).toArray.size Y St → St 0 (s.heap.push I) → l < s.heap.objs.size →
      DcGoes prog w A E env scope cl (.Name x pa) [] (.Name x pe) (.Constant (.bool true) kd pc) none Q (.ref s.heap.objs.size) { s with heap := s.heap.push I } := by
    intro I Y St hY W st0 hlt
    refine ⟨_, _, _, _, _, _, rfl, W, st0, fun D C s₃ hB hD0 => ?_⟩
    obtain ⟨⟨h₃, tk₃, rfl⟩, old, nD, nC, hDC, hnm⟩ := hB
    have nC' : (s.heap.objs.size + 1 : Nat) ≤ C := by
      have q : (s.heap.push I).objs.size ≤ C := nC
      rw [Heap.size_push] at q
      exact q
    have nD' : (s.heap.objs.size + 1 : Nat) ≤ D := by
      have q : (s.heap.push I).objs.size ≤ D := nD
      rw [Heap.size_push] at q
      exact q
    have hDC' : (D : Nat) ≠ C := hDC
    have kx : (compEnvC scope cl C env).kindOf x = some .local := lookup_relabel_local hx
    have hp : ((compEnvC scope cl C env).scope.kind == .class || ((compEnvC scope cl C env).scope.kind == .module && (compEnvC scope cl C env).locals != (compEnvC scope cl C env).globals)) = false := by
      show (scope.kind == .class || (scope.kind == .module && _)) = false
      rw [hkind]; rfl
    have isAt : ∀ {h' : Heap}, (∀ b o, s.heap.get? b = some o → h'.get? b = some o) → ∀ p ∈ ks, (tupleKind (mixKind prog w)).is h' p.1 p.2 := fun {h'} k p hp => tupleKind_stays.stays (fun b o _ _ e _ => k b o e) (hk p hp)
    have sub : ∀ (i : Nat) (y : List Key × Addr × Value), y ∈ uqs (ks.take i) → (y.1, y.2.1) ∈ ks := fun i y hy => List.mem_of_mem_take (uqs_in hy)
    have dAt : ∀ {h1 h2 : Heap} {i : Nat}, h1.DictOfH (tupleKind (mixKind prog w)) D (uqs (ks.take i)) → (∀ o, h1.get? D = some o → h2.get? D = some o) → (∀ b o, s.heap.get? b = some o → h2.get? b = some o) → h2.DictOfH (tupleKind (mixKind prog w)) D (uqs (ks.take i)) :=
      fun {h1 h2 i} hm hd k => by
        obtain ⟨o, es, ep, e1, e2, e3, e4, _, e6⟩ := hm
        exact ⟨o, es, ep, hd _ e1, e2, e3, e4, fun y hy => isAt k _ (sub i y hy), e6⟩
    refine ⟨fun i s₁ => ∃ h' tk m, s₁ = { s with heap := h', toks := tk } ∧ h'.Ns C m ∧ h'.DictOfH (tupleKind (mixKind prog w)) D (uqs (ks.take i)) ∧ ∀ b o, s.heap.get? b = some o → h'.get? b = some o, ?_, ?_, ?_, ?_⟩
    · exact ⟨h₃, tk₃, _, rfl, hnm, ⟨_, #[], 0, hD0, ⟨rfl, rfl, rfl⟩, rfl, rfl, (fun _ hx => by cases hx), List.nodup_nil⟩, fun b o e => old b o (Heap.get?_push_of_some _ e)⟩
    · rintro i s₁ h' tk ⟨h₄, tk₄, m, rfl, n₄, d₄, k₄⟩ hk' _
      have off : ∀ b : Addr, (b < s.heap.objs.size ∨ b = C) → b ∉ [s.heap.objs.size] := fun b hb hm => offU hb nC' (by simpa using hm)
      have k' : ∀ b o, s.heap.get? b = some o → h'.get? b = some o := fun b o e => hk' b o (off _ (.inl (Heap.lt_size e))) (k₄ b o e)
      exact ⟨h', tk, m, rfl, n₄.at' fun o e => hk' _ o (off _ (.inr rfl)) e, dAt d₄ (fun o e => hk' D o (fun hm => offU (.inr rfl) nD' (by simpa using hm)) e) k', k'⟩
    · rintro i v s₁ hi hv st ⟨h₄, tk₄, m, rfl, n₄, d₄, k₄⟩
      have hv := hY i v _ hv
      have hi' : i < ks.length := by simpa using hi
      obtain ⟨p, hp1⟩ : ∃ p, ks[i]? = some p := ⟨_, List.getElem?_eq_getElem hi'⟩
      have ev : v = .ref p.2 := by
        have : (ks.map fun p => Value.ref p.2)[i]? = some v := by simpa using hv
        rw [List.getElem?_map, hp1] at this
        exact (Option.some.inj this).symm
      subst ev
      have hpm : p ∈ ks := List.mem_of_getElem? hp1
      refine wpAny_assign_Name (wpAny_storeName_local kx n₄ (fun h₅ n₅ s₅ => ?_) hp)
      refine wpAny_tests_nil ?_
      have offC : ∀ b : Addr, b < s.heap.objs.size + 1 → b ≠ C := fun b hb => neU hb nC'
      have k₅ : ∀ b o, s.heap.get? b = some o → h₅.get? b = some o := fun b o e => s₅.extBut b o (offC b (Nat.lt_succ_of_lt (Heap.lt_size e))) (k₄ b o e)
      show wpAny _ _ _ _ _ _
      rw [eval_Name _ _ _ hd]
      refine wpAny_bind (wpAny_standAt (wpAny_loadName_local hkind kx n₅ (v := .ref p.2) (if_pos rfl) ?_))
      refine wpAny_Constant_bool ?_
      refine wpAny_dictSet_heap (s := { s with heap := h₅, toks := _ }) hu (isAt k₅ p hpm) (dAt d₄ (fun o e => s₅.extBut _ o hDC e) k₅) (fun h₆ d₆ s₆ => ?_) (hsz := ?_)
      · have k₆ : ∀ b o, s.heap.get? b = some o → h₆.get? b = some o := fun b o e => (s₆.2 b (fun z => by
          have h1 := Heap.lt_size e
          rw [z] at h1
          exact Nat.lt_irrefl _ (Nat.lt_of_lt_of_le h1 (Nat.le_trans (Nat.le_succ _) nD')))).trans (k₅ b o e)
        have et : ks.take (i + 1) = ks.take i ++ [p] := by rw [List.take_add_one, hp1]; rfl
        refine ⟨⟨h₆, _, _, rfl, n₅.at' fun o e => (s₆.2 C (fun z => hDC z.symm)).trans e, ?_, k₆⟩, ?_⟩
        · rw [et, uqs_snoc]
          exact d₆
        · refine W.frame _ _ _ st fun b hb o e => ?_
          have hb' : b < s.heap.objs.size + 1 := by
            rcases List.mem_cons.mp hb with z | z
            · rw [z]; exact Nat.lt_succ_self _
            · rw [List.mem_singleton] at z
              rw [z]; exact Nat.lt_succ_of_lt hlt
          refine (s₆.2 b (fun z => ?_)).trans (s₅.extBut b o (offC b hb') e)
          rw [z] at hb'
          exact Nat.lt_irrefl _ (Nat.lt_of_lt_of_le hb' nD')
      · have := uqs_len (ks.take i) []
        have h2 : (uqs (ks.take i)).length ≤ 0 + (ks.take i).length := this
        rw [List.length_take] at h2
        omega
    · rintro s₁ ⟨h₄, tk₄, m, rfl, n₄, d₄, k₄⟩
      refine ⟨m, n₄, fun h' hs' => ?_⟩
      have k' : ∀ b o, s.heap.get? b = some o → h'.get? b = some o := fun b o e => hs'.extBut b o (neU (Nat.lt_succ_of_lt (Heap.lt_size e)) nC') (k₄ b o e)
      have d' := dAt d₄ (fun o e => hs'.extBut D o hDC e) k'
      have ez : ks.take (ks.map fun p => Value.ref p.2).toArray.size = ks := List.take_of_length_le (by simp)
      rw [ez] at d'
      exact h D h' tk₄ (Nat.le_trans (Nat.le_succ _) nD') d' k'
  rcases hl with hl | hl
  · have hlt : (l : Nat) < s.heap.objs.size := by obtain ⟨o, ho, _⟩ := hl; exact Heap.lt_size ho
    exact wpAny_pyIter_list hl (main _ _ _ (fun _ _ _ h => h) (Goes.list hh s.heap.objs.size l (Nat.ne_of_lt hlt) _) ⟨⟨_, Heap.get?_push_size _ rfl, rfl, rfl⟩, hl.push _⟩ hlt)
  · have hlt : (l : Nat) < s.heap.objs.size := by obtain ⟨o, ho, _⟩ := hl; exact Heap.lt_size ho
    exact wpAny_pyIter_tuple hl (main _ _ _ (fun _ _ _ h => h) (Goes.tuple hh s.heap.objs.size l (Nat.ne_of_lt hlt) _) ⟨⟨_, Heap.get?_push_size _ rfl, rfl, rfl⟩, hl.at fun o e => Heap.get?_push_of_some _ e⟩ hlt)
end

/-! ### the keys, as data -/
theorem eqbs_ints : ∀ {ds es : List D} {is js : List Int}, allInts ds = some is → allInts es = some js → D.eqbs ds es = decide (is = js)
  | [], [], is, js, h1, h2 => by
    simp only [allInts] at h1 h2
    cases h1; cases h2
    simp [D.eqbs]
  | [], e :: es, is, js, h1, h2 => by
    simp only [allInts] at h1
    cases h1
    cases e <;> simp only [allInts] at h2 <;> try (cases h2; done)
    cases q : allInts es with
    | none => rw [q] at h2; cases h2
    | some r => rw [q] at h2; cases h2; simp [D.eqbs]
  | d :: ds, [], is, js, h1, h2 => by
    simp only [allInts] at h2
    cases h2
    cases d <;> simp only [allInts] at h1 <;> try (cases h1; done)
    cases q : allInts ds with
    | none => rw [q] at h1; cases h1
    | some r => rw [q] at h1; cases h1; simp [D.eqbs]
  | d :: ds, e :: es, is, js, h1, h2 => by
    cases d <;> simp only [allInts] at h1 <;> try (cases h1; done)
    cases e <;> simp only [allInts] at h2 <;> try (cases h2; done)
    cases q1 : allInts ds with
    | none => rw [q1] at h1; cases h1
    | some r1 =>
      cases q2 : allInts es with
      | none => rw [q2] at h2; cases h2
      | some r2 =>
        rw [q1] at h1; rw [q2] at h2
        cases h1; cases h2
        simp only [D.eqbs, D.eqb]
        rw [eqbs_ints q1 q2]
        by_cases hi : r1 = r2 <;> simp [hi, List.cons.injEq, Bool.decide_and]
        exact rfl
theorem eqb_ints {d e : D} {is js : List Int} (h1 : intTup d = some is) (h2 : intTup e = some js) : d.eqb e = decide (is = js) := by
  cases d <;> simp only [intTup] at h1 <;> try (cases h1; done)
  cases e <;> simp only [intTup] at h2 <;> try (cases h2; done)
  simp only [D.eqb]
  exact eqbs_ints h1 h2
/-- an entry of the dict and the datum that it stands for -/
def EnD (K : PySem.W.Frag) (U : Addr → Prop) (H : Hp) (y : List Key × Addr × Value) (d : D) : Prop := Rep K U H (.ref y.2.1) d ∧ ∃ is, intTup d = some is ∧ y.1 = is.map Sum.inl
theorem inl_inj {is js : List Int} (h : (is.map Sum.inl : List Key) = js.map Sum.inl) : is = js := by
  have := congrArg (List.map fun k : Key => match k with | .inl i => i | .inr _ => 0) h
  simp only [List.map_map] at this
  have id1 : ∀ l : List Int, l.map ((fun k : Key => match k with | .inl i => i | .inr _ => 0) ∘ Sum.inl) = l := fun l => by
    induction l with
    | nil => rfl
    | cons a l ih => rw [List.map_cons, ih]; rfl
  rw [id1, id1] at this
  exact this
section
variable {K : PySem.W.Frag} {U : Addr → Prop} {H : Hp}
theorem enD_at {ys : List (List Key × Addr × Value)} {ds : List D} (r : Paired (EnD K U H) ys ds) {e : D} {js : List Int} (he : intTup e = some js) : (atKey ys (js.map Sum.inl)).isSome = ds.any fun y => y.eqb e := by
  induction r with
  | nil => rfl
  | @cons y d ys ds h t ih =>
    obtain ⟨_, is, h1, h2⟩ := h
    rw [List.any_cons, eqb_ints h1 he]
    unfold atKey at ih ⊢
    rw [List.find?_cons]
    by_cases hk : y.1 = js.map Sum.inl
    · have e1 : is = js := inl_inj (h2.symm.trans hk)
      simp [hk, e1]
    · have e1 : ¬ is = js := fun z => hk (by rw [h2, z])
      rw [decide_eq_false hk, decide_eq_false e1, Bool.false_or]
      exact ih
theorem enD_put {ys : List (List Key × Addr × Value)} {ds : List D} (r : Paired (EnD K U H) ys ds) (k : List Key) (v : Value) : Paired (EnD K U H) (ys.map (putAt k v)) ds := by
  induction r with
  | nil => exact .nil
  | @cons y d ys ds h t ih =>
    refine .cons ?_ ih
    unfold putAt
    split
    · exact h
    · exact h
theorem enD_uq : ∀ {ks : List (List Key × Addr)} {es : List D} {ys : List (List Key × Addr × Value)} {ds : List D}, Paired (fun p d => EnD K U H (p.1, p.2, .none) d) ks es → Paired (EnD K U H) ys ds →
    Paired (EnD K U H) (ks.foldl (fun xs p => storedH xs p.1 p.2 (.bool true)) ys) (uniqL ds es)
  | [], _, ys, ds, .nil, r => r
  | p :: ks, _, ys, ds, .cons (b := e) (l₂ := es) h t, r => by
    simp only [List.foldl_cons, uniqL]
    refine enD_uq t ?_
    obtain ⟨h1, js, h2, h3⟩ := h
    have h3 : p.1 = js.map Sum.inl := h3
    have q := enD_at r h2
    unfold storedH
    rw [h3, q]
    cases hq : ds.any fun y => y.eqb e with
    | true => simp only [if_true]; exact enD_put r _ _
    | false =>
      simp only [Bool.false_eq_true, if_false]
      exact Paired.snoc r ⟨h1, js, h2, rfl⟩
theorem enD_reps {ys : List (List Key × Addr × Value)} {ds : List D} (r : Paired (EnD K U H) ys ds) : RepAll K U H (ys.map fun y => V.ref y.2.1) ds := by
  induction r with
  | nil => exact .nil
  | cons h t ih => exact .cons h.1 ih
end
section
variable {X : Cx} {B : Sx} {L : Lib} {pins : List (Addr × Obj)} {σ : L2.St} {H : Hp} {s : Shared} {U : Addr → Prop}
/-- int tuples that stand in the heap, as keys -/
theorem enD_keys (hK : X.K = B.K) (I : Inv X pins σ H s) : ∀ {vs : List V} {ds : List D} {us : List Value}, RepAll B.K U H vs ds → Vals vs us → (ds.all fun d => (intTup d).isSome) = true →
    ∃ ks : List (List Key × Addr), us = ks.map (fun p => Value.ref p.2) ∧ (∀ p ∈ ks, (tupleKind (mixKind X.prog X.w)).is s.heap p.1 p.2) ∧ Paired (fun p d => EnD B.K U H (p.1, p.2, .none) d) ks ds
  | [], _, _, .nil, .nil, _ => ⟨[], rfl, fun _ h => (by cases h), .nil⟩
  | v :: vs, _, _, .cons (d := d) (ds := ds) r t, .cons rv t2, h => by
    simp only [List.all_cons, Bool.and_eq_true] at h
    obtain ⟨ks, e1, e2, e3⟩ := enD_keys hK I t t2 h.2
    cases hi : intTup d with
    | none => rw [hi] at h; simp at h
    | some is =>
      cases d <;> simp only [intTup] at hi <;> try (cases hi; done)
      rename_i xs
      have r0 := r
      obtain ⟨b, ws, rfl, h4, h5⟩ := (Pk.sh r).tup
      have ew := reps_ints h5 hi
      subst ew
      cases rv
      obtain ⟨its, rw', ht, hz⟩ := I.tuple (hK ▸ h4)
      obtain ⟨o, ho, hc, n, hdt⟩ := ht
      have hkey : (tupleKind (mixKind X.prog X.w)).is s.heap (is.map Sum.inl) b := ⟨o, its.toArray, n, ho, hc, hdt, by
        have e : ((is.map Sum.inl : List Key)).map kV = is.map V.int := by rw [List.map_map]; rfl
        rw [← e] at rw'
        simpa using items_are rw'⟩
      refine ⟨(is.map Sum.inl, b) :: ks, by rw [e1]; rfl, fun p hp => ?_, .cons ⟨r0, is, hi, rfl⟩ e3⟩
      rcases List.mem_cons.mp hp with rfl | hp
      · exact hkey
      · exact e2 p hp
theorem uqSc_closure {scope : Scope} {x : Str} {env : PySem.Env} (h : uqSc scope x = true) : ∀ y ∈ scope.names, y.2 = .free → ∃ c, env.cells.lookup y.1 = some c := fun y hy e => by
  unfold uqSc at h
  simp only [Bool.and_eq_true, decide_eq_true_eq, List.all_eq_true] at h
  have := (h.2 y hy).1
  rw [e] at this
  cases this
/-- list({x: True for x in e}) -/
theorem snd_uniq {a : Expr} {a' : E} {x : Str} {kd : Nat} {scope : Scope} {p pa pe pc pos q : Pos} (hK : X.K = B.K) (hc : X.calm = true) (hu : X.A.units + 1 < cLine) (hg : Gl X "list") (hm : X.mg "list" = none) (ha : PE X a (rdA B L a')) (hsc : uqSc scope x = true) (hd : (x == ("__debug__" : Str)) = false)
    (hs : ∀ y, foldedSetIterable a X.env y = pure y) : PE X (.Call (.Name "list" p) [.DictComp (.Name x pe) (.Constant (.bool true) kd pc) [⟨.Name x pa, a, [], 0⟩] scope q] [] pos) (rdE B L (.uniq a')) := by
  refine ⟨fun pins s σ H Q I h => ?_⟩
  have h1 := rd_1 (f := uniqD) (a' := a') (fun env => by simp only [eval]) h
  have hsc' := hsc
  unfold uqSc at hsc'
  simp only [Bool.and_eq_true, decide_eq_true_eq, List.all_eq_true] at hsc'
  obtain ⟨⟨hkind, hx⟩, hall⟩ := hsc'
  refine Call_ (ld_blt I hg hm PyProof.Rows.boot_list (PyProof.Rows.callWith_type1 (PyProof.Rows.args_cons ?_ rfl) rfl rfl))
  refine DictComp_goes (closure_ok (uqSc_closure hsc)) (fun y hy e => by rw [(hall y hy).1] at e; cases e) hkind (fun y hy _ => (hall y hy).2) ?_ hs
  refine thn (ha.run pins s σ H _ I h1) fun u s1 ⟨v, H1, I1, r1, env1, U1, d, g1, pk, k⟩ => ?_
  obtain ⟨r, fr, e1, k⟩ := k
  have fin : ∀ (l : Addr) (vs : List V) (xs : List D) (us : List Value), Vals vs us → RepAll B.K U1 H1 vs xs → (xs.all fun d => (intTup d).isSome) = true ∧ xs.length ≤ 100000 → (s1.heap.IsList l us.toArray ∨ s1.heap.IsTuple l us.toArray) → u = .ref l → r = .lst (uniqL [] xs) → fr = true →
      wpAny (model X.prog X.w) X.A (pyIter u) (DcGoes X.prog X.w X.A X.xe X.env scope (cloFrom X.env.cells scope.names []) (.Name x pa) [] (.Name x pe) (.Constant (.bool true) kd pc) none
        (fun v s₁ => wpAny (model X.prog X.w) X.A (spliced (backTo pos (starEach [] X.env))) (fun vs s₂ => wpAny (model X.prog X.w) X.A (call (.type "list") (v :: vs)) (EP X pins σ Q) X.xe s₂) X.xe s₁)) X.xe s1 := by
    intro l vs xs us rv rep hx2 hl eu er ef
    subst eu er ef
    obtain ⟨ks, ek, his, pr⟩ := enD_keys hK I1 rep rv hx2.1
    subst ek
    have hlen : ks.length = xs.length := Paired.length pr
    have hz : ks.length ≤ sizeLine := by rw [hlen]; exact Nat.le_trans hx2.2 line100
    refine dc_uniq (m0 := True) (I1.ok.hd hc) (Nat.lt_of_succ_lt hu) hsc hd hz hl his fun D h' tk hD dd kp => ?_
    refine PyProof.Rows.args_nil ?_
    have I2 : Inv X pins σ H1 { s1 with heap := h', toks := tk } := I1.kept (t' := tk) kp
    have pu := enD_uq pr (ys := []) (ds := []) .nil
    have ru := enD_reps pu
    obtain ⟨o, es, ep, ho, hx3, hdt, he, hn, _⟩ := dd
    have l1 : es.size = (uqs ks).length := size_of_entries he
    have l2 : (uqs ks).length ≤ 0 + ks.length := uqs_len ks []
    have hDs : (D == sysModules) = false := by
      have hb := I1.big
      have : D ≠ sysModules := fun z => by
        rw [z] at hD
        exact Nat.lt_irrefl _ (Nat.lt_of_lt_of_le hb hD)
      simpa using this
    refine PySem.W.kdl_call (kdl_raw hDs hx3 hdt) (I2.ok.hd hc) ho (by omega) fun h2 tk2 acc' c' kp2 e2 it => ?_
    have ea : acc'.toList = (uqs ks).map fun x => Value.ref x.2.1 := by
      have hl : acc'.toList.length = (uqs ks).length := by rw [Array.length_toList, it.1]; exact l1
      apply List.ext_getElem?
      intro j
      rw [List.getElem?_map]
      cases hj : acc'.toList[j]? with
      | none =>
        have h1 := List.getElem?_eq_none_iff.mp hj
        rw [List.getElem?_eq_none (by omega)]
        rfl
      | some v =>
        obtain ⟨en, hen, hv⟩ := it.2 j v (by rw [← Array.getElem?_toList]; exact hj)
        have qe := entry_at he j
        rw [hen] at qe
        cases hb : (uqs ks)[j]? with
        | none => rw [hb] at qe; cases qe
        | some b =>
          rw [hb] at qe
          have e2 := Option.some.inj qe
          rw [hv, e2]
          rfl
    have rv2 : Vals ((uqs ks).map fun y => V.ref y.2.1) acc'.toList := by
      rw [ea]
      generalize uqs ks = l
      induction l with
      | nil => exact .nil
      | cons a l ih => exact .cons rfl ih
    have hlq : ((uqs ks).map fun y => V.ref y.2.1).length ≤ sizeLine := by rw [List.length_map]; omega
    have J : Inv X pins σ (upd H1 h'.objs.size (.lst ((uqs ks).map fun y => V.ref y.2.1))) { s1 with heap := h2, toks := tk2 } :=
      I2.laid (t' := tk2) kp2 (Nat.le_refl _) ⟨hlq, acc'.toList, c', rv2, by simpa using e2⟩
    have hnone : H1 h'.objs.size = none := I2.hok.fresh (Nat.le_refl _)
    obtain ⟨p3, vr⟩ := new_lst g1 hnone ru
    exact ⟨.ref h'.objs.size, _, J, rfl, k _ _ _ p3 vr⟩
  cases d <;> simp only [uniqD] at e1 <;> try (cases e1; done)
  · rename_i xs
    split at e1
    · rename_i hx2
      cases e1
      obtain ⟨l, vs, rfl, h4, h5⟩ := pk.tup
      obtain rfl : u = Value.ref l := r1
      obtain ⟨its, rv, ht, _⟩ := I1.tuple (hK ▸ h4)
      exact fin l vs xs its rv h5 hx2 (.inr ht) rfl rfl rfl
    · cases e1
  · rename_i xs
    split at e1
    · rename_i hx2
      cases e1
      obtain ⟨l, vs, rfl, h4, h5⟩ := pk.lst
      obtain rfl : u = Value.ref l := r1
      obtain ⟨its, rv, ht, _⟩ := I1.list (.inl h4)
      exact fin l vs xs its rv h5 hx2 (.inl ht.isList) rfl rfl rfl
    · cases e1
end
end Pi

set_option Elab.async false
set_option linter.all false
set_option maxRecDepth 100000
set_option maxHeartbeats 4000000
/-! PiFc: sorted(xs, key=lambda y: y[0] * (m // y[1])). -/
namespace Pi
open PySem PySem.Spec PyProof.Rows L2
variable [HasT]

/-- the lambda's body -/
def lamBody (y m : Str) (p1 p2 p3 p4 p5 p6 p7 p8 p9 : Pos) (k0 k1 : Nat) : Expr :=
  .BinOp (.Subscript (.Name y p1) (.Constant (.int 0) k0 p2) p3) .Mult (.BinOp (.Name m p4) .FloorDiv (.Subscript (.Name y p5) (.Constant (.int 1) k1 p6) p7) p8) p9
def lamPar (y : Str) (ap : Pos) : Arguments := ⟨[], [⟨y, none, ap⟩], none, [], [], none, []⟩
def lamSc (sc scope : Scope) (y m : Str) : Bool := decide (scope.kind = .function) && !scope.isCoroutine && !scope.isGenerator && decide (scope.names.lookup y = some .local) && decide (scope.names.lookup m = some .free) && decide (sc.names.lookup m = some .cell) &&
  (scope.names.all fun z => decide (z = (y, .local)) || decide (z = (m, .free))) && !decide (y = m) && !(y == ("__debug__" : Str)) && !(m == ("__debug__" : Str)) && !(m == ("__classdict__" : Str))
structure LamOk (sc scope : Scope) (y m : Str) : Prop where
  kind : scope.kind = .function
  co : scope.isCoroutine = false
  gen : scope.isGenerator = false
  loc : scope.names.lookup y = some .local
  fre : scope.names.lookup m = some .free
  cel : sc.names.lookup m = some .cell
  all : ∀ z ∈ scope.names, z = (y, .local) ∨ z = (m, .free)
  ne : y ≠ m
  yd : (y == ("__debug__" : Str)) = false
  md : (m == ("__debug__" : Str)) = false
  mc : (m == ("__classdict__" : Str)) = false
theorem lamSc_ok {sc scope : Scope} {y m : Str} (h : lamSc sc scope y m = true) : LamOk sc scope y m := by
  unfold lamSc at h
  simp only [Bool.and_eq_true, Bool.or_eq_true, Bool.not_eq_true', decide_eq_true_eq, decide_eq_false_iff_not, List.all_eq_true] at h
  obtain ⟨⟨⟨⟨⟨⟨⟨⟨⟨⟨h1, h2⟩, h3⟩, h4⟩, h5⟩, h6⟩, h7⟩, h8⟩, h9⟩, h10⟩, h11⟩ := h
  exact ⟨h1, h2, h3, h4, h5, h6, h7, h8, h9, h10, h11⟩
section
variable {prog : Program} {w : World} {A : Around} {s : Shared}
/-- the body in its frame -/
theorem key_body {env : PySem.Env} {E : Value → Shared → Prop} {Q : Value → Shared → Prop} {y m : Str} {p1 p2 p3 p4 p5 p6 p7 p8 p9 : Pos} {k0 k1 : Nat} {c b : Addr} {M t bt : Int} {tM tt tbt : Tok} {mm : Str → Option Value} (yd : (y == ("__debug__" : Str)) = false) (md : (m == ("__debug__" : Str)) = false) (mc : (m == ("__classdict__" : Str)) = false)
    (hk : env.scope.kind = .function) (hy : env.kindOf y = some .local) (hm : env.kindOf m = some .free) (hcl : env.cells.lookup m = some c) (hns : s.heap.Ns env.locals mm) (hv : mm y = some (.ref b)) (hc : s.heap.IsCell c (some (.int M tM))) (hb : IsTup s.heap b #[.int t tt, .int bt tbt]) (hko : divOk bt ∧ mulOk t (M / bt))
    (h : ∀ u tk, Q (.int (t * (M / bt)) u) { s with toks := tk }) : wpAny (model prog w) A (PySem.eval (lamBody y m p1 p2 p3 p4 p5 p6 p7 p8 p9 k0 k1) env) Q E s := by
  have sub : ∀ {s : Shared} {Q : Value → Shared → Prop} {p p' p'' : Pos} {k : Nat} (j : Nat) (v : Value), s.heap.Ns env.locals mm → IsTup s.heap b #[.int t tt, .int bt tbt] → j < 2 → (#[.int t tt, .int bt tbt] : Array Value)[j]? = some v → (∀ tk, Q v { s with toks := tk }) →
      wpAny (model prog w) A (PySem.eval (.Subscript (.Name y p) (.Constant (.int (j : Int)) k p') p'') env) Q E s := by
    intro s Q p p' p'' k j v hns hb hj hv' h
    refine wpAny_Subscript_Constant_late (wpAny_Name (wpAny_loadName_local hk hy hns hv (wpAny_Constant_int ⟨"tuple", _, PySem.F.slot_tuple_getitem.lookup, hb.typeIs, ?_⟩)) yd)
    refine PyProof.Rows.getItem_tuple hb (by omega) (by omega) (j := j) ?_ hv' (h _)
    unfold seqIndex?
    have : (#[Value.int t tt, .int bt tbt] : Array Value).size = 2 := rfl
    rw [this]
    rcases (show j = 0 ∨ j = 1 by omega) with e | e <;> (subst e; rfl)
  unfold lamBody
  refine wpAny_BinOp (sub 0 (.int t tt) hns hb (by decide) rfl fun tk1 => ?_)
  refine wpAny_BinOp (wpAny_Name (wpAny_loadName_free hk hm hcl (s := { s with toks := tk1 }) hc ?_ mc) md)
  refine sub (s := { s with toks := tk1 }) 1 (.int bt tbt) hns hb (by decide) rfl fun tk2 => ?_
  have hbt : bt ≠ 0 := by have := hko.1.1; omega
  refine PyProof.Rows.floordiv_int hbt ?_ (.inl (PyProof.noPylong_of_log2 hko.1.2))
  have ed : M.fdiv bt = M / bt := Int.fdiv_eq_ediv_of_nonneg _ (Int.le_of_lt hko.1.1)
  rw [ed]
  exact PyProof.Rows.mul_int (h _ _) (mulOk_ok hko.2)
/-- a call of the lambda: y[0] * (m // y[1]) -/
theorem key_call {sc scope : Scope} {y m : Str} {params : Arguments} {p1 p2 p3 p4 p5 p6 p7 p8 p9 : Pos} {k0 k1 : Nat} {q : Str} {cl : List (Str × Addr)} {pm ctv : Value} {f c' c b : Addr} {M t bt : Int} {tM tt tbt : Tok} (L : LamOk sc scope y m) (hroom : A.depth < recursionLimit)
    (hbind : ∀ v, bindArgs (PySem.W.kla_fn "<lambda>" q params (lamBody y m p1 p2 p3 p4 p5 p6 p7 p8 p9 k0 k1) scope cl pm (.ref c') ctv) ⟨[v], []⟩ = pure [(y, v)])
    (hf : s.heap.get? f = some (PySem.W.kla_obj "<lambda>" q params (lamBody y m p1 p2 p3 p4 p5 p6 p7 p8 p9 k0 k1) scope cl pm c' ctv)) (hcd : s.heap.CodeRec (.ref c') q) (hlim : s.heap.NoLimit)
    (hcl : cl.lookup m = some c) (hc : s.heap.IsCell c (some (.int M tM))) (hb : IsTup s.heap b #[.int t tt, .int bt tbt]) (hko : divOk bt ∧ mulOk t (M / bt)) :
    wpAny (model prog w) A (call (.ref f) [.ref b]) (PySem.W.KeyPure (.int (t * (M / bt))) s) (fun _ _ => False) s := by
  refine wpAny_call (codeAny_mono (R := fun r s' => match r with | .ok (.ret v) => PySem.W.KeyPure (.int (t * (M / bt))) s v s' | _ => False) (PySem.W.kla_callFunE hroom hf rfl L.co L.gen rfl hcd ?_) fun r s' h => ?_)
  · rw [hbind]
    refine wpAny_pure (wpAny_newFunctionEnv (fun z hz => ?_) (fun z hz => ?_) (fun h₁ hns hsb => ⟨hlim.fresh _ hsb, ?_⟩) L.kind)
    · rcases L.all z hz with e | e <;> (rw [e]; simp)
    · simp only [List.mem_singleton] at hz
      rw [hz]; exact L.loc
    · have kp : ∀ b o, s.heap.get? b = some o → h₁.get? b = some o := fun b o e => hsb.extBut b o (Nat.ne_of_lt (Heap.lt_size e)) (Heap.get?_push_of_some _ e)
      refine PySem.W.kla_codeExpr ?_
      refine key_body (s := { s with heap := h₁, toks := _ }) (c := c) (b := b) (tM := tM) (tt := tt) (tbt := tbt) L.yd L.md L.mc L.kind L.loc L.fre hcl hns ?_ (let ⟨o, ho, hd⟩ := hc; ⟨o, kp _ _ ho, hd⟩) (hb.keeps kp) hko fun u tk => ?_
      · simp
      · exact ⟨h₁, tk, rfl, kp, .int _ _⟩
  · cases r with
    | error e => exact h.elim
    | ok fl =>
      cases fl with
      | ret u => exact h
      | next => exact h.elim
      | brk => exact h.elim
      | cont => exact h.elim
end

section
variable {X : Cx} {pins : List (Addr × Obj)} {σ : L2.St} {H : Hp} {s : Shared}
/-- the lambda is made: what is tracked behind it, told whole -/
theorem lam_mk {c P : Addr} {params : Arguments} {body : Expr} {scope : Scope} {pos : Pos} {E : Value → Shared → Prop} {Q : Value → Shared → Prop} (I : Inv X pins σ H s) (TB : LamX.TabB X.base X.mg c P) (hcode : X.env.code = .ref c)
    (hT : TabsIn [(P, X.env.qual ++ "<lambda>")] H) (hdef : defaultsOf params X.env = ([], [])) (hfree : ∀ y ∈ scope.names, y.2 = .free → ∃ c, X.env.cells.lookup y.1 = some c)
    (h : ∀ (f c' : Addr) (pm ctv : Value) (H1 : Hp) (s' : Shared), Inv X pins σ H1 s' → LamX.ExtN H H1 → TabsIn [(P, X.env.qual ++ "<lambda>")] H1 → (∀ b, H b ≠ none → H1 b ≠ none) →
      s'.heap.get? f = some (PySem.W.kla_obj "<lambda>" (X.env.qual ++ "<lambda>") params body scope (cloFrom X.env.cells scope.names []) pm c' ctv) → H1 c' = some (LamX.CodeO c' (X.env.qual ++ "<lambda>")) → Q (.ref f) s') :
    wpAny (model X.prog X.w) X.A (PySem.eval (.Lambda params body scope pos) X.env) Q E s := by
  obtain ⟨ps, hP, ht, ha⟩ := hT.tabs _ List.mem_cons_self
  refine PySem.W.kla_eval hdef ?_
  have bP : s.heap.BuiltinsAt X.mg P := TB.bm.keeps I.bk
  have hP' : s.heap.get? P = some { cls := .none, data := .fields ps } := I.hok P _ hP
  cases hc : codeAmong pos ps.toList with
  | some cv =>
    obtain ⟨c', e, hco⟩ := ha pos cv hc
    subst e
    refine PySem.W.kla_makeFunctionHit (mg := X.mg) (c := c) (P := P) (ps := ps) (closure_ok hfree) I.ok.glob (I.mod.glob.keeps I.bk) hcode (TB.code.keeps I.bk) hP' ht hc bP fun ctv h' tk hx hsz => ?_
    exact h h'.objs.size c' ((X.mg "__name__").getD .none) ctv H _ (I.kept fun b o e => Heap.get?_push_of_some _ (hx b o e)) (LamX.ExtN.refl H) hT (fun _ h => h) (Heap.get?_push_size _ rfl) hco
  | none =>
    refine PySem.W.kla_makeFunction (mg := X.mg) (c := c) (P := P) (ps := ps) (closure_ok hfree) I.ok.glob (I.mod.glob.keeps I.bk) hcode (TB.code.keeps I.bk) hP' ht hc TB.gP bP fun c' ctv h' tk hx hge hlt hrec htb => ?_
    obtain ⟨c2, oc, vs, t, e2, hoc, hd, hv⟩ := hrec
    cases e2
    have nC : H c' = none := I.hok.fresh hge
    have nPc : P ≠ c' := ne_of_none hP nC
    have I1 := LamX.inv_table (t' := tk) (q := X.env.qual ++ "<lambda>") (more := #[rawInt pos.line, rawInt pos.col, .ref c']) (h' := h'.push (PySem.W.kla_obj "<lambda>" (X.env.qual ++ "<lambda>") params body scope (cloFrom X.env.cells scope.names []) ((X.mg "__name__").getD .none) c' ctv)) I hP
      (fun b o hb e => Heap.get?_push_of_some _ (hx b o hb e)) (Heap.get?_push_of_some _ htb) hge ⟨oc, vs, t, Heap.get?_push_of_some _ hoc, hd, hv⟩
    have hE : LamX.ExtN H (upd (upd H P (.tbl (ps ++ #[rawInt pos.line, rawInt pos.col, .ref c']))) c' (LamX.CodeO c' (X.env.qual ++ "<lambda>"))) := fun b o e n => by
      rw [upd_ne (ne_of_none e nC), upd_ne (fun z => n ps (Option.some.inj (e.symm.trans (by rw [z]; exact hP))))]
      exact e
    have eL : (ps ++ #[rawInt pos.line, rawInt pos.col, .ref c']).toList = ps.toList ++ [rawInt pos.line, rawInt pos.col, .ref c'] := by simp
    refine h h'.objs.size c' ((X.mg "__name__").getD .none) ctv _ _ I1 hE ⟨fun p hp => ?_⟩ (fun b hb => ?_) (Heap.get?_push_size _ rfl) upd_same
    · rw [List.mem_singleton] at hp
      rw [hp]
      refine ⟨_, by rw [upd_ne nPc, upd_same], by rw [eL]; exact PySem.TriplesOk_snoc _ _ _ _ ht, fun p' cv hcv => ?_⟩
      rw [eL] at hcv
      rcases LamX.among_app _ ht hcv with z | z
      · obtain ⟨c0, e1, e2⟩ := ha p' cv z
        exact ⟨c0, e1, hE _ _ e2 LamX.codeO_ne⟩
      · exact ⟨c', z, upd_same⟩
    · by_cases z : b = c'
      · rw [z, upd_same]; simp
      · rw [upd_ne z]
        by_cases z2 : b = P
        · rw [z2, upd_same]; simp
        · rwa [upd_ne z2]
end
/-- only a table has grown -/
theorem Post.grown {K F σ env U} {H H' : Hp} (g : Gd K F σ env U H) (e : LamX.ExtN H H') (t : TabsT H') (live : ∀ b, H b ≠ none → H' b ≠ none) : Post K F σ env U H σ env U H' := by
  have tr : Tr (Own σ env) U H U H' := ⟨fun b o h _ n => e b o h n, fun _ => t, live, fun b h => .inl h, fun b h _ => h⟩
  refine ⟨tr, ⟨g.len, fun i d h => ?_, fun i l d h => ?_, g.inj, fun b h => live b (g.live b h), fun b h => g.frs b (Classical.byContradiction fun z => live b z h), t⟩, fun b h => .inl h⟩
  · obtain ⟨v, e1, r⟩ := g.sh i d h
    exact ⟨v, e1, r.mono tr g.hO⟩
  · obtain ⟨a, e1, u, o, f⟩ := g.ow i l d h
    refine ⟨a, e1, u, ?_, f⟩
    cases d <;> first | exact o.elim | (obtain ⟨vs, e2, r⟩ := o; exact ⟨vs, e _ _ e2 nt_lst, r.mono tr g.hO⟩)
/-- a pair that is sorted -/
def PairR (K : PySem.W.Frag) (U : Addr → Prop) (H : Hp) (h : Heap) (M : Int) (v : Value) (d : D) : Prop := ∃ (b : Addr) (t bt : Int) (tt tbt : Tok), v = .ref b ∧ d = .tup [.int t, .int bt] ∧ Rep K U H (.ref b) d ∧ IsTup h b #[.int t tt, .int bt tbt] ∧ divOk bt ∧ mulOk t (M / bt)
theorem keyN_some {M : Int} {d : D} (h : (keyN M d).isSome = true) : ∃ t b, d = .tup [.int t, .int b] ∧ divOk b ∧ mulOk t (M / b) ∧ keyN M d = some (t * (M / b)) := by
  unfold keyN at h ⊢
  split at h
  · split at h
    · rename_i t b hk
      exact ⟨t, b, rfl, hk.1, hk.2, by rw [if_pos hk]⟩
    · simp at h
  · simp at h
section
variable {X : Cx} {B : Sx} {L : Lib} {pins : List (Addr × Obj)} {σ : L2.St} {H : Hp} {s : Shared} {U : Addr → Prop}
theorem pairs_of {M : Int} (hK : X.K = B.K) (I : Inv X pins σ H s) : ∀ {vs : List V} {ds : List D} {us : List Value}, RepAll B.K U H vs ds → Vals vs us → (ds.all fun d => (keyN M d).isSome) = true → PySem.W.EachIs (PairR B.K U H s.heap M) us ds
  | [], _, _, .nil, .nil, _ => .nil
  | v :: vs, _, _, .cons (d := d) (ds := ds) r t, .cons rv t2, h => by
    simp only [List.all_cons, Bool.and_eq_true] at h
    refine .cons ?_ (pairs_of hK I t t2 h.2)
    obtain ⟨a, b, rfl, h1, h2, _⟩ := keyN_some h.1
    have r0 := r
    obtain ⟨ad, ws, rfl, h4, h5⟩ := (Pk.sh r).tup
    have ew := reps_ints (bs := [a, b]) h5 rfl
    subst ew
    cases rv
    obtain ⟨its, rw', ht, hz⟩ := I.tuple (hK ▸ h4)
    obtain ⟨tt, tbt, rfl⟩ := Vals.int2 rw'
    exact ⟨ad, a, b, tt, tbt, rfl, rfl, r0, ht, h1, h2⟩
theorem pairs_reps {h : Heap} {M : Int} : ∀ {us : List Value} {ds : List D}, PySem.W.EachIs (PairR B.K U H h M) us ds → ∃ vs, Vals vs us ∧ RepAll B.K U H vs ds
  | _, _, .nil => ⟨[], .nil, .nil⟩
  | _, _, .cons h t => by
    obtain ⟨vs, r1, r2⟩ := pairs_reps t
    obtain ⟨b, _, _, _, _, rfl, _, r, _⟩ := h
    exact ⟨.ref b :: vs, .cons rfl r1, .cons r r2⟩
theorem sortN_eq (M : Int) (xs : List D) : xs.mergeSort (PySem.W.dataLe false fun d => PyData.int ((keyN M d).getD 0)) = sortN M xs := by
  rw [PySem.W.dataLe_int]
  rfl
/-- sorted(xs, key=lambda y: y[0] * (m // y[1])) -/
theorem snd_sortk {a : Expr} {a' : E} {y m : Str} {mi kd : Nat} {params : Arguments} {p1 p2 p3 p4 p5 p6 p7 p8 p9 : Pos} {k0 k1 : Nat} {lscope : Scope} {p pos lpos kpos : Pos} {c P : Addr} (hK : X.K = B.K) (hu : X.A.units + 20 < cLine) (hroom : X.A.depth < recursionLimit)
    (hg : Gl X "sorted") (hm : X.mg "sorted" = none) (ha : PE X a (rdA B L a')) (hs : starEach (a :: []) X.env = (false, PySem.eval a X.env) :: starEach [] X.env) (hN : X.N[mi]? = some m) (LO : LamOk X.env.scope lscope y m)
    (hbind : ∀ (q : Str) (cl : List (Str × Addr)) (pm cv ctv v : Value), bindArgs (PySem.W.kla_fn "<lambda>" q params (lamBody y m p1 p2 p3 p4 p5 p6 p7 p8 p9 k0 k1) lscope cl pm cv ctv) ⟨[v], []⟩ = pure [(y, v)]) (hdef : defaultsOf params X.env = ([], []))
    (TB : LamX.TabB X.base X.mg c P) (hcode : X.env.code = .ref c) (hT : HasT.T = [(P, X.env.qual ++ "<lambda>")]) :
    PE X (.Call (.Name "sorted" p) [a] [⟨some "key", .Lambda params (lamBody y m p1 p2 p3 p4 p5 p6 p7 p8 p9 k0 k1) lscope lpos, kpos⟩] pos) (rdE B L (.sortk a' mi)) := by
  refine ⟨fun pins s σ H Q I ⟨env, U, g, h⟩ => ?_⟩
  simp only [eval] at h
  have key : rdA B L a' σ H fun v H1 => ∃ env1 U1 d k, Gd B.K B.F σ env1 U1 H1 ∧ Pk B.K U1 H1 v d ∧ env1[mi]? = some (.sh (.int k)) ∧ Kout B σ env1 U1 H1 (sortkD k d) Q := by
    refine ⟨env, U, g, (Wp.bind g h).imp fun x env1 U1 H1 _ p1 h1 v ok1 => ?_⟩
    cases e0 : env1[mi]? with
    | none => rw [e0] at h1; exact h1.elim
    | some sl =>
      rw [e0] at h1
      rcases sl with _ | d0 | ⟨_, _⟩ <;> try (exact h1.elim)
      cases d0 <;> try (exact h1.elim)
      rename_i k
      simp only at h1
      obtain ⟨r, e, h3⟩ := h1.pure
      cases e1 : x.peek env1 with
      | none => rw [e1] at e; cases e
      | some d =>
        rw [e1] at e
        exact ⟨env1, U1, d, k, p1.good, p1.good.peek ok1 e1, e0, r.1, r.2, e, fun v U' H' p3 vr => h3 U' H' p3 v (vr.start p1.back)⟩
  refine wpAny_Call_Name_kw (ld_blt I hg hm PyProof.Rows.boot_sorted ?_)
  refine PyProof.Rows.callWith_builtin_kwB (by rw [hs]; rfl) rfl ?_
  refine PyProof.Rows.evalArgs_kw2 rfl ?_ hs
  refine PyProof.Rows.args_cons (thn (ha.run pins s σ H _ I key) fun u s1 ⟨v, H1, I1, r1, env1, U1, d, k, g1, pk, ek, r, fr, er, kq⟩ => PyProof.Rows.args_nil ?_) hs
  have hT1 : TabsIn [(P, X.env.qual ++ "<lambda>")] H1 := hT ▸ g1.tab
  have hvis : ∀ z ∈ lscope.names, z.2 = .free → ∃ c, X.env.cells.lookup z.1 = some c := fun z hz e => by
    rcases LO.all z hz with q | q
    · rw [q] at e; cases e
    · rw [q]; exact I1.ok.has _ (.inl LO.cel)
  refine PyProof.Rows.kwAll_cons (lam_mk I1 TB hcode hT1 hdef hvis fun f c' pm ctv H2 s2 I2 eN T2 lv hf hco => PyProof.Rows.kwAll_nil ?_)
  have T2' : TabsT H2 := by
    show TabsIn HasT.T H2
    rw [hT]; exact T2
  have pg := Post.grown g1 eN T2' lv
  have g2 := pg.good
  cases d <;> simp only [sortkD] at er <;> try (cases er; done)
  rename_i xs
  split at er
  case isFalse => cases er
  rename_i hx
  cases er
  have pk2 : Pk B.K U1 H2 v (.lst xs) := by
    cases pk with
    | sh r => exact .sh (pg.rep g1 r)
    | ow r =>
      obtain ⟨ws, e2, r2⟩ := r
      exact .ow ⟨ws, eN _ _ e2 nt_lst, pg.reps g1 r2⟩
  obtain ⟨l, vs, rfl, h4, h5⟩ := pk2.lst
  obtain rfl : u = Value.ref l := r1
  obtain ⟨its, rv, ht, _⟩ := I2.list (.inl h4)
  have ei := pairs_of (M := k) hK I2 h5 rv hx.1
  -- the captured name
  obtain ⟨mm, hns, hloc⟩ := I2.loc
  obtain ⟨vk, e5, rk⟩ := g2.sh mi _ ek
  cases rk
  obtain ⟨uk, rku, lk⟩ := hloc mi m _ hN e5 (.inr (.inl LO.cel))
  obtain ⟨tk, rfl⟩ := rku
  have hcell : ∃ cc, X.env.cells.lookup m = some cc ∧ s2.heap.IsCell cc (some (.int k tk)) := by
    rcases lk with ⟨e6, _⟩ | ⟨_, cc, e6, e7⟩
    · have e6 : X.env.scope.names.lookup m = some .local := e6
      rw [LO.cel] at e6; cases e6
    · exact ⟨cc, e6, e7⟩
  obtain ⟨cc, hcc, hcv⟩ := hcell
  have hclo : (cloFrom X.env.cells lscope.names []).lookup m = some cc := by
    have hy : (m, NameKind.free) ∈ lscope.names := PySem.mem_of_lookup LO.fre
    obtain ⟨c0, e0⟩ := mem_lookup (cloFrom_has (cells := X.env.cells) (acc := []) hy)
    rcases cloFrom_mem (PySem.mem_of_lookup e0) with hm | ⟨h1, h2⟩
    · cases hm
    · have e2 : c0 = cc := by
        rw [h2, hcc] <;> rfl
      rw [e0, e2]
  obtain ⟨⟨oc, vsc, tc, hoc, hdc, hvc⟩, _, _⟩ := (show ObjOk X.prog X.w H2 s2.heap c' (LamX.CodeO c' (X.env.qual ++ "<lambda>")) from I2.hok c' _ hco)
  refine PySem.W.sorted_key_data (b := false) (bs := xs) (R := PairR B.K U1 H2 s2.heap k) (fun d => PyData.int ((keyN k d).getD 0)) ht.isList ei (PySem.W.AllAlike.of fun _ _ => by simp [PySem.W.alike]) (PySem.W.Sortable.others fun _ => ⟨fun z => (by cases z), fun _ z => (by cases z)⟩)
    (Nat.le_trans hx.2 line100) (fun x _ => by simp only [PyData.depth]; omega) (PyProof.Rows.ksk_s1 _ _) (fun _ => PyProof.Rows.ksk_l1 _ _) (fun _ => PyProof.Rows.ksk_t1 _ _) (fun v d hR _ hh tkk kp => ?_) fun out cn h' tkk kp hnone hD hlen eo => ?_
  · obtain ⟨b, t, bt, tt, tbt, rfl, rfl, _, hb, hd1, hd2⟩ := hR
    have ek : (keyN k (.tup [.int t, .int bt])).getD 0 = t * (k / bt) := by simp only [keyN]; rw [if_pos ⟨hd1, hd2⟩]; rfl
    rw [ek]
    exact key_call (s := { s2 with heap := hh, toks := tkk }) (c := cc) (tM := tk) (tt := tt) (tbt := tbt) LO (by show X.A.in1.in1.depth < _; exact hroom) (fun v => hbind _ _ _ _ _ v) (kp _ _ hf) ⟨c', oc, vsc, tc, rfl, kp _ _ hoc, hdc, hvc⟩ (I2.nolimit.keeps kp) hclo (let ⟨o, ho, hd⟩ := hcv; ⟨o, kp _ _ ho, hd⟩) (hb.keeps kp) ⟨hd1, hd2⟩
  · rw [sortN_eq] at eo
    obtain ⟨ws, rvo, rpo⟩ := pairs_reps eo
    have hz : ws.length ≤ sizeLine := by
      rw [Paired.length rvo, hlen]
      exact Nat.le_trans hx.2 line100
    have hn : H2 (s2.heap.objs.size + 1) = none := I2.hok.fresh (Nat.le_succ _)
    have J : Inv X pins σ (upd H2 (s2.heap.objs.size + 1) (.lst ws)) { s2 with heap := h', toks := tkk } :=
      I2.laid (t' := tkk) kp (Nat.le_succ _) ⟨hz, out, cn, rvo, hD⟩
    obtain ⟨p3, vr⟩ := new_lst g2 hn rpo
    exact ⟨.ref (s2.heap.objs.size + 1), _, J, rfl, kq _ _ _ (pg.trans g1 p3) (vr.start fun b e => Classical.byContradiction fun z => pg.tr.live b z e)⟩
end
end Pi

set_option Elab.async false
set_option linter.all false
set_option maxRecDepth 100000
set_option maxHeartbeats 4000000
/-! PiG: isinstance, calls of the text's defs. -/
namespace Pi
open PySem PySem.Spec PyProof.Rows L2
variable [HasT]

/-! ### isinstance -/
def D.tyn : D → String
  | .non => "NoneType" | .bl _ => "bool" | .int _ => "int" | .str _ => "str" | .tup _ => "tuple" | .lst _ => "list"
def Ty.n : Ty → String
  | .int => "int" | .bool => "bool" | .str => "str" | .tuple => "tuple" | .list => "list"
theorem kit_table : ∀ a ∈ ["NoneType", "bool", "int", "str", "tuple", "list"], ∀ t ∈ [Ty.int, .bool, .str, .tuple, .list],
    kitB a t.n = some ((a == t.n) || (a == "bool" && t.n == "int")) := by decide +kernel
theorem kit_D (K : PySem.W.Frag) (d : D) (t : Ty) : PySem.W.kitOne K (.type d.tyn) (.type t.n) = some (tyD d t) := by
  refine kit_ty ?_
  have h := kit_table d.tyn (by cases d <;> simp [D.tyn]) t (by cases t <;> simp)
  rw [h]
  cases d <;> cases t <;> rfl
theorem kit_any (K : PySem.W.Frag) (d : D) : ∀ ts : List Ty, PySem.W.kitAny K (.type d.tyn) (ts.map fun t => Value.type t.n) = some (ts.any (tyD d))
  | [] => rfl
  | t :: ts => by
    rw [List.map_cons, List.any_cons]
    refine kitAny_cons (kit_D K d t) (fun h => ?_) (fun h => ?_)
    · rw [h, Bool.false_or]; exact kit_any K d ts
    · rw [h, Bool.true_or]
theorem Pk.ty {K : PySem.W.Frag} {U : Addr → Prop} {H : Hp} {v : V} {d : D} (h : Pk K U H v d) : TyX K H v (.type d.tyn) := by
  cases d with
  | non => rw [h.non]; exact .base .non
  | bl b => rw [h.bl]; exact .base (.bl b)
  | int i => rw [h.int]; exact .base (.int i)
  | str x => rw [h.str]; exact .base (.str x)
  | tup ds =>
    obtain ⟨a, vs, rfl, h1, _⟩ := h.tup
    rcases h1 with (h1 | ⟨o, h1⟩) | ⟨o, its, n, h1, h2, _⟩
    · exact .base (.tup h1)
    · exact .fTuple h1
    · exact .kTuple h1 h2
  | lst ds =>
    obtain ⟨a, vs, rfl, h1, _⟩ := h.lst
    rcases h1 with h1 | ⟨o, h1⟩
    · exact .base (.lst h1)
    · exact .base (.frz h1)
section
variable {X : Cx} {B : Sx} {L : Lib} {a b c : Expr} {a' b' c' : E} {pos p p2 p3 : Pos}
theorem snd_isin1 {t : Ty} {tn : Str} (hK : X.K = B.K) (hg : Gl X "isinstance") (hm : X.mg "isinstance" = none) (hg2 : Gl X tn) (hm2 : X.mg tn = none) (hv : bootBuiltins tn = some (.type t.n)) (hn : tn ≠ "__name__") (hd : (tn == ("__debug__" : Str)) = false)
    (ha : PE X a (rdA B L a')) (hs : starEach (a :: [.Name tn p2]) X.env = (false, PySem.eval a X.env) :: starEach [.Name tn p2] X.env) :
    PE X (.Call (.Name "isinstance" p) [a, .Name tn p2] [] pos) (rdE B L (.isin a' [t])) := by
  refine (pe_callB call_isi hg hm boot_isinstance (pa_cons ha (pa_cons (pe_bltn (v := .ty t.n) hg2 hm2 hv rfl hn hd) pa_nil) hs) (by decide) (by decide) hs rfl).imp fun σ H Q h => ?_
  have q := rd_1 (f := fun d => some (.bl ([t].any (tyD d)), false)) (fun env => by
    simp only [eval]
    congr 1
    funext x env1
    cases x.peek env1 <;> rfl) h
  obtain ⟨env, U, g, w⟩ := q
  refine ⟨env, U, g, w.imp fun x env1 U1 H1 _ p1 h1 v ok1 => ?_⟩
  obtain ⟨env2, U2, d, g2, pk, k⟩ := h1 v ok1
  refine ⟨v, .ty t.n, .type d.tyn, .type t.n, tyD d t, rfl, .ty _, hK ▸ pk.ty, kit_D _ d t, ?_⟩
  exact k.sc g2 (by simp) (.bl _)
theorem pa_tys : ∀ {es : List Expr} {ts : List Ty}, Paired (fun (e : Expr) (t : Ty) => ∃ tn p, e = .Name tn p ∧ Gl X tn ∧ X.mg tn = none ∧ bootBuiltins tn = some (.type t.n) ∧ tn ≠ "__name__" ∧ (tn == ("__debug__" : Str)) = false) es ts →
    PA X es (fun _ H Q => Q (ts.map fun t => V.ty t.n) H)
  | _, _, .nil => pa_nil
  | _, _, .cons (b := t) h r => by
    obtain ⟨tn, p, rfl, h1, h2, h3, h4, h5⟩ := h
    exact (pa_cons (pe_bltn (v := .ty t.n) h1 h2 h3 rfl h4 h5) (pa_tys r) rfl).imp fun σ H Q q => q
theorem vals_tys : ∀ ts : List Ty, Paired ClsV (ts.map fun t => V.ty t.n) (ts.map fun t => Value.type t.n)
  | [] => .nil
  | t :: ts => .cons (.ty _) (vals_tys ts)
theorem snd_isinT {ts : List Ty} {tes : List Expr} {k : Nat} (hK : X.K = B.K) (hg : Gl X "isinstance") (hm : X.mg "isinstance" = none)
    (ht : Paired (fun (e : Expr) (t : Ty) => ∃ tn p, e = .Name tn p ∧ Gl X tn ∧ X.mg tn = none ∧ bootBuiltins tn = some (.type t.n) ∧ tn ≠ "__name__" ∧ (tn == ("__debug__" : Str)) = false) tes ts) (hz : ts.length ≤ 1000)
    (ha : PE X a (rdA B L a')) (hs : starEach (a :: [.Tuple tes k p2]) X.env = (false, PySem.eval a X.env) :: starEach [.Tuple tes k p2] X.env) :
    PE X (.Call (.Name "isinstance" p) [a, .Tuple tes k p2] [] pos) (rdE B L (.isin a' ts)) := by
  refine (pe_callB call_isiT hg hm boot_isinstance (pa_cons ha (pa_cons (pe_tup (pa_tys ht)) pa_nil) hs) (by decide) (by decide) hs rfl).imp fun σ H Q h => ?_
  have q := rd_1 (f := fun d => some (.bl (ts.any (tyD d)), false)) (fun env => by
    simp only [eval]
    congr 1
    funext x env1
    cases x.peek env1 <;> rfl) h
  obtain ⟨env, U, g, w⟩ := q
  refine ⟨env, U, g, w.imp fun x env1 U1 H1 _ p1 h1 v ok1 => ⟨?_, fun tp hp => ?_⟩⟩
  · rw [List.length_map]; exact Nat.le_trans hz (Nat.le_trans (by decide) line100)
  obtain ⟨env2, U2, d, g2, pk, r, fr, e, q⟩ := h1 v ok1
  cases e
  obtain ⟨p2, kk⟩ := Post.new (o := .tup (ts.map fun t => V.ty t.n)) g2 hp
  have pk' : Pk B.K U2 (upd H1 tp (.tup (ts.map fun t => V.ty t.n))) v d := by
    cases pk with
    | sh r => exact .sh (p2.rep g2 r)
    | ow r => cases d <;> first | exact r.elim | (obtain ⟨ws, e, r2⟩ := r; exact .ow ⟨ws, kk _ _ e, p2.reps g2 r2⟩)
  exact ⟨v, tp, _, .type d.tyn, _, ts.any (tyD d), rfl, upd_same, vals_tys ts, hK ▸ pk'.ty, kit_any _ d ts, q _ U2 _ p2 (.bl _)⟩
end

/-! ### calls -/
abbrev sgOf (vs : List V) : Sg := vs.map some
/-- the arguments as a def finds them -/
structure ArgsOk (K : PySem.W.Frag) (U : Addr → Prop) (H : Hp) (vs : List V) (as : List Sl) : Prop where
  good : Gd K (fun _ => True) (sgOf vs) as U H
  no : ∀ (i : Nat), as[i]? ≠ some .no
  fl : ∀ (i : Nat) (l : Bool) (d : D), as[i]? = some (.ow l d) → l = false
structure CPost (K : PySem.W.Frag) (U : Addr → Prop) (H : Hp) (vs : List V) (as : List Sl) (ps : List Sl) (U' : Addr → Prop) (H' : Hp) : Prop where
  tr : Tr (Own (sgOf vs) as) U H U' H'
  live : ∀ b, U' b → H' b ≠ none
  ow : ∀ (i : Nat) (l l' : Bool) (d d' : D), as[i]? = some (.ow l d) → ps[i]? = some (.ow l' d') → ∃ a, vs[i]? = some (.ref a) ∧ U' a ∧ OwnRep K U' H' a d'
  sh : ∀ (i : Nat) (l : Bool) (d d' : D), as[i]? = some (.ow l d) → ps[i]? = some (.sh d') → ∃ v, vs[i]? = some v ∧ Rep K U' H' v d'
  len : ps.length = as.length
def CVal (K : PySem.W.Frag) (vs : List V) (as : List Sl) (U' : Addr → Prop) (H' H : Hp) (v : V) (d : D) : Bool → Prop
  | false => Rep K U' H' v d
  | true => ∃ a, v = .ref a ∧ U' a ∧ OwnRep K U' H' a d ∧ H a = none
abbrev XRt := Exc → Value → Option Addr → (Addr → Prop) → Hp → Prop
def spF (K : PySem.W.Frag) (XR : XRt) (np : Nat) (C : List Sl → CRes) : Sp := fun vs H Q E => ∃ as U, vs.length = np ∧ as.length = np ∧ ArgsOk K U H vs as ∧
  match C as with
  | .ok d fr ps => ∀ v U' H', CPost K U H vs as ps U' H' → CVal K vs as U' H' H v d fr → Q v H'
  | .ex x => ∀ c dx U' H', Tr (Own (sgOf vs) as) U H U' H' → (∀ b, U' b → H' b ≠ none) → XR x c dx U' H' → E c dx H'
  | .bad => False

theorem sg_get {vs : List V} {i : Nat} {v : V} : (sgOf vs)[i]? = some (some v) ↔ vs[i]? = some v := by
  rw [List.getElem?_map]
  cases vs[i]? <;> simp

/-- what the taking of arguments does: the rest of the frame, the arguments -/
structure Took (K : PySem.W.Frag) (F : Addr → Prop) (σ : Sg) (env : Env) (U : Addr → Prop) (H : Hp) (vs : List V) (as : List Sl) (t : List (Option (Nat × Bool))) (env' : Env) (U' : Addr → Prop) : Prop where
  len : vs.length = as.length
  tlen : t.length = as.length
  post : Post K F σ env U H σ env' U' H
  shr : ∀ (i : Nat) (d : D), as[i]? = some (.sh d) → ∃ v, vs[i]? = some v ∧ Rep K U' H v d
  tk : ∀ (i j : Nat) (l : Bool), t[i]? = some (some (j, l)) → ∃ a d, vs[i]? = some (.ref a) ∧ as[i]? = some (.ow false d) ∧ σ[j]? = some (some (.ref a)) ∧ U' a ∧ OwnRep K U' H a d ∧ Own σ env a ∧ ¬ Own σ env' a ∧ (l = true → F a) ∧ j < env'.length
  nt : ∀ (i : Nat) (l : Bool) (d : D), as[i]? = some (.ow l d) → ∃ j l', t[i]? = some (some (j, l'))
  no : ∀ (i : Nat), as[i]? ≠ some .no
  fl : ∀ (i : Nat) (l : Bool) (d : D), as[i]? = some (.ow l d) → l = false
  ap : ∀ (i j i' j' : Nat) (l l' : Bool), t[i]? = some (some (j, l)) → t[i']? = some (some (j', l')) → vs[i]? = vs[i']? → i = i'
theorem Own.wo_post {K F σ env U H σ1 env1 U1 H1} (p : Post K F σ env U H σ1 env1 U1 H1) (g : Gd K F σ env U H) {a : Addr} (h : ¬ Own σ env a) (hu : U a) : ¬ Own σ1 env1 a := fun z => by
  rcases p.own a z with y | y
  · exact h y
  · exact g.live a hu y
/-- a slot's list is handed out -/
theorem Post.take {K F σ env U H} {i : Nat} {l : Bool} {d : D} (g : Gd K F σ env U H) (e : env[i]? = some (.ow l d)) : ∃ a, σ[i]? = some (some (.ref a)) ∧ Post K F σ env U H σ (env.set i .no) U H ∧ U a ∧ OwnRep K U H a d ∧ Own σ env a ∧ ¬ Own σ (env.set i .no) a ∧ (l = true → F a) := by
  obtain ⟨a, e1, u, o, f⟩ := g.ow i l d e
  have ha : Own σ env a := ⟨i, l, d, e, e1⟩
  refine ⟨a, e1, ⟨Tr.refl _ _ _, ⟨by simpa using g.len, fun j d' h => ?_, fun j l' d' h => ?_, fun j k l1 l2 d1 d2 b h1 h2 s1 s2 => ?_, g.live, g.frs, g.tab⟩, fun b h => .inl (own_set (by simp) h)⟩, u, o, ha, fun ⟨j, l', d', h, s⟩ => ?_, f⟩
  · rcases get_set_ow h with ⟨_, q⟩ | ⟨_, q⟩
    · cases q
    · exact g.sh j d' q
  · rcases get_set_ow h with ⟨_, q⟩ | ⟨_, q⟩
    · cases q
    · exact g.ow j l' d' q
  · rcases get_set_ow h1 with ⟨_, q⟩ | ⟨_, q1⟩
    · cases q
    · rcases get_set_ow h2 with ⟨_, q⟩ | ⟨_, q2⟩
      · cases q
      · exact g.inj j k _ _ _ _ b q1 q2 s1 s2
  · rcases get_set_ow h with ⟨_, q⟩ | ⟨n, q⟩
    · cases q
    · exact n (g.inj i j _ _ _ _ a e q e1 s)
theorem aoks_cons {K σ U H v vs x xs} (h : AOks K σ U H (v :: vs) (x :: xs)) : AOk K σ U H v x ∧ AOks K σ U H vs xs := by cases h with | cons a b => exact ⟨a, b⟩

theorem Took.cons0 {K F σ env U H vs as t env' U'} {v : V} {s : Sl} (T : Took K F σ env U H vs as t env' U') (hs : ∀ l d, s ≠ .ow l d) (hn : s ≠ .no) (hsh : ∀ d, s = .sh d → Rep K U' H v d) : Took K F σ env U H (v :: vs) (s :: as) (none :: t) env' U' := by
  refine ⟨by simp [T.len], by simp [T.tlen], T.post, fun i d e => ?_, fun i j l e => ?_, fun i l d e => ?_, fun i e => ?_, fun i l d e => ?_, fun i j i' j' l l' e e' ev => ?_⟩
  · cases i with
    | zero => simp at e; exact ⟨v, rfl, hsh d e⟩
    | succ i => simp at e; simpa using T.shr i d e
  · cases i with
    | zero => simp at e
    | succ i => simp at e; simpa using T.tk i j l e
  · cases i with
    | zero => simp at e; exact absurd e (hs l d)
    | succ i => simp at e; simpa using T.nt i l d e
  · cases i with
    | zero => simp at e; exact hn e
    | succ i => simp at e; exact T.no i e
  · cases i with
    | zero => simp at e; exact absurd e (hs l d)
    | succ i => simp at e; exact T.fl i l d e
  · cases i with
    | zero => simp at e
    | succ i =>
      cases i' with
      | zero => simp at e'
      | succ i' => simp at e e' ev; rw [T.ap i j i' j' l l' e e' ev]

theorem takes_ok {K F σ} : ∀ {xs : List (Arg × Bool)} {vs : List V} {env env' : Env} {U : Addr → Prop} {H : Hp} {as : List Sl} {t : List (Option (Nat × Bool))},
    Gd K F σ env U H → AOks K σ U H vs (xs.map (·.1)) → takes xs env = some (as, t, env') → ∃ U', Took K F σ env U H vs as t env' U'
  | [], vs, env, env', U, H, as, t, g, h, e => by
    cases h
    simp only [takes] at e
    cases e
    exact ⟨U, rfl, rfl, .refl g, fun i d e => by simp at e, fun i j l e => by simp at e, fun i l d e => by simp at e, fun i e => by simp at e, fun i l d e => by simp at e, fun i j i' j' l l' e => by simp at e⟩
  | (.val d, b) :: r, [], env, env', U, H, as, t, g, h, e => by cases h
  | (.val d, b) :: r, v :: vs, env, env', U, H, as, t, g, h, e => by
    obtain ⟨h1, h2⟩ := aoks_cons h
    simp only [takes] at e
    cases q : takes r env with
    | none => rw [q] at e; cases e
    | some z =>
      obtain ⟨as1, t1, env1⟩ := z
      rw [q] at e
      cases e
      obtain ⟨U', T⟩ := takes_ok g h2 q
      exact ⟨U', T.cons0 (by simp) (by simp) fun d' e => by cases e; exact T.post.rep g h1⟩
  | (.slot i, b) :: r, [], env, env', U, H, as, t, g, h, e => by cases h
  | (.slot i, b) :: r, v :: vs, env, env', U, H, as, t, g, h, e => by
    obtain ⟨h1, h2⟩ := aoks_cons h
    have h1 : σ[i]? = some (some v) := h1
    simp only [takes] at e
    cases hi : env[i]? with
    | none => rw [hi] at e; cases e
    | some s =>
      rw [hi] at e
      cases s with
      | no => cases e
      | sh d =>
        simp only at e
        cases q : takes r env with
        | none => rw [q] at e; cases e
        | some z =>
          obtain ⟨as1, t1, env1⟩ := z
          rw [q] at e
          cases e
          obtain ⟨U', T⟩ := takes_ok g h2 q
          obtain ⟨v', e1, r1⟩ := g.sh i d hi
          rw [h1] at e1; cases e1
          exact ⟨U', T.cons0 (by simp) (by simp) fun d' e => by cases e; exact T.post.rep g r1⟩
      | ow l d =>
        simp only at e
        cases b with
        | false =>
          rw [if_neg (by simp)] at e
          obtain ⟨a, e1, p1, r1⟩ := Post.share g hi
          rw [h1] at e1; cases e1
          cases q : takes r (env.set i (.sh d)) with
          | none => rw [q] at e; cases e
          | some z =>
            obtain ⟨as1, t1, env1⟩ := z
            rw [q] at e
            cases e
            obtain ⟨U', T⟩ := takes_ok p1.good (h2.mono g p1) q
            have r2 := T.post.rep p1.good r1
            refine ⟨U', (Took.cons0 (v := .ref a) (s := .sh d) ⟨T.len, T.tlen, p1.trans g T.post, T.shr, fun i j l e => ?_, T.nt, T.no, T.fl, T.ap⟩ (by simp) (by simp) fun d' e => by cases e; exact r2)⟩
            obtain ⟨a', d', h3, h4, h5, h6, h7, h8, h9⟩ := T.tk i j l e
            refine ⟨a', d', h3, h4, h5, h6, h7, ?_, h9⟩
            rcases p1.own a' h8 with z | z
            · exact z
            · obtain ⟨xs, q⟩ := h7.lst; rw [z] at q; cases q
        | true =>
          rw [if_pos rfl] at e
          obtain ⟨a, e1, p1, u1, o1, hown, hnot, f1⟩ := Post.take g hi
          rw [h1] at e1; cases e1
          cases q : takes r (env.set i .no) with
          | none => rw [q] at e; cases e
          | some z =>
            obtain ⟨as1, t1, env1⟩ := z
            rw [q] at e
            cases e
            obtain ⟨U', T⟩ := takes_ok p1.good (h2.mono g p1) q
            have n2 : ¬ Own σ env1 a := Own.wo_post T.post p1.good hnot u1
            have u2 : U' a := T.post.tr.res a u1 hnot
            have o2 : OwnRep K U' H a d := o1.mono T.post.tr p1.good.hO hnot
            have hil : i < env1.length := by
              have h3 := T.post.good.len
              have h4 := p1.good.len
              have : i < env.length := (List.getElem?_eq_some_iff.mp hi).1
              simp only [List.length_set] at h4
              omega
            have back : ∀ a', Own σ (env.set i .no) a' → OwnRep K U' H a' d → Own σ env a' := fun a' z _ => own_set (by simp) z
            refine ⟨U', by simp [T.len], by simp [T.tlen], p1.trans g T.post, fun k d' e => ?_, fun k j l' e => ?_, fun k l' d' e => ?_, fun k e => ?_, fun k l' d' e => ?_, fun k j k' j' l1 l2 e e' ev => ?_⟩
            · cases k with
              | zero => simp at e
              | succ k => simp at e; simpa using T.shr k d' e
            · cases k with
              | zero =>
                simp at e
                obtain ⟨rfl, rfl⟩ := e
                exact ⟨a, d, rfl, rfl, h1, u2, o2, hown, n2, f1, hil⟩
              | succ k =>
                simp at e
                obtain ⟨a', d', h3, h4, h5, h6, h7, h8, h9⟩ := T.tk k j l' e
                exact ⟨a', d', by simpa using h3, by simpa using h4, h5, h6, h7, own_set (by simp) h8, h9⟩
            · cases k with
              | zero => exact ⟨i, l, rfl⟩
              | succ k => simp at e; simpa using T.nt k l' d' e
            · cases k with
              | zero => simp at e
              | succ k => simp at e; exact T.no k e
            · cases k with
              | zero => simp at e; exact e.1
              | succ k => simp at e; exact T.fl k l' d' e
            · -- an address taken once is not owned any more
              have one : ∀ k j l', t1[k]? = some (some (j, l')) → vs[k]? ≠ some (V.ref a) := fun k j l' e z => by
                obtain ⟨a', d', h3, _, _, _, _, h8, _⟩ := T.tk k j l' e
                rw [z] at h3; cases h3
                exact hnot h8
              cases k with
              | zero =>
                cases k' with
                | zero => rfl
                | succ k' =>
                  simp at e' ev
                  exact absurd ev.symm (one k' j' l2 e')
              | succ k =>
                cases k' with
                | zero =>
                  simp at e ev
                  exact absurd ev (one k j l1 e)
                | succ k' =>
                  simp at e e' ev
                  rw [T.ap k j k' j' l1 l2 e e' ev]
end Pi

set_option Elab.async false
set_option linter.all false
set_option maxRecDepth 100000
set_option maxHeartbeats 4000000
/-! PiH: calls, behind the taking of the arguments. -/
namespace Pi
open PySem PySem.Spec PyProof.Rows L2
variable [HasT]

theorem Took.args {K F σ env U H vs as t env' U'} (T : Took K F σ env U H vs as t env' U') : ArgsOk K U' H vs as := by
  have ow : ∀ (i : Nat) (l : Bool) (d : D), as[i]? = some (.ow l d) → ∃ (a : Addr) (j : Nat) (l' : Bool), t[i]? = some (some (j, l')) ∧ vs[i]? = some (V.ref a) ∧ U' a ∧ OwnRep K U' H a d := fun i l d e => by
    obtain ⟨j, l', e1⟩ := T.nt i l d e
    obtain ⟨a, d', h1, h2, h3, h4, h5, _⟩ := T.tk i j l' e1
    rw [e] at h2; cases h2
    exact ⟨a, j, l', e1, h1, h4, h5⟩
  refine ⟨⟨by simp [T.len], fun i d e => ?_, fun i l d e => ?_, fun i j l l' d d' a e1 e2 s1 s2 => ?_, T.post.good.live, fun _ _ => True.intro, T.post.good.tab⟩, T.no, T.fl⟩
  · obtain ⟨v, h1, h2⟩ := T.shr i d e
    exact ⟨v, sg_get.mpr h1, h2⟩
  · obtain ⟨a, j, l', _, h1, h2, h3⟩ := ow i l d e
    exact ⟨a, sg_get.mpr h1, h2, h3, fun _ => True.intro⟩
  · obtain ⟨a1, j1, l1, t1, h1, _⟩ := ow i l d e1
    obtain ⟨a2, j2, l2, t2, h2, _⟩ := ow j l' d' e2
    rw [sg_get] at s1 s2
    exact T.ap i j1 j j2 l1 l2 t1 t2 (s1.trans s2.symm)
theorem Took.ownA {K F σ env U H vs as t env' U'} (T : Took K F σ env U H vs as t env' U') {a : Addr} (h : Own (sgOf vs) as a) : Own σ env a ∧ ¬ Own σ env' a := by
  obtain ⟨i, l, d, e, s⟩ := h
  rw [sg_get] at s
  obtain ⟨j, l', e1⟩ := T.nt i l d e
  obtain ⟨a', d', h1, h2, h3, h4, h5, h6, h7, _⟩ := T.tk i j l' e1
  rw [s] at h1; cases h1
  exact ⟨h6, h7⟩
/-- what may stand at a slot behind a call -/
def Given (t : List (Option (Nat × Bool))) (ps : List Sl) (j : Nat) (s : Sl) : Prop := ∃ (i : Nat) (l : Bool), t[i]? = some (some (j, l)) ∧ ((∃ (l' : Bool) (d' : D), ps[i]? = some (Sl.ow l' d') ∧ s = Sl.ow l d') ∨ ∃ (d' : D), ps[i]? = some (Sl.sh d') ∧ s = Sl.sh d')
theorem gives_get : ∀ (t : List (Option (Nat × Bool))) (ps : List Sl) (env : Env) (j : Nat) (s : Sl), (gives t ps env)[j]? = some s → env[j]? = some s ∨ Given t ps j s
  | [], ps, env, j, s, h => by
    left
    cases ps <;> simpa [gives] using h
  | x :: t, [], env, j, s, h => by
    left
    rcases x with _ | ⟨i, l⟩ <;> simpa [gives] using h
  | none :: t, p :: ps, env, j, s, h => by
    have h : (gives t ps env)[j]? = some s := by simpa [gives] using h
    rcases gives_get t ps env j s h with z | ⟨i, l, e1, e2⟩
    · exact .inl z
    · exact .inr ⟨i + 1, l, by simpa using e1, by simpa using e2⟩
  | some (i0, l0) :: t, .no :: ps, env, j, s, h => by
    have h : (gives t ps env)[j]? = some s := by simpa [gives] using h
    rcases gives_get t ps env j s h with z | ⟨i, l, e1, e2⟩
    · exact .inl z
    · exact .inr ⟨i + 1, l, by simpa using e1, by simpa using e2⟩
  | some (i0, l0) :: t, .sh d :: ps, env, j, s, h => by
    have h : (gives t ps (env.set i0 (.sh d)))[j]? = some s := by simpa [gives] using h
    rcases gives_get t ps _ j s h with z | ⟨i, l, e1, e2⟩
    · rcases get_set_ow z with ⟨rfl, rfl⟩ | ⟨_, z⟩
      · exact .inr ⟨0, l0, rfl, .inr ⟨d, rfl, rfl⟩⟩
      · exact .inl z
    · exact .inr ⟨i + 1, l, by simpa using e1, by simpa using e2⟩
  | some (i0, l0) :: t, .ow l1 d :: ps, env, j, s, h => by
    have h : (gives t ps (env.set i0 (.ow l0 d)))[j]? = some s := by simpa [gives] using h
    rcases gives_get t ps _ j s h with z | ⟨i, l, e1, e2⟩
    · rcases get_set_ow z with ⟨rfl, rfl⟩ | ⟨_, z⟩
      · exact .inr ⟨0, l0, rfl, .inl ⟨l1, d, rfl, rfl⟩⟩
      · exact .inl z
    · exact .inr ⟨i + 1, l, by simpa using e1, by simpa using e2⟩
theorem gives_length : ∀ (t : List (Option (Nat × Bool))) (ps : List Sl) (env : Env), (gives t ps env).length = env.length
  | [], ps, env => by cases ps <;> simp [gives]
  | x :: t, [], env => by rcases x with _ | ⟨i, l⟩ <;> simp [gives]
  | none :: t, p :: ps, env => by simpa [gives] using gives_length t ps env
  | some (i0, l0) :: t, .no :: ps, env => by simpa [gives] using gives_length t ps env
  | some (i0, l0) :: t, .sh d :: ps, env => by simpa [gives] using gives_length t ps (env.set i0 (.sh d))
  | some (i0, l0) :: t, .ow l1 d :: ps, env => by simpa [gives] using gives_length t ps (env.set i0 (.ow l0 d))
/-- behind a call -/
theorem Took.behind {K F σ env U H vs as t env1 U1 ps U' H'} {env2 : Env} (g : Gd K F σ env U H) (T : Took K F σ env U H vs as t env1 U1) (tr : Tr (Own (sgOf vs) as) U1 H U' H') (live : ∀ b, U' b → H' b ≠ none)
    (how : ∀ (i : Nat) (l l' : Bool) (d d' : D), as[i]? = some (.ow l d) → ps[i]? = some (.ow l' d') → ∃ a, vs[i]? = some (.ref a) ∧ U' a ∧ OwnRep K U' H' a d')
    (hsh : ∀ (i : Nat) (l : Bool) (d d' : D), as[i]? = some (.ow l d) → ps[i]? = some (.sh d') → ∃ v, vs[i]? = some v ∧ Rep K U' H' v d')
    (hl : env2.length = env1.length) (h2 : ∀ j s, env2[j]? = some s → env1[j]? = some s ∨ Given t ps j s) : Post K F σ env U H σ env2 U' H' := by
  have A := T.args
  have hO := A.good.hO
  have g1 := T.post.good
  have giv : ∀ j s, Given t ps j s → ∃ (i : Nat) (l : Bool) (a : Addr) (d : D), t[i]? = some (some (j, l)) ∧ vs[i]? = some (V.ref a) ∧ as[i]? = some (Sl.ow false d) ∧ σ[j]? = some (some (.ref a)) ∧ Own σ env a ∧ ¬ Own σ env1 a ∧ (l = true → F a) ∧
      ((∃ (l' : Bool) (d' : D), ps[i]? = some (Sl.ow l' d') ∧ s = Sl.ow l d') ∨ ∃ (d' : D), ps[i]? = some (Sl.sh d') ∧ s = Sl.sh d') := fun j s ⟨i, l, e, q⟩ => by
    obtain ⟨a, d, h1, h2, h3, h4, h5, h6, h7, h8, _⟩ := T.tk i j l e
    exact ⟨i, l, a, d, e, h1, h2, h3, h6, h7, h8, q⟩
  refine ⟨⟨fun b o e n t => tr.keep b o e (fun z => n (T.ownA z).1) t, tr.tab, tr.live, fun b u => ?_, fun b u n => tr.res b (T.post.tr.res b u n) fun z => n (T.ownA z).1⟩, ⟨hl.trans g1.len, fun j d e => ?_, fun j l d e => ?_, fun j1 j2 l1 l2 d1 d2 a e1 e2 s1 s2 => ?_, live, fun b e => ?_, tr.tab g.tab⟩, fun b ⟨j, l, d, e, s⟩ => ?_⟩
  · rcases tr.sub b u with z | z
    · exact T.post.tr.sub b z
    · exact .inr z
  · rcases h2 j _ e with z | z
    · obtain ⟨v, h1, r⟩ := g1.sh j d z
      exact ⟨v, h1, r.mono tr hO⟩
    · obtain ⟨i, l, a, d0, t1, v1, a1, s1, _, _, _, q⟩ := giv j _ z
      rcases q with ⟨_, _, _, q⟩ | ⟨d', p1, q⟩
      · cases q
      · cases q
        obtain ⟨v, h1, r⟩ := hsh i _ _ _ a1 p1
        rw [v1] at h1; cases h1
        exact ⟨_, s1, r⟩
  · rcases h2 j _ e with z | z
    · obtain ⟨a, h1, u, o, f⟩ := g1.ow j l d z
      have na : ¬ Own (sgOf vs) as a := fun y => (T.ownA y).2 ⟨j, l, d, z, h1⟩
      exact ⟨a, h1, tr.res a u na, o.mono tr hO na, f⟩
    · obtain ⟨i, l0, a, d0, t1, v1, a1, s1, _, _, f, q⟩ := giv j _ z
      rcases q with ⟨l', d', p1, q⟩ | ⟨_, _, q⟩
      · cases q
        obtain ⟨a', h1, u, o⟩ := how i _ _ _ _ a1 p1
        rw [v1] at h1; cases h1
        exact ⟨a, s1, u, o, f⟩
      · cases q
  · rcases h2 j1 _ e1 with z1 | z1
    · rcases h2 j2 _ e2 with z2 | z2
      · exact g1.inj j1 j2 _ _ _ _ a z1 z2 s1 s2
      · obtain ⟨i, l0, a', d0, t1, v1, a1, s3, _, n, _⟩ := giv j2 _ z2
        rw [s2] at s3; cases s3
        exact absurd ⟨j1, l1, d1, z1, s1⟩ n
    · obtain ⟨i, l0, a', d0, t1, v1, a1, s3, _, n, _⟩ := giv j1 _ z1
      rw [s1] at s3; cases s3
      rcases h2 j2 _ e2 with z2 | z2
      · exact absurd ⟨j2, l2, d2, z2, s2⟩ n
      · obtain ⟨i', l0', a'', d0', t1', v1', a1', s3', _⟩ := giv j2 _ z2
        rw [s2] at s3'; cases s3'
        have := T.ap i j1 i' j2 _ _ t1 t1' (v1.trans v1'.symm)
        subst this
        rw [t1] at t1'
        cases t1'
        rfl
  · refine g.frs b (Classical.byContradiction fun z => tr.live b z e)
  · rcases h2 j _ e with z | z
    · exact T.post.own b ⟨j, l, d, z, s⟩
    · obtain ⟨i, l0, a', d0, t1, v1, a1, s3, o, _⟩ := giv j _ z
      rw [s] at s3; cases s3
      exact .inl o

section
variable {X : Cx} {B : Sx} {L : Lib}
theorem doCall_ok {σ : Sg} {env : Env} {U : Addr → Prop} {H : Hp} {f : Nat} {xs : List Arg} {pm : List Nat} {vs : List V} {np : Nat} {Q : VK} (hK : X.K = B.K) (hnp : pm.length = np) (hbor : (L.bor f).length = np) (hlt : ∀ k ∈ pm, k < xs.length)
    (g : Gd B.K B.F σ env U H) (oks : AOks B.K σ U H vs xs) (h : Wp B σ env U H (doCall L f xs pm env) fun x env' U' H' => ∀ v, VRep B.K σ env' U' H' H v x.1 x.2 → Q v H') :
    spF X.K B.XR np (L.C f) (pm.map fun k => vs.getD k .non) H Q (fun c d H' => B.W c d σ H') := by
  have aoks : ∀ pm : List Nat, (∀ k ∈ pm, k < xs.length) → AOks B.K σ U H (pm.map fun k => vs.getD k .non) (pm.map fun k => xs.getD k (.val .non)) := by
    intro pm
    induction pm with
    | nil => intro _; exact .nil
    | cons k r ih =>
      intro hl
      refine .cons ?_ (ih fun k' h => hl k' (List.mem_cons_of_mem _ h))
      have hk := hl k List.mem_cons_self
      clear h ih hl hlt hnp
      revert k
      induction oks with
      | nil => intro k hk; simp at hk
      | cons h1 h2 ih =>
        intro k hk
        cases k with
        | zero => exact h1
        | succ k => exact ih k (by simpa using hk)
  have zip1 : ∀ (ys : List Arg) (bs : List Bool), ys.length = bs.length → (ys.zip bs).map (·.1) = ys := by
    intro ys
    induction ys with
    | nil => intro bs _; simp
    | cons y ys ih =>
      intro bs hb
      cases bs with
      | nil => simp at hb
      | cons b bs => simp at hb; simp [ih bs hb]
  unfold doCall at h
  have ha := aoks pm hlt
  cases ht : takes ((pm.map fun k => xs.getD k (.val .non)).zip (L.bor f)) env with
  | none => rw [ht] at h; exact h.elim
  | some z =>
    obtain ⟨as, t, env1⟩ := z
    rw [ht] at h
    simp only at h
    obtain ⟨U1, T⟩ := takes_ok g (by rw [zip1 _ _ (by rw [List.length_map, hnp, hbor])]; exact ha) ht
    have hvl : (pm.map fun k => vs.getD k V.non).length = np := by rw [List.length_map, hnp]
    refine ⟨as, U1, hvl, by rw [← T.len, hvl], hK ▸ T.args, ?_⟩
    cases hc : L.C f as with
    | bad => rw [hc] at h; exact h.elim
    | ex x =>
      rw [hc] at h
      intro c dx U' H' tr live xr
      refine h U' H' c dx (T.behind (ps := []) g tr live (fun i l l' d d' _ z => by simp at z) (fun i l d d' _ z => by simp at z) rfl fun j s e => .inl e) xr
    | ok d fr ps =>
      rw [hc] at h
      intro v U' H' cp cv
      rw [hK] at cp cv
      have p := T.behind (ps := ps) g cp.tr cp.live cp.ow cp.sh (gives_length t ps env1) (gives_get t ps env1)
      refine h U' H' p v ?_
      cases fr with
      | false => exact cv
      | true =>
        obtain ⟨a, e, u, o, hn⟩ := cv
        refine ⟨a, e, u, o, fun z => ?_, hn⟩
        rcases p.own a z with y | y
        · obtain ⟨_, xs, q⟩ := g.hO a y
          rw [hn] at q; cases q
        · -- new and owned by the frame: no, it is no slot's
          obtain ⟨j, l, d', e1, s1⟩ := z
          rcases gives_get t ps env1 j _ e1 with w | w
          · rcases T.post.own a ⟨j, l, d', w, s1⟩ with q | q
            · obtain ⟨_, xs, q⟩ := g.hO a q
              rw [hn] at q; cases q
            · obtain ⟨a', q1, q2, q3, _⟩ := T.post.good.ow j l d' w
              rw [s1] at q1; cases q1
              obtain ⟨xs, q3⟩ := q3.lst
              rw [hn] at q3; cases q3
          · obtain ⟨i, l0, t1, _⟩ := w
            obtain ⟨a', d0, _, _, s3, _, _, h6, _⟩ := T.tk i j l0 t1
            rw [s1] at s3; cases s3
            obtain ⟨_, xs, q⟩ := g.hO a h6
            rw [hn] at q; cases q

variable {es : List Expr} {es1 es2 : List E} {kws : List Keyword}
theorem args_append : ∀ (es1 es2 : List E) (env : Env), args L (es1 ++ es2) env = (args L es1 env).bind fun xs e1 => (args L es2 e1).bind fun ys e2 => .ok (xs ++ ys) e2
  | [], es2, env => by
    simp only [List.nil_append, args, Res.bind_ok]
    cases args L es2 env <;> rfl
  | e :: es1, es2, env => by
    simp only [List.cons_append, args, Res.bind_assoc, Res.bind_ok]
    congr 1
    funext x e1
    rw [args_append es1 es2 e1]
    simp only [Res.bind_assoc, Res.bind_ok]
theorem _root_.L2.PK.imp {t t' : TA} (h : PK X kws t) (k : ∀ σ H Q, t' σ H Q → t σ H Q) : PK X kws t' := ⟨fun pos pins s σ H Q I hw => h.run pos pins s σ H Q I (k σ H Q hw)⟩
theorem snd_nilK : PK X [] (rdAs B L []) := (pk_nil).imp fun σ H Q ⟨env, U, g, h⟩ => h U H (.refl g) [] .nil
theorem snd_consK {a : Expr} {a' : E} {nm : Option Str} {kpos : Pos} (ha : PE X a (rdA B L a')) (hr : PK X kws (rdAs B L es2)) : PK X (⟨nm, a, kpos⟩ :: kws) (rdAs B L (a' :: es2)) := by
  refine (pk_cons ha hr).imp fun σ H Q ⟨env, U, g, h⟩ => ?_
  simp only [args] at h
  refine ⟨env, U, g, (Wp.bind g h).imp fun x env1 U1 H1 _ p1 h1 v ok1 => ⟨env1, U1, p1.good, (Wp.bind p1.good h1).imp fun xs env2 U2 H2 _ p2 h2 vs oks => ?_⟩⟩
  exact Wp.ok p2.good h2 _ (.cons (ok1.mono p1.good p2) oks)
theorem AOks.length {K σ U H} : ∀ {vs : List V} {xs : List Arg}, AOks K σ U H vs xs → vs.length = xs.length
  | _, _, .nil => rfl
  | _, _, .cons _ t => congrArg (· + 1) (AOks.length t)
theorem AOks.append {K σ U H} : ∀ {vs ws : List V} {xs ys : List Arg}, AOks K σ U H vs xs → AOks K σ U H ws ys → AOks K σ U H (vs ++ ws) (xs ++ ys)
  | _, _, _, _, .nil, q => q
  | _, _, _, _, .cons r t, q => .cons r (AOks.append t q)
theorem args_length : ∀ (es : List E) (env : Env) (ds : List Arg) (e1 : Env), args L es env = .ok ds e1 → ds.length = es.length := by
  intro es
  induction es with
  | nil => intro env ds e1 h; simp only [args] at h; cases h; rfl
  | cons a r ih =>
    intro env ds e1 h
    simp only [args] at h
    cases ha : argOf a (eval L a env) env with
    | bad => rw [ha] at h; cases h
    | ex x e => rw [ha] at h; cases h
    | ok x e =>
      rw [ha, Res.bind_ok] at h
      cases hb : args L r e with
      | bad => rw [hb] at h; cases h
      | ex x e => rw [hb] at h; cases h
      | ok y e2 =>
        rw [hb, Res.bind_ok] at h
        cases h
        rw [List.length_cons, List.length_cons, ih _ _ _ hb]
/-- how a def's parameters are bound by so many positions and such keywords -/
def BindsP (fd : FuncData) (ps : List Str) (m : Nat) (ks : List Str) (pm : List Nat) : Prop :=
  ∀ (s : Shared) (us ws : List Value), us.length = m → ws.length = ks.length → BindsTo s fd ⟨us, ks.zip ws⟩ (ps.zip (pm.map fun k => (us ++ ws).getD k .none))
theorem vals_pm {vs : List V} {us : List Value} (r : Vals vs us) : ∀ pm : List Nat, Vals (pm.map fun k => vs.getD k .non) (pm.map fun k => us.getD k .none)
  | [] => .nil
  | k :: pm => by
    refine .cons ?_ (vals_pm r pm)
    clear pm
    induction r generalizing k with
    | nil => exact rfl
    | cons h t ih =>
      cases k with
      | zero => exact h
      | succ k => exact ih k
/-- f(e, .., k = v, ..) -/
theorem snd_call {n : Nat} {fa : Addr} {fd : FuncData} {ps ks : List Str} {x : Str} {p pos : Pos} {f : Nat} {pm : List Nat} (hK : X.K = B.K) (F : FnOk X.prog X.w X.K X.mg X.base (L2.CX X.prog X.w) n fa fd ps (spF X.K B.XR ps.length (L.C f)))
    (hr : Room n X.A) (tk : Takes X B.W) (hg : Gl X x) (hm : X.mg x = some (.ref fa)) (hk : PySem.W.keepIn X.K (.ref fa) = true) (hdb : (x == ("__debug__" : Str)) = false)
    (hb : BindsP fd ps es1.length ks pm) (hnp : pm.length = ps.length) (hbor : (L.bor f).length = ps.length) (hlt : ∀ k ∈ pm, k < (es1 ++ es2).length)
    (ha : PA X es (rdAs B L es1)) (hkw : PK X kws (rdAs B L es2)) (hes : es.length = es1.length) (hk2 : es2.length = ks.length)
    (hall : (backToKw pos (keywordEach kws X.env)).all (·.1.isSome) = true) (hks : (backToKw pos (keywordEach kws X.env)).filterMap (·.1) = ks)
    (hpl : ((backTo pos (starEach es X.env)).any (·.1) || (backToKw pos (keywordEach kws X.env)).any (·.1.isNone)) = false)
    (hst : ∀ e r, es = e :: r → starEach (e :: r) X.env = (false, PySem.eval e X.env) :: starEach r X.env) :
    PE X (.Call (.Name x p) es kws pos) (rdE B L (.call f (es1 ++ es2) pm)) := by
  refine ⟨fun pins s σ H Q I ⟨env, U, g, h⟩ => ?_⟩
  refine wpAny_Call_Name_kw (ld_glob I hg hm ?_ hdb)
  simp only [eval] at h
  rw [args_append, Res.bind_assoc] at h
  -- the call itself
  have run : ∀ (s2 : Shared) (H2 : Hp) (us ws : List Value) (vs zs : List V) (Q2 : VK), Inv X pins σ H2 s2 → Vals vs us → Vals zs ws → us.length = es1.length → ws.length = ks.length →
      spF X.K B.XR ps.length (L.C f) (pm.map fun k => (vs ++ zs).getD k .non) H2 Q2 (fun c d H' => B.W c d σ H') → wpAny (model X.prog X.w) X.A (call (.ref fa) us (ks.zip ws)) (EP X pins σ Q2) X.xe s2 := by
    intro s2 H2 us ws vs zs Q2 I2 rv rz hu hw hsp
    have r2 := vals_pm (rv.append rz) pm
    refine wpAny_call (codeAny_mono (F.run X.A X.stack s2 H2 ⟨us, ks.zip ws⟩ _ _ Q2 _ hr I2.env0 (hb s2 us ws hu hw) r2 hsp) fun r s' hq => ?_)
    cases r with
    | error e => exact passAt tk σ pins H2 s2 e s' I2 hq
    | ok fl =>
      cases fl with
      | ret u => exact I2.after hq
      | next => exact False.elim hq
      | brk => exact False.elim hq
      | cont => exact False.elim hq
  have key : ∀ (xs ys : List Arg) (env1 env2 : Env) (U2 : Addr → Prop) (H2 : Hp) (vs zs : List V), args L es1 env = .ok xs env1 → args L es2 env1 = .ok ys env2 → Post B.K B.F σ env U H σ env2 U2 H2 → AOks B.K σ U2 H2 vs xs → AOks B.K σ U2 H2 zs ys →
      Wp B σ env2 U2 H2 (doCall L f (xs ++ ys) pm env2) (fun x env' U' H' => ∀ v, VRep B.K σ env' U' H' H v x.1 x.2 → Q v H') →
      spF X.K B.XR ps.length (L.C f) (pm.map fun k => (vs ++ zs).getD k .non) H2 Q (fun c d H' => B.W c d σ H') := by
    intro xs ys env1 env2 U2 H2 vs zs hx hy p2 ok1 ok2 hw
    refine doCall_ok hK hnp hbor ?_ p2.good (ok1.append ok2) (hw.imp fun x env' U' H' _ _ q v vr => q v (vr.start p2.back))
    intro k hk
    have := hlt k hk
    rw [List.length_append] at this ⊢
    rw [args_length _ _ _ _ hx, args_length _ _ _ _ hy]
    exact this
  have h1 := (Wp.bind g h)
  have full : ∀ {A : List Value → Shared → Prop} (hA : ∀ us s1 vs xs env1 U1 H1, Inv X pins σ H1 s1 → Vals vs us → args L es1 env = .ok xs env1 → Post B.K B.F σ env U H σ env1 U1 H1 → AOks B.K σ U1 H1 vs xs →
      Wp B σ env1 U1 H1 (((args L es2 env1).bind fun ys e2 => Res.ok (xs ++ ys) e2).bind fun xs env1 => doCall L f xs pm env1) (fun x env' U' H' => ∀ v, VRep B.K σ env' U' H' H v x.1 x.2 → Q v H') → A us s1),
      wpAny (model X.prog X.w) X.A (spliced (backTo pos (starEach es X.env))) A X.xe s := by
    intro A hA
    refine thn (ha.run pos pins s σ H (fun vs H1 => ∃ xs env1 U1, args L es1 env = .ok xs env1 ∧ Post B.K B.F σ env U H σ env1 U1 H1 ∧ AOks B.K σ U1 H1 vs xs ∧
      Wp B σ env1 U1 H1 (((args L es2 env1).bind fun ys e2 => Res.ok (xs ++ ys) e2).bind fun xs env1 => doCall L f xs pm env1) (fun x env' U' H' => ∀ v, VRep B.K σ env' U' H' H v x.1 x.2 → Q v H')) I ⟨env, U, g, ?_⟩) fun us s1 ⟨vs, H1, I1, rv, xs, env1, U1, hx, p1, oks, w⟩ => hA us s1 vs xs env1 U1 H1 I1 rv hx p1 oks w
    exact h1.imp fun xs env1 U1 H1 hx p1 w vs oks => ⟨xs, env1, U1, hx, p1, oks, w⟩
  have kfull : ∀ {A : List Value → Shared → Prop} (s1 : Shared) (vs : List V) (xs : List Arg) (env1 : Env) (U1 : Addr → Prop) (H1 : Hp), Inv X pins σ H1 s1 → args L es1 env = .ok xs env1 → Post B.K B.F σ env U H σ env1 U1 H1 → AOks B.K σ U1 H1 vs xs →
      Wp B σ env1 U1 H1 (((args L es2 env1).bind fun ys e2 => Res.ok (xs ++ ys) e2).bind fun xs env1 => doCall L f xs pm env1) (fun x env' U' H' => ∀ v, VRep B.K σ env' U' H' H v x.1 x.2 → Q v H') →
      (∀ ws s2 zs H2, Inv X pins σ H2 s2 → Vals zs ws → ws.length = ks.length → spF X.K B.XR ps.length (L.C f) (pm.map fun k => (vs ++ zs).getD k .non) H2 Q (fun c d H' => B.W c d σ H') → A ws s2) →
      wpAny (model X.prog X.w) X.A (evalAll ((backToKw pos (keywordEach kws X.env)).map (·.2))) A X.xe s1 := by
    intro A s1 vs xs env1 U1 H1 I1 hx p1 oks w hA
    rw [Res.bind_assoc] at w
    refine thn (hkw.run pos pins s1 σ H1 (fun zs H2 => ∃ ys env2 U2, args L es2 env1 = .ok ys env2 ∧ Post B.K B.F σ env1 U1 H1 σ env2 U2 H2 ∧ AOks B.K σ U2 H2 zs ys ∧
      Wp B σ env2 U2 H2 (doCall L f (xs ++ ys) pm env2) (fun x env' U' H' => ∀ v, VRep B.K σ env' U' H' H v x.1 x.2 → Q v H')) I1 ⟨env1, U1, p1.good, ?_⟩) fun ws s2 ⟨zs, H2, I2, rz, ys, env2, U2, hy, p2, oks2, w2⟩ => ?_
    · exact (Wp.bind p1.good w).imp fun ys env2 U2 H2 hy p2 w2 zs oks2 => ⟨ys, env2, U2, hy, p2, oks2, w2⟩
    · refine hA ws s2 zs H2 I2 rz ?_ (key xs ys env1 env2 U2 H2 vs zs hx hy (p1.trans g p2) (oks.mono p1.good p2) oks2 w2)
      rw [← rz.length, oks2.length, args_length _ _ _ _ hy, hk2]
  have ulen : ∀ {us : List Value} {vs : List V} {xs : List Arg} {env1 : Env} {U1 : Addr → Prop} {H1 : Hp}, Vals vs us → AOks B.K σ U1 H1 vs xs → args L es1 env = .ok xs env1 → us.length = es1.length := fun rv oks hx => by
    rw [← rv.length, oks.length, args_length _ _ _ _ hx]
  cases es with
  | nil =>
    have he1 : es1 = [] := by cases es1 with | nil => rfl | cons _ _ => simp at hes
    refine PySem.W.callWith_KW0 (h₀ := X.base) I.ok.mod.kin hk hall ?_ hpl
    subst he1
    have hx : args L [] env = .ok [] env := by simp only [args]
    have w : Wp B σ env U H (((args L es2 env).bind fun ys e2 => Res.ok ([] ++ ys) e2).bind fun xs env1 => doCall L f xs pm env1) (fun x env' U' H' => ∀ v, VRep B.K σ env' U' H' H v x.1 x.2 → Q v H') := by
      rw [hx] at h1
      exact Wp.ok g h1
    refine kfull s [] [] env U H I hx (.refl g) .nil w fun ws s2 zs H2 I2 rz hw hsp => ⟨I2.kIn, ?_⟩
    rw [hks]
    exact run s2 H2 [] ws [] zs Q I2 .nil rz rfl hw hsp
  | cons e r =>
    have hplr : (backTo pos (starEach r X.env)).any (·.1) = false := by
      rw [hst e r rfl] at hpl
      have : ((backTo pos ((false, PySem.eval e X.env) :: starEach r X.env)).any (·.1) || (backToKw pos (keywordEach kws X.env)).any (·.1.isNone)) = (((backTo pos (starEach r X.env)).any (·.1)) || (backToKw pos (keywordEach kws X.env)).any (·.1.isNone)) := by
        simp [backTo]
      rw [this] at hpl
      exact (Bool.or_eq_false_iff.mp hpl).1
    refine PySem.W.callWith_KW (h₀ := X.base) I.ok.mod.kin hk hall (full fun us s1 vs xs env1 U1 H1 I1 rv hx p1 oks w => ?_) hpl (hst e r rfl)
    refine kfull s1 vs xs env1 U1 H1 I1 hx p1 oks w fun ws s2 zs H2 I2 rz hw hsp => ⟨I2.kIn, ?_⟩
    rw [hks]
    exact run s2 H2 us ws vs zs Q I2 rv rz (ulen rv oks hx) hw hsp

theorem own1 {a b : Addr} {d : D} : Own (sgOf [V.ref a]) [Sl.ow false d] b ↔ b = a := by
  refine ⟨fun ⟨i, l, d', e, s⟩ => ?_, fun e => ⟨0, false, d, rfl, by rw [e]; rfl⟩⟩
  cases i with
  | zero => rw [sg_get] at s; simp only [List.getElem?_cons_zero, Option.some.injEq, V.ref.injEq] at s; exact s.symm
  | succ i => simp at e
/-- behind a call whose one argument was new -/
theorem behind1 {K F σ env U H env1 U1 H1 a d U' H'} (g : Gd K F σ env U H) (p : Post K F σ env U H σ env1 U1 H1) (na : ¬ Own σ env1 a) (hn : H a = none) (ua : U1 a) (hl : ∃ xs, H1 a = some (.lst xs))
    (tr : Tr (Own (sgOf [V.ref a]) [Sl.ow false d]) U1 H1 U' H') (live : ∀ b, U' b → H' b ≠ none) : Post K F σ env U H σ env1 U' H' := by
  have g1 := p.good
  have hO : ∀ b, Own (sgOf [V.ref a]) [Sl.ow false d] b → U1 b ∧ ∃ xs, H1 b = some (.lst xs) := fun b o => by
    cases own1.mp o
    exact ⟨ua, hl⟩
  have nO : ∀ b, b ≠ a → ¬ Own (sgOf [V.ref a]) [Sl.ow false d] b := fun b n o => n (own1.mp o)
  refine ⟨⟨fun b o e n t => tr.keep b o (p.tr.keep b o e n t) (nO b fun z => by rw [z, hn] at e; cases e) t, fun t => tr.tab (p.tr.tab t), fun b n => tr.live b (p.tr.live b n), fun b u => ?_, fun b u n => tr.res b (p.tr.res b u n) (nO b fun z => g.live b u (z ▸ hn))⟩, ⟨g1.len, fun j d e => ?_, fun j l d e => ?_, g1.inj, live, fun b e => ?_, tr.tab g1.tab⟩, p.own⟩
  · rcases tr.sub b u with z | z
    · exact p.tr.sub b z
    · exact .inr (p.back b z)
  · obtain ⟨v, h1, r⟩ := g1.sh j d e
    exact ⟨v, h1, r.mono tr hO⟩
  · obtain ⟨b, h1, u, o, f⟩ := g1.ow j l d e
    have nb : ¬ Own (sgOf [V.ref a]) [Sl.ow false _] b := nO b fun z => na (z ▸ ⟨j, l, d, e, h1⟩)
    exact ⟨b, h1, tr.res b u nb, o.mono tr hO nb, f⟩
  · exact g1.frs b (Classical.byContradiction fun z => tr.live b z e)
/-- f(e), e may be new -/
theorem snd_call1 {n : Nat} {fa : Addr} {fd : FuncData} {ps : List Str} {x : Str} {p pos : Pos} {f : Nat} {e : E} (hK : X.K = B.K) (F : FnOk X.prog X.w X.K X.mg X.base (L2.CX X.prog X.w) n fa fd ps (spF X.K B.XR ps.length (L.C f)))
    (hr : Room n X.A) (tk : Takes X B.W) (hg : Gl X x) (hm : X.mg x = some (.ref fa)) (hk : PySem.W.keepIn X.K (.ref fa) = true) (hdb : (x == ("__debug__" : Str)) = false)
    (hb : BindsP fd ps 1 [] [0]) (hnp : ps.length = 1) (hbor : (L.bor f).length = ps.length)
    (ha : PA X es (rdFs B L [e])) (hes : es.length = 1)
    (hpl : (backTo pos (starEach es X.env)).any (·.1) = false)
    (hst : ∀ e r, es = e :: r → starEach (e :: r) X.env = (false, PySem.eval e X.env) :: starEach r X.env) :
    PE X (.Call (.Name x p) es [] pos) (rdE B L (.call1 f e)) := by
  refine ⟨fun pins s σ H Q I ⟨env, U, g, h⟩ => ?_⟩
  refine wpAny_Call_Name_kw (ld_glob I hg hm ?_ hdb)
  have nk : (backToKw pos (keywordEach [] X.env)) = [] := rfl
  simp only [eval] at h
  have w := Wp.bind g h
  -- the call itself
  have run : ∀ (s2 : Shared) (H2 : Hp) (u : Value) (v : V), Inv X pins σ H2 s2 → Vals [v] [u] → spF X.K B.XR ps.length (L.C f) [v] H2 Q (fun c d H' => B.W c d σ H') →
      wpAny (model X.prog X.w) X.A (call (.ref fa) [u] []) (EP X pins σ Q) X.xe s2 := by
    intro s2 H2 u v I2 rv hsp
    refine wpAny_call (codeAny_mono (F.run X.A X.stack s2 H2 ⟨[u], []⟩ _ _ Q _ hr I2.env0 (hb s2 [u] [] rfl rfl) rv hsp) fun r s' hq => ?_)
    cases r with
    | error e => exact passAt tk σ pins H2 s2 e s' I2 hq
    | ok fl =>
      cases fl with
      | ret u => exact I2.after hq
      | next => exact False.elim hq
      | brk => exact False.elim hq
      | cont => exact False.elim hq
  have key : ∀ (d : D × Bool) (env1 : Env) (U1 : Addr → Prop) (H1 : Hp) (v : V), eval L e env = .ok d env1 → Post B.K B.F σ env U H σ env1 U1 H1 → VRep B.K σ env1 U1 H1 H v d.1 d.2 → spF X.K B.XR ps.length (L.C f) [v] H1 Q (fun c d H' => B.W c d σ H') := by
    intro d env1 U1 H1 v he p1 vr
    rw [he] at w h
    rw [Res.bind_ok] at h
    by_cases hd : d.2 = true ∧ L.bor f = [true]
    · rw [if_pos hd] at h
      obtain ⟨hd, _⟩ := hd
      obtain ⟨d, fr⟩ := d
      cases hd
      obtain ⟨a, rfl, ua, o, na, hn⟩ := vr
      have hl := o.lst
      refine ⟨[.ow false d], U1, by rw [hnp]; rfl, by rw [hnp]; rfl, ⟨⟨rfl, fun i d' e => ?_, fun i l d' e => ?_, fun i j l l' d1 d2 b e1 e2 _ _ => ?_, p1.good.live, fun _ _ => True.intro, p1.good.tab⟩, fun i e => ?_, fun i l d' e => ?_⟩, ?_⟩
      · cases i <;> simp at e
      · cases i with
        | zero =>
          simp only [List.getElem?_cons_zero, Option.some.injEq, Sl.ow.injEq] at e
          obtain ⟨rfl, rfl⟩ := e
          exact ⟨a, rfl, ua, hK ▸ o, fun _ => True.intro⟩
        | succ i => simp at e
      · cases i with
        | zero => cases j with
          | zero => rfl
          | succ j => simp at e2
        | succ i => simp at e1
      · cases i <;> simp at e
      · cases i with
        | zero => simp only [List.getElem?_cons_zero, Option.some.injEq, Sl.ow.injEq] at e; exact e.1.symm
        | succ i => simp at e
      · unfold newCall at h
        dsimp only at h
        cases hc : L.C f [.ow false d] with
        | bad => rw [hc] at h; exact h.elim
        | ex x =>
          rw [hc] at h
          intro c dx U' H' tr live xr
          exact h U' H' c dx (behind1 g p1 na hn ua hl tr live) xr
        | ok d' fr' ps' =>
          rw [hc] at h
          intro v' U' H' cp cv
          have pp := behind1 g p1 na hn ua hl cp.tr cp.live
          refine h U' H' pp v' ?_
          rw [hK] at cv
          cases fr' with
          | false => exact cv
          | true =>
            obtain ⟨b, e, u, ob, nb⟩ := cv
            exact ⟨b, e, u, ob, fun ⟨j, l, d2, e2, s2⟩ => by
              obtain ⟨b', h1, u1, _⟩ := p1.good.ow j l d2 e2
              rw [s2] at h1; cases h1
              exact p1.good.live b u1 nb, p1.back b nb⟩
    · -- the argument is shared
      obtain ⟨U2, p2, r2⟩ := VRep.drop g p1 vr
      have w2 := w U2 H1 p2
      dsimp only at w2
      rw [if_neg hd] at w2
      have := doCall_ok (vs := [v]) (np := ps.length) (Q := Q) hK (by rw [hnp]; rfl) hbor (by simp) p2.good (.cons (show AOk B.K σ U2 H1 v (.val d.1) from r2) .nil) (w2.imp fun x env' U' H' _ _ q v vr => q v (vr.start p2.back))
      exact this
  cases es with
  | nil => simp at hes
  | cons e0 r =>
    have hr0 : r = [] := by cases r with | nil => rfl | cons _ _ => simp at hes
    subst hr0
    refine PySem.W.callWith_KW (h₀ := X.base) I.ok.mod.kin hk rfl ?_ (by rw [nk]; simpa using hpl) (hst _ _ rfl)
    refine thn (ha.run pos pins s σ H (fun vs H1 => ∃ d env1 U1, eval L e env = .ok d env1 ∧ Post B.K B.F σ env U H σ env1 U1 H1 ∧ VReps B.K σ env1 U1 H1 H vs [d]) I ⟨env, U, g, ?_⟩) fun us s1 ⟨vs, H1, I1, rv, d, env1, U1, he, p1, oks⟩ => ?_
    · simp only [evalsF, Res.bind_ok]
      cases he : eval L e env with
      | bad => rw [he] at w; exact w.elim
      | ex x env1 => rw [he] at w; exact w
      | ok d env1 =>
        rw [he] at w
        exact fun U1 H1 p1 vs oks => ⟨d, env1, U1, rfl, p1, oks⟩
    · cases oks with
      | @cons v vs _ _ vr t _ =>
      cases t
      cases rv with
      | @cons _ u _ us r1 t1 =>
      cases t1
      have sp := key d env1 U1 H1 v he p1 vr
      exact wpAny_evalAll_nil ⟨I1.kIn, run s1 H1 u v I1 (.cons r1 .nil) sp⟩
end
end Pi

set_option Elab.async false
set_option linter.all false
set_option maxRecDepth 100000
set_option maxHeartbeats 4000000
/-! PiI: what is walked; targets; comprehensions. -/
namespace Pi
open PySem PySem.Spec PyProof.Rows L2
variable [HasT]

/-! ### targets -/
theorem Post.store {K F σ env U H} {i : Nat} {v : V} {d : D} (g : Gd K F σ env U H) (hi : i < env.length) (r : Rep K U H v d) : Post K F σ env U H (σ.set i (some v)) (env.set i (.sh d)) U H := by
  have hiσ : i < σ.length := by rw [← g.len]; exact hi
  have get : ∀ {j : Nat} {s : Sl}, (env.set i (.sh d))[j]? = some s → (i = j ∧ s = .sh d) ∨ (i ≠ j ∧ env[j]? = some s ∧ (σ.set i (some v))[j]? = σ[j]?) := fun {j s} h => by
    rcases get_set_ow h with ⟨e, q⟩ | ⟨n, q⟩
    · exact .inl ⟨e, q⟩
    · exact .inr ⟨n, q, by rw [List.getElem?_set_ne n]⟩
  refine ⟨Tr.refl _ _ _, ⟨by simpa using g.len, fun j d' h => ?_, fun j l d' h => ?_, fun j k l1 l2 d1 d2 b h1 h2 s1 s2 => ?_, g.live, g.frs, g.tab⟩, fun b ⟨j, l, d', h, s⟩ => ?_⟩
  · rcases get h with ⟨rfl, q⟩ | ⟨n, q, e⟩
    · cases q
      exact ⟨v, by rw [List.getElem?_set_self hiσ], r⟩
    · rw [e]; exact g.sh j d' q
  · rcases get h with ⟨rfl, q⟩ | ⟨n, q, e⟩
    · cases q
    · rw [e]; exact g.ow j l d' q
  · rcases get h1 with ⟨rfl, q⟩ | ⟨n, q1, e1⟩
    · cases q
    · rcases get h2 with ⟨rfl, q⟩ | ⟨n, q2, e2⟩
      · cases q
      · rw [e1] at s1
        rw [e2] at s2
        exact g.inj j k _ _ _ _ b q1 q2 s1 s2
  · rcases get h with ⟨rfl, q⟩ | ⟨n, q, e⟩
    · cases q
    · rw [e] at s
      exact .inl ⟨j, l, d', q, s⟩
/-- storing a value that is new: the slot owns it -/
theorem Post.storeOw {K F σ env U H} {i : Nat} {a : Addr} {d : D} (g : Gd K F σ env U H) (hi : i < env.length) (u : U a) (o : OwnRep K U H a d) (n : ¬ Own σ env a) (f : F a) :
    Gd K F (σ.set i (some (.ref a))) (env.set i (.ow true d)) U H ∧ ∀ b, Own (σ.set i (some (.ref a))) (env.set i (.ow true d)) b → Own σ env b ∨ b = a := by
  have hiσ : i < σ.length := by rw [← g.len]; exact hi
  have get : ∀ {j : Nat} {s : Sl}, (env.set i (.ow true d))[j]? = some s → (i = j ∧ s = .ow true d) ∨ (i ≠ j ∧ env[j]? = some s ∧ (σ.set i (some (V.ref a)))[j]? = σ[j]?) := fun {j s} h => by
    rcases get_set_ow h with ⟨e, q⟩ | ⟨n, q⟩
    · exact .inl ⟨e, q⟩
    · exact .inr ⟨n, q, by rw [List.getElem?_set_ne n]⟩
  refine ⟨⟨by simpa using g.len, fun j d' h => ?_, fun j l d' h => ?_, fun j k l1 l2 d1 d2 b h1 h2 s1 s2 => ?_, g.live, g.frs, g.tab⟩, fun b ⟨j, l, d', h, s⟩ => ?_⟩
  · rcases get h with ⟨rfl, q⟩ | ⟨n, q, e⟩
    · cases q
    · rw [e]; exact g.sh j d' q
  · rcases get h with ⟨rfl, q⟩ | ⟨n, q, e⟩
    · cases q
      exact ⟨a, by rw [List.getElem?_set_self hiσ], u, o, fun _ => f⟩
    · rw [e]; exact g.ow j l d' q
  · rcases get h1 with ⟨rfl, q1⟩ | ⟨n1, q1, e1⟩
    · rcases get h2 with ⟨rfl, q2⟩ | ⟨n2, q2, e2⟩
      · rfl
      · rw [List.getElem?_set_self hiσ] at s1
        cases s1
        rw [e2] at s2
        exact absurd ⟨k, l2, d2, q2, s2⟩ n
    · rcases get h2 with ⟨rfl, q2⟩ | ⟨n2, q2, e2⟩
      · rw [List.getElem?_set_self hiσ] at s2
        cases s2
        rw [e1] at s1
        exact absurd ⟨j, l1, d1, q1, s1⟩ n
      · rw [e1] at s1
        rw [e2] at s2
        exact g.inj j k _ _ _ _ b q1 q2 s1 s2
  · rcases get h with ⟨rfl, q⟩ | ⟨n, q, e⟩
    · rw [List.getElem?_set_self hiσ] at s
      cases s
      exact .inr rfl
    · rw [e] at s
      exact .inl ⟨j, l, d', q, s⟩
def rdG (B : Sx) (tg : Tg) : TG := fun v σ H Q => ∃ env U d env', Gd B.K B.F σ env U H ∧ Rep B.K U H v d ∧ tg.store d false env = some env' ∧
  ∀ σ' : Sg, Post B.K B.F σ env U H σ' env' U H → (∀ i, i ∉ tg.slots → σ'[i]? = σ[i]?) → Q σ' H
section
variable {X : Cx} {B : Sx} {L : Lib}
theorem snd_gname {i : Nat} {x : Str} {pos : Pos} (hN : X.N.Nodup) (hi : X.N[i]? = some x) (hx : Loc X.env.scope x) (hf : X.fn x = true ∨ X.env.scope.names.lookup x = some .local) : PG X (.Name x pos) (rdG B (.name i)) := by
  refine ⟨fun pins s σ H v u Q I r ⟨env, U, d, env', g, rep, e, h⟩ => ?_⟩
  refine (pg_name hN hi hx hf).run pins s σ H v u Q I r ?_
  simp only [Tg.store] at e
  split at e
  · rename_i hlt
    cases e
    refine h _ (Post.store g hlt rep) fun j hj => ?_
    rw [List.getElem?_set_ne (fun z => hj (by simp [Tg.slots, z]))]
  · cases e
/-- several names, one after another -/
inductive PNs (X : Cx) : List Expr → List Nat → Prop
  | nil : PNs X [] []
  | cons {i : Nat} {x : Str} {pos : Pos} {es : List Expr} {is : List Nat} (hi : X.N[i]? = some x) (hx : Loc X.env.scope x) (hf : X.fn x = true ∨ X.env.scope.names.lookup x = some .local) (t : PNs X es is) : PNs X (.Name x pos :: es) (i :: is)
def rdGs (B : Sx) (is : List Nat) : TGs := fun vs σ H Q => ∃ env U ds env', Gd B.K B.F σ env U H ∧ RepAll B.K U H vs ds ∧ storeT is ds env = some env' ∧
  ∀ σ' : Sg, Post B.K B.F σ env U H σ' env' U H → (∀ i, i ∉ is → σ'[i]? = σ[i]?) → Q σ' H
theorem snd_gs (hN : X.N.Nodup) : ∀ {es : List Expr} {is : List Nat}, PNs X es is → PGs X es (rdGs B is)
  | _, _, .nil => by
    refine ⟨fun pins s σ H vs us Q I r ⟨env, U, ds, env', g, rep, e, h⟩ => ?_⟩
    cases ds with
    | nil =>
      cases rep
      simp only [storeT] at e
      cases e
      exact pgs_nil.run pins s σ H [] us Q I r ⟨rfl, h σ (.refl g) fun _ _ => rfl⟩
    | cons d ds => simp [storeT] at e
  | _, _, .cons (i := i) (x := x) (pos := pos) (es := es) (is := is) hi hx hf t => by
    refine ⟨fun pins s σ H vs us Q I r ⟨env, U, ds, env', g, rep, e, h⟩ => ?_⟩
    cases ds with
    | nil => simp [storeT] at e
    | cons d ds =>
      cases rep with
      | @cons v vs _ _ r1 rs =>
        simp only [storeT] at e
        split at e
        · rename_i hlt
          have p1 := Post.store g hlt r1
          refine (pgs_cons (pg_name (pos := pos) hN hi hx hf) (snd_gs hN t) (by rfl)).run pins s σ H _ us Q I r ⟨v, vs, rfl, env.set i (.sh d), U, ds, env', p1.good, p1.reps g rs, e, fun σ' p2 ag => h σ' (p1.trans g p2) fun j hj => ?_⟩
          rw [ag j (fun z => hj (List.mem_cons_of_mem _ z)), List.getElem?_set_ne (fun z => hj (by simp [z]))]
        · cases e
theorem snd_gtup {es : List Expr} {is : List Nat} {k : Nat} {pos : Pos} (hK : X.K = B.K) (hc : X.calm = true) (hN : X.N.Nodup) (hs : PNs X es is) : PG X (.Tuple es k pos) (rdG B (.tup is)) := by
  have hl : (assignEach es X.env).length = is.length := by
    clear hN
    induction hs with
    | nil => rfl
    | cons _ _ _ _ ih => show (_ :: assignEach _ _).length = _; rw [List.length_cons, ih]; rfl
  have hst : (assignEach es X.env).findIdx? (·.1) = none := by
    clear hN hl
    induction hs with
    | nil => rfl
    | cons _ _ _ _ ih =>
      show List.findIdx? (·.1) ((false, _) :: assignEach _ _) = none
      simp only [List.findIdx?_cons, ih]
      rfl
  refine ⟨fun pins s σ H v u Q I r ⟨env, U, d, env', g, rep, e, h⟩ => ?_⟩
  have len : ∀ (is : List Nat) (ds : List D) (env env' : Env), storeT is ds env = some env' → ds.length = is.length := by
    intro is
    induction is with
    | nil => intro ds env env' e; cases ds with | nil => rfl | cons _ _ => simp [storeT] at e
    | cons i is ih =>
      intro ds env env' e
      cases ds with
      | nil => simp [storeT] at e
      | cons d ds =>
        simp only [storeT] at e
        split at e
        · rw [List.length_cons, List.length_cons, ih _ _ _ e]
        · cases e
  cases d with
  | tup ds =>
    obtain ⟨a, vs, rfl, h1, h2⟩ := (Pk.sh rep).tup
    exact (pg_tup hc (snd_gs hN hs) hl hst).run pins s σ H _ u Q I r ⟨a, vs, rfl, hK ▸ h1, by rw [h2.length, len _ _ _ _ e], env, U, ds, env', g, h2, e, h⟩
  | lst ds =>
    obtain ⟨a, vs, rfl, h1, h2⟩ := (Pk.sh rep).lst
    exact (pg_lst hc (snd_gs hN hs) hl hst).run pins s σ H _ u Q I r ⟨a, vs, rfl, .inl h1, by rw [h2.length, len _ _ _ _ e], env, U, ds, env', g, h2, e, h⟩
  | _ => simp [Tg.store] at e
end
end Pi

set_option Elab.async false
set_option linter.all false
set_option maxRecDepth 100000
set_option maxHeartbeats 4000000
/-! PiIe: enumerate(tuple). -/
namespace Pi
open PySem PySem.Spec PyProof.Rows L2
variable [HasT]
open Sem (wp)

theorem meets_enumT (l : Addr) (items : Array Value) :
    Meets (Builtin.«enumerate.__new__» ⟨[.type "enumerate", .ref l], []⟩) (fun _ R s => s.heap.IsTuple l items ∧
      R (.ok (.ret (.ref (s.heap.push { cls := .type "tuple_iterator", data := .fields #[.ref l, .int 0 0] }).objs.size)))
        { s with heap := (s.heap.push { cls := .type "tuple_iterator", data := .fields #[.ref l, .int 0 0] }).push { cls := .type "enumerate", data := .fields #[.none, .bool false, .ref s.heap.objs.size, rawInt 0, .none, .none] } }) :=
  .of_wp fun prog w A R s h => by
    obtain ⟨hp, g, d, tk, os⟩ := s; obtain ⟨hl, h⟩ := h
    have hsub := sub_enumerate
    have hL : Heap.IsTuple (Shared.heap ⟨hp, g, d, tk, os⟩) l items := hl
    have q1 : ∀ {A' : Around} {E : Value → Shared → Prop} {Q : Value → Shared → Prop}, Q (.ref hp.objs.size) ⟨hp.push { cls := .type "tuple_iterator", data := .fields #[.ref l, .int 0 0] }, g, d, tk, os⟩ → wpAny (model prog w) A' (pyIter (.ref l)) Q E ⟨hp, g, d, tk, os⟩ :=
      fun q => wpAny_pyIter_tuple hL q
    wp_walk using q1
    refine wpAny_stack_any fun st => wpAny_pure ?_
    split
    · rename_i c _ _ _ _ _
      cases (c == Value.type "enumerate")
      · wp_walk using q1
        exact ⟨_, rfl, h⟩
      · wp_walk using q1
        exact ⟨_, rfl, h⟩
    · wp_walk using q1
      exact ⟨_, rfl, h⟩
theorem call_enumT {prog : Program} {w : World} {A : Around} {E : Value → Shared → Prop} {s : Shared} {l : Addr} {items : Array Value} {Q : Value → Shared → Prop} (hL : s.heap.IsTuple l items)
    (h : ∀ h', IsEnum h' (s.heap.objs.size + 1) s.heap.objs.size 0 .none → h'.IsTupleIter s.heap.objs.size l 0 → h'.objs.size = s.heap.objs.size + 2 →
      (∀ b o, s.heap.get? b = some o → h'.get? b = some o) → Q (.ref (s.heap.objs.size + 1)) { s with heap := h' }) :
    wpAny (model prog w) A (call (.type "enumerate") [.ref l]) Q E s := by
  refine callType_new F.called_enumerate (by decide) (F.typeCall_enumerate_1 _) (F.newCall_enumerate_1 _) (fun obj => F.args_object_init_2 obj _) F.entry_enumerate_new
    (meets_enumT l items) ⟨hL, ?_⟩
  have hz : (s.heap.push { cls := .type "tuple_iterator", data := .fields #[.ref l, .int 0 0] }).objs.size = s.heap.objs.size + 1 := Heap.size_push ..
  show _ ∧ _
  rw [hz]
  have he : IsEnum ((s.heap.push { cls := .type "tuple_iterator", data := .fields #[.ref l, .int 0 0] }).push
      { cls := .type "enumerate", data := .fields #[.none, .bool false, .ref s.heap.objs.size, rawInt 0, .none, .none] }) (s.heap.objs.size + 1) s.heap.objs.size 0 .none := by
    have := Heap.get?_push_size (s.heap.push { cls := .type "tuple_iterator", data := .fields #[.ref l, .int 0 0] })
      (o := { cls := .type "enumerate", data := .fields #[.none, .bool false, .ref s.heap.objs.size, rawInt 0, .none, .none] }) rfl
    rw [hz] at this; exact this
  refine ⟨⟨_, he, rfl⟩, h _ he ⟨_, Heap.get?_push_of_some _ (Heap.get?_push_size _ rfl), rfl, rfl⟩ (by rw [Heap.size_push, hz]) fun b o x => Heap.get?_push_of_some _ (Heap.get?_push_of_some _ x)⟩
/-- the tuple at a, each item in a new pair -/
def IteT (K : PySem.W.Frag) (a : Addr) : It :=
  ⟨fun i H => ∃ (xs : List V) (x : V), SqT K H a xs ∧ xs[i]? = some x, fun i H v H' => ∃ T x, v = .ref T ∧ H T = none ∧ H' = upd H T (.tup [.int (i : Nat), x]) ∧ ∀ xs, SqT K H a xs → xs[i]? = some x, fun i H => ∃ xs : List V, SqT K H a xs ∧ xs.length ≤ i⟩
theorem turn_enumT {P : Program} {w : World} {K : PySem.W.Frag} {elts : List Expr} {kk : Nat} {tpos : Pos} (a e it : Addr) :
    Turn P w K (.Tuple elts kk tpos) (IteT K a) [e, it] e (fun i h => (∃ old, IsEnum h e it ((i : Nat) : Int) old) ∧ h.IsTupleIter it a i ∧ e ≠ it) where
  mem := by simp
  obj := fun i h st b hb => by
    obtain ⟨⟨old, he⟩, ⟨o, ho, hc, hd⟩, _⟩ := st
    have e' : b = e ∨ b = it := by simpa using hb
    rcases e' with z | z
    · rw [z]; exact ⟨_, he, fun v q => nomatch q⟩
    · rw [z]; exact ⟨o, ho, fun v q => by rw [hd] at q; cases q⟩
  keep := fun i h h' st k => let ⟨⟨old, he⟩, hi, hne⟩ := st; ⟨⟨old, k e (by simp) _ he⟩, hi.at fun o q => k it (by simp) o q, hne⟩
  item := by
    intro X hP hw hK hc i pins s σ H E I hf st hg
    subst hP hw hK
    obtain ⟨⟨old, he⟩, hit, hne⟩ := st
    obtain ⟨xs, x, hq, hx⟩ := hg
    obtain ⟨its, rv, p, hz⟩ := I.tuple hq
    obtain ⟨u, hu, ru⟩ := rv.get hx
    have hel : e < s.heap.objs.size := Heap.lt_size he
    have hil : it < s.heap.objs.size := by obtain ⟨_, q, _⟩ := hit; exact Heap.lt_size q
    have hp : s.heap.IsTuple a its.toArray := p
    have hai : a ≠ it := fun z => by
      obtain ⟨o1, e1, c1, _⟩ := hit
      obtain ⟨o2, e2, c2, _⟩ := hp
      rw [z, e1] at e2; cases e2
      rw [c1] at c2; simp at c2
    have hae : a ≠ e := fun z => by
      obtain ⟨o2, e2, c2, _⟩ := hp
      rw [z] at e2
      have he' : s.heap.get? e = some _ := he
      rw [he'] at e2; cases e2
      simp at c2
    have hl : i < its.toArray.size := by
      have := (List.getElem?_eq_some_iff.mp hu).1
      simpa using this
    refine wpAny_pyNext_enum_itemD (Draws.tuple (A := X.A.in1) (I.ok.hd hc) it a hai its.toArray) he ⟨hit, hp⟩ hl hne (by simp only [List.mem_cons, List.not_mem_nil, or_false, not_or]; exact ⟨hne, fun z => hae z.symm⟩) fun u' h' tk hu' ho hit' hT hsz hk => ?_
    have eu : u' = u := by
      have : its.toArray[i]? = some u := by simpa using hu
      rw [this] at hu'; cases hu'; rfl
    subst eu
    refine ⟨_, rfl, wpAny_letOwnedTupleGo_enum (s := { s with heap := h', toks := tk + 1 }) ho fun h'' he' sb => ?_⟩
    have hT2 : h''.get? s.heap.objs.size = some { cls := .type "tuple", data := .seq #[.int i tk, u'] } := (sb.2 _ (Nat.ne_of_gt hel)).trans hT
    have new : ObjOk X.prog X.w (upd H s.heap.objs.size (.tup [.int (i : Nat), x])) h'' s.heap.objs.size (.tup [.int (i : Nat), x]) :=
      ⟨by show 2 ≤ sizeLine; decide, [.int i tk, u'], .cons ⟨_, rfl⟩ (.cons ru .nil), ⟨_, hT2, rfl, _, rfl⟩⟩
    have I1 : Inv X pins σ (upd H s.heap.objs.size (.tup [.int (i : Nat), x])) { s with heap := h'', toks := tk + 1 } :=
      I.turnedNew (ch := [e, it]) (fun b ob hb q => (sb.2 b (fun z => hb (by simp [z]))).trans (hk b ob (fun z => hb (by simp [z])) (fun z => hb (by simp [z])) q)) hf (Nat.le_refl _) new
    refine ⟨.ref s.heap.objs.size, _, I1, rfl, ⟨_, x, rfl, I.hok.fresh (Nat.le_refl _), rfl, fun ys hy => by rw [I.tuple_inj hy hq]; exact hx⟩, ⟨⟨u', ?_⟩, hit'.1.at fun o q => (sb.2 it (Ne.symm hne)).trans q, hne⟩, fun b hb => ?_⟩
    · have e1 : ((i + 1 : Nat) : Int) = (i : Int) + 1 := by omega
      rw [e1]; exact he'
    · have hb' : b < s.heap.objs.size := by
        have e' : b = e ∨ b = it := by simpa using hb
        rcases e' with z | z
        · rw [z]; exact hel
        · rw [z]; exact hil
      rw [upd_ne (Nat.ne_of_lt hb')]
      exact (hf b hb).1
  done := by
    intro X hP hw hK hc i pins s σ H E I hf st hg
    subst hP hw hK
    obtain ⟨⟨old, he⟩, hit, hne⟩ := st
    obtain ⟨xs, hq, hx⟩ := hg
    obtain ⟨its, rv, p, hz⟩ := I.tuple hq
    obtain ⟨f0, f1, f2, f3, f4, f5⟩ := hf it (by simp)
    have hl := rv.length
    have hp : s.heap.IsTuple a its.toArray := p
    have hT : s.TypeIs (.ref e) "enumerate" := ⟨_, he, rfl⟩
    unfold pyNext
    refine wpAny_bind (wpAny_attempt (wpAny_callSpecial?_slot (name := Str.ofString "__next__") hT F.slot_enumerate_next
      (wpAny_call_entry F.slot_enumerate_next hT F.entry_enumerate_next ?_ (F.args_enumerate_next_1 _))))
    show wpAny _ _ (field (.ref e) 2 >>= _) _ _ _
    refine wpAny_bind (wpAny_field he rfl (x := .ref it) rfl ?_)
    refine wpAny_bind (wpAny_nextOf_tuple_end (A := X.A.in1) (I.ok.hd hc) hit hp (by simp; omega) fun h' x he' hx' => ?_)
    obtain ⟨o, ho, hc'⟩ := hx'
    refine wpAny_bind (wpAny_isInstance (T := "StopIteration") (b := true) ⟨o, ho, hc'⟩ isSubtype_stop ?_)
    exact wpAny_pure ⟨rfl, I.turned (t' := s.toks) (fun b o hb q => he' b o hb q) f0 f1 f3 f4 f5⟩
  self := fun A i s Q E st h => let ⟨⟨_, he⟩, _⟩ := st; wpAny_pyIter_enum he h
def iEnumA (K : PySem.W.Frag) (ta : TA) : TI := fun σ H R => ta σ H fun vs H1 => ∃ a xs, vs = [.ref a] ∧ ((SqL K H1 a xs ∧ R (Ite K a) H1) ∨ (SqT K H1 a xs ∧ R (IteT K a) H1))
theorem pi_enumA {X : Cx} {e : Expr} {ta : TA} {p pos tpos : Pos} {elts : List Expr} {kk : Nat} (hg : Gl X "enumerate") (hm : X.mg "enumerate" = none) (ha : PA X [e] ta) (hs : starEach [e] X.env = [(false, PySem.eval e X.env)] := by rfl) :
    PI X (.Tuple elts kk tpos) (.Call (.Name "enumerate" p) [e] [] pos) (iEnumA X.K ta) := by
  refine ⟨fun pins s σ H R I h => ?_⟩
  refine Call_ (ld_blt I hg hm boot_enumerate (PyProof.Rows.callWith_type1 (thn (ha.run pos pins s σ H _ I h) fun us s1 ⟨vs, H1, I1, r1, q1⟩ => ?_) hs rfl))
  obtain ⟨a, xs, ex, q⟩ := q1
  subst ex
  cases r1 with
  | cons r rr =>
    cases rr
    cases r
    have fpo : ∀ b ∈ [s1.heap.objs.size + 1, s1.heap.objs.size], s1.heap.objs.size ≤ b := fun b hb => by
      have e' : b = s1.heap.objs.size + 1 ∨ b = s1.heap.objs.size := by simpa using hb
      rcases e' with z | z
      · rw [z]; exact Nat.le_add_right _ _
      · rw [z]; exact Nat.le_refl _
    rcases q with ⟨hq, q⟩ | ⟨hq, q⟩
    · obtain ⟨its, rv, p', hz⟩ := I1.list hq
      refine call_enumerate_list p'.isList fun h' he hit hsz hk => wpAny_pyIter_enum he ?_
      have I2 : Inv X pins σ H1 { s1 with heap := h' } := I1.kept (t' := s1.toks) hk
      exact ⟨s1.heap.objs.size + 1, [s1.heap.objs.size + 1, s1.heap.objs.size], _, _, H1, rfl, I2, turn_enum a (s1.heap.objs.size + 1) s1.heap.objs.size, ⟨⟨.none, he⟩, hit, Nat.succ_ne_self _⟩, fun b hb => I1.fpOk (fpo b hb) (I1.hok.fresh (fpo b hb)), q⟩
    · obtain ⟨its, rv, p', hz⟩ := I1.tuple hq
      refine call_enumT (show s1.heap.IsTuple a its.toArray from p') fun h' he hit hsz hk => wpAny_pyIter_enum he ?_
      have I2 : Inv X pins σ H1 { s1 with heap := h' } := I1.kept (t' := s1.toks) hk
      exact ⟨s1.heap.objs.size + 1, [s1.heap.objs.size + 1, s1.heap.objs.size], _, _, H1, rfl, I2, turn_enumT a (s1.heap.objs.size + 1) s1.heap.objs.size, ⟨⟨.none, he⟩, hit, Nat.succ_ne_self _⟩, fun b hb => I1.fpOk (fpo b hb) (I1.hok.fresh (fpo b hb)), q⟩
end Pi

set_option Elab.async false
set_option linter.all false
set_option maxRecDepth 100000
set_option maxHeartbeats 4000000
/-! PiJ: what is walked; comprehensions. -/
namespace Pi
open PySem PySem.Spec PyProof.Rows L2
variable [HasT]

/-- J yields the items, as long as the sources stand -/
def ItOk (K : PySem.W.Frag) (J : It) (vs : List V) (ds items : List D) : Prop := ∀ (F : Addr → Prop) (σ : Sg) (env : Env) (U : Addr → Prop) (H : Hp), Gd K F σ env U H → RepAll K U H vs ds →
  ∀ (i : Nat), (∀ d, items[i]? = some d → J.go i H ∧ ∀ x H', J.yld i H x H' → Post K F σ env U H σ env U H' ∧ Rep K U H' x d) ∧ (items[i]? = none → J.stop i H)
def rdI (B : Sx) (L : Lib) (k : ItK) (es : List E) : TI := fun σ H R => ∃ env U, Gd B.K B.F σ env U H ∧ Wp B σ env U H ((args L es env).bind (walkB k)) fun items env1 U1 H1 => ∀ J (vs : List V) (ds : List D), RepAll B.K U1 H1 vs ds → ItOk B.K J vs ds items → R J H1

section
variable {K : PySem.W.Frag} {F : Addr → Prop} {σ : Sg} {U : Addr → Prop} {H : Hp}
theorem peek_sh {env : Env} {i : Nat} {l : Bool} {d : D} (h : env[i]? = some (.ow l d)) (x : Arg) : x.peek (env.set i (.sh d)) = x.peek env := by
  cases x with
  | val d' => rfl
  | slot j =>
    simp only [Arg.peek]
    by_cases e : i = j
    · subst e
      have hi := (List.getElem?_eq_some_iff.mp h).1
      rw [List.getElem?_set_self hi, h]
    · rw [List.getElem?_set_ne e]
theorem peeks_sh {env : Env} {i : Nat} {l : Bool} {d : D} (h : env[i]? = some (.ow l d)) : ∀ xs : List Arg, peeks (env.set i (.sh d)) xs = peeks env xs
  | [] => rfl
  | x :: xs => by simp only [peeks]; rw [peek_sh h x, peeks_sh h xs]
/-- the sources are shared -/
theorem shares_ok : ∀ {xs : List Arg} {vs : List V} {ds : List D} {env : Env} {U : Addr → Prop}, Gd K F σ env U H → AOks K σ U H vs xs → peeks env xs = some ds →
    ∃ U2, Post K F σ env U H σ (shares xs env) U2 H ∧ RepAll K U2 H vs ds
  | [], _, ds, env, U, g, .nil, e => by
    simp only [peeks] at e; cases e
    exact ⟨U, .refl g, .nil⟩
  | .val d :: xs, _, ds, env, U, g, .cons (vs := vs) h t, e => by
    simp only [peeks, Arg.peek, Option.bind_some] at e
    cases q : peeks env xs with
    | none => rw [q] at e; cases e
    | some es =>
      rw [q] at e; cases e
      obtain ⟨U2, p, r⟩ := shares_ok g t q
      exact ⟨U2, by simpa only [shares] using p, .cons (p.rep g h) r⟩
  | .slot i :: xs, _, ds, env, U, g, .cons (v := v) (vs := vs) h t, e => by
    have h : σ[i]? = some (some v) := h
    simp only [peeks] at e
    cases hi : env[i]? with
    | none => simp [Arg.peek, hi] at e
    | some s =>
      cases s with
      | no => simp [Arg.peek, hi] at e
      | sh d =>
        simp only [Arg.peek, hi, Option.bind_some] at e
        cases q : peeks env xs with
        | none => rw [q] at e; cases e
        | some es =>
          rw [q] at e; cases e
          obtain ⟨U2, p, r⟩ := shares_ok g t q
          obtain ⟨v', e1, r1⟩ := g.sh i d hi
          rw [h] at e1; cases e1
          refine ⟨U2, ?_, .cons (p.rep g r1) r⟩
          simp only [shares, hi]
          exact p
      | ow l d =>
        simp only [Arg.peek, hi, Option.bind_some] at e
        cases q : peeks env xs with
        | none => rw [q] at e; cases e
        | some es =>
          rw [q] at e; cases e
          obtain ⟨a, e1, p1, r1⟩ := Post.share g hi
          rw [h] at e1; cases e1
          obtain ⟨U2, p, r⟩ := shares_ok p1.good (t.mono g p1) (by rw [peeks_sh hi]; exact q)
          refine ⟨U2, ?_, .cons (p.rep p1.good r1) r⟩
          simp only [shares, hi]
          exact p1.trans g p
theorem walkB_ok {B : Sx} {env : Env} {k : ItK} {xs : List Arg} {vs : List V} {P : List D → Env → (Addr → Prop) → Hp → Prop} (g : Gd B.K B.F σ env U H) (h : AOks B.K σ U H vs xs) (w : Wp B σ env U H (walkB k xs env) P) :
    ∃ ds items U2, peeks env xs = some ds ∧ iterD k ds = some items ∧ RepAll B.K U2 H vs ds ∧ P items (shares xs env) U2 H := by
  unfold walkB at w
  cases e : peeks env xs with
  | none => rw [e] at w; exact w.elim
  | some ds =>
    rw [e] at w
    simp only at w
    cases e2 : iterD k ds with
    | none => rw [e2] at w; exact w.elim
    | some items =>
      rw [e2] at w
      obtain ⟨U2, p, r⟩ := shares_ok g h e
      exact ⟨ds, items, U2, rfl, e2, r, w U2 H p⟩
theorem it_list {a : Addr} {ds : List D} : ItOk K (Itl K a) [.ref a] [.lst ds] ds := by
  intro F σ env U H g r i
  cases r with
  | cons r _ =>
    cases r with
    | @lst _ vs _ h1 hu h2 =>
      refine ⟨fun d e => ?_, fun e => ⟨vs, .inl h1, by rw [h2.length]; exact List.getElem?_eq_none_iff.mp e⟩⟩
      obtain ⟨v, e1, r1⟩ := h2.get e
      refine ⟨⟨vs, v, .inl h1, e1⟩, fun x H' ⟨e2, q⟩ => ?_⟩
      subst e2
      have := q vs (.inl h1)
      rw [e1] at this; cases this
      exact ⟨.refl g, r1⟩
theorem it_tup {a : Addr} {ds : List D} : ItOk K (Itt K a) [.ref a] [.tup ds] ds := by
  intro F σ env U H g r i
  cases r with
  | cons r _ =>
    cases r with
    | @tup _ vs _ h1 h2 =>
      refine ⟨fun d e => ?_, fun e => ⟨vs, h1, by rw [h2.length]; exact List.getElem?_eq_none_iff.mp e⟩⟩
      obtain ⟨v, e1, r1⟩ := h2.get e
      refine ⟨⟨vs, v, h1, e1⟩, fun x H' ⟨e2, q⟩ => ?_⟩
      subst e2
      have := q vs h1
      rw [e1] at this; cases this
      exact ⟨.refl g, r1⟩
theorem it_range {lo : Int} {n : Nat} : ItOk K (Itr lo n) [] [] (rangeD lo n) := by
  intro F σ env U H g r i
  have hi : (rangeD lo n)[i]? = if i < n then some (.int (lo + (i : Nat))) else none := by
    unfold rangeD
    rw [List.getElem?_map]
    by_cases h : i < n
    · rw [if_pos h, List.getElem?_range h]; rfl
    · rw [if_neg h, List.getElem?_eq_none (by simpa using h)]; rfl
  refine ⟨fun d e => ?_, fun e => ?_⟩
  · rw [hi] at e
    by_cases h : i < n
    · rw [if_pos h] at e
      cases e
      refine ⟨h, fun x H' ⟨e2, q⟩ => ?_⟩
      subst e2 q
      exact ⟨.refl g, .int _⟩
    · rw [if_neg h] at e; cases e
  · rw [hi] at e
    by_cases h : i < n
    · rw [if_pos h] at e; cases e
    · exact Nat.le_of_not_lt h
theorem it_enum {a : Addr} {ds : List D} : ItOk K (Ite K a) [.ref a] [.lst ds] ((List.range ds.length).zipWith (fun (k : Nat) x => D.tup [.int k, x]) ds) := by
  intro F σ env U H g r i
  cases r with
  | cons r _ =>
    cases r with
    | @lst _ vs _ h1 hu h2 =>
      have hi : ((List.range ds.length).zipWith (fun (k : Nat) x => D.tup [.int k, x]) ds)[i]? = (ds[i]?).map fun x => D.tup [.int (i : Nat), x] := by
        rw [List.getElem?_zipWith]
        by_cases h : i < ds.length
        · rw [List.getElem?_range h, List.getElem?_eq_getElem h]; rfl
        · rw [List.getElem?_eq_none (by simpa using h), List.getElem?_eq_none (Nat.le_of_not_lt h)]; rfl
      refine ⟨fun d e => ?_, fun e => ⟨vs, .inl h1, ?_⟩⟩
      · rw [hi] at e
        cases e3 : ds[i]? with
        | none => rw [e3] at e; cases e
        | some d0 =>
          rw [e3] at e; cases e
          obtain ⟨v, e1, r1⟩ := h2.get e3
          refine ⟨⟨vs, v, .inl h1, e1⟩, fun x H' ⟨T, x0, ex, hT, e2, q⟩ => ?_⟩
          have := q vs (.inl h1)
          rw [e1] at this; cases this
          subst ex e2
          exact new_tup g hT (.cons (.int _) (.cons r1 .nil))
      · rw [hi] at e
        rw [h2.length]
        cases e3 : ds[i]? with
        | none => exact List.getElem?_eq_none_iff.mp e3
        | some d0 => rw [e3] at e; cases e
theorem it_enumT {a : Addr} {ds : List D} : ItOk K (IteT K a) [.ref a] [.tup ds] ((List.range ds.length).zipWith (fun (k : Nat) x => D.tup [.int k, x]) ds) := by
  intro F σ env U H g r i
  cases r with
  | cons r _ =>
    cases r with
    | @tup _ vs _ h1 h2 =>
      have hi : ((List.range ds.length).zipWith (fun (k : Nat) x => D.tup [.int k, x]) ds)[i]? = (ds[i]?).map fun x => D.tup [.int (i : Nat), x] := by
        rw [List.getElem?_zipWith]
        by_cases h : i < ds.length
        · rw [List.getElem?_range h, List.getElem?_eq_getElem h]; rfl
        · rw [List.getElem?_eq_none (by simpa using h), List.getElem?_eq_none (Nat.le_of_not_lt h)]; rfl
      refine ⟨fun d e => ?_, fun e => ⟨vs, h1, ?_⟩⟩
      · rw [hi] at e
        cases e3 : ds[i]? with
        | none => rw [e3] at e; cases e
        | some d0 =>
          rw [e3] at e; cases e
          obtain ⟨v, e1, r1⟩ := h2.get e3
          refine ⟨⟨vs, v, h1, e1⟩, fun x H' ⟨T, x0, ex, hT, e2, q⟩ => ?_⟩
          have := q vs h1
          rw [e1] at this; cases this
          subst ex e2
          exact new_tup g hT (.cons (.int _) (.cons r1 .nil))
      · rw [hi] at e
        rw [h2.length]
        cases e3 : ds[i]? with
        | none => exact List.getElem?_eq_none_iff.mp e3
        | some d0 => rw [e3] at e; cases e
theorem it_zipT {a b : Addr} {ds es : List D} : ItOk K (RZ.ItzT K a b) [.ref a, .ref b] [.tup ds, .tup es] (List.zipWith (fun x y => D.tup [x, y]) ds es) := by
  intro F σ env U H g r i
  cases r with
  | cons r t =>
    cases t with
    | cons r' _ =>
      cases r with
      | @tup _ vs _ h1 h2 =>
        cases r' with
        | @tup _ ws _ h3 h4 =>
          refine ⟨fun d e => ?_, fun e => ⟨vs, ws, h1, h3, ?_⟩⟩
          · rw [List.getElem?_zipWith] at e
            cases e3 : ds[i]? with
            | none => rw [e3] at e; cases e
            | some d0 =>
              cases e4 : es[i]? with
              | none => rw [e3, e4] at e; cases e
              | some d1 =>
                rw [e3, e4] at e; cases e
                obtain ⟨v, e1, r1⟩ := h2.get e3
                obtain ⟨w, e2, r2⟩ := h4.get e4
                refine ⟨⟨vs, ws, v, w, h1, h3, e1, e2⟩, fun x H' ⟨T, x0, y0, ex, hT, eH, q, q2⟩ => ?_⟩
                have := q vs h1
                rw [e1] at this; cases this
                have := q2 ws h3
                rw [e2] at this; cases this
                subst ex eH
                exact new_tup g hT (.cons r1 (.cons r2 .nil))
          · rw [List.getElem?_zipWith] at e
            rw [h2.length, h4.length]
            cases e3 : ds[i]? with
            | none => exact .inl (List.getElem?_eq_none_iff.mp e3)
            | some d0 =>
              cases e4 : es[i]? with
              | none => exact .inr (List.getElem?_eq_none_iff.mp e4)
              | some d1 => rw [e3, e4] at e; cases e
theorem it_zip {a b : Addr} {ds es : List D} : ItOk K (Itz K a b) [.ref a, .ref b] [.lst ds, .lst es] (List.zipWith (fun x y => D.tup [x, y]) ds es) := by
  intro F σ env U H g r i
  cases r with
  | cons r t =>
    cases t with
    | cons r' _ =>
      cases r with
      | @lst _ vs _ h1 hu h2 =>
        cases r' with
        | @lst _ ws _ h3 hu' h4 =>
          refine ⟨fun d e => ?_, fun e => ⟨vs, ws, .inl h1, .inl h3, ?_⟩⟩
          · rw [List.getElem?_zipWith] at e
            cases e3 : ds[i]? with
            | none => rw [e3] at e; cases e
            | some d0 =>
              cases e4 : es[i]? with
              | none => rw [e3, e4] at e; cases e
              | some d1 =>
                rw [e3, e4] at e; cases e
                obtain ⟨v, e1, r1⟩ := h2.get e3
                obtain ⟨w, e2, r2⟩ := h4.get e4
                refine ⟨⟨vs, ws, v, w, .inl h1, .inl h3, e1, e2⟩, fun x H' ⟨T, x0, y0, ex, hT, eH, q, q2⟩ => ?_⟩
                have := q vs (.inl h1)
                rw [e1] at this; cases this
                have := q2 ws (.inl h3)
                rw [e2] at this; cases this
                subst ex eH
                exact new_tup g hT (.cons r1 (.cons r2 .nil))
          · rw [List.getElem?_zipWith] at e
            rw [h2.length, h4.length]
            cases e3 : ds[i]? with
            | none => exact .inl (List.getElem?_eq_none_iff.mp e3)
            | some d0 =>
              cases e4 : es[i]? with
              | none => exact .inr (List.getElem?_eq_none_iff.mp e4)
              | some d1 => rw [e3, e4] at e; cases e
end
section
variable {X : Cx} {B : Sx} {L : Lib} {tg a b : Expr} {a' b' : E} {p pos tpos : Pos}
theorem aoks1 {K σ U H vs x} (h : AOks K σ U H vs [x]) : ∃ v, vs = [v] ∧ AOk K σ U H v x := by
  cases h with | cons a b => cases b; exact ⟨_, rfl, a⟩
theorem snd_Iseq (hK : X.K = B.K) (ha : PE X a (rdA B L a')) : PI X tg a (rdI B L .seq [a']) := by
  refine ⟨fun pins s σ H R I ⟨env, U, g, h⟩ => ?_⟩
  simp only [args, Res.bind_assoc, Res.bind_ok] at h
  have h1 := Wp.bind g h
  -- what stands there, told by the interpreter
  cases hx : argOf a' (eval L a' env) env with
  | bad => rw [hx] at h; exact h.elim
  | ex x e1 =>
    refine (pi_list ha).run pins s σ H R I ⟨env, U, g, ?_⟩
    rw [hx] at h ⊢
    exact h
  | ok x env1 =>
    have h2 := h
    rw [hx] at h2
    simp only [Res.bind_ok] at h2
    cases e : peeks env1 [x] with
    | none => unfold walkB at h2; rw [e] at h2; exact h2.elim
    | some ds =>
      have hds : ∃ d, ds = [d] ∧ x.peek env1 = some d := by
        simp only [peeks] at e
        cases q : x.peek env1 with
        | none => rw [q] at e; cases e
        | some d => rw [q] at e; cases e; exact ⟨d, rfl, rfl⟩
      obtain ⟨d, rfl, ex⟩ := hds
      have kk : ∀ {U1 H1 v}, Post B.K B.F σ env U H σ env1 U1 H1 → AOk B.K σ U1 H1 v x → ∃ items U2, iterD .seq [d] = some items ∧ RepAll B.K U2 H1 [v] [d] ∧ ∀ J (vs : List V) (ds : List D), RepAll B.K U2 H1 vs ds → ItOk B.K J vs ds items → R J H1 := by
        intro U1 H1 v p1 ok1
        rw [hx] at h1
        have h3 := h1 U1 H1 p1
        obtain ⟨ds, items, U2, e1, e2, r, q⟩ := walkB_ok p1.good (.cons ok1 .nil) h3
        rw [e] at e1; cases e1
        exact ⟨items, U2, e2, r, q⟩
      cases d with
      | lst xs =>
        refine (pi_list ha).run pins s σ H R I ⟨env, U, g, ?_⟩
        rw [hx]
        intro U1 H1 p1 v ok1
        obtain ⟨items, U2, e2, r, q⟩ := kk p1 ok1
        simp only [iterD] at e2
        cases e2
        obtain ⟨a, ws, rfl, h4, h5⟩ := (p1.good.peek ok1 ex).lst
        exact ⟨a, rfl, ⟨ws, .inl h4⟩, hK ▸ q _ _ _ r it_list⟩
      | tup xs =>
        refine (pi_tup ha).run pins s σ H R I ⟨env, U, g, ?_⟩
        rw [hx]
        intro U1 H1 p1 v ok1
        obtain ⟨items, U2, e2, r, q⟩ := kk p1 ok1
        simp only [iterD] at e2
        cases e2
        obtain ⟨a, ws, rfl, h4, h5⟩ := (p1.good.peek ok1 ex).tup
        exact ⟨a, rfl, ⟨ws, hK ▸ h4⟩, hK ▸ q _ _ _ r it_tup⟩
      | _ => unfold walkB at h2; rw [e] at h2; exact h2.elim
theorem iter_args {k : ItK} {es' : List E} {σ : Sg} {H : Hp} {R : It → Hp → Prop} (h : rdI B L k es' σ H R) :
    rdAs B L es' σ H fun vs H1 => ∃ U2 ds items, RepAll B.K U2 H1 vs ds ∧ iterD k ds = some items ∧ ∀ J (vs : List V) (ds : List D), RepAll B.K U2 H1 vs ds → ItOk B.K J vs ds items → R J H1 := by
  obtain ⟨env, U, g, h⟩ := h
  refine ⟨env, U, g, (Wp.bind g h).imp fun xs env1 U1 H1 _ p1 h1 vs oks => ?_⟩
  obtain ⟨ds, items, U2, e1, e2, r, q⟩ := walkB_ok p1.good oks h1
  exact ⟨U2, ds, items, r, e2, q⟩
theorem snd_Irange1 (hg : Gl X "range") (hm : X.mg "range" = none) (ha : PA X [a] (rdAs B L [a'])) (hs : starEach [a] X.env = [(false, PySem.eval a X.env)]) : PI X tg (.Call (.Name "range" p) [a] [] pos) (rdI B L .range [a']) := by
  refine ⟨fun pins s σ H R I h => (pi_range1 hg hm ha hs).run pins s σ H R I ?_⟩
  obtain ⟨env, U, g, w⟩ := iter_args h
  refine ⟨env, U, g, w.imp fun xs env1 U1 H1 hx p1 h1 vs oks => ?_⟩
  obtain ⟨U2, ds, items, r, e, q⟩ := h1 vs oks
  have hl : ds.length = 1 := by rw [← r.length, oks.length, args_length _ _ _ _ hx]; rfl
  obtain ⟨d, rfl⟩ : ∃ d, ds = [d] := by
    cases ds with | nil => simp at hl | cons d t => cases t with | nil => exact ⟨d, rfl⟩ | cons _ _ => simp at hl
  cases d with
  | int n =>
    simp only [iterD] at e
    split at e
    · rename_i hr
      cases e
      cases r with
      | cons r t =>
        cases t
        cases r
        simp only [rngOk, Bool.and_eq_true, decide_eq_true_eq] at hr
        exact ⟨n, rfl, hr.1, hr.2, q _ [] [] .nil it_range⟩
    · cases e
  | _ => simp [iterD] at e
theorem snd_Irange2 (hg : Gl X "range") (hm : X.mg "range" = none) (ha : PA X [a, b] (rdAs B L [a', b'])) (hs : starEach [a, b] X.env = [(false, PySem.eval a X.env), (false, PySem.eval b X.env)]) (hs2 : starEach [b] X.env = [(false, PySem.eval b X.env)]) : PI X tg (.Call (.Name "range" p) [a, b] [] pos) (rdI B L .range [a', b']) := by
  refine ⟨fun pins s σ H R I h => (pi_range2 hg hm ha hs hs2).run pins s σ H R I ?_⟩
  obtain ⟨env, U, g, w⟩ := iter_args h
  refine ⟨env, U, g, w.imp fun xs env1 U1 H1 hx p1 h1 vs oks => ?_⟩
  obtain ⟨U2, ds, items, r, e, q⟩ := h1 vs oks
  have hl : ds.length = 2 := by rw [← r.length, oks.length, args_length _ _ _ _ hx]; rfl
  obtain ⟨d, d2, rfl⟩ : ∃ d d2, ds = [d, d2] := by
    rcases ds with _ | ⟨d, _ | ⟨d2, _ | ⟨d3, t⟩⟩⟩ <;> simp at hl
    exact ⟨d, d2, rfl⟩
  cases d <;> cases d2 <;> try (simp [iterD] at e)
  rename_i i j
  obtain ⟨hr, e⟩ := e
  subst e
  cases r with
  | cons r t =>
    cases t with
    | cons r' t =>
      cases t
      cases r
      cases r'
      simp only [rngOk, Bool.and_eq_true, decide_eq_true_eq] at hr
      exact ⟨i, j, rfl, ⟨hr.1.1, hr.1.2, hr.2.1, hr.2.2⟩, q _ [] [] .nil it_range⟩
variable {elts : List Expr} {kk : Nat}
theorem snd_Ienum (hK : X.K = B.K) (hg : Gl X "enumerate") (hm : X.mg "enumerate" = none) (ha : PA X [a] (rdAs B L [a'])) (hs : starEach [a] X.env = [(false, PySem.eval a X.env)]) : PI X (.Tuple elts kk tpos) (.Call (.Name "enumerate" p) [a] [] pos) (rdI B L .enum [a']) := by
  refine ⟨fun pins s σ H R I h => (pi_enumA hg hm ha hs).run pins s σ H R I ?_⟩
  obtain ⟨env, U, g, w⟩ := iter_args h
  refine ⟨env, U, g, w.imp fun xs env1 U1 H1 hx p1 h1 vs oks => ?_⟩
  obtain ⟨U2, ds, items, r, e, q⟩ := h1 vs oks
  have hl : ds.length = 1 := by rw [← r.length, oks.length, args_length _ _ _ _ hx]; rfl
  obtain ⟨d, rfl⟩ : ∃ d, ds = [d] := by
    cases ds with | nil => simp at hl | cons d t => cases t with | nil => exact ⟨d, rfl⟩ | cons _ _ => simp at hl
  cases d with
  | lst ys =>
    simp only [iterD] at e
    cases e
    cases r with
    | cons r t =>
      cases t
      have r0 := r
      cases r with
      | lst h1 hu h2 => exact ⟨_, _, rfl, .inl ⟨.inl h1, hK ▸ q _ _ _ (.cons r0 .nil) it_enum⟩⟩
  | tup ys =>
    simp only [iterD] at e
    cases e
    cases r with
    | cons r t =>
      cases t
      have r0 := r
      cases r with
      | tup h1 h2 => exact ⟨_, _, rfl, .inr ⟨hK ▸ h1, hK ▸ q _ _ _ (.cons r0 .nil) it_enumT⟩⟩
  | _ => simp [iterD] at e
theorem snd_Izip (hK : X.K = B.K) (hg : Gl X "zip") (hm : X.mg "zip" = none) (ha : PA X [a, b] (rdAs B L [a', b'])) (hs : starEach [a, b] X.env = (false, PySem.eval a X.env) :: starEach [b] X.env) (hpl : (backTo pos (starEach [b] X.env)).any (·.1) = false) : PI X (.Tuple elts kk tpos) (.Call (.Name "zip" p) [a, b] [] pos) (rdI B L .zip [a', b']) := by
  refine ⟨fun pins s σ H R I h => (RZ.pi_zipA hg hm ha hs hpl).run pins s σ H R I ?_⟩
  obtain ⟨env, U, g, w⟩ := iter_args h
  refine ⟨env, U, g, w.imp fun xs env1 U1 H1 hx p1 h1 vs oks => ?_⟩
  obtain ⟨U2, ds, items, r, e, q⟩ := h1 vs oks
  have hl : ds.length = 2 := by rw [← r.length, oks.length, args_length _ _ _ _ hx]; rfl
  obtain ⟨d, d2, rfl⟩ : ∃ d d2, ds = [d, d2] := by
    rcases ds with _ | ⟨d, _ | ⟨d2, _ | ⟨d3, t⟩⟩⟩ <;> simp at hl
    exact ⟨d, d2, rfl⟩
  cases d <;> cases d2 <;> try (simp [iterD] at e; done)
  · simp only [iterD] at e
    cases e
    cases r with
    | cons r t =>
      cases t with
      | cons r' t =>
        cases t
        have r0 := r
        have r0' := r'
        cases r with
        | tup h1 h2 =>
          cases r' with
          | tup h3 h4 => exact ⟨_, _, _, _, rfl, .inr ⟨hK ▸ h1, hK ▸ h3, hK ▸ q _ _ _ (.cons r0 (.cons r0' .nil)) it_zipT⟩⟩
  · simp only [iterD] at e
    cases e
    cases r with
    | cons r t =>
      cases t with
      | cons r' t =>
        cases t
        have r0 := r
        have r0' := r'
        cases r with
        | lst h1 hu h2 =>
          cases r' with
          | lst h3 hu' h4 => exact ⟨_, _, _, _, rfl, .inl ⟨.inl h1, .inl h3, hK ▸ q _ _ _ (.cons r0 (.cons r0' .nil)) it_zip⟩⟩
end
end Pi

set_option Elab.async false
set_option linter.all false
set_option maxRecDepth 100000
set_option maxHeartbeats 4000000
/-! PiK: comprehensions. -/
namespace Pi
open PySem PySem.Spec PyProof.Rows L2
variable [HasT]

section
variable {K : PySem.W.Frag} {F : Addr → Prop} {σ : Sg} {env : Env} {U : Addr → Prop} {H : Hp}
theorem Post.setNo {i : Nat} {o : Option V} (g : Gd K F σ env U H) : Post K F σ env U H (σ.set i o) (env.set i .no) U H := by
  have get : ∀ {j : Nat} {s : Sl}, s ≠ .no → (env.set i .no)[j]? = some s → i ≠ j ∧ env[j]? = some s ∧ (σ.set i o)[j]? = σ[j]? := fun {j s} hs h => by
    rcases get_set_ow h with ⟨e, q⟩ | ⟨n, q⟩
    · exact absurd q hs
    · exact ⟨n, q, by rw [List.getElem?_set_ne n]⟩
  refine ⟨Tr.refl _ _ _, ⟨by simpa using g.len, fun j d' h => ?_, fun j l d' h => ?_, fun j k l1 l2 d1 d2 b h1 h2 s1 s2 => ?_, g.live, g.frs, g.tab⟩, fun b ⟨j, l, d', h, s⟩ => ?_⟩
  · obtain ⟨n, q, e⟩ := get (by simp) h
    rw [e]; exact g.sh j d' q
  · obtain ⟨n, q, e⟩ := get (by simp) h
    rw [e]; exact g.ow j l d' q
  · obtain ⟨n1, q1, e1⟩ := get (by simp) h1
    obtain ⟨n2, q2, e2⟩ := get (by simp) h2
    rw [e1] at s1
    rw [e2] at s2
    exact g.inj j k _ _ _ _ b q1 q2 s1 s2
  · obtain ⟨n, q, e⟩ := get (by simp) h
    rw [e] at s
    exact .inl ⟨j, l, d', q, s⟩
theorem Post.wipe (g : Gd K F σ env U H) : ∀ vs : List Nat, Post K F σ env U H (wipe σ vs) (wipeE env vs) U H
  | [] => .refl g
  | v :: vs => by
    have p := Post.wipe g vs
    exact p.trans g (Post.setNo p.good)
theorem wipe_in : ∀ {vs : List Nat} {i : Nat} {σ : Sg}, i ∈ vs → i < σ.length → (L2.wipe σ vs)[i]? = some none
  | [], i, σ, h, _ => by simp at h
  | v :: vs, i, σ, h, hl => by
    unfold L2.wipe
    by_cases e : v = i
    · subst e
      rw [List.getElem?_set_self (by rw [wipe_length]; exact hl)]
    · rw [List.getElem?_set_ne e]
      exact wipe_in ((List.mem_cons.mp h).resolve_left (fun z => e z.symm)) hl
theorem wipe_eq {σ2 : Sg} {vs : List Nat} (hl : σ2.length = σ.length) (h : ∀ i, i ∉ vs → σ2[i]? = σ[i]?) : L2.wipe σ2 vs = L2.wipe σ vs := by
  apply List.ext_getElem?
  intro i
  by_cases hi : i ∈ vs
  · by_cases hlt : i < σ.length
    · rw [wipe_in hi hlt, wipe_in hi (by omega)]
    · rw [List.getElem?_eq_none (by rw [wipe_length]; omega), List.getElem?_eq_none (by rw [wipe_length]; omega)]
  · rw [wipe_out hi, wipe_out hi, h i hi]
theorem wipe_wipe {vs : List Nat} : L2.wipe (L2.wipe σ vs) vs = L2.wipe σ vs := wipe_eq (wipe_length _ _) fun i hi => wipe_out hi
theorem wipeE_get : ∀ {vs : List Nat} {i : Nat} {s : Sl} {env : Env}, s ≠ .no → (wipeE env vs)[i]? = some s → i ∉ vs ∧ env[i]? = some s
  | [], i, s, env, _, h => ⟨by simp, h⟩
  | v :: vs, i, s, env, hs, h => by
    unfold wipeE at h
    rcases get_set_ow h with ⟨e, q⟩ | ⟨n, q⟩
    · exact absurd q hs
    · obtain ⟨h1, h2⟩ := wipeE_get hs q
      exact ⟨by simp only [List.mem_cons, not_or]; exact ⟨fun z => n z.symm, h1⟩, h2⟩
theorem backE_get : ∀ {vs : List Nat} {i : Nat} {s : Sl} {old env : Env}, (backE old env vs)[i]? = some s → (i ∈ vs ∧ s = old.getD i .no) ∨ (i ∉ vs ∧ env[i]? = some s)
  | [], i, s, old, env, h => .inr ⟨by simp, h⟩
  | v :: vs, i, s, old, env, h => by
    unfold backE at h
    rcases get_set_ow h with ⟨e, q⟩ | ⟨n, q⟩
    · subst e
      exact .inl ⟨List.mem_cons_self, q⟩
    · rcases backE_get q with ⟨h1, h2⟩ | ⟨h1, h2⟩
      · exact .inl ⟨List.mem_cons_of_mem _ h1, h2⟩
      · exact .inr ⟨by simp only [List.mem_cons, not_or]; exact ⟨fun z => n z.symm, h1⟩, h2⟩
theorem backE_length : ∀ {vs : List Nat} {old env : Env}, (backE old env vs).length = env.length
  | [], _, _ => rfl
  | v :: vs, old, env => by unfold backE; rw [List.length_set, backE_length]
theorem getD_some {old : Env} {i : Nat} {s : Sl} (hs : s ≠ .no) (h : s = old.getD i .no) : old[i]? = some s := by
  rw [List.getD_eq_getElem?_getD] at h
  cases e : old[i]? with
  | none => rw [e] at h; exact absurd h hs
  | some x => rw [e] at h; simp at h; rw [h]
/-- behind a block: the own slots are as they were -/
theorem Post.unwipe {vs : List Nat} {envn : Env} {Un : Addr → Prop} {Hn : Hp} (g : Gd K F σ env U H) (p : Post K F (L2.wipe σ vs) (wipeE env vs) U H (L2.wipe σ vs) envn Un Hn) : Post K F σ env U H σ (backE env envn vs) Un Hn := by
  have gw : Gd K F (L2.wipe σ vs) (wipeE env vs) U H := (Post.wipe g vs).good
  have sub : ∀ b, Own (L2.wipe σ vs) (wipeE env vs) b → Own σ env b := fun b ⟨j, l, d, e, s⟩ => by
    obtain ⟨n, e'⟩ := wipeE_get (by simp) e
    rw [wipe_out n] at s
    exact ⟨j, l, d, e', s⟩
  have notOwn : ∀ i l d a, i ∈ vs → env[i]? = some (.ow l d) → σ[i]? = some (some (.ref a)) → ¬ Own (L2.wipe σ vs) (wipeE env vs) a := fun i l d a hi e s ⟨j, l', d', e', s'⟩ => by
    obtain ⟨n, e''⟩ := wipeE_get (by simp) e'
    rw [wipe_out n] at s'
    exact n (g.inj i j _ _ _ _ a e e'' s s' ▸ hi)
  have tr : Tr (Own σ env) U H Un Hn := ⟨fun b o e n t => p.tr.keep b o e (fun z => n (sub b z)) t, p.tr.tab, p.tr.live, p.tr.sub, fun b u n => p.tr.res b u fun z => n (sub b z)⟩
  have hn : ∀ a, H a ≠ none → ¬ Own (L2.wipe σ vs) (wipeE env vs) a → ¬ Own (L2.wipe σ vs) envn a := fun a h n z => by
    rcases p.own a z with y | y
    · exact n y
    · exact h y
  refine ⟨tr, ⟨by rw [backE_length, p.good.len, wipe_length], fun i d e => ?_, fun i l d e => ?_, fun i j l l' d d' a e1 e2 s1 s2 => ?_, p.good.live, p.good.frs, p.good.tab⟩, fun b ⟨i, l, d, e, s⟩ => ?_⟩
  · rcases backE_get e with ⟨hi, q⟩ | ⟨hi, q⟩
    · obtain ⟨v, e1, r⟩ := g.sh i d (getD_some (by simp) q)
      exact ⟨v, e1, p.rep gw r⟩
    · obtain ⟨v, e1, r⟩ := p.good.sh i d q
      rw [wipe_out hi] at e1
      exact ⟨v, e1, r⟩
  · rcases backE_get e with ⟨hi, q⟩ | ⟨hi, q⟩
    · have q' := getD_some (by simp) q
      obtain ⟨a, e1, u, o, f⟩ := g.ow i l d q'
      have n := notOwn i l d a hi q' e1
      exact ⟨a, e1, p.tr.res a u n, o.mono p.tr gw.hO n, f⟩
    · obtain ⟨a, e1, r⟩ := p.good.ow i l d q
      rw [wipe_out hi] at e1
      exact ⟨a, e1, r⟩
  · rcases backE_get e1 with ⟨hi, q1⟩ | ⟨hi, q1⟩
    · have q1' := getD_some (by simp) q1
      rcases backE_get e2 with ⟨hj, q2⟩ | ⟨hj, q2⟩
      · exact g.inj i j _ _ _ _ a q1' (getD_some (by simp) q2) s1 s2
      · obtain ⟨a', e1', u, o, _⟩ := g.ow i l d q1'
        rw [s1] at e1'; cases e1'
        exact absurd ⟨j, l', d', q2, by rw [wipe_out hj]; exact s2⟩ (hn a (g.live a u) (notOwn i l d a hi q1' s1))
    · rcases backE_get e2 with ⟨hj, q2⟩ | ⟨hj, q2⟩
      · have q2' := getD_some (by simp) q2
        obtain ⟨a', e1', u, o, _⟩ := g.ow j l' d' q2'
        rw [s2] at e1'; cases e1'
        exact absurd ⟨i, l, d, q1, by rw [wipe_out hi]; exact s1⟩ (hn a (g.live a u) (notOwn j l' d' a hj q2' s2))
      · exact p.good.inj i j _ _ _ _ a q1 q2 (by rw [wipe_out hi]; exact s1) (by rw [wipe_out hj]; exact s2)
  · rcases backE_get e with ⟨hi, q⟩ | ⟨hi, q⟩
    · exact .inl ⟨i, l, d, getD_some (by simp) q, s⟩
    · rcases p.own b ⟨i, l, d, q, by rw [wipe_out hi]; exact s⟩ with z | z
      · exact .inl (sub b z)
      · exact .inr z
/-- a list that no slot owns is written -/
theorem Post.poke {σ' : Sg} {env' : Env} {U' : Addr → Prop} {H' : Hp} {D : Addr} {acc acc' : List V} (p : Post K F σ env U H σ' env' U' H') (hn : H D = none) (u : U' D) (n : ¬ Own σ' env' D) (e : H' D = some (.lst acc)) :
    Post K F σ env U H σ' env' U' (upd H' D (.lst acc')) ∧ Tr (fun b => b = D) U' H' U' (upd H' D (.lst acc')) := by
  have t : Tr (fun b => b = D) U' H' U' (upd H' D (.lst acc')) := by
    refine ⟨fun b o h z _ => by rw [upd_ne z]; exact h, fun h => tabs_upd e h nt_lst, fun b h => ?_, fun b h => .inl h, fun b h _ => h⟩
    by_cases z : b = D
    · rw [z, upd_same]; simp
    · rw [upd_ne z]; exact h
  have hO : ∀ a, a = D → U' a ∧ ∃ xs, H' a = some (.lst xs) := fun a h => by subst h; exact ⟨u, _, e⟩
  refine ⟨⟨⟨fun b o h z nt => ?_, fun h => t.tab (p.tr.tab h), fun b h => t.live b (p.tr.live b h), p.tr.sub, p.tr.res⟩, ⟨p.good.len, fun i d h => ?_, fun i l d h => ?_, p.good.inj, fun b h => t.live b (p.good.live b h), fun b h => ?_, t.tab p.good.tab⟩, p.own⟩, t⟩
  · rw [upd_ne (fun y => by rw [y, hn] at h; cases h)]
    exact p.tr.keep b o h z nt
  · obtain ⟨v, e1, r⟩ := p.good.sh i d h
    exact ⟨v, e1, r.mono t hO⟩
  · obtain ⟨a, e1, u1, o, f⟩ := p.good.ow i l d h
    exact ⟨a, e1, u1, o.mono t hO (fun z => n (z ▸ ⟨i, l, d, h, e1⟩)), f⟩
  · refine p.good.frs b ?_
    by_cases z : b = D
    · rw [z, upd_same] at h; cases h
    · rwa [upd_ne z] at h
end

def Sx.quiet (B : Sx) : Sx := { B with W := fun _ _ _ _ => False }
def rdH (B : Sx) (L : Lib) (cs : List E) : TT := fun σ H Q => ∃ env U, Gd B.K B.F σ env U H ∧ Wp B σ env U H (holds L cs env) fun b _ _ H' => Q b H'
section
variable {X : Cx} {B : Sx} {L : Lib}
theorem snd_H0 : PTs X [] (rdH B L []) := ⟨fun pins s σ H Q I ⟨env, U, g, h⟩ => pts_nil.run pins s σ H Q I (by simp only [holds] at h; exact Wp.ok g h)⟩
theorem snd_H1 {c : Expr} {c' : E} (h : PT X c (rdT B L c')) : PTs X [c] (rdH B L [c']) := ⟨fun pins s σ H Q I ⟨env, U, g, w⟩ => (pts_one h).run pins s σ H Q I ⟨env, U, g, by
  have e : holds L [c'] env = (tst L c' env).bind fun k e => .ok k e := by
    simp only [holds, tst, Res.bind_assoc]
    congr 1
    funext x e1
    cases x.peek e1 with
    | none => rfl
    | some d => cases hd : d.truth <;> simp [hd]
  rw [e] at w
  exact (Wp.bind g w).imp fun k env1 U1 H1 _ p1 h1 => Wp.ok p1.good h1⟩⟩
variable {elt tg iter : Expr} {ifs : List Expr} {scope : Scope} {own : List (Str × Nat)} {pos : Pos} {tgt : Tg} {k : ItK} {es' conds' : List E} {elt' : E}
/-- the reading of a comprehension -/
theorem rd_lc (hsub : ∀ i ∈ tgt.slots, i ∈ own.map (·.2)) {σ : Sg} {H : Hp} {Q : VK} (h : rdE B L (.lc elt' (own.map (·.2)) tgt k es' conds') σ H Q) :
    tLc (rdI B L k es') (rdG B.quiet tgt) (rdH B.quiet L conds') (rdE B.quiet L elt') (own.map (·.2)) σ H Q := by
  generalize hvs : own.map (·.2) = vs at h hsub ⊢
  obtain ⟨env, U, g, h⟩ := h
  simp only [eval] at h
  refine ⟨env, U, g, (Wp.bind g h).imp fun items env1 U1 H1 _ p1 h1 J srcV srcD rsrc itok D hD => ?_⟩
  generalize hf : (fun (d : Pi.D) (e : Env) => (match tgt.store d false e with
            | none => (Res.bad : Res (Option Pi.D))
            | some e1 => (holds L conds' e1).bind fun b e2 => if b then (eval L elt' e2).bind fun r e3 => .ok (some r.1) (wipeE e3 vs) else .ok none (wipeE e2 vs))) = f at h1
  cases hloop : lcLoop f items (wipeE env1 vs) [] with
  | bad => rw [hloop] at h1; exact h1.elim
  | ex x e => rw [hloop] at h1; exact h1.elim
  | ok dsf envf =>
    rw [hloop] at h1
    have gw := (Post.wipe p1.good vs)
    -- the block's state
    let St := fun (i : Nat) (H : Hp) => ∃ envi Ui acc accD, Post B.K B.F (L2.wipe σ vs) (wipeE env1 vs) U1 H1 (L2.wipe σ vs) envi Ui H ∧ Ui D ∧ ¬ Own (L2.wipe σ vs) envi D ∧ H D = some (.lst acc) ∧ RepAll B.K Ui H acc accD ∧
      lcLoop f (items.drop i) envi accD = .ok dsf envf ∧ acc.length = accD.length
    refine ⟨fun i m H => m = items.length - i ∧ i ≤ items.length ∧ St i H, ⟨items.length, by simp, Nat.zero_le _, ?_⟩, ?_⟩
    · obtain ⟨q, r⟩ := new_lst (vs := []) (ds := []) gw.good hD .nil
      obtain ⟨a, ea, u, o, n, _⟩ := r
      cases ea
      obtain ⟨ws, e, r2⟩ := o
      rw [upd_same] at e
      cases e
      exact ⟨wipeE env1 vs, _, [], [], q, u, n, upd_same, .nil, by simpa using hloop, rfl⟩
    · rintro i m H ⟨rfl, hi, envi, Ui, acc, accD, P, uD, nD, eD, rD, loop, hlen⟩
      have src : RepAll B.K Ui H srcV srcD := P.reps gw.good rsrc
      obtain ⟨it1, it2⟩ := itok B.F (L2.wipe σ vs) envi Ui H P.good src i
      cases hit : items[i]? with
      | none =>
        refine .inl ⟨it2 hit, ?_⟩
        have hd : items.drop i = [] := List.drop_eq_nil_of_le (List.getElem?_eq_none_iff.mp hit)
        rw [hd] at loop
        simp only [lcLoop] at loop
        cases loop
        refine h1 Ui H (Post.unwipe p1.good P) (.ref D) ⟨D, rfl, uD, ⟨acc, eD, rD⟩, fun ⟨j, l, d, e, s⟩ => ?_, ?_⟩
        · rcases backE_get e with ⟨hj, q⟩ | ⟨hj, q⟩
          · obtain ⟨_, xs, z⟩ := p1.good.hO D ⟨j, l, d, getD_some (by simp) q, s⟩
            rw [hD] at z; cases z
          · exact nD ⟨j, l, d, q, by rw [wipe_out hj]; exact s⟩
        · exact p1.back D hD
      | some d =>
        have hlt : i < items.length := (List.getElem?_eq_some_iff.mp hit).1
        have hd : items.drop i = d :: items.drop (i + 1) := by
          rw [List.drop_eq_getElem_cons hlt]
          congr 1
          exact (List.getElem?_eq_some_iff.mp hit).2
        rw [hd] at loop
        simp only [lcLoop] at loop
        obtain ⟨go, yl⟩ := it1 d hit
        refine .inr ⟨go, fun H' => St (i + 1) H', fun H' s' => ⟨items.length - (i + 1), by omega, rfl, hlt, s'⟩, fun x H5 y5 => ?_⟩
        obtain ⟨p5, r5⟩ := yl x H5 y5
        -- what the interpreter does with the item
        cases hfd : f d envi with
        | bad => rw [hfd] at loop; cases loop
        | ex x e => rw [hfd] at loop; cases loop
        | ok o envi' =>
          rw [hfd] at loop
          simp only [Res.bind_ok] at loop
          rw [← hf] at hfd
          simp only at hfd
          cases hst : tgt.store d false envi with
          | none => rw [hst] at hfd; cases hfd
          | some e1 =>
            rw [hst] at hfd
            simp only at hfd
            have uD5 : Ui D := uD
            have P5 := P.trans gw.good p5
            have eD5 : H5 D = some (.lst acc) := p5.tr.keep _ _ eD nD nt_lst
            have rD5 := p5.reps P.good rD
            refine ⟨envi, Ui, d, e1, p5.good, r5, hst, fun σ2 p6 ag => ⟨?_, ?_⟩⟩
            · rw [wipe_eq (σ := L2.wipe σ vs) (by rw [← p6.good.len, ← p5.good.len]; exact (storeLen hst)) fun j hj => ag j fun z => hj (hsub j z), wipe_wipe]
            · have hw2 : L2.wipe σ2 vs = L2.wipe σ vs := by
                rw [wipe_eq (σ := L2.wipe σ vs) (by rw [← p6.good.len, ← p5.good.len]; exact (storeLen hst)) fun j hj => ag j fun z => hj (hsub j z), wipe_wipe]
              have nD6 : ¬ Own σ2 e1 D := fun z => by
                rcases p6.own D z with y | y
                · exact Own.wo_post p5 P.good nD uD y
                · rw [eD5] at y; cases y
              cases hh : holds L conds' e1 with
              | bad => rw [hh] at hfd; cases hfd
              | ex x e => rw [hh] at hfd; cases hfd
              | ok b e2 =>
                rw [hh] at hfd
                simp only [Res.bind_ok] at hfd
                refine ⟨e1, Ui, p6.good, ?_⟩
                rw [hh]
                intro U7 H7 p7
                have P7 := (P5.trans gw.good p6).trans gw.good p7
                have nD7 : ¬ Own σ2 e2 D := Own.wo_post p7 p6.good nD6 uD
                have uD7 : U7 D := p7.tr.res D uD nD6
                have eD7 : H7 D = some (.lst acc) := p7.tr.keep _ _ eD5 nD6 nt_lst
                have rD7 := p7.reps p6.good rD5
                cases b with
                | false =>
                  simp only [Bool.false_eq_true, if_false] at hfd ⊢
                  cases hfd
                  have p8 := Post.wipe p7.good vs
                  rw [hw2] at p8
                  refine ⟨wipeE e2 vs, U7, acc, accD, P7.trans gw.good p8, uD7, fun z => ?_, eD7, rD7, loop, hlen⟩
                  exact Own.wo_post p8 p7.good nD7 uD7 z
                | true =>
                  simp only [if_true] at hfd ⊢
                  cases he : eval L elt' e2 with
                  | bad => rw [he] at hfd; cases hfd
                  | ex x e => rw [he] at hfd; cases hfd
                  | ok r e3 =>
                    rw [he] at hfd
                    simp only [Res.bind_ok] at hfd
                    cases hfd
                    simp only at loop
                    split at loop
                    · rename_i hsz
                      refine ⟨e2, U7, p7.good, ?_⟩
                      rw [he]
                      intro U8 H8 p8 v vr
                      obtain ⟨U9, p9, r9⟩ := VRep.drop p7.good p8 vr
                      have nD9 : ¬ Own σ2 e3 D := Own.wo_post p9 p7.good nD7 uD7
                      have uD9 : U9 D := p9.tr.res D uD7 nD7
                      have eD9 : H8 D = some (.lst acc) := p9.tr.keep _ _ eD7 nD7 nt_lst
                      have rD9 := p9.reps p7.good rD7
                      have p10 := Post.wipe p9.good vs
                      rw [hw2] at p10
                      have P10 := (P7.trans gw.good p9).trans gw.good p10
                      have nD10 : ¬ Own (L2.wipe σ vs) (wipeE e3 vs) D := Own.wo_post p10 p9.good nD9 uD9
                      obtain ⟨P11, t11⟩ := Post.poke (acc' := acc ++ [v]) P10 hD uD9 nD10 eD9
                      have hO : ∀ a, a = D → U9 a ∧ ∃ xs, H8 a = some (.lst xs) := fun a h => by subst h; exact ⟨uD9, _, eD9⟩
                      refine ⟨acc, eD9, by rw [hlen]; exact Nat.lt_of_lt_of_le hsz line100, wipeE e3 vs, U9, acc ++ [v], accD ++ [r.1], P11, uD9, nD10, upd_same, (rD9.append (.cons r9 .nil)).mono t11 hO, loop, by simp [hlen]⟩
                    · cases loop
where
  storeLen {tgt : Tg} {d : D} {e e1 : Env} (h : tgt.store d false e = some e1) : e1.length = e.length := by
    have aux : ∀ (is : List Nat) (ds : List D) (e e1 : Env), storeT is ds e = some e1 → e1.length = e.length := by
      intro is
      induction is with
      | nil => intro ds e e1 h; cases ds with | nil => simp [storeT] at h; rw [h] | cons _ _ => simp [storeT] at h
      | cons i is ih =>
        intro ds e e1 h
        cases ds with
        | nil => simp [storeT] at h
        | cons d ds =>
          simp only [storeT] at h
          split at h
          · rw [ih _ _ _ h, List.length_set]
          · cases h
    cases tgt with
    | name i =>
      simp only [Tg.store] at h
      split at h
      · cases h; simp
      · cases h
    | tup is =>
      cases d <;> simp only [Tg.store] at h <;> first | exact aux _ _ _ _ h | cases h
theorem snd_lc (hc : X.calm = true) (hN : X.N.Nodup) (hi : PI X tg iter (rdI B L k es')) (ok : BlkOk X.N X.env.scope scope own) (hsub : ∀ i ∈ tgt.slots, i ∈ own.map (·.2))
    (hg : ∀ (s : Shared) (H : Hp) (C : Addr) (cl : List (Str × Addr)) (fp : List Addr), PG (X.blk s H scope (compEnvC scope cl C X.env) fp) tg (rdG B.quiet tgt))
    (ht : ∀ (s : Shared) (H : Hp) (C : Addr) (cl : List (Str × Addr)) (fp : List Addr), PTs (X.blk s H scope (compEnvC scope cl C X.env) fp) ifs (rdH B.quiet L conds'))
    (he : ∀ (s : Shared) (H : Hp) (C : Addr) (cl : List (Str × Addr)) (fp : List Addr), PE (X.blk s H scope (compEnvC scope cl C X.env) fp) elt (rdE B.quiet L elt'))
    (hs : ∀ x, foldedSetIterable iter X.env x = pure x) :
    PE X (.ListComp elt [⟨tg, iter, ifs, 0⟩] scope pos) (rdE B L (.lc elt' (own.map (·.2)) tgt k es' conds')) :=
  (pe_lc hc hN hi ok hg ht he hs).imp fun σ H Q h => rd_lc hsub h
end
section
variable {X : Cx} {B : Sx} {L : Lib} {a b : Expr} {a' b' : E} {pos p : Pos}
theorem reps_rg {K : PySem.W.Frag} {U : Addr → Prop} {H : Hp} (lo : Int) (n : Nat) : RepAll K U H ((List.range n).map fun i => V.int (lo + (i : Nat))) (rangeD lo n) := by
  unfold rangeD
  generalize List.range n = l
  induction l with
  | nil => exact .nil
  | cons x r ih => exact .cons (.int _) ih
theorem rngOk_iff {i : Int} (h : rngOk i = true) : -(2 ^ 62) ≤ i ∧ i < 2 ^ 62 := by
  unfold rngOk at h
  rw [Bool.and_eq_true] at h
  exact ⟨of_decide_eq_true h.1, of_decide_eq_true h.2⟩
theorem rg_len (lo : Int) (n : Nat) : (rangeD lo n).length = n := by unfold rangeD; rw [List.length_map, List.length_range]
/-- behind the arguments of a range -/
theorem rng_end {t : Bool} {σ : Sg} {env : Env} {U : Addr → Prop} {H H0 : Hp} {i j : Int} {ds : List D} {Q : VK} (g : Gd B.K B.F σ env U H) (hb : ∀ b, H b = none → H0 b = none) (hi : rngOk i = true) (hj : rngOk j = true) (e : iterD .range ds = some (rangeD i (j - i).toNat))
    (h : Wp B σ env U H (pureR ((iterD .range ds).bind fun items => if items.length ≤ 100000 then some (if t then (.tup items, false) else (.lst items, true)) else none) env) fun x env' U' H' => ∀ v, VRep B.K σ env' U' H' H0 v x.1 x.2 → Q v H') :
    RgOk i j ∧ ∀ q, H q = none → Q (.ref q) (upd H q (if t then .tup (rgV i j) else .lst (rgV i j))) := by
  obtain ⟨r, e1, h⟩ := h.pure
  rw [e, Option.bind_some] at e1
  split at e1
  · rename_i hl
    rw [rg_len] at hl
    cases e1
    refine ⟨⟨(rngOk_iff hi).1, (rngOk_iff hi).2, (rngOk_iff hj).1, (rngOk_iff hj).2, Nat.le_trans hl (by decide)⟩, fun q hq => ?_⟩
    have r : RepAll B.K U H (rgV i j) (rangeD i (j - i).toNat) := reps_rg i _
    cases t with
    | true =>
      obtain ⟨k, r2⟩ := new_tup g hq r
      exact (h _ _ k) _ r2
    | false =>
      obtain ⟨k, r2⟩ := new_lst g hq r
      exact (h _ _ k) _ (r2.start hb)
  · cases e1
def rngT (t : Bool) (te : L2.St → Hp → (Int → Int → Hp → Prop) → Prop) : TE := fun σ H Q => te σ H fun a b H1 => RgOk a b ∧ ∀ q, H1 q = none → Q (.ref q) (upd H1 q (if t then .tup (rgV a b) else .lst (rgV a b)))
theorem rd_rng1 {t : Bool} {σ : Sg} {H : Hp} {Q : VK} (h : rdE B L (.rng t [a']) σ H Q) : rngT t (tRg1 (rdE B L a')) σ H Q := by
  obtain ⟨env, U, g, h⟩ := h
  simp only [eval, evals, Res.bind_assoc, Res.bind_ok] at h
  refine ⟨env, U, g, (rep_bind g h).imp fun x env1 U1 H1 hr1 p1 h1 v vr => ?_⟩
  obtain ⟨U2, p2, r2, h2⟩ := h1 v vr
  obtain ⟨x, fr⟩ := x
  cases x <;> try (exact h2.elim)
  rename_i n
  by_cases hn : rngOk n = true
  · refine ⟨n, (Pk.sh r2).int, ?_⟩
    exact rng_end (ds := [.int n]) p2.good p2.back (by decide) hn (by simp [iterD, hn]) h2
  · simp only [iterD, if_neg hn, Option.bind_none, pureR_none] at h2
    exact h2.elim
theorem rd_rng2 {t : Bool} {σ : Sg} {H : Hp} {Q : VK} (h : rdE B L (.rng t [a', b']) σ H Q) : rngT t (tRg2 (rdE B L a') (rdE B L b')) σ H Q := by
  obtain ⟨env, U, g, h⟩ := h
  simp only [eval, evals, Res.bind_assoc, Res.bind_ok] at h
  refine ⟨env, U, g, (rep_bind g h).imp fun x env1 U1 H1 hr1 p1 h1 v vr => ?_⟩
  obtain ⟨U2, p2, r2, h2⟩ := h1 v vr
  refine ⟨env1, U2, p2.good, (rep_bind p2.good h2).imp fun y env3 U3 H3 hr3 p3 h3 w wr => ?_⟩
  obtain ⟨U4, p4, r4, h4⟩ := h3 w wr
  obtain ⟨x, fr⟩ := x
  obtain ⟨y, fr2⟩ := y
  cases x <;> try (exact h4.elim)
  rename_i i
  cases y <;> try (exact h4.elim)
  rename_i j
  by_cases hn : (rngOk i && rngOk j) = true
  · refine ⟨i, j, (Pk.sh r2).int, (Pk.sh r4).int, ?_⟩
    have hn' := hn
    rw [Bool.and_eq_true] at hn'
    exact rng_end (ds := [.int i, .int j]) p4.good (fun b e => p2.back b (p4.back b e)) hn'.1 hn'.2 (by simp [iterD, hn']) h4
  · simp only [iterD, if_neg hn, Option.bind_none, pureR_none] at h4
    exact h4.elim
theorem snd_rngT {e : Expr} {te : L2.St → Hp → (Int → Int → Hp → Prop) → Prop} {t : Bool} (x : Str) (hx : x = if t then ("tuple" : Str) else ("list" : Str)) (hc : X.calm = true) (hg : Gl X x) (hm : X.mg x = none) (he : PRg X e te) (na : starEach [e] X.env = (false, PySem.eval e X.env) :: starEach [] X.env) :
    PE X (.Call (.Name x p) [e] [] pos) (rngT t te) := by
  cases t with
  | true => subst hx; exact (pe_tupRg hc hg hm he na).imp fun σ H Q h => h
  | false => subst hx; exact (pe_listRg hc hg hm he na).imp fun σ H Q h => h
end
end Pi

set_option Elab.async false
set_option linter.all false
set_option maxRecDepth 100000
set_option maxHeartbeats 4000000
/-! PiKa: list comprehensions of two clauses. -/
namespace Pi
open PySem PySem.Spec PyProof.Rows L2
variable [HasT]

section
variable {X : Cx} {B : Sx} {L : Lib}
variable {elt tg iter tg1 iter1 : Expr} {ifs ifs1 : List Expr} {scope : Scope} {own : List (Str × Nat)} {pos : Pos} {tgt tgt1 : Tg} {k k1 : ItK} {es' conds' es1' conds1' : List E} {elt' : E}
theorem wipe_sub {σ σ2 : L2.St} {vs vs1 : List Nat} (hsub : ∀ i ∈ vs1, i ∈ vs) (h : L2.wipe σ2 vs = L2.wipe σ vs) : L2.wipe (L2.wipe σ2 vs1) vs = L2.wipe σ vs := by
  rw [← h]
  have hl : (L2.wipe σ2 vs1).length = σ2.length := wipe_length _ _
  rw [wipe_eq (σ := σ2) (vs := vs) hl fun j hj => by rw [wipe_out (fun z => hj (hsub j z))]]
/-- the reading of a comprehension of two clauses -/
theorem rd_lc2 (hsub : ∀ i ∈ tgt.slots, i ∈ own.map (·.2)) (hsub1 : ∀ i ∈ tgt1.slots, i ∈ own.map (·.2)) {σ : Sg} {H : Hp} {Q : VK} (h : rdE B L (.lc2 elt' (own.map (·.2)) tgt k es' conds' tgt1 k1 es1' conds1') σ H Q) :
    tLc2 (rdI B L k es') (rdG B.quiet tgt) (rdH B.quiet L conds') (rdI B.quiet L k1 es1') (rdG B.quiet tgt1) (rdH B.quiet L conds1') (rdE B.quiet L elt') (own.map (·.2)) tgt1.slots σ H Q := by
  generalize hvs : own.map (·.2) = vs at h hsub hsub1 ⊢
  obtain ⟨env, U, g, h⟩ := h
  simp only [eval] at h
  refine ⟨env, U, g, (Wp.bind g h).imp fun items env1 U1 H1 _ p1 h1 J srcV srcD rsrc itok D hD => ?_⟩
  generalize hf1 : (fun (d : Pi.D) (e : Env) => (match tgt1.store d false e with
            | none => (Res.bad : Res (Option Pi.D))
            | some e1 => (holds L conds1' e1).bind fun b e2 => if b then (eval L elt' e2).bind fun r e3 => .ok (some r.1) (wipeE e3 tgt1.slots) else .ok none (wipeE e2 tgt1.slots))) = f1 at h1
  generalize hf : (fun (d : Pi.D) (e : Env) (acc : List Pi.D) => (match tgt.store d false e with
            | none => (Res.bad : Res (List Pi.D))
            | some e1 => (holds L conds' e1).bind fun b e2 => if b then
                ((args L es1' e2).bind (walkB k1)).bind fun items1 e3 => (lcLoop f1 items1 (wipeE e3 tgt1.slots) acc).bind fun acc' e4 => .ok acc' (wipeE e4 vs)
              else .ok acc (wipeE e2 vs))) = f at h1
  cases hloop : lcLoop2 f items (wipeE env1 vs) [] with
  | bad => rw [hloop] at h1; exact h1.elim
  | ex x e => rw [hloop] at h1; exact h1.elim
  | ok dsf envf =>
    rw [hloop] at h1
    have gw := (Post.wipe p1.good vs)
    let St := fun (i : Nat) (H : Hp) => ∃ envi Ui acc accD, Post B.K B.F (L2.wipe σ vs) (wipeE env1 vs) U1 H1 (L2.wipe σ vs) envi Ui H ∧ Ui D ∧ ¬ Own (L2.wipe σ vs) envi D ∧ H D = some (.lst acc) ∧ RepAll B.K Ui H acc accD ∧
      lcLoop2 f (items.drop i) envi accD = .ok dsf envf ∧ acc.length = accD.length
    refine ⟨fun i m H => m = items.length - i ∧ i ≤ items.length ∧ St i H, ⟨items.length, by simp, Nat.zero_le _, ?_⟩, ?_⟩
    · obtain ⟨q, r⟩ := new_lst (vs := []) (ds := []) gw.good hD .nil
      obtain ⟨a, ea, u, o, n, _⟩ := r
      cases ea
      obtain ⟨ws, e, r2⟩ := o
      rw [upd_same] at e
      cases e
      exact ⟨wipeE env1 vs, _, [], [], q, u, n, upd_same, .nil, by simpa using hloop, rfl⟩
    · rintro i m H ⟨rfl, hi, envi, Ui, acc, accD, P, uD, nD, eD, rD, loop, hlen⟩
      have src : RepAll B.K Ui H srcV srcD := P.reps gw.good rsrc
      obtain ⟨it1, it2⟩ := itok B.F (L2.wipe σ vs) envi Ui H P.good src i
      cases hit : items[i]? with
      | none =>
        refine .inl ⟨it2 hit, ?_⟩
        have hd : items.drop i = [] := List.drop_eq_nil_of_le (List.getElem?_eq_none_iff.mp hit)
        rw [hd] at loop
        simp only [lcLoop2] at loop
        cases loop
        refine h1 Ui H (Post.unwipe p1.good P) (.ref D) ⟨D, rfl, uD, ⟨acc, eD, rD⟩, fun ⟨j, l, d, e, s⟩ => ?_, ?_⟩
        · rcases backE_get e with ⟨hj, q⟩ | ⟨hj, q⟩
          · obtain ⟨_, xs, z⟩ := p1.good.hO D ⟨j, l, d, getD_some (by simp) q, s⟩
            rw [hD] at z; cases z
          · exact nD ⟨j, l, d, q, by rw [wipe_out hj]; exact s⟩
        · exact p1.back D hD
      | some d =>
        have hlt : i < items.length := (List.getElem?_eq_some_iff.mp hit).1
        have hd : items.drop i = d :: items.drop (i + 1) := by
          rw [List.drop_eq_getElem_cons hlt]
          congr 1
          exact (List.getElem?_eq_some_iff.mp hit).2
        rw [hd] at loop
        simp only [lcLoop2] at loop
        obtain ⟨go, yl⟩ := it1 d hit
        refine .inr ⟨go, fun H' => St (i + 1) H', fun H' s' => ⟨items.length - (i + 1), by omega, rfl, hlt, s'⟩, fun x H5 y5 => ?_⟩
        obtain ⟨p5, r5⟩ := yl x H5 y5
        cases hfd : f d envi accD with
        | bad => rw [hfd] at loop; cases loop
        | ex x e => rw [hfd] at loop; cases loop
        | ok accF envi' =>
          rw [hfd] at loop
          simp only [Res.bind_ok] at loop
          rw [← hf] at hfd
          simp only at hfd
          cases hst : tgt.store d false envi with
          | none => rw [hst] at hfd; cases hfd
          | some e1 =>
            rw [hst] at hfd
            simp only at hfd
            have P5 := P.trans gw.good p5
            have eD5 : H5 D = some (.lst acc) := p5.tr.keep _ _ eD nD nt_lst
            have rD5 := p5.reps P.good rD
            refine ⟨envi, Ui, d, e1, p5.good, r5, hst, fun σ2 p6 ag => ?_⟩
            have hw2 : L2.wipe σ2 vs = L2.wipe σ vs := by
              rw [wipe_eq (σ := L2.wipe σ vs) (by rw [← p6.good.len, ← p5.good.len]; exact (rd_lc.storeLen hst)) fun j hj => ag j fun z => hj (hsub j z), wipe_wipe]
            refine ⟨hw2, ?_⟩
            have nD6 : ¬ Own σ2 e1 D := fun z => by
              rcases p6.own D z with y | y
              · exact Own.wo_post p5 P.good nD uD y
              · rw [eD5] at y; cases y
            cases hh : holds L conds' e1 with
            | bad => rw [hh] at hfd; cases hfd
            | ex x e => rw [hh] at hfd; cases hfd
            | ok b e2 =>
              rw [hh] at hfd
              simp only [Res.bind_ok] at hfd
              refine ⟨e1, Ui, p6.good, ?_⟩
              rw [hh]
              intro U7 H7 p7
              have P7 := (P5.trans gw.good p6).trans gw.good p7
              have nD7 : ¬ Own σ2 e2 D := Own.wo_post p7 p6.good nD6 uD
              have uD7 : U7 D := p7.tr.res D uD nD6
              have eD7 : H7 D = some (.lst acc) := p7.tr.keep _ _ eD5 nD6 nt_lst
              have rD7 := p7.reps p6.good rD5
              cases b with
              | false =>
                simp only [Bool.false_eq_true, if_false] at hfd ⊢
                cases hfd
                have p8 := Post.wipe p7.good vs
                rw [hw2] at p8
                refine ⟨wipeE e2 vs, U7, acc, accD, P7.trans gw.good p8, uD7, fun z => ?_, eD7, rD7, loop, hlen⟩
                exact Own.wo_post p8 p7.good nD7 uD7 z
              | true =>
                simp only [if_true] at hfd ⊢
                refine ⟨e2, U7, p7.good, ?_⟩
                cases ha : (args L es1' e2).bind (walkB k1) with
                | bad => rw [ha] at hfd; cases hfd
                | ex x e => rw [ha] at hfd; cases hfd
                | ok items1 e3 =>
                  rw [ha] at hfd
                  simp only [Res.bind_ok] at hfd
                  intro U8 H8 p8 J1 srcV1 srcD1 rsrc1 itok1
                  have P8 := P7.trans gw.good p8
                  have nD8 : ¬ Own σ2 e3 D := Own.wo_post p8 p7.good nD7 uD7
                  have uD8 : U8 D := p8.tr.res D uD7 nD7
                  have eD8 : H8 D = some (.lst acc) := p8.tr.keep _ _ eD7 nD7 nt_lst
                  have rD8 := p8.reps p7.good rD7
                  have pw := Post.wipe p8.good tgt1.slots
                  cases hl1 : lcLoop f1 items1 (wipeE e3 tgt1.slots) accD with
                  | bad => rw [hl1] at hfd; cases hfd
                  | ex x e => rw [hl1] at hfd; cases hfd
                  | ok accF2 e4 =>
                    rw [hl1] at hfd
                    simp only [Res.bind_ok] at hfd
                    cases hfd
                    let St1 := fun (j : Nat) (H : Hp) => ∃ envj Uj acc accD, Post B.K B.F (L2.wipe σ vs) (wipeE env1 vs) U1 H1 (L2.wipe σ2 tgt1.slots) envj Uj H ∧ Uj D ∧ ¬ Own (L2.wipe σ2 tgt1.slots) envj D ∧ H D = some (.lst acc) ∧ RepAll B.K Uj H acc accD ∧
                      RepAll B.K Uj H srcV1 srcD1 ∧ lcLoop f1 (items1.drop j) envj accD = .ok accF e4 ∧ acc.length = accD.length
                    refine ⟨fun j m H => m = items1.length - j ∧ j ≤ items1.length ∧ St1 j H, ⟨items1.length, by simp, Nat.zero_le _, wipeE e3 tgt1.slots, U8, acc, accD, P8.trans gw.good pw, uD8, Own.wo_post pw p8.good nD8 uD8, eD8, rD8, pw.reps p8.good rsrc1, by simpa using hl1, hlen⟩, ?_⟩
                    rintro j m H ⟨rfl, hj, envj, Uj, acc, accD, PJ, uDj, nDj, eDj, rDj, srcj, loopj, hlenj⟩
                    obtain ⟨jt1, jt2⟩ := itok1 B.F (L2.wipe σ2 tgt1.slots) envj Uj H PJ.good srcj j
                    cases hjt : items1[j]? with
                    | none =>
                      refine .inl ⟨jt2 hjt, ?_⟩
                      have hd : items1.drop j = [] := List.drop_eq_nil_of_le (List.getElem?_eq_none_iff.mp hjt)
                      rw [hd] at loopj
                      simp only [lcLoop] at loopj
                      cases loopj
                      have p9 := Post.wipe PJ.good vs
                      rw [wipe_sub hsub1 hw2] at p9
                      exact ⟨wipeE e4 vs, Uj, acc, accF, PJ.trans gw.good p9, uDj, Own.wo_post p9 PJ.good nDj uDj, eDj, rDj, loop, hlenj⟩
                    | some d1 =>
                      have hltj : j < items1.length := (List.getElem?_eq_some_iff.mp hjt).1
                      have hd : items1.drop j = d1 :: items1.drop (j + 1) := by
                        rw [List.drop_eq_getElem_cons hltj]
                        congr 1
                        exact (List.getElem?_eq_some_iff.mp hjt).2
                      rw [hd] at loopj
                      simp only [lcLoop] at loopj
                      obtain ⟨goj, ylj⟩ := jt1 d1 hjt
                      refine .inr ⟨goj, fun H' => St1 (j + 1) H', fun H' s' => ⟨items1.length - (j + 1), by omega, rfl, hltj, s'⟩, fun x1 H9 y9 => ?_⟩
                      obtain ⟨p9, r9⟩ := ylj x1 H9 y9
                      cases hfd1 : f1 d1 envj with
                      | bad => rw [hfd1] at loopj; cases loopj
                      | ex x e => rw [hfd1] at loopj; cases loopj
                      | ok o envj' =>
                        rw [hfd1] at loopj
                        simp only [Res.bind_ok] at loopj
                        rw [← hf1] at hfd1
                        simp only at hfd1
                        cases hst1 : tgt1.store d1 false envj with
                        | none => rw [hst1] at hfd1; cases hfd1
                        | some e5 =>
                          rw [hst1] at hfd1
                          simp only at hfd1
                          have P9 := PJ.trans gw.good p9
                          have eD9 : H9 D = some (.lst acc) := p9.tr.keep _ _ eDj nDj nt_lst
                          have rD9 := p9.reps PJ.good rDj
                          have src9 := p9.reps PJ.good srcj
                          refine ⟨envj, Uj, d1, e5, p9.good, r9, hst1, fun σ3 p10 ag1 => ?_⟩
                          have hw3 : L2.wipe σ3 tgt1.slots = L2.wipe σ2 tgt1.slots := by
                            rw [wipe_eq (σ := L2.wipe σ2 tgt1.slots) (by rw [← p10.good.len, ← p9.good.len]; exact (rd_lc.storeLen hst1)) fun j hj => ag1 j hj, wipe_wipe]
                          refine ⟨hw3, ?_⟩
                          have nD10 : ¬ Own σ3 e5 D := fun z => by
                            rcases p10.own D z with y | y
                            · exact Own.wo_post p9 PJ.good nDj uDj y
                            · rw [eD9] at y; cases y
                          have src10 := p10.reps p9.good src9
                          have rD10 := p10.reps p9.good rD9
                          cases hh1 : holds L conds1' e5 with
                          | bad => rw [hh1] at hfd1; cases hfd1
                          | ex x e => rw [hh1] at hfd1; cases hfd1
                          | ok b1 e6 =>
                            rw [hh1] at hfd1
                            simp only [Res.bind_ok] at hfd1
                            refine ⟨e5, Uj, p10.good, ?_⟩
                            rw [hh1]
                            intro U11 H11 p11
                            have P11 := (P9.trans gw.good p10).trans gw.good p11
                            have nD11 : ¬ Own σ3 e6 D := Own.wo_post p11 p10.good nD10 uDj
                            have uD11 : U11 D := p11.tr.res D uDj nD10
                            have eD11 : H11 D = some (.lst acc) := p11.tr.keep _ _ eD9 nD10 nt_lst
                            have rD11 := p11.reps p10.good rD10
                            have src11 := p11.reps p10.good src10
                            cases b1 with
                            | false =>
                              simp only [Bool.false_eq_true, if_false] at hfd1 ⊢
                              cases hfd1
                              have p12 := Post.wipe p11.good tgt1.slots
                              rw [hw3] at p12
                              exact ⟨wipeE e6 tgt1.slots, U11, acc, accD, P11.trans gw.good p12, uD11, Own.wo_post p12 p11.good nD11 uD11, eD11, rD11, p12.reps p11.good src11, loopj, hlenj⟩
                            | true =>
                              simp only [if_true] at hfd1 ⊢
                              cases he : eval L elt' e6 with
                              | bad => rw [he] at hfd1; cases hfd1
                              | ex x e => rw [he] at hfd1; cases hfd1
                              | ok r e7 =>
                                rw [he] at hfd1
                                simp only [Res.bind_ok] at hfd1
                                cases hfd1
                                simp only at loopj
                                split at loopj
                                · rename_i hsz
                                  refine ⟨e6, U11, p11.good, ?_⟩
                                  rw [he]
                                  intro U12 H12 p12 v vr
                                  obtain ⟨U13, p13, r13⟩ := VRep.drop p11.good p12 vr
                                  have nD13 : ¬ Own σ3 e7 D := Own.wo_post p13 p11.good nD11 uD11
                                  have uD13 : U13 D := p13.tr.res D uD11 nD11
                                  have eD13 : H12 D = some (.lst acc) := p13.tr.keep _ _ eD11 nD11 nt_lst
                                  have rD13 := p13.reps p11.good rD11
                                  have src13 := p13.reps p11.good src11
                                  have p14 := Post.wipe p13.good tgt1.slots
                                  rw [hw3] at p14
                                  have P14 := (P11.trans gw.good p13).trans gw.good p14
                                  have nD14 : ¬ Own (L2.wipe σ2 tgt1.slots) (wipeE e7 tgt1.slots) D := Own.wo_post p14 p13.good nD13 uD13
                                  obtain ⟨P15, t15⟩ := Post.poke (acc' := acc ++ [v]) P14 hD uD13 nD14 eD13
                                  have hO : ∀ a, a = D → U13 a ∧ ∃ xs, H12 a = some (.lst xs) := fun a h => by subst h; exact ⟨uD13, _, eD13⟩
                                  refine ⟨acc, eD13, by rw [hlenj]; exact Nat.lt_of_lt_of_le hsz line100, wipeE e7 tgt1.slots, U13, acc ++ [v], accD ++ [r.1], P15, uD13, nD14, upd_same, (rD13.append (.cons r13 .nil)).mono t15 hO, src13.mono t15 hO, loopj, by simp [hlenj]⟩
                                · cases loopj
theorem snd_lc2 (hc : X.calm = true) (hN : X.N.Nodup) (hi : PI X tg iter (rdI B L k es')) (ok : BlkOk X.N X.env.scope scope own) (hsub : ∀ i ∈ tgt.slots, i ∈ own.map (·.2)) (hsub1 : ∀ i ∈ tgt1.slots, i ∈ own.map (·.2))
    (hg : ∀ (s : Shared) (H : Hp) (C : Addr) (cl : List (Str × Addr)) (fp : List Addr), PG (X.blk s H scope (compEnvC scope cl C X.env) fp) tg (rdG B.quiet tgt))
    (ht : ∀ (s : Shared) (H : Hp) (C : Addr) (cl : List (Str × Addr)) (fp : List Addr), PTs (X.blk s H scope (compEnvC scope cl C X.env) fp) ifs (rdH B.quiet L conds'))
    (hi1 : ∀ (s : Shared) (H : Hp) (C : Addr) (cl : List (Str × Addr)) (fp : List Addr), PI (X.blk s H scope (compEnvC scope cl C X.env) fp) tg1 iter1 (rdI B.quiet L k1 es1'))
    (hg1 : ∀ (s : Shared) (H : Hp) (C : Addr) (cl : List (Str × Addr)) (fp : List Addr), PG (X.blk s H scope (compEnvC scope cl C X.env) fp) tg1 (rdG B.quiet tgt1))
    (ht1 : ∀ (s : Shared) (H : Hp) (C : Addr) (cl : List (Str × Addr)) (fp : List Addr), PTs (X.blk s H scope (compEnvC scope cl C X.env) fp) ifs1 (rdH B.quiet L conds1'))
    (he : ∀ (s : Shared) (H : Hp) (C : Addr) (cl : List (Str × Addr)) (fp : List Addr), PE (X.blk s H scope (compEnvC scope cl C X.env) fp) elt (rdE B.quiet L elt'))
    (hs : ∀ x, foldedSetIterable iter X.env x = pure x) (hs1 : ∀ env x, foldedSetIterable iter1 env x = pure x) :
    PE X (.ListComp elt [⟨tg, iter, ifs, 0⟩, ⟨tg1, iter1, ifs1, 0⟩] scope pos) (rdE B L (.lc2 elt' (own.map (·.2)) tgt k es' conds' tgt1 k1 es1' conds1')) :=
  (pe_lc2 hc hN hi ok hsub1 hg ht hi1 hg1 ht1 he hs hs1).imp fun σ H Q h => rd_lc2 hsub hsub1 h
end
end Pi

set_option Elab.async false
set_option linter.all false
set_option maxRecDepth 100000
set_option maxHeartbeats 4000000
/-! PiL: statements. -/
namespace Pi
open PySem PySem.Spec PyProof.Rows L2
variable [HasT]

structure PostS (B : Sx) (Z : List Nat) (σ : Sg) (env : Env) (U : Addr → Prop) (H : Hp) (σ' : Sg) (env' : Env) (U' : Addr → Prop) (H' : Hp) : Prop where
  post : Post B.K B.F σ env U H σ' env' U' H'
  fix : ∀ i, i ∉ Z → σ'[i]? = σ[i]?
def RVal (B : Sx) (U' : Addr → Prop) (H' : Hp) (v : V) (d : D) : Bool → Prop
  | false => Rep B.K U' H' v d
  | true => ∃ a, v = .ref a ∧ U' a ∧ OwnRep B.K U' H' a d ∧ B.F a
def WpS (B : Sx) (Z : List Nat) (σ : Sg) (env : Env) (U : Addr → Prop) (H : Hp) (r : Res Fl) (D : Ends) : Prop := match r with
  | .ok .nx env' => ∀ σ' U' H', PostS B Z σ env U H σ' env' U' H' → D.nx σ' H'
  | .ok .bk env' => ∀ σ' U' H', PostS B Z σ env U H σ' env' U' H' → D.bk σ' H'
  | .ok .ct env' => ∀ σ' U' H', PostS B Z σ env U H σ' env' U' H' → D.ct σ' H'
  | .ok (.rt d fr) env' => ∀ v σ' U' H', PostS B Z σ env U H σ' env' U' H' → RVal B U' H' v d fr → D.rt v H'
  | .ex x env' => ∀ σ' U' H' c dx, PostS B Z σ env U H σ' env' U' H' → B.XR x c dx U' H' → B.W c dx σ' H'
  | .bad => False
def rdS (B : Sx) (Z : List Nat) (L : Lib) (st : S) : TS := fun D σ H => ∃ env U, Gd B.K B.F σ env U H ∧ WpS B Z σ env U H (exec L st env) D
def rdSs (B : Sx) (Z : List Nat) (L : Lib) (st : List S) : TS := fun D σ H => ∃ env U, Gd B.K B.F σ env U H ∧ WpS B Z σ env U H (execs L st env) D
theorem _root_.L2.PS.imp {X : Cx} {e : Stmt} {t t' : TS} (h : PS X e t) (k : ∀ D σ H, t' D σ H → t D σ H) : PS X e t' := ⟨fun pins s σ H D I hw => h.run pins s σ H D I (k D σ H hw)⟩
theorem _root_.L2.PSs.imp {X : Cx} {e : List Stmt} {t t' : TS} (h : PSs X e t) (k : ∀ D σ H, t' D σ H → t D σ H) : PSs X e t' := ⟨fun pins s σ H D I hw => h.run pins s σ H D I (k D σ H hw)⟩
section
variable {B : Sx} {Z : List Nat} {L : Lib} {σ : Sg} {env : Env} {U : Addr → Prop} {H : Hp} {D : Ends}
theorem PostS.refl (g : Gd B.K B.F σ env U H) : PostS B Z σ env U H σ env U H := ⟨.refl g, fun _ _ => rfl⟩
theorem PostS.trans {σ1 env1 U1 H1 σ2 env2 U2 H2} (g : Gd B.K B.F σ env U H) (p : PostS B Z σ env U H σ1 env1 U1 H1) (q : PostS B Z σ1 env1 U1 H1 σ2 env2 U2 H2) : PostS B Z σ env U H σ2 env2 U2 H2 :=
  ⟨p.post.trans g q.post, fun i h => (q.fix i h).trans (p.fix i h)⟩
theorem WpS.next {σ1 env1 U1 H1} {r : Res Fl} (g : Gd B.K B.F σ env U H) (p : PostS B Z σ env U H σ1 env1 U1 H1) (h : WpS B Z σ env U H r D) : WpS B Z σ1 env1 U1 H1 r D := by
  cases r with
  | bad => exact h
  | ex x e => exact fun σ' U' H' c dx q => h σ' U' H' c dx (p.trans g q)
  | ok f e =>
    cases f with
    | nx => exact fun σ' U' H' q => h σ' U' H' (p.trans g q)
    | bk => exact fun σ' U' H' q => h σ' U' H' (p.trans g q)
    | ct => exact fun σ' U' H' q => h σ' U' H' (p.trans g q)
    | rt d fr => exact fun v σ' U' H' q => h v σ' U' H' (p.trans g q)
/-- an expression first -/
theorem WpS.expr {α : Type} {r : Res α} {f : α → Env → Res Fl} (g : Gd B.K B.F σ env U H) (h : WpS B Z σ env U H (r.bind f) D) : Wp B σ env U H r fun a env1 U1 H1 => WpS B Z σ env1 U1 H1 (f a env1) D := by
  cases r with
  | bad => exact h
  | ex x e => exact fun U' H' c dx p => h σ U' H' c dx ⟨p, fun _ _ => rfl⟩
  | ok a e => exact fun U' H' p => WpS.next g ⟨p, fun _ _ => rfl⟩ h
/-- an expression whose value is kept shared -/
theorem WpS.val {r : Res (Pi.D × Bool)} {f : Pi.D × Bool → Env → Res Fl} (g : Gd B.K B.F σ env U H) (h : WpS B Z σ env U H (r.bind f) D) :
    Wp B σ env U H r fun x env1 U1 H1 => ∀ v, VRep B.K σ env1 U1 H1 H v x.1 x.2 → ∃ U2, Gd B.K B.F σ env1 U2 H1 ∧ Post B.K B.F σ env U H σ env1 U2 H1 ∧ Rep B.K U2 H1 v x.1 ∧ WpS B Z σ env1 U2 H1 (f x env1) D := by
  cases r with
  | bad => exact h
  | ex x e => exact fun U' H' c dx p => h σ U' H' c dx ⟨p, fun _ _ => rfl⟩
  | ok a e =>
    intro U' H' p v vr
    obtain ⟨U2, p2, r2⟩ := VRep.drop g p vr
    exact ⟨U2, p2.good, p2, r2, WpS.next g ⟨p2, fun _ _ => rfl⟩ h⟩
theorem set_fix {Z : List Nat} {σ : Sg} {i : Nat} {o : Option V} (hz : i ∈ Z) : ∀ j, j ∉ Z → (σ.set i o)[j]? = σ[j]? := fun j hj => by
  have n : i ≠ j := fun z => hj (by rw [← z]; exact hz)
  rw [List.getElem?_set_ne n]
theorem storeT_sub : ∀ {is : List Nat} {ds : List Pi.D} {e e1 : Env} {i : Nat}, storeT is ds e = some e1 → i ∈ is → i < e.length
  | [], _, _, _, _, _, h => by simp at h
  | j :: is, [], e, e1, i, h, _ => by simp [storeT] at h
  | j :: is, d :: ds, e, e1, i, h, hi => by
    simp only [storeT] at h
    split at h
    · rename_i hj
      rcases List.mem_cons.mp hi with rfl | hi
      · exact hj
      · have := storeT_sub h hi
        simpa using this
    · cases h
end
section
variable {X : Cx} {B : Sx} {Z : List Nat} {L : Lib} {a b c e tg iter : Expr} {a' b' c' e' : E} {pos pos' : Pos} {st : Stmt} {sts : List Stmt} {s' : S} {ss' : List S}
theorem snd_nilS : PSs X [] (rdSs B Z L []) := pss_nil.imp fun D σ H ⟨env, U, g, h⟩ => by simp only [execs] at h; exact h σ U H (.refl g)
theorem snd_consS (h1 : PS X st (rdS B Z L s')) (h2 : PSs X sts (rdSs B Z L ss')) : PSs X (st :: sts) (rdSs B Z L (s' :: ss')) := by
  refine (pss_cons h1 h2).imp fun D σ H ⟨env, U, g, h⟩ => ?_
  simp only [execs] at h
  refine ⟨env, U, g, ?_⟩
  cases hr : exec L s' env with
  | bad => rw [hr] at h; exact h
  | ex x e1 => rw [hr] at h; exact h
  | ok f e1 =>
    rw [hr] at h
    simp only [Res.bind_ok] at h
    cases f with
    | nx => exact fun σ' U' H' p => ⟨e1, U', p.post.good, WpS.next g p h⟩
    | bk => exact h
    | ct => exact h
    | rt d fr => exact h
theorem snd_pass : PS X (.Pass pos) (rdS B Z L .pass) := ps_pass.imp fun D σ H ⟨env, U, g, h⟩ => by simp only [exec] at h; exact h σ U H (.refl g)
theorem snd_brk : PS X (.Break pos) (rdS B Z L .brk) := ps_break.imp fun D σ H ⟨env, U, g, h⟩ => by simp only [exec] at h; exact h σ U H (.refl g)
theorem snd_cnt : PS X (.Continue pos) (rdS B Z L .cnt) := ps_continue.imp fun D σ H ⟨env, U, g, h⟩ => by simp only [exec] at h; exact h σ U H (.refl g)
theorem snd_expr (he : PE X e (rdE B L e')) (hs : swapsWith e none pos.line X.env = pure false) : PS X (.Expr e pos) (rdS B Z L (.expr e')) := by
  refine (ps_expr he hs).imp fun D σ H ⟨env, U, g, h⟩ => ?_
  simp only [exec] at h
  refine ⟨env, U, g, (WpS.val g h).imp fun x env1 U1 H1 _ p1 h1 v vr => ?_⟩
  obtain ⟨U2, g2, p2, r2, w⟩ := h1 v vr
  exact w σ U2 H1 (.refl g2)
theorem snd_ret (hv : ∀ i, e' ≠ .var i) (he : PE X e (rdE B L e')) : PS X (.Return (some e) pos) (rdS B Z L (.ret e')) := by
  refine (ps_ret he).imp fun D σ H ⟨env, U, g, h⟩ => ?_
  have hx : exec L (.ret e') env = (eval L e' env).bind fun d env1 => .ok (.rt d.1 d.2) env1 := by
    cases e' <;> first | exact absurd rfl (hv _) | (simp only [exec])
  rw [hx] at h
  refine ⟨env, U, g, (WpS.expr g h).imp fun x env1 U1 H1 _ p1 h1 v vr => ?_⟩
  refine h1 v σ U1 H1 (.refl p1.good) ?_
  cases hb : x.2 with
  | false => rw [hb] at vr; exact vr
  | true =>
    rw [hb] at vr
    obtain ⟨a, ea, u, o, n, hn⟩ := vr
    exact ⟨a, ea, u, o, g.frs a hn⟩
theorem snd_retV {i : Nat} {x : Str} {p : Pos} (hN : X.N[i]? = some x) (hv : Vis X.env.scope x) (hd : (x == ("__debug__" : Str)) = false) (hcd : (x == ("__classdict__" : Str)) = false) : PS X (.Return (some (.Name x p)) pos) (rdS B Z L (.ret (.var i))) := by
  refine (ps_ret (pe_var (pos := p) hN hv hd hcd)).imp fun D σ H ⟨env, U, g, h⟩ => ?_
  simp only [exec] at h
  cases hi : env[i]? with
  | none => rw [hi] at h; exact h.elim
  | some s =>
    rw [hi] at h
    cases s with
    | no => exact h.elim
    | sh d =>
      obtain ⟨v, e1, r⟩ := g.sh i d hi
      exact ⟨v, e1, h v σ U H (.refl g) r⟩
    | ow l d =>
      cases l with
      | true =>
        obtain ⟨a, e1, p1, u, o, _, _, f⟩ := Post.take g hi
        exact ⟨.ref a, e1, h _ σ U H ⟨p1, fun _ _ => rfl⟩ ⟨a, rfl, u, o, f rfl⟩⟩
      | false =>
        obtain ⟨a, e1, p1, r⟩ := Post.share g hi
        exact ⟨.ref a, e1, h _ σ _ H ⟨p1, fun _ _ => rfl⟩ r⟩
theorem snd_retN : PS X (.Return none pos) (rdS B Z L .retN) := ps_retN.imp fun D σ H ⟨env, U, g, h⟩ => by simp only [exec] at h; exact h .non σ U H (.refl g) .non
theorem snd_if {p q : List Stmt} {p' q' : List S} (hc : PT X c (rdT B L c')) (ha : PSs X p (rdSs B Z L p')) (hb : PSs X q (rdSs B Z L q')) : PS X (.If c p q pos) (rdS B Z L (.ite c' p' q')) := by
  refine (ps_if hc ha hb).imp fun D σ H ⟨env, U, g, h⟩ => ?_
  have e1 : exec L (.ite c' p' q') env = (tst L c' env).bind fun k e => if k then execs L p' e else execs L q' e := by
    simp only [exec, tst, Res.bind_assoc]
    congr 1
    funext x e1
    cases x.peek e1 with
    | none => rfl
    | some d => rfl
  rw [e1] at h
  refine ⟨env, U, g, (WpS.expr g h).imp fun k env1 U1 H1 _ p1 h1 => ?_⟩
  cases k with
  | true => exact ⟨env1, U1, p1.good, h1⟩
  | false => exact ⟨env1, U1, p1.good, h1⟩
/-- name = value -/
theorem rd_set {i : Nat} (hz : i ∈ Z) {D : Ends} {σ : Sg} {H : Hp} (h : rdS B Z L (.asg (.name i) e') D σ H) : tAsg (rdE B L e') (gName i) D σ H := by
  obtain ⟨env, U, g, h⟩ := h
  simp only [exec] at h
  have fixZ : ∀ {σ0 : Sg} {o : Option V}, ∀ j, j ∉ Z → (σ0.set i o)[j]? = σ0[j]? := set_fix hz
  refine ⟨env, U, g, ?_⟩
  cases hr : eval L e' env with
  | bad => rw [hr] at h; exact h
  | ex x e1 => rw [hr] at h; exact fun U' H' c dx p => h σ U' H' c dx ⟨p, fun _ _ => rfl⟩
  | ok x e1 =>
    rw [hr] at h
    simp only [Res.bind_ok, Tg.store] at h
    intro U1 H1 p1 v vr
    split at h
    · rename_i hlt
      simp only [pureR_some, Res.bind_ok] at h
      cases hb : x.2 with
      | false =>
        rw [hb] at h vr
        simp only [Bool.false_eq_true, if_false] at h
        exact h _ U1 H1 ⟨p1.trans g (Post.store p1.good hlt vr), fixZ⟩
      | true =>
        rw [hb] at h vr
        simp only [if_true] at h
        obtain ⟨a, ea, u, o, n, hn⟩ := vr
        subst ea
        obtain ⟨g2, own2⟩ := Post.storeOw p1.good hlt u o n (g.frs a hn)
        refine h _ U1 H1 ⟨⟨p1.tr, g2, fun b z => ?_⟩, fixZ⟩
        rcases own2 b z with y | y
        · exact p1.own b y
        · subst y; exact .inr hn
    · exact h.elim
theorem snd_set {i : Nat} {x : Str} (hz : i ∈ Z) (hN : X.N.Nodup) (hi : X.N[i]? = some x) (hx : Loc X.env.scope x) (hf : X.fn x = true ∨ X.env.scope.names.lookup x = some .local) (he : PE X e (rdE B L e')) (hs : swapsWith e (some (.Name x pos')) pos.line X.env = pure false) :
    PS X (.Assign [.Name x pos'] e pos) (rdS B Z L (.asg (.name i) e')) := (ps_set hN hi hx he hs hf).imp fun D σ H h => rd_set hz h
/-- several names = a tuple or a list -/
theorem rd_gtup {is : List Nat} (hz : ∀ i ∈ is, i ∈ Z) {D : Ends} {σ : Sg} {H : Hp} (h : rdS B Z L (.asg (.tup is) e') D σ H) : tAsg (rdE B L e') (rdG B (.tup is)) D σ H := by
  obtain ⟨env, U, g, h⟩ := h
  simp only [exec] at h
  refine ⟨env, U, g, (WpS.val g h).imp fun x env1 U1 H1 _ p1 h1 v vr => ?_⟩
  obtain ⟨U2, g2, p2, r2, w⟩ := h1 v vr
  cases hst : Tg.store (.tup is) x.1 x.2 env1 with
  | none => rw [hst] at w; exact w.elim
  | some env2 =>
    rw [hst] at w
    simp only [pureR_some, Res.bind_ok] at w
    have hst' : Tg.store (.tup is) x.1 false env1 = some env2 := by
      cases hx : x.1 <;> rw [hx] at hst <;> simpa only [Tg.store] using hst
    exact ⟨env1, U2, x.1, env2, g2, r2, hst', fun σ' p3 ag => w σ' U2 H1 ⟨p3, fun j hj => ag j fun z => hj (hz j z)⟩⟩
theorem snd_unp {tes : List Expr} {is : List Nat} {k : Nat} {tpos : Pos} (hz : ∀ i ∈ is, i ∈ Z) (he : PE X e (rdE B L e')) (hg : PG X (.Tuple tes k tpos) (rdG B (.tup is))) (hw : swappedStores [.Tuple tes k tpos] e X.env = pure none) (hs : swapsWithSole [.Tuple tes k tpos] e pos.line X.env = pure false)
    (h1 : (assignEach [.Tuple tes k tpos] X.env).map (·.2) = [assign (.Tuple tes k tpos) X.env]) : PS X (.Assign [.Tuple tes k tpos] e pos) (rdS B Z L (.asg (.tup is) e')) :=
  (ps_asg he hg hs hw h1).imp fun D σ H h => rd_gtup hz h
/-- a, b = e1, e2 -/
theorem storeF_ok {K : PySem.W.Frag} {F : Addr → Prop} {σ0 : Sg} {env0 : Env} {U0 : Addr → Prop} {H0 : Hp} (g0 : Gd K F σ0 env0 U0 H0) {U : Addr → Prop} {H : Hp} : ∀ (is : List Nat) (ds : List (Pi.D × Bool)) (vs : List V) (σ : Sg) (env env2 : Env), (∀ i ∈ is, i ∈ Z) → Post K F σ0 env0 U0 H0 σ env U H → VReps K σ env U H H0 vs ds → storeF is ds env = some env2 →
      vs.length = is.length ∧ Post K F σ0 env0 U0 H0 ((is.zip vs).foldl (fun s p => s.set p.1 (some p.2)) σ) env2 U H ∧ ∀ j, j ∉ Z → ((is.zip vs).foldl (fun s p => s.set p.1 (some p.2)) σ)[j]? = σ[j]? := by
  intro is
  induction is with
  | nil =>
    intro ds vs σ env env2 _ p r e
    cases ds with
    | nil => cases r; simp only [storeF] at e; cases e; exact ⟨rfl, p, fun _ _ => rfl⟩
    | cons _ _ => simp [storeF] at e
  | cons i is ih =>
    intro ds vs σ env env2 hz p r e
    cases ds with
    | nil => simp [storeF] at e
    | cons x ds =>
      obtain ⟨d, fr⟩ := x
      simp only [storeF] at e
      split at e
      · rename_i hlt
        cases r with
        | @cons v vs _ _ r1 rs nd =>
          have fixZ : ∀ {o : Option V}, ∀ j, j ∉ Z → (σ.set i o)[j]? = σ[j]? := set_fix (hz i List.mem_cons_self)
          cases fr with
          | false =>
            simp only [Bool.false_eq_true, if_false] at e
            have p1 := Post.store p.good hlt r1
            have rs' := rs.map (σ' := σ.set i (some v)) (env' := env.set i (.sh d)) (U' := U) (H' := H) (H0' := H0) fun j w y _ _ q => by
              obtain ⟨dy, fy⟩ := y
              cases fy with
              | false => exact q
              | true =>
                obtain ⟨a, rfl, u, o, n, hn⟩ := q
                exact ⟨a, rfl, u, o, fun z => (p1.own a z).elim n fun y => p.good.live a u y, hn⟩
            obtain ⟨h1, h2, h3⟩ := ih ds vs _ _ env2 (fun j hj => hz j (List.mem_cons_of_mem _ hj)) (p.trans g0 p1) rs' e
            exact ⟨by simp [h1], h2, fun j hj => (h3 j hj).trans (fixZ j hj)⟩
          | true =>
            simp only [if_true] at e
            obtain ⟨a, rfl, u, o, n, hn⟩ := r1
            obtain ⟨g2, own2⟩ := Post.storeOw p.good hlt u o n (g0.frs a hn)
            have p1 : Post K F σ0 env0 U0 H0 (σ.set i (some (.ref a))) (env.set i (.ow true d)) U H := ⟨p.tr, g2, fun b z => by
              rcases own2 b z with y | y
              · exact p.own b y
              · subst y; exact .inr hn⟩
            have rs' := rs.map (σ' := σ.set i (some (.ref a))) (env' := env.set i (.ow true d)) (U' := U) (H' := H) (H0' := H0) fun j w y hw hy q => by
              obtain ⟨dy, fy⟩ := y
              cases fy with
              | false => exact q
              | true =>
                obtain ⟨c, rfl, u', o', n', hn'⟩ := q
                refine ⟨c, rfl, u', o', fun z => ?_, hn'⟩
                rcases own2 c z with y | y
                · exact n' y
                · subst y; exact nd rfl j dy hy hw
            obtain ⟨h1, h2, h3⟩ := ih ds vs _ _ env2 (fun j hj => hz j (List.mem_cons_of_mem _ hj)) p1 rs' e
            exact ⟨by simp [h1], h2, fun j hj => (h3 j hj).trans (fixZ j hj)⟩
      · cases e
theorem rd_par {is : List Nat} {es' : List E} (hz : ∀ i ∈ is, i ∈ Z) {D : Ends} {σ : Sg} {H : Hp} (h : rdS B Z L (.par is es') D σ H) :
    rdFs B L es' σ H fun vs H1 => vs.length = is.length ∧ D.nx ((is.zip vs).foldl (fun s p => s.set p.1 (some p.2)) σ) H1 := by
  obtain ⟨env, U, g, h⟩ := h
  simp only [exec] at h
  refine ⟨env, U, g, ?_⟩
  cases hr : evalsF L es' env with
  | bad => rw [hr] at h; exact h
  | ex x e1 => rw [hr] at h; exact fun U' H' c dx p => h σ U' H' c dx ⟨p, fun _ _ => rfl⟩
  | ok ds env1 =>
    rw [hr] at h
    simp only [Res.bind_ok] at h
    intro U1 H1 p1 vs reps
    cases hst : storeF is ds env1 with
    | none => rw [hst] at h; exact h.elim
    | some env2 =>
      rw [hst] at h
      simp only [pureR_some, Res.bind_ok] at h
      obtain ⟨q1, q2, q3⟩ := storeF_ok g is ds vs σ env1 env2 hz p1 reps hst
      exact ⟨q1, h _ U1 H1 ⟨q2, q3⟩⟩
/-- a tuple is made and taken apart -/
def rdGFs (B : Sx) (is : List Nat) : TGs := fun vs σ H Q => ∃ σ0 env0 U0 H0 env U ds env', Gd B.K B.F σ0 env0 U0 H0 ∧ Post B.K B.F σ0 env0 U0 H0 σ env U H ∧ VReps B.K σ env U H H0 vs ds ∧ storeF is ds env = some env' ∧
  ∀ σ' : Sg, Post B.K B.F σ0 env0 U0 H0 σ' env' U H → (∀ i, i ∉ is → σ'[i]? = σ[i]?) → Q σ' H
theorem snd_gsF (hN : X.N.Nodup) : ∀ {es : List Expr} {is : List Nat}, PNs X es is → PGs X es (rdGFs B is)
  | _, _, .nil => by
    refine ⟨fun pins s σ H vs us Q I r ⟨σ0, env0, U0, H0, env, U, ds, env', g, p, rep, e, h⟩ => ?_⟩
    cases ds with
    | nil =>
      cases rep
      simp only [storeF] at e
      cases e
      exact pgs_nil.run pins s σ H [] us Q I r ⟨rfl, h σ p fun _ _ => rfl⟩
    | cons d ds => simp [storeF] at e
  | _, _, .cons (i := i) (x := x) (pos := pos) (es := es) (is := is) hi hx hf t => by
    refine ⟨fun pins s σ H vs us Q I r ⟨σ0, env0, U0, H0, env, U, ds, env', g, p, rep, e, h⟩ => ?_⟩
    cases ds with
    | nil => simp [storeF] at e
    | cons d ds =>
      obtain ⟨d, fr⟩ := d
      cases rep with
      | @cons v vs _ _ r1 rs nd =>
        simp only [storeF] at e
        split at e
        · rename_i hlt
          have fin : ∀ {s0 : Sl}, Post B.K B.F σ0 env0 U0 H0 (σ.set i (some v)) (env.set i s0) U H → VReps B.K (σ.set i (some v)) (env.set i s0) U H H0 vs ds → storeF is ds (env.set i s0) = some env' → _ := fun {s0} p1 rs' e' =>
            (pgs_cons (pg_name (pos := pos) hN hi hx hf) (snd_gsF hN t) (by rfl)).run pins s σ H _ us Q I r ⟨v, vs, rfl, σ0, env0, U0, H0, env.set i s0, U, ds, env', g, p1, rs', e', fun σ' p2 ag => h σ' p2 fun j hj => by
              rw [ag j (fun z => hj (List.mem_cons_of_mem _ z)), List.getElem?_set_ne (fun z => hj (by simp [z]))]⟩
          cases fr with
          | false =>
            simp only [Bool.false_eq_true, if_false] at e
            have p1 := Post.store p.good hlt r1
            refine fin (p.trans g p1) (rs.map fun j w y _ _ q => ?_) e
            obtain ⟨dy, fy⟩ := y
            cases fy with
            | false => exact q
            | true =>
              obtain ⟨a, rfl, u, o, n, hn⟩ := q
              exact ⟨a, rfl, u, o, fun z => (p1.own a z).elim n fun y => p.good.live a u y, hn⟩
          | true =>
            simp only [if_true] at e
            obtain ⟨a, rfl, u, o, n, hn⟩ := r1
            obtain ⟨g2, own2⟩ := Post.storeOw p.good hlt u o n (g.frs a hn)
            refine fin ⟨p.tr, g2, fun b z => by
              rcases own2 b z with y | y
              · exact p.own b y
              · subst y; exact .inr hn⟩ (rs.map fun j w y hw hy q => ?_) e
            obtain ⟨dy, fy⟩ := y
            cases fy with
            | false => exact q
            | true =>
              obtain ⟨c, rfl, u', o', n', hn'⟩ := q
              refine ⟨c, rfl, u', o', fun z => ?_, hn'⟩
              rcases own2 c z with y | y
              · exact n' y
              · subst y; exact nd rfl j dy hy hw
        · cases e
theorem pns_len {es : List Expr} {is : List Nat} (hs : PNs X es is) : (assignEach es X.env).length = is.length := by
  induction hs with
  | nil => rfl
  | cons _ _ _ _ ih => show (_ :: assignEach _ _).length = _; rw [List.length_cons, ih]; rfl
theorem pns_st {es : List Expr} {is : List Nat} (hs : PNs X es is) : (assignEach es X.env).findIdx? (·.1) = none := by
  induction hs with
  | nil => rfl
  | cons _ _ _ _ ih =>
    show List.findIdx? (·.1) ((false, _) :: assignEach _ _) = none
    simp only [List.findIdx?_cons, ih]
    rfl
theorem evalsF_length : ∀ (es : List E) (env : Env) (ds : List (Pi.D × Bool)) (e1 : Env), evalsF L es env = .ok ds e1 → ds.length = es.length := by
  intro es
  induction es with
  | nil => intro env ds e1 h; simp only [evalsF] at h; cases h; rfl
  | cons a r ih =>
    intro env ds e1 h
    simp only [evalsF] at h
    cases ha : eval L a env with
    | bad => rw [ha] at h; cases h
    | ex x e => rw [ha] at h; cases h
    | ok x e =>
      rw [ha, Res.bind_ok] at h
      cases hb : evalsF L r e with
      | bad => rw [hb] at h; cases h
      | ex x e => rw [hb] at h; cases h
      | ok y e2 =>
        rw [hb, Res.bind_ok] at h
        cases h
        rw [List.length_cons, List.length_cons, ih _ _ _ hb]
theorem storeF_length : ∀ (is : List Nat) (ds : List (Pi.D × Bool)) (env env' : Env), storeF is ds env = some env' → ds.length = is.length := by
  intro is
  induction is with
  | nil => intro ds env env' e; cases ds with | nil => rfl | cons _ _ => simp [storeF] at e
  | cons i is ih =>
    intro ds env env' e
    cases ds with
    | nil => simp [storeF] at e
    | cons d ds =>
      obtain ⟨d, fr⟩ := d
      simp only [storeF] at e
      split at e
      · rw [List.length_cons, List.length_cons, ih _ _ _ e]
      · cases e
theorem snd_parT {tes es : List Expr} {is : List Nat} {es' : List E} {k k2 : Nat} {tpos vp : Pos} (hz : ∀ i ∈ is, i ∈ Z) (hK : X.K = B.K) (hc : X.calm = true) (hN : X.N.Nodup) (he : PA X es (rdFs B L es')) (hl : es'.length ≤ 1000) (hg : PNs X tes is)
    (hw : swappedStores [.Tuple tes k tpos] (.Tuple es k2 vp) X.env = pure none) (hs : swapsWithSole [.Tuple tes k tpos] (.Tuple es k2 vp) pos.line X.env = pure false)
    (h1 : (assignEach [.Tuple tes k tpos] X.env).map (·.2) = [assign (.Tuple tes k tpos) X.env]) : PS X (.Assign [.Tuple tes k tpos] (.Tuple es k2 vp) pos) (rdS B Z L (.par is es')) := by
  refine (ps_asg (pe_tup he) (pg_tup hc (snd_gsF (B := B) hN hg) (pns_len hg) (pns_st hg)) hs hw h1).imp fun D σ H h => ?_
  obtain ⟨env, U, g, h⟩ := h
  simp only [exec] at h
  refine ⟨env, U, g, ?_⟩
  cases hr : evalsF L es' env with
  | bad => rw [hr] at h; exact h
  | ex x e1 => rw [hr] at h; exact fun U' H' c dx p => h σ U' H' c dx ⟨p, fun _ _ => rfl⟩
  | ok ds env1 =>
    rw [hr] at h
    simp only [Res.bind_ok] at h
    intro U1 H1 p1 vs reps
    cases hst : storeF is ds env1 with
    | none => rw [hst] at h; exact h.elim
    | some env2 =>
      rw [hst] at h
      simp only [pureR_some, Res.bind_ok] at h
      refine ⟨?_, fun p hp => ?_⟩
      · rw [reps.length, evalsF_length _ _ _ _ hr]
        exact Nat.le_trans hl (Nat.le_trans (by decide) line100)
      · obtain ⟨p2, _⟩ := Post.new (o := .tup vs) p1.good hp
        refine ⟨p, vs, rfl, .inl (.inl upd_same), by rw [reps.length, storeF_length _ _ _ _ hst], σ, env, U, H, env1, U1, ds, env2, g, p1.trans g p2, reps.map fun j v x _ _ r => r.post p1.good p2, hst, fun σ' p3 ag => h σ' U1 _ ⟨p3, fun j hj => ag j fun z => hj (hz j z)⟩⟩
theorem snd_par2 {i j : Nat} {x y : Str} {px py pt pt2 : Pos} {kt k2 : Nat} (hz : ∀ k ∈ [i, j], k ∈ Z) (hc : X.calm = true) (hN : X.N.Nodup) (hi : X.N[i]? = some x) (hj : X.N[j]? = some y) (hij : i ≠ j) (hx : X.env.scope.names.lookup x = some .local) (hy : X.env.scope.names.lookup y = some .local)
    (ha : PA X [a, b] (rdFs B L [a', b'])) (hw : swappedStores [.Tuple [.Name x px, .Name y py] kt pt] (.Tuple [a, b] k2 pt2) X.env = pure (some [x, y])) (hs : swapsWithSole [.Tuple [.Name x px, .Name y py] kt pt] (.Tuple [a, b] k2 pt2) pos.line X.env = pure false) :
    PS X (.Assign [.Tuple [.Name x px, .Name y py] kt pt] (.Tuple [a, b] k2 pt2) pos) (rdS B Z L (.par [i, j] [a', b'])) := by
  refine (ps_par hc hN hi hj hij hx hy ha hw hs).imp fun D σ H h => ?_
  obtain ⟨env, U, g, w⟩ := rd_par hz h
  refine ⟨env, U, g, w.imp fun ds env1 U1 H1 _ p1 h1 vs reps => ?_⟩
  obtain ⟨hl, q⟩ := h1 vs reps
  rcases vs with _ | ⟨v, _ | ⟨w, _ | ⟨_, _⟩⟩⟩ <;> simp at hl
  exact ⟨v, w, rfl, q⟩
theorem snd_par3 {i j l : Nat} {x y z : Str} {px py pz pt pt2 : Pos} {kt k2 : Nat} (hz : ∀ k ∈ [i, j, l], k ∈ Z) (hc : X.calm = true) (hN : X.N.Nodup) (hi : X.N[i]? = some x) (hj : X.N[j]? = some y) (hl : X.N[l]? = some z) (hij : i ≠ j) (hil : i ≠ l) (hjl : j ≠ l)
    (hx : X.env.scope.names.lookup x = some .local) (hy : X.env.scope.names.lookup y = some .local) (hzz : X.env.scope.names.lookup z = some .local)
    (ha : PA X [a, b, c] (rdFs B L [a', b', c'])) (hw : swappedStores [.Tuple [.Name x px, .Name y py, .Name z pz] kt pt] (.Tuple [a, b, c] k2 pt2) X.env = pure (some [x, y, z])) (hs : swapsWithSole [.Tuple [.Name x px, .Name y py, .Name z pz] kt pt] (.Tuple [a, b, c] k2 pt2) pos.line X.env = pure false) :
    PS X (.Assign [.Tuple [.Name x px, .Name y py, .Name z pz] kt pt] (.Tuple [a, b, c] k2 pt2) pos) (rdS B Z L (.par [i, j, l] [a', b', c'])) := by
  refine (ps_par3 hc hN hi hj hl hij hil hjl hx hy hzz ha hw hs).imp fun D σ H h => ?_
  obtain ⟨env, U, g, w⟩ := rd_par hz h
  refine ⟨env, U, g, w.imp fun ds env1 U1 H1 _ p1 h1 vs reps => ?_⟩
  obtain ⟨hl, q⟩ := h1 vs reps
  rcases vs with _ | ⟨v, _ | ⟨w, _ | ⟨u, _ | ⟨_, _⟩⟩⟩⟩ <;> simp at hl
  exact ⟨v, w, u, rfl, q⟩
/-! lists that are written -/
theorem Post.write {K F σ env U H} {i : Nat} {l : Bool} {d : Pi.D} {ds : List Pi.D} {a : Addr} {vs : List V} (g : Gd K F σ env U H) (e : env[i]? = some (.ow l d)) (s : σ[i]? = some (some (.ref a))) (r : RepAll K U H vs ds) :
    Post K F σ env U H σ (env.set i (.ow l (.lst ds))) U (upd H a (.lst vs)) := by
  obtain ⟨a', e1, u, o, f⟩ := g.ow i l d e
  rw [s] at e1; cases e1
  have hown : Own σ env a := ⟨i, l, d, e, s⟩
  have hi : i < env.length := (List.getElem?_eq_some_iff.mp e).1
  have t : Tr (fun b => b = a) U H U (upd H a (.lst vs)) := by
    obtain ⟨xs0, eL⟩ := o.lst
    refine ⟨fun b o h z _ => by rw [upd_ne z]; exact h, fun h => tabs_upd eL h nt_lst, fun b h => ?_, fun b h => .inl h, fun b h _ => h⟩
    by_cases z : b = a
    · rw [z, upd_same]; simp
    · rw [upd_ne z]; exact h
  have hO : ∀ b, b = a → U b ∧ ∃ xs, H b = some (.lst xs) := fun b h => by subst h; exact ⟨u, o.lst⟩
  have get : ∀ {j : Nat} {s0 : Sl}, (env.set i (.ow l (.lst ds)))[j]? = some s0 → (i = j ∧ s0 = .ow l (.lst ds)) ∨ (i ≠ j ∧ env[j]? = some s0) := fun {j s0} h => get_set_ow h
  have same : ∀ b, Own σ (env.set i (.ow l (.lst ds))) b → Own σ env b := fun b ⟨j, l', d', h, s0⟩ => by
    rcases get h with ⟨rfl, q⟩ | ⟨n, q⟩
    · rw [s] at s0; cases s0; exact hown
    · exact ⟨j, l', d', q, s0⟩
  refine ⟨⟨fun b o h z nt => t.keep b o h (fun y => z (y ▸ hown)) nt, t.tab, t.live, fun b h => .inl h, fun b h _ => h⟩, ⟨by simpa using g.len, fun j d' h => ?_, fun j l' d' h => ?_, fun j k l1 l2 d1 d2 b h1 h2 s1 s2 => ?_, fun b h => t.live b (g.live b h), fun b h => ?_, t.tab g.tab⟩, fun b h => .inl (same b h)⟩
  · rcases get h with ⟨_, q⟩ | ⟨n, q⟩
    · cases q
    · obtain ⟨v, e1, r1⟩ := g.sh j d' q
      exact ⟨v, e1, r1.mono t hO⟩
  · rcases get h with ⟨rfl, q⟩ | ⟨n, q⟩
    · cases q
      exact ⟨a, s, u, ⟨vs, upd_same, r.mono t hO⟩, f⟩
    · obtain ⟨b, e1, u1, o1, f1⟩ := g.ow j l' d' q
      refine ⟨b, e1, u1, o1.mono t hO (fun z => ?_), f1⟩
      subst z
      exact n (g.inj i j _ _ _ _ b e q s e1)
  · rcases get h1 with ⟨rfl, q1⟩ | ⟨n1, q1⟩
    · rcases get h2 with ⟨rfl, q2⟩ | ⟨n2, q2⟩
      · rfl
      · exact g.inj i k _ _ _ _ b e q2 s1 s2
    · rcases get h2 with ⟨rfl, q2⟩ | ⟨n2, q2⟩
      · exact g.inj j i _ _ _ _ b q1 e s1 s2
      · exact g.inj j k _ _ _ _ b q1 q2 s1 s2
  · refine g.frs b ?_
    by_cases z : b = a
    · rw [z, upd_same] at h; cases h
    · rwa [upd_ne z] at h
theorem snd_seti {x : Nat} {n : Str} {p tp : Pos} {i : Expr} {i' : E} (hN : X.N[x]? = some n) (hv : Vis X.env.scope n) (hd : (n == ("__debug__" : Str)) = false) (hcd : (n == ("__classdict__" : Str)) = false)
    (he : PE X e (rdE B L e')) (hi : PE X i (rdA B L i')) (hs : swapsWithSole [.Subscript (.Name n p) i tp] e pos.line X.env = pure false) (hw : swappedStores [.Subscript (.Name n p) i tp] e X.env = pure none)
    (h1 : (assignEach [.Subscript (.Name n p) i tp] X.env).map (·.2) = [assign (.Subscript (.Name n p) i tp) X.env])
    (ha : ∀ v, assign (.Subscript (.Name n p) i tp) X.env v = (do
      let ov ← holding [v] (PySem.eval (.Name n p) X.env)
      let iv ← holding [v, ov] (PySem.eval i X.env)
      standAt tp
      holding [v, ov, iv] (setItem ov iv v)
      release [v, ov, iv] [])) :
    PS X (.Assign [.Subscript (.Name n p) i tp] e pos) (rdS B Z L (.set x i' e')) := by
  refine (ps_asg he (pg_sub (pe_var hN hv hd hcd) hi set_list ha) hs hw h1).imp fun D σ H ⟨env, U, g, h⟩ => ?_
  simp only [exec] at h
  refine ⟨env, U, g, (WpS.val g h).imp fun d env1 U1 H1 _ p1 h1 v vr => ?_⟩
  obtain ⟨U2, g2, p2, r2, w⟩ := h1 v vr
  cases hx : env1[x]? with
  | none => rw [hx] at w; exact w.elim
  | some s =>
    rw [hx] at w
    cases s with
    | no => exact w.elim
    | sh d => exact w.elim
    | ow l d0 =>
      obtain ⟨a, ea, _⟩ := g2.ow x l d0 hx
      refine ⟨.ref a, ea, env1, U2, g2, (WpS.expr g2 w).imp fun y env2 U3 H3 _ p3 h3 iv ok3 => ?_⟩
      cases hx2 : env2[x]? with
      | none => rw [hx2] at h3; exact h3.elim
      | some s2 =>
        rw [hx2] at h3
        rcases s2 with _ | _ | ⟨l2, (_ | _ | _ | _ | _ | xs)⟩ <;> try exact h3.elim
        simp only at h3
        cases hy : y.peek env2 with
        | none => rw [hy] at h3; exact h3.elim
        | some dy =>
          rw [hy] at h3
          rcases dy with _ | _ | k | _ | _ | _ <;> try exact h3.elim
          simp only at h3
          cases hj : ixN xs.length k with
          | none => rw [hj] at h3; exact h3.elim
          | some j =>
            rw [hj] at h3
            obtain ⟨a2, ea2, u2, ⟨ws, ew, rw2⟩, f2⟩ := p3.good.ow x l2 _ hx2
            rw [ea] at ea2; cases ea2
            have r3 := p3.rep g2 r2
            refine ⟨a, ws, k, j, rfl, (p3.good.peek ok3 hy).int, ew, by rw [rw2.length]; exact hj, ?_⟩
            exact h3 σ U3 _ ⟨Post.write p3.good hx2 ea (rw2.set r3 j), fun _ _ => rfl⟩
theorem snd_app {x : Nat} {n : Str} {p ap cp : Pos} (hN : X.N[x]? = some n) (hv : Vis X.env.scope n) (hd : (n == ("__debug__" : Str)) = false) (hcd : (n == ("__classdict__" : Str)) = false) (he : PE X e (rdE B L e'))
    (hst : starEach [e] X.env = (false, PySem.eval e X.env) :: starEach [] X.env) (hline : (ap.endLine == cp.line) = true) :
    PS X (.Expr (.Call (.Attribute (.Name n p) "append" ap) [e] [] cp) pos) (rdS B Z L (.app x e')) := by
  refine (ps_expr (pe_bm PySem.F.plainAttrs_list PySem.F.slot_list_append PySem.F.type_list_append mt_append (pe_var hN hv hd hcd) (pa_cons he pa_nil hst) rfl (by rw [hst]; rfl) hline hst rfl)).imp fun D σ H ⟨env, U, g, h⟩ => ?_
  simp only [exec] at h
  cases hx : env[x]? with
  | none => rw [hx] at h; exact h.elim
  | some s =>
    rw [hx] at h
    rcases s with _ | _ | ⟨l, (_ | _ | _ | _ | _ | xs)⟩ <;> try exact h.elim
    simp only at h
    obtain ⟨a, ea, u, ⟨ws, ew, rw1⟩, f⟩ := g.ow x l _ hx
    refine ⟨.ref a, ea, .inl ⟨rfl, ws, .inl (.inl ew)⟩, env, U, g, (WpS.val g h).imp fun d env1 U1 H1 _ p1 h1 v vr => ?_⟩
    obtain ⟨U2, g2, p2, r2, w⟩ := h1 v vr
    cases hx2 : env1[x]? with
    | none => rw [hx2] at w; exact w.elim
    | some s2 =>
      rw [hx2] at w
      rcases s2 with _ | _ | ⟨l2, (_ | _ | _ | _ | _ | ys)⟩ <;> try exact w.elim
      simp only at w
      split at w
      · rename_i hlt
        obtain ⟨a2, ea2, u2, ⟨zs, ez, rz⟩, f2⟩ := g2.ow x l2 _ hx2
        rw [ea] at ea2; cases ea2
        refine ⟨a, zs, v, rfl, rfl, ez, by rw [rz.length]; exact Nat.lt_of_lt_of_le hlt line100, ?_⟩
        exact w σ U2 _ ⟨Post.write g2 hx2 ea (rz.append (.cons r2 .nil)), fun _ _ => rfl⟩
      · exact w.elim
def rExtR : V → List V → Hp → VK → Prop := fun x vs H Q => ∃ l b xs zs, x = .ref l ∧ vs = [.ref b] ∧ H l = some (.lst xs) ∧ Rd H b (.lst zs) ∧ xs.length + zs.length ≤ sizeLine ∧ Q .non (upd H l (.lst (xs ++ zs)))
theorem mt_extR : MtR X "list.extend" rExtR := by
  intro pins s σ H x vs v us Q I rx rv h
  obtain ⟨l, b, xs, zs, rfl, rfl, hH, hB, hz, q⟩ := h
  cases rx
  obtain ⟨u, rfl, ru⟩ := rv.one
  cases ru
  obtain ⟨z, its, n, r, hl, e⟩ := I.lstM hH
  obtain ⟨z2, its2, n2, r2, hl2, e2⟩ := Inv.rdM I hB
  have hsz : its.toArray.size + its2.toArray.size ≤ sizeLine := by rw [List.size_toArray, List.size_toArray]; omega
  have hlong : ¬ (!its.toArray.isEmpty && Builtin.List.listTooLong (its.toArray.size + its2.toArray.size)) = true := by
    rw [notLongL hsz, Bool.and_false]
    exact Bool.false_ne_true
  refine call_meets F.slot_list_extend ⟨_, e, rfl⟩ F.entry_list_extend (F.args_list_extend_2 _ _)
    (AutoSeq1.list_extend_list_list_0 l its.toArray n b its2.toArray n2 hlong (by rw [List.size_toArray]; omega) (by omega)) ⟨e, e2, ?_⟩
  refine ⟨.non, _, I.lset (its' := its ++ its2) hH e (by simp) (r.append r2) ?_, rfl, q⟩
  rw [List.length_append]
  omega
theorem snd_ext {x : Nat} {n : Str} {p ap cp : Pos} (hN : X.N[x]? = some n) (hv : Vis X.env.scope n) (hd : (n == ("__debug__" : Str)) = false) (hcd : (n == ("__classdict__" : Str)) = false) (he : PE X e (rdE B L e'))
    (hst : starEach [e] X.env = (false, PySem.eval e X.env) :: starEach [] X.env) (hline : (ap.endLine == cp.line) = true) :
    PS X (.Expr (.Call (.Attribute (.Name n p) "extend" ap) [e] [] cp) pos) (rdS B Z L (.ext x e')) := by
  refine (ps_expr (pe_bm PySem.F.plainAttrs_list PySem.F.slot_list_extend PySem.F.type_list_extend mt_extR (pe_var hN hv hd hcd) (pa_cons he pa_nil hst) rfl (by rw [hst]; rfl) hline hst rfl)).imp fun D σ H ⟨env, U, g, h⟩ => ?_
  simp only [exec] at h
  cases hx : env[x]? with
  | none => rw [hx] at h; exact h.elim
  | some s =>
    rw [hx] at h
    rcases s with _ | _ | ⟨l, (_ | _ | _ | _ | _ | xs)⟩ <;> try exact h.elim
    simp only at h
    obtain ⟨a, ea, u, ⟨ws, ew, rw1⟩, f⟩ := g.ow x l _ hx
    refine ⟨.ref a, ea, .inl ⟨rfl, ws, .inl (.inl ew)⟩, env, U, g, (WpS.val g h).imp fun d env1 U1 H1 _ p1 h1 v vr => ?_⟩
    obtain ⟨U2, g2, p2, r2, w⟩ := h1 v vr
    cases hx2 : env1[x]? with
    | none => rw [hx2] at w; exact w.elim
    | some s2 =>
      rw [hx2] at w
      rcases s2 with _ | _ | ⟨l2, (_ | _ | _ | _ | _ | ys)⟩ <;> try exact w.elim
      simp only at w
      cases hd : d.1 <;> rw [hd] at w r2 <;> try exact w.elim
      rename_i es
      simp only at w
      split at w
      · rename_i hlt
        obtain ⟨a2, ea2, u2, ⟨zs, ez, rz⟩, f2⟩ := g2.ow x l2 _ hx2
        rw [ea] at ea2; cases ea2
        obtain ⟨b, us, rfl, h4, h5⟩ := (Pk.sh r2).lst
        refine ⟨a, b, zs, us, rfl, rfl, ez, h4, by rw [rz.length, h5.length]; exact Nat.le_trans hlt line100, ?_⟩
        exact w σ U2 _ ⟨Post.write g2 hx2 ea (rz.append h5), fun _ _ => rfl⟩
      · exact w.elim
theorem snd_aug {i : Nat} {x : Str} {op : Operator} {o : Bop} (hz : i ∈ Z) (ho : (op = .Add ∧ o = .add) ∨ (op = .Sub ∧ o = .sub)) (hN : X.N.Nodup) (hi : X.N[i]? = some x) (hx : Loc X.env.scope x) (hf : X.fn x = true ∨ X.env.scope.names.lookup x = some .local) (he : PE X e (rdA B L e')) :
    PS X (.AugAssign (.Name x pos') op e pos) (rdS B Z L (.aug i o e')) := by
  have go : ∀ (gg : Int → Int → Int) (D : Ends) (σ : Sg) (H : Hp), ((o = .add ∧ gg = fun i j => i + j) ∨ (o = .sub ∧ gg = fun i j => i - j)) → rdS B Z L (.aug i o e') D σ H → tAug i (rdA B L e') (ipI gg) D σ H := by
    intro gg D σ H hg ⟨env, U, g, h⟩
    simp only [exec] at h
    cases hv : env[i]? with
    | none => rw [hv] at h; exact h.elim
    | some s =>
      rw [hv] at h
      rcases s with _ | (_ | _ | a | _ | _ | _) | _ <;> try exact h.elim
      simp only at h
      obtain ⟨v, ev, rv⟩ := g.sh i _ hv
      cases rv
      refine ⟨.int a, ev, env, U, g, (WpS.expr g h).imp fun y env1 U1 H1 _ p1 h1 w ok1 => ?_⟩
      cases hy : y.peek env1 with
      | none => rw [hy] at h1; exact h1.elim
      | some dy =>
        rw [hy] at h1
        rcases dy with _ | _ | b | _ | _ | _ <;> try exact h1.elim
        simp only at h1
        have hw := (p1.good.peek ok1 hy).int
        have fixZ : ∀ {o : Option V}, ∀ j, j ∉ Z → (σ.set i o)[j]? = σ[j]? := set_fix hz
        rcases hg with ⟨e1, e2⟩ | ⟨e1, e2⟩
        · subst e1 e2
          simp only at h1
          split at h1
          · rename_i hlt
            exact ⟨a, b, rfl, hw, h1 _ U1 H1 ⟨Post.store p1.good hlt (.int _), fixZ⟩⟩
          · exact h1.elim
        · subst e1 e2
          simp only at h1
          split at h1
          · rename_i hlt
            exact ⟨a, b, rfl, hw, h1 _ U1 H1 ⟨Post.store p1.good hlt (.int _), fixZ⟩⟩
          · exact h1.elim
  rcases ho with ⟨rfl, rfl⟩ | ⟨rfl, rfl⟩
  · exact (ps_aug hN hi hx he ip_add hf).imp fun D σ H h => go _ D σ H (.inl ⟨rfl, rfl⟩) h
  · exact (ps_aug hN hi hx he ip_sub hf).imp fun D σ H h => go _ D σ H (.inr ⟨rfl, rfl⟩) h
/-! loops -/
theorem snd_while {body : List Stmt} {body' : List S} (hp : PassesOwn (model X.prog X.w) X.A X.env X.xe) (hc : PT X c (rdT B L c')) (hb : PSs X body (rdSs B Z L body')) : PS X (.While c body [] pos) (rdS B Z L (.whl c' body')) := by
  refine (ps_while hp hc hb).imp fun D σ H ⟨env, U, g, h⟩ => ?_
  simp only [exec] at h
  have hcc : (fun e => (argOf c' (eval L c' e) e).bind fun x env1 => pureR ((x.peek env1).map Pi.D.truth) env1) = fun e => tst L c' e := rfl
  rw [hcc] at h
  refine ⟨fun m σ H => ∃ env U, Gd B.K B.F σ env U H ∧ WpS B Z σ env U H (whLoop (fun e => tst L c' e) (fun e => execs L body' e) m env) D, ⟨turns, env, U, g, h⟩, ?_⟩
  rintro m σ H ⟨env, U, g, h⟩
  cases m with
  | zero => exact h.elim
  | succ m =>
    simp only [whLoop] at h
    refine ⟨env, U, g, (WpS.expr g h).imp fun k env1 U1 H1 _ p1 h1 => ?_⟩
    cases k with
    | false =>
      simp only [Bool.false_eq_true, if_false] at h1 ⊢
      exact h1 σ U1 H1 (.refl p1.good)
    | true =>
      simp only [if_true] at h1 ⊢
      refine ⟨fun σ' H' => ∃ env U, Gd B.K B.F σ' env U H' ∧ WpS B Z σ' env U H' (whLoop (fun e => tst L c' e) (fun e => execs L body' e) m env) D, fun σ' H' q => ⟨m, Nat.lt_succ_self m, q⟩, env1, U1, p1.good, ?_⟩
      cases hr : execs L body' env1 with
      | bad => rw [hr] at h1; exact h1
      | ex x e1 => rw [hr] at h1; exact h1
      | ok f e1 =>
        rw [hr] at h1
        simp only [Res.bind_ok] at h1
        cases f with
        | nx => exact fun σ' U' H' p => ⟨e1, U', p.post.good, WpS.next p1.good p h1⟩
        | ct => exact fun σ' U' H' p => ⟨e1, U', p.post.good, WpS.next p1.good p h1⟩
        | bk => exact h1
        | rt d fr => exact h1
theorem snd_for {body : List Stmt} {body' : List S} {tgt : Tg} {k : ItK} {es' : List E} (hz : ∀ i ∈ tgt.slots, i ∈ Z) (hp : PassesOwn (model X.prog X.w) X.A X.env X.xe) (hc : X.calm = true) (hi : PI X tg iter (rdI B L k es')) (hg : PG X tg (rdG B tgt)) (hb : PSs X body (rdSs B Z L body'))
    (hs : ∀ x, foldedSetIterable iter X.env x = pure x) : PS X (.For tg iter body [] pos) (rdS B Z L (.fo tgt k es' body')) := by
  refine (ps_for hp hc hi hg hb hs).imp fun D σ H ⟨env, U, g, h⟩ => ?_
  simp only [exec] at h
  refine ⟨env, U, g, (WpS.expr g h).imp fun items env1 U1 H1 _ p1 h1 J srcV srcD rsrc itok => ?_⟩
  generalize hf : (fun (d : Pi.D) (e : Env) => (match tgt.store d false e with
          | none => (Res.bad : Res Fl)
          | some e1 => execs L body' e1)) = f at h1
  refine ⟨fun i m σ' H' => m = items.length - i ∧ i ≤ items.length ∧ ∃ envi Ui, PostS B Z σ env1 U1 H1 σ' envi Ui H' ∧ WpS B Z σ' envi Ui H' (foLoop f (items.drop i) envi) D, ⟨items.length, by simp, Nat.zero_le _, env1, U1, .refl p1.good, by simpa using h1⟩, ?_⟩
  rintro i m σ' H' ⟨rfl, hi, envi, Ui, P, w⟩
  have src := P.post.reps p1.good rsrc
  obtain ⟨it1, it2⟩ := itok B.F σ' envi Ui H' P.post.good src i
  cases hit : items[i]? with
  | none =>
    refine .inl ⟨it2 hit, ?_⟩
    rw [List.drop_eq_nil_of_le (List.getElem?_eq_none_iff.mp hit)] at w
    simp only [foLoop] at w
    exact w σ' Ui H' (.refl P.post.good)
  | some d =>
    have hlt : i < items.length := (List.getElem?_eq_some_iff.mp hit).1
    have hd : items.drop i = d :: items.drop (i + 1) := by
      rw [List.drop_eq_getElem_cons hlt]
      congr 1
      exact (List.getElem?_eq_some_iff.mp hit).2
    rw [hd] at w
    simp only [foLoop] at w
    obtain ⟨go, yl⟩ := it1 d hit
    refine .inr ⟨go, fun σ2 H2 => ∃ envi Ui, PostS B Z σ env1 U1 H1 σ2 envi Ui H2 ∧ WpS B Z σ2 envi Ui H2 (foLoop f (items.drop (i + 1)) envi) D, fun σ2 H2 q => ⟨items.length - (i + 1), by omega, rfl, hlt, q⟩, fun x H5 y5 => ?_⟩
    obtain ⟨p5, r5⟩ := yl x H5 y5
    have P5 := P.trans p1.good ⟨p5, fun _ _ => rfl⟩
    have w5 := WpS.next P.post.good ⟨p5, fun _ _ => rfl⟩ w
    rw [← hf] at w5
    simp only at w5
    cases hst : tgt.store d false envi with
    | none => rw [hst] at w5; exact w5.elim
    | some e1 =>
      rw [hst] at w5
      simp only at w5
      refine ⟨envi, Ui, d, e1, p5.good, r5, hst, fun σ6 p6 ag => ?_⟩
      have p6' : PostS B Z σ' envi Ui H5 σ6 e1 Ui H5 := ⟨p6, fun j hj => ag j fun z => hj (hz j z)⟩
      have P6 := P5.trans p1.good p6'
      have w6 := WpS.next p5.good p6' w5
      refine ⟨e1, Ui, p6.good, ?_⟩
      cases hr : execs L body' e1 with
      | bad => rw [hr] at w6; exact w6
      | ex x e2 => rw [hr] at w6; exact w6
      | ok fl e2 =>
        rw [hr] at w6
        simp only [Res.bind_ok] at w6
        rw [hf] at w6
        cases fl with
        | nx => exact fun σ7 U7 H7 p7 => ⟨e2, U7, P6.trans p1.good p7, WpS.next p6.good p7 w6⟩
        | ct => exact fun σ7 U7 H7 p7 => ⟨e2, U7, P6.trans p1.good p7, WpS.next p6.good p7 w6⟩
        | bk => exact w6
        | rt d fr => exact w6
theorem snd_raise {cn : Nat} {x m : Str} {j : Nat} {C : Addr} {p p2 p3 : Pos} {bmB : List Value} {BB newId initId : String} (hc : X.calm = true) (tk : Takes X B.W) (FB : ExcBaseFacts BB newId initId bmB) (q : PySem.W.excIn X.K C bmB newId = true) (gC : X.mg x = some (.ref C)) (kC : PySem.W.keepIn X.K (.ref C) = true) (r : Raises X (.ref C)) (hg : Gl X x)
    (hdb : (x == ("__debug__" : Str)) = false) (hX : ∀ U H, B.XR ⟨cn, none⟩ (.ref C) none U H) : PS X (.Raise (some (.Call (.Name x p) [.Constant (.str m) j p2] [] p3)) none pos) (rdS B Z L (.raise cn)) := by
  refine (ps_raise hc tk (pmk_own FB q gC kC r hg hdb)).imp fun D σ H ⟨env, U, g, h⟩ => ?_
  simp only [exec] at h
  exact h σ U H (.ref C) none (.refl g) (hX U H)
end
end Pi

set_option Elab.async false
set_option linter.all false
set_option maxRecDepth 100000
set_option maxHeartbeats 4000000
/-! PiLa: own errors with a field. -/
namespace Pi
open PySem PySem.Spec PyProof.Rows L2
variable [HasT]

/-- the value of a field -/
def FlV : D → V → Prop
  | .int i, v => v = .int i ∧ -1 ≤ i ∧ i < 1000000000
  | .str s, v => v = .str s ∧ s.length ≤ 100000 ∧ PyData.strOk s = true
  | _, _ => False
theorem FlV.rep {K : PySem.W.Frag} {d : D} {v : V} (h : FlV d v) (U : Addr → Prop) (H : Hp) : Rep K U H v d := by
  cases d <;> first | exact h.elim | skip
  · obtain ⟨rfl, _⟩ := h; exact .int _
  · obtain ⟨rfl, h1, h2⟩ := h; exact .str _ ⟨h2, h1⟩
theorem flV_of {K : PySem.W.Frag} {U : Addr → Prop} {H : Hp} {d : D} {v : V} (h : fldOk d = true) (r : Rep K U H v d) : FlV d v := by
  cases r <;> first | (simp [fldOk] at h; done) | skip
  · simp only [fldOk, Bool.and_eq_true, decide_eq_true_eq] at h
    exact ⟨rfl, h.1, h.2⟩
  · rename_i x hx
    exact ⟨rfl, hx.2, hx.1⟩
/-- the promise of such an __init__ -/
def spI (K : PySem.W.Frag) (C : Addr) (f : Str) : Sp := fun vs H Q _ => ∃ a v d, vs = [.ref a, v] ∧ OexC K C ∧ PySem.W.findIn K (.ref C) f = some none ∧ H a = some (exo a C none) ∧ FlV d v ∧
  ∀ dx, H dx = none → dx ≠ a → Q .non (upd (upd H dx (exd dx [(f, v)])) a (exo a C (some dx)))
/-- the parent's __init__ is that of ValueError -/
structure ParC (K : PySem.W.Frag) (CE : Addr) : Prop where
  ga : PySem.W.specialIn K (.ref CE) "__getattribute__" = some (some (.builtin "type.__getattribute__"))
  rd : PySem.W.readsIn K CE (.type "type") = true
  fc : PySem.W.findCls K (.ref CE) (.type "type") "__init__" = some (.val (.builtin "ValueError.__init__"))
section
variable {X : Cx} {e : Expr} {es : List Expr} {ta : TA} {x : Str} {p1 p2 pos : Pos} {CE : Addr}
/-- C.__init__(self, ..), C an own class over ValueError -/
theorem pe_ceinit {pl : Sem Bool} (hg : Gl X x) (hm : X.mg x = some (.ref CE)) (hd : (x == ("__debug__" : Str)) = false) (T : ParC X.K CE) (ha : PA X (e :: es) ta)
    (hc : PySem.eval (.Call (.Attribute (.Name x p1) "__init__" p2) (e :: es) [] pos) X.env = (do
      let ov ← PySem.eval (.Name x p1) X.env
      standAt p2.atName
      let (f, first) ← holding [ov] (getMethod ov "__init__" pl)
      callWith pos f first (backTo pos (starEach (e :: es) X.env)) (backToKw pos (keywordEach [] X.env))))
    (he : starEach (e :: es) X.env = (false, PySem.eval e X.env) :: starEach es X.env) (hpl : (backTo pos (starEach es X.env)).any (·.1) = false) :
    PE X (.Call (.Attribute (.Name x p1) "__init__" p2) (e :: es) [] pos) (tVeI X.K ta) := by
  refine ⟨fun pins s σ H Q I h => ?_⟩
  refine PySem.W.methodCall_KW (ld_glob I hg hm ?_ hd) hc
  refine PySem.W.method_cls I.kIn T.ga ?_
  refine PySem.W.cls_value I.kIn T.rd T.fc (by decide +kernel) ?_
  show wpAny _ _ (callWith pos (Value.builtin "ValueError.__init__") [] (backTo pos (starEach (e :: es) X.env)) []) _ _ _
  refine PyProof.Rows.callWith_method1 (thn (ha.run pos pins _ σ H _ (I.tok _) h) fun us s1 ⟨vs, H1, I1, r1, a, C, ws, ev, hl, T, ea, q⟩ => ?_) he hpl
  subst ev
  cases r1 with
  | @cons _ u0 _ ur ra rw' =>
    obtain rfl : u0 = Value.ref a := ra
    have hlen : ur.length ≤ sizeLine := by
      rw [← Paired.length rw', sizeLine_eq]
      omega
    exact oinit_ok T I1 ea hlen fun s' J => ⟨.non, H1, J, rfl, q⟩
end
theorem powMono {k n : Nat} (h : k ≤ n) : 2 ^ k ≤ 2 ^ n := Nat.pow_le_pow_right (by decide) h
theorem pow30 : 2 ^ 30 ≤ 2 ^ 1920 := powMono (by decide)
theorem str_int_len {i : Int} (h1 : -1 ≤ i) (h2 : i < 1000000000) : (Str.ofString (toString i)).length ≤ 10 := by
  by_cases h : i = -1
  · subst h; decide
  · exact toString_length_le (k := 10) (by omega) (by decide) (by omega)
/-- str of such a value -/
theorem call_str_fl {X : Cx} : CallR X (.type "str") (fun xs H Q => ∃ d v, xs = [v] ∧ FlV d v ∧ ∀ z : Str, z.length ≤ 100000 → Q (.str z) H) := by
  intro pins s σ H xs us Q I r h
  obtain ⟨d, v, rfl, fv, q⟩ := h
  cases d <;> first | exact fv.elim | skip
  · rename_i i
    obtain ⟨rfl, h1, h2⟩ := fv
    refine call_str_int pins s σ H _ us Q I r ⟨i, rfl, ?_, q _ (Nat.le_trans (str_int_len h1 h2) (by decide))⟩
    by_cases h0 : i.natAbs = 0
    · rw [h0]; decide
    · refine (Nat.log2_lt h0).mpr (Nat.lt_of_lt_of_le (show i.natAbs < 2 ^ 30 by omega) pow30)
  · rename_i z
    obtain ⟨rfl, h1, h2⟩ := fv
    exact SkE.call_str_str pins s σ H _ us Q I r ⟨z, rfl, q z h1⟩
/-- the body of such an __init__ -/
def initB (ce pre self x f : Str) (k : Nat) (p : Nat → Pos) : List Stmt :=
  [.Expr (.Call (.Attribute (.Name ce (p 0)) "__init__" (p 1)) [.Name self (p 2), .BinOp (.Constant (.str pre) k (p 3)) .Add (.Call (.Name "str" (p 4)) [.Name x (p 5)] [] (p 6)) (p 7)] [] (p 8)) (p 9),
   .Assign [.Attribute (.Name self (p 10)) f (p 11)] (.Name x (p 12)) (p 13)]
def initScB (sc : Scope) (self x ce : Str) : Bool := decide (sc.kind = .function) && !sc.isCoroutine && !sc.isGenerator && decide (sc.names.lookup self = some .local) && decide (sc.names.lookup x = some .local) && decide (sc.names.lookup ce = some .globalImplicit) &&
  decide (sc.names.lookup ("str" : Str) = some .globalImplicit) && (sc.names.all fun y => match y.2 with | .free => false | _ => true) && !decide (self = x) && !(self == ("__debug__" : Str)) && !(self == ("__classdict__" : Str)) && !(x == ("__debug__" : Str)) && !(x == ("__classdict__" : Str)) && !(ce == ("__debug__" : Str))
theorem init_ok {P : Program} {w : World} {K : PySem.W.Frag} {mg : Str → Option Value} {base : Heap} {name qual : Str} {prm : Arguments} {scope : Scope} {fI : Addr} {fd : FuncData} {n : Nat} {ce pre self x f : Str} {k : Nat} {p : Nat → Pos} {C CE : Addr}
    (F : FunD K name qual prm (initB ce pre self x f k p) scope [] [] fI fd) (hs : initScB scope self x ce = true) (hmce : mg ce = some (.ref CE)) (hstr : mg "str" = none) (T : ParC K CE) (hpre : pre.length ≤ 1000)
    (hsw : ∀ X : Cx, swapsWith (.Name x (p 12)) (some (.Attribute (.Name self (p 10)) f (p 11))) (p 13).line X.env = pure false)
    (hc : ∀ X : Cx, ∃ pl, PySem.eval (.Call (.Attribute (.Name ce (p 0)) "__init__" (p 1)) [.Name self (p 2), .BinOp (.Constant (.str pre) k (p 3)) .Add (.Call (.Name "str" (p 4)) [.Name x (p 5)] [] (p 6)) (p 7)] [] (p 8)) X.env = (do
      let ov ← PySem.eval (.Name ce (p 0)) X.env
      standAt (p 1).atName
      let (f, first) ← holding [ov] (getMethod ov "__init__" pl)
      callWith (p 8) f first (backTo (p 8) (starEach [.Name self (p 2), .BinOp (.Constant (.str pre) k (p 3)) .Add (.Call (.Name "str" (p 4)) [.Name x (p 5)] [] (p 6)) (p 7)] X.env)) (backToKw (p 8) (keywordEach [] X.env)))) :
    FnOk P w K mg base (L2.CX P w) (n + 1) fI fd [self, x] (spI K C f) := by
  unfold initScB at hs
  simp only [Bool.and_eq_true, Bool.not_eq_true', decide_eq_true_eq, decide_eq_false_iff_not] at hs
  obtain ⟨⟨⟨⟨⟨⟨⟨⟨⟨⟨⟨⟨⟨h1, h2⟩, h3⟩, h4⟩, h5⟩, h6⟩, h7⟩, h8⟩, h9⟩, h10⟩, h11⟩, h12⟩, h13⟩, h14⟩ := hs
  have S : FnScope [self, x] [self, x] scope := ⟨h1, h2, h3, by simp [h9], rfl, fun y hy => by
    simp only [List.mem_cons, List.not_mem_nil, or_false] at hy
    rcases hy with rfl | rfl
    · exact .inl h4
    · exact .inl h5, fun y hy z => by
    have := List.all_eq_true.mp h8 y hy
    rw [z] at this
    cases this⟩
  refine F.ok S (fun vs H Q E ⟨a, v, d, e, _⟩ => by rw [e]; rfl) fun cdv A outer s H vs Q E hr ⟨a, v, d, e, hO, hno, ha, fv, q⟩ => ?_
  subst e
  generalize hX : cxOf (L2.CX P w) P w K mg base [self, x] qual scope fI cdv A outer s H E = X
  have hXm : X.mg = mg := by rw [← hX]; rfl
  have hXK : X.K = K := by rw [← hX]; rfl
  have hXs : X.env.scope = scope := by rw [← hX]; rfl
  have hXN : X.N = [self, x] := by rw [← hX]; rfl
  have pself : ∀ p, PE X (.Name self p) _ := fun p => pe_var (i := 0) (by rw [hXN]; rfl) (by rw [hXs]; exact .inl h4) h10 h11
  have px : ∀ p, PE X (.Name x p) _ := fun p => pe_var (i := 1) (by rw [hXN]; rfl) (by rw [hXs]; exact .inl h5) h12 h13
  obtain ⟨pl, hc⟩ := hc X
  have pstr := pe_callTy (X := X) (pos := p 6) (p := p 4) call_str_fl (show Gl X "str" by rw [← hX]; exact h7) (by rw [hXm]; exact hstr) (show bootBuiltins "str" = some (.type "str") by decide +kernel) (pa_cons (px (p 5)) pa_nil rfl)
  have padd := pe_op (pos := p 7) op_add_str (pe_str (X := X) (x := pre) (j := k) (pos := p 3)) pstr
  have pcall := pe_ceinit (pl := pl) (pos := p 8) (p1 := p 0) (p2 := p 1) (show Gl X ce by rw [← hX]; exact h6) (by rw [hXm]; exact hmce) h14 (hXK ▸ T) (pa_cons (pself (p 2)) (pa_cons padd pa_nil rfl) rfl) hc rfl rfl
  refine ⟨_, pss_cons (ps_expr (pos := p 9) pcall rfl) (pss_one (ps_ost (pos := p 13) (pself (p 10)) (px (p 12)) (hsw X))), ?_⟩
  simp only [tSeq, tDrop, tVeI, tOp, tCB, tVar, tC, tOst, tCons, tNil]
  refine ⟨_, rfl, _, rfl, d, v, rfl, fv, fun z hz => ⟨pre, z, rfl, rfl, ?_, a, C, _, rfl, by simp, hXK ▸ hO, ha, _, rfl, _, rfl, a, C, rfl, hXK ▸ hO, hXK ▸ hno, .inl ⟨ha, q⟩⟩⟩
  rw [sizeLine_eq]
  omega
/-- what is known of an own error with a field -/
structure FldOk (P : Program) (w : World) (K : PySem.W.Frag) (mg : Str → Option Value) (base : Heap) (n : Nat) (f : Str) (C : Addr) : Prop where
  cls : OexC K C
  no : PySem.W.findIn K (.ref C) f = some none
  init : ∃ (fI : Addr) (fd : FuncData) (ps : List Str), PySem.W.findIn K (.ref C) "__init__" = some (some (.ref fI)) ∧ PySem.W.typeIn K (.ref fI) = some (.type "function") ∧ FnOk P w K mg base (L2.CX P w) n fI fd ps (spI K C f) ∧ Binds K fd ps []
section
variable {X : Cx} {B : Sx} {Z : List Nat} {L : Lib}
/-- raise C(e), C with a field -/
theorem snd_raisE {cn n : Nat} {x f : Str} {C : Addr} {p p3 pos : Pos} {e : Expr} {e' : E} (hK : X.K = B.K) (hc : X.calm = true) (tk : Takes X B.W) (F : FldOk X.prog X.w X.K X.mg X.base n f C) (hr : Room (n + 1) X.A) (gC : X.mg x = some (.ref C)) (hg : Gl X x)
    (hdb : (x == ("__debug__" : Str)) = false) (he : PE X e (rdE B L e')) (hs : starEach [e] X.env = (false, PySem.eval e X.env) :: starEach [] X.env)
    (hX : ∀ d v dx U H, FlV d v → H dx = some (.xd [(f, v)]) → B.XR ⟨cn, some (f, d)⟩ (.ref C) (some dx) U H) : PS X (.Raise (some (.Call (.Name x p) [e] [] p3)) none pos) (rdS B Z L (.raisE cn f e')) := by
  obtain ⟨fI, fd, ps, iC, tI, F1, hb⟩ := F.init
  refine (ps_raise hc tk (pmk_oex (dvs := []) (ds := []) F.cls iC tI F1 hr hb .nil (fun _ _ _ _ _ _ _ ⟨_, _, _, _, _, _, _, _, _, _, _, _, z⟩ => z.elim) hg gC (pa_cons he pa_nil hs) hdb hs rfl)).imp fun D σ H ⟨env, U, g, h⟩ => ?_
  simp only [exec] at h
  simp only [tMkO, tCons, tNil]
  refine ⟨env, U, g, (WpS.val g h).imp fun y env1 U1 H1 _ p1 h1 v vr => ⟨by simp, fun a ha => ?_⟩⟩
  obtain ⟨U2, _, p2, r2, h2⟩ := h1 v vr
  by_cases hf : fldOk y.1 = true
  case neg => rw [if_neg hf] at h2; exact h2.elim
  rw [if_pos hf] at h2
  have fv := flV_of hf r2
  refine ⟨a, v, y.1, rfl, F.cls, F.no, upd_same, fv, fun dx hn hne => ⟨rfl, dx, [(f, v)], upd_same, ?_, ?_, ?_⟩⟩
  · rw [upd_ne hne, upd_same]
  · rwa [upd_ne hne] at hn
  · have hn1 : H1 dx = none := by rwa [upd_ne hne] at hn
    have e1 : upd (del (upd (upd (upd H1 a (exo a C none)) dx (exd dx [(f, v)])) a (exo a C (some dx))) a) dx (.xd [(f, v)]) = upd H1 dx (.xd [(f, v)]) := by
      funext b
      by_cases hb : b = dx
      · rw [hb, upd_same, upd_same]
      · rw [upd_ne hb, upd_ne hb]
        by_cases hba : b = a
        · rw [hba, del_same, ha]
        · rw [del_ne hba, upd_ne hba, upd_ne hb, upd_ne hba]
    rw [e1]
    obtain ⟨p3, k3⟩ := Post.new (o := .xd [(f, v)]) p2.good hn1 (fun _ z => by cases z)
    exact h2 σ U2 _ (.ref C) (some dx) ⟨p3, fun _ _ => rfl⟩ (hX _ _ _ _ _ fv upd_same)
end
end Pi

set_option Elab.async false
set_option linter.all false
set_option maxRecDepth 100000
set_option maxHeartbeats 4000000
/-! PiM: try. -/
namespace Pi
open PySem PySem.Spec PyProof.Rows L2
variable [HasT]

/-- the error's name stands for the error -/
def At (n : Option Nat) (σ : Sg) (a : Addr) : Prop := ∀ i, n = some i → σ[i]? = some (some (.ref a))
/-- the field of an error stands in its dict -/
def XFd (x : Exc) (dd : Option Addr) (H : Hp) : Prop := ∀ f d, x.fld = some (f, d) → ∃ da v, dd = some da ∧ H da = some (.xd [(f, v)]) ∧ FlV d v
/-- in a suite: the value of an expression -/
def rdX (B : Sx) (L : Lib) (x : Exc) (n : Option Nat) (a : Addr) (dd : Option Addr) (e : XE) : TE := fun σ H Q => At n σ a ∧ XFd x dd H ∧ ∃ env U, Gd B.K B.F σ env U H ∧ ∃ d, evalX L x e = some d ∧
  ∀ v U' H', Post B.K B.F σ env U H σ env U' H' → Rep B.K U' H' v d → Q v H'
def rdXl (B : Sx) (L : Lib) (x : Exc) (n : Option Nat) (a : Addr) (dd : Option Addr) (es : List XE) : TA := fun σ H Q => At n σ a ∧ XFd x dd H ∧ ∃ env U, Gd B.K B.F σ env U H ∧ ∃ ds, evalXs L x es = some ds ∧
  ∀ vs U' H', Post B.K B.F σ env U H σ env U' H' → RepAll B.K U' H' vs ds → Q vs H'
def rdXs (B : Sx) (Z : List Nat) (L : Lib) (x : Exc) (n : Option Nat) (a : Addr) (dd : Option Addr) (s : List XS) : TS := fun D σ H => At n σ a ∧ XFd x dd H ∧ ∃ env U, Gd B.K B.F σ env U H ∧ WpS B Z σ env U H (execX L x s env) D
theorem XFd.mono {K F σ env U} {H : Hp} {σ' env' U'} {H' : Hp} {x : Exc} {dd : Option Addr} (g : Gd K F σ env U H) (p : Post K F σ env U H σ' env' U' H') (h : XFd x dd H) : XFd x dd H' := fun f d e => by
  obtain ⟨da, v, e1, e2, e3⟩ := h f d e
  refine ⟨da, v, e1, p.tr.keep _ _ e2 (fun z => ?_) (fun _ z => by cases z), e3⟩
  obtain ⟨_, xs, q⟩ := g.hO _ z
  rw [e2] at q; cases q
section
variable {X : Cx} {B : Sx} {Z : List Nat} {L : Lib} {x : Exc} {n : Option Nat} {a : Addr} {dd : Option Addr} {e : Expr} {e' : XE} {pos pos' : Pos} {σ : Sg} {env : Env} {U : Addr → Prop} {H : Hp} {D : Ends}
theorem rdX_same {d : Pi.D} {v : V} {Q : VK} (h : rdX B L x n a dd e' σ H Q) (e1 : evalX L x e' = some d) (r : ∀ U H, Rep B.K U H v d) : Q v H := by
  obtain ⟨_, _, env, U, g, d', e2, q⟩ := h
  rw [e1] at e2; cases e2
  exact q v U H (.refl g) (r U H)
theorem snd_xcon {d : Pi.D} {v : V} (h : PE X e (tC v)) (r : ∀ U H, Rep B.K U H v d) : PE X e (rdX B L x n a dd (.con d)) :=
  h.imp fun σ H Q q => rdX_same q (by simp only [evalX]) r
/-- isinstance(e, C) -/
theorem snd_xis {a0 : Addr} {DD Ca : Addr} {oe : Obj} {pn : List (Addr × Obj)} {i : Nat} {en cn : Str} {c : Nat} {p p2 p3 : Pos} (hfl : x.fld = none) (hn : n = some i) (hN : X.N[i]? = some en) (hv : Vis X.env.scope en) (hd : (en == ("__debug__" : Str)) = false) (hcd : (en == ("__classdict__" : Str)) = false)
    (hg : Gl X "isinstance") (hm : X.mg "isinstance" = none) (hg2 : Gl X cn) (hm2 : X.mg cn = some (.ref Ca)) (hd2 : (cn == ("__debug__" : Str)) = false)
    (C : ExcC X.K DD) (hz : Zc (.ref DD) none oe) (hf : ∃ vs, oe.data = .fields vs) (hk : PySem.W.kitOne X.K (.ref DD) (.ref Ca) = some (L.sub x.cls c)) :
    PE (X.suite a0 ((a0, oe) :: pn)) (.Call (.Name "isinstance" p) [.Name en p2, .Name cn p3] [] pos) (rdX B L x n a0 dd (.isin c)) := by
  refine (pe_callB (call_isE C hz hf) hg hm boot_isinstance (pa_cons (pe_var hN hv hd hcd) (pa_cons (pe_glob (v := .ref Ca) hg2 hm2 rfl hd2) pa_nil) rfl) (by decide) (by decide) rfl rfl).imp fun σ H Q h => ?_
  refine ⟨.ref a0, h.1 i hn, ?_⟩
  exact ⟨.ref Ca, .ref Ca, L.sub x.cls c, rfl, fun u r => r, hk, rdX_same h (by simp [evalX, hfl]) fun U H => .bl _⟩
/-- name = value -/
theorem snd_xasg {j : Nat} {y : Str} (hz : j ∈ Z) (hN : X.N.Nodup) (hi : X.N[j]? = some y) (hx : Loc X.env.scope y) (hf : X.fn y = true ∨ X.env.scope.names.lookup y = some .local) (he : PE X e (rdX B L x n a dd e')) (hs : swapsWith e (some (.Name y pos')) pos.line X.env = pure false) :
    PSs X [.Assign [.Name y pos'] e pos] (rdXs B Z L x n a dd [.asg j e']) := by
  refine (pss_one (ps_set hN hi hx he hs hf)).imp fun D σ H ⟨ht, hxf, env, U, g, h⟩ => ?_
  simp only [execX] at h
  refine ⟨ht, hxf, env, U, g, ?_⟩
  cases hd : evalX L x e' with
  | none => rw [hd] at h; exact h.elim
  | some d =>
    rw [hd] at h
    simp only at h
    split at h
    · rename_i hlt
      exact ⟨d, rfl, fun v U' H' p r => h _ U' H' ⟨p.trans g (Post.store p.good hlt r), set_fix hz⟩⟩
    · exact h.elim
/-! the whole statement -/
abbrev Sx.with (B : Sx) (W : WX) : Sx := { B with W := W }
/-- what a suite may lean on -/
def tsX (B : Sx) (Z : List Nat) (L : Lib) (n : Option Nat) (h : List XS) : Addr → Value → Option Addr → TS := fun a cls d D σ H => ∃ x, (∃ U, B.XR x cls d U H) ∧ rdXs B Z L x n a d h D σ H
theorem psX {ss : List Stmt} {h : List XS} {Y : Cx} {cls : Value} {d : Option Addr} (k : ∀ x, (∃ U H, B.XR x cls d U H) → PSs Y ss (rdXs B Z L x n a d h)) : PSs Y ss (tsX B Z L n h a cls d) :=
  ⟨fun pins s σ H D I ⟨x, ⟨U, r⟩, hw⟩ => (k x ⟨U, H, r⟩).run pins s σ H D I hw⟩
theorem WpS.with {W' : WX} {r : Res Fl} {f : Exc → Env → Res Fl} (h : WpS B Z σ env U H (match (generalizing := false) r with | .ex x e => f x e | r => r) D)
    (k : ∀ x env1 σ' U' H' c dx, PostS B Z σ env U H σ' env1 U' H' → B.XR x c dx U' H' → WpS B Z σ' env1 U' H' (f x env1) D → W' c dx σ' H') (g : Gd B.K B.F σ env U H) : WpS (B.with W') Z σ env U H r D := by
  cases r with
  | bad => exact h
  | ex x e =>
    intro σ' U' H' c dx p r
    exact k x e σ' U' H' c dx ⟨p.post, p.fix⟩ r (WpS.next g ⟨p.post, p.fix⟩ h)
  | ok f e =>
    cases f with
    | nx => exact fun σ' U' H' p => h σ' U' H' ⟨p.post, p.fix⟩
    | bk => exact fun σ' U' H' p => h σ' U' H' ⟨p.post, p.fix⟩
    | ct => exact fun σ' U' H' p => h σ' U' H' ⟨p.post, p.fix⟩
    | rt d fr => exact fun v σ' U' H' p => h v σ' U' H' ⟨p.post, p.fix⟩
theorem exec_tr {L : Lib} {b : List S} {hs : List (Nat × Option Nat × List XS)} {env : Env} : exec L (.tr b hs) env = (match (generalizing := false) execs L b env with | .ex x e => catchX L x hs e | r => r) := by
  simp only [exec] <;> (cases execs L b env <;> rfl)
/-- e.f -/
theorem snd_xfld {a0 C : Addr} {oe : Obj} {pn : List (Addr × Obj)} {i : Nat} {en f : Str} {p2 pos : Pos} (hn : n = some i) (hN : X.N[i]? = some en) (hv : Vis X.env.scope en) (hd : (en == ("__debug__" : Str)) = false) (hcd : (en == ("__classdict__" : Str)) = false)
    (T : ∀ d, x.fld = some (f, d) → XfC X.K C ∧ PySem.W.findIn X.K (.ref C) f = some none) (hz : Zc (.ref C) dd oe) (hf : ∃ vs, oe.data = .fields vs) (hb : attributeBase (.Name en p2) f X.env (PySem.eval (.Name en p2) X.env) = PySem.eval (.Name en p2) X.env) :
    PE (X.suite a0 ((a0, oe) :: pn)) (.Attribute (.Name en p2) f pos) (rdX B L x n a0 dd (.fld f)) := by
  refine ⟨fun pins s σ H Q I h => ?_⟩
  obtain ⟨ht, hx, env, U, g, d, e, q⟩ := h
  cases hfl : x.fld with
  | none => simp [evalX, hfl] at e
  | some fd =>
    obtain ⟨f', d'⟩ := fd
    simp only [evalX, hfl, Option.bind_some] at e
    split at e
    case isFalse => cases e
    rename_i hff
    have hff : f' = f := hff
    subst hff
    cases e
    obtain ⟨T1, T2⟩ := T d hfl
    obtain ⟨da, v, rfl, e2, e3⟩ := hx _ _ hfl
    refine (pe_xf (X := X) (a := a0) (C := C) (pos := pos) T1 T2 hz hf (pe_var (X := X.suite a0 ((a0, oe) :: pn)) (i := i) hN hv hd hcd) hb).run pins s σ H Q I ?_
    exact ⟨.ref a0, ht i hn, rfl, rfl, da, _, v, rfl, e2, by simp, q v U H (.refl g) (e3.rep U H)⟩
/-- several values -/
theorem snd_xnil : PA X [] (rdXl B L x n a dd []) := pa_nil.imp fun σ H Q ⟨_, _, env, U, g, ds, e, q⟩ => by
  simp only [evalXs] at e
  cases e
  exact q [] U H (.refl g) .nil
theorem snd_xcons {es : List Expr} {es' : List XE} (he : PE X e (rdX B L x n a dd e')) (hr : PA X es (rdXl B L x n a dd es')) (hs : starEach (e :: es) X.env = (false, PySem.eval e X.env) :: starEach es X.env) : PA X (e :: es) (rdXl B L x n a dd (e' :: es')) := by
  refine (pa_cons he hr hs).imp fun σ H Q ⟨ht, hx, env, U, g, ds, e, q⟩ => ?_
  simp only [evalXs] at e
  cases h1 : evalX L x e' with
  | none => rw [h1] at e; cases e
  | some d =>
    rw [h1] at e
    simp only [Option.bind_some] at e
    cases h2 : evalXs L x es' with
    | none => rw [h2] at e; cases e
    | some ds2 =>
      rw [h2] at e
      cases e
      exact ⟨ht, hx, env, U, g, d, h1, fun v U1 H1 p1 r1 => ⟨ht, hx.mono g p1, env, U1, p1.good, ds2, h2, fun vs U2 H2 p2 r2 => q _ U2 H2 (p1.trans g p2) (.cons (p2.rep p1.good r1) r2)⟩⟩
theorem xl_len {L : Lib} {x : Exc} : ∀ {es : List XE} {ds : List Pi.D}, evalXs L x es = some ds → ds.length = es.length
  | [], ds, e => by simp only [evalXs] at e; cases e; rfl
  | e' :: es, ds, e => by
    simp only [evalXs] at e
    cases h1 : evalX L x e' with
    | none => rw [h1] at e; cases e
    | some d =>
      rw [h1] at e
      simp only [Option.bind_some] at e
      cases h2 : evalXs L x es with
      | none => rw [h2] at e; cases e
      | some ds2 => rw [h2] at e; cases e; rw [List.length_cons, List.length_cons, xl_len h2]
theorem snd_xtup {es : List Expr} {es' : List XE} {k : Nat} (hl : es'.length ≤ 1000) (h : PA X es (rdXl B L x n a dd es')) : PE X (.Tuple es k pos) (rdX B L x n a dd (.tup es')) := by
  refine (pe_tup h).imp fun σ H Q ⟨ht, hx, env, U, g, d, e, q⟩ => ?_
  simp only [evalX] at e
  cases h2 : evalXs L x es' with
  | none => rw [h2] at e; cases e
  | some ds =>
    rw [h2] at e
    cases e
    refine ⟨ht, hx, env, U, g, ds, h2, fun vs U1 H1 p1 r1 => ⟨?_, fun p hp => ?_⟩⟩
    · rw [r1.length, xl_len h2]
      exact Nat.le_trans hl (Nat.le_trans (by decide) line100)
    · obtain ⟨p2, r2⟩ := new_tup p1.good hp r1
      exact q _ U1 _ (p1.trans g p2) r2
/-! several clauses, with names and without -/
/-- the slot is emptied behind the suite -/
def unD (D : Ends) (i : Nat) : Ends := { nx := fun σ' H' => D.nx (σ'.set i none) H', rt := D.rt, bk := fun σ' H' => D.bk (σ'.set i none) H', ct := fun σ' H' => D.ct (σ'.set i none) H' }
def wMix (K : PySem.W.Frag) (Wout : WX) (D : Ends) : List (Value × Option Nat × (Addr → Value → Option Addr → TS)) → WX
  | [] => Wout
  | (c, o, ts) :: r => fun cls d σ H => ∃ b, PySem.W.exmOne K cls c = some b ∧ (b = true → ∀ a, H a = none → match o with
      | none => ts a cls d D σ H
      | some i => ts a cls d (unD D i) (σ.set i (some (.ref a))) H) ∧ (b = false → wMix K Wout D r cls d σ H)
inductive HdsMix (X : Cx) : List ExceptHandler → List (Value × Option Nat × (Addr → Value → Option Addr → TS)) → Prop
  | nil : HdsMix X [] []
  | cons {x : Str} {c : Value} {ts : Addr → Value → Option Addr → TS} {b₀ : Stmt} {suite : List Stmt} {np pos' : Pos} {hds : List ExceptHandler} {l : List (Value × Option Nat × (Addr → Value → Option Addr → TS))} (hc : Names X x c)
      (hsu : ∀ (a : Addr) (oe : Obj) (cls : Value) (d : Option Addr) (pn : List (Addr × Obj)), Zc cls d oe → (∃ vs, oe.data = .fields vs) → PSs (X.suite a ((a, oe) :: pn)) (b₀ :: suite) (ts a cls d)) (r : HdsMix X hds l) :
      HdsMix X (.ExceptHandler (some (.Name x np)) none (b₀ :: suite) pos' :: hds) ((c, none, ts) :: l)
  | named {x en : Str} {c : Value} {i : Nat} {ts : Addr → Value → Option Addr → TS} {b₀ : Stmt} {suite : List Stmt} {np pos' : Pos} {hds : List ExceptHandler} {l : List (Value × Option Nat × (Addr → Value → Option Addr → TS))} (hc : Names X x c) (hi : X.N[i]? = some en) (hln : X.env.kindOf en = some .local)
      (hsu : ∀ (a : Addr) (oe : Obj) (cls : Value) (d : Option Addr) (pn : List (Addr × Obj)), Zc cls d oe → (∃ vs, oe.data = .fields vs) → PSs (X.suite a ((a, oe) :: pn)) (b₀ :: suite) (ts a cls d)) (r : HdsMix X hds l) :
      HdsMix X (.ExceptHandler (some (.Name x np)) (some en) (b₀ :: suite) pos' :: hds) ((c, some i, ts) :: l)
theorem ps_try_mix {body : List Stmt} {h₀ : ExceptHandler} {hds : List ExceptHandler} {l : List (Value × Option Nat × (Addr → Value → Option Addr → TS))} {tb : WX → TS} {Wout : WX} (hs : X.stack = X.env :: X.outer) (hf : X.env.frame = some X.env.locals) (hN : X.N.Nodup) (tk : Takes X Wout)
    (hb : ∀ (W : WX) (pn : List (Addr × Obj)) (xe : Value → Shared → Prop), Takes (X.tr pn xe) W → PassesOwn (model X.prog X.w) X.A X.env xe → PSs (X.tr pn xe) body (tb W))
    (hh : HdsMix X (h₀ :: hds) l) : PS X (.Try body (h₀ :: hds) [] [] pos) (fun D σ H => tb (wMix X.K Wout D l) D σ H) := by
  refine ⟨fun pins s σ H D I h => ?_⟩
  have ok := I.ok
  have hfr : X.A.frames = some (X.env :: X.outer) := by rw [ok.frames, hs]
  refine wpAny_Try_except ?_
  refine wpAny_mono ((hb (wMix X.K Wout D l) (X.pn ++ pins) (fun e s₁ => wpAny (model X.prog X.w) X.A (noteFrame e X.env) (fun _ s₂ => wpAny (model X.prog X.w) X.A (setFlight e none) (fun _ s₃ =>
    wpAny (model X.prog X.w) X.A (handleBy e X.env (h₀ :: hds)) (SP X pins D) X.xe s₃) X.xe s₂) X.xe s₁) (fun u s' xx => ?_) PassesOwn.looking).run [] s σ H D (I.toTry _) h) (fun f s1 hsp => ?_) (fun e s1 he => he)
  · obtain ⟨a, Bh, sI, pins', σ', H', cls, d, rfl, J', nb, up, sky, na, os, ag, w⟩ := xx
    have J : Inv X pins σ' H' sI := J'.ofTry ok
    have sky' : Sky Bh (X.env :: X.outer) a (Zc cls d) X.env.locals s'.heap := by rw [← hs]; exact sky
    show wpAny (model X.prog X.w) X.A (noteFrame (.ref a) X.env) _ _ _
    refine Sky.land Zc.steady hfr hf sky' fun h3 fl3 up3 => ?_
    have J3 : Inv X pins σ' H' { s' with heap := h3 } := J.landed nb fl3.1 (up.trans up3) os ag
    obtain ⟨oe3, vs3, he3, hz3, hd3⟩ := fl3.there
    have nfr : a ∉ frs (X.env :: X.outer) := fun hm => by
      obtain ⟨_, o', e', hnf⟩ := fl3.2.2.1.mem hm
      rw [he3] at e'; cases e'
      exact hnf _ hd3
    have nL : a ≠ X.env.locals := fun z => nfr (List.mem_filterMap.mpr ⟨X.env, List.mem_cons_self, by rw [hf, z]⟩)
    have nF : a ∉ X.fs := fun hm => by
      obtain ⟨e, he, q⟩ := List.mem_filterMap.mp hm
      exact nfr (List.mem_filterMap.mpr ⟨e, List.mem_cons_of_mem _ he, q⟩)
    have S3 := J3.suite he3 hd3 na nL nF
    have LT : PySem.W.Looks (model X.prog X.w) h3 (typeOf (.ref a)) cls := fun A Q E s k q => wpAny_typeOf_ref (k _ _ he3) (by rw [hz3.1]; exact q)
    have test : ∀ {x : Str} {c : Value} {np : Pos} {Q : Value → Shared → Prop} {E : Value → Shared → Prop}, Names X x c → Q c { s' with heap := h3 } → wpAny (model X.prog X.w) (X.A.mark (some (.ref a))) (PySem.eval (.Name x np) X.env) Q E { s' with heap := h3 } := fun {x c np Q E} hc q => by
      obtain ⟨hg, hdbg, hm | ⟨hm, hv, hnn⟩⟩ := hc
      · exact ld_glob (X := X.suite a ((a, oe3) :: (X.pn ++ pins))) S3 hg hm q hdbg
      · exact ld_blt (X := X.suite a ((a, oe3) :: (X.pn ++ pins))) S3 hg hm hv q hnn hdbg
    have go : ∀ {hds' : List ExceptHandler} {l' : List (Value × Option Nat × (Addr → Value → Option Addr → TS))}, HdsMix X hds' l' → wMix X.K Wout D l' cls d σ' H' →
        wpAny (model X.prog X.w) X.A (handleBy (.ref a) X.env hds') (SP X pins D) X.xe { s' with heap := h3 } := by
      intro hds' l' hk
      induction hk with
      | nil =>
        intro w
        refine wpAny_handleBy_nil ?_
        obtain ⟨k1, k2, k3, oe, vs, T, oT, ts', he, hz, hd, h1, hr⟩ := id fl3
        unfold PySem.passOn
        refine wpAny_bind (wpAny_field he hd h1 ?_)
        rw [if_neg (show ¬ ((Value.ref T == Value.none) = true) from by simp)]
        have fin : wpAny (model X.prog X.w) X.A (setFlight (.ref a) X.env.frame) (fun _ s4 => wpAny (model X.prog X.w) X.A (throw (.ref a) : Sem Flow) (SP X pins D) X.xe s4) X.xe { s' with heap := h3 } := by
          rw [hf]
          refine HandSPX.setFlight_upZ fl3 fun h4 hh4 up4 => wpAny_throw (tk _ _ ?_)
          exact ⟨a, Bh, sI, pins, σ', H', cls, d, rfl, J, nb, (up.trans up3).trans up4, .inr (.inr (by rw [hs]; exact hh4)), na, os, ag, w⟩
        first
          | exact wpAny_bind (wpAny_pure (wpAny_bind fin))
          | exact wpAny_bind fin
      | @cons x c ts b₀ suite np pos' hds2 l2 hc hsu r ih =>
        intro w
        obtain ⟨b, hb1, hyes, hno⟩ := w
        refine wpAny_handleBy_cons (codeAny_handlers_test ?_) (by intro q; cases q)
        refine test hc ((PySem.W.exm_one (M := model X.prog X.w) (J3.kIn) LT hb1).here ?_)
        cases b with
        | true =>
          refine codeAny_handlers_suite ?_
          refine HandSPX.lands_againZ fl3 fun h4 fl4 up4 => ?_
          have J4 : Inv X pins σ' H' { s' with heap := h4 } := J.landed nb fl4.1 ((up.trans up3).trans up4) os ag
          obtain ⟨oe4, vs4, he4, hz4, hd4⟩ := fl4.there
          have S4 := J4.suite he4 hd4 na nL nF
          refine wpAny_mono ((hsu a oe4 cls d (X.pn ++ pins) hz4 ⟨_, hd4⟩).run [] _ _ H' _ S4 (hyes rfl a na)) (fun f s6 hsp => ?_) (fun _ _ z => False.elim z)
          cases f with
          | next => obtain ⟨σ6, H6, S6, q6⟩ := hsp; exact ⟨_, _, S6.unsuite ok, q6⟩
          | brk => obtain ⟨σ6, H6, S6, q6⟩ := hsp; exact ⟨_, _, S6.unsuite ok, q6⟩
          | cont => obtain ⟨σ6, H6, S6, q6⟩ := hsp; exact ⟨_, _, S6.unsuite ok, q6⟩
          | ret u => obtain ⟨v6, σ6, H6, S6, r6, q6⟩ := hsp; exact ⟨_, _, _, S6.unsuite ok, r6, q6⟩
        | false =>
          show wpAny _ X.A (handleBy (.ref a) X.env hds2) _ _ _
          exact ih (hno rfl)
      | @named x en c i ts b₀ suite np pos' hds2 l2 hc hi hln hsu r ih =>
        intro w
        obtain ⟨b, hb1, hyes, hno⟩ := w
        refine wpAny_handleBy_cons (codeAny_handlers_test ?_) (by intro q; cases q)
        refine test hc ((PySem.W.exm_one (M := model X.prog X.w) (J3.kIn) LT hb1).here ?_)
        cases b with
        | true =>
          refine codeAny_handlers_suite_as ?_
          refine HandSPX.lands_againZ fl3 fun h4 fl4 up4 => ?_
          have J4 : Inv X pins σ' H' { s' with heap := h4 } := J.landed nb fl4.1 ((up.trans up3).trans up4) os ag
          obtain ⟨oe4, vs4, he4, hz4, hd4⟩ := fl4.there
          have S4 := J4.suite he4 hd4 na nL nF
          refine store_ok (X := X.suite a ((a, oe4) :: (X.pn ++ pins))) (v := .ref a) S4 hN hi (.inl hln) rfl (fun s5 S5 => ?_) (.inr hln)
          refine wpAny_mono ((hsu a oe4 cls d (X.pn ++ pins) hz4 ⟨_, hd4⟩).run [] s5 _ H' _ S5 (hyes rfl a na)) (fun f s6 hsp => ?_) (fun _ _ z => False.elim z)
          have end_ : ∀ {σ6 : L2.St} {H6 : Hp} {Q : Shared → Prop}, Inv (X.suite a ((a, oe4) :: (X.pn ++ pins))) [] σ6 H6 s6 → (∀ s7, Inv X pins (σ6.set i none) H6 s7 → Q s7) →
              wpAny (model X.prog X.w) X.A (do bindName X.env en .none; unbindBehindTheSuite X.env en pos') (fun _ s7 => Q s7) X.xe s6 := fun {σ6 H6 Q} S6 hq => gone_ok (S6.unsuite ok) hN hi hln hq
          cases f with
          | next => obtain ⟨σ6, H6, S6, q6⟩ := hsp; exact end_ S6 fun s7 J7 => ⟨_, _, J7, q6⟩
          | brk => obtain ⟨σ6, H6, S6, q6⟩ := hsp; exact end_ S6 fun s7 J7 => ⟨_, _, J7, q6⟩
          | cont => obtain ⟨σ6, H6, S6, q6⟩ := hsp; exact end_ S6 fun s7 J7 => ⟨_, _, J7, q6⟩
          | ret u => obtain ⟨v6, σ6, H6, S6, r6, q6⟩ := hsp; exact end_ S6 fun s7 J7 => ⟨_, _, _, J7, r6, q6⟩
        | false =>
          show wpAny _ X.A (handleBy (.ref a) X.env hds2) _ _ _
          exact ih (hno rfl)
    exact go hh w
  · cases f with
    | next => obtain ⟨σ', H', J', q⟩ := hsp; exact wpAny_execs_nil ⟨σ', H', J'.ofTry ok, q⟩
    | brk => obtain ⟨σ', H', J', q⟩ := hsp; exact ⟨σ', H', J'.ofTry ok, q⟩
    | cont => obtain ⟨σ', H', J', q⟩ := hsp; exact ⟨σ', H', J'.ofTry ok, q⟩
    | ret u => obtain ⟨v, σ', H', J', r, q⟩ := hsp; exact ⟨v, σ', H', J'.ofTry ok, r, q⟩
/-- the clauses and what the interpreter has of them -/
inductive Hds (X : Cx) (B : Sx) (Z : List Nat) (L : Lib) : List ExceptHandler → List (Nat × Option Nat × List XS) → List (Value × Option Nat × (Addr → Value → Option Addr → TS)) → Prop
  | nil : Hds X B Z L [] [] []
  | cons {cn : Str} {c : Value} {cx : Nat} {b₀ : Stmt} {suite : List Stmt} {h : List XS} {np pos' : Pos} {hds : List ExceptHandler} {hs : List (Nat × Option Nat × List XS)} {l : List (Value × Option Nat × (Addr → Value → Option Addr → TS))} (hc : Names X cn c)
      (hex : ∀ x cls dx U H, B.XR x cls dx U H → PySem.W.exmOne X.K cls c = some (L.sub x.cls cx))
      (hsu : ∀ (a : Addr) (oe : Obj) (cls : Value) (d : Option Addr) (pn : List (Addr × Obj)), Zc cls d oe → (∃ vs, oe.data = .fields vs) → ∀ x, (∃ U H, B.XR x cls d U H) → PSs (X.suite a ((a, oe) :: pn)) (b₀ :: suite) (rdXs B Z L x none a d h))
      (t : Hds X B Z L hds hs l) : Hds X B Z L (.ExceptHandler (some (.Name cn np)) none (b₀ :: suite) pos' :: hds) ((cx, none, h) :: hs) ((c, none, tsX B Z L none h) :: l)
  | named {cn en : Str} {c : Value} {cx i : Nat} {b₀ : Stmt} {suite : List Stmt} {h : List XS} {np pos' : Pos} {hds : List ExceptHandler} {hs : List (Nat × Option Nat × List XS)} {l : List (Value × Option Nat × (Addr → Value → Option Addr → TS))} (hc : Names X cn c) (hiZ : i ∈ Z) (hi : X.N[i]? = some en) (hln : X.env.kindOf en = some .local)
      (hex : ∀ x cls dx U H, B.XR x cls dx U H → PySem.W.exmOne X.K cls c = some (L.sub x.cls cx))
      (hsu : ∀ (a : Addr) (oe : Obj) (cls : Value) (d : Option Addr) (pn : List (Addr × Obj)), Zc cls d oe → (∃ vs, oe.data = .fields vs) → ∀ x, (∃ U H, B.XR x cls d U H) → PSs (X.suite a ((a, oe) :: pn)) (b₀ :: suite) (rdXs B Z L x (some i) a d h))
      (t : Hds X B Z L hds hs l) : Hds X B Z L (.ExceptHandler (some (.Name cn np)) (some en) (b₀ :: suite) pos' :: hds) ((cx, some i, h) :: hs) ((c, some i, tsX B Z L (some i) h) :: l)
theorem Hds.ok : ∀ {hds : List ExceptHandler} {hs : List (Nat × Option Nat × List XS)} {l : List (Value × Option Nat × (Addr → Value → Option Addr → TS))}, Hds X B Z L hds hs l → HdsMix X hds l
  | _, _, _, .nil => .nil
  | _, _, _, .cons hc _ hsu t => .cons hc (fun a oe cls d pn hz hd => psX fun x r => hsu a oe cls d pn hz hd x r) t.ok
  | _, _, _, .named hc _ hi hln _ hsu t => .named hc hi hln (fun a oe cls d pn hz hd => psX fun x r => hsu a oe cls d pn hz hd x r) t.ok
/-- a suite with the error's name -/
theorem named_suite {D : Ends} {i : Nat} {x : Exc} {env1 : Env} {σ' : Sg} {U' : Addr → Prop} {H' : Hp} {a : Addr} {h : List XS} (hiZ : i ∈ Z) (g : Gd B.K B.F σ' env1 U' H')
    (w1 : WpS B Z σ' env1 U' H' (if i < env1.length then (execX L x h (env1.set i .no)).bind fun f env2 => .ok f (env2.set i .no) else .bad) D) :
    i < env1.length ∧ WpS B Z (σ'.set i (some (.ref a))) (env1.set i .no) U' H' (execX L x h (env1.set i .no)) (unD D i) := by
  split at w1
  · rename_i hlt
    refine ⟨hlt, ?_⟩
    have p1 : PostS B Z σ' env1 U' H' (σ'.set i (some (.ref a))) (env1.set i .no) U' H' := ⟨Post.setNo g, set_fix hiZ⟩
    have w3 := WpS.next g p1 w1
    have fin : ∀ {σ2 env2 U2 H2}, PostS B Z (σ'.set i (some (.ref a))) (env1.set i .no) U' H' σ2 env2 U2 H2 → PostS B Z (σ'.set i (some (.ref a))) (env1.set i .no) U' H' (σ2.set i none) (env2.set i .no) U2 H2 :=
      fun {σ2 env2 U2 H2} q => q.trans p1.post.good ⟨Post.setNo q.post.good, set_fix hiZ⟩
    generalize hr : execX L x h (env1.set i .no) = r at w3
    cases r with
    | bad => exact w3
    | ex y e2 => exact w3
    | ok f e2 =>
      simp only [Res.bind_ok] at w3
      cases f with
      | nx => exact fun σ2 U2 H2 q => w3 _ _ _ (fin q)
      | bk => exact fun σ2 U2 H2 q => w3 _ _ _ (fin q)
      | ct => exact fun σ2 U2 H2 q => w3 _ _ _ (fin q)
      | rt d fr => exact fun v σ2 U2 H2 q rv => w3 v _ _ _ (fin q) rv
  · exact w1.elim
theorem Hds.wm (hxf : ∀ x cls dx U H, B.XR x cls dx U H → XFd x dx H) {D : Ends} : ∀ {hds : List ExceptHandler} {hs : List (Nat × Option Nat × List XS)} {l : List (Value × Option Nat × (Addr → Value → Option Addr → TS))}, Hds X B Z L hds hs l → ∀ {x : Exc} {env : Env} {σ : Sg} {U : Addr → Prop} {H : Hp} {cls : Value} {dx : Option Addr},
    Gd B.K B.F σ env U H → B.XR x cls dx U H → WpS B Z σ env U H (catchX L x hs env) D → wMix X.K B.W D l cls dx σ H
  | _, _, _, .nil, x, env, σ, U, H, cls, dx, g, r, w => by
    simp only [catchX] at w
    exact w σ U H cls dx (.refl g) r
  | _, _, _, .cons (cx := cx) (h := h) _ hex _ t, x, env, σ, U, H, cls, dx, g, r, w => by
    simp only [catchX] at w
    refine ⟨_, hex x cls dx U H r, fun hb a na => ?_, fun hb => ?_⟩
    · rw [hb] at w
      exact ⟨x, ⟨U, r⟩, ⟨(fun j hj => nomatch hj), hxf _ _ _ _ _ r, env, U, g, w⟩⟩
    · rw [hb] at w
      simp only [Bool.false_eq_true, if_false] at w
      exact t.wm hxf g r w
  | _, _, _, .named (cx := cx) (i := i) (h := h) _ hiZ _ _ hex _ t, x, env, σ, U, H, cls, dx, g, r, w => by
    simp only [catchX] at w
    refine ⟨_, hex x cls dx U H r, fun hb a na => ?_, fun hb => ?_⟩
    · rw [hb] at w
      simp only [if_true] at w
      obtain ⟨hlt, w2⟩ := named_suite (a := a) hiZ g w
      refine ⟨x, ⟨U, r⟩, fun j hj => ?_, hxf _ _ _ _ _ r, env.set i .no, U, (Post.setNo (i := i) (o := some (.ref a)) g).good, w2⟩
      cases hj
      rw [List.getElem?_set_self]
      rw [← g.len]; exact hlt
    · rw [hb] at w
      simp only [Bool.false_eq_true, if_false] at w
      exact t.wm hxf g r w
theorem snd_try_mix {body : List Stmt} {body' : List S} {h₀ : ExceptHandler} {hds : List ExceptHandler} {hs' : List (Nat × Option Nat × List XS)} {l : List (Value × Option Nat × (Addr → Value → Option Addr → TS))} (hs : X.stack = X.env :: X.outer) (hf : X.env.frame = some X.env.locals) (hN : X.N.Nodup)
    (tk : Takes X B.W) (hxf : ∀ x cls dx U H, B.XR x cls dx U H → XFd x dx H)
    (hb : ∀ (W : WX) (pn : List (Addr × Obj)) (xe : Value → Shared → Prop), Takes (X.tr pn xe) W → PassesOwn (model X.prog X.w) X.A X.env xe → PSs (X.tr pn xe) body (rdSs (B.with W) Z L body'))
    (hh : Hds X B Z L (h₀ :: hds) hs' l) : PS X (.Try body (h₀ :: hds) [] [] pos) (rdS B Z L (.tr body' hs')) := by
  refine (ps_try_mix (tb := fun W => rdSs (B.with W) Z L body') hs hf hN tk hb hh.ok).imp fun D σ H ⟨env, U, g, w⟩ => ?_
  rw [exec_tr] at w
  exact ⟨env, U, g, WpS.with w (fun x env1 σ' U' H' cls dx p r w1 => hh.wm hxf p.post.good r w1) g⟩
end
end Pi

set_option Elab.async false
set_option linter.all false
set_option maxRecDepth 100000
set_option maxHeartbeats 4000000
/-! PiN: defs. -/
namespace Pi
open PySem PySem.Spec PyProof.Rows L2
variable [HasT]

theorem borOk_get : ∀ {as : List Sl} {bs : List Bool} {i : Nat} {l : Bool} {d : D}, borOk as bs = true → as[i]? = some (.ow l d) → bs[i]? = some true
  | [], _, _, _, _, _, e => by simp at e
  | .ow l d :: r, [], i, _, _, h, _ => by simp [borOk] at h
  | .ow l d :: r, b :: bs, 0, _, _, h, _ => by
    simp only [borOk, Bool.and_eq_true] at h
    simp [h.1]
  | .ow l d :: r, b :: bs, i + 1, _, _, h, e => by
    simp only [borOk, Bool.and_eq_true] at h
    simp only [List.getElem?_cons_succ] at e ⊢
    exact borOk_get h.2 e
  | .sh d :: r, bs, 0, _, _, h, e => by simp at e
  | .no :: r, bs, 0, _, _, h, e => by simp at e
  | .sh d :: r, bs, i + 1, _, _, h, e => by
    simp only [borOk] at h
    simp only [List.getElem?_cons_succ] at e
    have := borOk_get h e
    cases bs with
    | nil => simp at this
    | cons b bs => simpa using this
  | .no :: r, bs, i + 1, _, _, h, e => by
    simp only [borOk] at h
    simp only [List.getElem?_cons_succ] at e
    have := borOk_get h e
    cases bs with
    | nil => simp at this
    | cons b bs => simpa using this
section
variable {K : PySem.W.Frag} {U : Addr → Prop} {H : Hp} {vs : List V} {as : List Sl} {m : Nat}
theorem get_pad {i : Nat} {s : Sl} (h : (as ++ List.replicate m Sl.no)[i]? = some s) (n : s ≠ .no) : as[i]? = some s := by
  rw [List.getElem?_append] at h
  split at h
  · exact h
  · rw [List.getElem?_replicate] at h
    split at h
    · cases h; exact absurd rfl n
    · cases h
theorem sg_pad {i : Nat} {v : V} (h : (sgOf vs)[i]? = some (some v)) : (sgOf vs ++ List.replicate m (none : Option V))[i]? = some (some v) := by
  rw [List.getElem?_append_left (List.getElem?_eq_some_iff.mp h).1]
  exact h
theorem sg_pad' {i : Nat} {v : V} (h : (sgOf vs ++ List.replicate m (none : Option V))[i]? = some (some v)) : (sgOf vs)[i]? = some (some v) := by
  rw [List.getElem?_append] at h
  split at h
  · exact h
  · rw [List.getElem?_replicate] at h
    split at h <;> cases h
theorem own_pad {b : Addr} : Own (sgOf vs ++ List.replicate m none) (as ++ List.replicate m .no) b ↔ Own (sgOf vs) as b := by
  constructor
  · rintro ⟨i, l, d, e, s⟩
    exact ⟨i, l, d, get_pad e (by simp), sg_pad' s⟩
  · rintro ⟨i, l, d, e, s⟩
    refine ⟨i, l, d, ?_, sg_pad s⟩
    rw [List.getElem?_append_left (List.getElem?_eq_some_iff.mp e).1]
    exact e
theorem gd_start (A : ArgsOk K U H vs as) : Gd K (fun b => H b = none) (sgOf vs ++ List.replicate m none) (as ++ List.replicate m .no) U H := by
  have g := A.good
  refine ⟨by simp [g.len], fun i d e => ?_, fun i l d e => ?_, fun i j l l' d d' a e e' s s' => ?_, g.live, fun _ h => h, g.tab⟩
  · obtain ⟨v, e1, r⟩ := g.sh i d (get_pad e (by simp))
    exact ⟨v, sg_pad e1, r⟩
  · have e := get_pad e (by simp)
    obtain ⟨a, e1, u, o, _⟩ := g.ow i l d e
    exact ⟨a, sg_pad e1, u, o, fun h => by rw [A.fl i l d e] at h; cases h⟩
  · exact g.inj i j l l' d d' a (get_pad e (by simp)) (get_pad e' (by simp)) (sg_pad' s) (sg_pad' s')
end
def fnB (K : PySem.W.Frag) (H : Hp) (E : XK) (XR : XRt) : Sx := ⟨K, fun b => H b = none, fun cls d _ H' => E cls d H', XR⟩
/-- the code object of a def -/
def CodeOf (K : PySem.W.Frag) (fa : Addr) (cdv : Value) : Prop := ∃ (oc : Value) (od : Option Addr) (fd : FuncData) (osl : Array (Option Value)), K.lookup fa = some ⟨oc, od, .func fd, osl⟩ ∧ fd.code = cdv
theorem fn_ok {P : Program} {w : World} {K : PySem.W.Frag} {mg : Str → Option Value} {base : Heap} {x qual : Str} {prm : Arguments} {body : List Stmt} {scope : Scope} {dvs : List V} {kws : List (Str × V)} {fa : Addr} {fd : FuncData} {N ps : List Str} {k n f : Nat} {fn : Fn} {Z : List Nat} {G : Pg} {XR : XRt}
    (F : FunD K x qual prm body scope dvs kws fa fd) (S : FnScope N ps scope) (hf : G.G[f]? = some fn) (hnp : fn.np = ps.length) (hnl : fn.nl = N.length) (hle : ps.length ≤ N.length) (hbor : ∀ i, fn.bor[i]? = some true → i ∉ Z)
    (hbody : ∀ (cdv : Value), CodeOf K fa cdv → ∀ (A : Around) (outer : List PySem.Env) (s : Shared) (H : Hp) (E : XK), Room k (A.deeper (envOfC qual scope s.heap.objs.size fa cdv)) →
      PSs (cxOf (L2.CX P w) P w K mg base N qual scope fa cdv A outer s H E) body (rdSs (fnB K H E XR) Z (G.lib (callF G n)) fn.body)) :
    FnOk P w K mg base (L2.CX P w) (k + 1) fa fd ps (spF K XR ps.length (callF G (n + 1) f)) := by
  obtain ⟨oc, od, dV, kV, doc, pm, an, cdv, ct, osl, rfl, lk, hcd, _, _⟩ := F.ex
  refine fn_of lk hcd S (fun vs H Q E ⟨as, U, h, _⟩ => h) fun A outer s H vs Q E hr ⟨as, U, hl, hal, A0, h⟩ => ⟨_, hbody cdv ⟨_, _, _, _, lk, rfl⟩ A outer s H E hr, ?_⟩
  simp only [callF, hf] at h
  by_cases hb : borOk as fn.bor = true
  case neg => rw [if_neg (fun z => hb z.2)] at h; exact h.elim
  rw [if_pos ⟨by rw [hal, hnp], hb⟩] at h
  have hlen : as.length = vs.length := by rw [hal, hl]
  have hm : fn.nl - fn.np = N.length - vs.length := by rw [hnl, hnp, hl]
  rw [hm] at h
  have hst : start N vs = sgOf vs ++ List.replicate (N.length - vs.length) none := rfl
  have g : Gd K (fun b => H b = none) (start N vs) (as ++ List.replicate (N.length - vs.length) .no) U H := by rw [hst]; exact gd_start A0
  refine ⟨_, U, g, ?_⟩
  have elen : (as ++ List.replicate (N.length - vs.length) Sl.no).length = N.length := by simp; omega
  -- what a way out has kept
  have tr : ∀ {σ' : Sg} {env' : Env} {U' : Addr → Prop} {H' : Hp}, PostS (fnB K H E XR) Z (start N vs) (as ++ List.replicate (N.length - vs.length) .no) U H σ' env' U' H' → Tr (Own (sgOf vs) as) U H U' H' := fun {σ' env' U' H'} p => by
    have e : Own (start N vs) (as ++ List.replicate (N.length - vs.length) Sl.no) = Own (sgOf vs) as := by
      funext b
      exact propext (by rw [hst]; exact own_pad)
    have := p.post.tr
    rw [e] at this
    exact this
  have cp : ∀ {σ' : Sg} {env' : Env} {U' : Addr → Prop} {H' : Hp}, PostS (fnB K H E XR) Z (start N vs) (as ++ List.replicate (N.length - vs.length) .no) U H σ' env' U' H' → fn.np ≤ env'.length → CPost K U H vs as (env'.take fn.np) U' H' := fun {σ' env' U' H'} p hle2 => by
    have fixed : ∀ (i : Nat) (l : Bool) (d : Pi.D), as[i]? = some (.ow l d) → σ'[i]? = (sgOf vs)[i]? := fun i l d e => by
      rw [p.fix i (hbor i (borOk_get hb e)), hst, List.getElem?_append_left]
      have := (List.getElem?_eq_some_iff.mp e).1
      rw [List.length_map]; omega
    have inn : ∀ {i : Nat} {s0 : Sl}, (env'.take fn.np)[i]? = some s0 → env'[i]? = some s0 := fun {i s0} e => by
      rw [List.getElem?_take] at e
      split at e
      · exact e
      · cases e
    refine ⟨tr p, p.post.good.live, fun i l l' d d' e e' => ?_, fun i l d d' e e' => ?_, ?_⟩
    · obtain ⟨a, e1, u, o, _⟩ := p.post.good.ow i l' d' (inn e')
      rw [fixed i l d e] at e1
      exact ⟨a, sg_get.mp e1, u, o⟩
    · obtain ⟨v, e1, r⟩ := p.post.good.sh i d' (inn e')
      rw [fixed i l d e] at e1
      exact ⟨v, sg_get.mp e1, r⟩
    · rw [List.length_take, hal, hnp]; omega
  cases hr : execs (G.lib (callF G n)) fn.body (as ++ List.replicate (N.length - vs.length) .no) with
  | bad => rw [hr] at h; exact h
  | ex y e =>
    rw [hr] at h
    exact fun σ' U' H' c dx p r => h c dx U' H' (tr p) p.post.good.live r
  | ok fl e =>
    rw [hr] at h
    cases fl with
    | nx =>
      intro σ' U' H' p
      simp only [outF] at h
      by_cases hle2 : fn.np ≤ e.length
      · rw [if_pos hle2] at h
        exact h .non U' H' (cp p hle2) .non
      · rw [if_neg hle2] at h
        exact h.elim
    | bk => exact h.elim
    | ct => exact h.elim
    | rt d fr =>
      intro v σ' U' H' p r
      simp only [outF] at h
      by_cases hle2 : fn.np ≤ e.length
      case neg => rw [if_neg hle2] at h; exact h.elim
      rw [if_pos hle2] at h
      refine h v U' H' (cp p hle2) ?_
      cases fr with
      | false => exact r
      | true =>
        obtain ⟨a, e1, u, o, f⟩ := r
        exact ⟨a, e1, u, o, f⟩
end Pi

set_option Elab.async false
set_option linter.all false
set_option maxRecDepth 100000
set_option maxHeartbeats 4000000
/-! PiO: from the text's trees to the interpreter's: expressions. -/
namespace Pi
open PySem PySem.Spec PyProof.Rows L2
variable [HasT]

/-- what a text's names stand for: defs (with the ways they are called), built-ins that nothing hides, own errors, constants -/
structure Tab where
  fns : List (Str × Nat × List (Nat × List Str × List Nat))
  blt : List Str
  cls : List (Str × Nat)
  con : List (Str × Nat)
  gcd : Bool
  dic : List (Str × Nat)
  lcm : Bool := false
  lam : Option Str := none
  fld : List (Str × Nat × Str) := []
  chg : List Nat := []
structure CG where
  T : Tab
  N : List Str
  Z : List Nat
  lam : Bool := false
def glB (sc : Scope) (x : Str) : Bool := match sc.names.lookup x with | some .globalImplicit => true | _ => false
def visB (sc : Scope) (x : Str) : Bool := match sc.names.lookup x with | some .local => true | some .cell => true | some .free => true | _ => false
def locB (sc : Scope) (x : Str) : Bool := match sc.names.lookup x with | some .local => true | some .cell => true | _ => false
def okN (x : Str) : Bool := !(x == ("__debug__" : Str)) && !(x == ("__classdict__" : Str))
def idxN (N : List Str) (x : Str) : Option Nat := (N.findIdx? fun y => decide (y = x)).bind fun i => if N[i]? = some x then some i else none
theorem idxN_ok {N : List Str} {x : Str} {i : Nat} (h : idxN N x = some i) : N[i]? = some x := by
  unfold idxN at h
  cases hf : N.findIdx? (fun y => decide (y = x)) with
  | none => rw [hf] at h; cases h
  | some j =>
    rw [hf] at h
    simp only [Option.bind_some] at h
    split at h
    · cases h; assumption
    · cases h
theorem visB_ok {sc : Scope} {x : Str} (h : visB sc x = true) : Vis sc x := by
  unfold visB at h
  split at h
  · exact .inl ‹_›
  · exact .inr (.inl ‹_›)
  · exact .inr (.inr ‹_›)
  · cases h
theorem locB_ok {sc : Scope} {x : Str} (h : locB sc x = true) : L2.Loc sc x := by
  unfold locB at h
  split at h
  · exact .inl ‹_›
  · exact .inr ‹_›
  · cases h
theorem glB_ok {sc : Scope} {x : Str} (h : glB sc x = true) : sc.names.lookup x = some .globalImplicit := by
  unfold glB at h
  split at h
  · assumption
  · cases h
theorem okN_ok {x : Str} (h : okN x = true) : (x == ("__debug__" : Str)) = false ∧ (x == ("__classdict__" : Str)) = false := by
  unfold okN at h
  simp only [Bool.and_eq_true, Bool.not_eq_true'] at h
  exact h

def conD : Const → Option D
  | .none => some .non
  | .bool b => some (.bl b)
  | .int i => some (.int i)
  | .str s => if PyData.strOk s = true ∧ s.length ≤ 100000 then some (.str s) else none
  | _ => none
def tyS (x : Str) : Option Ty := if x = ("int" : Str) then some .int else if x = ("bool" : Str) then some .bool else if x = ("str" : Str) then some .str else if x = ("tuple" : Str) then some .tuple else if x = ("list" : Str) then some .list else none
/-- a built-in: whether it is a type -/
def biS (x : Str) : Option (Bi × Bool) := if x = ("len" : Str) then some (.len, false) else if x = ("abs" : Str) then some (.abs, false) else if x = ("int" : Str) then some (.int, true) else if x = ("max" : Str) then some (.max, false)
  else if x = ("min" : Str) then some (.min, false) else if x = ("all" : Str) then some (.all, false) else if x = ("any" : Str) then some (.any, false) else if x = ("sum" : Str) then some (.sum, false)
  else if x = ("list" : Str) then some (.list, true) else if x = ("tuple" : Str) then some (.tuple, true) else none
theorem tyS_ok {x : Str} {t : Ty} (h : tyS x = some t) : bootBuiltins x = some (.type t.n) ∧ x ≠ "__name__" ∧ (x == ("__debug__" : Str)) = false := by
  unfold tyS at h
  repeat' split at h
  all_goals (first | (cases h; done) | (subst_vars; cases h; exact ⟨by decide +kernel, by decide, by decide⟩))
theorem biS_ok {x : Str} {f : Bi} {b : Bool} (h : biS x = some (f, b)) : bootBuiltins x = some f.val ∧ x ≠ "__name__" ∧ (x == ("__debug__" : Str)) = false ∧ (b = true → ∃ T, f.val = .type T) ∧ (b = false → ∃ T, f.val = .builtin T) := by
  unfold biS at h
  repeat' split at h
  all_goals (first | (cases h; done) | (subst_vars; cases h; exact ⟨by decide +kernel, by decide, by decide, fun h => by first | exact ⟨_, rfl⟩ | (cases h; done), fun h => by first | exact ⟨_, rfl⟩ | (cases h; done)⟩))

def compL (f : Expr → Option E) : List Expr → Option (List E)
  | [] => some []
  | e :: es => (f e).bind fun x => (compL f es).map (x :: ·)
def mkBo : BoolOp → E → E → E
  | .And, a, b => .and a b
  | .Or, a, b => .or a b
def compBo (f : Expr → Option E) (op : BoolOp) : List Expr → Option E
  | [] => none
  | [e] => f e
  | e :: es => (f e).bind fun a => (compBo f op es).map fun b => mkBo op a b
def compKw (f : Expr → Option E) : List Keyword → Option (List Str × List E)
  | [] => some ([], [])
  | k :: r => match k.arg with
    | some n => (f k.value).bind fun a => (compKw f r).map fun p => (n :: p.1, a :: p.2)
    | none => none
def compNs (N : List Str) (sc : Scope) : List Expr → Option (List Nat)
  | [] => some []
  | .Name x _ :: r => if locB sc x = true then (idxN N x).bind fun i => (compNs N sc r).map (i :: ·) else none
  | _ :: _ => none
def compTg (N : List Str) (sc : Scope) : Expr → Option Tg
  | .Name x _ => if locB sc x = true then (idxN N x).map .name else none
  | .Tuple es _ _ => (compNs N sc es).map .tup
  | _ => none
def bltB (T : Tab) (sc : Scope) (x : Str) : Bool := glB sc x && decide (x ∈ T.blt)
def compTys (T : Tab) (sc : Scope) : List Expr → Option (List Ty)
  | [] => some []
  | .Name x _ :: r => if bltB T sc x = true then (tyS x).bind fun t => (compTys T sc r).map (t :: ·) else none
  | _ :: _ => none
def isTup : Expr → Bool
  | .Tuple _ _ _ => true
  | _ => false
def compI (f : Expr → Option E) (T : Tab) (sc : Scope) (tg it : Expr) : Option (ItK × List E) := match it with
  | .Call (.Name x _) [a] [] _ =>
    if bltB T sc x = true ∧ x = ("range" : Str) then (f a).map fun a' => (.range, [a'])
    else if bltB T sc x = true ∧ x = ("enumerate" : Str) ∧ isTup tg = true then (f a).map fun a' => (.enum, [a'])
    else (f it).map fun a' => (.seq, [a'])
  | .Call (.Name x _) [a, b] [] _ =>
    if bltB T sc x = true ∧ x = ("range" : Str) then (f a).bind fun a' => (f b).map fun b' => (.range, [a', b'])
    else if bltB T sc x = true ∧ x = ("zip" : Str) ∧ isTup tg = true then (f a).bind fun a' => (f b).map fun b' => (.zip, [a', b'])
    else (f it).map fun a' => (.seq, [a'])
  | _ => (f it).map fun a' => (.seq, [a'])
def ownOf (N : List Str) (scope : Scope) : List (Str × Nat) := scope.names.filterMap fun p => match p.2 with
  | .local => (idxN N p.1).map fun i => (p.1, i)
  | .cell => (idxN N p.1).map fun i => (p.1, i)
  | _ => none
/-- the arguments of a range that is the only argument -/
def rngOf (T : Tab) (sc : Scope) : List Expr → Option (List Expr)
  | [.Call (.Name r _) ras [] _] => if bltB T sc r = true ∧ r = ("range" : Str) then some ras else none
  | _ => none
def listy (x : Str) : Option Bool := if x = ("list" : Str) then some false else if x = ("tuple" : Str) then some true else none
def compRng (f : Expr → Option E) (T : Tab) (sc : Scope) (x : Str) (es : List Expr) (kws : List Keyword) : Option E := match listy x, rngOf T sc es, kws with
  | some t, some [a], [] => if bltB T sc x = true then (f a).map fun a' => .rng t [a'] else none
  | some t, some [a, b], [] => if bltB T sc x = true then (f a).bind fun a' => (f b).map fun b' => .rng t [a', b'] else none
  | _, _, _ => none
/-- a call of what may change its one argument, which may be new -/
def upC (m : List Nat) (f : Nat) (es1 es2 : List E) (pm : List Nat) : E := match es1, es2, pm with
  | [.call g ys ps], [], [0] => if f ∈ m then .call1 f (.call g ys ps) else .call f ([.call g ys ps] ++ []) [0]
  | _, _, _ => .call f (es1 ++ es2) pm
def compCall (f : Expr → Option E) (T : Tab) (sc : Scope) (x : Str) (es : List Expr) (kws : List Keyword) : Option E :=
  match compRng f T sc x es kws with
  | some e => some e
  | none =>
  if bltB T sc x = true ∧ x = ("isinstance" : Str) then
    match es, kws with
    | [a, .Name t _], [] => if bltB T sc t = true then (tyS t).bind fun t' => (f a).map fun a' => .isin a' [t'] else none
    | [a, .Tuple ts _ _], [] => (compTys T sc ts).bind fun ts' => if ts'.length ≤ 1000 then (f a).map fun a' => .isin a' ts' else none
    | _, _ => none
  else match biS x with
    | some (b, _) => if bltB T sc x = true ∧ kws.isEmpty = true ∧ es.isEmpty = false then (compL f es).map (.bi b) else none
    | none =>
      if T.gcd = true ∧ glB sc x = true ∧ x = ("gcd" : Str) ∧ kws.isEmpty = true ∧ es.isEmpty = false then (compL f es).map (.bi .gcd)
      else if T.lcm = true ∧ glB sc x = true ∧ x = ("lcm" : Str) ∧ kws.isEmpty = true ∧ es.isEmpty = false then (compL f es).map (.bi .lcm)
      else if glB sc x = true ∧ okN x = true then match T.fns.lookup x with
        | some (fi, pats) => (compL f es).bind fun es1 => (compKw f kws).bind fun p =>
            (pats.find? fun q => decide (q.1 = es1.length ∧ q.2.1 = p.1)).map fun q => upC T.chg fi es1 p.2 q.2.2
        | none => none
      else none
def compO (f : Expr → Option E) : Option Expr → Option E
  | none => some (.con .non)
  | some e => (f e).bind fun x => match x with
    | .con .non => none
    | _ => some x
/-- list({x: True for x in e}); sorted(xs, key=lambda y: y[0] * (m // y[1])) -/
def compSp (f : Expr → Option E) (G : CG) (sc : Scope) (x : Str) (es : List Expr) (kws : List Keyword) : Option E := match es, kws with
  | [.DictComp (.Name y _) (.Constant (.bool true) _ _) [⟨.Name y2 _, it, [], 0⟩] scope _], [] =>
    if x = ("list" : Str) ∧ bltB G.T sc x = true ∧ y2 = y ∧ uqSc scope y = true ∧ okN y = true then (f it).map .uniq else none
  | [a], [⟨some key, .Lambda ⟨[], [⟨y, none, _⟩], none, [], [], none, []⟩ (.BinOp (.Subscript (.Name y1 _) (.Constant (.int 0) _ _) _) .Mult (.BinOp (.Name m _) .FloorDiv (.Subscript (.Name y2 _) (.Constant (.int 1) _ _) _) _) _) ls _, _⟩] =>
    if G.lam = true ∧ x = ("sorted" : Str) ∧ bltB G.T sc x = true ∧ key = ("key" : Str) ∧ y = ("number" : Str) ∧ y1 = y ∧ y2 = y ∧ lamSc sc ls y m = true then (f a).bind fun a' => (idxN G.N m).map fun i => .sortk a' i else none
  | _, _ => none
def stepE (G : CG) (cE : Scope → Expr → Option E) (sc : Scope) (e : Expr) : Option E := match e with
  | .Name x _ => if okN x = true then (if visB sc x = true then (idxN G.N x).map .var else if glB sc x = true then (G.T.con.lookup x).map .glo else none) else none
  | .Constant c _ _ => (conD c).map .con
  | .BinOp a op b _ => (bopOf op).bind fun o => (cE sc a).bind fun x => (cE sc b).map fun y => .bin o x y
  | .Compare a [op] [b] _ => if behindInMarks op b = true then none else (cE sc a).bind fun x => (cE sc b).map fun y => .cmp (copOf op) x y
  | .Compare a [op, op'] [b, c] _ => if lastMarks [op, op'] [b, c] = true then none else (cE sc a).bind fun x => (cE sc b).bind fun y => (cE sc c).map fun z => .chn (copOf op) (copOf op') x y z
  | .UnaryOp .USub a _ => (cE sc a).map .neg
  | .UnaryOp .Not a _ => (cE sc a).map .not
  | .BoolOp op (a :: b :: r) _ => compBo (cE sc) op (a :: b :: r)
  | .IfExp c a b _ => (cE sc c).bind fun z => (cE sc a).bind fun x => (cE sc b).map fun y => .ite z x y
  | .Tuple es _ _ => (compL (cE sc) es).bind fun xs => if xs.length ≤ 1000 then some (.tup xs) else none
  | .List es _ => (compL (cE sc) es).bind fun xs => if xs.length ≤ 1000 then some (.lst xs) else none
  | .Subscript a (.Slice none none (some (.UnaryOp .USub (.Constant (.int 1) _ _) _)) _) _ => (cE sc a).map .rev
  | .Subscript a (.Slice lo hi none _) _ => (cE sc a).bind fun x => (compO (cE sc) lo).bind fun l => (compO (cE sc) hi).map fun h => .cut x l h
  | .Subscript (.Name x p) (.Tuple es k tp) _ => (match (if glB sc x = true ∧ okN x = true then G.T.dic.lookup x else none) with
    | some g => (cE sc (.Tuple es k tp)).map (.gdx g)
    | none => (cE sc (.Name x p)).bind fun x => (cE sc (.Tuple es k tp)).map fun y => .ix x y)
  | .Subscript a i _ => (cE sc a).bind fun x => (cE sc i).map fun y => .ix x y
  | .Call (.Name x _) es kws _ => (match compSp (cE sc) G sc x es kws with
    | some e => some e
    | none => compCall (cE sc) G.T sc x es kws)
  | .Call (.Attribute (.Name x p) nm ap) [e] [] cp => if nm = ("index" : Str) ∧ (ap.endLine == cp.line) = true then (cE sc (.Name x p)).bind fun a => (cE sc e).map fun b => .idx a b else none
  | .ListComp elt [g] scope _ => if g.is_async = 0 ∧ blkC G.N sc scope (ownOf G.N scope) = true ∧ g.ifs.length ≤ 1 then
      (compTg G.N scope g.target).bind fun tg => if ∀ i ∈ tg.slots, i ∈ (ownOf G.N scope).map (·.2) then
        (compI (cE sc) G.T sc g.target g.iter).bind fun ki => (compL (cE (relS scope sc)) g.ifs).bind fun cs => (cE (relS scope sc) elt).map fun x => .lc x ((ownOf G.N scope).map (·.2)) tg ki.1 ki.2 cs
      else none
    else none
  | .ListComp elt [g, g1] scope _ => if g.is_async = 0 ∧ g1.is_async = 0 ∧ blkC G.N sc scope (ownOf G.N scope) = true ∧ g.ifs.length ≤ 1 ∧ g1.ifs.length ≤ 1 then
      (compTg G.N scope g.target).bind fun tg => (compTg G.N scope g1.target).bind fun tg1 => if (∀ i ∈ tg.slots, i ∈ (ownOf G.N scope).map (·.2)) ∧ (∀ i ∈ tg1.slots, i ∈ (ownOf G.N scope).map (·.2)) then
        (compI (cE sc) G.T sc g.target g.iter).bind fun ki => (compL (cE (relS scope sc)) g.ifs).bind fun cs =>
          (compI (cE (relS scope sc)) G.T (relS scope sc) g1.target g1.iter).bind fun ki1 => (compL (cE (relS scope sc)) g1.ifs).bind fun cs1 =>
            (cE (relS scope sc) elt).map fun x => .lc2 x ((ownOf G.N scope).map (·.2)) tg ki.1 ki.2 cs tg1 ki1.1 ki1.2 cs1
      else none
    else none
  | _ => none

def compE (G : CG) : Nat → Scope → Expr → Option E
  | 0 => fun _ _ => none
  | m + 1 => stepE G (compE G m)

/-! ### what the names are -/
structure ClsOk (K : PySem.W.Frag) (mg : Str → Option Value) (XR : XRt) (L : Lib) (x : Str) (c : Nat) (Ca : Addr) : Prop where
  glob : mg x = some (.ref Ca)
  keep : PySem.W.keepIn K (.ref Ca) = true
  sub : PySem.W.subIn K (.ref Ca) (.type "BaseException") = some true
  typ : PySem.W.typeIn K (.ref Ca) = some (.type "type")
  hd : ∀ x cls dx U H, XR x cls dx U H → PySem.W.exmOne K cls (.ref Ca) = some (L.sub x.cls c)
  isi : ∀ x cls dx U H, XR x cls dx U H → x.fld = none → dx = none ∧ ∃ DD, cls = .ref DD ∧ ExcC K DD ∧ PySem.W.kitOne K (.ref DD) (.ref Ca) = some (L.sub x.cls c)
/-- an own error that is made with a text -/
structure MkOk (K : PySem.W.Frag) (XR : XRt) (c : Nat) (Ca : Addr) : Prop where
  make : ∃ (B newId initId : String) (bmB : List Value), ExcBaseFacts B newId initId bmB ∧ PySem.W.excIn K Ca bmB newId = true
  mkx : ∀ U H, XR ⟨c, none⟩ (.ref Ca) none U H
structure TabOk (T : Tab) (P : Program) (w : World) (K : PySem.W.Frag) (mg : Str → Option Value) (base : Heap) (XR : XRt) (L : Lib) (n : Nat) : Prop where
  fn : ∀ x f pats, T.fns.lookup x = some (f, pats) → ∃ fa fd ps, FnOk P w K mg base (L2.CX P w) n fa fd ps (spF K XR ps.length (L.C f)) ∧ mg x = some (.ref fa) ∧ PySem.W.keepIn K (.ref fa) = true ∧ (L.bor f).length = ps.length ∧
    ∀ m ks pm, (m, ks, pm) ∈ pats → BindsP fd ps m ks pm ∧ pm.length = ps.length ∧ ∀ k ∈ pm, k < m + ks.length
  blt : ∀ x ∈ T.blt, mg x = none
  gcd : T.gcd = true → mg "gcd" = some (.builtin "math.gcd")
  cls : ∀ x c, T.cls.lookup x = some c → ∃ Ca, ClsOk K mg XR L x c Ca ∧ (T.fld.lookup x = none → MkOk K XR c Ca)
  con : ∀ x k, T.con.lookup x = some k → ∃ u v d, mg x = some u ∧ RelV v u ∧ L.con k = some d ∧ ∀ U H, Rep K U H v d
  lcm : T.lcm = true → mg "lcm" = some (.builtin "math.lcm")
  fldc : ∀ x c f, (x, c, f) ∈ T.fld → ∃ Ca, mg x = some (.ref Ca) ∧ FldOk P w K mg base 1 f Ca ∧ ∀ d v dx U H, FlV d v → H dx = some (.xd [(f, v)]) → XR ⟨c, some (f, d)⟩ (.ref Ca) (some dx) U H
  xf : ∀ x cls dx U H, XR x cls dx U H → XFd x dx H
  xfc : ∀ x cls dx U H, XR x cls dx U H → ∃ DD, cls = .ref DD ∧ ∀ f d, x.fld = some (f, d) → XfC K DD ∧ PySem.W.findIn K (.ref DD) f = some none
  dic : ∀ x k, T.dic.lookup x = some k → ∃ u kvs, mg x = some u ∧ L.dic k = some kvs ∧ DicIs P w K kvs u
structure Cn (G : CG) (sc : Scope) (X : Cx) (B : Sx) (L : Lib) (n : Nat) : Prop where
  N : X.N = G.N
  nd : G.N.Nodup
  scp : X.env.scope = sc
  K : X.K = B.K
  calm : X.calm = true
  room : Room n X.A
  tk : Takes X B.W
  T : TabOk G.T X.prog X.w X.K X.mg X.base B.XR L n
  big : 2 ≤ n
  lam : G.lam = true → ∃ c P, X.env.code = .ref c ∧ LamX.TabB X.base X.mg c P ∧ HasT.T = [(P, X.env.qual ++ "<lambda>")]
structure Snd (X : Cx) (B : Sx) (L : Lib) (e : Expr) (e' : E) : Prop where
  pe : PE X e (rdE B L e')
  pa : PE X e (rdA B L e')
  pt : PT X e (rdT B L e')
section
variable {X : Cx} {B : Sx} {L : Lib} {e a b c : Expr} {e' a' b' c' : E} {pos : Pos} {G : CG} {sc : Scope} {n : Nat}
theorem Snd.of (hK : X.K = B.K) (hv : ∀ i, e' ≠ .var i) (he : PE X e (rdE B L e')) (hp : ∀ whole, isTrue e X.env whole = (do let v ← whole; standAt e.pos; holding [v] (truthy v))) : Snd X B L e e' :=
  ⟨he, snd_arg hv he, snd_T hK (snd_arg hv he) hp⟩
theorem snd_PTite (hc : PT X c (rdT B L c')) (ha : PT X a (rdT B L a')) (hb : PT X b (rdT B L b')) : PT X (.IfExp c a b pos) (rdT B L (.ite c' a' b')) := by
  refine ⟨fun pins s σ H Q I ⟨env, U, g, h⟩ => ?_⟩
  rw [tst_nv (by simp)] at h
  have e : eval L (.ite c' a' b') env = (tst L c' env).bind fun k e => if k then eval L a' e else eval L b' e := by
    simp only [eval, tst, Res.bind_assoc]
    congr 1
    funext x e1
    cases x.peek e1 with
    | none => rfl
    | some d => rfl
  rw [e, Res.bind_assoc] at h
  refine isTrue_IfExp (thn (hc.run pins s σ H (fun k H1 => if k = true then rdT B L a' σ H1 Q else rdT B L b' σ H1 Q) I ⟨env, U, g, (Wp.bind g h).imp fun k env1 U1 H1 _ p1 h1 => ?_⟩) fun k s1 ⟨H1, I1, q⟩ => ?_)
  · cases k with
    | true => exact ⟨env1, U1, p1.good, tst_eval p1.good h1⟩
    | false => exact ⟨env1, U1, p1.good, tst_eval p1.good h1⟩
  · cases k with
    | true => exact ha.run pins s1 σ H1 Q I1 q
    | false => exact hb.run pins s1 σ H1 Q I1 q
theorem snd_glo {x : Str} {k : Nat} {u : Value} {v : V} {d : D} (hg : Gl X x) (hm : X.mg x = some u) (r : RelV v u) (hd : (x == ("__debug__" : Str)) = false) (hk : L.con k = some d) (rep : ∀ U H, Rep B.K U H v d) : PE X (.Name x pos) (rdE B L (.glo k)) := by
  refine (pe_glob hg hm r hd).imp fun σ H Q ⟨env, U, g, h⟩ => ?_
  simp only [eval, hk, Option.map_some, pureR_some] at h
  exact h U H (.refl g) v (rep U H)
theorem compE_star {m : Nat} (h : compE G m sc e = some e') (r : List Expr) (env : PySem.Env) : starEach (e :: r) env = (false, PySem.eval e env) :: starEach r env := by
  cases m with
  | zero => simp [compE] at h
  | succ m =>
    cases e <;> first | rfl | (simp [compE, stepE] at h; done)
theorem compE_fold {m : Nat} (h : compE G m sc e = some e') (env : PySem.Env) (x : Value) : foldedSetIterable e env x = pure x := by
  cases m with
  | zero => simp [compE] at h
  | succ m =>
    cases e <;> first | rfl | (simp [compE, stepE] at h; done)
theorem compE_ix {m : Nat} (h : compE G m sc e = some e') : PlainIx e := by
  cases m with
  | zero => simp [compE] at h
  | succ m =>
    cases e <;> first | exact fun _ _ => rfl | (simp [compE, stepE] at h; done)
end
end Pi

set_option Elab.async false
set_option linter.all false
set_option maxRecDepth 100000
set_option maxHeartbeats 4000000
/-! PiP: the expressions' trees keep to the interpreter's. -/
namespace Pi
open PySem PySem.Spec PyProof.Rows L2
variable [HasT]

section
variable {X : Cx} {B : Sx} {L : Lib} {G : CG} {sc : Scope} {n : Nat} {pos : Pos} {f : Expr → Option E}
theorem Cn.gl (c : Cn G sc X B L n) {x : Str} (h : glB sc x = true) : Gl X x := by
  show X.env.scope.names.lookup x = _
  rw [c.scp]; exact glB_ok h
theorem Cn.blt (c : Cn G sc X B L n) {x : Str} (h : bltB G.T sc x = true) : Gl X x ∧ X.mg x = none := by
  unfold bltB at h
  rw [Bool.and_eq_true] at h
  exact ⟨c.gl h.1, c.T.blt x (of_decide_eq_true h.2)⟩
theorem Cn.units (c : Cn G sc X B L n) : X.A.units + 65 < cLine := by have := c.room.un; omega
def Fok (X : Cx) (B : Sx) (L : Lib) (f : Expr → Option E) : Prop := ∀ e e', f e = some e' → Snd X B L e e' ∧ (∀ r, starEach (e :: r) X.env = (false, PySem.eval e X.env) :: starEach r X.env) ∧ (∀ x, foldedSetIterable e X.env x = pure x)
theorem compL_ok (ih : Fok X B L f) : ∀ {es : List Expr} {es' : List E}, compL f es = some es' → PA X es (rdAs B L es') ∧ PA X es (rdEs B L es') ∧ es.length = es'.length ∧ (∀ pos, (backTo pos (starEach es X.env)).any (·.1) = false) ∧
    ∀ e r, es = e :: r → starEach (e :: r) X.env = (false, PySem.eval e X.env) :: starEach r X.env
  | [], es', h => by
    simp only [compL] at h; cases h
    exact ⟨snd_nilA, snd_nilE, rfl, fun _ => rfl, fun _ _ h => nomatch h⟩
  | e :: es, es', h => by
    simp only [compL] at h
    cases h1 : f e with
    | none => rw [h1] at h; cases h
    | some a =>
      rw [h1] at h
      cases h2 : compL f es with
      | none => rw [h2] at h; cases h
      | some as =>
        rw [h2] at h
        simp only [Option.bind_some, Option.map_some] at h
        cases h
        obtain ⟨k1, k2, _⟩ := ih e a h1
        obtain ⟨q1, q2, q3, q4, q5⟩ := compL_ok ih h2
        refine ⟨snd_consA k1.pa q1 (k2 es), snd_consE k1.pe q2 (k2 es), by simp [q3], fun pos => ?_, fun e' r' hh => ?_⟩
        · rw [k2 es]
          have := q4 pos
          simp [backTo] at this ⊢
          exact this
        · cases hh; exact k2 es
theorem compL_okF (ih : Fok X B L f) : ∀ {es : List Expr} {es' : List E}, compL f es = some es' → PA X es (rdFs B L es')
  | [], es', h => by
    simp only [compL] at h; cases h
    exact snd_nilF
  | e :: es, es', h => by
    simp only [compL] at h
    cases h1 : f e with
    | none => rw [h1] at h; cases h
    | some a =>
      rw [h1] at h
      cases h2 : compL f es with
      | none => rw [h2] at h; cases h
      | some as =>
        rw [h2] at h
        simp only [Option.bind_some, Option.map_some] at h
        cases h
        obtain ⟨k1, k2, _⟩ := ih e a h1
        exact snd_consF k1.pe (compL_okF ih h2) (k2 es)
theorem compKw_ok (ih : Fok X B L f) : ∀ {ks : List Keyword} {p : List Str × List E}, compKw f ks = some p → PK X ks (rdAs B L p.2) ∧ p.2.length = p.1.length ∧
    (∀ pos, (backToKw pos (keywordEach ks X.env)).all (·.1.isSome) = true ∧ (backToKw pos (keywordEach ks X.env)).filterMap (·.1) = p.1 ∧ (backToKw pos (keywordEach ks X.env)).any (·.1.isNone) = false)
  | [], p, h => by
    simp only [compKw] at h; cases h
    exact ⟨snd_nilK, rfl, fun _ => ⟨rfl, rfl, rfl⟩⟩
  | ⟨nm, v, kp⟩ :: ks, p, h => by
    simp only [compKw] at h
    cases nm with
    | none => cases h
    | some nm =>
      simp only at h
      cases h1 : f v with
      | none => rw [h1] at h; cases h
      | some a =>
        rw [h1] at h
        cases h2 : compKw f ks with
        | none => rw [h2] at h; cases h
        | some q =>
          rw [h2] at h
          simp only [Option.bind_some, Option.map_some] at h
          cases h
          obtain ⟨k1, _, _⟩ := ih v a h1
          obtain ⟨q1, q2, q3⟩ := compKw_ok ih h2
          refine ⟨snd_consK k1.pa q1, by simp [q2], fun pos => ?_⟩
          obtain ⟨r1, r2, r3⟩ := q3 pos
          have e : backToKw pos (keywordEach (⟨some nm, v, kp⟩ :: ks) X.env) = (some nm, do let v ← PySem.eval v X.env; standAt pos; pure v) :: backToKw pos (keywordEach ks X.env) := rfl
          rw [e]
          exact ⟨by rw [List.all_cons, r1]; rfl, by rw [List.filterMap_cons, r2], by rw [List.any_cons, r3]; rfl⟩
theorem compBo_ok (hK : X.K = B.K) (ih : Fok X B L f) {op : BoolOp} : ∀ {es : List Expr} {e' : E}, compBo f op es = some e' → PE X (.BoolOp op es pos) (rdE B L e') ∧ PW X (.BoolOp op es pos) (rdT B L e') ∧ (∀ a b r, es = a :: b :: r → ∀ i, e' ≠ .var i)
  | [], e', h => by simp [compBo] at h
  | [e], e', h => by
    simp only [compBo] at h
    obtain ⟨k1, _, _⟩ := ih e e' h
    refine ⟨pe_one k1.pe, ?_, fun _ _ _ hh => by simp at hh⟩
    cases op with
    | And => exact snd_Wand1 k1.pt
    | Or => exact snd_Wor1 k1.pt
  | e :: e2 :: es, e', h => by
    simp only [compBo] at h
    cases h1 : f e with
    | none => rw [h1] at h; cases h
    | some a =>
      rw [h1] at h
      cases h2 : compBo f op (e2 :: es) with
      | none => rw [h2] at h; cases h
      | some b =>
        obtain ⟨k1, _, _⟩ := ih e a h1
        obtain ⟨q1, q2, _⟩ := compBo_ok hK ih h2
        have h : some (mkBo op a b) = some e' := by rw [h2] at h; exact h
        cases op with
        | And => cases h; exact ⟨snd_and hK k1.pe q1, snd_Wand k1.pt q2, fun _ _ _ _ i => by simp [mkBo]⟩
        | Or => cases h; exact ⟨snd_or hK k1.pe q1, snd_Wor k1.pt q2, fun _ _ _ _ i => by simp [mkBo]⟩
/-- the names a target may be stored to -/
def TgOk (sr : Scope) (X : Cx) : Prop := ∀ x, L2.Loc sr x → L2.Loc X.env.scope x ∧ (X.fn x = true ∨ X.env.scope.names.lookup x = some .local)
theorem compNs_ok {sr : Scope} (ht : TgOk sr X) (c : Cn G sc X B L n) : ∀ {es : List Expr} {is : List Nat}, compNs G.N sr es = some is → PNs X es is
  | [], is, h => by simp only [compNs] at h; cases h; exact .nil
  | e :: es, is, h => by
    cases e <;> first | (simp [compNs] at h; done) | skip
    rename_i x p
    simp only [compNs] at h
    split at h
    · rename_i hl
      cases h1 : idxN G.N x with
      | none => rw [h1] at h; cases h
      | some i =>
        rw [h1] at h
        cases h2 : compNs G.N sr es with
        | none => rw [h2] at h; cases h
        | some js =>
          rw [h2] at h
          simp only [Option.bind_some, Option.map_some] at h
          cases h
          have hL := locB_ok hl
          exact .cons (by rw [c.N]; exact idxN_ok h1) (ht x hL).1 (ht x hL).2 (compNs_ok ht c h2)
    · cases h
theorem compTg_ok {sr : Scope} (ht : TgOk sr X) (c : Cn G sc X B L n) {e : Expr} {tg : Tg} (h : compTg G.N sr e = some tg) : PG X e (rdG B tg) := by
  cases e <;> first | (simp [compTg] at h; done) | skip
  · rename_i x p
    simp only [compTg] at h
    split at h
    · rename_i hl
      cases h1 : idxN G.N x with
      | none => rw [h1] at h; cases h
      | some i =>
        rw [h1] at h
        cases h
        have hL := locB_ok hl
        exact snd_gname (c.N ▸ c.nd) (by rw [c.N]; exact idxN_ok h1) (ht x hL).1 (ht x hL).2
    · cases h
  · rename_i es k p
    simp only [compTg] at h
    cases h2 : compNs G.N sr es with
    | none => rw [h2] at h; cases h
    | some js =>
      rw [h2] at h
      cases h
      exact snd_gtup c.K c.calm (c.N ▸ c.nd) (compNs_ok ht c h2)
theorem compTys_ok (c : Cn G sc X B L n) : ∀ {es : List Expr} {ts : List Ty}, compTys G.T sc es = some ts →
    Paired (fun (e : Expr) (t : Ty) => ∃ tn p, e = .Name tn p ∧ Gl X tn ∧ X.mg tn = none ∧ bootBuiltins tn = some (.type t.n) ∧ tn ≠ "__name__" ∧ (tn == ("__debug__" : Str)) = false) es ts
  | [], ts, h => by simp only [compTys] at h; cases h; exact .nil
  | e :: es, ts, h => by
    cases e <;> first | (simp [compTys] at h; done) | skip
    rename_i x p
    simp only [compTys] at h
    split at h
    · rename_i hb
      cases h1 : tyS x with
      | none => rw [h1] at h; cases h
      | some t =>
        rw [h1] at h
        cases h2 : compTys G.T sc es with
        | none => rw [h2] at h; cases h
        | some js =>
          rw [h2] at h
          simp only [Option.bind_some, Option.map_some] at h
          cases h
          obtain ⟨q1, q2, q3⟩ := tyS_ok h1
          obtain ⟨r1, r2⟩ := c.blt hb
          exact .cons ⟨x, p, rfl, r1, r2, q1, q2, q3⟩ (compTys_ok c h2)
    · cases h
theorem compSeq_ok (c : Cn G sc X B L n) (ih : Fok X B L f) {tg it : Expr} {k : ItK} {es' : List E} (h : (f it).map (fun a' => (ItK.seq, [a'])) = some (k, es')) : PI X tg it (rdI B L k es') ∧ (∀ x, foldedSetIterable it X.env x = pure x) := by
  cases h1 : f it with
  | none => rw [h1] at h; cases h
  | some a =>
    rw [h1] at h
    cases h
    obtain ⟨k1, _, k3⟩ := ih it a h1
    exact ⟨snd_Iseq c.K k1.pa, k3⟩
theorem compI_ok (c : Cn G sc X B L n) (ih : Fok X B L f) {tg it : Expr} {k : ItK} {es' : List E} (h : compI f G.T sc tg it = some (k, es')) : PI X tg it (rdI B L k es') ∧ (∀ x, foldedSetIterable it X.env x = pure x) := by
  unfold compI at h
  split at h
  · rename_i x p a pos
    split at h
    · rename_i hx
      obtain ⟨hx, rfl⟩ := hx
      obtain ⟨r1, r2⟩ := c.blt hx
      cases h1 : f a with
      | none => rw [h1] at h; cases h
      | some a' =>
        rw [h1] at h; cases h
        obtain ⟨k1, k2, _⟩ := ih a a' h1
        exact ⟨snd_Irange1 r1 r2 (snd_consA k1.pa snd_nilA (k2 [])) (k2 []), fun _ => rfl⟩
    · split at h
      · rename_i hx
        obtain ⟨hx, rfl, ht⟩ := hx
        obtain ⟨r1, r2⟩ := c.blt hx
        cases h1 : f a with
        | none => rw [h1] at h; cases h
        | some a' =>
          rw [h1] at h; cases h
          obtain ⟨k1, k2, _⟩ := ih a a' h1
          cases tg <;> first | (simp [isTup] at ht; done) | skip
          exact ⟨snd_Ienum c.K r1 r2 (snd_consA k1.pa snd_nilA (k2 [])) (k2 []), fun _ => rfl⟩
      · exact compSeq_ok c ih h
  · rename_i x p a b pos
    split at h
    · rename_i hx
      obtain ⟨hx, rfl⟩ := hx
      obtain ⟨r1, r2⟩ := c.blt hx
      cases h1 : f a with
      | none => rw [h1] at h; cases h
      | some a' =>
        rw [h1] at h
        cases h2 : f b with
        | none => rw [h2] at h; cases h
        | some b' =>
          rw [h2] at h; cases h
          obtain ⟨k1, k2, _⟩ := ih a a' h1
          obtain ⟨j1, j2, _⟩ := ih b b' h2
          exact ⟨snd_Irange2 r1 r2 (snd_consA k1.pa (snd_consA j1.pa snd_nilA (j2 [])) (k2 [b])) (by rw [k2 [b], j2 []]; rfl) (j2 []), fun _ => rfl⟩
    · split at h
      · rename_i hx
        obtain ⟨hx, rfl, ht⟩ := hx
        obtain ⟨r1, r2⟩ := c.blt hx
        cases h1 : f a with
        | none => rw [h1] at h; cases h
        | some a' =>
          rw [h1] at h
          cases h2 : f b with
          | none => rw [h2] at h; cases h
          | some b' =>
            rw [h2] at h; cases h
            obtain ⟨k1, k2, _⟩ := ih a a' h1
            obtain ⟨j1, j2, _⟩ := ih b b' h2
            cases tg <;> first | (simp [isTup] at ht; done) | skip
            exact ⟨snd_Izip c.K r1 r2 (snd_consA k1.pa (snd_consA j1.pa snd_nilA (j2 [])) (k2 [b])) (k2 [b]) (by rw [j2 []]; rfl), fun _ => rfl⟩
      · exact compSeq_ok c ih h
  · exact compSeq_ok c ih h
theorem compO_ok (ih : Fok X B L f) {o : Option Expr} {e' : E} (h : compO f o = some e') : PO X o (rdO B L e') := by
  cases o with
  | none => simp only [compO] at h; cases h; exact snd_nopart
  | some e =>
    simp only [compO] at h
    cases h1 : f e with
    | none => rw [h1] at h; cases h
    | some a =>
      rw [h1] at h
      simp only [Option.bind_some] at h
      split at h
      · cases h
      · rename_i hn
        cases h
        exact snd_part hn (ih e e' h1).1.pe
theorem compRng_ok (c : Cn G sc X B L n) (ih : Fok X B L f) {x : Str} {p : Pos} {es : List Expr} {kws : List Keyword} {e' : E} (h : compRng f G.T sc x es kws = some e') : PE X (.Call (.Name x p) es kws pos) (rdE B L e') ∧ ∀ i, e' ≠ .var i := by
  have hr : ∀ {as}, rngOf G.T sc es = some as → ∃ rp pp, es = [.Call (.Name "range" rp) as [] pp] ∧ Gl X "range" ∧ X.mg "range" = none := fun {as} h => by
    unfold rngOf at h
    split at h
    · split at h
      · rename_i hb
        cases h
        obtain ⟨h1, rfl⟩ := hb
        exact ⟨_, _, rfl, c.blt h1⟩
      · cases h
    · cases h
  have hl : ∀ {t}, listy x = some t → x = if t then ("tuple" : Str) else ("list" : Str) := fun {t} h => by
    unfold listy at h
    split at h
    · cases h; assumption
    · split at h
      · cases h; assumption
      · cases h
  unfold compRng at h
  split at h
  · rename_i t a e1 e2
    obtain ⟨rp, pp, rfl, g1, g2⟩ := hr e2
    split at h
    · rename_i hb
      obtain ⟨b1, b2⟩ := c.blt hb
      cases h1 : f a with
      | none => rw [h1] at h; cases h
      | some a' =>
        rw [h1] at h; cases h
        obtain ⟨k1, k2, _⟩ := ih a a' h1
        exact ⟨(snd_rngT x (hl e1) c.calm b1 b2 (prg_1 g1 g2 k1.pe (k2 [])) rfl).imp fun σ H Q h => rd_rng1 h, fun i => by simp⟩
    · cases h
  · rename_i t a b e1 e2
    obtain ⟨rp, pp, rfl, g1, g2⟩ := hr e2
    split at h
    · rename_i hb
      obtain ⟨b1, b2⟩ := c.blt hb
      cases h1 : f a with
      | none => rw [h1] at h; cases h
      | some a' =>
        rw [h1] at h
        cases h2 : f b with
        | none => rw [h2] at h; cases h
        | some b' =>
          rw [h2] at h; cases h
          obtain ⟨k1, k2, _⟩ := ih a a' h1
          obtain ⟨j1, j2, _⟩ := ih b b' h2
          exact ⟨(snd_rngT x (hl e1) c.calm b1 b2 (prg_2 g1 g2 k1.pe j1.pe (k2 [b]) (j2 []) (by rw [j2 []]; rfl)) rfl).imp fun σ H Q h => rd_rng2 h, fun i => by simp⟩
    · cases h
  · cases h
theorem compKw_nil {kws : List Keyword} (h : compKw f kws = some ([], [])) : kws = [] := by
  cases kws with
  | nil => rfl
  | cons k r =>
    obtain ⟨nm, v, kp⟩ := k
    cases nm with
    | none => simp [compKw] at h
    | some nm =>
      simp only [compKw] at h
      cases h1 : f v with
      | none => rw [h1] at h; cases h
      | some a =>
        rw [h1] at h
        cases h2 : compKw f r with
        | none => rw [h2] at h; cases h
        | some p => rw [h2] at h; cases h
theorem upC_or (m : List Nat) (k : Nat) (es1 es2 : List E) (pm : List Nat) : upC m k es1 es2 pm = .call k (es1 ++ es2) pm ∨ ∃ e, es1 = [e] ∧ es2 = [] ∧ pm = [0] ∧ upC m k es1 es2 pm = .call1 k e := by
  unfold upC
  split
  · split
    · exact .inr ⟨_, rfl, rfl, rfl, rfl⟩
    · exact .inl rfl
  · exact .inl rfl
theorem compCall_ok (c : Cn G sc X B L n) (ih : Fok X B L f) {x : Str} {p : Pos} {es : List Expr} {kws : List Keyword} {e' : E} (h : compCall f G.T sc x es kws = some e') : PE X (.Call (.Name x p) es kws pos) (rdE B L e') ∧ ∀ i, e' ≠ .var i := by
  unfold compCall at h
  cases hrn : compRng f G.T sc x es kws with
  | some e => rw [hrn] at h; cases h; exact compRng_ok c ih hrn
  | none =>
  rw [hrn] at h
  simp only at h
  split at h
  · rename_i hx
    obtain ⟨hx, rfl⟩ := hx
    obtain ⟨r1, r2⟩ := c.blt hx
    split at h
    · rename_i a t tp
      split at h
      · rename_i ht
        obtain ⟨t1, t2⟩ := c.blt ht
        cases h1 : tyS t with
        | none => rw [h1] at h; cases h
        | some t' =>
          rw [h1] at h
          cases h2 : f a with
          | none => rw [h2] at h; cases h
          | some a' =>
            rw [h2] at h; cases h
            obtain ⟨q1, q2, q3⟩ := tyS_ok h1
            obtain ⟨k1, k2, _⟩ := ih a a' h2
            exact ⟨snd_isin1 c.K r1 r2 t1 t2 q1 q2 q3 k1.pa (k2 _), fun i => by simp⟩
      · cases h
    · rename_i a ts tk tp
      cases h1 : compTys G.T sc ts with
      | none => rw [h1] at h; cases h
      | some ts' =>
        rw [h1] at h
        simp only [Option.bind_some] at h
        split at h
        · rename_i hz
          cases h2 : f a with
          | none => rw [h2] at h; cases h
          | some a' =>
            rw [h2] at h; cases h
            obtain ⟨k1, k2, _⟩ := ih a a' h2
            exact ⟨snd_isinT c.K r1 r2 (compTys_ok c h1) hz k1.pa (k2 _), fun i => by simp⟩
        · cases h
    · cases h
  · split at h
    · rename_i b bt hb
      split at h
      · rename_i hc
        obtain ⟨hx, hk, he⟩ := hc
        obtain ⟨r1, r2⟩ := c.blt hx
        cases kws with
        | cons k ks => simp at hk
        | nil =>
        cases es with
        | nil => simp at he
        | cons e es =>
          cases h1 : compL f (e :: es) with
          | none => rw [h1] at h; cases h
          | some es' =>
            rw [h1] at h; cases h
            obtain ⟨q1, q2, q3, q4, q5⟩ := biS_ok hb
            obtain ⟨k1, _, _, k4, k5⟩ := compL_ok ih h1
            have s1 := k5 e es rfl
            have pl : (backTo pos (starEach es X.env)).any (·.1) = false := by
              have := k4 pos
              rw [s1] at this
              simpa [backTo] using this
            refine ⟨?_, fun i => by simp⟩
            have sb := sound_bi (X := X) (B := B) b c.calm c.K
            cases bt with
            | true =>
              obtain ⟨T, hT⟩ := q4 rfl
              rw [hT] at sb q1
              exact (pe_callTy sb r1 r2 q1 k1 q2 q3 s1 pl).imp fun σ H Q h => rd_bi h
            | false =>
              obtain ⟨T, hT⟩ := q5 rfl
              rw [hT] at sb q1
              exact (pe_callB sb r1 r2 q1 k1 q2 q3 s1 pl).imp fun σ H Q h => rd_bi h
      · cases h
    · split at h
      · rename_i hg
        obtain ⟨hT, hx, rfl, hk, he⟩ := hg
        cases kws with
        | cons k ks => simp at hk
        | nil =>
        cases es with
        | nil => simp at he
        | cons e es =>
          cases h1 : compL f (e :: es) with
          | none => rw [h1] at h; cases h
          | some es' =>
            rw [h1] at h; cases h
            obtain ⟨k1, _, _, k4, k5⟩ := compL_ok ih h1
            have s1 := k5 e es rfl
            have pl : (backTo pos (starEach es X.env)).any (·.1) = false := by
              have := k4 pos
              rw [s1] at this
              simpa [backTo] using this
            refine ⟨?_, fun i => by simp⟩
            have sb := sound_bi (X := X) (B := B) .gcd c.calm c.K
            exact (pe_callBfun sb (c.gl hx) (c.T.gcd hT) k1 (by decide) s1 pl).imp fun σ H Q h => rd_bi h
      · split at h
        · rename_i hg
          obtain ⟨hT, hx, rfl, hk, he⟩ := hg
          cases kws with
          | cons k ks => simp at hk
          | nil =>
          cases es with
          | nil => simp at he
          | cons e es =>
            cases h1 : compL f (e :: es) with
            | none => rw [h1] at h; cases h
            | some es' =>
              rw [h1] at h; cases h
              obtain ⟨k1, _, _, k4, k5⟩ := compL_ok ih h1
              have s1 := k5 e es rfl
              have pl : (backTo pos (starEach es X.env)).any (·.1) = false := by
                have := k4 pos
                rw [s1] at this
                simpa [backTo] using this
              refine ⟨?_, fun i => by simp⟩
              have sb := sound_bi (X := X) (B := B) .lcm c.calm c.K
              exact (pe_callBfun sb (c.gl hx) (c.T.lcm hT) k1 (by decide) s1 pl).imp fun σ H Q h => rd_bi h
        split at h
        · rename_i hg
          obtain ⟨hx, hn⟩ := hg
          cases hl : G.T.fns.lookup x with
          | none => rw [hl] at h; cases h
          | some fp =>
            obtain ⟨fi, pats⟩ := fp
            rw [hl] at h
            simp only at h
            cases h1 : compL f es with
            | none => rw [h1] at h; cases h
            | some es1 =>
              rw [h1] at h
              cases h2 : compKw f kws with
              | none => rw [h2] at h; cases h
              | some p2 =>
                rw [h2] at h
                simp only [Option.bind_some] at h
                cases h3 : pats.find? (fun q => decide (q.1 = es1.length ∧ q.2.1 = p2.1)) with
                | none => rw [h3] at h; cases h
                | some q =>
                  rw [h3] at h; cases h
                  obtain ⟨m, ks, pm⟩ := q
                  have hm := List.mem_of_find?_eq_some h3
                  have hp := of_decide_eq_true (List.find?_some (p := fun q : Nat × List Str × List Nat => decide (q.1 = es1.length ∧ q.2.1 = p2.1)) h3)
                  simp only at hp
                  obtain ⟨rfl, rfl⟩ := hp
                  obtain ⟨fa, fd, ps, F, g1, g2, g3, g4⟩ := c.T.fn x fi pats hl
                  obtain ⟨b1, b2, b3⟩ := g4 _ _ _ hm
                  obtain ⟨k1, _, k3, k4, k5⟩ := compL_ok ih h1
                  obtain ⟨j1, j2, j3⟩ := compKw_ok ih h2
                  obtain ⟨w1, w2, w3⟩ := j3 pos
                  have main : PE X (.Call (.Name x p) es kws pos) (rdE B L (.call fi (es1 ++ p2.2) pm)) := by
                    refine snd_call c.K F c.room c.tk (c.gl hx) g1 g2 (okN_ok hn).1 b1 b2 g3 (fun k hk => ?_) k1 j1 k3 j2 w1 w2 ?_ k5
                    · have := b3 k hk
                      rw [List.length_append, j2]; exact this
                    · rw [k4 pos, w3]; rfl
                  show PE X (.Call (.Name x p) es kws pos) (rdE B L (upC G.T.chg fi es1 p2.2 pm)) ∧ ∀ i, upC G.T.chg fi es1 p2.2 pm ≠ .var i
                  rcases upC_or G.T.chg fi es1 p2.2 pm with hu | ⟨e1, rfl, e2, rfl, hu⟩
                  · rw [hu]; exact ⟨main, fun i => by simp⟩
                  · rw [hu]
                    refine ⟨?_, fun i => by simp⟩
                    have eks : p2.1 = [] := by
                      rw [e2] at j2
                      exact List.length_eq_zero_iff.mp j2.symm
                    have ek : kws = [] := by
                      obtain ⟨ks, q2⟩ := p2
                      simp only at e2 eks
                      subst e2 eks
                      exact compKw_nil h2
                    subst ek
                    rw [eks] at b1
                    exact snd_call1 c.K F c.room c.tk (c.gl hx) g1 g2 (okN_ok hn).1 b1 b2.symm g3 (compL_okF ih h1) k3 (k4 pos) k5
        · cases h
theorem compSp_ok (c : Cn G sc X B L n) (ih : Fok X B L f) (hfold : ∀ e e', f e = some e' → ∀ x, foldedSetIterable e X.env x = pure x) {x : Str} {p : Pos} {es : List Expr} {kws : List Keyword} {e' : E} (h : compSp f G sc x es kws = some e') : PE X (.Call (.Name x p) es kws pos) (rdE B L e') ∧ ∀ i, e' ≠ .var i := by
  unfold compSp at h
  split at h
  · rename_i y yp kd cp y2 y2p it scope q
    split at h
    · rename_i hh
      obtain ⟨rfl, hb, rfl, hsc, hn⟩ := hh
      obtain ⟨r1, r2⟩ := c.blt hb
      cases h1 : f it with
      | none => rw [h1] at h; cases h
      | some a' =>
        rw [h1] at h; cases h
        obtain ⟨k1, _, k3⟩ := ih it a' h1
        exact ⟨snd_uniq c.K c.calm (by have := c.units; omega) r1 r2 k1.pa hsc (okN_ok hn).1 k3, fun i => by simp⟩
    · cases h
  · rename_i a key y ap y1 p1 k0 p2 p3 m p4 y2 p5 k1 p6 p7 p8 p9 ls lp kp
    split at h
    · rename_i hh
      obtain ⟨hl, rfl, hb, rfl, rfl, rfl, rfl, hsc⟩ := hh
      obtain ⟨r1, r2⟩ := c.blt hb
      obtain ⟨cc, P, e1, e2, e3⟩ := c.lam hl
      cases h1 : f a with
      | none => rw [h1] at h; cases h
      | some a' =>
        cases h2 : idxN G.N m with
        | none => rw [h1, h2] at h; cases h
        | some mi =>
          rw [h1, h2] at h; cases h
          obtain ⟨k1, k2, k3⟩ := ih a a' h1
          refine ⟨snd_sortk (kd := 0) (c := cc) (P := P) c.K (by have := c.room.un; omega) c.room.depth r1 r2 k1.pa (k2 []) (by rw [c.N]; exact idxN_ok h2) (by rw [c.scp]; exact lamSc_ok hsc) (fun _ _ _ _ _ _ => rfl) rfl e2 e1 e3, fun i => by simp⟩
    · cases h
  · cases h
theorem Cn.blk {scope : Scope} (c : Cn G sc X B L n) (s : Shared) (H : Hp) (C : Addr) (cl : List (Str × Addr)) (fp : List Addr) : Cn G (relS scope sc) (X.blk s H scope (compEnvC scope cl C X.env) fp) B.quiet L n where
  N := c.N
  nd := c.nd
  scp := by rw [← c.scp]; rfl
  K := c.K
  calm := c.calm
  room := c.room
  tk := takes0
  T := c.T
  big := c.big
  lam := c.lam
theorem tg_blk {scope : Scope} (s : Shared) (H : Hp) (C : Addr) (cl : List (Str × Addr)) (fp : List Addr) : TgOk scope (X.blk s H scope (compEnvC scope cl C X.env) fp) := fun x h => by
  rcases h with h | h
  · have e : (relS scope X.env.scope).names.lookup x = some .local := lookup_relS_keep (by simp) h
    exact ⟨.inl e, .inr e⟩
  · have e : (relS scope X.env.scope).names.lookup x = some .cell := lookup_relS_keep (by simp) h
    refine ⟨.inr e, .inl ?_⟩
    show (scope.names.lookup x == some NameKind.cell) = true
    rw [h]; rfl
end
theorem compI_fold {G : CG} {m : Nat} {sc : Scope} {T : Tab} {sc2 : Scope} {tg it : Expr} {ki : ItK × List E} (h : compI (compE G m sc) T sc2 tg it = some ki) (env : PySem.Env) (x : Value) : foldedSetIterable it env x = pure x := by
  have seq : ∀ {it : Expr}, ((compE G m sc it).map fun a' => (ItK.seq, [a'])) = some ki → foldedSetIterable it env x = pure x := fun {it} h => by
    cases h1 : compE G m sc it with
    | none => rw [h1] at h; cases h
    | some a => exact compE_fold h1 env x
  unfold compI at h
  split at h
  · rfl
  · rfl
  · exact seq h
theorem compE_ok {G : CG} {L : Lib} {n : Nat} : ∀ (m : Nat) {sc : Scope} {e : Expr} {e' : E}, compE G m sc e = some e' → ∀ {X : Cx} {B : Sx}, Cn G sc X B L n → Snd X B L e e' := by
  intro m
  induction m with
  | zero => intro sc e e' h; simp [compE] at h
  | succ m ih =>
    intro sc e e' h X B c
    have fk : ∀ {sc : Scope} {X : Cx} {B : Sx}, Cn G sc X B L n → Fok X B L (compE G m sc) := fun {sc X B} c e e' h => ⟨ih h c, fun r => compE_star h r _, fun x => compE_fold h _ x⟩
    change stepE G (compE G m) sc e = some e' at h
    unfold stepE at h
    split at h
    · -- names
      rename_i x p
      split at h
      · rename_i hn
        split at h
        · rename_i hv
          cases h1 : idxN G.N x with
          | none => rw [h1] at h; cases h
          | some i =>
            rw [h1] at h; cases h
            obtain ⟨d1, d2⟩ := okN_ok hn
            have hN : X.N[i]? = some x := by rw [c.N]; exact idxN_ok h1
            have hV : Vis X.env.scope x := by rw [c.scp]; exact visB_ok hv
            exact ⟨snd_var hN hV d1 d2, snd_varA hN hV d1 d2, snd_T c.K (snd_varA hN hV d1 d2) fun _ => rfl⟩
        · split at h
          · rename_i hg
            cases h1 : G.T.con.lookup x with
            | none => rw [h1] at h; cases h
            | some k =>
              rw [h1] at h; cases h
              obtain ⟨u, v, d, q1, q2, q3, q4⟩ := c.T.con x k h1
              exact .of c.K (by simp) (snd_glo (c.gl hg) q1 q2 (okN_ok hn).1 q3 fun U H => c.K ▸ q4 U H) fun _ => rfl
          · cases h
      · cases h
    · -- constants
      rename_i k j p
      cases k with
      | none => cases h; exact .of c.K (by simp) (snd_con pe_non fun U H => .non) fun _ => rfl
      | bool b => cases h; exact .of c.K (by simp) (snd_con pe_bl fun U H => .bl b) fun _ => rfl
      | int i => cases h; exact .of c.K (by simp) (snd_con pe_int fun U H => .int i) fun _ => rfl
      | str x =>
        simp only [conD] at h
        split at h
        · rename_i hx
          cases h
          exact .of c.K (by simp) (snd_con pe_str fun U H => .str x hx) fun _ => rfl
        · cases h
      | _ => simp [conD] at h
    · rename_i a op b p
      cases h1 : bopOf op with
      | none => rw [h1] at h; cases h
      | some o =>
        cases h2 : compE G m sc a with
        | none => rw [h1, h2] at h; cases h
        | some a' =>
          cases h3 : compE G m sc b with
          | none => rw [h1, h2, h3] at h; cases h
          | some b' =>
            rw [h1, h2, h3] at h; cases h
            exact .of c.K (by simp) (snd_bin h1 c.K (ih h2 c).pa (ih h3 c).pa) fun _ => rfl
    · rename_i a op b p
      split at h
      · cases h
      · rename_i hb
        cases h2 : compE G m sc a with
        | none => rw [h2] at h; cases h
        | some a' =>
          cases h3 : compE G m sc b with
          | none => rw [h2, h3] at h; cases h
          | some b' =>
            rw [h2, h3] at h; cases h
            have hb : behindInMarks op b = false := by simpa using hb
            have he := snd_cmp (pos := p) c.K c.units (ih h2 c).pa (ih h3 c).pa hb
            exact ⟨he, snd_arg (by simp) he, snd_Tcmp c.K c.units (ih h2 c).pa (ih h3 c).pa hb⟩
    · rename_i a op op' b z p
      split at h
      · cases h
      · rename_i hb
        cases h2 : compE G m sc a with
        | none => rw [h2] at h; cases h
        | some a' =>
          cases h3 : compE G m sc b with
          | none => rw [h2, h3] at h; cases h
          | some b' =>
            cases h4 : compE G m sc z with
            | none => rw [h2, h3, h4] at h; cases h
            | some z' =>
              rw [h2, h3, h4] at h; cases h
              have hb : lastMarks [op, op'] [b, z] = false := by simpa using hb
              have he := snd_chn (pos := p) c.K c.units (ih h2 c).pe (ih h3 c).pe (ih h4 c).pe hb
              exact ⟨he, snd_arg (by simp) he, snd_Tchn c.K c.units (ih h2 c).pe (ih h3 c).pe (ih h4 c).pe hb⟩
    · rename_i a p
      cases h2 : compE G m sc a with
      | none => rw [h2] at h; cases h
      | some a' => rw [h2] at h; cases h; exact .of c.K (by simp) (snd_neg (ih h2 c).pa) fun _ => rfl
    · rename_i a p
      cases h2 : compE G m sc a with
      | none => rw [h2] at h; cases h
      | some a' =>
        rw [h2] at h; cases h
        have he := snd_not (pos := p) c.K (ih h2 c).pa
        exact ⟨he, snd_arg (by simp) he, snd_Tnot (ih h2 c).pt⟩
    · rename_i op a b r p
      obtain ⟨q1, q2, q3⟩ := compBo_ok (pos := p) c.K (fk c) h
      exact ⟨q1, snd_arg (q3 a b r rfl) q1, q2.pt⟩
    · rename_i z a b p
      cases h1 : compE G m sc z with
      | none => rw [h1] at h; cases h
      | some z' =>
        cases h2 : compE G m sc a with
        | none => rw [h1, h2] at h; cases h
        | some a' =>
          cases h3 : compE G m sc b with
          | none => rw [h1, h2, h3] at h; cases h
          | some b' =>
            rw [h1, h2, h3] at h; cases h
            have he := snd_ite (pos := p) (ih h1 c).pt (ih h2 c).pe (ih h3 c).pe
            exact ⟨he, snd_arg (by simp) he, snd_PTite (ih h1 c).pt (ih h2 c).pt (ih h3 c).pt⟩
    · rename_i es k p
      cases h1 : compL (compE G m sc) es with
      | none => rw [h1] at h; cases h
      | some xs =>
        rw [h1] at h
        simp only [Option.bind_some] at h
        split at h
        · rename_i hz
          cases h
          exact .of c.K (by simp) (snd_tup (compL_ok (fk c) h1).2.1 hz) fun _ => rfl
        · cases h
    · rename_i es p
      cases h1 : compL (compE G m sc) es with
      | none => rw [h1] at h; cases h
      | some xs =>
        rw [h1] at h
        simp only [Option.bind_some] at h
        split at h
        · rename_i hz
          cases h
          exact .of c.K (by simp) (snd_lst (compL_ok (fk c) h1).2.1 hz) fun _ => rfl
        · cases h
    · rename_i a k p1 p2 p3 p
      cases h1 : compE G m sc a with
      | none => rw [h1] at h; cases h
      | some a' => rw [h1] at h; cases h; exact .of c.K (by simp) (snd_rev c.K (ih h1 c).pa) fun _ => rfl
    · rename_i a lo hi p2 p
      cases h1 : compE G m sc a with
      | none => rw [h1] at h; cases h
      | some a' =>
        cases h2 : compO (compE G m sc) lo with
        | none => rw [h1, h2] at h; cases h
        | some l' =>
          cases h3 : compO (compE G m sc) hi with
          | none => rw [h1, h2, h3] at h; cases h
          | some h' =>
            rw [h1, h2, h3] at h; cases h
            exact .of c.K (by simp) (snd_cut c.K (ih h1 c).pa (compO_ok (fk c) h2) (compO_ok (fk c) h3)) fun _ => rfl
    · rename_i x p es k tp p2
      split at h
      · rename_i g hg
        split at hg
        · rename_i hgl
          cases h1 : compE G m sc (.Tuple es k tp) with
          | none => rw [h1] at h; cases h
          | some i' =>
            rw [h1] at h; cases h
            obtain ⟨u, kvs, q1, q2, q3⟩ := c.T.dic x g hg
            exact .of c.K (by simp) (snd_gdx c.K (by have := c.units; omega) (c.gl hgl.1) q1 (okN_ok hgl.2).1 q3 q2 (ih h1 c).pe (fun _ _ => rfl)) fun _ => rfl
        · cases hg
      · cases h1 : compE G m sc (.Name x p) with
        | none => rw [h1] at h; cases h
        | some a' =>
          cases h2 : compE G m sc (.Tuple es k tp) with
          | none => rw [h1, h2] at h; cases h
          | some i' =>
            rw [h1, h2] at h; cases h
            exact .of c.K (by simp) (snd_ix c.K (ih h1 c).pa (ih h2 c).pa (compE_ix h2)) fun _ => rfl
    · rename_i a i p _ _ _
      cases h1 : compE G m sc a with
      | none => rw [h1] at h; cases h
      | some a' =>
        cases h2 : compE G m sc i with
        | none => rw [h1, h2] at h; cases h
        | some i' =>
          rw [h1, h2] at h; cases h
          exact .of c.K (by simp) (snd_ix c.K (ih h1 c).pa (ih h2 c).pa (compE_ix h2)) fun _ => rfl
    · rename_i x p es kws pos
      split at h
      · rename_i e0 hsp
        cases h
        obtain ⟨q1, q2⟩ := compSp_ok (pos := pos) (p := p) c (fk c) (fun e e' h x => compE_fold h _ x) hsp
        exact .of c.K q2 q1 fun _ => rfl
      · obtain ⟨q1, q2⟩ := compCall_ok (pos := pos) (p := p) c (fk c) h
        exact .of c.K q2 q1 fun _ => rfl
    · rename_i x p nm ap e cp
      split at h
      · rename_i hc
        obtain ⟨rfl, hl⟩ := hc
        cases h1 : compE G m sc (.Name x p) with
        | none => rw [h1] at h; cases h
        | some a' =>
          cases h2 : compE G m sc e with
          | none => rw [h1, h2] at h; cases h
          | some e' =>
            rw [h1, h2] at h; cases h
            exact .of c.K (by simp) (snd_idx c.K c.units (ih h1 c).pe (ih h2 c).pe (compE_star h2 [] _) hl) fun _ => rfl
      · cases h
    · rename_i elt g scope p
      obtain ⟨tg, iter, ifs, ia⟩ := g
      simp only at h
      split at h
      · rename_i hh
        obtain ⟨rfl, hB, hlen⟩ := hh
        cases h1 : compTg G.N scope tg with
        | none => rw [h1] at h; cases h
        | some tgt =>
          rw [h1] at h
          simp only [Option.bind_some] at h
          split at h
          · rename_i hs
            cases h2 : compI (compE G m sc) G.T sc tg iter with
            | none => rw [h2] at h; cases h
            | some ki =>
              obtain ⟨k, es'⟩ := ki
              cases h3 : compL (compE G m (relS scope sc)) ifs with
              | none => rw [h2, h3] at h; cases h
              | some cs =>
                cases h4 : compE G m (relS scope sc) elt with
                | none => rw [h2, h3, h4] at h; cases h
                | some elt' =>
                  rw [h2, h3, h4] at h; cases h
                  obtain ⟨i1, i2⟩ := compI_ok c (fk c) h2
                  refine .of c.K (by simp) (snd_lc c.calm (c.N ▸ c.nd) i1 (by rw [c.N, c.scp]; exact blkOk_by hB) hs (fun s H C cl fp => compTg_ok (tg_blk s H C cl fp) (c.blk s H C cl fp) h1) (fun s H C cl fp => ?_) (fun s H C cl fp => (ih h4 (c.blk s H C cl fp)).pe) i2) fun _ => rfl
                  rcases ifs with _ | ⟨b, _ | ⟨b2, r⟩⟩
                  · simp only [compL] at h3; cases h3; exact snd_H0
                  · simp only [compL] at h3
                    cases h5 : compE G m (relS scope sc) b with
                    | none => rw [h5] at h3; cases h3
                    | some b' => rw [h5] at h3; cases h3; exact snd_H1 (ih h5 (c.blk s H C cl fp)).pt
                  · simp at hlen
          · cases h
      · cases h
    · rename_i elt g g1 scope p
      obtain ⟨tg, iter, ifs, ia⟩ := g
      obtain ⟨tg1, iter1, ifs1, ia1⟩ := g1
      simp only at h
      split at h
      · rename_i hh
        obtain ⟨rfl, rfl, hB, hlen, hlen1⟩ := hh
        cases h1 : compTg G.N scope tg with
        | none => rw [h1] at h; cases h
        | some tgt =>
          cases h1' : compTg G.N scope tg1 with
          | none => rw [h1, h1'] at h; cases h
          | some tgt1 =>
          rw [h1, h1'] at h
          simp only [Option.bind_some] at h
          split at h
          · rename_i hs
            cases h2 : compI (compE G m sc) G.T sc tg iter with
            | none => rw [h2] at h; cases h
            | some ki =>
              obtain ⟨k, es'⟩ := ki
              cases h3 : compL (compE G m (relS scope sc)) ifs with
              | none => rw [h2, h3] at h; cases h
              | some cs =>
                cases h2' : compI (compE G m (relS scope sc)) G.T (relS scope sc) tg1 iter1 with
                | none => rw [h2, h3, h2'] at h; cases h
                | some ki1 =>
                obtain ⟨k1, es1'⟩ := ki1
                cases h3' : compL (compE G m (relS scope sc)) ifs1 with
                | none => rw [h2, h3, h2', h3'] at h; cases h
                | some cs1 =>
                cases h4 : compE G m (relS scope sc) elt with
                | none => rw [h2, h3, h2', h3', h4] at h; cases h
                | some elt' =>
                  rw [h2, h3, h2', h3', h4] at h; cases h
                  obtain ⟨i1, i2⟩ := compI_ok c (fk c) h2
                  have tests : ∀ {ifs : List Expr} {cs : List E}, ifs.length ≤ 1 → compL (compE G m (relS scope sc)) ifs = some cs → ∀ (s : Shared) (H : Hp) (C : Addr) (cl : List (Str × Addr)) (fp : List Addr), PTs (X.blk s H scope (compEnvC scope cl C X.env) fp) ifs (rdH B.quiet L cs) := by
                    intro ifs cs hlen h3 s H C cl fp
                    rcases ifs with _ | ⟨b, _ | ⟨b2, r⟩⟩
                    · simp only [compL] at h3; cases h3; exact snd_H0
                    · simp only [compL] at h3
                      cases h5 : compE G m (relS scope sc) b with
                      | none => rw [h5] at h3; cases h3
                      | some b' => rw [h5] at h3; cases h3; exact snd_H1 (ih h5 (c.blk s H C cl fp)).pt
                    · simp at hlen
                  exact .of c.K (by simp) (snd_lc2 c.calm (c.N ▸ c.nd) i1 (by rw [c.N, c.scp]; exact blkOk_by hB) hs.1 hs.2 (fun s H C cl fp => compTg_ok (tg_blk s H C cl fp) (c.blk s H C cl fp) h1) (tests hlen h3) (fun s H C cl fp => (compI_ok (c.blk s H C cl fp) (fk (c.blk s H C cl fp)) h2').1)
                    (fun s H C cl fp => compTg_ok (tg_blk s H C cl fp) (c.blk s H C cl fp) h1') (tests hlen1 h3') (fun s H C cl fp => (ih h4 (c.blk s H C cl fp)).pe) i2 (fun env x => compI_fold h2' env x)) fun _ => rfl
          · cases h
      · cases h
    · cases h
end Pi

set_option Elab.async false
set_option linter.all false
set_option maxRecDepth 100000
set_option maxHeartbeats 4000000
/-! PiQ: from the text's trees to the interpreter's: statements. -/
namespace Pi
open PySem PySem.Spec PyProof.Rows L2
variable [HasT]

def isComp : Expr → Bool
  | .ListComp _ _ _ _ => true
  | .SetComp _ _ _ _ => true
  | .DictComp _ _ _ _ _ => true
  | _ => false
theorem sw_no {e : Expr} (h : isComp e = false) (t : Option Expr) (l : Nat) (env : PySem.Env) : swapsWith e t l env = pure false := by
  cases e <;> first | rfl | (simp [isComp] at h; done)
/-- whether the new list is at once the name's -/
def swB (sc : Scope) (x : Str) (p : Pos) : Expr → Bool
  | .ListComp _ _ s q => (sc.names.lookup x == some NameKind.local) && p.line == q.line && !(s.names.any fun (n, k) => n == x && (k == .local || k == .cell))
  | _ => false
theorem sw_lc {elt : Expr} {gs : List Comprehension} {s : Scope} {q : Pos} {x : Str} {p : Pos} {l : Nat} {env : PySem.Env} (hk : env.scope.kind = .function) :
    swapsWith (.ListComp elt gs s q) (some (.Name x p)) l env = pure (swB env.scope x p (.ListComp elt gs s q)) := by
  show (pure (env.blockKind == .function && env.kindOf x == some .local && p.line == q.line && !(s.names.any fun (n, k) => n == x && (k == .local || k == .cell))) : Sem Bool) = _
  have : env.blockKind = .function := by
    unfold Env.blockKind
    rw [hk]; rfl
  rw [this]
  rfl
theorem sw_tup {e : Expr} {ts : List Expr} {k : Nat} {tp : Pos} (l : Nat) (env : PySem.Env) : swapsWithSole [.Tuple ts k tp] e l env = pure false := by
  cases e <;> rfl
theorem sw_sub {e : Expr} {o i : Expr} {tp : Pos} (l : Nat) (env : PySem.Env) : swapsWithSole [.Subscript o i tp] e l env = pure false := by
  cases e <;> rfl
theorem ss_sub {e : Expr} {o i : Expr} {tp : Pos} (env : PySem.Env) : swappedStores [.Subscript o i tp] e env = pure none := by
  cases e <;> rfl
def isTupE : Expr → Bool
  | .Tuple _ _ _ => true
  | _ => false
theorem ss_nt {e : Expr} (h : isTupE e = false) {ts : List Expr} {k : Nat} {tp : Pos} (env : PySem.Env) : swappedStores [.Tuple ts k tp] e env = pure none := by
  cases e <;> first | rfl | (simp [isTupE] at h; done)
def swNames (sc : Scope) (ts : List Expr) : List Str := ts.filterMap fun
  | .Name id pos => if sc.names.lookup id == some .local && pos.line == ((ts.head?.map (·.pos.line)).getD 0) then some id else none
  | _ => none
def starAny (vs : List Expr) : Bool := vs.any fun | .Starred .. => true | _ => false
/-- how several names take several values: none: not known -/
def swS (sc : Scope) (ts vs : List Expr) : Option (Option (List Str)) :=
  if (!(ts.length == 2 || ts.length == 3) || vs.length != ts.length) = true then some none
  else if starAny vs = true then some none
  else if ((swNames sc ts).length != ts.length || (swNames sc ts).eraseDups.length != (swNames sc ts).length) = true then some none
  else if vs.all (foldedForSure 8) = true then some none
  else if vs.all (constantsAlone 8) = true then none
  else some (some (swNames sc ts))
theorem ss_t {ts vs : List Expr} {k k2 : Nat} {tp vp : Pos} {env : PySem.Env} (hk : env.scope.kind = .function) {r : Option (List Str)} (h : swS env.scope ts vs = some r) : swappedStores [.Tuple ts k tp] (.Tuple vs k2 vp) env = pure r := by
  have hb : (env.blockKind != .function) = false := by
    have : env.blockKind = .function := by
      unfold Env.blockKind
      rw [hk]; rfl
    rw [this]; rfl
  show (if (!(ts.length == 2 || ts.length == 3) || vs.length != ts.length || env.blockKind != .function) = true then (pure none : Sem (Option (List Str)))
    else if starAny vs = true then pure none
    else if ((swNames env.scope ts).length != ts.length || (swNames env.scope ts).eraseDups.length != (swNames env.scope ts).length) = true then pure none
    else if vs.all (foldedForSure 8) = true then pure none
    else if vs.all (constantsAlone 8) = true then (unsupported "assign.tuple-of-constant-expressions:order-of-the-stores" >>= fun _ => pure (some (swNames env.scope ts)))
    else pure (some (swNames env.scope ts))) = pure r
  rw [hb, Bool.or_false]
  unfold swS at h
  repeat' split at h
  all_goals first | (cases h; done) | skip
  all_goals (cases h; simp only [*, if_true, if_false, Bool.false_eq_true])
end Pi

set_option Elab.async false
set_option linter.all false
set_option maxRecDepth 100000
set_option maxHeartbeats 4000000
/-! PiR: the statements' trees keep to the interpreter's. -/
namespace Pi
open PySem PySem.Spec PyProof.Rows L2
variable [HasT]

def compX0 (G : CG) (sc : Scope) (en : Option Str) (e : Expr) : Option XE := match e with
  | .Constant c _ _ => (conD c).map .con
  | .UnaryOp .USub (.Constant (.int i) _ _) _ => none
  | .Call (.Name b _) [.Name x _, .Name cn _] [] _ => if bltB G.T sc b = true ∧ b = ("isinstance" : Str) ∧ en = some x ∧ glB sc cn = true ∧ okN cn = true ∧ okN x = true ∧ visB sc x = true then (G.T.cls.lookup cn).map .isin else none
  | .Attribute (.Name x _) f _ => if en = some x ∧ okN x = true ∧ visB sc x = true then some (.fld f) else none
  | _ => none
def compXl (G : CG) (sc : Scope) (en : Option Str) : List Expr → Option (List XE)
  | [] => some []
  | e :: es => (compX0 G sc en e).bind fun x => (compXl G sc en es).map (x :: ·)
def compX (G : CG) (sc : Scope) (en : Option Str) (e : Expr) : Option XE := match e with
  | .Tuple es _ _ => (compXl G sc en es).bind fun xs => if xs.length ≤ 1000 then some (.tup xs) else none
  | e => compX0 G sc en e
/-- a suite of one store -/
def compXS (G : CG) (sc : Scope) (en : Option Str) (ss : List Stmt) : Option (List XS) := match ss with
  | [.Assign [.Name y _] e _] => if locB sc y = true ∧ isComp e = false then (idxN G.N y).bind fun j => if j ∈ G.Z then (compX G sc en e).map fun x => [.asg j x] else none else none
  | _ => none
def allLoc (sc : Scope) (ns : List Str) : Bool := ns.all fun x => match sc.names.lookup x with | some .local => true | _ => false
def compH (G : CG) (sc : Scope) (h : ExceptHandler) : Option (Nat × Option Nat × List XS) := match h with
  | .ExceptHandler (some (.Name cn _)) none ss _ => if glB sc cn = true ∧ okN cn = true then (G.T.cls.lookup cn).bind fun c => (compXS G sc none ss).map fun x => (c, none, x) else none
  | .ExceptHandler (some (.Name cn _)) (some en) ss _ => if glB sc cn = true ∧ okN cn = true ∧ allLoc sc [en] = true then (idxN G.N en).bind fun i => if i ∈ G.Z then (G.T.cls.lookup cn).bind fun c => (compXS G sc (some en) ss).map fun x => (c, some i, x) else none else none
  | _ => none
def compHs (G : CG) (sc : Scope) : List ExceptHandler → Option (List (Nat × Option Nat × List XS))
  | [] => some []
  | h :: hs => (compH G sc h).bind fun p => (compHs G sc hs).map fun r => p :: r
def compSL (f : Stmt → Option S) : List Stmt → Option (List S)
  | [] => some []
  | s :: ss => (f s).bind fun x => (compSL f ss).map (x :: ·)
def augB : Operator → Option Bop
  | .Add => some .add
  | .Sub => some .sub
  | _ => none
def stepS (G : CG) (cE : Expr → Option E) (cS : List Stmt → Option (List S)) (sc : Scope) (st : Stmt) : Option S := match st with
  | .Pass _ => some .pass
  | .Break _ => some .brk
  | .Continue _ => some .cnt
  | .Expr (.Call (.Attribute (.Name x _) attr ap) [e] [] cp) _ =>
    if visB sc x = true ∧ okN x = true ∧ (ap.endLine == cp.line) = true then
      if attr = ("append" : Str) then (idxN G.N x).bind fun i => (cE e).map fun y => .app i y
      else if attr = ("extend" : Str) then (idxN G.N x).bind fun i => (cE e).map fun y => .ext i y
      else none
    else none
  | .Expr e _ => if isComp e = true then none else (cE e).map .expr
  | .Return none _ => some .retN
  | .Return (some (.Name x _)) _ => if visB sc x = true ∧ okN x = true then (idxN G.N x).map fun i => .ret (.var i) else none
  | .Return (some e) _ => (cE e).bind fun y => match y with
    | .var _ => none
    | _ => some (.ret y)
  | .Assign [.Name x p] e _ => if locB sc x = true then (idxN G.N x).bind fun i => if i ∈ G.Z then (cE e).map fun y => .asg (.name i) y else none else none
  | .Assign [.Tuple ts _ _] (.Tuple vs k vp) _ =>
    (compNs G.N sc ts).bind fun is => if ∀ i ∈ is, i ∈ G.Z then
      match swS sc ts vs with
      | none => none
      | some none => (compL cE vs).bind fun ys => if ys.length ≤ 1000 then some (.par is ys) else none
      | some (some ns) => if is.Nodup ∧ allLoc sc ns = true then match ts, vs, is with
        | [.Name x _, .Name y _], [a, b], [i, j] => if ns = [x, y] then (cE a).bind fun a' => (cE b).map fun b' => .par [i, j] [a', b'] else none
        | [.Name x _, .Name y _, .Name z _], [a, b, c], [i, j, l] => if ns = [x, y, z] then (cE a).bind fun a' => (cE b).bind fun b' => (cE c).map fun c' => .par [i, j, l] [a', b', c'] else none
        | _, _, _ => none else none
    else none
  | .Assign [.Tuple ts _ _] e _ => (compNs G.N sc ts).bind fun is => if ∀ i ∈ is, i ∈ G.Z then (cE e).map fun y => .asg (.tup is) y else none
  | .Assign [.Subscript (.Name x _) i _] e _ => if visB sc x = true ∧ okN x = true then (idxN G.N x).bind fun j => (cE i).bind fun i' => (cE e).map fun y => .set j i' y else none
  | .AugAssign (.Name x _) op e _ => if locB sc x = true then (augB op).bind fun o => (idxN G.N x).bind fun i => if i ∈ G.Z then (cE e).map fun y => .aug i o y else none else none
  | .If c p q _ => (cE c).bind fun c' => (cS p).bind fun p' => (cS q).map fun q' => .ite c' p' q'
  | .While c b [] _ => (cE c).bind fun c' => (cS b).map fun b' => .whl c' b'
  | .For tg it b [] _ => (compTg G.N sc tg).bind fun tgt => if ∀ i ∈ tgt.slots, i ∈ G.Z then (compI cE G.T sc tg it).bind fun ki => (cS b).map fun b' => .fo tgt ki.1 ki.2 b' else none
  | .Raise (some (.Call (.Name x _) [.Constant (.str _) _ _] [] _)) none _ => if glB sc x = true ∧ okN x = true ∧ G.T.fld.lookup x = none then (G.T.cls.lookup x).map .raise else none
  | .Raise (some (.Call (.Name x _) [e] [] _)) none _ => if glB sc x = true ∧ okN x = true then (G.T.fld.lookup x).bind fun p => (cE e).map fun y => .raisE p.1 p.2 y else none
  | .Try b (h :: hs) [] [] _ => (compHs G sc (h :: hs)).bind fun r => (cS b).map fun b' => .tr b' r
  | _ => none
def compS (G : CG) (sc : Scope) : Nat → Stmt → Option S
  | 0 => fun _ => none
  | m + 1 => stepS G (compE G (m + 1) sc) (compSL (compS G sc m)) sc
def compSs (G : CG) (sc : Scope) (m : Nat) (ss : List Stmt) : Option (List S) := compSL (compS G sc m) ss

structure CnS (G : CG) (sc : Scope) (X : Cx) (B : Sx) (L : Lib) (n : Nat) : Prop extends Cn G sc X B L n where
  kind : sc.kind = .function
  tg : TgOk sc X
  own : PassesOwn (model X.prog X.w) X.A X.env X.xe
  stk : X.stack = X.env :: X.outer
  frm : X.env.frame = some X.env.locals
section
variable {X : Cx} {B : Sx} {L : Lib} {G : CG} {sc : Scope} {n : Nat} {pos : Pos}
theorem CnS.try (c : CnS G sc X B L n) {W : WX} {pn : List (Addr × Obj)} {xe : Value → Shared → Prop} (tk : Takes (X.tr pn xe) W) (po : PassesOwn (model X.prog X.w) X.A X.env xe) : CnS G sc (X.tr pn xe) (B.with W) L n where
  N := c.N
  nd := c.nd
  scp := c.scp
  K := c.K
  calm := c.calm
  room := c.room
  tk := tk
  T := c.T
  big := c.big
  lam := c.lam
  kind := c.kind
  tg := c.tg
  own := po
  stk := c.stk
  frm := c.frm
theorem Cn.cls (c : Cn G sc X B L n) {x : Str} {k : Nat} (h : G.T.cls.lookup x = some k) : ∃ Ca, ClsOk X.K X.mg B.XR L x k Ca := let ⟨Ca, h, _⟩ := c.T.cls x k h; ⟨Ca, h⟩
theorem compX0_ok (c : CnS G sc X B L n) {en : Option Str} {i : Option Nat} (hen : ∀ x, en = some x → ∃ j, i = some j ∧ X.N[j]? = some x) {e : Expr} {e' : XE} (h2 : compX0 G sc en e = some e')
    (a : Addr) (oe : Obj) (cls : Value) (d : Option Addr) (pn : List (Addr × Obj)) (hz : Zc cls d oe) (hf : ∃ vs, oe.data = .fields vs) (x : Exc) (hx : ∃ U H, B.XR x cls d U H) :
    PE (X.suite a ((a, oe) :: pn)) e (rdX B L x i a d e') ∧ ∀ r env, starEach (e :: r) env = (false, PySem.eval e env) :: starEach r env := by
  unfold compX0 at h2
  split at h2
  · rename_i k j p
    refine ⟨?_, fun _ _ => rfl⟩
    cases k with
    | none => cases h2; exact snd_xcon pe_non fun U H => .non
    | bool b => cases h2; exact snd_xcon pe_bl fun U H => .bl b
    | int i => cases h2; exact snd_xcon pe_int fun U H => .int i
    | str x =>
      simp only [conD] at h2
      split at h2
      · rename_i hx
        cases h2
        exact snd_xcon pe_str fun U H => .str x hx
      · cases h2
    | _ => simp [conD] at h2
  · cases h2
  · rename_i b bp xn xp cn cp p
    split at h2
    · rename_i hh
      obtain ⟨h3, rfl, rfl, h4, h5, h6, h7⟩ := hh
      obtain ⟨r1, r2⟩ := c.toCn.blt h3
      cases h8 : G.T.cls.lookup cn with
      | none => rw [h8] at h2; cases h2
      | some k =>
        rw [h8] at h2; cases h2
        obtain ⟨Ca, O⟩ := c.cls h8
        obtain ⟨j0, rfl, hj0⟩ := hen xn rfl
        obtain ⟨U, H, hx⟩ := hx
        refine ⟨?_, fun _ _ => rfl⟩
        cases hfl : x.fld with
        | some q =>
          refine ⟨fun pins s σ H Q I ⟨_, _, _, _, _, _, e, _⟩ => ?_⟩
          simp [evalX, hfl] at e
        | none =>
          obtain ⟨rfl, DD, rfl, E1, E2⟩ := O.isi x cls d U H hx hfl
          exact snd_xis hfl rfl hj0 (by rw [c.scp]; exact visB_ok h7) (okN_ok h6).1 (okN_ok h6).2 r1 r2 (c.gl h4) O.glob (okN_ok h5).1 E1 hz hf E2
    · cases h2
  · rename_i xn xp f p
    split at h2
    · rename_i hh
      obtain ⟨rfl, h6, h7⟩ := hh
      cases h2
      obtain ⟨j0, rfl, hj0⟩ := hen xn rfl
      obtain ⟨U, H, hx⟩ := hx
      obtain ⟨DD, rfl, hxf⟩ := c.T.xfc x cls d U H hx
      exact ⟨snd_xfld rfl hj0 (by rw [c.scp]; exact visB_ok h7) (okN_ok h6).1 (okN_ok h6).2 (fun d h => hxf f d h) hz hf rfl, fun _ _ => rfl⟩
    · cases h2
  · cases h2
theorem compXl_ok (c : CnS G sc X B L n) {en : Option Str} {i : Option Nat} (hen : ∀ x, en = some x → ∃ j, i = some j ∧ X.N[j]? = some x) (a : Addr) (oe : Obj) (cls : Value) (d : Option Addr) (pn : List (Addr × Obj)) (hz : Zc cls d oe) (hf : ∃ vs, oe.data = .fields vs) (x : Exc) (hx : ∃ U H, B.XR x cls d U H) :
    ∀ {es : List Expr} {es' : List XE}, compXl G sc en es = some es' → PA (X.suite a ((a, oe) :: pn)) es (rdXl B L x i a d es')
  | [], es', h => by simp only [compXl] at h; cases h; exact snd_xnil
  | e :: es, es', h => by
    simp only [compXl] at h
    cases h1 : compX0 G sc en e with
    | none => rw [h1] at h; cases h
    | some e' =>
      cases h2 : compXl G sc en es with
      | none => rw [h1, h2] at h; cases h
      | some r =>
        rw [h1, h2] at h; cases h
        obtain ⟨k1, k2⟩ := compX0_ok c hen h1 a oe cls d pn hz hf x hx
        exact snd_xcons k1 (compXl_ok c hen a oe cls d pn hz hf x hx h2) (k2 _ _)
theorem compXS_ok (c : CnS G sc X B L n) {en : Option Str} {ss : List Stmt} {h : List XS} {i : Option Nat} (hen : ∀ x, en = some x → ∃ j, i = some j ∧ X.N[j]? = some x) (hc : compXS G sc en ss = some h)
    (a : Addr) (oe : Obj) (cls : Value) (d : Option Addr) (pn : List (Addr × Obj)) (hz : Zc cls d oe) (hf : ∃ vs, oe.data = .fields vs) (x : Exc) (hx : ∃ U H, B.XR x cls d U H) :
    PSs (X.suite a ((a, oe) :: pn)) ss (rdXs B G.Z L x i a d h) ∧ ∃ b r, ss = b :: r := by
  unfold compXS at hc
  split at hc
  · rename_i y yp e pos
    split at hc
    · rename_i hl
      obtain ⟨hl, hcm⟩ := hl
      cases h1 : idxN G.N y with
      | none => rw [h1] at hc; cases hc
      | some j =>
        rw [h1] at hc
        simp only [Option.bind_some] at hc
        split at hc
        · rename_i hj
          cases h2 : compX G sc en e with
          | none => rw [h2] at hc; cases hc
          | some e' =>
            rw [h2] at hc; cases hc
            obtain ⟨t1, t2⟩ := c.tg y (locB_ok hl)
            refine ⟨snd_xasg (X := X.suite a ((a, oe) :: pn)) hj (c.N ▸ c.nd) (by rw [show (X.suite a ((a, oe) :: pn)).N = G.N from c.N]; exact idxN_ok h1) t1 t2 ?_ (sw_no hcm _ _ _), _, _, rfl⟩
            unfold compX at h2
            split at h2
            · rename_i es k p
              cases h3 : compXl G sc en es with
              | none => rw [h3] at h2; cases h2
              | some xs =>
                rw [h3] at h2
                simp only [Option.bind_some] at h2
                split at h2
                · rename_i hlen
                  cases h2
                  exact snd_xtup hlen (compXl_ok c hen a oe cls d pn hz hf x hx h3)
                · cases h2
            · exact (compX0_ok c hen h2 a oe cls d pn hz hf x hx).1
        · cases hc
    · cases hc
  · cases hc
theorem allLoc_ok {ns : List Str} (h : allLoc sc ns = true) {x : Str} (hx : x ∈ ns) : sc.names.lookup x = some .local := by
  have := List.all_eq_true.mp h x hx
  split at this
  · assumption
  · cases this
theorem compHs_ok (c : CnS G sc X B L n) : ∀ {hds : List ExceptHandler} {hs : List (Nat × Option Nat × List XS)}, compHs G sc hds = some hs → ∃ l, Hds X B G.Z L hds hs l
  | [], hs, h => by simp only [compHs] at h; cases h; exact ⟨_, .nil⟩
  | h0 :: hds, hs, h => by
    simp only [compHs] at h
    cases h1 : compH G sc h0 with
    | none => rw [h1] at h; cases h
    | some p =>
      cases h2 : compHs G sc hds with
      | none => rw [h1, h2] at h; cases h
      | some r =>
        rw [h1, h2] at h; cases h
        obtain ⟨l, t⟩ := compHs_ok c h2
        unfold compH at h1
        split at h1
        · rename_i cn np ss hp
          split at h1
          · rename_i hh
            cases h3 : G.T.cls.lookup cn with
            | none => rw [h3] at h1; cases h1
            | some k =>
              cases h4 : compXS G sc none ss with
              | none => rw [h3, h4] at h1; cases h1
              | some x =>
                rw [h3, h4] at h1; cases h1
                obtain ⟨Ca, O⟩ := c.cls h3
                cases ss with
                | nil => simp [compXS] at h4
                | cons b0 suite =>
                  exact ⟨_, .cons (c := .ref Ca) ⟨c.gl hh.1, (okN_ok hh.2).1, .inl O.glob⟩ O.hd (fun a oe cls d pn hz hf x hx => (compXS_ok c (en := none) (i := none) (fun x h => by cases h) h4 a oe cls d pn hz hf x hx).1) t⟩
          · cases h1
        · rename_i cn np en ss hp
          split at h1
          · rename_i hh
            obtain ⟨g1, g2, g3⟩ := hh
            cases h5 : idxN G.N en with
            | none => rw [h5] at h1; cases h1
            | some i =>
              rw [h5] at h1
              simp only [Option.bind_some] at h1
              split at h1
              · rename_i hz
                cases h3 : G.T.cls.lookup cn with
                | none => rw [h3] at h1; cases h1
                | some k =>
                  cases h4 : compXS G sc (some en) ss with
                  | none => rw [h3, h4] at h1; cases h1
                  | some x =>
                    rw [h3, h4] at h1; cases h1
                    obtain ⟨Ca, O⟩ := c.cls h3
                    have hi : X.N[i]? = some en := by rw [c.N]; exact idxN_ok h5
                    cases ss with
                    | nil => simp [compXS] at h4
                    | cons b0 suite =>
                      exact ⟨_, .named (c := .ref Ca) ⟨c.gl g1, (okN_ok g2).1, .inl O.glob⟩ hz hi (by show X.env.scope.names.lookup en = _; rw [c.scp]; exact allLoc_ok g3 (by simp)) O.hd
                        (fun a oe cls d pn hz hf x hx => (compXS_ok c (en := some en) (i := some i) (fun y hy => by cases hy; exact ⟨i, rfl, hi⟩) h4 a oe cls d pn hz hf x hx).1) t⟩
              · cases h1
          · cases h1
        · cases h1
theorem compSL_ok {f : Stmt → Option S} (ih : ∀ s s', f s = some s' → PS X s (rdS B G.Z L s')) : ∀ {ss : List Stmt} {ss' : List S}, compSL f ss = some ss' → PSs X ss (rdSs B G.Z L ss')
  | [], ss', h => by simp only [compSL] at h; cases h; exact snd_nilS
  | s :: ss, ss', h => by
    simp only [compSL] at h
    cases h1 : f s with
    | none => rw [h1] at h; cases h
    | some x =>
      cases h2 : compSL f ss with
      | none => rw [h1, h2] at h; cases h
      | some r =>
        rw [h1, h2] at h; cases h
        exact snd_consS (ih s x h1) (compSL_ok ih h2)
end
theorem pns2 {X : Cx} {x y : Str} {px py : Pos} {i j : Nat} (h : PNs X [.Name x px, .Name y py] [i, j]) : X.N[i]? = some x ∧ X.N[j]? = some y := by
  cases h with | cons a _ _ t => cases t with | cons b _ _ _ => exact ⟨a, b⟩
theorem pns3 {X : Cx} {x y z : Str} {px py pz : Pos} {i j l : Nat} (h : PNs X [.Name x px, .Name y py, .Name z pz] [i, j, l]) : X.N[i]? = some x ∧ X.N[j]? = some y ∧ X.N[l]? = some z := by
  cases h with | cons a _ _ t => cases t with | cons b _ _ t => cases t with | cons c _ _ _ => exact ⟨a, b, c⟩
theorem lc_set {X : Cx} {B : Sx} {L : Lib} {G : CG} {sc : Scope} {n m : Nat} {e : Expr} {e' : E} {x : Str} {p pos : Pos} {i : Nat} (c : CnS G sc X B L n) (hi : X.N[i]? = some x) (hz : i ∈ G.Z) (h : compE G m sc e = some e') (hs : swB sc x p e = true) :
    PS X (.Assign [.Name x p] e pos) (rdS B G.Z L (.asg (.name i) e')) := by
  cases m with
  | zero => simp [compE] at h
  | succ m =>
    have hs0 := hs
    cases e <;> first | (simp [swB] at hs; done) | skip
    rename_i elt gs scope q
    change stepE G (compE G m) sc _ = some e' at h
    unfold stepE at h
    split at h
    all_goals first | (rename_i hh; cases hh; done) | skip
    · rename_i elt2 g scope2 q2 hh
      cases hh
      obtain ⟨tg, iter, ifs, ia⟩ := g
      simp only at h
      split at h
      · rename_i hh
        obtain ⟨rfl, hB, hlen⟩ := hh
        have fk : ∀ {sc : Scope} {X : Cx} {B : Sx}, Cn G sc X B L n → Fok X B L (compE G m sc) := fun {sc X B} c e e' h => ⟨compE_ok m h c, fun r => compE_star h r _, fun x => compE_fold h _ x⟩
        cases h1 : compTg G.N scope tg with
        | none => rw [h1] at h; cases h
        | some tgt =>
          rw [h1] at h
          simp only [Option.bind_some] at h
          split at h
          · rename_i hsub
            cases h2 : compI (compE G m sc) G.T sc tg iter with
            | none => rw [h2] at h; cases h
            | some ki =>
              obtain ⟨k, es'⟩ := ki
              cases h3 : compL (compE G m (relS scope sc)) ifs with
              | none => rw [h2, h3] at h; cases h
              | some cs =>
                cases h4 : compE G m (relS scope sc) elt with
                | none => rw [h2, h3, h4] at h; cases h
                | some elt' =>
                  rw [h2, h3, h4] at h; cases h
                  obtain ⟨i1, i2⟩ := compI_ok c.toCn (fk c.toCn) h2
                  have hx : X.env.scope.names.lookup x = some .local := by
                    rw [c.scp]
                    simp only [swB, Bool.and_eq_true, beq_iff_eq] at hs
                    exact hs.1.1
                  refine (ps_setLc (tt := rdH B.quiet L cs) (te := rdE B.quiet L elt') (g := rdG B.quiet tgt) c.calm (c.N ▸ c.nd) hi hx (by rw [sw_lc (by rw [c.scp]; exact c.kind), c.scp, hs0]) i1 (by rw [c.N, c.scp]; exact blkOk_by hB)
                    (fun s H C cl fp => compTg_ok (tg_blk s H C cl fp) (c.toCn.blk s H C cl fp) h1) (fun s H C cl fp => ?_) (fun s H C cl fp => (compE_ok m h4 (c.toCn.blk s H C cl fp)).pe) i2).imp fun D σ H h => ?_
                  · rcases ifs with _ | ⟨b, _ | ⟨b2, r⟩⟩
                    · simp only [compL] at h3; cases h3; exact snd_H0
                    · simp only [compL] at h3
                      cases h5 : compE G m (relS scope sc) b with
                      | none => rw [h5] at h3; cases h3
                      | some b' => rw [h5] at h3; cases h3; exact snd_H1 (compE_ok m h5 (c.toCn.blk s H C cl fp)).pt
                    · simp at hlen
                  · exact rd_lc hsub (rd_set hz h)
          · cases h
      · cases h
    · rename_i elt2 g g1 scope2 q2 hh
      cases hh
      obtain ⟨tg, iter, ifs, ia⟩ := g
      obtain ⟨tg1, iter1, ifs1, ia1⟩ := g1
      simp only at h
      split at h
      · rename_i hh
        obtain ⟨rfl, rfl, hB, hlen, hlen1⟩ := hh
        have fk : ∀ {sc : Scope} {X : Cx} {B : Sx}, Cn G sc X B L n → Fok X B L (compE G m sc) := fun {sc X B} c e e' h => ⟨compE_ok m h c, fun r => compE_star h r _, fun x => compE_fold h _ x⟩
        cases h1 : compTg G.N scope tg with
        | none => rw [h1] at h; cases h
        | some tgt =>
          cases h1' : compTg G.N scope tg1 with
          | none => rw [h1, h1'] at h; cases h
          | some tgt1 =>
          rw [h1, h1'] at h
          simp only [Option.bind_some] at h
          split at h
          · rename_i hsub
            cases h2 : compI (compE G m sc) G.T sc tg iter with
            | none => rw [h2] at h; cases h
            | some ki =>
              obtain ⟨k, es'⟩ := ki
              cases h3 : compL (compE G m (relS scope sc)) ifs with
              | none => rw [h2, h3] at h; cases h
              | some cs =>
                cases h2' : compI (compE G m (relS scope sc)) G.T (relS scope sc) tg1 iter1 with
                | none => rw [h2, h3, h2'] at h; cases h
                | some ki1 =>
                obtain ⟨k1, es1'⟩ := ki1
                cases h3' : compL (compE G m (relS scope sc)) ifs1 with
                | none => rw [h2, h3, h2', h3'] at h; cases h
                | some cs1 =>
                cases h4 : compE G m (relS scope sc) elt with
                | none => rw [h2, h3, h2', h3', h4] at h; cases h
                | some elt' =>
                  rw [h2, h3, h2', h3', h4] at h; cases h
                  obtain ⟨i1, i2⟩ := compI_ok c.toCn (fk c.toCn) h2
                  have hx : X.env.scope.names.lookup x = some .local := by
                    rw [c.scp]
                    simp only [swB, Bool.and_eq_true, beq_iff_eq] at hs
                    exact hs.1.1
                  have tests : ∀ {ifs : List Expr} {cs : List E}, ifs.length ≤ 1 → compL (compE G m (relS scope sc)) ifs = some cs → ∀ (s : Shared) (H : Hp) (C : Addr) (cl : List (Str × Addr)) (fp : List Addr), PTs (X.blk s H scope (compEnvC scope cl C X.env) fp) ifs (rdH B.quiet L cs) := by
                    intro ifs cs hlen h3 s H C cl fp
                    rcases ifs with _ | ⟨b, _ | ⟨b2, r⟩⟩
                    · simp only [compL] at h3; cases h3; exact snd_H0
                    · simp only [compL] at h3
                      cases h5 : compE G m (relS scope sc) b with
                      | none => rw [h5] at h3; cases h3
                      | some b' => rw [h5] at h3; cases h3; exact snd_H1 (compE_ok m h5 (c.toCn.blk s H C cl fp)).pt
                    · simp at hlen
                  exact (ps_setLc2 c.calm (c.N ▸ c.nd) hi hx (by rw [sw_lc (by rw [c.scp]; exact c.kind), c.scp, hs0]) i1 (by rw [c.N, c.scp]; exact blkOk_by hB) hsub.2
                    (fun s H C cl fp => compTg_ok (tg_blk s H C cl fp) (c.toCn.blk s H C cl fp) h1) (tests hlen h3) (fun s H C cl fp => (compI_ok (c.toCn.blk s H C cl fp) (fk (c.toCn.blk s H C cl fp)) h2').1)
                    (fun s H C cl fp => compTg_ok (tg_blk s H C cl fp) (c.toCn.blk s H C cl fp) h1') (tests hlen1 h3') (fun s H C cl fp => (compE_ok m h4 (c.toCn.blk s H C cl fp)).pe) i2 (fun env x => compI_fold h2' env x)).imp fun D σ H h => rd_lc2 hsub.1 hsub.2 (rd_set hz h)
          · cases h
      · cases h
    · cases h
end Pi

set_option Elab.async false
set_option linter.all false
set_option maxRecDepth 100000
set_option maxHeartbeats 4000000
/-! PiS: the statements' trees keep to the interpreter's: the theorem. -/
namespace Pi
open PySem PySem.Spec PyProof.Rows L2
variable [HasT]

theorem lookup_mem0 {α β : Type} [BEq α] [LawfulBEq α] {x : α} {y : β} : ∀ {l : List (α × β)}, l.lookup x = some y → (x, y) ∈ l
  | [], h => by cases h
  | (a, b) :: r, h => by
    rw [List.lookup_cons] at h
    split at h
    · rename_i e
      cases h
      rw [beq_iff_eq.mp e]
      exact List.mem_cons_self
    · exact List.mem_cons_of_mem _ (lookup_mem0 h)
theorem compS_ok {G : CG} {L : Lib} {n : Nat} {sc : Scope} : ∀ (m : Nat) {st : Stmt} {s' : S}, compS G sc m st = some s' → ∀ {X : Cx} {B : Sx}, CnS G sc X B L n → PS X st (rdS B G.Z L s') := by
  intro m
  induction m with
  | zero => intro st s' h; simp [compS] at h
  | succ m ih =>
    intro st s' h X B c
    have ok : ∀ {e : Expr} {e' : E}, compE G (m + 1) sc e = some e' → Snd X B L e e' := fun {e e'} h => compE_ok (m + 1) h c.toCn
    have fk : Fok X B L (compE G (m + 1) sc) := fun e e' h => ⟨ok h, fun r => compE_star h r _, fun x => compE_fold h _ x⟩
    have sk : ∀ {X : Cx} {B : Sx}, CnS G sc X B L n → ∀ {ss : List Stmt} {ss' : List S}, compSL (compS G sc m) ss = some ss' → PSs X ss (rdSs B G.Z L ss') := fun {X B} c {ss ss'} h => compSL_ok (fun s s' h => ih h c) h
    have vis : ∀ {x : Str}, visB sc x = true → Vis X.env.scope x := fun {x} h => by rw [c.scp]; exact visB_ok h
    have ixN : ∀ {x : Str} {i : Nat}, idxN G.N x = some i → X.N[i]? = some x := fun {x i} h => by rw [c.N]; exact idxN_ok h
    have nd : X.N.Nodup := c.N ▸ c.nd
    have kd : X.env.scope.kind = .function := by rw [c.scp]; exact c.kind
    change stepS G (compE G (m + 1) sc) (compSL (compS G sc m)) sc st = some s' at h
    unfold stepS at h
    split at h
    · cases h; exact snd_pass
    · cases h; exact snd_brk
    · cases h; exact snd_cnt
    · rename_i x xp attr ap e cp ep
      split at h
      · rename_i hh
        obtain ⟨h1, h2, h3⟩ := hh
        split at h
        · rename_i ha
          subst ha
          cases h4 : idxN G.N x with
          | none => rw [h4] at h; cases h
          | some i =>
            cases h5 : compE G (m + 1) sc e with
            | none => rw [h4, h5] at h; cases h
            | some y =>
              rw [h4, h5] at h; cases h
              exact snd_app (ixN h4) (vis h1) (okN_ok h2).1 (okN_ok h2).2 (ok h5).pe (compE_star h5 _ _) h3
        · split at h
          · rename_i ha
            subst ha
            cases h4 : idxN G.N x with
            | none => rw [h4] at h; cases h
            | some i =>
              cases h5 : compE G (m + 1) sc e with
              | none => rw [h4, h5] at h; cases h
              | some y =>
                rw [h4, h5] at h; cases h
                exact snd_ext (ixN h4) (vis h1) (okN_ok h2).1 (okN_ok h2).2 (ok h5).pe (compE_star h5 _ _) h3
          · cases h
      · cases h
    · rename_i e p _
      split at h
      · cases h
      · rename_i hc
        cases h5 : compE G (m + 1) sc e with
        | none => rw [h5] at h; cases h
        | some y =>
          rw [h5] at h; cases h
          exact snd_expr (ok h5).pe (sw_no (by simpa using hc) _ _ _)
    · cases h; exact snd_retN
    · rename_i x xp p
      split at h
      · rename_i hh
        cases h4 : idxN G.N x with
        | none => rw [h4] at h; cases h
        | some i =>
          rw [h4] at h; cases h
          exact snd_retV (ixN h4) (vis hh.1) (okN_ok hh.2).1 (okN_ok hh.2).2
      · cases h
    · rename_i e p _
      cases h5 : compE G (m + 1) sc e with
      | none => rw [h5] at h; cases h
      | some y =>
        rw [h5] at h
        simp only [Option.bind_some] at h
        split at h
        · cases h
        · rename_i hv
          cases h
          exact snd_ret (fun i hi => hv i hi) (ok h5).pe
    · -- name = value
      rename_i x xp e p
      split at h
      · rename_i hl
        cases h4 : idxN G.N x with
        | none => rw [h4] at h; cases h
        | some i =>
          rw [h4] at h
          simp only [Option.bind_some] at h
          split at h
          · rename_i hz
            cases h5 : compE G (m + 1) sc e with
            | none => rw [h5] at h; cases h
            | some y =>
              rw [h5] at h; cases h
              by_cases hs : swB sc x xp e = true
              · exact lc_set c (ixN h4) hz h5 hs
              · obtain ⟨t1, t2⟩ := c.tg x (locB_ok hl)
                refine snd_set hz nd (ixN h4) t1 t2 (ok h5).pe ?_
                by_cases hcm : isComp e = true
                · cases e <;> first | (simp [isComp] at hcm; done) | skip
                  · rw [sw_lc kd, c.scp, Bool.eq_false_iff.mpr hs]
                  · simp [compE, stepE] at h5
                  · simp [compE, stepE] at h5
                · exact sw_no (Bool.eq_false_iff.mpr hcm) _ _ _
          · cases h
      · cases h
    · -- names = values
      rename_i ts tk tp vs k vp p
      cases h1 : compNs G.N sc ts with
      | none => rw [h1] at h; cases h
      | some is =>
        have pn := compNs_ok c.tg c.toCn h1
        rw [h1] at h
        simp only [Option.bind_some] at h
        split at h
        · rename_i hz
          split at h
          · cases h
          · rename_i hsw
            cases h5 : compL (compE G (m + 1) sc) vs with
            | none => rw [h5] at h; cases h
            | some ys =>
              rw [h5] at h
              simp only [Option.bind_some] at h
              split at h
              · rename_i hlen
                cases h
                have fk : Fok X B L (compE G (m + 1) sc) := fun e e' h => ⟨ok h, fun r => compE_star h r _, fun x => compE_fold h _ x⟩
                exact snd_parT hz c.K c.calm nd (compL_okF fk h5) hlen pn (ss_t kd (by rw [c.scp]; exact hsw)) (sw_tup _ _) rfl
              · cases h
          · rename_i ns hsw
            split at h
            · rename_i hn
              obtain ⟨hnd, hal⟩ := hn
              split at h
              · rename_i x xp y yp a b i j
                split at h
                · rename_i hns
                  subst hns
                  cases h5 : compE G (m + 1) sc a with
                  | none => rw [h5] at h; cases h
                  | some a' =>
                    cases h6 : compE G (m + 1) sc b with
                    | none => rw [h5, h6] at h; cases h
                    | some b' =>
                      rw [h5, h6] at h; cases h
                      obtain ⟨n1, n2⟩ := pns2 pn
                      have hne : i ≠ j := by
                        intro z; subst z
                        simp at hnd
                      refine snd_par2 hz c.calm nd n1 n2 hne (by rw [c.scp]; exact allLoc_ok hal (by simp)) (by rw [c.scp]; exact allLoc_ok hal (by simp)) (snd_consF (ok h5).pe (snd_consF (ok h6).pe snd_nilF (compE_star h6 _ _)) (compE_star h5 _ _)) (ss_t kd (by rw [c.scp]; exact hsw)) (sw_tup _ _)
                · cases h
              · rename_i x xp y yp z zp a b d i j l
                split at h
                · rename_i hns
                  subst hns
                  cases h5 : compE G (m + 1) sc a with
                  | none => rw [h5] at h; cases h
                  | some a' =>
                    cases h6 : compE G (m + 1) sc b with
                    | none => rw [h5, h6] at h; cases h
                    | some b' =>
                      cases h7 : compE G (m + 1) sc d with
                      | none => rw [h5, h6, h7] at h; cases h
                      | some d' =>
                        rw [h5, h6, h7] at h; cases h
                        obtain ⟨n1, n2, n3⟩ := pns3 pn
                        simp only [List.nodup_cons, List.mem_cons, List.not_mem_nil, or_false, not_or] at hnd
                        obtain ⟨⟨e1, e2⟩, e3, _⟩ := hnd
                        refine snd_par3 hz c.calm nd n1 n2 n3 e1 e2 e3 (by rw [c.scp]; exact allLoc_ok hal (by simp)) (by rw [c.scp]; exact allLoc_ok hal (by simp)) (by rw [c.scp]; exact allLoc_ok hal (by simp))
                          (snd_consF (ok h5).pe (snd_consF (ok h6).pe (snd_consF (ok h7).pe snd_nilF (compE_star h7 _ _)) (compE_star h6 _ _)) (compE_star h5 _ _)) (ss_t kd (by rw [c.scp]; exact hsw)) (sw_tup _ _)
                · cases h
              · cases h
            · cases h
        · cases h
    · rename_i ts tk tp e p hnt
      cases h1 : compNs G.N sc ts with
      | none => rw [h1] at h; cases h
      | some is =>
        have pn := compNs_ok c.tg c.toCn h1
        rw [h1] at h
        simp only [Option.bind_some] at h
        split at h
        · rename_i hz
          cases h5 : compE G (m + 1) sc e with
          | none => rw [h5] at h; cases h
          | some y =>
            rw [h5] at h; cases h
            have ht : isTupE e = false := by
              cases e <;> first | rfl | exact absurd rfl (hnt _ _ _)
            exact snd_unp hz (ok h5).pe (snd_gtup c.K c.calm nd pn) (ss_nt ht _) (sw_tup _ _) rfl
        · cases h
    · rename_i x xp i ip e p
      split at h
      · rename_i hh
        cases h4 : idxN G.N x with
        | none => rw [h4] at h; cases h
        | some j =>
          cases h5 : compE G (m + 1) sc i with
          | none => rw [h4, h5] at h; cases h
          | some i' =>
            cases h6 : compE G (m + 1) sc e with
            | none => rw [h4, h5, h6] at h; cases h
            | some y =>
              rw [h4, h5, h6] at h; cases h
              refine snd_seti (ixN h4) (vis hh.1) (okN_ok hh.2).1 (okN_ok hh.2).2 (ok h6).pe (ok h5).pa (sw_sub _ _) (ss_sub _) rfl fun v => ?_
              cases i <;> first | rfl | (simp [compE, stepE] at h5; done)
      · cases h
    · rename_i x xp op e p
      split at h
      · rename_i hl
        cases h3 : augB op with
        | none => rw [h3] at h; cases h
        | some o =>
          cases h4 : idxN G.N x with
          | none => rw [h3, h4] at h; cases h
          | some i =>
            rw [h3, h4] at h
            simp only [Option.bind_some] at h
            split at h
            · rename_i hz
              cases h5 : compE G (m + 1) sc e with
              | none => rw [h5] at h; cases h
              | some y =>
                rw [h5] at h; cases h
                obtain ⟨t1, t2⟩ := c.tg x (locB_ok hl)
                refine snd_aug hz ?_ nd (ixN h4) t1 t2 (ok h5).pa
                cases op <;> simp [augB] at h3 <;> subst h3 <;> simp
            · cases h
      · cases h
    · rename_i cc p q pos
      cases h1 : compE G (m + 1) sc cc with
      | none => rw [h1] at h; cases h
      | some c' =>
        cases h2 : compSL (compS G sc m) p with
        | none => rw [h1, h2] at h; cases h
        | some p' =>
          cases h3 : compSL (compS G sc m) q with
          | none => rw [h1, h2, h3] at h; cases h
          | some q' =>
            rw [h1, h2, h3] at h; cases h
            exact snd_if (ok h1).pt (sk c h2) (sk c h3)
    · rename_i cc b pos
      cases h1 : compE G (m + 1) sc cc with
      | none => rw [h1] at h; cases h
      | some c' =>
        cases h2 : compSL (compS G sc m) b with
        | none => rw [h1, h2] at h; cases h
        | some p' =>
          rw [h1, h2] at h; cases h
          exact snd_while c.own (ok h1).pt (sk c h2)
    · rename_i tg it b pos
      cases h1 : compTg G.N sc tg with
      | none => rw [h1] at h; cases h
      | some tgt =>
        rw [h1] at h
        simp only [Option.bind_some] at h
        split at h
        · rename_i hz
          cases h2 : compI (compE G (m + 1) sc) G.T sc tg it with
          | none => rw [h2] at h; cases h
          | some ki =>
            cases h3 : compSL (compS G sc m) b with
            | none => rw [h2, h3] at h; cases h
            | some b' =>
              rw [h2, h3] at h; cases h
              obtain ⟨i1, i2⟩ := compI_ok c.toCn fk (k := ki.1) (es' := ki.2) h2
              exact snd_for hz c.own c.calm i1 (compTg_ok c.tg c.toCn h1) (sk c h3) i2
        · cases h
    · rename_i x xp msg j p2 p3 pos
      split at h
      · rename_i hh
        cases h1 : G.T.cls.lookup x with
        | none => rw [h1] at h; cases h
        | some k =>
          rw [h1] at h; cases h
          obtain ⟨Ca, O, M⟩ := c.T.cls x k h1
          obtain ⟨⟨BB, newId, initId, bmB, FB, q⟩, mkx⟩ := M hh.2.2
          exact snd_raise c.calm c.tk FB q O.glob O.keep (raises_own O.sub O.typ) (c.gl hh.1) (okN_ok hh.2.1).1 fun U H => mkx U H
      · cases h
    · rename_i x xp e p3 pos _
      split at h
      · rename_i hh
        cases h1 : G.T.fld.lookup x with
        | none => rw [h1] at h; cases h
        | some p =>
          cases h2 : compE G (m + 1) sc e with
          | none => rw [h1, h2] at h; cases h
          | some y =>
            rw [h1, h2] at h; cases h
            obtain ⟨Ca, q1, q2, q3⟩ := c.T.fldc x p.1 p.2 (lookup_mem0 h1)
            exact snd_raisE (n := 1) c.K c.calm c.tk q2 (c.room.mono c.big) q1 (c.gl hh.1) (okN_ok hh.2).1 (ok h2).pe (compE_star h2 [] _) q3
      · cases h
    · rename_i b h0 hds pos
      cases h1 : compHs G sc (h0 :: hds) with
      | none => rw [h1] at h; cases h
      | some r =>
        cases h2 : compSL (compS G sc m) b with
        | none => rw [h1, h2] at h; cases h
        | some b' =>
          rw [h1, h2] at h; cases h
          obtain ⟨l, hl⟩ := compHs_ok c h1
          exact snd_try_mix c.stk c.frm nd c.tk c.T.xf (fun W pn xe tk po => sk (c.try tk po) h2) hl
    · cases h
theorem compSs_ok {G : CG} {L : Lib} {n m : Nat} {sc : Scope} {ss : List Stmt} {ss' : List S} (h : compSs G sc m ss = some ss') {X : Cx} {B : Sx} (c : CnS G sc X B L n) : PSs X ss (rdSs B G.Z L ss') :=
  compSL_ok (fun _ _ h => compS_ok m h c) h
end Pi

set_option Elab.async false
set_option linter.all false
set_option maxRecDepth 100000
set_option maxHeartbeats 4000000
/-! PiT: the whole text; what the head tells. -/
namespace Pi
open PySem PySem.Spec PyProof.Rows L2

structure DefI where
  name : Str
  st : Stmt
  N : List Str
  np : Nat
  Z : List Nat
  bor : List Bool
  pats : List (Nat × List Str × List Nat)
def DefI.ps (d : DefI) : List Str := d.N.take d.np
def DefI.d (d : DefI) : He.DefD := ⟨(d.name, none), d.name, d.name, defArgs d.st, defBody d.st, defScope d.st, [], []⟩
def DefI.fn (T : Tab) (d : DefI) : Option Fn := (compSs ⟨T, d.N, d.Z, decide (T.lam = some d.name)⟩ (defScope d.st) 60 (defBody d.st)).map fun b => ⟨d.np, d.N.length, d.bor, b⟩
theorem call_init_eq {ce : Str} {p0 p1 p8 : Pos} {es : List Expr} {env : PySem.Env} (hl : (p1.endLine == p8.line) = true) (hf : methodCallForm es.length (backTo p8 (starEach es env)) (backToKw p8 (keywordEach [] env)) = true) : PySem.eval (.Call (.Attribute (.Name ce p0) "__init__" p1) es [] p8) env = (do
      let ov ← PySem.eval (.Name ce p0) env
      standAt p1.atName
      let (f, first) ← holding [ov] (getMethod ov "__init__" (plainOf (.Name ce p0) env))
      callWith p8 f first (backTo p8 (starEach es env)) (backToKw p8 (keywordEach [] env))) := by
  have e : PySem.eval (.Call (.Attribute (.Name ce p0) "__init__" p1) es [] p8) env = (do
      let ov ← PySem.eval (.Name ce p0) env
      standAt p1.atName
      methodCall (.Name ce p0) "__init__" p1 p8 env ov es.length (backTo p8 (starEach es env)) (backToKw p8 (keywordEach [] env))) := rfl
  rw [e]
  congr 1
  funext ov
  congr 1
  funext _
  exact mcall_line hf hl
/-- an own error with a field: its class, number, field; its __init__ -/
structure FldI where
  cls : Str
  idx : Nat
  fld : Str
  st : Stmt
def clsFn : Stmt → Stmt
  | .ClassDef _ _ _ (s :: _) _ _ _ _ _ _ _ => s
  | s => s
structure InitP where
  ce : Str
  pre : Str
  self : Str
  par : Str
  f : Str
  k : Nat
  p : Nat → Pos
def initOf (b : List Stmt) : Option InitP := match b with
  | [.Expr (.Call (.Attribute (.Name ce q0) a q1) [.Name self q2, .BinOp (.Constant (.str pre) k q3) .Add (.Call (.Name st q4) [.Name x q5] [] q6) q7] [] q8) q9, .Assign [.Attribute (.Name self2 q10) f q11] (.Name x2 q12) q13] =>
    if a = ("__init__" : Str) ∧ st = ("str" : Str) ∧ self2 = self ∧ x2 = x ∧ (q1.endLine == q8.line) = true then some ⟨ce, pre, self, x, f, k, fun i => [q0, q1, q2, q3, q4, q5, q6, q7, q8, q9, q10, q11, q12, q13].getD i q0⟩ else none
  | _ => none
theorem initOf_ok {b : List Stmt} {r : InitP} (h : initOf b = some r) : b = initB r.ce r.pre r.self r.par r.f r.k r.p := by
  unfold initOf at h
  split at h
  · split at h
    · rename_i hh
      obtain ⟨rfl, rfl, rfl, rfl, _⟩ := hh
      cases h
      rfl
    · cases h
  · cases h
theorem initOf_line {b : List Stmt} {r : InitP} (h : initOf b = some r) : ((r.p 1).endLine == (r.p 8).line) = true := by
  unfold initOf at h
  split at h
  · split at h
    · rename_i hh
      cases h
      exact hh.2.2.2.2
    · cases h
  · cases h
def FldI.d (i : FldI) : He.DefD := ⟨(i.cls, some "__init__"), "__init__", i.cls ++ ".__init__", defArgs i.st, defBody i.st, defScope i.st, [], []⟩
def FldI.okB (i : FldI) : Bool := match initOf (defBody i.st) with
  | some r => decide (r.f = i.fld) && initScB (defScope i.st) r.self r.par r.ce && decide (r.pre.length ≤ 1000)
  | none => false
def FldI.Bd (i : FldI) : Prop := ∀ (kV doc pm : Value) (an : Option Addr) (cdv ct : Value) (us : List Value), us.length = 2 → ∀ r, initOf (defBody i.st) = some r →
  bindArgs (PySem.W.fnOf "__init__" (i.cls ++ ".__init__") (defArgs i.st) (defBody i.st) (defScope i.st) .none kV doc pm an cdv ct) ⟨us, []⟩ = pure ([r.self, r.par].zip us)
def scopeB (d : DefI) (sc : Scope) : Bool := (match sc.kind with | .function => true | _ => false) && !sc.isCoroutine && !sc.isGenerator && decide d.N.Nodup && d.ps.all (locB sc) && (sc.names.all fun y => match y.2 with | .free => false | _ => true)
def patsB (d : DefI) : Bool := d.pats.all fun q => decide (q.2.2.length = d.np) && q.2.2.all fun k => decide (k < q.1 + q.2.1.length)
def borB (d : DefI) : Bool := (List.range d.bor.length).all fun i => match d.bor[i]? with | some true => decide (i ∉ d.Z) | _ => true
def DefI.okB (d : DefI) : Bool := scopeB d (defScope d.st) && decide (d.np ≤ d.N.length) && decide (d.bor.length = d.np) && borB d && patsB d
/-- the ways it is called bind -/
def DefI.Bd (d : DefI) : Prop := ∀ q ∈ d.pats, ∀ (kV doc pm : Value) (an : Option Addr) (cdv ct : Value) (us ws : List Value), us.length = q.1 → ws.length = q.2.1.length →
  bindArgs (PySem.W.fnOf d.name d.name (defArgs d.st) (defBody d.st) (defScope d.st) .none kV doc pm an cdv ct) ⟨us, q.2.1.zip ws⟩ = pure (d.ps.zip (q.2.2.map fun k => (us ++ ws).getD k .none))
def tabFns (defs : List DefI) : List (Str × Nat × List (Nat × List Str × List Nat)) := (defs.zip (List.range defs.length)).map fun p => (p.1.name, p.2, p.1.pats)

theorem scopeB_ok {d : DefI} {sc : Scope} (h : scopeB d sc = true) : FnScope d.N d.ps sc := by
  unfold scopeB at h
  simp only [Bool.and_eq_true, Bool.not_eq_true'] at h
  haveI : HasT := ⟨[]⟩
  obtain ⟨⟨⟨⟨⟨h1, h2⟩, h3⟩, h4⟩, h5⟩, h6⟩ := h
  refine ⟨?_, h2, h3, of_decide_eq_true h4, ?_, fun x hx => locB_ok (List.all_eq_true.mp h5 x hx), fun y hy => ?_⟩
  · split at h1
    · assumption
    · cases h1
  · unfold DefI.ps
    rw [List.length_take, List.take_eq_take_iff]
    omega
  · have := List.all_eq_true.mp h6 y hy
    intro z
    rw [z] at this
    cases this
theorem borB_ok {d : DefI} (h : borB d = true) : ∀ i, d.bor[i]? = some true → i ∉ d.Z := fun i hi => by
  have hl : i < d.bor.length := (List.getElem?_eq_some_iff.mp hi).1
  have := List.all_eq_true.mp h i (List.mem_range.mpr hl)
  rw [hi] at this
  exact of_decide_eq_true this

/-! ### the own errors -/
def excCB (K : PySem.W.Frag) (D : Addr) : Bool := He.eqO (PySem.W.findIn K (.ref D) "__getattribute__") (some (some (.builtin "BaseException.__getattribute__"))) && He.eqO (PySem.W.findIn K (.ref D) "__getattr__") (some none) &&
  decide (PySem.W.subIn K (.ref D) (.type "BaseException") = some true) && PySem.W.hasDictIn K D && He.eqO (PySem.W.findIn K (.ref D) "__class__") (some (some (.builtin "object.__class__"))) &&
  He.eqO (PySem.W.specialIn K (.builtin "object.__class__") "__get__") (some (some (.builtin "getset_descriptor.__get__"))) && decide (PySem.W.takesIn K (.builtin "object.__class__") = some true) && decide (PySem.W.mroIn K D (.type "object") = some true)
theorem excCB_ok {K : PySem.W.Frag} {D : Addr} (h : excCB K D = true) : ExcC K D := by
  unfold excCB at h
  simp only [Bool.and_eq_true] at h
  obtain ⟨⟨⟨⟨⟨⟨⟨h1, h2⟩, h3⟩, h4⟩, h5⟩, h6⟩, h7⟩, h8⟩ := h
  exact ⟨He.eqO_ok h1, He.eqO_ok h2, of_decide_eq_true h3, h4, He.eqO_ok h5, He.eqO_ok h6, of_decide_eq_true h7, of_decide_eq_true h8⟩
def subOf (sub : List (List Bool)) (a b : Nat) : Bool := (sub.getD a []).getD b false
def cls2B (K : PySem.W.Frag) (sub : List (List Bool)) (p q : Str × Nat) : Bool := decide (PySem.W.exmOne K (.ref (He.ga K p.1)) (.ref (He.ga K q.1)) = some (subOf sub p.2 q.2)) && decide (PySem.W.kitOne K (.ref (He.ga K p.1)) (.ref (He.ga K q.1)) = some (subOf sub p.2 q.2))
def cls1B (K : PySem.W.Frag) (fl : List (Str × Nat × Str)) (p : Str × Nat) : Bool := (He.Fa.glo p.1).ok K && (PySem.W.keepIn K (.ref (He.ga K p.1)) && decide (PySem.W.subIn K (.ref (He.ga K p.1)) (.type "BaseException") = some true) && decide (PySem.W.typeIn K (.ref (He.ga K p.1)) = some (.type "type")) &&
  ((fl.lookup p.1).isSome || (He.Fa.exc p.1).ok K)) && excCB K (He.ga K p.1)
def clsB (K : PySem.W.Frag) (fl : List (Str × Nat × Str)) (cs : List (Str × Nat)) (sub : List (List Bool)) : Bool := cs.all fun p => cls1B K fl p && cs.all fun q => cls2B K sub p q
def noLst (K : PySem.W.Frag) : Bool := K.all fun p => match p.2.cls with
  | .type c => !(c == "list")
  | _ => true
mutual
/-- a constant of the text, as it stands in the written part -/
def repB (K : PySem.W.Frag) : D → Value → Bool
  | .non, .none => true
  | .bl b, .bool c => b == c
  | .int i, .int j _ => decide (i = j)
  | .str x, .str y _ => decide (x = y) && decide (PyData.strOk x = true ∧ x.length ≤ 100000)
  | .tup ds, .ref a => match K.lookup a with
    | some o => (match o.cls, o.data with
      | .type c, .seq its _ => decide (c = "tuple") && decide (its.size ≤ 100000) && repBs K ds its.toList
      | _, _ => false)
    | none => false
  | _, _ => false
def repBs (K : PySem.W.Frag) : List D → List Value → Bool
  | [], [] => true
  | d :: ds, v :: vs => repB K d v && repBs K ds vs
  | _, _ => false
end
mutual
theorem repB_ok {K : PySem.W.Frag} : ∀ {d : D} {u : Value}, repB K d u = true → ∃ v, RelV v u ∧ ∀ U H, Rep K U H v d
  | .non, u, h => by
    cases u <;> first | (simp [repB] at h; done) | exact ⟨.non, rfl, fun U H => .non⟩
  | .bl b, u, h => by
    cases u <;> first | (simp [repB] at h; done) | skip
    simp only [repB, beq_iff_eq] at h
    subst h
    exact ⟨.bl _, rfl, fun U H => .bl _⟩
  | .int i, u, h => by
    cases u <;> first | (simp [repB] at h; done) | skip
    simp only [repB, decide_eq_true_eq] at h
    subst h
    exact ⟨.int _, ⟨_, rfl⟩, fun U H => .int _⟩
  | .str x, u, h => by
    cases u <;> first | (simp [repB] at h; done) | skip
    simp only [repB, Bool.and_eq_true, decide_eq_true_eq] at h
    obtain ⟨rfl, h⟩ := h
    exact ⟨.str _, ⟨_, rfl⟩, fun U H => .str _ h⟩
  | .tup ds, u, h => by
    cases u <;> first | (simp [repB] at h; done) | skip
    rename_i a
    simp only [repB] at h
    cases hl : K.lookup a with
    | none => rw [hl] at h; simp at h
    | some o =>
      rw [hl] at h
      simp only at h
      split at h
      · rename_i c its n hc hd
        simp only [Bool.and_eq_true, decide_eq_true_eq] at h
        obtain ⟨⟨rfl, hz⟩, hs⟩ := h
        obtain ⟨vs, r1, r2⟩ := repBs_ok hs
        haveI : HasT := ⟨[]⟩
        exact ⟨.ref a, rfl, fun U H => .tup (.inr ⟨o, its, n, hl, hc, hd, Nat.le_trans hz line100, r1⟩) (r2 U H)⟩
      · cases h
  | .lst ds, u, h => by simp [repB] at h
theorem repBs_ok {K : PySem.W.Frag} : ∀ {ds : List D} {us : List Value}, repBs K ds us = true → ∃ vs, Vals vs us ∧ ∀ U H, RepAll K U H vs ds
  | [], us, h => by
    cases us with
    | nil => exact ⟨[], .nil, fun U H => .nil⟩
    | cons a r => simp [repBs] at h
  | d :: ds, us, h => by
    cases us with
    | nil => simp [repBs] at h
    | cons u us =>
      simp only [repBs, Bool.and_eq_true] at h
      obtain ⟨v, r1, r2⟩ := repB_ok h.1
      obtain ⟨vs, s1, s2⟩ := repBs_ok h.2
      exact ⟨v :: vs, .cons r1 s1, fun U H => .cons (r2 U H) (s2 U H)⟩
end
def conB (K : PySem.W.Frag) (con : List D) (p : Str × Nat) : Bool := match PySem.W.nsIn K mainGlobals p.1, con[p.2]? with
  | some (some u), some d => repB K d u
  | _, _ => false
def dicOk (K : PySem.W.Frag) (dic : List (List (List Int × Int))) (p : Str × Nat) : Bool := match PySem.W.nsIn K mainGlobals p.1, dic[p.2]? with
  | some (some u), some d => dicB K d u
  | _, _ => false
/-- the class of an error with a field -/
def oexB (K : PySem.W.Frag) (C : Addr) : Bool := (match K.lookup C with
  | some ⟨.type "type", _, .cls cd, sl⟩ => (match cd.mro, sl.toList with
    | .ref C' :: bm, [_, _, _, _, some (.builtin n), _] => C' == C && n == "ValueError.__new__" && !cd.hasDel && cd.hasDict && PySem.HandSPX.refsVE bm
    | _, _ => false)
  | _ => false) && He.eqO (PySem.W.findIn K (.ref C) "__setattr__") (some (some (.builtin "object.__setattr__"))) && decide (PySem.W.subIn K (.ref C) (.type "BaseException") = some true) && decide (PySem.W.typeIn K (.ref C) = some (.type "type")) && PySem.W.keepIn K (.ref C)
theorem oexB_ok {K : PySem.W.Frag} {C : Addr} (h : oexB K C = true) : OexC K C := by
  unfold oexB at h
  simp only [Bool.and_eq_true] at h
  obtain ⟨⟨⟨⟨h1, h2⟩, h3⟩, h4⟩, h5⟩ := h
  refine ⟨?_, He.eqO_ok h2, of_decide_eq_true h3, of_decide_eq_true h4, h5⟩
  split at h1
  · rename_i dd cd sl ho
    split at h1
    · rename_i C' bm k0 k1 k2 k3 n k5 hm hs
      simp only [Bool.and_eq_true, beq_iff_eq, Bool.not_eq_true'] at h1
      obtain ⟨⟨⟨⟨rfl, rfl⟩, hdel⟩, hdict⟩, ht⟩ := h1
      obtain ⟨nm, bs, mro, ns, qn, hd, sn, sub, ab, col, del⟩ := cd
      dsimp only at hm hdel hdict
      subst hm hdel hdict
      have hsl : sl = #[k0, k1, k2, k3, some (.builtin "ValueError.__new__"), k5] := by
        obtain ⟨l⟩ := sl
        simp only at hs
        rw [hs]
      subst hsl
      exact ⟨nm, qn, ns, bs, bm, sn, sub, ab, col, dd, k0, k1, k2, k3, k5, ho, ht⟩
    · cases h1
  · cases h1
def parB (K : PySem.W.Frag) (CE : Addr) : Bool := decide (PySem.W.specialIn K (.ref CE) "__getattribute__" = some (some (.builtin "type.__getattribute__"))) && PySem.W.readsIn K CE (.type "type") &&
  (match PySem.W.findCls K (.ref CE) (.type "type") "__init__" with | some (.val (.builtin n)) => n == "ValueError.__init__" | _ => false)
theorem parB_ok {K : PySem.W.Frag} {CE : Addr} (h : parB K CE = true) : ParC K CE := by
  unfold parB at h
  simp only [Bool.and_eq_true] at h
  obtain ⟨⟨h1, h2⟩, h3⟩ := h
  refine ⟨of_decide_eq_true h1, h2, ?_⟩
  split at h3
  · rename_i n e
    rw [e, beq_iff_eq.mp h3]
  · cases h3
/-- one such error -/
def fldB (K : PySem.W.Frag) (i : FldI) : Bool := (He.Fa.glo i.cls).ok K && oexB K (He.ga K i.cls) && He.eqO (PySem.W.findIn K (.ref (He.ga K i.cls)) i.fld) (some none) && xfB K (He.ga K i.cls) &&
  He.eqO (PySem.W.findIn K (.ref (He.ga K i.cls)) "__init__") (some (some (.ref (He.ma K (He.ga K i.cls) "__init__")))) && decide (PySem.W.typeIn K (.ref (He.ma K (He.ga K i.cls) "__init__")) = some (.type "function")) && i.okB &&
  (match initOf (defBody i.st) with | some r => (He.Fa.glo r.ce).ok K && parB K (He.ga K r.ce) | none => false) && (He.Fa.free ("str" : Str)).ok K
def tabFld (fl : List FldI) : List (Str × Nat × Str) := fl.map fun i => (i.cls, i.idx, i.fld)
/-- what the head is to tell of the names -/
def tabB (T : Tab) (sub : List (List Bool)) (con : List D) (dic : List (List (List Int × Int))) (K : PySem.W.Frag) : Bool := (T.fns.all fun p => (He.Fa.glo p.1).ok K) && (T.blt.all fun x => (He.Fa.free x).ok K) && (!T.gcd || He.eqO (PySem.W.nsIn K mainGlobals "gcd") (some (some (.builtin "math.gcd")))) && clsB K T.fld T.cls sub && noLst K && T.con.all (conB K con) && T.dic.all (dicOk K dic) && (!T.lcm || He.eqO (PySem.W.nsIn K mainGlobals "lcm") (some (some (.builtin "math.lcm"))))
/-- errors, with a field or without -/
def xrOf (T : Tab) (K : PySem.W.Frag) : XRt := fun x cls d _ H => ∃ nm, (nm, x.cls) ∈ T.cls ∧ cls = .ref (He.ga K nm) ∧ match x.fld with
  | none => d = none
  | some (f, dv) => (nm, x.cls, f) ∈ T.fld ∧ ∃ dd v, d = some dd ∧ H dd = some (.xd [(f, v)]) ∧ FlV dv v
theorem lookup_mem' {α β : Type} [BEq α] [LawfulBEq α] {x : α} {y : β} : ∀ {l : List (α × β)}, l.lookup x = some y → (x, y) ∈ l
  | [], h => by cases h
  | (a, b) :: r, h => by
    rw [List.lookup_cons] at h
    split at h
    · rename_i e
      cases h
      rw [beq_iff_eq.mp e]
      exact List.mem_cons_self
    · exact List.mem_cons_of_mem _ (lookup_mem' h)
theorem Bool.and_iff {a b : Bool} (h : (a && b) = true) : a = true ∧ b = true := by simpa using h
theorem clsOk_of {T : Tab} {sub : List (List Bool)} {K : PySem.W.Frag} {h : Heap} {mg : Str → Option Value} {L : Lib} (X : K.In h) (G : h.Ns mainGlobals mg) (hs : L.sub = subOf sub) (hc : clsB K T.fld T.cls sub = true) {x : Str} {c : Nat} (hx : (x, c) ∈ T.cls) :
    ClsOk K mg (xrOf T K) L x c (He.ga K x) ∧ (T.fld.lookup x = none → MkOk K (xrOf T K) c (He.ga K x)) := by
  have all := List.all_eq_true.mp hc
  have one : ∀ p ∈ T.cls, cls1B K T.fld p = true ∧ ∀ q ∈ T.cls, cls2B K sub p q = true := fun p hp => by
    obtain ⟨h1, h2⟩ := Bool.and_iff (all p hp)
    exact ⟨h1, fun q hq => List.all_eq_true.mp h2 q hq⟩
  obtain ⟨h1, _⟩ := one _ hx
  obtain ⟨h12, h3⟩ := Bool.and_iff h1
  obtain ⟨h1, h2⟩ := Bool.and_iff h12
  simp only [Bool.and_eq_true, Bool.or_eq_true] at h2
  obtain ⟨⟨⟨k1, k2⟩, k3⟩, k4⟩ := h2
  refine ⟨⟨He.glo_ok X G h1, k1, of_decide_eq_true k2, of_decide_eq_true k3, fun y cls dx U H r => ?_, fun y cls dx U H r hf => ?_⟩, fun hn => ?_⟩
  · obtain ⟨nm, hm, rfl, _⟩ := r
    have := (one _ hm).2 _ hx
    rw [hs]
    exact of_decide_eq_true (Bool.and_iff this).1
  · obtain ⟨nm, hm, rfl, hd⟩ := r
    rw [hf] at hd
    have := (one _ hm).2 _ hx
    rw [hs]
    exact ⟨hd, _, rfl, excCB_ok (Bool.and_iff (one _ hm).1).2, of_decide_eq_true (Bool.and_iff this).2⟩
  · rcases k4 with k4 | k4
    · rw [hn] at k4; simp at k4
    · obtain ⟨e1, e2, e3, e4⟩ := He.exc_ok k4
      exact ⟨⟨_, _, _, _, PySem.F.excBase_ValueError, e1⟩, fun U H => ⟨x, hx, rfl, rfl⟩⟩

/-! ### every def keeps to the interpreter -/
structure Text where
  defs : List DefI
  T : Tab
  P : Pg
  flds : List FldI := []
structure Text.Ok (t : Text) : Prop where
  comp : t.defs.map (·.fn t.T) = t.P.G.map some
  okB : t.defs.all DefI.okB = true
  fns : t.T.fns = tabFns t.defs
  bd : ∀ d ∈ t.defs, d.Bd
  fld : t.T.fld = tabFld t.flds
  fin : ∀ i ∈ t.flds, (i.cls, i.idx) ∈ t.T.cls
  fbd : ∀ i ∈ t.flds, i.Bd
structure Text.Said (t : Text) (K : PySem.W.Frag) : Prop where
  tab : tabB t.T t.P.sub t.P.con t.P.dic K = true
  defs : ∀ d ∈ t.defs, ∃ fd, FunD K d.name d.name (defArgs d.st) (defBody d.st) (defScope d.st) [] [] (He.ga K d.name) fd
  flds : ∀ i ∈ t.flds, fldB K i = true ∧ ∃ fd, FunD K "__init__" (i.cls ++ ".__init__") (defArgs i.st) (defBody i.st) (defScope i.st) [] [] (He.ma K (He.ga K i.cls) "__init__") fd
/-- the table of the def that makes a lambda -/
structure LamAt [HasT] (t : Text) (K : PySem.W.Frag) (mg : Str → Option Value) (base : Heap) : Prop where
  at_ : ∀ x, t.T.lam = some x → ∃ c P, PySem.W.tabIn K x = some (c, P) ∧ LamX.TabB base mg c P ∧ HasT.T = [(P, (x ++ ".<locals>.") ++ "<lambda>")]
variable [HasT]
theorem fld_of {t : Text} (O : t.Ok) {P : Program} {w : World} {K : PySem.W.Frag} {h base : Heap} {mg : Str → Option Value} (X : K.In h) (G : h.Ns mainGlobals mg) (S : t.Said K) {i : FldI} (hi : i ∈ t.flds) : FldOk P w K mg base 1 i.fld (He.ga K i.cls) := by
  obtain ⟨hb, fd, F⟩ := S.flds i hi
  unfold fldB at hb
  simp only [Bool.and_eq_true] at hb
  obtain ⟨⟨⟨⟨⟨⟨⟨⟨b1, b2⟩, b3⟩, b4⟩, b5⟩, b6⟩, b7⟩, b8⟩, b9⟩ := hb
  unfold FldI.okB at b7
  cases hr : initOf (defBody i.st) with
  | none => rw [hr] at b7; cases b7
  | some r =>
    rw [hr] at b7 b8
    simp only [Bool.and_eq_true, decide_eq_true_eq] at b7 b8
    have e := initOf_ok hr
    have F0 := F
    rw [e] at F
    refine ⟨oexB_ok b2, He.eqO_ok b3, _, fd, [r.self, r.par], He.eqO_ok b5, of_decide_eq_true b6, ?_, ?_⟩
    · rw [← b7.1.1]
      exact init_ok (n := 0) F b7.1.2 (He.glo_ok X G b8.1) (He.free_ok X G b9) (parB_ok b8.2) b7.2 (fun X => rfl) (fun X => ⟨_, call_init_eq (initOf_line hr) rfl⟩)
    · obtain ⟨oc, od, dV, kV, doc, pm, an, cdv, ct, osl, rfl, lk, hcd, hD, hK⟩ := F0.ex
      rcases hD with ⟨_, rfl⟩ | ⟨e, _⟩
      · exact Binds.all fun us hl => O.fbd i hi kV doc pm an cdv ct us hl r hr
      · exact absurd rfl e
theorem all_ok {t : Text} (O : t.Ok) {P : Program} {w : World} {K : PySem.W.Frag} {h base : Heap} {mg : Str → Option Value} (X : K.In h) (G : h.Ns mainGlobals mg) (S : t.Said K) (LA : LamAt t K mg base) :
    ∀ (n i : Nat) (d : DefI), t.defs[i]? = some d → ∃ fd, FunD K d.name d.name (defArgs d.st) (defBody d.st) (defScope d.st) [] [] (He.ga K d.name) fd ∧ FnOk P w K mg base (L2.CX P w) (n + 2) (He.ga K d.name) fd d.ps (spF K (xrOf t.T K) d.ps.length (callF t.P n i)) := by
  have tb := S.tab
  unfold tabB at tb
  simp only [Bool.and_eq_true] at tb
  obtain ⟨⟨⟨⟨⟨⟨⟨b1, b2⟩, b3⟩, b4⟩, b5⟩, b6⟩, b7⟩, b8⟩ := tb
  intro n
  induction n with
  | zero =>
    intro i d hd
    obtain ⟨fd, F⟩ := S.defs d (List.mem_of_getElem? hd)
    refine ⟨fd, F, ⟨fun vs H Q E ⟨as, U, q, _⟩ => q, fun A outer s H args us vs Q E _ _ _ _ ⟨as, U, _, _, _, z⟩ => ?_⟩⟩
    simp only [callF] at z
  | succ n ih =>
    intro i d hd
    obtain ⟨fd, F⟩ := S.defs d (List.mem_of_getElem? hd)
    refine ⟨fd, F, ?_⟩
    have hB := List.all_eq_true.mp O.okB d (List.mem_of_getElem? hd)
    unfold DefI.okB at hB
    simp only [Bool.and_eq_true] at hB
    obtain ⟨⟨⟨⟨o1, o2⟩, o3⟩, o4⟩, o5⟩ := hB
    have o2 := of_decide_eq_true o2
    have o3 := of_decide_eq_true o3
    have hpl : d.ps.length = d.np := by unfold DefI.ps; rw [List.length_take]; omega
    have hfn : ∃ fn, d.fn t.T = some fn ∧ t.P.G[i]? = some fn := by
      have e : (t.defs.map (·.fn t.T))[i]? = some (d.fn t.T) := by rw [List.getElem?_map, hd]; rfl
      rw [O.comp, List.getElem?_map] at e
      cases q : t.P.G[i]? with
      | none => rw [q] at e; cases e
      | some fn => rw [q] at e; exact ⟨fn, (Option.some.inj e).symm, rfl⟩
    obtain ⟨fn, hf1, hf2⟩ := hfn
    unfold DefI.fn at hf1
    cases hc : compSs ⟨t.T, d.N, d.Z, decide (t.T.lam = some d.name)⟩ (defScope d.st) 60 (defBody d.st) with
    | none => rw [hc] at hf1; cases hf1
    | some body =>
      rw [hc] at hf1
      cases hf1
      have fsc := scopeB_ok o1
      refine fn_ok F fsc hf2 hpl.symm rfl (by rw [hpl]; exact o2) (borB_ok o4) fun cdv hcd A outer s H E hr => ?_
      refine compSs_ok (G := ⟨t.T, d.N, d.Z, decide (t.T.lam = some d.name)⟩) (n := n + 2) (sc := defScope d.st) hc ?_
      have tab : TabOk t.T P w K mg base (xrOf t.T K) (t.P.lib (callF t.P n)) (n + 2) := by
        refine ⟨fun x f pats hx => ?_, fun x hx => He.free_ok X G (List.all_eq_true.mp b2 x hx), fun hg => ?_, fun x c hx => ⟨_, clsOk_of X G rfl b4 (lookup_mem' hx)⟩, fun x k hx => ?_, fun hl => ?_, fun x c f hx => ?_, fun x cls dx U H r => ?_, fun x cls dx U H r => ?_, fun x k hx => ?_⟩
        · have hm := lookup_mem' hx
          rw [O.fns] at hm
          unfold tabFns at hm
          obtain ⟨p, hp, he⟩ := List.mem_map.mp hm
          obtain ⟨j, hj⟩ := List.mem_iff_getElem?.mp hp
          rw [List.getElem?_zip_eq_some] at hj
          obtain ⟨hj1, hj2⟩ := hj
          obtain ⟨d2, k⟩ := p
          simp only at hj1 hj2
          have hk : k = j := by
            rw [List.getElem?_range] at hj2
            · exact (Option.some.inj hj2).symm
            · exact (List.getElem?_eq_some_iff.mp hj1).1
          subst hk
          simp only [Prod.mk.injEq] at he
          obtain ⟨rfl, rfl, rfl⟩ := he
          obtain ⟨fd2, F2, ok2⟩ := ih k d2 hj1
          have hB2 := List.all_eq_true.mp O.okB d2 (List.mem_of_getElem? hj1)
          unfold DefI.okB at hB2
          simp only [Bool.and_eq_true] at hB2
          obtain ⟨⟨⟨⟨p1, p2⟩, p3⟩, p4⟩, p5⟩ := hB2
          have p2 := of_decide_eq_true p2
          have p3 := of_decide_eq_true p3
          have hpl2 : d2.ps.length = d2.np := by unfold DefI.ps; rw [List.length_take]; omega
          have hfn2 : ∃ fn, t.P.G[k]? = some fn ∧ fn.bor = d2.bor := by
            have e : (t.defs.map (·.fn t.T))[k]? = some (d2.fn t.T) := by rw [List.getElem?_map, hj1]; rfl
            rw [O.comp, List.getElem?_map] at e
            cases q : t.P.G[k]? with
            | none => rw [q] at e; cases e
            | some fn =>
              rw [q] at e
              have e := Option.some.inj e
              unfold DefI.fn at e
              cases hc2 : compSs ⟨t.T, d2.N, d2.Z, decide (t.T.lam = some d2.name)⟩ (defScope d2.st) 60 (defBody d2.st) with
              | none => rw [hc2] at e; cases e
              | some b => rw [hc2] at e; cases e; exact ⟨_, rfl, rfl⟩
          obtain ⟨fn2, e1, e2⟩ := hfn2
          refine ⟨_, fd2, d2.ps, ok2, ?_, F2.kp, ?_, fun m ks pm hq => ?_⟩
          · refine He.glo_ok X G (List.all_eq_true.mp b1 (d2.name, k, d2.pats) ?_)
            rw [O.fns]; exact hm
          · show (match t.P.G[k]? with | some fn => fn.bor | none => []).length = _
            rw [e1, hpl2]
            show fn2.bor.length = d2.np
            rw [e2]; exact p3
          · have hq2 := List.all_eq_true.mp p5 _ hq
            obtain ⟨q1, q2⟩ := Bool.and_iff hq2
            refine ⟨fun s us ws hu hw => ?_, by rw [hpl2]; exact of_decide_eq_true q1, fun k hk => of_decide_eq_true (List.all_eq_true.mp q2 k hk)⟩
            obtain ⟨oc, od, dV, kV, doc, pmV, an, cdv, ct, osl, rfl, lk, hcd, hD, hK⟩ := F2.ex
            rcases hD with ⟨_, rfl⟩ | ⟨e, _⟩
            · exact .of_eq (O.bd d2 (List.mem_of_getElem? hj1) _ hq kV doc pmV an cdv ct us ws hu hw)
            · exact absurd rfl e
        · rw [hg] at b3
          exact PySem.W.mg_of X G (He.eqO_ok (by simpa using b3))
        · have hb := List.all_eq_true.mp b6 _ (lookup_mem' hx)
          unfold conB at hb
          split at hb
          · rename_i u d h1 h2
            obtain ⟨v, r1, r2⟩ := repB_ok hb
            exact ⟨u, v, d, PySem.W.mg_of X G h1, r1, h2, r2⟩
          · cases hb
        · rw [hl] at b8
          exact PySem.W.mg_of X G (He.eqO_ok (by simpa using b8))
        · rw [O.fld] at hx
          obtain ⟨i, hi, e⟩ := List.mem_map.mp hx
          simp only [Prod.mk.injEq] at e
          obtain ⟨rfl, rfl, rfl⟩ := e
          obtain ⟨hfb, _⟩ := S.flds i hi
          unfold fldB at hfb
          simp only [Bool.and_eq_true] at hfb
          exact ⟨_, He.glo_ok X G hfb.1.1.1.1.1.1.1.1, fld_of O X G S hi, fun d v dx U H fv e2 => ⟨i.cls, O.fin i hi, rfl, by rw [O.fld]; exact List.mem_map.mpr ⟨i, hi, rfl⟩, dx, v, rfl, e2, fv⟩⟩
        · obtain ⟨nm, hm, rfl, hd⟩ := r
          intro f d e
          rw [e] at hd
          obtain ⟨_, dd, v, e1, e2, e3⟩ := hd
          exact ⟨dd, v, e1, e2, e3⟩
        · obtain ⟨nm, hm, rfl, hd⟩ := r
          refine ⟨_, rfl, fun f d e => ?_⟩
          rw [e] at hd
          obtain ⟨hin, _⟩ := hd
          rw [O.fld] at hin
          obtain ⟨i, hi, e2⟩ := List.mem_map.mp hin
          simp only [Prod.mk.injEq] at e2
          obtain ⟨rfl, _, rfl⟩ := e2
          obtain ⟨hfb, _⟩ := S.flds i hi
          unfold fldB at hfb
          simp only [Bool.and_eq_true] at hfb
          exact ⟨xfB_ok hfb.1.1.1.1.1.2, He.eqO_ok hfb.1.1.1.1.1.1.2⟩
        · have hb := List.all_eq_true.mp b7 _ (lookup_mem' hx)
          unfold dicOk at hb
          split at hb
          · rename_i u d h1 h2
            exact ⟨u, d, PySem.W.mg_of X G h1, h2, dicB_ok hb⟩
          · cases hb
      exact {
        N := rfl
        nd := fsc.nd
        scp := rfl
        K := rfl
        calm := rfl
        room := hr
        tk := takes_of rfl rfl rfl rfl
        T := tab
        big := Nat.le_add_left _ _
        lam := fun hl => by
          have hl : decide (t.T.lam = some d.name) = true := hl
          obtain ⟨c, Pa, q1, q2, q3⟩ := LA.at_ d.name (of_decide_eq_true hl)
          refine ⟨c, Pa, ?_, q2, q3⟩
          obtain ⟨oc, od, fd1, osl, lk, rfl⟩ := hcd
          show fd1.code = .ref c
          unfold PySem.W.tabIn at q1
          unfold He.ga at lk
          split at q1
          · rename_i fa hns
            rw [hns] at lk
            simp only at lk
            rw [lk] at q1
            simp only at q1
            split at q1
            · rename_i c1 hc1
              split at q1
              · split at q1
                · cases q1; exact hc1
                · cases q1
              · cases q1
            · cases q1
          · cases q1
        kind := fsc.kind
        tg := fun x h => ⟨h, .inl rfl⟩
        own := passes_of rfl
        stk := rfl
        frm := rfl }
end Pi

set_option Elab.async false
set_option linter.all false
set_option maxRecDepth 100000
set_option maxHeartbeats 4000000
/-! PiU: the head's word, the law's promise. -/
namespace Pi
open PySem PySem.Spec PyProof.Rows L2

/-- a world, what it says of one row told apart: the hash of a key asks for it -/
def wat (w : World) (b : Bool) (g : String → Bool) : World := { w with params := { w.params with followText := fun row => if row == "special-get-raises" then b else g row } }
theorem w_split (w : World) : w = wat w (w.params.followText "special-get-raises") w.params.followText := by
  have e : w.params.followText = fun row => if row == "special-get-raises" then w.params.followText "special-get-raises" else w.params.followText row := by
    funext row
    by_cases h : row = "special-get-raises"
    · subst h; simp
    · simp [h]
  unfold wat
  rw [← e]
abbrev AlP : Type := Bool × List He.FnW
def obsP (t : Text) (K : PySem.W.Frag) : AlP := (tabB t.T t.P.sub t.P.con t.P.dic K && (t.defs.all fun d => d.d.ok K) && (t.flds.all fun i => fldB K i && i.d.ok K), (t.defs.map fun d => He.fnW K d.d.at_) ++ (t.flds.map fun i => He.fnW K i.d.at_))
def valP (t : Text) : AlP := (true, (t.defs.map fun d => d.d.val) ++ (t.flds.map fun i => i.d.val))
/-- the keys of dicts that are references -/
def dkeys (g : Addr → Option Obj) (as : List Addr) : List Addr := as.flatMap fun a => match g a with
  | some o => (match o.data with
    | .dict es _ => es.toList.flatMap fun e => He.refV e.key
    | _ => [])
  | none => []
def asK (g : Addr → Option Obj) (as : List Addr) : List Addr := cStatics :: (as ++ dkeys g as)
/-- an empty table of code objects -/
def isTab : Option Obj → Bool
  | some ⟨.none, none, .fields vs, sl⟩ => decide (vs.size = 0) && decide (sl.size = 0)
  | _ => false
theorem isTab_ok {o : Option Obj} (h : isTab o = true) : o = some { cls := .none, data := .fields #[] } := by
  unfold isTab at h
  split at h
  · rename_i vs sl
    simp only [Bool.and_eq_true, decide_eq_true_eq] at h
    obtain ⟨h1, h2⟩ := h
    rw [Array.eq_empty_of_size_eq_zero h1, Array.eq_empty_of_size_eq_zero h2]
  · cases h
/-- the code object and the table of the def that makes a lambda -/
def lamTabs (t : Text) (K : PySem.W.Frag) : List (Addr × Addr) := match t.T.lam with
  | none => []
  | some x => match PySem.W.tabIn K x with
    | some p => [p]
    | none => []
def lamB (t : Text) (K : PySem.W.Frag) (g : Addr → Option Obj) : Bool := match t.T.lam with
  | none => true
  | some x => match PySem.W.tabIn K x with
    | some (c, P) => PySem.W.codeHdIn K c P && (K.lookup P).isNone && isTab (g P)
    | none => false
def obsPK (t : Text) (K : PySem.W.Frag) (g : Addr → Option Obj) : AlP := ((obsP t K).1 && lamB t K g, (obsP t K).2)
def frK (t : Text) (g : Addr → Option Obj) (as : List Addr) : PySem.W.Frag := match lamTabs t (He.frG g as) with
  | [] => He.frG g as
  | ps => He.frG g (as.filter fun a => !(ps.map (·.2)).contains a)
theorem frK_in {t : Text} {as : List Addr} {h : Heap} : (frK t h.get? as).In h := by
  unfold frK
  split
  · exact He.frG_in
  · exact He.frG_in
def obsPG (m : Nat) (t : Text) (g : Addr → Option Obj) : AlP := obsPK t (frK t g (asK g (He.asD g m))) g
def hookP (m : Nat) (t : Text) : PySem.W.Hook where
  α := AlP
  obs := fun s => obsPG m t s.heap.get?
  val := fun _ => valP t
  says := fun _ h => ∃ K : PySem.W.Frag, K.In h ∧ obsPK t K h.get? = valP t
  of := fun _ _ e => ⟨_, frK_in, e⟩
  keeps := fun _ h h' ⟨K, hK, c⟩ k => ⟨K, PySem.W.Frag.In.keeps hK k, by
    unfold obsPK valP at c ⊢
    obtain ⟨c1, c2⟩ := Prod.mk.inj c
    refine Prod.ext ?_ c2
    obtain ⟨c3, c4⟩ := Bool.and_iff c1
    show ((obsP t K).1 && lamB t K h'.get?) = true
    rw [c3, Bool.true_and]
    unfold lamB at c4 ⊢
    split at c4
    · rfl
    · split at c4
      · rename_i c P e
        simp only [Bool.and_eq_true] at c4 ⊢
        refine ⟨c4.1, ?_⟩
        rw [k _ _ (isTab_ok c4.2)]
        rfl
      · cases c4⟩
theorem obsPG_eq {m : Nat} {t : Text} {g : Addr → Option Obj} {s : Shared} (h : ∀ a, g a = s.heap.get? a) : obsPG m t g = (hookP m t).obs s := by
  have e : g = s.heap.get? := funext h
  subst e
  rfl
theorem said_of {t : Text} {K : PySem.W.Frag} {g : Addr → Option Obj} (h : obsPK t K g = valP t) : t.Said K := by
  have h1 := congrArg Prod.fst h
  have h2 := congrArg Prod.snd h
  obtain ⟨h1, _⟩ := Bool.and_iff h1
  obtain ⟨h1, c⟩ := Bool.and_iff h1
  obtain ⟨a, b⟩ := Bool.and_iff h1
  have h2 : (t.defs.map fun d => He.fnW K d.d.at_) ++ (t.flds.map fun i => He.fnW K i.d.at_) = (t.defs.map fun d => d.d.val) ++ (t.flds.map fun i => i.d.val) := h2
  obtain ⟨h2, h3⟩ := List.append_inj h2 (by simp)
  refine ⟨a, fun d hd => ?_, fun i hi => ?_⟩
  · have e : He.fnW K d.d.at_ = d.d.val := List.map_inj_left.mp h2 d hd
    obtain ⟨fd, F⟩ := He.DefD.funD e (List.all_eq_true.mp b d hd)
    exact ⟨fd, F⟩
  · have e : He.fnW K i.d.at_ = i.d.val := List.map_inj_left.mp h3 i hi
    obtain ⟨c1, c2⟩ := Bool.and_iff (List.all_eq_true.mp c i hi)
    obtain ⟨fd, F⟩ := He.DefD.funD e c2
    exact ⟨c1, fd, F⟩
theorem lam_of {t : Text} {K : PySem.W.Frag} {g : Addr → Option Obj} (h : obsPK t K g = valP t) : ∀ p ∈ lamTabs t K, PySem.W.codeHdIn K p.1 p.2 = true ∧ K.lookup p.2 = none ∧ g p.2 = some { cls := .none, data := .fields #[] } := by
  obtain ⟨_, c⟩ := Bool.and_iff (congrArg Prod.fst h)
  intro p hp
  unfold lamTabs at hp
  unfold lamB at c
  split at c
  · rename_i e
    rw [e] at hp; cases hp
  · rename_i x e
    rw [e] at hp
    simp only at hp
    split at c
    · rename_i c1 P e2
      rw [e2] at hp
      simp only [List.mem_singleton] at hp
      subst hp
      simp only [Bool.and_eq_true] at c
      exact ⟨c.1.1, Option.isNone_iff_eq_none.mp c.1.2, isTab_ok c.2⟩
    · cases c
theorem FnOk.quiet {P : Program} {w : World} {K : PySem.W.Frag} {mg : Str → Option Value} {base : Heap} {k : Nat} {f : Addr} {fd : FuncData} {ps : List Str} {sp : Sp} (F : FnOk P w K mg base (L2.CX P w) k f fd ps sp) :
    FnOk P w K mg base CX0 k f fd ps (fun vs H Q _ => sp vs H Q E0) := by
  refine ⟨fun vs H Q E q => F.len vs H Q _ q, fun A outer s H args us vs Q E hr he hb hv hs => codeAny_mono (F.run A outer s H args us vs Q E0 hr he hb hv hs) fun r s' h => ?_⟩
  cases r with
  | ok fl => cases fl <;> exact h
  | error e =>
    obtain ⟨_, _, _, _, _, _, _, _, _, _, _, _, z⟩ := h
    exact z.elim
/-- the law's call, by the interpreter -/
def lawArg (ns : List Int) : List Sl := [.sh (.lst (ns.map D.int))]
def LawIs (P : Pg) (n i : Nat) (ns : List Int) : Prop := ∃ fr ps, callF P n i (lawArg ns) = .ok (.bl true) fr ps
theorem reps_ns {K : PySem.W.Frag} {U : Addr → Prop} {H : Hp} : ∀ ns : List Int, RepAll K U H (ns.map V.int) (ns.map D.int)
  | [] => .nil
  | i :: r => .cons (.int i) (reps_ns r)
theorem sp_law [HasT] {K : PySem.W.Frag} {XR : XRt} {P : Pg} {n i : Nat} {ns : List Int} {H : Hp} {a : Addr} (hl : LawIs P n i ns) (hT : TabsT H) (hn : noLst K = true) (hS : SqL K H a (ns.map V.int)) (E : XK) :
    spF K XR 1 (callF P n i) [.ref a] H (fun v _ => v = .bl true) E := by
  obtain ⟨fr, ps, e⟩ := hl
  have hR : Rd H a (.lst (ns.map V.int)) := by
    rcases hS with h | ⟨o, its, m, lk, hc, _⟩
    · exact h
    · have hm := lookup_mem' lk
      have := List.all_eq_true.mp hn _ hm
      simp only [hc] at this
      simp at this
  refine ⟨lawArg ns, fun _ => False, rfl, rfl, ⟨⟨rfl, fun j d h => ?_, fun j l d h => ?_, fun j k l l' d d' b h => ?_, fun b h => h.elim, fun _ _ => trivial, hT⟩, fun j h => ?_, fun j l d h => ?_⟩, ?_⟩
  · cases j with
    | zero =>
      have h : some (Sl.sh (.lst (ns.map D.int))) = some (.sh d) := h
      cases h
      exact ⟨_, rfl, .lst hR (fun z => z) (reps_ns ns)⟩
    | succ j => simp [lawArg] at h
  · cases j <;> simp [lawArg] at h
  · cases j <;> simp [lawArg] at h
  · cases j <;> simp [lawArg] at h
  · cases j <;> simp [lawArg] at h
  · rw [e]
    intro v U' H' _ hv
    cases fr with
    | false => cases hv; rfl
    | true =>
      obtain ⟨b, _, _, z, _⟩ := hv
      exact z.elim
/-- the tables with their names -/
def lamT (t : Text) (K : PySem.W.Frag) : HasT := ⟨match t.T.lam with
  | none => []
  | some x => (lamTabs t K).map fun (p : Addr × Addr) => (p.2, (x ++ ".<locals>.") ++ "<lambda>")⟩
theorem law_F {t : Text} (O : t.Ok) {l : PySem.W.OpenLaw} {w : World} {h : Heap} {mg : Str → Option Value} {fa : Addr} {n i : Nat} {d : DefI} (hd : t.defs[i]? = some d) (hdn : d.name = ("law" : Str)) (hps : d.ps = [("script" : Str)])
    (hb : ∀ (kV doc pm : Value) (an : Option Addr) (cdv ct : Value) (us : List Value), us.length = d.ps.length → bindArgs (PySem.W.fnOf d.name d.name (defArgs d.st) (defBody d.st) (defScope d.st) .none kV doc pm an cdv ct) ⟨us, []⟩ = pure (d.ps.zip us))
    (pl : ∀ ns : List Int, ns.length ≤ 63 → LawIs t.P n i ns) (Y : ∃ K : PySem.W.Frag, K.In h ∧ obsPK t K h.get? = valP t) (G : h.Ns mainGlobals mg) (hmg : mg ("law" : Str) = some (.ref fa)) :
    ∃ (K : PySem.W.Frag), K.In h ∧ LamX.LawAtS l w K CX0 (n + 2) 63 "script" mg fa h := by
  obtain ⟨K, KX, c⟩ := Y
  have S := said_of c
  have LT := lam_of c
  have tb := S.tab
  unfold tabB at tb
  simp only [Bool.and_eq_true] at tb
  have hgl : mg d.name = some (.ref (He.ga K d.name)) := by
    refine He.glo_ok KX G (List.all_eq_true.mp tb.1.1.1.1.1.1.1 (d.name, i, d.pats) ?_)
    rw [O.fns]
    unfold tabFns
    refine List.mem_map.mpr ⟨(d, i), ?_, rfl⟩
    refine List.mem_iff_getElem?.mpr ⟨i, ?_⟩
    rw [List.getElem?_zip_eq_some]
    exact ⟨hd, by rw [List.getElem?_range (List.getElem?_eq_some_iff.mp hd).1]⟩
  rw [hdn, hmg] at hgl
  have hfa : fa = He.ga K ("law" : Str) := by cases hgl; rfl
  subst hfa
  letI : HasT := lamT t K
  have LA : ∀ base : Heap, (∀ p ∈ lamTabs t K, LamX.TabB base mg p.1 p.2) → LamAt t K mg base := fun base hB => ⟨fun x hx => by
    cases e : PySem.W.tabIn K x with
    | none =>
      obtain ⟨_, q⟩ := Bool.and_iff (congrArg Prod.fst c)
      unfold lamB at q
      rw [hx] at q
      simp only at q
      rw [e] at q
      cases q
    | some p =>
      have hm : p ∈ lamTabs t K := by
        unfold lamTabs
        rw [hx]
        simp only
        rw [e]
        exact List.mem_cons_self
      refine ⟨p.1, p.2, rfl, hB p hm, ?_⟩
      show (match t.T.lam with | none => [] | some x => (lamTabs t K).map fun (p : Addr × Addr) => (p.2, (x ++ ".<locals>.") ++ "<lambda>")) = _
      unfold lamTabs
      rw [hx]
      simp only
      rw [e]
      rfl⟩
  have fdx : ∃ fd, FunD K d.name d.name (defArgs d.st) (defBody d.st) (defScope d.st) [] [] (He.ga K d.name) fd := S.defs d (List.mem_of_getElem? hd)
  obtain ⟨fd, F⟩ := fdx
  have b := FunD.bindsA (ps := d.ps) F hb
  refine ⟨K, KX, fd, lamTabs t K, fun vs H Q _ => spF K (xrOf t.T K) d.ps.length (callF t.P n i) vs H Q E0, fun p hp => (LT p hp).2.2, fun p hp => (LT p hp).2.1, fun p hp => PySem.W.codeHd_of_K KX (LT p hp).1, fun s u => ?_, fun H a ns hl _ hTb hS => ?_, fun base hKb hN hB => ?_⟩
  · have := b s [u] (by rw [hps]; rfl)
    rw [hps] at this
    exact this
  · show spF K (xrOf t.T K) d.ps.length (callF t.P n i) [.ref a] H _ E0
    rw [hps]
    refine sp_law (pl ns hl) ⟨fun p hp => ?_⟩ tb.1.1.1.2 hS E0
    have hp : p ∈ (match t.T.lam with | none => [] | some x => (lamTabs t K).map fun (p : Addr × Addr) => (p.2, (x ++ ".<locals>.") ++ "<lambda>")) := hp
    split at hp
    · cases hp
    · obtain ⟨q, hq, rfl⟩ := List.mem_map.mp hp
      exact LamX.TabS.nil (hTb q hq)
  · obtain ⟨fd', F', ok'⟩ := all_ok O (P := l.prog) (w := w) (base := base) KX G S (LA base hB) n i d hd
    obtain ⟨oc, od, dV, kV, doc, pm, an, cdv, ct, osl, rfl, lk, _⟩ := F.ex
    obtain ⟨oc', od', dV', kV', doc', pm', an', cdv', ct', osl', rfl, lk', _⟩ := F'.ex
    rw [lk'] at lk
    cases lk
    rw [← hps, ← hdn]
    exact FnOk.quiet ok'
end Pi

set_option Elab.async false
set_option linter.all false
set_option maxRecDepth 100000
set_option maxHeartbeats 4000000
/-! PiV: the interpreter in equations, for the plain laws. -/
namespace Pi
open PySem
theorem callF_of {P : Pg} {n f : Nat} {fn : Fn} {as : List Sl} (h : P.G[f]? = some fn) (h1 : as.length = fn.np) (h2 : borOk as fn.bor = true) :
    callF P (n + 1) f as = outF fn.np (execs (P.lib (callF P n)) fn.body (as ++ List.replicate (fn.nl - fn.np) .no)) := by
  simp only [callF, h]
  rw [if_pos ⟨h1, h2⟩]
@[simp] theorem lib_C (P : Pg) (C : Nat → List Sl → CRes) : (P.lib C).C = C := rfl
@[simp] theorem lib_sub (P : Pg) (C : Nat → List Sl → CRes) (a b : Nat) : (P.lib C).sub a b = (P.sub.getD a []).getD b false := rfl
theorem lib_bor {P : Pg} {f : Nat} {fn : Fn} (h : P.G[f]? = some fn) (C : Nat → List Sl → CRes) : (P.lib C).bor f = fn.bor := by
  show (match P.G[f]? with | some fn => fn.bor | none => []) = _
  rw [h]
@[simp] theorem evalsF_nil {L : Lib} {env : Env} : evalsF L [] env = .ok [] env := rfl
@[simp] theorem evalsF_cons {L : Lib} {e : E} {es : List E} {env : Env} : evalsF L (e :: es) env = (eval L e env).bind fun d env1 => (evalsF L es env1).bind fun ds env2 => .ok (d :: ds) env2 := rfl
@[simp] theorem storeF_nil {env : Env} : storeF [] [] env = some env := rfl
@[simp] theorem storeF_cons {i : Nat} {is : List Nat} {x : D × Bool} {ds : List (D × Bool)} {env : Env} : storeF (i :: is) (x :: ds) env = if i < env.length then storeF is ds (env.set i (if x.2 then .ow true x.1 else .sh x.1)) else none := rfl
section
variable {i j : Int} {d e : D} {xs ys : List D} {b : Bool} {env : Env}
@[simp] theorem opD_add : opD .add (.int i) (.int j) = some (.int (i + j), false) := rfl
@[simp] theorem opD_sub : opD .sub (.int i) (.int j) = some (.int (i - j), false) := rfl
@[simp] theorem opD_mul (h : mulOk i j) : opD .mul (.int i) (.int j) = some (.int (i * j), false) := if_pos h
@[simp] theorem opD_rep (h : 0 ≤ j ∧ j ≤ 1000 ∧ xs.length ≤ 100) : opD .mul (.lst xs) (.int j) = some (.lst (List.replicate j.toNat xs).flatten, true) := if_pos h
@[simp] theorem opD_fdiv (h : divOk j) : opD .fdiv (.int i) (.int j) = some (.int (i / j), false) := if_pos h
@[simp] theorem opD_mod (h : 0 < j) : opD .mod (.int i) (.int j) = some (.int (i % j), false) := if_pos h
@[simp] theorem opD_pow (h : 0 ≤ j ∧ j ≤ 1000 ∧ i.natAbs < 1000000) : opD .pow (.int i) (.int j) = some (.int (i ^ j.toNat), false) := if_pos h
@[simp] theorem opD_tup (h : xs.length + ys.length ≤ 100000) : opD .add (.tup xs) (.tup ys) = some (.tup (xs ++ ys), false) := if_pos h
@[simp] theorem opD_lst (h : xs.length + ys.length ≤ 100000) : opD .add (.lst xs) (.lst ys) = some (.lst (xs ++ ys), true) := if_pos h
@[simp] theorem cmpD_lt : cmpD .lt (.int i) (.int j) = some (decide (i < j)) := rfl
@[simp] theorem cmpD_le : cmpD .le (.int i) (.int j) = some (decide (i ≤ j)) := rfl
@[simp] theorem cmpD_gt : cmpD .gt (.int i) (.int j) = some (decide (j < i)) := rfl
@[simp] theorem cmpD_ge : cmpD .ge (.int i) (.int j) = some (decide (j ≤ i)) := rfl
@[simp] theorem cmpD_eqi : cmpD .eq (.int i) (.int j) = some (decide (i = j)) := by simp [cmpD, D.depth, D.eqb]; rfl
@[simp] theorem cmpD_nei : cmpD .ne (.int i) (.int j) = some (!decide (i = j)) := by simp [cmpD, D.depth, D.eqb]; rfl
@[simp] theorem cmpD_eqb {a b : Bool} : cmpD .eq (.bl a) (.bl b) = some (a == b) := by simp [cmpD, D.depth, D.eqb]
@[simp] theorem cmpD_neb {a b : Bool} : cmpD .ne (.bl a) (.bl b) = some (!(a == b)) := by simp [cmpD, D.depth, D.eqb]
theorem cmpD_eq (h : d.depth ≤ 64) (h2 : e.depth ≤ 64) : cmpD .eq d e = some (d.eqb e) := if_pos ⟨h, h2⟩
theorem cmpD_ne (h : d.depth ≤ 64) (h2 : e.depth ≤ 64) : cmpD .ne d e = some (!d.eqb e) := if_pos ⟨h, h2⟩
@[simp] theorem biD_lenL : biD .len [.lst xs] = some (.int xs.length, false) := rfl
@[simp] theorem biD_lenT : biD .len [.tup xs] = some (.int xs.length, false) := rfl
@[simp] theorem biD_abs : biD .abs [.int i] = some (.int (if i < 0 then -i else i), false) := rfl
@[simp] theorem biD_int : biD .int [.int i] = some (.int i, false) := rfl
@[simp] theorem biD_intB : biD .int [.bl b] = some (.int (if b then 1 else 0), false) := rfl
@[simp] theorem biD_gcd : biD .gcd [.int i, .int j] = some (.int (Nat.gcd i.natAbs j.natAbs : Nat), false) := rfl
@[simp] theorem biD_max : biD .max [.int i, .int j] = some (.int (if i < j then j else i), false) := rfl
@[simp] theorem biD_min : biD .min [.int i, .int j] = some (.int (if j < i then j else i), false) := rfl
@[simp] theorem biD_all : biD .all [.lst xs] = (allBls xs).map fun bs => (.bl (bs.all id), false) := rfl
@[simp] theorem biD_any : biD .any [.lst xs] = (allBls xs).map fun bs => (.bl (bs.any id), false) := rfl
@[simp] theorem biD_sum : biD .sum [.lst xs] = (allInts xs).map fun is => (.int is.sum, false) := rfl
@[simp] theorem biD_listL : biD .list [.lst xs] = some (.lst xs, true) := rfl
@[simp] theorem biD_listT : biD .list [.tup xs] = some (.lst xs, true) := rfl
@[simp] theorem biD_tupleL : biD .tuple [.lst xs] = some (.tup xs, false) := rfl
@[simp] theorem biD_tupleT : biD .tuple [.tup xs] = some (.tup xs, false) := rfl
@[simp] theorem ixD_L : ixD (.lst xs) (.int i) = L2.atI xs i := rfl
@[simp] theorem ixD_T : ixD (.tup xs) (.int i) = L2.atI xs i := rfl
@[simp] theorem truth_bl : D.truth (.bl b) = b := rfl
@[simp] theorem truth_int : D.truth (.int i) = (i != 0) := rfl
@[simp] theorem truth_non : D.truth .non = false := rfl
@[simp] theorem truth_tup : D.truth (.tup xs) = !xs.isEmpty := rfl
@[simp] theorem truth_lst : D.truth (.lst xs) = !xs.isEmpty := rfl
theorem atI_nat' {α : Type} {xs : List α} {i : Int} (k : Nat) (h : i = k) : L2.atI xs i = xs[k]? := by
  subst h
  unfold L2.atI L2.ixN
  rw [if_pos (by omega)]
  by_cases hk : k < xs.length
  · rw [if_pos (by omega)]; simp
  · rw [if_neg (by omega)]
    simp only [Option.bind_none]
    rw [List.getElem?_eq_none (by omega)]
@[simp] theorem atI_0 {α : Type} {xs : List α} : L2.atI xs 0 = xs[0]? := atI_nat' 0 rfl
@[simp] theorem atI_1 {α : Type} {xs : List α} : L2.atI xs 1 = xs[1]? := atI_nat' 1 rfl
@[simp] theorem atI_2 {α : Type} {xs : List α} : L2.atI xs 2 = xs[2]? := atI_nat' 2 rfl
@[simp] theorem atI_n {α : Type} {xs : List α} {k : Nat} : L2.atI xs (k : Int) = xs[k]? := atI_nat' k rfl
@[simp] theorem ixN_0 {n : Nat} (h : 0 < n) : L2.ixN n 0 = some 0 := by
  unfold L2.ixN
  rw [if_pos (by omega), if_pos (by omega)]; rfl
@[simp] theorem ixN_1 {n : Nat} (h : 1 < n) : L2.ixN n 1 = some 1 := by
  unfold L2.ixN
  rw [if_pos (by omega), if_pos (by omega)]; rfl
@[simp] theorem ixN_2 {n : Nat} (h : 2 < n) : L2.ixN n 2 = some 2 := by
  unfold L2.ixN
  rw [if_pos (by omega), if_pos (by omega)]; rfl
@[simp] theorem gives_n0 (ps : List Sl) : gives [] ps env = env := by cases ps <;> simp [gives]
@[simp] theorem gives_nn (t : List (Option (Nat × Bool))) (p : Sl) (ps : List Sl) : gives (none :: t) (p :: ps) env = gives t ps env := by simp [gives]
@[simp] theorem gives_n1 (ps : List Sl) : gives [none] ps env = env := by cases ps <;> simp [gives]
@[simp] theorem gives_n2 (ps : List Sl) : gives [none, none] ps env = env := by
  rcases ps with _ | ⟨p, _ | ⟨q, r⟩⟩ <;> simp [gives]
@[simp] theorem gives_n3 (ps : List Sl) : gives [none, none, none] ps env = env := by
  rcases ps with _ | ⟨p, _ | ⟨q, _ | ⟨w, r⟩⟩⟩ <;> simp [gives]
end
theorem lcLoop_all {f : D → Env → Res (Option D)} {env : Env} {g : D → D} : ∀ {xs acc : List D}, (∀ x ∈ xs, f x env = .ok (some (g x)) env) → acc.length + xs.length ≤ 100000 → lcLoop f xs env acc = .ok (acc ++ xs.map g) env
  | [], acc, _, _ => by simp [lcLoop]
  | x :: xs, acc, h, hl => by
    have h1 := h x List.mem_cons_self
    simp only [List.length_cons] at hl
    have ih := lcLoop_all (xs := xs) (acc := acc ++ [g x]) (fun y hy => h y (List.mem_cons_of_mem _ hy)) (by simp; omega)
    have : acc.length < 100000 := by omega
    simp [lcLoop, h1, this, ih]
theorem allBls_map {α : Type} (f : α → Bool) : ∀ xs : List α, allBls (xs.map fun x => D.bl (f x)) = some (xs.map f)
  | [] => rfl
  | x :: xs => by
    simp only [List.map_cons, allBls, allBls_map f xs]
    rfl
theorem rngOk_of {i : Int} (h0 : 0 ≤ i) (h : i ≤ 1000000) : rngOk i = true := by
  have a : (-(2 ^ 62) : Int) ≤ i := by omega
  have b : i < (2 ^ 62 : Int) := by omega
  simp [rngOk]
  omega
theorem iterD_range {i : Int} (h0 : 0 ≤ i) (h : i ≤ 1000000) : iterD .range [.int i] = some (rangeD 0 i.toNat) := by
  show (if rngOk i = true then some (rangeD 0 i.toNat) else none) = _
  rw [rngOk_of h0 h]; rfl
theorem rangeD_len {lo : Int} {n : Nat} : (rangeD lo n).length = n := by simp [rangeD]
theorem rangeD_mem {lo : Int} {n : Nat} {x : D} (h : x ∈ rangeD lo n) : ∃ k : Nat, k < n ∧ x = .int (lo + k) := by
  obtain ⟨k, hk, rfl⟩ := List.mem_map.mp h
  exact ⟨k, List.mem_range.mp hk, rfl⟩
end Pi

set_option Elab.async false
set_option linter.all false
set_option maxRecDepth 100000
set_option maxHeartbeats 4000000

set_option Elab.async false
set_option linter.all false
set_option maxRecDepth 100000
set_option maxHeartbeats 4000000
/-! PiX: steps by hand. -/
namespace Pi
open PySem
section
variable {L : Lib} {e a b c : E} {env env' : Env} {d : D} {fr : Bool} {f : Bi} {p q : List S} {s : S} {r : List S}
theorem bi_one (hv : ∀ i, e ≠ .var i) (h : eval L e env = .ok (d, fr) env') : eval L (.bi f [e]) env = pureR (biD f [d]) env' := by
  have ha : argOf e (eval L e env) env = .ok (.val d) env' := by
    rw [h]
    cases e <;> first | rfl | exact absurd rfl (hv _)
  simp only [eval, args, ha, Res.bind_ok, peeks, Arg.peek, Option.bind_some, Option.map_some]
theorem ret_of (hv : ∀ i, e ≠ .var i) (h : eval L e env = .ok (d, fr) env') : exec L (.ret e) env = .ok (.rt d fr) env' := by
  cases e <;> first | exact absurd rfl (hv _) | (simp only [exec, h, Res.bind_ok])
theorem and_t (h : eval L a env = .ok (.bl true, fr) env') : eval L (.and a b) env = eval L b env' := by
  simp only [eval, h, Res.bind_ok, truth_bl, if_true]
theorem and_f (h : eval L a env = .ok (.bl false, fr) env') : eval L (.and a b) env = .ok (.bl false, false) env' := by
  simp [eval, h]
theorem ite_of (hv : ∀ i, c ≠ .var i) (h : eval L c env = .ok (d, fr) env') : exec L (.ite c p q) env = if d.truth then execs L p env' else execs L q env' := by
  have ha : argOf c (eval L c env) env = .ok (.val d) env' := by
    rw [h]
    cases c <;> first | rfl | exact absurd rfl (hv _)
  simp only [exec, ha, Res.bind_ok, Arg.peek]
theorem ss_rt (h : exec L s env = .ok (.rt d fr) env') : execs L (s :: r) env = .ok (.rt d fr) env' := by
  simp only [execs, h, Res.bind_ok]
theorem ss_nx (h : exec L s env = .ok .nx env') : execs L (s :: r) env = execs L r env' := by
  simp only [execs, h, Res.bind_ok]
theorem ss_one (h : execs L [s] env = exec L s env) : True := trivial
end
end Pi

set_option Elab.async false
set_option linter.all false
set_option maxRecDepth 100000
set_option maxHeartbeats 4000000
/-! PiY: plain facts that many laws share. -/
namespace Pi

abbrev num (a b : Int) : D := .tup [.int a, .int b]
abbrev gcdI (t b : Int) : Int := (Nat.gcd t.natAbs b.natAbs : Nat)
def isNum : D → Bool
  | .tup [.int a, .int b] => decide (1 ≤ b) && decide (gcdI a b = 1)
  | _ => false
theorem log2_le {n a : Nat} (h : n < 2 ^ a) : n.log2 ≤ a := by
  by_cases h0 : n = 0
  · subst h0; simp
  · exact Nat.le_of_lt ((Nat.log2_lt h0).mpr h)
theorem mulOk_of {i j : Int} (a b : Nat) (h1 : i.natAbs < 2 ^ a) (h2 : j.natAbs < 2 ^ b) (h : a + b < 1000000) : mulOk i j := by
  have := log2_le h1
  have := log2_le h2
  exact .inl (by omega)
theorem mulOk_r {i j : Int} (h : j.natAbs.log2 < 60) : mulOk i j := .inr (.inr h)
theorem divOk_of {j : Int} (a : Nat) (h0 : 0 < j) (h2 : j.natAbs < 2 ^ a) (h : a < 9000) : divOk j := ⟨h0, by have := log2_le h2; omega⟩
abbrev pou (c fl t : Int) : D := .lst [.int c, .int fl, .int t]
def big : Int := 10 ^ 240
/-- a pouch: m turns at most were drawn from it -/
def Pou (m : Int) (d : D) : Prop := ∃ c fl t, d = pou c fl t ∧ 0 ≤ c ∧ c < big ∧ 0 ≤ t ∧ t ≤ m
theorem Pou.le {m m' : Int} {d : D} (h : Pou m d) (k : m ≤ m') : Pou m' d := by
  obtain ⟨c, fl, t, h1, h2, h3, h4, h5⟩ := h
  exact ⟨c, fl, t, h1, h2, h3, h4, by omega⟩
theorem big_lt : big < 2 ^ 900 := by decide +kernel
theorem small_of {i : Int} (a : Nat) (h0 : 0 ≤ i) (h : i < 2 ^ a) : i.natAbs < 2 ^ a := by
  have : ((i.natAbs : Nat) : Int) < ((2 ^ a : Nat) : Int) := by
    rw [Int.natAbs_of_nonneg h0]
    push_cast
    exact h
  exact_mod_cast this
mutual
def D.fine : D → Prop
  | .tup xs => xs.length ≤ 1000 ∧ D.fines xs
  | .lst xs => xs.length ≤ 1000 ∧ D.fines xs
  | _ => True
def D.fines : List D → Prop
  | [] => True
  | x :: xs => D.fine x ∧ D.fines xs
end
theorem fines_mem : ∀ {xs : List D} {x : D}, D.fines xs → x ∈ xs → D.fine x
  | y :: xs, x, h, hx => by
    simp only [D.fines] at h
    rcases List.mem_cons.mp hx with rfl | hx
    · exact h.1
    · exact fines_mem h.2 hx
theorem depths_mem : ∀ {xs : List D} {x : D}, x ∈ xs → x.depth ≤ D.depths xs
  | y :: xs, x, hx => by
    simp only [D.depths]
    rcases List.mem_cons.mp hx with rfl | hx
    · omega
    · have := depths_mem hx
      omega
theorem iter_len (xs : List D) (hz : xs.length ≤ 1000) : iterD .range [.int (xs.length : Int)] = some (rangeD 0 xs.length) := by
  have h1 : (0 : Int) ≤ (xs.length : Int) := Int.natCast_nonneg _
  have h2 : (xs.length : Int) ≤ 1000000 := by omega
  have := iterD_range h1 h2
  rw [Int.toNat_natCast] at this
  exact this
theorem walkB_of {k : ItK} {xs : List Arg} {env : Env} {ds items : List D} (h1 : peeks env xs = some ds) (h2 : iterD k ds = some items) : walkB k xs env = .ok items (shares xs env) := by
  unfold walkB
  simp only [h1, h2]
structure Nm (a b : Int) : Prop where
  pos : 0 < b
  one : gcdI a b = 1
  ta : a.natAbs < 2 ^ 110
  tb : b.natAbs < 2 ^ 110
theorem gcdI_pos {t b : Int} (hb : 0 < b) : 0 < gcdI t b := by
  have : 0 < Nat.gcd t.natAbs b.natAbs := Nat.gcd_pos_of_pos_right _ (by omega)
  show (0 : Int) < (Nat.gcd t.natAbs b.natAbs : Nat)
  omega
theorem gcdI_split {t b : Int} (hb : 0 < b) : ∃ t' b', t = gcdI t b * t' ∧ b = gcdI t b * b' ∧ t / gcdI t b = t' ∧ b / gcdI t b = b' ∧ 0 < b' ∧ gcdI t' b' = 1 := by
  have g0 := gcdI_pos (t := t) hb
  obtain ⟨t', ht⟩ : gcdI t b ∣ t := Int.ofNat_dvd_left.mpr (Nat.gcd_dvd_left _ _)
  obtain ⟨b', hb'⟩ : gcdI t b ∣ b := Int.ofNat_dvd_left.mpr (Nat.gcd_dvd_right _ _)
  refine ⟨t', b', ht, hb', ?_, ?_, ?_, ?_⟩
  · conv => lhs; lhs; rw [ht]
    exact Int.mul_ediv_cancel_left _ (by omega)
  · conv => lhs; lhs; rw [hb']
    exact Int.mul_ediv_cancel_left _ (by omega)
  · rw [hb'] at hb
    exact Int.pos_of_mul_pos_right hb (by omega) |> fun h => h
  · have h1 : t.natAbs = (Nat.gcd t.natAbs b.natAbs) * t'.natAbs := by
      conv => lhs; rw [ht]
      rw [Int.natAbs_mul, Int.natAbs_natCast]
    have h2 : b.natAbs = (Nat.gcd t.natAbs b.natAbs) * b'.natAbs := by
      conv => lhs; rw [hb']
      rw [Int.natAbs_mul, Int.natAbs_natCast]
    have h4 : 0 < Nat.gcd t.natAbs b.natAbs := Nat.gcd_pos_of_pos_right _ (by omega)
    generalize hg : Nat.gcd t.natAbs b.natAbs = g at h1 h2 h4
    have h3 : g = g * Nat.gcd t'.natAbs b'.natAbs := by
      rw [← Nat.gcd_mul_left, ← h1, ← h2, hg]
    have h5 : Nat.gcd t'.natAbs b'.natAbs = 1 := by
      have : g * 1 = g * Nat.gcd t'.natAbs b'.natAbs := by omega
      exact (Nat.eq_of_mul_eq_mul_left h4 this).symm
    show ((Nat.gcd t'.natAbs b'.natAbs : Nat) : Int) = 1
    rw [h5]; rfl
theorem natAbs_ediv_le (t g : Int) (hg : 0 < g) (h : ∃ t', t = g * t') : (t / g).natAbs ≤ t.natAbs := by
  obtain ⟨t', rfl⟩ := h
  rw [Int.mul_ediv_cancel_left _ (by omega), Int.natAbs_mul]
  exact Nat.le_mul_of_pos_left _ (by omega)
theorem low_nm {t b : Int} (hb : 0 < b) (h1 : t.natAbs < 2 ^ 110) (h2 : b.natAbs < 2 ^ 110) : Nm (t / gcdI t b) (b / gcdI t b) := by
  obtain ⟨t', b', e1, e2, e3, e4, e5, e6⟩ := gcdI_split (t := t) hb
  have g0 := gcdI_pos (t := t) hb
  refine ⟨by rw [e4]; exact e5, by rw [e3, e4]; exact e6, Nat.lt_of_le_of_lt (natAbs_ediv_le _ _ g0 ⟨t', e1⟩) h1, Nat.lt_of_le_of_lt (natAbs_ediv_le _ _ g0 ⟨b', e2⟩) h2⟩
theorem div_eq_self {t g : Int} (hg : 0 < g) (h0 : 0 < t) (h : t / g = t) : g = 1 := by
  by_cases h1 : g = 1
  · exact h1
  · have e := Int.emod_add_mul_ediv t g
    have r0 : 0 ≤ t % g := Int.emod_nonneg _ (by omega)
    have m : 2 * t ≤ g * t := Int.mul_le_mul_of_nonneg_right (by omega) (by omega)
    rw [h] at e
    omega
theorem low_eq {a b : Int} (hb : 0 < b) : (num (a / gcdI a b) (b / gcdI a b)).eqb (num a b) = decide (gcdI a b = 1) := by
  by_cases h : gcdI a b = 1
  · simp [h, D.eqb, D.eqbs]
  · have : b / gcdI a b ≠ b := fun z => h (div_eq_self (gcdI_pos hb) hb z)
    simp [h, D.eqb, D.eqbs, this]
theorem isNum_of {a b : Int} (h : Nm a b) : isNum (num a b) = true := by
  have hp := h.pos
  have h1 := h.one
  have : 1 ≤ b := by omega
  simp [isNum, this, h1]
theorem mulNm {a d : Int} (h1 : a.natAbs < 2 ^ 110) (h2 : d.natAbs < 2 ^ 110) : mulOk a d := mulOk_of 110 110 h1 h2 (by decide)
theorem abs_mul_lt {a d : Int} {j k : Nat} (h1 : a.natAbs < 2 ^ j) (h2 : d.natAbs < 2 ^ k) : (a * d).natAbs < 2 ^ (j + k) := by
  rw [Int.natAbs_mul, Nat.pow_add]
  exact Nat.mul_lt_mul'' h1 h2
theorem gcd_scale {k x y : Int} (hk : 0 < k) : gcdI (k * x) (k * y) = k * gcdI x y := by
  show ((Nat.gcd (k * x).natAbs (k * y).natAbs : Nat) : Int) = k * ((Nat.gcd x.natAbs y.natAbs : Nat) : Int)
  rw [Int.natAbs_mul, Int.natAbs_mul, Nat.gcd_mul_left]
  have : ((k.natAbs : Nat) : Int) = k := Int.natAbs_of_nonneg (by omega)
  push_cast
  rw [Int.natAbs_of_nonneg (show 0 ≤ k by omega)]
theorem low_scale {k x y : Int} (hk : 0 < k) (hy : 0 < y) : (k * x) / gcdI (k * x) (k * y) = x / gcdI x y ∧ (k * y) / gcdI (k * x) (k * y) = y / gcdI x y := by
  rw [gcd_scale hk]
  exact ⟨Int.mul_ediv_mul_of_pos _ _ hk, Int.mul_ediv_mul_of_pos _ _ hk⟩
theorem gcdI_le {x y : Int} (hy : 0 < y) : gcdI x y ≤ y := by
  have : Nat.gcd x.natAbs y.natAbs ≤ y.natAbs := Nat.gcd_le_right _ (by omega)
  show ((Nat.gcd x.natAbs y.natAbs : Nat) : Int) ≤ y
  omega
theorem divOk_gcd {x y : Int} (k : Nat) (hy : 0 < y) (h : y.natAbs < 2 ^ k) (hk : k < 9000) : divOk (gcdI x y) := by
  have h1 := gcdI_le (x := x) hy
  have h2 := gcdI_pos (t := x) hy
  exact divOk_of k h2 (Nat.lt_of_le_of_lt (by omega) h) hk
theorem quo_lt {x y : Int} (k : Nat) (hy : 0 < y) (hx : x.natAbs < 2 ^ k) (h : y.natAbs < 2 ^ k) : (x / gcdI x y).natAbs < 2 ^ k ∧ (y / gcdI x y).natAbs < 2 ^ k ∧ 0 < y / gcdI x y := by
  obtain ⟨p, q, e1, e2, e3, e4, e5, e6⟩ := gcdI_split (t := x) hy
  have g0 := gcdI_pos (t := x) hy
  exact ⟨Nat.lt_of_le_of_lt (natAbs_ediv_le _ _ g0 ⟨p, e1⟩) hx, Nat.lt_of_le_of_lt (natAbs_ediv_le _ _ g0 ⟨q, e2⟩) h, by rw [e4]; exact e5⟩
theorem foLoop_inv {f : D → Env → Res Fl} {I : Nat → Env → Prop} : ∀ (items : List D) (k : Nat) (env : Env), I k env → (∀ x ∈ items, ∀ j env, j < k + items.length → I j env → ∃ env', f x env = .ok .nx env' ∧ I (j + 1) env') → ∃ env', foLoop f items env = .ok .nx env' ∧ I (k + items.length) env'
  | [], k, env, h, _ => ⟨env, by simp [foLoop], h⟩
  | x :: xs, k, env, h, H => by
    obtain ⟨e1, h1, h2⟩ := H x List.mem_cons_self k env (by simp) h
    obtain ⟨e2, h3, h4⟩ := foLoop_inv xs (k + 1) e1 h2 fun y hy j env hj hI => H y (List.mem_cons_of_mem _ hy) j env (by simp at hj ⊢; omega) hI
    refine ⟨e2, ?_, by rw [List.length_cons, Nat.add_comm xs.length 1, ← Nat.add_assoc]; exact h4⟩
    simp only [foLoop, h1, Res.bind_ok]
    exact h3
theorem range_of (L : Lib) (i : Int) (k : Nat) (hi : i = k) (hk : k ≤ 1000) (env : Env) : ((args L [.con (.int i)] env).bind (walkB .range)) = .ok (rangeD 0 k) env := by
  subst hi
  have h : args L [.con (.int k)] env = .ok [.val (.int k)] env := rfl
  rw [h, Res.bind_ok]
  have := iterD_range (i := (k : Int)) (by omega) (by omega)
  rw [Int.toNat_natCast] at this
  exact walkB_of (ds := [.int k]) rfl this
/-! ### ends well -/
@[irreducible] def Ok {α : Type} (r : Res α) (Q : α → Env → Prop) : Prop := match r with
  | .ok a e => Q a e
  | _ => False
def OkC (c : CRes) (Q : D → Bool → List Sl → Prop) : Prop := match c with
  | .ok d fr ps => Q d fr ps
  | _ => False
@[simp] theorem Ok_ok {α : Type} {a : α} {e : Env} {Q : α → Env → Prop} : Ok (.ok a e) Q = Q a e := by unfold Ok; rfl
theorem Ok_exF {α : Type} {x : Exc} {e : Env} {Q : α → Env → Prop} : Ok (.ex x e) Q = False := by unfold Ok; rfl
theorem Ok_badF {α : Type} {Q : α → Env → Prop} : Ok .bad Q = False := by unfold Ok; rfl
@[simp] theorem Ok_bind {α β : Type} {r : Res α} {f : α → Env → Res β} {Q : β → Env → Prop} : Ok (r.bind f) Q = Ok r fun a e => Ok (f a e) Q := by
  cases r with
  | ok a e => rw [Ok_ok]; rfl
  | ex x e => rw [Ok_exF]; exact Ok_exF
  | bad => rw [Ok_badF]; exact Ok_badF
theorem Ok.mono {α : Type} {r : Res α} {Q Q' : α → Env → Prop} (h : Ok r Q) (k : ∀ a e, Q a e → Q' a e) : Ok r Q' := by
  cases r with
  | ok a e => rw [Ok_ok] at h ⊢; exact k a e h
  | ex x e => rw [Ok_exF] at h; exact h.elim
  | bad => rw [Ok_badF] at h; exact h.elim
theorem Ok.of {α : Type} {r : Res α} {a : α} {e : Env} {Q : α → Env → Prop} (h : r = .ok a e) (q : Q a e) : Ok r Q := by rw [h, Ok_ok]; exact q
theorem Ok.ex {α : Type} {r : Res α} {Q : α → Env → Prop} (h : Ok r Q) : ∃ a e, r = .ok a e ∧ Q a e := by
  cases r with
  | ok a e => rw [Ok_ok] at h; exact ⟨a, e, rfl, h⟩
  | ex x e => rw [Ok_exF] at h; exact h.elim
  | bad => rw [Ok_badF] at h; exact h.elim
theorem Ok_cons {L : Lib} {s : S} {ss : List S} {env : Env} {Q : Fl → Env → Prop} (h : Ok (exec L s env) fun f e => f = .nx ∧ Ok (execs L ss e) Q) : Ok (execs L (s :: ss) env) Q := by
  simp only [execs, Ok_bind]
  refine h.mono fun f e ⟨hf, k⟩ => ?_
  subst hf
  exact k
theorem Ok_nil {L : Lib} {env : Env} {Q : Fl → Env → Prop} (h : Q .nx env) : Ok (execs L [] env) Q := by
  simp only [execs, Ok_ok]; exact h
/-- a loop over items by an invariant -/
theorem Ok_loop {f : D → Env → Res Fl} (I : Nat → Env → Prop) {items : List D} {env : Env} (h0 : I 0 env) (hs : ∀ j (hj : j < items.length) env, I j env → Ok (f items[j] env) fun fl e => (fl = .nx ∨ fl = .ct) ∧ I (j + 1) e) :
    Ok (foLoop f items env) fun fl e => fl = .nx ∧ I items.length e := by
  have key : ∀ (xs : List D) (k : Nat) (env : Env), I k env → (∀ j (hj : j < xs.length) env, I (k + j) env → Ok (f xs[j] env) fun fl e => (fl = .nx ∨ fl = .ct) ∧ I (k + j + 1) e) → Ok (foLoop f xs env) fun fl e => fl = .nx ∧ I (k + xs.length) e := by
    intro xs
    induction xs with
    | nil => intro k env h _; simp only [foLoop, Ok_ok]; exact ⟨trivial, h⟩
    | cons x xs ih =>
      intro k env h H
      simp only [foLoop, Ok_bind]
      refine (H 0 (by simp) env h).mono fun fl e ⟨hf, hI⟩ => ?_
      have := ih (k + 1) e hI fun j hj env hj2 => by
        have := H (j + 1) (by simp; omega) env (by rw [show k + (j + 1) = k + 1 + j by omega]; exact hj2)
        simpa [show k + (j + 1) + 1 = k + 1 + j + 1 by omega] using this
      rcases hf with rfl | rfl
      · simpa [show k + (xs.length + 1) = k + 1 + xs.length by omega] using this
      · simpa [show k + (xs.length + 1) = k + 1 + xs.length by omega] using this
  have := key items 0 env h0 fun j hj env h => by
    have := hs j hj env (by simpa using h)
    simpa using this
  simpa using this
theorem Ok_for {L : Lib} {tg : Tg} {k : ItK} {es : List E} {b : List S} {env env1 : Env} {items : List D} {Q : Fl → Env → Prop} (hi : (args L es env).bind (walkB k) = .ok items env1)
    (h : Ok (foLoop (fun d e => match tg.store d false e with | none => .bad | some e1 => execs L b e1) items env1) Q) : Ok (exec L (.fo tg k es b) env) Q := by
  simp only [exec, hi, Res.bind_ok]
  exact h
end Pi

set_option Elab.async false
set_option linter.all false
set_option maxRecDepth 100000
set_option maxHeartbeats 4000000
/-! PiZ: plain facts that many laws share: comprehensions, numbers in sequence. -/
namespace Pi
theorem lcLoop_fm {f : D → Env → Res (Option D)} {env : Env} {h : D → Option D} : ∀ {xs acc : List D}, (∀ x ∈ xs, f x env = .ok (h x) env) → acc.length + xs.length ≤ 100000 → lcLoop f xs env acc = .ok (acc ++ xs.filterMap h) env
  | [], acc, _, _ => by simp [lcLoop]
  | x :: xs, acc, H, hl => by
    have h1 := H x List.mem_cons_self
    simp only [List.length_cons] at hl
    cases hx : h x with
    | none =>
      have ih := lcLoop_fm (xs := xs) (acc := acc) (fun y hy => H y (List.mem_cons_of_mem _ hy)) (by omega)
      simp [lcLoop, h1, hx, ih]
    | some d =>
      have ih := lcLoop_fm (xs := xs) (acc := acc ++ [d]) (fun y hy => H y (List.mem_cons_of_mem _ hy)) (by simp; omega)
      have : acc.length < 100000 := by omega
      simp [lcLoop, h1, hx, this, ih]
section
variable {L : Lib} {elt : E} {own : List Nat} {tg : Tg} {k : ItK} {es conds : List E} {env env1 env2 : Env} {items ds : List D}
theorem lc_of (hi : (args L es env).bind (walkB k) = .ok items env1)
    (hl : lcLoop (fun d e => match tg.store d false e with
            | none => .bad
            | some e1 => (holds L conds e1).bind fun b e2 => if b then (eval L elt e2).bind fun r e3 => .ok (some r.1) (wipeE e3 own) else .ok none (wipeE e2 own)) items (wipeE env1 own) [] = .ok ds env2) :
    eval L (.lc elt own tg k es conds) env = .ok (.lst ds, true) (backE env1 env2 own) := by
  rw [eval, hi, Res.bind_ok]
  exact congrArg (fun r => match r with | .ok ds env2 => Res.ok (D.lst ds, true) (backE env1 env2 own) | _ => Res.bad) hl
/-- a comprehension without conditions -/
theorem lc_map (g : D → D) (hi : (args L es env).bind (walkB k) = .ok items env1) (hz : items.length ≤ 100000)
    (h : ∀ x ∈ items, ∃ e1 e2 fr, tg.store x false (wipeE env1 own) = some e1 ∧ eval L elt e1 = .ok (g x, fr) e2 ∧ wipeE e2 own = wipeE env1 own) :
    eval L (.lc elt own tg k es []) env = .ok (.lst (items.map g), true) (backE env1 (wipeE env1 own) own) := by
  refine lc_of hi ?_
  rw [lcLoop_all (g := g) (fun x hx => ?_) (by simpa using hz)]
  · simp
  · obtain ⟨e1, e2, fr, h1, h2, h3⟩ := h x hx
    simp [h1, holds, h2, h3]
end
theorem walk_seq {L : Lib} {e : E} {env env1 : Env} {xs : List D} {fr : Bool} (hv : ∀ i, e ≠ .var i) (h : eval L e env = .ok (.tup xs, fr) env1 ∨ eval L e env = .ok (.lst xs, fr) env1) : (args L [e] env).bind (walkB .seq) = .ok xs env1 := by
  have ha : ∀ d, eval L e env = .ok (d, fr) env1 → args L [e] env = .ok [.val d] env1 := fun d hd => by
    have : argOf e (eval L e env) env = .ok (.val d) env1 := by
      rw [hd]
      cases e <;> first | rfl | exact absurd rfl (hv _)
    simp only [args, this, Res.bind_ok]
  rcases h with h | h
  · rw [ha _ h]; rfl
  · rw [ha _ h]; rfl
/-! ### slices -/
theorem cutL_to {α : Type} {xs : List α} {k : Nat} (h : k ≤ xs.length) : cutL xs none (some (k : Int)) = xs.take k := by
  unfold cutL
  rw [HT.sIx_none, HT.sIx_nat, Nat.min_eq_left h]
  simp
theorem cutL_from {α : Type} {xs : List α} {k : Nat} (h : k ≤ xs.length) : cutL xs (some (k : Int)) none = xs.drop k := by
  unfold cutL
  rw [HT.sIx_none, HT.sIx_nat, Nat.min_eq_left h]
  exact List.take_of_length_le (by simp)
/-! ### numbers as pairs -/
abbrev Nu := Int × Int
abbrev nD (p : Nu) : D := num p.1 p.2
abbrev NmP (p : Nu) : Prop := Nm p.1 p.2
def lt2 (p q : Nu) : Bool := decide (p.1 * q.2 < q.1 * p.2)
theorem nD_eqb (p q : Nu) : (nD p).eqb (nD q) = decide (p = q) := by
  obtain ⟨a, b⟩ := p
  obtain ⟨c, d⟩ := q
  simp only [nD, num, D.eqb, D.eqbs, Bool.and_true, Prod.mk.injEq, Bool.decide_and]
  congr 1
theorem nD_any (p : Nu) (l : List Nu) : ((l.map nD).any fun y => y.eqb (nD p)) = decide (p ∈ l) := by
  induction l with
  | nil => simp
  | cons q l ih =>
    rw [List.map_cons, List.any_cons, ih, nD_eqb]
    by_cases h : p = q
    · subst h; simp
    · have h' : ¬ q = p := fun e => h e.symm
      simp [h, h']
theorem nD_depth (p : Nu) : (nD p).depth = 1 := by simp [D.depth, D.depths]
theorem nD_depths : ∀ l : List Nu, D.depths (l.map nD) ≤ 1
  | [] => by simp [D.depths]
  | p :: l => by
    have := nD_depths l
    simp only [List.map_cons, D.depths]
    rw [nD_depth]; omega
def ins (p : Nu) (l : List Nu) : List Nu := if p ∈ l then l else l.take (l.filter (lt2 · p)).length ++ [p] ++ l.drop (l.filter (lt2 · p)).length
def srt (l : List Nu) : List Nu := l.foldl (fun f p => ins p f) []
theorem ins_len (p : Nu) (l : List Nu) : (ins p l).length ≤ l.length + 1 := by
  unfold ins
  split
  · omega
  · simp
    omega
theorem ins_mem {p q : Nu} {l : List Nu} : q ∈ ins p l ↔ q = p ∨ q ∈ l := by
  unfold ins
  split
  · rename_i h
    constructor
    · exact .inr
    · rintro (rfl | h2)
      · exact h
      · exact h2
  · rw [List.mem_append, List.mem_append, List.mem_singleton]
    have e := List.take_append_drop (l.filter (lt2 · p)).length l
    constructor
    · rintro ((h | h) | h)
      · exact .inr (List.mem_of_mem_take h)
      · exact .inl h
      · exact .inr (List.mem_of_mem_drop h)
    · rintro (h | h)
      · exact .inl (.inr h)
      · rw [← e] at h
        rcases List.mem_append.mp h with h | h
        · exact .inl (.inl h)
        · exact .inr h
theorem fold_len : ∀ (l acc : List Nu), (l.foldl (fun f p => ins p f) acc).length ≤ acc.length + l.length
  | [], acc => by simp
  | p :: l, acc => by
    have h1 := fold_len l (ins p acc)
    have h2 := ins_len p acc
    simp only [List.foldl_cons, List.length_cons]
    omega
theorem fold_mem : ∀ (l acc : List Nu) (q : Nu), q ∈ l.foldl (fun f p => ins p f) acc ↔ q ∈ acc ∨ q ∈ l
  | [], acc, q => by simp
  | p :: l, acc, q => by
    simp only [List.foldl_cons, fold_mem l (ins p acc) q, ins_mem, List.mem_cons]
    constructor
    · rintro ((h | h) | h)
      · exact .inr (.inl h)
      · exact .inl h
      · exact .inr (.inr h)
    · rintro (h | h | h)
      · exact .inl (.inr h)
      · exact .inl (.inl h)
      · exact .inr h
theorem srt_len (l : List Nu) : (srt l).length ≤ l.length := by
  have := fold_len l []
  simp only [List.length_nil, Nat.zero_add] at this
  exact this
theorem srt_mem {l : List Nu} {q : Nu} : q ∈ srt l ↔ q ∈ l := by
  unfold srt
  rw [fold_mem l [] q]
  simp
theorem srt_snoc (l : List Nu) (p : Nu) : srt (l ++ [p]) = ins p (srt l) := by
  unfold srt
  rw [List.foldl_append]; rfl
def pickD (c : Nu → Bool) : D → Option D
  | .tup [.int a, .int b] => if c (a, b) then some (.tup [.int a, .int b]) else none
  | _ => none
theorem pickD_nD (c : Nu → Bool) (p : Nu) : pickD c (nD p) = if c p then some (nD p) else none := rfl
theorem filt_nD (c : Nu → Bool) : ∀ l : List Nu, (l.filter c).map nD = (l.map nD).filterMap (pickD c)
  | [] => rfl
  | p :: l => by
    rw [List.map_cons, List.filterMap_cons, List.filter_cons, pickD_nD]
    by_cases h : c p = true
    · simp only [h, if_true, List.map_cons, filt_nD c l]
    · simp only [h, Bool.false_eq_true, if_false, filt_nD c l]
theorem take_succ_map (l : List Nu) {j : Nat} (hj : j < l.length) : l.take (j + 1) = l.take j ++ [l[j]] := by
  rw [List.take_succ, List.getElem?_eq_getElem hj]; rfl
end Pi

set_option Elab.async false
set_option linter.all false
set_option maxRecDepth 100000
set_option maxHeartbeats 4000000
/-! PiW: plain facts about formulas; comprehensions that change slots. -/
namespace Pi
open PySem
/-- a comprehension whose parts draw -/
theorem Ok_lc {f : D → Env → Res (Option D)} (I : Nat → List D → Env → Prop) {items : List D} {env : Env} (hz : items.length ≤ 100000) (h0 : I 0 [] env)
    (hs : ∀ j (hj : j < items.length) acc env, acc.length = j → I j acc env → Ok (f items[j] env) fun o e => ∃ d, o = some d ∧ I (j + 1) (acc ++ [d]) e) : Ok (lcLoop f items env []) fun ds e => ds.length = items.length ∧ I items.length ds e := by
  have key : ∀ (xs : List D) (acc : List D) (env : Env), acc.length + xs.length ≤ 100000 → I acc.length acc env → (∀ j (hj : j < xs.length) acc' env, acc'.length = acc.length + j → I (acc.length + j) acc' env → Ok (f xs[j] env) fun o e => ∃ d, o = some d ∧ I (acc.length + j + 1) (acc' ++ [d]) e) →
      Ok (lcLoop f xs env acc) fun ds e => ds.length = acc.length + xs.length ∧ I (acc.length + xs.length) ds e := by
    intro xs
    induction xs with
    | nil => intro acc env hz h _; simp only [lcLoop, Ok_ok]; exact ⟨rfl, h⟩
    | cons x xs ih =>
      intro acc env hz h H
      simp only [List.length_cons] at hz
      simp only [lcLoop, Ok_bind]
      refine (H 0 (by simp) acc env rfl h).mono fun o e ⟨d, ho, hI⟩ => ?_
      subst ho
      simp only [if_pos (show acc.length < 100000 by omega)]
      have hl : (acc ++ [d]).length = acc.length + 1 := by simp
      have := ih (acc ++ [d]) e (by omega) (by rw [hl]; exact hI) fun j hj acc' env hl' hI' => by
        rw [hl] at hl' hI' ⊢
        have := H (j + 1) (by simp; omega) acc' env (by omega) (by rw [show acc.length + (j + 1) = acc.length + 1 + j by omega]; exact hI')
        simpa [show acc.length + (j + 1) + 1 = acc.length + 1 + j + 1 by omega] using this
      rw [hl] at this
      simpa [show acc.length + (xs.length + 1) = acc.length + 1 + xs.length by omega] using this
  have := key items [] env (by simpa using hz) h0 fun j hj acc env hl h => by
    simp only [List.length_nil, Nat.zero_add] at hl h ⊢
    exact hs j hj acc env hl h
  simpa using this
section
variable {L : Lib} {e : E} {env env' : Env} {d : D} {fr : Bool} {f : Nat}
theorem call_one (hv : ∀ i, e ≠ .var i) (h : eval L e env = .ok (d, fr) env') : eval L (.call f [e] [0]) env = doCall L f [.val d] [0] env' := by
  have ha : argOf e (eval L e env) env = .ok (.val d) env' := by
    rw [h]
    cases e <;> first | rfl | exact absurd rfl (hv _)
  simp only [eval, args, ha, Res.bind_ok]
end
section
variable {L : Lib} {c e : E} {p rest : List S} {env env' : Env} {d : D} {fr fr' : Bool}
theorem ite_ret (hv : ∀ i, c ≠ .var i) (hc : eval L c env = .ok (.bl true, fr) env) (hv2 : ∀ i, e ≠ .var i) (he : eval L e env = .ok (d, fr') env') : execs L (.ite c [.ret e] [] :: rest) env = .ok (.rt d fr') env' := by
  refine ss_rt ?_
  rw [ite_of hv hc]
  simp only [truth_bl, if_true]
  exact ss_rt (ret_of hv2 he)
theorem ite_go (hv : ∀ i, c ≠ .var i) (hc : eval L c env = .ok (.bl true, fr) env) : execs L (.ite c p [] :: rest) env = (execs L p env).bind fun f env1 => match f with | .nx => execs L rest env1 | f => .ok f env1 := by
  rw [execs, ite_of hv hc]
  rfl
theorem ite_no (hv : ∀ i, c ≠ .var i) (hc : eval L c env = .ok (.bl false, fr) env') : execs L (.ite c p [] :: rest) env = execs L rest env' := by
  rw [execs, ite_of hv hc]
  rfl
theorem bin_of {o : Bop} {a b : E} {env1 env2 : Env} {x y : D} {r : D × Bool} {f1 f2 : Bool} (ha : ∀ i, a ≠ .var i) (hb : ∀ i, b ≠ .var i) (h1 : eval L a env = .ok (x, f1) env1) (h2 : eval L b env1 = .ok (y, f2) env2) (h : opD o x y = some r) : eval L (.bin o a b) env = .ok r env2 := by
  have e1 : argOf a (eval L a env) env = .ok (.val x) env1 := by
    rw [h1]
    cases a <;> first | rfl | exact absurd rfl (ha _)
  have e2 : argOf b (eval L b env1) env1 = .ok (.val y) env2 := by
    rw [h2]
    cases b <;> first | rfl | exact absurd rfl (hb _)
  simp only [eval, e1, e2, Res.bind_ok, Arg.peek, Option.bind_some, h, pureR_some]
theorem or_of {a b : E} {x y : Bool} {fr1 fr2 : Bool} (ha : eval L a env = .ok (.bl x, false) env) (hb : eval L b env = .ok (.bl y, false) env) : eval L (.or a b) env = .ok (.bl (x || y), false) env := by
  cases x <;> simp [eval, ha, hb]
end
theorem eqb_str {w : D} {s : PySem.Str} : w.eqb (.str s) = true ↔ w = .str s := by
  cases w <;> simp [D.eqb]
theorem iter_int {r : Int} (h0 : 0 ≤ r) (h : r ≤ 1000000) : iterD .range [.int r] = some (rangeD 0 r.toNat) := iterD_range h0 h

/-- a turn of a loop -/
def turnOf (L : Lib) (tg : Tg) (b : List S) : D → Env → Res Fl := fun d e => match tg.store d false e with
  | none => .bad
  | some e1 => execs L b e1
theorem Ok_turn {L : Lib} {i : Nat} {x : D} {b : List S} {env : Env} {Q : Fl → Env → Prop} (hi : i < env.length) (h : Ok (execs L b (env.set i (.sh x))) Q) : Ok (turnOf L (.name i) b x env) Q := by
  have : (Tg.name i).store x false env = some (env.set i (.sh x)) := by simp only [Tg.store, if_pos hi]; rfl
  unfold turnOf
  rw [this]
  exact h
theorem Ok_turnT {L : Lib} {tg : Tg} {x : D} {b : List S} {env e1 : Env} {Q : Fl → Env → Prop} (hs : tg.store x false env = some e1) (h : Ok (execs L b e1) Q) : Ok (turnOf L tg b x env) Q := by
  unfold turnOf
  rw [hs]
  exact h
theorem Ok_fo {L : Lib} {tg : Tg} {k : ItK} {es : List E} {b : List S} {env env1 : Env} {items : List D} {Q : Fl → Env → Prop} (hi : (args L es env).bind (walkB k) = .ok items env1)
    (h : Ok (foLoop (turnOf L tg b) items env1) Q) : Ok (exec L (.fo tg k es b) env) Q := Ok_for hi h
/-! ### formulas -/
@[simp] theorem w_yes_less : (("yes" : Str) = ("less" : Str)) = False := eq_false (by decide)
@[simp] theorem w_yes_same : (("yes" : Str) = ("same" : Str)) = False := eq_false (by decide)
@[simp] theorem w_yes_both : (("yes" : Str) = ("both" : Str)) = False := eq_false (by decide)
@[simp] theorem w_yes_either : (("yes" : Str) = ("either" : Str)) = False := eq_false (by decide)
@[simp] theorem w_yes_not : (("yes" : Str) = ("not" : Str)) = False := eq_false (by decide)
@[simp] theorem w_yes_some : (("yes" : Str) = ("some" : Str)) = False := eq_false (by decide)
@[simp] theorem w_yes_all : (("yes" : Str) = ("all" : Str)) = False := eq_false (by decide)
@[simp] theorem w_less_yes : (("less" : Str) = ("yes" : Str)) = False := eq_false (by decide)
@[simp] theorem w_less_same : (("less" : Str) = ("same" : Str)) = False := eq_false (by decide)
@[simp] theorem w_less_both : (("less" : Str) = ("both" : Str)) = False := eq_false (by decide)
@[simp] theorem w_less_either : (("less" : Str) = ("either" : Str)) = False := eq_false (by decide)
@[simp] theorem w_less_not : (("less" : Str) = ("not" : Str)) = False := eq_false (by decide)
@[simp] theorem w_less_some : (("less" : Str) = ("some" : Str)) = False := eq_false (by decide)
@[simp] theorem w_less_all : (("less" : Str) = ("all" : Str)) = False := eq_false (by decide)
@[simp] theorem w_same_yes : (("same" : Str) = ("yes" : Str)) = False := eq_false (by decide)
@[simp] theorem w_same_less : (("same" : Str) = ("less" : Str)) = False := eq_false (by decide)
@[simp] theorem w_same_both : (("same" : Str) = ("both" : Str)) = False := eq_false (by decide)
@[simp] theorem w_same_either : (("same" : Str) = ("either" : Str)) = False := eq_false (by decide)
@[simp] theorem w_same_not : (("same" : Str) = ("not" : Str)) = False := eq_false (by decide)
@[simp] theorem w_same_some : (("same" : Str) = ("some" : Str)) = False := eq_false (by decide)
@[simp] theorem w_same_all : (("same" : Str) = ("all" : Str)) = False := eq_false (by decide)
@[simp] theorem w_both_yes : (("both" : Str) = ("yes" : Str)) = False := eq_false (by decide)
@[simp] theorem w_both_less : (("both" : Str) = ("less" : Str)) = False := eq_false (by decide)
@[simp] theorem w_both_same : (("both" : Str) = ("same" : Str)) = False := eq_false (by decide)
@[simp] theorem w_both_either : (("both" : Str) = ("either" : Str)) = False := eq_false (by decide)
@[simp] theorem w_both_not : (("both" : Str) = ("not" : Str)) = False := eq_false (by decide)
@[simp] theorem w_both_some : (("both" : Str) = ("some" : Str)) = False := eq_false (by decide)
@[simp] theorem w_both_all : (("both" : Str) = ("all" : Str)) = False := eq_false (by decide)
@[simp] theorem w_either_yes : (("either" : Str) = ("yes" : Str)) = False := eq_false (by decide)
@[simp] theorem w_either_less : (("either" : Str) = ("less" : Str)) = False := eq_false (by decide)
@[simp] theorem w_either_same : (("either" : Str) = ("same" : Str)) = False := eq_false (by decide)
@[simp] theorem w_either_both : (("either" : Str) = ("both" : Str)) = False := eq_false (by decide)
@[simp] theorem w_either_not : (("either" : Str) = ("not" : Str)) = False := eq_false (by decide)
@[simp] theorem w_either_some : (("either" : Str) = ("some" : Str)) = False := eq_false (by decide)
@[simp] theorem w_either_all : (("either" : Str) = ("all" : Str)) = False := eq_false (by decide)
@[simp] theorem w_not_yes : (("not" : Str) = ("yes" : Str)) = False := eq_false (by decide)
@[simp] theorem w_not_less : (("not" : Str) = ("less" : Str)) = False := eq_false (by decide)
@[simp] theorem w_not_same : (("not" : Str) = ("same" : Str)) = False := eq_false (by decide)
@[simp] theorem w_not_both : (("not" : Str) = ("both" : Str)) = False := eq_false (by decide)
@[simp] theorem w_not_either : (("not" : Str) = ("either" : Str)) = False := eq_false (by decide)
@[simp] theorem w_not_some : (("not" : Str) = ("some" : Str)) = False := eq_false (by decide)
@[simp] theorem w_not_all : (("not" : Str) = ("all" : Str)) = False := eq_false (by decide)
@[simp] theorem w_some_yes : (("some" : Str) = ("yes" : Str)) = False := eq_false (by decide)
@[simp] theorem w_some_less : (("some" : Str) = ("less" : Str)) = False := eq_false (by decide)
@[simp] theorem w_some_same : (("some" : Str) = ("same" : Str)) = False := eq_false (by decide)
@[simp] theorem w_some_both : (("some" : Str) = ("both" : Str)) = False := eq_false (by decide)
@[simp] theorem w_some_either : (("some" : Str) = ("either" : Str)) = False := eq_false (by decide)
@[simp] theorem w_some_not : (("some" : Str) = ("not" : Str)) = False := eq_false (by decide)
@[simp] theorem w_some_all : (("some" : Str) = ("all" : Str)) = False := eq_false (by decide)
@[simp] theorem w_all_yes : (("all" : Str) = ("yes" : Str)) = False := eq_false (by decide)
@[simp] theorem w_all_less : (("all" : Str) = ("less" : Str)) = False := eq_false (by decide)
@[simp] theorem w_all_same : (("all" : Str) = ("same" : Str)) = False := eq_false (by decide)
@[simp] theorem w_all_both : (("all" : Str) = ("both" : Str)) = False := eq_false (by decide)
@[simp] theorem w_all_either : (("all" : Str) = ("either" : Str)) = False := eq_false (by decide)
@[simp] theorem w_all_not : (("all" : Str) = ("not" : Str)) = False := eq_false (by decide)
@[simp] theorem w_all_some : (("all" : Str) = ("some" : Str)) = False := eq_false (by decide)
def isTm (n : Int) : D → Bool
  | .int i => decide (0 ≤ i) && decide (i < n)
  | d => isNum d
/-- a drawn term -/
def Trm (n : Int) (d : D) : Prop := (∃ i, d = .int i ∧ 0 ≤ i ∧ i < n) ∨ ∃ q, d = nD q ∧ NmP q
theorem Trm.is {n : Int} {d : D} (h : Trm n d) : isTm n d = true := by
  rcases h with ⟨i, rfl, h1, h2⟩ | ⟨q, rfl, h⟩
  · simp [isTm, h1, h2]
  · exact isNum_of h
theorem Trm.up {n : Int} {d : D} (h : Trm n d) : Trm (n + 1) d := by
  rcases h with ⟨i, rfl, h1, h2⟩ | ⟨q, rfl, h⟩
  · exact .inl ⟨i, rfl, h1, by omega⟩
  · exact .inr ⟨q, rfl, h⟩
theorem Trm.depth {n : Int} {d : D} (h : Trm n d) : d.depth ≤ 1 := by
  rcases h with ⟨i, rfl, h1, h2⟩ | ⟨q, rfl, h⟩
  · simp [D.depth]
  · rw [nD_depth]; omega
inductive Fm : Int → D → Prop
  | yes (n : Int) : Fm n (.tup [.str "yes"])
  | cmp (n : Int) (w : Str) (a b : D) : (w = "less" ∨ w = "same") → Trm n a → Trm n b → Fm n (.tup [.str w, a, b])
  | not (n : Int) (x : D) : Fm n x → Fm n (.tup [.str "not", x])
  | qu (n : Int) (w : Str) (x : D) : (w = "some" ∨ w = "all") → Fm (n + 1) x → Fm n (.tup [.str w, x])
  | lst (n : Int) (w : Str) (ys : List D) : (w = "both" ∨ w = "either") → ys ≠ [] → ys.length ≤ 100 → (∀ y ∈ ys, Fm n y) → Fm n (.tup [.str w, .tup ys])
theorem Fm.up {n : Int} {d : D} (h : Fm n d) : Fm (n + 1) d := by
  induction h with
  | yes n => exact .yes _
  | cmp n w a b hw ha hb => exact .cmp _ _ _ _ hw ha.up hb.up
  | not n x h ih => exact .not _ _ ih
  | qu n w x hw h ih => exact .qu _ _ _ hw ih
  | lst n w ys hw h0 hz h ih => exact .lst _ _ _ hw h0 hz ih
def isF : Nat → Int → D → Bool
  | 0, _, _ => false
  | k + 1, n, d => match d with
    | .tup [.str w] => decide (w = "yes")
    | .tup [.str w, x] =>
      if w = "both" ∨ w = "either" then (match x with | .tup (y :: ys) => (y :: ys).all (isF k n) | _ => false)
      else if w = "not" then isF k n x
      else if w = "some" ∨ w = "all" then isF k (n + 1) x
      else false
    | .tup [.str w, a, b] => decide (w = "less" ∨ w = "same") && isTm n a && isTm n b
    | _ => false
theorem depth_tup (xs : List D) : (D.tup xs).depth = D.depths xs + 1 := by simp [D.depth]
theorem depths_cons (x : D) (xs : List D) : D.depths (x :: xs) = max x.depth (D.depths xs) := by simp [D.depths]
theorem isF_1 {k : Nat} {n : Int} {w : Str} : isF (k + 1) n (.tup [.str w]) = decide (w = "yes") := rfl
theorem isF_2 {k : Nat} {n : Int} {w : Str} {x : D} : isF (k + 1) n (.tup [.str w, x]) = if w = "both" ∨ w = "either" then (match x with | .tup (y :: ys) => (y :: ys).all (isF k n) | _ => false)
      else if w = "not" then isF k n x
      else if w = "some" ∨ w = "all" then isF k (n + 1) x
      else false := rfl
theorem isF_3 {k : Nat} {n : Int} {w : Str} {a b : D} : isF (k + 1) n (.tup [.str w, a, b]) = (decide (w = "less" ∨ w = "same") && isTm n a && isTm n b) := rfl
theorem Fm.isF {n : Int} {d : D} (h : Fm n d) : ∀ k, d.depth ≤ k → isF (k + 1) n d = true := by
  induction h with
  | yes n => intro k _; rw [isF_1]; simp
  | cmp n w a b hw ha hb => intro k _; rw [isF_3]; simp [hw, ha.is, hb.is]
  | not n x h ih =>
    intro k hk
    rw [depth_tup, depths_cons, depths_cons] at hk
    obtain ⟨j, rfl⟩ : ∃ j, k = j + 1 := ⟨k - 1, by omega⟩
    have := ih j (by omega)
    rw [isF_2]
    simpa using this
  | qu n w x hw h ih =>
    intro k hk
    rw [depth_tup, depths_cons, depths_cons] at hk
    obtain ⟨j, rfl⟩ : ∃ j, k = j + 1 := ⟨k - 1, by omega⟩
    have := ih j (by omega)
    rcases hw with rfl | rfl <;> rw [isF_2] <;> simpa using this
  | lst n w ys hw h0 hz h ih =>
    intro k hk
    rw [depth_tup, depths_cons, depths_cons, depth_tup] at hk
    obtain ⟨j, rfl⟩ : ∃ j, k = j + 1 := ⟨k - 1, by omega⟩
    cases ys with
    | nil => exact absurd rfl h0
    | cons y ys =>
      have a1 : ∀ x ∈ y :: ys, Pi.isF (j + 1) n x = true := fun x hx => ih x hx j (by have := depths_mem hx; omega)
      have a2 : (y :: ys).all (Pi.isF (j + 1) n) = true := List.all_eq_true.mpr a1
      rw [isF_2, if_pos hw]; exact a2
theorem Fm.tup {n : Int} {d : D} (h : Fm n d) : ∃ w r, d = .tup (.str w :: r) := by
  cases h <;> exact ⟨_, _, rfl⟩
theorem atI_last {α : Type} {xs : List α} {x : α} : L2.atI (xs ++ [x]) (-1) = some x := by
  unfold L2.atI L2.ixN
  have h1 : (1 : Int) ≤ (xs.length : Int) + 1 := by omega
  have h2 : (-1 + ((xs.length : Int) + 1)).toNat = xs.length := by omega
  simp [h1, h2]
/-- how many draws a formula of so many tuples may take -/
def dB : Nat → Int
  | 0 => 0
  | k + 1 => 5 + 3 * dB k
theorem dB_nn : ∀ k, 0 ≤ dB k
  | 0 => by simp [dB]
  | k + 1 => by have := dB_nn k; simp only [dB]; omega
theorem dB_le : ∀ {j k : Nat}, j ≤ k → dB j ≤ dB k
  | j, 0, h => by have : j = 0 := by omega
                  subst this; omega
  | j, k + 1, h => by
    by_cases e : j = k + 1
    · subst e; omega
    · have := dB_le (show j ≤ k by omega)
      have := dB_nn k
      simp only [dB]; omega
mutual
/-- the ints in it are small -/
def D.sm : D → Prop
  | .int i => i.natAbs < 2 ^ 200
  | .tup xs => D.sms xs
  | .lst xs => D.sms xs
  | _ => True
def D.sms : List D → Prop
  | [] => True
  | x :: xs => D.sm x ∧ D.sms xs
end
theorem sms_mem : ∀ {xs : List D} {x : D}, D.sms xs → x ∈ xs → D.sm x
  | y :: xs, x, h, hx => by
    simp only [D.sms] at h
    rcases List.mem_cons.mp hx with rfl | hx
    · exact h.1
    · exact sms_mem h.2 hx
theorem sms_of : ∀ {xs : List D}, (∀ x ∈ xs, D.sm x) → D.sms xs
  | [], _ => by simp [D.sms]
  | y :: xs, h => by
    simp only [D.sms]
    exact ⟨h y List.mem_cons_self, sms_of fun x hx => h x (List.mem_cons_of_mem _ hx)⟩
theorem fines_of : ∀ {xs : List D}, (∀ x ∈ xs, D.fine x) → D.fines xs
  | [], _ => by simp [D.fines]
  | y :: xs, h => by
    simp only [D.fines]
    exact ⟨h y List.mem_cons_self, fines_of fun x hx => h x (List.mem_cons_of_mem _ hx)⟩
theorem depths_of {k : Nat} : ∀ {xs : List D}, (∀ x ∈ xs, x.depth ≤ k) → D.depths xs ≤ k
  | [], _ => by simp [D.depths]
  | y :: xs, h => by
    simp only [D.depths]
    have h1 := h y List.mem_cons_self
    have h2 := depths_of (k := k) fun x hx => h x (List.mem_cons_of_mem y hx)
    omega
theorem Trm.sm {n : Int} {d : D} (h : Trm n d) (hn : n ≤ 1000) : D.sm d ∧ D.fine d := by
  rcases h with ⟨i, rfl, h1, h2⟩ | ⟨q, rfl, h⟩
  · simp only [D.sm, D.fine, and_true]; omega
  · have h1 := h.ta
    have h2 := h.tb
    have e : (2 : Nat) ^ 110 ≤ 2 ^ 200 := Nat.pow_le_pow_right (by decide) (by decide)
    simp only [nD, num, D.sm, D.sms, D.fine, D.fines, and_true]
    exact ⟨⟨Nat.lt_of_lt_of_le h1 e, Nat.lt_of_lt_of_le h2 e⟩, by simp⟩
theorem Fm.sm {n : Int} {d : D} (h : Fm n d) : n + d.depth ≤ 900 → D.sm d ∧ D.fine d := by
  induction h with
  | yes n => intro _; simp [D.sm, D.sms, D.fine, D.fines]
  | cmp n w a b hw ha hb =>
    intro h
    have h1 := ha.sm (by omega)
    have h2 := hb.sm (by omega)
    simp [D.sm, D.sms, D.fine, D.fines, h1, h2]
  | not n x h ih =>
    intro hk
    rw [depth_tup, depths_cons, depths_cons] at hk
    have := ih (by omega)
    simp [D.sm, D.sms, D.fine, D.fines, this]
  | qu n w x hw h ih =>
    intro hk
    rw [depth_tup, depths_cons, depths_cons] at hk
    have := ih (by omega)
    simp [D.sm, D.sms, D.fine, D.fines, this]
  | lst n w ys hw h0 hz h ih =>
    intro hk
    rw [depth_tup, depths_cons, depths_cons, depth_tup] at hk
    have a1 : D.sms ys := sms_of fun y hy => (ih y hy (by have := depths_mem hy; omega)).1
    have a2 : D.fines ys := fines_of fun y hy => (ih y hy (by have := depths_mem hy; omega)).2
    simp only [D.sm, D.sms, D.fine, D.fines, a1, a2, and_true, true_and]
    simp
    omega
/-- a source: m turns at most were drawn from it -/
def Src (m : Int) (d : D) : Prop := ∃ c e t, d = pou c e t ∧ 0 ≤ c ∧ c < big ∧ 0 ≤ e ∧ e < 2 ^ 60 ∧ 0 ≤ t ∧ t ≤ m
theorem Src.le {m m' : Int} {d : D} (h : Src m d) (k : m ≤ m') : Src m' d := by
  obtain ⟨c, e, t, h1, h2, h3, h4, h5, h6, h7⟩ := h
  exact ⟨c, e, t, h1, h2, h3, h4, h5, h6, by omega⟩
end Pi

set_option Elab.async false
set_option linter.all false
set_option maxRecDepth 100000
set_option maxHeartbeats 4000000
/-! PiMa: numbers in sequence. -/
namespace Pi
/-- a number: its bottom from 1 on, no common divisor -/
structure Nz (p : Nu) : Prop where
  pos : 0 < p.2
  one : gcdI p.1 p.2 = 1
theorem lt2_iff {p q : Nu} : lt2 p q = true ↔ p.1 * q.2 < q.1 * p.2 := by simp [lt2]
theorem nz_eq {p q : Nu} (hp : Nz p) (hq : Nz q) (h : p.1 * q.2 = q.1 * p.2) : p = q := by
  obtain ⟨a, b⟩ := p
  obtain ⟨c, d⟩ := q
  have hb : 0 < b := hp.pos
  have hd : 0 < d := hq.pos
  have h : a * d = c * b := h
  have g1 : Nat.Coprime a.natAbs b.natAbs := by
    have : ((Nat.gcd a.natAbs b.natAbs : Nat) : Int) = 1 := hp.one
    show Nat.gcd _ _ = 1
    omega
  have g2 : Nat.Coprime c.natAbs d.natAbs := by
    have : ((Nat.gcd c.natAbs d.natAbs : Nat) : Int) = 1 := hq.one
    show Nat.gcd _ _ = 1
    omega
  have e : a.natAbs * d.natAbs = c.natAbs * b.natAbs := by
    rw [← Int.natAbs_mul, ← Int.natAbs_mul, h]
  have d1 : b.natAbs ∣ d.natAbs := g1.symm.dvd_of_dvd_mul_left (m := a.natAbs) ⟨c.natAbs, by rw [e, Nat.mul_comm]⟩
  have d2 : d.natAbs ∣ b.natAbs := g2.symm.dvd_of_dvd_mul_left (m := c.natAbs) ⟨a.natAbs, by rw [← e, Nat.mul_comm]⟩
  have e2 := Nat.dvd_antisymm d1 d2
  have e3 : b = d := by omega
  subst e3
  have e4 : a = c := Int.eq_of_mul_eq_mul_right (by omega) h
  rw [e4]
theorem lt2_irrefl {p : Nu} : lt2 p p = false := by simp [lt2]
theorem lt2_trans {p q r : Nu} (hp : 0 < p.2) (hq : 0 < q.2) (hr : 0 < r.2) (h1 : lt2 p q = true) (h2 : lt2 q r = true) : lt2 p r = true := by
  rw [lt2_iff] at *
  have a1 : p.1 * q.2 * r.2 < q.1 * p.2 * r.2 := Int.mul_lt_mul_of_pos_right h1 hr
  have a2 : q.1 * r.2 * p.2 < r.1 * q.2 * p.2 := Int.mul_lt_mul_of_pos_right h2 hp
  have e1 : q.1 * p.2 * r.2 = q.1 * r.2 * p.2 := by rw [Int.mul_assoc, Int.mul_comm p.2, ← Int.mul_assoc]
  have a3 : p.1 * q.2 * r.2 < r.1 * q.2 * p.2 := by omega
  have e2 : p.1 * q.2 * r.2 = (p.1 * r.2) * q.2 := by rw [Int.mul_assoc, Int.mul_comm q.2, ← Int.mul_assoc]
  have e3 : r.1 * q.2 * p.2 = (r.1 * p.2) * q.2 := by rw [Int.mul_assoc, Int.mul_comm q.2, ← Int.mul_assoc]
  rw [e2, e3] at a3
  exact Int.lt_of_mul_lt_mul_right a3 (Int.le_of_lt hq)
theorem lt2_asymm {p q : Nu} (h : lt2 p q = true) : lt2 q p = false := by
  rw [lt2_iff] at h
  simp only [lt2, decide_eq_false_iff_not]
  omega
theorem lt2_total {p q : Nu} (hp : Nz p) (hq : Nz q) (h : p ≠ q) : lt2 p q = true ∨ lt2 q p = true := by
  rw [lt2_iff, lt2_iff]
  by_cases h1 : p.1 * q.2 = q.1 * p.2
  · exact absurd (nz_eq hp hq h1) h
  · omega
/-- in sequence, each less than all behind it -/
structure Std (l : List Nu) : Prop where
  nz : ∀ q ∈ l, Nz q
  pw : l.Pairwise fun p q => lt2 p q = true
theorem Std.nil : Std [] := ⟨by simp, .nil⟩
theorem Std.tail {p : Nu} {l : List Nu} (h : Std (p :: l)) : Std l := ⟨fun q hq => h.nz q (List.mem_cons_of_mem _ hq), (List.pairwise_cons.mp h.pw).2⟩
theorem Std.nodup {l : List Nu} (h : Std l) : l.Nodup := h.pw.imp fun {p q} hpq e => by subst e; rw [lt2_irrefl] at hpq; cases hpq
/-- one list for each lot of numbers -/
theorem Std.eq {l m : List Nu} (hl : Std l) (hm : Std m) (h : ∀ q, q ∈ l ↔ q ∈ m) : l = m :=
  List.Perm.eq_of_pairwise (le := fun p q => lt2 p q = true) (fun a b _ _ h1 h2 => by rw [lt2_asymm h1] at h2; cases h2) hl.pw hm.pw ((List.perm_ext_iff_of_nodup hl.nodup hm.nodup).mpr h)
/-- the lesser ones stand first -/
theorem Std.filter {p : Nu} (hp : Nz p) : ∀ {l : List Nu}, Std l → l.filter (lt2 · p) = l.take (l.filter (lt2 · p)).length ∧ ∀ q ∈ l.drop (l.filter (lt2 · p)).length, lt2 q p = false
  | [], _ => by simp
  | a :: l, h => by
    have ih := Std.filter hp h.tail
    by_cases ha : lt2 a p = true
    · rw [List.filter_cons_of_pos (by simpa using ha), List.length_cons, List.take_succ_cons, List.drop_succ_cons]
      exact ⟨by rw [← ih.1], ih.2⟩
    · have : l.filter (lt2 · p) = [] := by
        rw [List.filter_eq_nil_iff]
        intro q hq hqp
        have haq := (List.pairwise_cons.mp h.pw).1 q hq
        exact ha (lt2_trans (h.nz a List.mem_cons_self).pos (h.nz q (List.mem_cons_of_mem _ hq)).pos hp.pos haq hqp)
      rw [List.filter_cons_of_neg (by simpa using ha), this]
      refine ⟨rfl, fun q hq => ?_⟩
      rcases List.mem_cons.mp hq with rfl | hq
      · simpa using ha
      · cases hqp : lt2 q p with
        | false => rfl
        | true =>
          have : q ∈ l.filter (lt2 · p) := List.mem_filter.mpr ⟨hq, hqp⟩
          rw [‹l.filter (lt2 · p) = []›] at this
          cases this
theorem ins_std {p : Nu} {l : List Nu} (hp : Nz p) (h : Std l) : Std (ins p l) := by
  by_cases hm : p ∈ l
  · unfold ins; rw [if_pos hm]; exact h
  refine ⟨fun q hq => ?_, ?_⟩
  · rcases ins_mem.mp hq with rfl | hq
    · exact hp
    · exact h.nz q hq
  · unfold ins
    rw [if_neg hm]
    obtain ⟨f1, f2⟩ := Std.filter hp h
    generalize hk : (l.filter (lt2 · p)).length = k at *
    have e := List.take_append_drop k l
    have ht : ∀ q ∈ l.take k, lt2 q p = true := fun q hq => by
      rw [← f1] at hq
      exact (List.mem_filter.mp hq).2
    have hd : ∀ q ∈ l.drop k, lt2 p q = true := fun q hq => by
      have hql : q ∈ l := List.mem_of_mem_drop hq
      rcases lt2_total hp (h.nz q hql) (fun z => hm (z ▸ hql)) with z | z
      · exact z
      · rw [f2 q hq] at z; cases z
    have pw := h.pw
    rw [← e] at pw
    obtain ⟨p1, p2, p3⟩ := List.pairwise_append.mp pw
    rw [List.append_assoc]
    refine List.pairwise_append.mpr ⟨p1, List.pairwise_cons.mpr ⟨hd, p2⟩, fun a ha b hb => ?_⟩
    rcases List.mem_cons.mp hb with rfl | hb
    · exact ht a ha
    · exact p3 a ha b hb
theorem fold_std : ∀ (l acc : List Nu), (∀ q ∈ l, Nz q) → Std acc → Std (l.foldl (fun f p => ins p f) acc)
  | [], acc, _, h => h
  | p :: l, acc, hl, h => fold_std l (ins p acc) (fun q hq => hl q (List.mem_cons_of_mem _ hq)) (ins_std (hl p List.mem_cons_self) h)
theorem srt_std {l : List Nu} (h : ∀ q ∈ l, Nz q) : Std (srt l) := fold_std l [] h Std.nil
theorem srt_congr {a b : List Nu} (ha : ∀ q ∈ a, Nz q) (h : ∀ q, q ∈ a ↔ q ∈ b) : srt a = srt b :=
  (srt_std ha).eq (srt_std fun q hq => ha q ((h q).mpr hq)) fun q => by rw [srt_mem, srt_mem, h]
theorem srt_id {l : List Nu} (h : Std l) : srt l = l := (srt_std h.nz).eq h fun q => srt_mem
/-- sorted by whole keys -/
def keyI (m : Int) (p : Nu) : Int := p.1 * (m / p.2)
theorem key_le {m : Int} {p q : Nu} (hm : 0 < m) (hp : 0 < p.2) (hq : 0 < q.2) (dp : p.2 ∣ m) (dq : q.2 ∣ m) : keyI m p ≤ keyI m q ↔ p.1 * q.2 ≤ q.1 * p.2 := by
  obtain ⟨a, b⟩ := p
  obtain ⟨c, d⟩ := q
  simp only [keyI] at *
  obtain ⟨u, rfl⟩ := dp
  obtain ⟨v, hv⟩ := dq
  have hu : 0 < u := Int.pos_of_mul_pos_right hm (by omega)
  rw [Int.mul_ediv_cancel_left _ (by omega)]
  have e : b * u / d = v := by rw [hv]; exact Int.mul_ediv_cancel_left _ (by omega)
  rw [e]
  have hbu : 0 < b * u := hm
  have hd : 0 < b * d := Int.mul_pos hp hq
  have e1 : a * u * (b * d) = a * d * (b * u) := by
    rw [Int.mul_assoc, Int.mul_assoc]; congr 1
    rw [← Int.mul_assoc, Int.mul_comm u b, Int.mul_comm (b * u) d]
  have e2 : c * v * (b * d) = c * b * (b * u) := by
    rw [Int.mul_assoc, Int.mul_assoc]; congr 1
    rw [hv, Int.mul_comm v, Int.mul_assoc]
  constructor
  · intro h
    have := Int.mul_le_mul_of_nonneg_right h (Int.le_of_lt hd)
    rw [e1, e2] at this
    exact Int.le_of_mul_le_mul_right this hbu
  · intro h
    have := Int.mul_le_mul_of_nonneg_right h (Int.le_of_lt hbu)
    rw [← e1, ← e2] at this
    exact Int.le_of_mul_le_mul_right this hd
def uqN : List Nu → List Nu → List Nu
  | acc, [] => acc
  | acc, d :: r => uqN (if d ∈ acc then acc else acc ++ [d]) r
theorem uqN_mem : ∀ (l acc : List Nu) (q : Nu), q ∈ uqN acc l ↔ q ∈ acc ∨ q ∈ l
  | [], acc, q => by simp [uqN]
  | d :: l, acc, q => by
    rw [uqN, uqN_mem l]
    by_cases h : d ∈ acc
    · rw [if_pos h, List.mem_cons]
      constructor
      · rintro (h1 | h1)
        · exact .inl h1
        · exact .inr (.inr h1)
      · rintro (h1 | rfl | h1)
        · exact .inl h1
        · exact .inl h
        · exact .inr h1
    · rw [if_neg h, List.mem_append, List.mem_singleton, List.mem_cons, or_assoc]
theorem uqN_nodup : ∀ (l acc : List Nu), acc.Nodup → (uqN acc l).Nodup
  | [], acc, h => h
  | d :: l, acc, h => by
    rw [uqN]
    refine uqN_nodup l _ ?_
    by_cases hd : d ∈ acc
    · rw [if_pos hd]; exact h
    · rw [if_neg hd, List.nodup_append]
      refine ⟨h, by simp, fun a ha b hb e => ?_⟩
      rw [List.mem_singleton] at hb
      subst hb e
      exact hd ha
theorem uqN_len : ∀ (l acc : List Nu), (uqN acc l).length ≤ acc.length + l.length
  | [], acc => by simp [uqN]
  | d :: l, acc => by
    rw [uqN]
    have := uqN_len l (if d ∈ acc then acc else acc ++ [d])
    rw [List.length_cons]
    have h2 : (if d ∈ acc then acc else acc ++ [d]).length ≤ acc.length + 1 := by split <;> simp
    omega
def sortI (m : Int) (l : List Nu) : List Nu := l.mergeSort fun x y => decide (keyI m x ≤ keyI m y)
theorem sortI_eq {m : Int} {l : List Nu} (hm : 0 < m) (hl : ∀ q ∈ l, Nz q) (hd : ∀ q ∈ l, q.2 ∣ m) (hn : l.Nodup) : sortI m l = srt l := by
  have pm : (sortI m l).Perm l := List.mergeSort_perm _ _
  have me : ∀ q, q ∈ sortI m l ↔ q ∈ l := fun q => List.mem_mergeSort
  refine Std.eq ⟨fun q hq => hl q ((me q).mp hq), ?_⟩ (srt_std hl) fun q => by rw [me, srt_mem]
  have pw := List.pairwise_mergeSort (le := fun x y => decide (keyI m x ≤ keyI m y)) (fun a b c h1 h2 => by simp only [decide_eq_true_eq] at *; omega) (fun a b => by simp only [Bool.or_eq_true, decide_eq_true_eq]; omega) l
  have nd : (sortI m l).Nodup := pm.symm.nodup hn
  refine (List.pairwise_and_iff.mpr ⟨pw, nd⟩ |>.imp_of_mem ?_)
  intro a b ha hb ⟨h1, h2⟩
  have ha' := (me a).mp ha
  have hb' := (me b).mp hb
  have h1 : keyI m a ≤ keyI m b := by simpa using h1
  have h3 := (key_le hm (hl a ha').pos (hl b hb').pos (hd a ha') (hd b hb')).mp h1
  rcases lt2_total (hl a ha') (hl b hb') h2 with z | z
  · exact z
  · rw [lt2_iff] at z; omega
end Pi

set_option Elab.async false
set_option linter.all false
set_option maxRecDepth 100000
set_option maxHeartbeats 4000000
/-! PiMb: numbers between numbers. -/
namespace Pi
def lowN (t b : Int) : Nu := (t / gcdI t b, b / gcdI t b)
/-- both parts are less than a power of two -/
structure Sz (k : Nat) (p : Nu) : Prop where
  ta : p.1.natAbs < 2 ^ k
  tb : p.2.natAbs < 2 ^ k
theorem Sz.le {j k : Nat} {p : Nu} (h : Sz j p) (l : j ≤ k) : Sz k p := ⟨Nat.lt_of_lt_of_le h.ta (Nat.pow_le_pow_right (by decide) l), Nat.lt_of_lt_of_le h.tb (Nat.pow_le_pow_right (by decide) l)⟩
theorem lowN_nz {t b : Int} (hb : 0 < b) : Nz (lowN t b) := by
  obtain ⟨t', b', e1, e2, e3, e4, e5, e6⟩ := gcdI_split (t := t) hb
  exact ⟨by show 0 < b / gcdI t b; rw [e4]; exact e5, by show gcdI (t / gcdI t b) (b / gcdI t b) = 1; rw [e3, e4]; exact e6⟩
theorem lowN_sz {t b : Int} {k : Nat} (hb : 0 < b) (h1 : t.natAbs < 2 ^ k) (h2 : b.natAbs < 2 ^ k) : Sz k (lowN t b) := by
  obtain ⟨a1, a2, _⟩ := quo_lt k hb h1 h2
  exact ⟨a1, a2⟩
theorem lowN_scale {k x y : Int} (hk : 0 < k) (hy : 0 < y) : lowN (k * x) (k * y) = lowN x y := by
  obtain ⟨a1, a2⟩ := low_scale (x := x) hk hy
  simp only [lowN, a1, a2]
theorem lowN_id {p : Nu} (h : Nz p) : lowN p.1 p.2 = p := by
  have := h.one
  simp only [lowN, this, Int.ediv_one]
/-- a fraction times, by whole numbers, is the same as of its lowest terms -/
theorem lowN_low {t b m : Int} (hb : 0 < b) (hm : 0 < m) : lowN ((lowN t b).1) ((lowN t b).2 * m) = lowN t (b * m) := by
  obtain ⟨t', b', e1, e2, e3, e4, e5, e6⟩ := gcdI_split (t := t) hb
  have g0 := gcdI_pos (t := t) hb
  have : lowN t b = (t', b') := by simp only [lowN, e3, e4]
  rw [this]
  have h1 : lowN t (b * m) = lowN (gcdI t b * t') (gcdI t b * (b' * m)) := by
    rw [← e1, ← Int.mul_assoc, ← e2]
  rw [h1, lowN_scale g0 (Int.mul_pos e5 hm)]
def midN (p q : Nu) : Nu := lowN (p.1 * q.2 + q.1 * p.2) (p.2 * q.2 * 2)
def gapN (p q : Nu) (many : Nat) : List Nu := (List.range many).map fun (i : Nat) => lowN (p.1 * q.2 * (many + 1) + (q.1 * p.2 - p.1 * q.2) * (i + 1)) (p.2 * q.2 * (many + 1))
def nth (l : List Nu) (i : Nat) : Nu := l.getD i (0, 1)
def segN (cs : List Nu) (many i : Nat) : List Nu := nth cs i :: (if i + 1 < cs.length then gapN (nth cs i) (nth cs (i + 1)) many else [])
def headN (p : Nu) (many : Nat) : List Nu := (List.range many).map fun (i : Nat) => lowN (p.1 - ((many : Int) - i) * p.2) p.2
def lastN (p : Nu) (many : Nat) : List Nu := (List.range many).map fun (i : Nat) => lowN (p.1 + ((i : Int) + 1) * p.2) p.2
def rowN (many : Nat) (cs : List Nu) : List Nu := if cs = [] then (List.range many).map (fun (i : Nat) => ((i : Int), (1 : Int))) else
  headN (nth cs 0) many ++ (List.range cs.length).flatMap (segN cs many) ++ lastN (nth cs (cs.length - 1)) many
def candN (cs : List Nu) : List Nu := if cs = [] then [(0, 1)] else
  lowN ((nth cs 0).1 - (nth cs 0).2) (nth cs 0).2 :: (List.range (cs.length - 1)).flatMap (fun i => [nth cs i, midN (nth cs i) (nth cs (i + 1))]) ++ [nth cs (cs.length - 1), lowN ((nth cs (cs.length - 1)).1 + (nth cs (cs.length - 1)).2) (nth cs (cs.length - 1)).2]
theorem gap_one (p q : Nu) : gapN p q 1 = [midN p q] := by
  have e1 : p.1 * q.2 * (((1 : Nat) : Int) + 1) + (q.1 * p.2 - p.1 * q.2) * (((0 : Nat) : Int) + 1) = p.1 * q.2 + q.1 * p.2 := by
    generalize p.1 * q.2 = x
    generalize q.1 * p.2 = y
    omega
  show [lowN _ _] = _
  rw [e1]; rfl
theorem row_one (cs : List Nu) : rowN 1 cs = candN cs := by
  unfold rowN candN
  by_cases h : cs = []
  · rw [if_pos h, if_pos h]; rfl
  · rw [if_neg h, if_neg h]
    obtain ⟨n, hn⟩ : ∃ n, cs.length = n + 1 := ⟨cs.length - 1, by have := List.length_pos_iff.mpr h; omega⟩
    have e1 : headN (nth cs 0) 1 = [lowN ((nth cs 0).1 - (nth cs 0).2) (nth cs 0).2] := by
      show [lowN ((nth cs 0).1 - (((1 : Nat) : Int) - ((0 : Nat) : Int)) * (nth cs 0).2) _] = _
      rw [show (((1 : Nat) : Int) - ((0 : Nat) : Int)) = 1 from rfl, Int.one_mul]
    have e2 : ∀ p : Nu, lastN p 1 = [lowN (p.1 + p.2) p.2] := fun p => by
      show [lowN (p.1 + (((0 : Nat) : Int) + 1) * p.2) _] = _
      rw [show (((0 : Nat) : Int) + 1) = 1 from rfl, Int.one_mul]
    rw [e1, e2, hn, Nat.add_sub_cancel, List.range_succ, List.flatMap_append]
    have e3 : (List.range n).flatMap (segN cs 1) = (List.range n).flatMap fun i => [nth cs i, midN (nth cs i) (nth cs (i + 1))] := by
      rw [List.flatMap_def, List.flatMap_def]
      congr 1
      refine List.map_congr_left fun i hi => ?_
      have := List.mem_range.mp hi
      rw [segN, if_pos (by omega), gap_one]
    have e4 : [n].flatMap (segN cs 1) = [nth cs n] := by
      simp only [List.flatMap_cons, List.flatMap_nil, List.append_nil]
      rw [segN, if_neg (by omega)]
    rw [e3, e4]
    simp
theorem nth_mem {cs : List Nu} {i : Nat} (h : i < cs.length) : nth cs i ∈ cs := by
  unfold nth
  rw [List.getD_eq_getElem?_getD, List.getElem?_eq_getElem h]
  exact List.getElem_mem h
theorem abs_mul {a b : Int} {j k : Nat} (h1 : a.natAbs < 2 ^ j) (h2 : b.natAbs < 2 ^ k) : (a * b).natAbs < 2 ^ (j + k) := by
  rw [Int.natAbs_mul, Nat.pow_add]
  exact Nat.mul_lt_mul'' h1 h2
/-- of a row -/
structure Nb (k : Nat) (p : Nu) : Prop where
  nz : Nz p
  sz : Sz k p
theorem Nb.le {j k : Nat} {p : Nu} (h : Nb j p) (l : j ≤ k) : Nb k p := ⟨h.nz, h.sz.le l⟩
theorem row_nb {many k : Nat} {cs : List Nu} (hm : many ≤ 6) (h : ∀ q ∈ cs, Nb k q) : ∀ q ∈ rowN many cs, Nb (2 * k + 6) q := by
  intro q hq
  unfold rowN at hq
  by_cases hc : cs = []
  · rw [if_pos hc] at hq
    obtain ⟨i, hi, rfl⟩ := List.mem_map.mp hq
    have := List.mem_range.mp hi
    have : 2 ^ 3 ≤ 2 ^ (2 * k + 6) := Nat.pow_le_pow_right (by decide) (by omega)
    exact ⟨⟨by show (0 : Int) < 1; decide, by show ((Nat.gcd _ 1 : Nat) : Int) = 1; rw [Nat.gcd_one_right]; rfl⟩, ⟨by show (i : Int).natAbs < _; omega, by show (1 : Int).natAbs < _; omega⟩⟩
  · rw [if_neg hc] at hq
    have hl := List.length_pos_iff.mpr hc
    have hk1 : (1 : Nat) ≤ 2 ^ k := Nat.one_le_two_pow
    have e2k : 2 ^ (2 * k + 6) = 64 * (2 ^ k * 2 ^ k) := by rw [Nat.pow_add, Nat.two_mul, Nat.pow_add]; omega
    have kk : 2 ^ k ≤ 2 ^ k * 2 ^ k := Nat.le_mul_of_pos_left _ (by omega)
    have near : ∀ (p : Nu) (j : Int), Nb k p → j.natAbs ≤ 7 → Nb (2 * k + 6) (lowN (p.1 + j * p.2) p.2) := fun p j hp hj => by
      refine ⟨lowN_nz hp.nz.pos, lowN_sz hp.nz.pos ?_ ?_⟩
      · have h1 := hp.sz.ta
        have h2 := hp.sz.tb
        have h3 : (j * p.2).natAbs ≤ 7 * p.2.natAbs := by rw [Int.natAbs_mul]; exact Nat.mul_le_mul_right _ hj
        omega
      · have := hp.sz.tb; omega
    rcases List.mem_append.mp hq with hq | hq
    · rcases List.mem_append.mp hq with hq | hq
      · obtain ⟨i, hi, rfl⟩ := List.mem_map.mp hq
        have := List.mem_range.mp hi
        have := near (nth cs 0) (-((many : Int) - i)) (h _ (nth_mem hl)) (by omega)
        rwa [Int.neg_mul, ← Int.sub_eq_add_neg] at this
      · obtain ⟨i, hi, hq⟩ := List.mem_flatMap.mp hq
        have hi := List.mem_range.mp hi
        unfold segN at hq
        rcases List.mem_cons.mp hq with rfl | hq
        · exact (h _ (nth_mem hi)).le (by omega)
        · split at hq
          · rename_i hi2
            obtain ⟨j, hj, rfl⟩ := List.mem_map.mp hq
            have hj := List.mem_range.mp hj
            have hp := h _ (nth_mem hi)
            have hr := h _ (nth_mem hi2)
            generalize nth cs i = p at *
            generalize nth cs (i + 1) = r at *
            have b1 := abs_mul hp.sz.ta hr.sz.tb
            have b2 := abs_mul hr.sz.ta hp.sz.tb
            have b3 := abs_mul hp.sz.tb hr.sz.tb
            rw [Nat.pow_add] at b1 b2 b3
            have pos : 0 < p.2 * r.2 := Int.mul_pos hp.nz.pos hr.nz.pos
            refine ⟨lowN_nz (Int.mul_pos pos (by omega)), lowN_sz (Int.mul_pos pos (by omega)) ?_ ?_⟩
            · generalize p.1 * r.2 = x at *
              generalize r.1 * p.2 = y at *
              have c1 : (x * ((many : Int) + 1)).natAbs ≤ x.natAbs * 7 := by rw [Int.natAbs_mul]; exact Nat.mul_le_mul_left _ (by omega)
              have c2 : ((y - x) * ((j : Int) + 1)).natAbs ≤ (y - x).natAbs * 7 := by rw [Int.natAbs_mul]; exact Nat.mul_le_mul_left _ (by omega)
              omega
            · have c1 : (p.2 * r.2 * ((many : Int) + 1)).natAbs ≤ (p.2 * r.2).natAbs * 7 := by rw [Int.natAbs_mul (p.2 * r.2)]; exact Nat.mul_le_mul_left _ (by omega)
              omega
          · cases hq
    · obtain ⟨i, hi, rfl⟩ := List.mem_map.mp hq
      have := List.mem_range.mp hi
      exact near _ _ (h _ (nth_mem (by omega))) (by omega)
theorem row_len {many : Nat} {cs : List Nu} (hm : many ≤ 6) (hc : cs.length ≤ 50) : (rowN many cs).length ≤ 400 := by
  unfold rowN
  split
  · simp; omega
  · have hs : ∀ i, (segN cs many i).length ≤ 7 := fun i => by
      unfold segN
      split
      · simp [gapN]; omega
      · simp
    have hf : ∀ n, ((List.range n).flatMap (segN cs many)).length ≤ 7 * n := fun n => by
      induction n with
      | zero => simp
      | succ n ih => rw [List.range_succ, List.flatMap_append, List.length_append]; have := hs n; simp only [List.flatMap_cons, List.flatMap_nil, List.append_nil]; omega
    have := hf cs.length
    simp only [List.length_append, headN, lastN, List.length_map, List.length_range]
    omega
theorem abs_sub {x y : Int} {k : Nat} (hx : x.natAbs < 2 ^ k) (hy : y.natAbs < 2 ^ k) : (x - y).natAbs < 2 ^ (k + 1) := by
  rw [Nat.pow_succ]; omega
theorem abs_add {x y : Int} {k : Nat} (hx : x.natAbs < 2 ^ k) (hy : y.natAbs < 2 ^ k) : (x + y).natAbs < 2 ^ (k + 1) := by
  rw [Nat.pow_succ]; omega
end Pi

set_option Elab.async false
set_option linter.all false
set_option maxRecDepth 100000
set_option maxHeartbeats 4000000
/-! PiMc: data of numbers in sequence. -/
namespace Pi
open PySem
theorem uniqL_nD : ∀ (l acc : List Nu), uniqL (acc.map nD) (l.map nD) = (uqN acc l).map nD
  | [], acc => rfl
  | d :: l, acc => by
    rw [List.map_cons, uniqL, nD_any, uqN]
    by_cases h : d ∈ acc
    · rw [if_pos (by simpa using h), if_pos h]; exact uniqL_nD l acc
    · rw [if_neg (by simpa using h), if_neg h]
      have := uniqL_nD l (acc ++ [d])
      rw [List.map_append] at this
      exact this
theorem intTup_nD (p : Nu) : intTup (nD p) = some [p.1, p.2] := rfl
theorem uniqD_nD {l : List Nu} (h : l.length ≤ 100000) : uniqD (.lst (l.map nD)) = some (.lst ((uqN [] l).map nD), true) := by
  have e : ((l.map nD).all fun d => (intTup d).isSome) = true := List.all_eq_true.mpr fun d hd => by
    obtain ⟨p, _, rfl⟩ := List.mem_map.mp hd
    rfl
  have e2 := uniqL_nD l []
  rw [List.map_nil] at e2
  show (if _ then _ else _) = _
  rw [if_pos ⟨e, by simpa using h⟩, e2]
theorem keyN_nD {m : Int} {p : Nu} (h1 : divOk p.2) (h2 : mulOk p.1 (m / p.2)) : keyN m (nD p) = some (keyI m p) := by
  show (if divOk p.2 ∧ mulOk p.1 (m / p.2) then _ else _) = _
  rw [if_pos ⟨h1, h2⟩]; rfl
theorem sortkD_nD {m : Int} {l : List Nu} (h : l.length ≤ 100000) (hk : ∀ q ∈ l, divOk q.2 ∧ mulOk q.1 (m / q.2)) : sortkD m (.lst (l.map nD)) = some (.lst ((sortI m l).map nD), true) := by
  have e : ((l.map nD).all fun d => (keyN m d).isSome) = true := List.all_eq_true.mpr fun d hd => by
    obtain ⟨p, hp, rfl⟩ := List.mem_map.mp hd
    rw [keyN_nD (hk p hp).1 (hk p hp).2]; rfl
  have e2 : sortN m (l.map nD) = (sortI m l).map nD := by
    unfold sortN sortI
    refine (List.map_mergeSort fun a ha b hb => ?_).symm
    rw [keyN_nD (hk a ha).1 (hk a ha).2, keyN_nD (hk b hb).1 (hk b hb).2]
    rfl
  show (if _ then _ else _) = _
  rw [if_pos ⟨e, by simpa using h⟩, e2]
theorem biD_lcm {i j : Int} (h1 : i.natAbs.log2 < 9000) (h2 : j.natAbs.log2 < 9000) : biD .lcm [.int i, .int j] = some (.int (Nat.lcm i.natAbs j.natAbs : Nat), false) := if_pos ⟨h1, h2⟩
theorem log_ltK {n a : Nat} (h : n < 2 ^ a) (k : Nat) (hk : a < k) : n.log2 < k := by have := log2_le h; omega
theorem Sz.log {k : Nat} {p : Nu} (h : Sz k p) (j : Nat) (hk : k < j) : p.1.natAbs.log2 < j ∧ p.2.natAbs.log2 < j := ⟨log_ltK h.ta j hk, log_ltK h.tb j hk⟩
theorem mulSz {i j : Nat} {a b : Int} (h1 : a.natAbs < 2 ^ i) (h2 : b.natAbs < 2 ^ j) (h : i + j < 1000000 := by decide) : mulOk a b := mulOk_of i j h1 h2 h
/-- a common multiple of all bottoms, not too great -/
structure Mul (M : Nat) (l : List Nu) : Prop where
  pos : 0 < M
  lt : M < 2 ^ 8900
  dv : ∀ q ∈ l, q.2.natAbs ∣ M
theorem Mul.sub {M : Nat} {l m : List Nu} (h : Mul M l) (k : ∀ q ∈ m, q ∈ l) : Mul M m := ⟨h.pos, h.lt, fun q hq => h.dv q (k q hq)⟩
theorem prod_mul : ∀ (l : List Nu) (k : Nat), (∀ q ∈ l, Nb k q) → ∃ M, 0 < M ∧ M ≤ 2 ^ (k * l.length) ∧ ∀ q ∈ l, q.2.natAbs ∣ M
  | [], k, _ => ⟨1, by decide, by simp, by simp⟩
  | p :: l, k, h => by
    obtain ⟨M, h1, h2, h3⟩ := prod_mul l k fun q hq => h q (List.mem_cons_of_mem _ hq)
    have hp := h p List.mem_cons_self
    have pp := hp.nz.pos
    refine ⟨p.2.natAbs * M, Nat.mul_pos (by omega) h1, ?_, fun q hq => ?_⟩
    · rw [List.length_cons, Nat.mul_succ, Nat.add_comm, Nat.pow_add]
      exact Nat.mul_le_mul (Nat.le_of_lt hp.sz.tb) h2
    · rcases List.mem_cons.mp hq with rfl | hq
      · exact Nat.dvd_mul_right _ _
      · exact Nat.dvd_trans (h3 q hq) (Nat.dvd_mul_left _ _)
theorem mul_of {l : List Nu} {k : Nat} (h : ∀ q ∈ l, Nb k q) (hk : k * l.length < 8900) : ∃ M, Mul M l := by
  obtain ⟨M, h1, h2, h3⟩ := prod_mul l k h
  exact ⟨M, h1, Nat.lt_of_le_of_lt h2 (Nat.pow_lt_pow_right (by decide) hk), h3⟩
theorem nm_nb {p : Nu} (h : NmP p) : Nb 110 p := ⟨⟨h.pos, h.one⟩, ⟨h.ta, h.tb⟩⟩
theorem nb_num {k : Nat} {p : Nu} (h : Nb k p) : isNum (nD p) = true := by
  have h1 := h.nz.pos
  have h2 := h.nz.one
  have : 1 ≤ p.2 := by omega
  simp [isNum, this, h2]
theorem srt_nb {k : Nat} {l : List Nu} (h : ∀ q ∈ l, Nb k q) : ∀ q ∈ srt l, Nb k q := fun q hq => h q (srt_mem.mp hq)
theorem map_nth {l : List Nu} {i : Nat} (h : i < l.length) : (l.map nD)[i]? = some (nD (nth l i)) := by
  unfold nth
  rw [List.getElem?_map, List.getElem?_eq_getElem h, List.getD_eq_getElem?_getD, List.getElem?_eq_getElem h]
  rfl
theorem atI_m1 {α : Type} {xs : List α} (h : xs ≠ []) : L2.atI xs (-1) = xs[xs.length - 1]? := by
  have := List.length_pos_iff.mpr h
  unfold L2.atI L2.ixN
  rw [if_neg (by omega), if_pos (by omega)]
  simp only [Option.bind_some]
  congr 1
  omega
end Pi

set_option Elab.async false
set_option linter.all false
set_option maxRecDepth 100000
set_option maxHeartbeats 4000000
/-! PiMd: lots of numbers. -/
namespace Pi
open PySem
def IsLot (d : D) (l : List Nu) : Prop := d = .tup (l.map nD) ∨ d = .lst (l.map nD)
inductive Lots : List D → List (List Nu) → Prop
  | nil : Lots [] []
  | cons {d : D} {ds : List D} {l : List Nu} {ls : List (List Nu)} : IsLot d l → Lots ds ls → Lots (d :: ds) (l :: ls)
theorem Lots.snoc {ds : List D} {ls : List (List Nu)} {d : D} {l : List Nu} (h : Lots ds ls) (hd : IsLot d l) : Lots (ds ++ [d]) (ls ++ [l]) := by
  induction h with
  | nil => exact .cons hd .nil
  | cons a _ ih => exact .cons a ih
theorem Lots.map {α : Type} (f : α → D) (g : α → List Nu) : ∀ (xs : List α), (∀ x ∈ xs, IsLot (f x) (g x)) → Lots (xs.map f) (xs.map g)
  | [], _ => .nil
  | x :: xs, h => .cons (h x List.mem_cons_self) (Lots.map f g xs fun y hy => h y (List.mem_cons_of_mem _ hy))
theorem loop2_lots {f : D → Env → List D → Res (List D)} {env : Env} (hf : ∀ d l acc, IsLot d l → acc.length + l.length ≤ 100000 → f d env acc = .ok (acc ++ l.map nD) env) :
    ∀ {ds : List D} {ls : List (List Nu)} (acc : List D), Lots ds ls → acc.length + ls.flatten.length ≤ 100000 → lcLoop2 f ds env acc = .ok (acc ++ ls.flatten.map nD) env
  | _, _, acc, .nil, _ => by simp [lcLoop2]
  | _, _, acc, .cons (l := l) (ls := ls) hd ht, hz => by
    rw [List.flatten_cons, List.length_append] at hz
    rw [lcLoop2, hf _ _ _ hd (by omega), Res.bind_ok, loop2_lots hf _ ht (by rw [List.length_append, List.length_map]; omega)]
    simp
theorem lcLoop_id {f : D → Env → Res (Option D)} {env : Env} {xs acc : List D} (h : ∀ x ∈ xs, f x env = .ok (some x) env) (hl : acc.length + xs.length ≤ 100000) : lcLoop f xs env acc = .ok (acc ++ xs) env := by
  have := lcLoop_all (g := id) h hl
  simpa using this
theorem lc2_of {L : Lib} {elt : E} {own : List Nat} {tg tg1 : Tg} {k k1 : ItK} {es es1 conds conds1 : List E} {env env1 env2 : Env} {items ds : List D} (hi : (args L es env).bind (walkB k) = .ok items env1)
    (hl : lcLoop2 (fun d e acc => match tg.store d false e with
            | none => .bad
            | some e1 => (holds L conds e1).bind fun b e2 => if b then
                ((args L es1 e2).bind (walkB k1)).bind fun items1 e3 =>
                  (lcLoop (fun d e => match tg1.store d false e with
                    | none => .bad
                    | some e1 => (holds L conds1 e1).bind fun b e2 => if b then (eval L elt e2).bind fun r e3 => .ok (some r.1) (wipeE e3 tg1.slots) else .ok none (wipeE e2 tg1.slots)) items1 (wipeE e3 tg1.slots) acc).bind fun acc' e4 => .ok acc' (wipeE e4 own)
              else .ok acc (wipeE e2 own)) items (wipeE env1 own) [] = .ok ds env2) :
    eval L (.lc2 elt own tg k es conds tg1 k1 es1 conds1) env = .ok (.lst ds, true) (backE env1 env2 own) := by
  rw [eval, hi, Res.bind_ok]
  exact congrArg (fun r => match r with | .ok ds env2 => Res.ok (D.lst ds, true) (backE env1 env2 own) | _ => Res.bad) hl
end Pi

set_option Elab.async false
set_option linter.all false
set_option maxRecDepth 100000
set_option maxHeartbeats 4000000
/-! PiMe: formulas: numbers in them, truths. -/
namespace Pi
open PySem
def Tq (pool : List Nu) (n : Int) (d : D) : Prop := (∃ i, d = .int i ∧ 0 ≤ i ∧ i < n) ∨ ∃ p, p ∈ pool ∧ d = nD p
/-- a formula of so many names, its numbers out of a pool, some and all at most q within one another -/
inductive Fq (pool : List Nu) : Nat → Int → D → Prop
  | yes (q : Nat) (n : Int) : Fq pool q n (.tup [.str "yes"])
  | cmp (q : Nat) (n : Int) (w : Str) (a b : D) : (w = "less" ∨ w = "same") → Tq pool n a → Tq pool n b → Fq pool q n (.tup [.str w, a, b])
  | not (q : Nat) (n : Int) (x : D) : Fq pool q n x → Fq pool q n (.tup [.str "not", x])
  | qu (q : Nat) (n : Int) (w : Str) (x : D) : (w = "some" ∨ w = "all") → Fq pool q (n + 1) x → Fq pool (q + 1) n (.tup [.str w, x])
  | lst (q : Nat) (n : Int) (w : Str) (ys : List D) : (w = "both" ∨ w = "either") → ys ≠ [] → ys.length ≤ 20 → (∀ y ∈ ys, Fq pool q n y) → Fq pool q n (.tup [.str w, .tup ys])
theorem Tq.trm {pool : List Nu} {n : Int} {d : D} (h : Tq pool n d) (hp : ∀ p ∈ pool, NmP p) : Trm n d := by
  rcases h with h | ⟨p, hm, rfl⟩
  · exact .inl h
  · exact .inr ⟨p, rfl, hp p hm⟩
theorem Tq.mono {pool pool' : List Nu} {n : Int} {d : D} (h : Tq pool n d) (hp : ∀ p ∈ pool, p ∈ pool') : Tq pool' n d := by
  rcases h with h | ⟨p, hm, rfl⟩
  · exact .inl h
  · exact .inr ⟨p, hp p hm, rfl⟩
theorem Fq.fm {pool : List Nu} {q : Nat} {n : Int} {d : D} (h : Fq pool q n d) (hp : ∀ p ∈ pool, NmP p) : Fm n d := by
  induction h with
  | yes q n => exact .yes _
  | cmp q n w a b hw ha hb => exact .cmp _ _ _ _ hw (ha.trm hp) (hb.trm hp)
  | not q n x h ih => exact .not _ _ ih
  | qu q n w x hw h ih => exact .qu _ _ _ hw ih
  | lst q n w ys hw h0 hz h ih => exact .lst _ _ _ hw h0 (by omega) ih
theorem Fq.mono {pool pool' : List Nu} {q : Nat} {n : Int} {d : D} (h : Fq pool q n d) (hp : ∀ p ∈ pool, p ∈ pool') : Fq pool' q n d := by
  induction h with
  | yes q n => exact .yes _ _
  | cmp q n w a b hw ha hb => exact .cmp _ _ _ _ _ hw (ha.mono hp) (hb.mono hp)
  | not q n x h ih => exact .not _ _ _ ih
  | qu q n w x hw h ih => exact .qu _ _ _ _ hw ih
  | lst q n w ys hw h0 hz h ih => exact .lst _ _ _ _ hw h0 hz ih
def wth (pl : List Nu) : D → Nu
  | .int i => nth pl i.toNat
  | .tup [.int a, .int b] => (a, b)
  | _ => (0, 1)
def trueF (cs : List Nu) : Nat → D → List Nu → Bool
  | 0, _, _ => false
  | k + 1, d, pl => match d with
    | .tup [.str w, x] =>
      if w = "both" then (match x with | .tup ys => ys.all fun y => trueF cs k y pl | _ => false)
      else if w = "either" then (match x with | .tup ys => ys.any fun y => trueF cs k y pl | _ => false)
      else if w = "not" then !trueF cs k x pl
      else if w = "some" then (candN (srt (cs ++ pl))).any fun p => trueF cs k x (pl ++ [p])
      else (candN (srt (cs ++ pl))).all fun p => trueF cs k x (pl ++ [p])
    | .tup [.str w, a, b] => if w = "same" then decide (wth pl a = wth pl b) else lt2 (wth pl a) (wth pl b)
    | _ => true
section
variable {cs pl : List Nu} {k : Nat} {x a b : D} {ys : List D}
theorem trueF_both : trueF cs (k + 1) (.tup [.str "both", .tup ys]) pl = ys.all fun y => trueF cs k y pl := by simp [trueF]
theorem trueF_either : trueF cs (k + 1) (.tup [.str "either", .tup ys]) pl = ys.any fun y => trueF cs k y pl := by simp [trueF]
theorem trueF_not : trueF cs (k + 1) (.tup [.str "not", x]) pl = !trueF cs k x pl := by simp [trueF]
theorem trueF_some : trueF cs (k + 1) (.tup [.str "some", x]) pl = (candN (srt (cs ++ pl))).any fun p => trueF cs k x (pl ++ [p]) := by simp [trueF]
theorem trueF_all : trueF cs (k + 1) (.tup [.str "all", x]) pl = (candN (srt (cs ++ pl))).all fun p => trueF cs k x (pl ++ [p]) := by simp [trueF]
theorem trueF_less : trueF cs (k + 1) (.tup [.str "less", a, b]) pl = lt2 (wth pl a) (wth pl b) := by simp [trueF]
theorem trueF_same : trueF cs (k + 1) (.tup [.str "same", a, b]) pl = decide (wth pl a = wth pl b) := by simp [trueF]
theorem trueF_yes : trueF cs (k + 1) (.tup [.str "yes"]) pl = true := rfl
end
theorem all_eq {α : Type} {f g : α → Bool} : ∀ {ys : List α}, (∀ y ∈ ys, f y = g y) → ys.all f = ys.all g
  | [], _ => rfl
  | y :: ys, h => by rw [List.all_cons, List.all_cons, h y List.mem_cons_self, all_eq fun z hz => h z (List.mem_cons_of_mem _ hz)]
theorem any_eq {α : Type} {f g : α → Bool} : ∀ {ys : List α}, (∀ y ∈ ys, f y = g y) → ys.any f = ys.any g
  | [], _ => rfl
  | y :: ys, h => by rw [List.any_cons, List.any_cons, h y List.mem_cons_self, any_eq fun z hz => h z (List.mem_cons_of_mem _ hz)]
/-- without some and all the constants do not matter -/
theorem trueF_cs {pool cs cs' : List Nu} {q : Nat} {n : Int} {d : D} (h : Fq pool q n d) : q = 0 → ∀ k pl, trueF cs k d pl = trueF cs' k d pl := by
  induction h with
  | yes q n => intro _ k pl; cases k <;> rfl
  | cmp q n w a b hw ha hb => intro _ k pl; cases k <;> rfl
  | not q n x h ih =>
    intro hq k pl
    cases k with
    | zero => rfl
    | succ k => rw [trueF_not, trueF_not, ih hq]
  | qu q n w x hw h ih => intro hq; cases hq
  | lst q n w ys hw h0 hz h ih =>
    intro hq k pl
    cases k with
    | zero => rfl
    | succ k =>
      have e : ∀ y ∈ ys, trueF cs k y pl = trueF cs' k y pl := fun y hy => ih y hy hq k pl
      rcases hw with rfl | rfl
      · rw [trueF_both, trueF_both]
        exact all_eq e
      · rw [trueF_either, trueF_either]
        exact any_eq e
def numOf : D → List Nu
  | .tup [.int a, .int b] => [(a, b)]
  | _ => []
def numsF : Nat → D → List Nu
  | 0, _ => []
  | k + 1, d => match d with
    | .tup [.str w, x] => if w = "both" ∨ w = "either" then (match x with | .tup ys => ys.flatMap (numsF k) | _ => []) else numsF k x
    | .tup [.str _, a, b] => numOf a ++ numOf b
    | _ => []
theorem Tq.nums {pool : List Nu} {n : Int} {d : D} (h : Tq pool n d) : ∀ p ∈ numOf d, p ∈ pool := by
  rcases h with ⟨i, rfl, _⟩ | ⟨p, hp, rfl⟩
  · intro p hp; cases hp
  · intro p' hp'
    have : p' = p := by simpa [numOf, nD] using hp'
    rw [this]; exact hp
theorem numsF_pool {pool : List Nu} {q : Nat} {n : Int} {d : D} (h : Fq pool q n d) : ∀ k, ∀ p ∈ numsF k d, p ∈ pool := by
  induction h with
  | yes q n => intro k p hp; cases k <;> cases hp
  | cmp q n w a b hw ha hb =>
    intro k p hp
    cases k with
    | zero => cases hp
    | succ k =>
      rcases List.mem_append.mp (show p ∈ numOf a ++ numOf b from hp) with h | h
      · exact ha.nums p h
      · exact hb.nums p h
  | not q n x h ih =>
    intro k p hp
    cases k with
    | zero => cases hp
    | succ k => exact ih k p (by simpa [numsF] using hp)
  | qu q n w x hw h ih =>
    intro k p hp
    cases k with
    | zero => cases hp
    | succ k => exact ih k p (by rcases hw with rfl | rfl <;> simpa [numsF] using hp)
  | lst q n w ys hw h0 hz h ih =>
    intro k p hp
    cases k with
    | zero => cases hp
    | succ k =>
      have hp : p ∈ ys.flatMap (numsF k) := by rcases hw with rfl | rfl <;> simpa [numsF] using hp
      obtain ⟨y, hy, hp⟩ := List.mem_flatMap.mp hp
      exact ih y hy k p hp
/-- numbers of a pool, each once, are no more than the pool has -/
theorem srt_pool {pool l : List Nu} (hn : ∀ p ∈ pool, Nz p) (h : ∀ p ∈ l, p ∈ pool) : (srt l).length ≤ pool.length :=
  (srt_std fun q hq => hn q (h q hq)).nodup.length_le_of_subset fun q hq => h q (srt_mem.mp hq)
theorem srt_flat {α : Type} {f : α → List Nu} {xs : List α} (hn : ∀ x ∈ xs, ∀ p ∈ f x, Nz p) : srt (xs.flatMap fun x => srt (f x)) = srt (xs.flatMap f) :=
  srt_congr (fun q hq => by
    obtain ⟨x, hx, hq⟩ := List.mem_flatMap.mp hq
    exact hn x hx q (srt_mem.mp hq)) fun q => by
    rw [List.mem_flatMap, List.mem_flatMap]
    exact ⟨fun ⟨x, hx, hq⟩ => ⟨x, hx, srt_mem.mp hq⟩, fun ⟨x, hx, hq⟩ => ⟨x, hx, srt_mem.mpr hq⟩⟩
theorem flat_len {α : Type} {f : α → List Nu} {b : Nat} : ∀ (xs : List α), (∀ x ∈ xs, (f x).length ≤ b) → (xs.flatMap f).length ≤ b * xs.length
  | [], _ => by simp
  | x :: xs, h => by
    have h1 := h x List.mem_cons_self
    have h2 := flat_len xs fun y hy => h y (List.mem_cons_of_mem _ hy)
    rw [List.flatMap_cons, List.length_append, List.length_cons, Nat.mul_succ]
    omega
/-! comprehensions over numbers -/
def unN : D → Nu
  | .tup [.int a, .int b] => (a, b)
  | _ => (0, 1)
theorem lc_mapN {L : Lib} {elt : E} {own : List Nat} {tg : Tg} {k : ItK} {es : List E} {env env1 : Env} {l : List Nu} (g : Nu → D) (hi : (args L es env).bind (walkB k) = .ok (l.map nD) env1) (hz : l.length ≤ 100000)
    (h : ∀ p ∈ l, ∃ e1 e2 fr, tg.store (nD p) false (wipeE env1 own) = some e1 ∧ eval L elt e1 = .ok (g p, fr) e2 ∧ wipeE e2 own = wipeE env1 own) :
    eval L (.lc elt own tg k es []) env = .ok (.lst (l.map g), true) (backE env1 (wipeE env1 own) own) := by
  rw [lc_map (g := fun d => g (unN d)) hi (by simpa using hz) fun x hx => by
    obtain ⟨p, hp, rfl⟩ := List.mem_map.mp hx
    exact h p hp]
  rw [List.map_map]
  rfl
theorem cmpD_eqs {s w : Str} : cmpD .eq (.str s) (.str w) = some (decide (s = w)) := by
  rw [cmpD_eq (by simp [D.depth]) (by simp [D.depth])]
  simp only [D.eqb]
  by_cases h : s = w <;> simp [h]
theorem cmpD_ins {w : Str} {ys : List Str} : cmpD .isin (.str w) (.tup (ys.map D.str)) = some (decide (w ∈ ys)) := by
  have hd : D.depths (ys.map D.str) ≤ 63 := depths_of fun y hy => by
    obtain ⟨s, _, rfl⟩ := List.mem_map.mp hy
    simp [D.depth]
  show (if _ then _ else _) = _
  rw [if_pos ⟨by simp [D.depth], hd⟩]
  congr 1
  induction ys with
  | nil => simp
  | cons y ys ih =>
    simp only [List.map_cons, List.any_cons, List.mem_cons]
    rw [ih (by simp only [List.map_cons, D.depths] at hd; omega)]
    simp only [D.eqb]
    by_cases h : y = w
    · subst h; simp
    · have h' : ¬ w = y := fun e => h e.symm
      simp [h, h']
theorem any_map_id {α : Type} (f : α → Bool) (l : List α) : (l.map f).any id = l.any f := by simp [List.any_map]
theorem all_map_id {α : Type} (f : α → Bool) (l : List α) : (l.map f).all id = l.all f := by simp [List.all_map]
theorem cmpD_isbl {α : Type} (f : α → Bool) (v : Bool) (l : List α) : cmpD .isin (.bl v) (.lst (l.map fun x => .bl (f x))) = some (l.any fun x => f x == v) := by
  have hd : D.depths (l.map fun x => D.bl (f x)) ≤ 63 := depths_of fun y hy => by
    obtain ⟨s, _, rfl⟩ := List.mem_map.mp hy
    simp [D.depth]
  show (if _ then _ else _) = _
  rw [if_pos ⟨by simp [D.depth], hd⟩, List.any_map]
  rfl
theorem any_true {α : Type} (f : α → Bool) (l : List α) : (l.any fun x => f x == true) = l.any f := by simp
theorem any_false {α : Type} (f : α → Bool) (l : List α) : (!l.any fun x => f x == false) = l.all f := by
  induction l with
  | nil => rfl
  | cons x l ih => simp only [List.any_cons, List.all_cons, ← ih]; cases f x <;> simp
/-- how great the numbers of a place may be, some and all still to come -/
def kz : Nat → Nat
  | 0 => 930
  | 1 => 460
  | _ => 226
theorem nth_app {pl : List Nu} {i : Nat} (h : i < pl.length) : (pl.map nD)[i]? = some (nD (nth pl i)) := map_nth h
theorem wth_nb {pool pl : List Nu} {n : Int} {K : Nat} {d : D} (h : Tq pool n d) (hn : (pl.length : Int) = n) (hK : 110 ≤ K) (hp : ∀ p ∈ pool, Nb 110 p) (hl : ∀ p ∈ pl, Nb K p) : Nb K (wth pl d) := by
  rcases h with ⟨i, rfl, h1, h2⟩ | ⟨p, hm, rfl⟩
  · exact hl _ (nth_mem (by omega))
  · exact (hp p hm).le hK
theorem mul_app {cs pl : List Nu} {a b : Nat} (hc : ∀ p ∈ cs, Nb a p) (hl : ∀ p ∈ pl, Nb b p) (hab : a ≤ b) (h : b * (cs.length + pl.length) < 8900) : ∃ M, Mul M (cs ++ pl) :=
  mul_of (k := b) (fun q hq => (List.mem_append.mp hq).elim (fun h => (hc q h).le hab) fun h => hl q h) (by rw [List.length_append]; exact h)
theorem Tq.is {pool : List Nu} {n : Int} {d : D} (h : Tq pool n d) : (∃ i : Nat, d = .int i ∧ (i : Int) < n) ∨ ∃ p ∈ pool, d = nD p := by
  rcases h with ⟨i, rfl, h1, h2⟩ | ⟨p, hp, rfl⟩
  · exact .inl ⟨i.toNat, by rw [Int.toNat_of_nonneg h1], by omega⟩
  · exact .inr ⟨p, hp, rfl⟩
theorem Tq.depth {pool : List Nu} {n : Int} {d : D} (h : Tq pool n d) : d.depth ≤ 1 := by
  rcases h with ⟨i, rfl, h1, h2⟩ | ⟨q, _, rfl⟩
  · simp [D.depth]
  · rw [nD_depth]; omega
/-- parts of a formula -/
def partsF : D → List D
  | .tup [.str w, x] => if w = "both" ∨ w = "either" then (match x with | .tup ys => ys | _ => []) else [x]
  | _ => []
theorem numsF_parts {pool : List Nu} {q : Nat} {m : Int} {d : D} (h : Fq pool q m d) (k : Nat) : (∀ w a b, d ≠ .tup [.str w, a, b]) → numsF (k + 1) d = (partsF d).flatMap (numsF k) := by
  intro hne
  cases h with
  | yes => rfl
  | cmp _ _ w a b hw ha hb => exact absurd rfl (hne _ _ _)
  | not _ _ x h => simp [numsF, partsF]
  | qu _ _ w x hw h => rcases hw with rfl | rfl <;> simp [numsF, partsF]
  | lst _ _ w ys hw h0 hz h => rcases hw with rfl | rfl <;> simp [numsF, partsF]
theorem Fq.part {pool : List Nu} {q : Nat} {m : Int} {d : D} (h : Fq pool q m d) : ∀ y ∈ partsF d, y.depth < d.depth ∧ ∃ q' m', Fq pool q' m' y := by
  intro y hy
  cases h with
  | yes => cases hy
  | cmp => cases hy
  | not _ _ x h =>
    have : y = x := by simpa [partsF] using hy
    subst this
    exact ⟨by rw [depth_tup, depths_cons, depths_cons]; omega, _, _, h⟩
  | qu _ _ w x hw h =>
    have : y = x := by rcases hw with rfl | rfl <;> simpa [partsF] using hy
    subst this
    exact ⟨by rw [depth_tup, depths_cons, depths_cons]; omega, _, _, h⟩
  | lst _ _ w ys hw h0 hz h =>
    have hy : y ∈ ys := by rcases hw with rfl | rfl <;> simpa [partsF] using hy
    exact ⟨by have := depths_mem hy; rw [depth_tup, depths_cons, depths_cons, depth_tup]; omega, _, _, h y hy⟩
theorem Fq.parts {pool : List Nu} {q : Nat} {m : Int} {d : D} (h : Fq pool q m d) : (partsF d).length ≤ 20 := by
  cases h with
  | yes => simp [partsF]
  | cmp => simp [partsF]
  | not _ _ x h => simp [partsF]
  | qu _ _ w x hw h => rcases hw with rfl | rfl <;> simp [partsF]
  | lst _ _ w ys hw h0 hz h => rcases hw with rfl | rfl <;> simpa [partsF] using hz
end Pi

set_option Elab.async false
set_option linter.all false
set_option maxRecDepth 100000
set_option maxHeartbeats 4000000
/-! PiMf: comprehensions and loops over ranges. -/
namespace Pi
open PySem
theorem rangeD_map (lo : Int) (n : Nat) : rangeD lo n = (List.range n).map fun (i : Nat) => D.int (lo + i) := rfl
theorem lcLoop_each {α : Type} {F : D → Env → Res (Option D)} {env : Env} (f g : α → D) : ∀ (xs : List α) (acc : List D), (∀ x ∈ xs, F (f x) env = .ok (some (g x)) env) → acc.length + xs.length ≤ 100000 → lcLoop F (xs.map f) env acc = .ok (acc ++ xs.map g) env
  | [], acc, _, _ => by simp [lcLoop]
  | x :: xs, acc, h, hl => by
    have h1 := h x List.mem_cons_self
    simp only [List.length_cons] at hl
    have ih := lcLoop_each f g xs (acc ++ [g x]) (fun y hy => h y (List.mem_cons_of_mem _ hy)) (by simp; omega)
    have : acc.length < 100000 := by omega
    simp [lcLoop, h1, this, ih]
theorem lc_of_loop {L : Lib} {elt : E} {own : List Nat} {tg : Tg} {k : ItK} {es : List E} {env env1 : Env} {α : Type} {xs : List α} (f : α → D) (g : α → D) (hi : (args L es env).bind (walkB k) = .ok (xs.map f) env1) (hz : xs.length ≤ 100000)
    (h : ∀ x ∈ xs, ∃ e1 e2 fr, tg.store (f x) false (wipeE env1 own) = some e1 ∧ eval L elt e1 = .ok (g x, fr) e2 ∧ wipeE e2 own = wipeE env1 own) :
    eval L (.lc elt own tg k es []) env = .ok (.lst (xs.map g), true) (backE env1 (wipeE env1 own) own) := by
  refine lc_of hi ((lcLoop_each f g xs [] (fun x hx => ?_) (by simpa using hz)).trans (by simp))
  obtain ⟨e1, e2, fr, h1, h2, h3⟩ := h x hx
  simp [h1, holds, h2, h3]
/-- over a range -/
theorem lc_mapR {L : Lib} {elt : E} {own : List Nat} {tg : Tg} {k : ItK} {es : List E} {env env1 : Env} {lo : Int} {n : Nat} (g : Nat → D) (hi : (args L es env).bind (walkB k) = .ok (rangeD lo n) env1) (hz : n ≤ 100000)
    (h : ∀ i, i < n → ∃ e1 e2 fr, tg.store (.int (lo + i)) false (wipeE env1 own) = some e1 ∧ eval L elt e1 = .ok (g i, fr) e2 ∧ wipeE e2 own = wipeE env1 own) :
    eval L (.lc elt own tg k es []) env = .ok (.lst ((List.range n).map g), true) (backE env1 (wipeE env1 own) own) :=
  lc_of_loop (fun (i : Nat) => D.int (lo + i)) g (by rw [hi, rangeD_map]) (by simpa using hz) fun x hx => h x (List.mem_range.mp hx)
theorem iterD_range2 {a b : Int} (h0 : 0 ≤ a) (hab : a ≤ b) (h : b ≤ 1000000) : iterD .range [.int a, .int b] = some (rangeD a (b - a).toNat) := by
  show (if (rngOk a && rngOk b) = true then some (rangeD a (b - a).toNat) else none) = _
  rw [rngOk_of h0 (by omega), rngOk_of (by omega) h]; rfl
theorem range_walk {L : Lib} {es : List E} {env env1 : Env} {k : Nat} (hk : k ≤ 1000000) (h : args L es env = .ok [.val (.int k)] env1) : (args L es env).bind (walkB .range) = .ok (rangeD 0 k) env1 := by
  rw [h, Res.bind_ok]
  have := iterD_range (i := (k : Int)) (by omega) (by omega)
  rw [Int.toNat_natCast] at this
  exact walkB_of (ds := [.int k]) rfl this
theorem range_walkS {L : Lib} {es : List E} {env env1 : Env} {k i : Nat} (hk : k ≤ 1000000) (h : args L es env = .ok [.slot i] env1) (hi : env1[i]? = some (.sh (.int k))) : (args L es env).bind (walkB .range) = .ok (rangeD 0 k) env1 := by
  rw [h, Res.bind_ok]
  have := iterD_range (i := (k : Int)) (by omega) (by omega)
  rw [Int.toNat_natCast] at this
  have w := walkB_of (xs := [.slot i]) (env := env1) (ds := [.int k]) (by simp [peeks, Arg.peek, hi]) this
  rw [w]
  simp [shares, hi]
/-- a loop over the items of a list of anything -/
theorem Ok_each {α : Type} {f : D → Env → Res Fl} (g : α → D) (I : Nat → Env → Prop) (xs : List α) {env : Env} (h0 : I 0 env) (hs : ∀ j (hj : j < xs.length) env, I j env → Ok (f (g xs[j]) env) fun fl e => (fl = .nx ∨ fl = .ct) ∧ I (j + 1) e) :
    Ok (foLoop f (xs.map g) env) fun fl e => fl = .nx ∧ I xs.length e := by
  have := Ok_loop (f := f) (items := xs.map g) I h0 fun j hj env h => by
    rw [List.getElem_map]
    exact hs j (by simpa using hj) env h
  rwa [List.length_map] at this
theorem take_flat {α : Type} (f : α → List Nu) (xs : List α) {j : Nat} (hj : j < xs.length) : (xs.take (j + 1)).flatMap f = (xs.take j).flatMap f ++ f xs[j] := by
  have e : xs.take (j + 1) = xs.take j ++ [xs[j]] := by rw [List.take_succ, List.getElem?_eq_getElem hj]; rfl
  rw [e, List.flatMap_append]
  simp only [List.flatMap_cons, List.flatMap_nil, List.append_nil]
/-- a loop, by an invariant -/
theorem Ok_foL {L : Lib} {tg : Tg} {k : ItK} {es : List E} {b : List S} {env env1 : Env} {items : List D} (hi : (args L es env).bind (walkB k) = .ok items env1) (I : Nat → Env → Prop) (h0 : I 0 env1)
    (hs : ∀ j (hj : j < items.length) env, I j env → Ok (turnOf L tg b items[j] env) fun fl e => (fl = .nx ∨ fl = .ct) ∧ I (j + 1) e) : Ok (exec L (.fo tg k es b) env) fun fl e => fl = .nx ∧ I items.length e := Ok_fo hi (Ok_loop I h0 hs)
/-- over a range -/
theorem Ok_foR {L : Lib} {tg : Tg} {k : ItK} {es : List E} {b : List S} {env env1 : Env} {lo : Int} {n : Nat} (hi : (args L es env).bind (walkB k) = .ok (rangeD lo n) env1) (I : Nat → Env → Prop) (h0 : I 0 env1)
    (hs : ∀ j, j < n → ∀ env, I j env → Ok (turnOf L tg b (.int (lo + j)) env) fun fl e => (fl = .nx ∨ fl = .ct) ∧ I (j + 1) e) : Ok (exec L (.fo tg k es b) env) fun fl e => fl = .nx ∧ I n e := by
  have := Ok_foL (tg := tg) (b := b) hi I h0 fun j hj env h => by
    rw [rangeD_len] at hj
    have e : (rangeD lo n)[j]'(by rw [rangeD_len]; exact hj) = .int (lo + j) := by simp [rangeD]
    rw [e]
    exact hs j hj env h
  rwa [rangeD_len] at this
/-- over a list of anything -/
theorem Ok_foM {α : Type} {L : Lib} {tg : Tg} {k : ItK} {es : List E} {b : List S} {env env1 : Env} {xs : List α} (g : α → D) (hi : (args L es env).bind (walkB k) = .ok (xs.map g) env1) (I : Nat → Env → Prop) (h0 : I 0 env1)
    (hs : ∀ j (hj : j < xs.length) env, I j env → Ok (turnOf L tg b (g xs[j]) env) fun fl e => (fl = .nx ∨ fl = .ct) ∧ I (j + 1) e) : Ok (exec L (.fo tg k es b) env) fun fl e => fl = .nx ∧ I xs.length e := by
  have := Ok_foL (tg := tg) (b := b) hi I h0 fun j hj env h => by
    rw [List.getElem_map]
    exact hs j (by simpa using hj) env h
  rwa [List.length_map] at this
theorem bin_slot {L : Lib} {o : Bop} {i : Nat} {b : E} {env env1 : Env} {d y : D} {r : D × Bool} {f2 : Bool} (hi : (∃ d, env[i]? = some (.sh d)) ∨ ∃ l d, env[i]? = some (.ow l d)) (hb : ∀ i, b ≠ .var i) (h2 : eval L b env = .ok (y, f2) env1)
    (h1 : (Arg.slot i).peek env1 = some d) (h : opD o d y = some r) : eval L (.bin o (.var i) b) env = .ok r env1 := by
  have e2 : argOf b (eval L b env) env = .ok (.val y) env1 := by
    rw [h2]
    cases b <;> first | rfl | exact absurd rfl (hb _)
  have e1 : argOf (.var i) (eval L (.var i) env) env = .ok (.slot i) env := by
    simp only [argOf]
    rcases hi with ⟨d, hi⟩ | ⟨l, d, hi⟩ <;> rw [hi]
  rw [eval, e1, Res.bind_ok, e2, Res.bind_ok, h1]
  simp only [Arg.peek, Option.bind_some, h, pureR_some]
theorem cutL_nat {α : Type} (xs : List α) (k : Nat) : cutL xs none (some (k : Int)) = xs.take k := by
  unfold cutL
  rw [HT.sIx_none, HT.sIx_nat]
  simp only [List.drop_zero, Nat.sub_zero]
  by_cases h : k ≤ xs.length
  · rw [Nat.min_eq_left h]
  · rw [Nat.min_eq_right (by omega), List.take_of_length_le (Nat.le_refl _), List.take_of_length_le (by omega)]
theorem asg_of {L : Lib} {i : Nat} {e : E} {env env1 env2 : Env} {d : D} {fr : Bool} (h : eval L e env = .ok (d, fr) env1) (h2 : (Tg.name i).store d fr env1 = some env2) : exec L (.asg (.name i) e) env = .ok .nx env2 := by
  rw [exec, h, Res.bind_ok]
  simp only [h2, pureR_some, Res.bind_ok]
theorem cut_to {L : Lib} {a : E} {env env1 : Env} {d : D} {fr : Bool} {k : Int} {r : D × Bool} (ha : ∀ i, a ≠ .var i) (h : eval L a env = .ok (d, fr) env1) (hr : cutD d none (some k) = some r) : eval L (.cut a (.con .non) (.con (.int k))) env = .ok r env1 := by
  have e1 : argOf a (eval L a env) env = .ok (.val d) env1 := by
    rw [h]
    cases a <;> first | rfl | exact absurd rfl (ha _)
  simp only [eval, e1, Res.bind_ok, partOf, Arg.peek, Option.bind_some, hr, pureR_some]
theorem cutL_drop {α : Type} (xs : List α) (k : Nat) : cutL xs (some (k : Int)) none = xs.drop k := by
  unfold cutL
  rw [HT.sIx_none, HT.sIx_nat]
  by_cases h : k ≤ xs.length
  · rw [Nat.min_eq_left h, List.take_of_length_le (by simp)]
  · rw [Nat.min_eq_right (by omega), List.drop_of_length_le (Nat.le_refl _), List.drop_of_length_le (by omega)]
    simp
/-- a comprehension whose parts draw, some items left out -/
theorem Ok_lcF {f : D → Env → Res (Option D)} (I : Nat → List D → Env → Prop) {items : List D} {env : Env} (hz : items.length ≤ 100000) (h0 : I 0 [] env)
    (hs : ∀ j (hj : j < items.length) acc env, acc.length ≤ j → I j acc env → Ok (f items[j] env) fun o e => (∃ d, o = some d ∧ I (j + 1) (acc ++ [d]) e) ∨ (o = none ∧ I (j + 1) acc e)) : Ok (lcLoop f items env []) fun ds e => ds.length ≤ items.length ∧ I items.length ds e := by
  have key : ∀ (xs : List D) (k : Nat) (acc : List D) (env : Env), acc.length ≤ k → k + xs.length ≤ 100000 → I k acc env → (∀ j (hj : j < xs.length) acc' env, acc'.length ≤ k + j → I (k + j) acc' env → Ok (f xs[j] env) fun o e => (∃ d, o = some d ∧ I (k + j + 1) (acc' ++ [d]) e) ∨ (o = none ∧ I (k + j + 1) acc' e)) →
      Ok (lcLoop f xs env acc) fun ds e => ds.length ≤ k + xs.length ∧ I (k + xs.length) ds e := by
    intro xs
    induction xs with
    | nil => intro k acc env hl _ h _; simp only [lcLoop, Ok_ok]; exact ⟨hl, h⟩
    | cons x xs ih =>
      intro k acc env hl hz h H
      simp only [List.length_cons] at hz
      simp only [lcLoop, Ok_bind]
      have H' : ∀ j (hj : j < xs.length) acc' env, acc'.length ≤ k + 1 + j → I (k + 1 + j) acc' env → Ok (f xs[j] env) fun o e => (∃ d, o = some d ∧ I (k + 1 + j + 1) (acc' ++ [d]) e) ∨ (o = none ∧ I (k + 1 + j + 1) acc' e) := fun j hj acc' env hl' hI' => by
        have := H (j + 1) (by simp; omega) acc' env (by omega) (by rw [show k + (j + 1) = k + 1 + j by omega]; exact hI')
        simpa [show k + (j + 1) + 1 = k + 1 + j + 1 by omega] using this
      refine (H 0 (by simp) acc env (by omega) h).mono fun o e ho => ?_
      rcases ho with ⟨d, rfl, hI⟩ | ⟨rfl, hI⟩
      · simp only [if_pos (show acc.length < 100000 by omega)]
        have := ih (k + 1) (acc ++ [d]) e (by simp; omega) (by omega) hI H'
        simpa [show k + (xs.length + 1) = k + 1 + xs.length by omega] using this
      · have := ih (k + 1) acc e (by omega) (by omega) hI H'
        simpa [show k + (xs.length + 1) = k + 1 + xs.length by omega] using this
  have := key items 0 [] env (by simp) (by simpa using hz) h0 fun j hj acc env hl h => by
    simp only [Nat.zero_add] at hl h ⊢
    exact hs j hj acc env hl h
  simpa using this
end Pi

set_option Elab.async false
set_option linter.all false
set_option maxRecDepth 100000
set_option maxHeartbeats 4000000
/-! PiMg: relations of stretches. -/
namespace Pi
open PySem
theorem tri {p q : Nu} (hp : Nz p) (hq : Nz q) : (lt2 p q = true ∧ p ≠ q ∧ lt2 q p = false) ∨ (p = q ∧ lt2 p q = false ∧ lt2 q p = false) ∨ (lt2 q p = true ∧ p ≠ q ∧ lt2 p q = false) := by
  by_cases h : p = q
  · subst h; exact .inr (.inl ⟨rfl, lt2_irrefl, lt2_irrefl⟩)
  · rcases lt2_total hp hq h with z | z
    · exact .inl ⟨z, h, lt2_asymm z⟩
    · exact .inr (.inr ⟨z, h, lt2_asymm z⟩)
theorem lt2_ne {p q : Nu} (h : lt2 p q = true) : p ≠ q := fun e => by subst e; rw [lt2_irrefl] at h; cases h
def wy (x y : Nu) : Int := (if lt2 y x = true then 1 else 0) - (if lt2 x y = true then 1 else 0)
def met (x y : Int) : Int := if x = -1 then (if y = -1 then 2 else if y = 0 then 7 else 8) else if x = 0 then (if y = -1 then 3 else if y = 0 then 6 else 9) else (if y = -1 then 4 else if y = 0 then 5 else 10)
def rel (b e l h : Nu) : Int := if lt2 l e = false then (if e = l then 1 else 0) else if lt2 b h = false then (if b = h then 11 else 12) else met (wy b l) (wy e h)
theorem wy_3 (p q : Nu) : wy p q = -1 ∨ wy p q = 0 ∨ wy p q = 1 := by
  unfold wy
  by_cases h1 : lt2 q p = true <;> by_cases h2 : lt2 p q = true <;> simp [h1, h2]
def metL : List (List Int × Int) := [([-1, -1], 2), ([0, -1], 3), ([1, -1], 4), ([1, 0], 5), ([0, 0], 6), ([-1, 0], 7), ([-1, 1], 8), ([0, 1], 9), ([1, 1], 10)]
theorem met_dic (b l e h : Nu) : dicD metL (.tup [.int (wy b l), .int (wy e h)]) = some (.int (met (wy b l) (wy e h)), false) := by
  rcases wy_3 b l with h1 | h1 | h1 <;> rcases wy_3 e h with h2 | h2 | h2 <;> rw [h1, h2] <;> rfl
def truths (b e l h : Nu) : List Bool := [lt2 e l, decide (e = l), lt2 b l && (lt2 l e && lt2 e h), decide (b = l) && lt2 e h, lt2 l b && lt2 e h, lt2 l b && decide (e = h), decide (b = l) && decide (e = h), lt2 b l && decide (e = h), lt2 b l && lt2 h e, decide (b = l) && lt2 h e, lt2 l b && (lt2 b h && lt2 h e), decide (b = h), lt2 h b]
section
variable {b e l h : Nu} (hb : Nz b) (he : Nz e) (hl : Nz l) (hh : Nz h) (h1 : lt2 b e = true) (h2 : lt2 l h = true)
include hb he hl hh h1 h2
theorem truths_idx : (truths b e l h).findIdx? (fun x => x == true) = some (rel b e l h).toNat ∧ 0 ≤ rel b e l h := by
  rcases tri he hl with ⟨t1, t2, t3⟩ | ⟨rfl, t2, t3⟩ | ⟨t1, t2, t3⟩
  · simp [truths, rel, t1, t2, t3, List.findIdx?_cons]
  · simp [truths, rel, t2, List.findIdx?_cons]
  · rcases tri hb hh with ⟨u1, u2, u3⟩ | ⟨rfl, u2, u3⟩ | ⟨u1, u2, u3⟩
    · rcases tri hb hl with ⟨v1, v2, v3⟩ | ⟨rfl, v2, v3⟩ | ⟨v1, v2, v3⟩ <;> rcases tri he hh with ⟨w1, w2, w3⟩ | ⟨rfl, w2, w3⟩ | ⟨w1, w2, w3⟩ <;> simp [truths, rel, met, wy, List.findIdx?_cons, *]
    · have a1 := lt2_asymm h2
      have a2 := lt2_asymm h1
      have a3 : l ≠ b := lt2_ne h2
      have a4 : b ≠ e := lt2_ne h1
      have a3' : b ≠ l := fun z => a3 z.symm
      have a4' : e ≠ b := fun z => a4 z.symm
      simp [truths, rel, List.findIdx?_cons, t1, t2, t3, u2, a1, a2, a3, a4, a3', a4', h1, h2]
    · have a1 := lt2_trans hh.pos hb.pos he.pos u1 h1
      have a2 := lt2_trans hl.pos hh.pos hb.pos h2 u1
      have a3 := lt2_asymm a1
      have a4 := lt2_asymm a2
      have a5 : e ≠ h := fun z => lt2_ne a1 z.symm
      have a6 : b ≠ l := fun z => lt2_ne a2 z.symm
      simp [truths, rel, List.findIdx?_cons, t1, t2, t3, u1, u2, u3, a1, a2, a3, a4, a5, a6]
theorem rel_turn : rel l h b e = 12 - rel b e l h := by
  rcases tri he hl with ⟨t1, t2, t3⟩ | ⟨rfl, t2, t3⟩ | ⟨t1, t2, t3⟩
  · have a1 := lt2_trans hb.pos he.pos hl.pos h1 t1
    have a2 := lt2_trans hb.pos hl.pos hh.pos a1 h2
    have t2' : l ≠ e := fun z => t2 z.symm
    simp [rel, t1, t2, t2', t3, a2]
  · have a2 := lt2_trans hb.pos he.pos hh.pos h1 h2
    simp [rel, t2, a2]
  · rcases tri hb hh with ⟨u1, u2, u3⟩ | ⟨rfl, u2, u3⟩ | ⟨u1, u2, u3⟩
    · rcases tri hb hl with ⟨v1, v2, v3⟩ | ⟨rfl, v2, v3⟩ | ⟨v1, v2, v3⟩ <;> rcases tri he hh with ⟨w1, w2, w3⟩ | ⟨rfl, w2, w3⟩ | ⟨w1, w2, w3⟩ <;> simp [rel, met, wy, *]
    · simp [rel, t1, u2]
    · have u2' : h ≠ b := fun z => u2 z.symm
      simp [rel, t1, u1, u2, u2', u3]
end
theorem rel_self {b e : Nu} (h : lt2 b e = true) : rel b e b e = 6 := by simp [rel, h, wy, met, lt2_irrefl]
/-- a growing way -/
theorem rel_map {m : Nu → Nu} {b e l h : Nu} (hm : ∀ x ∈ [b, e, l, h], ∀ y ∈ [b, e, l, h], lt2 (m x) (m y) = lt2 x y ∧ (m x = m y ↔ x = y)) : rel (m b) (m e) (m l) (m h) = rel b e l h := by
  have f : ∀ x y, x ∈ [b, e, l, h] → y ∈ [b, e, l, h] → lt2 (m x) (m y) = lt2 x y ∧ (m x = m y ↔ x = y) := fun x y hx hy => hm x hx y hy
  have a1 := f l e (by simp) (by simp)
  have a2 := f e l (by simp) (by simp)
  have a3 := f b h (by simp) (by simp)
  have a4 := f l b (by simp) (by simp)
  have a5 := f b l (by simp) (by simp)
  have a6 := f h e (by simp) (by simp)
  have a7 := f e h (by simp) (by simp)
  unfold rel wy
  rw [a1.1, a3.1, a4.1, a5.1, a6.1, a7.1]
  simp only [a2.2, a3.2]
theorem lowN_lt {a b c d : Int} (hb : 0 < b) (hd : 0 < d) : lt2 (lowN a b) (lowN c d) = decide (a * d < c * b) := by
  obtain ⟨a', b', e1, e2, e3, e4, e5, _⟩ := gcdI_split (t := a) hb
  obtain ⟨c', d', f1, f2, f3, f4, f5, _⟩ := gcdI_split (t := c) hd
  have g1 := gcdI_pos (t := a) hb
  have g2 := gcdI_pos (t := c) hd
  simp only [lt2, lowN, e3, e4, f3, f4]
  generalize gcdI a b = g at *
  generalize gcdI c d = k at *
  subst e1 e2 f1 f2
  have h1 : g * a' * (k * d') = (g * k) * (a' * d') := by rw [Int.mul_assoc, Int.mul_assoc]; congr 1; rw [← Int.mul_assoc, Int.mul_comm a' k, Int.mul_assoc]
  have h2 : k * c' * (g * b') = (g * k) * (c' * b') := by rw [Int.mul_comm g k, Int.mul_assoc, Int.mul_assoc]; congr 1; rw [← Int.mul_assoc, Int.mul_comm c' g, Int.mul_assoc]
  rw [h1, h2]
  have gk : 0 < g * k := Int.mul_pos g1 g2
  by_cases h : a' * d' < c' * b'
  · simp [h, Int.mul_lt_mul_of_pos_left h gk]
  · have : ¬ (g * k * (a' * d') < g * k * (c' * b')) := fun z => h (Int.lt_of_mul_lt_mul_left z (Int.le_of_lt gk))
    simp [h, this]
def mvd (p : Nu) : Nu := lowN (3 * p.1 + 2 * p.2) (5 * p.2)
theorem mvd_nz {p : Nu} (h : Nz p) : Nz (mvd p) := lowN_nz (by have := h.pos; omega)
theorem mvd_lt {p q : Nu} (hp : Nz p) (hq : Nz q) : lt2 (mvd p) (mvd q) = lt2 p q := by
  have h1 := hp.pos
  have h2 := hq.pos
  rw [mvd, mvd, lowN_lt (by omega) (by omega)]
  unfold lt2
  have e1 : (3 * p.1 + 2 * p.2) * (5 * q.2) = 15 * (p.1 * q.2) + 10 * (p.2 * q.2) := by
    rw [Int.add_mul, Int.mul_assoc, Int.mul_assoc, ← Int.mul_assoc p.1, ← Int.mul_assoc p.2, Int.mul_comm p.1 5, Int.mul_comm p.2 5, Int.mul_assoc, Int.mul_assoc]; omega
  have e2 : (3 * q.1 + 2 * q.2) * (5 * p.2) = 15 * (q.1 * p.2) + 10 * (p.2 * q.2) := by
    rw [Int.add_mul, Int.mul_assoc, Int.mul_assoc, ← Int.mul_assoc q.1, ← Int.mul_assoc q.2, Int.mul_comm q.1 5, Int.mul_comm q.2 5, Int.mul_assoc, Int.mul_assoc, Int.mul_comm q.2 p.2]; omega
  rw [e1, e2]
  by_cases h : p.1 * q.2 < q.1 * p.2
  · simp [h] <;> omega
  · simp [h] <;> omega
theorem mvd_eq {p q : Nu} (hp : Nz p) (hq : Nz q) : mvd p = mvd q ↔ p = q := by
  refine ⟨fun e => ?_, fun e => by rw [e]⟩
  rcases tri hp hq with ⟨t, _⟩ | ⟨t, _⟩ | ⟨t, _⟩
  · have := mvd_lt hp hq; rw [t, e, lt2_irrefl] at this; cases this
  · exact t
  · have := mvd_lt hq hp; rw [t, e, lt2_irrefl] at this; cases this
theorem rel_mvd {b e l h : Nu} (hb : Nz b) (he : Nz e) (hl : Nz l) (hh : Nz h) : rel (mvd b) (mvd e) (mvd l) (mvd h) = rel b e l h := by
  have nz : ∀ x ∈ [b, e, l, h], Nz x := fun x hx => by
    simp only [List.mem_cons, List.not_mem_nil, or_false] at hx
    rcases hx with rfl | rfl | rfl | rfl <;> assumption
  exact rel_map fun x hx y hy => ⟨mvd_lt (nz x hx) (nz y hy), mvd_eq (nz x hx) (nz y hy)⟩
theorem mvd_nb {p : Nu} (h : Nb 226 p) : Nb 232 (mvd p) ∧ 0 < 5 * p.2 ∧ (3 * p.1 + 2 * p.2).natAbs < 2 ^ 232 ∧ (5 * p.2).natAbs < 2 ^ 232 := by
  have h1 := h.sz.ta
  have h2 := h.sz.tb
  have h3 := h.nz.pos
  have a1 : (3 * p.1 + 2 * p.2).natAbs < 2 ^ 232 := by omega
  have a2 : (5 * p.2).natAbs < 2 ^ 232 := by omega
  have a3 : 0 < 5 * p.2 := by omega
  exact ⟨⟨lowN_nz a3, lowN_sz a3 a1 a2⟩, a3, a1, a2⟩
theorem srt_two {p q : Nu} (hp : Nz p) (hq : Nz q) : (p = q ∧ srt [p, q] = [p]) ∨ ∃ x y, srt [p, q] = [x, y] ∧ lt2 x y = true ∧ (x = p ∨ x = q) ∧ (y = p ∨ y = q) := by
  have nz : ∀ r ∈ [p, q], Nz r := fun r hr => by
    simp only [List.mem_cons, List.not_mem_nil, or_false] at hr
    rcases hr with rfl | rfl <;> assumption
  have std2 : ∀ x y, lt2 x y = true → Nz x → Nz y → Std [x, y] := fun x y h hx hy => ⟨fun r hr => by
    simp only [List.mem_cons, List.not_mem_nil, or_false] at hr
    rcases hr with rfl | rfl <;> assumption, by simp [h]⟩
  rcases tri hp hq with ⟨t, _⟩ | ⟨t, _⟩ | ⟨t, _⟩
  · exact .inr ⟨p, q, (srt_std nz).eq (std2 p q t hp hq) fun r => srt_mem, t, .inl rfl, .inr rfl⟩
  · subst t
    refine .inl ⟨rfl, (srt_std nz).eq ⟨fun r hr => by rw [List.mem_singleton] at hr; subst hr; exact hp, by simp⟩ fun r => by rw [srt_mem]; simp⟩
  · exact .inr ⟨q, p, (srt_std nz).eq (std2 q p t hq hp) fun r => by rw [srt_mem]; simp only [List.mem_cons, List.not_mem_nil, or_false]; exact or_comm, t, .inr rfl, .inl rfl⟩
theorem nz_next {p : Nu} (h : Nz p) : Nz ((p.1 + p.2, p.2) : Nu) ∧ lt2 p (p.1 + p.2, p.2) = true := by
  have h1 := h.one
  have h2 := h.pos
  refine ⟨⟨h2, ?_⟩, ?_⟩
  · show ((Int.gcd (p.1 + p.2) p.2 : Nat) : Int) = 1
    have e : Int.gcd (p.1 + p.2) p.2 = Int.gcd p.1 p.2 := by
      have := Int.gcd_add_mul_right_left (m := p.2) (n := p.1) (k := 1)
      rwa [Int.one_mul] at this
    rw [e]; exact h1
  · rw [lt2_iff]
    show p.1 * p.2 < (p.1 + p.2) * p.2
    rw [Int.add_mul]
    have := Int.mul_pos h2 h2
    omega
end Pi

set_option Elab.async false
set_option linter.all false
set_option maxRecDepth 100000
set_option maxHeartbeats 4000000
/-! the text of law_k83_stretches_and_relations: its defs as the interpreter has them (printed by wip/pi.py) -/
namespace Lk83
open Pi
/-- 0: is_integer(thing) -/
def b0 : List S := [.ret (.and (.isin (.var 0) [.int]) (.not (.isin (.var 0) [.bool])))]
def f0 : Fn := ⟨1, 1, [true], b0⟩
abbrev b_is_integer := b0
abbrev f_is_integer := f0
/-- 1: is_from(low, thing) -/
def b1 : List S := [.ret (.and (.call 0 [.var 1] [0]) (.cmp .ge (.var 1) (.var 0)))]
def f1 : Fn := ⟨2, 2, [true, true], b1⟩
abbrev b_is_from := b1
abbrev f_is_from := f1
/-- 2: is_below(many, thing) -/
def b2 : List S := [.ret (.and (.call 1 [.con (.int 0), .var 1] [0, 1]) (.cmp .lt (.var 1) (.var 0)))]
def f2 : Fn := ⟨2, 2, [true, true], b2⟩
abbrev b_is_below := b2
abbrev f_is_below := f2
/-- 3: is_tuple(many, thing) -/
def b3 : List S := [.ret (.and (.isin (.var 1) [.tuple]) (.or (.cmp .is (.var 0) (.con (.non))) (.cmp .eq (.bi .len [.var 1]) (.var 0))))]
def f3 : Fn := ⟨2, 2, [true, true], b3⟩
abbrev b_is_tuple := b3
abbrev f_is_tuple := f3
/-- 4: is_ascending(members) -/
def b4 : List S := [.ret (.bi .all [.lc (.cmp .lt (.var 1) (.var 2)) [1, 2] (.tup [1, 2]) .zip [.var 0, .cut (.var 0) (.con (.int 1)) (.con .non)] []])]
def f4 : Fn := ⟨1, 3, [true], b4⟩
abbrev b_is_ascending := b4
abbrev f_is_ascending := f4
/-- 5: is_number(value) -/
def b5 : List S := [.ite (.or (.not (.call 3 [.con (.int 2), .var 0] [0, 1])) (.or (.not (.call 0 [.ix (.var 0) (.con (.int 0))] [0])) (.not (.call 1 [.con (.int 1), .ix (.var 0) (.con (.int 1))] [0, 1])))) [.ret (.con (.bl false))] [], .ret (.cmp .eq (.bi .gcd [.ix (.var 0) (.con (.int 0)), .ix (.var 0) (.con (.int 1))]) (.con (.int 1)))]
def f5 : Fn := ⟨1, 1, [true], b5⟩
abbrev b_is_number := b5
abbrev f_is_number := f5
/-- 6: ahead(number, other) -/
def b6 : List S := [.ret (.cmp .lt (.bin .mul (.ix (.var 0) (.con (.int 0))) (.ix (.var 1) (.con (.int 1)))) (.bin .mul (.ix (.var 1) (.con (.int 0))) (.ix (.var 0) (.con (.int 1)))))]
def f6 : Fn := ⟨2, 2, [true, true], b6⟩
abbrev b_ahead := b6
abbrev f_ahead := f6
/-- 7: is_stretch_in(thing) -/
def b7 : List S := [.ret (.and (.call 3 [.con (.int 2), .var 0] [0, 1]) (.and (.call 5 [.ix (.var 0) (.con (.int 0))] [0]) (.and (.call 5 [.ix (.var 0) (.con (.int 1))] [0]) (.call 6 [.ix (.var 0) (.con (.int 0)), .ix (.var 0) (.con (.int 1))] [0, 1]))))]
def f7 : Fn := ⟨1, 1, [true], b7⟩
abbrev b_is_stretch_in := b7
abbrev f_is_stretch_in := f7
/-- 8: is_stretch(value) -/
def b8 : List S := [.ret (.call 7 [.var 0] [0])]
def f8 : Fn := ⟨1, 1, [true], b8⟩
abbrev b_is_stretch := b8
abbrev f_is_stretch := f8
/-- 9: check_stretch(thing) -/
def b9 : List S := [.ite (.not (.call 7 [.var 0] [0])) [.raise 1] []]
def f9 : Fn := ⟨1, 1, [true], b9⟩
abbrev b_check_stretch := b9
abbrev f_check_stretch := f9
/-- 10: way_of_two(number, other) -/
def b10 : List S := [.ret (.bin .sub (.bi .int [.call 6 [.var 1, .var 0] [0, 1]]) (.bi .int [.call 6 [.var 0, .var 1] [0, 1]]))]
def f10 : Fn := ⟨2, 2, [true, true], b10⟩
abbrev b_way_of_two := b10
abbrev f_way_of_two := f10
/-- 11: relation_in(one, two) -/
def b11 : List S := [.ite (.not (.call 6 [.ix (.var 1) (.con (.int 0)), .ix (.var 0) (.con (.int 1))] [0, 1])) [.ret (.ite (.cmp .eq (.ix (.var 0) (.con (.int 1))) (.ix (.var 1) (.con (.int 0)))) (.con (.int 1)) (.con (.int 0)))] [], .ite (.not (.call 6 [.ix (.var 0) (.con (.int 0)), .ix (.var 1) (.con (.int 1))] [0, 1])) [.ret (.ite (.cmp .eq (.ix (.var 0) (.con (.int 0))) (.ix (.var 1) (.con (.int 1)))) (.con (.int 11)) (.con (.int 12)))] [], .ret (.gdx 0 (.tup [.call 10 [.ix (.var 0) (.con (.int 0)), .ix (.var 1) (.con (.int 0))] [0, 1], .call 10 [.ix (.var 0) (.con (.int 1)), .ix (.var 1) (.con (.int 1))] [0, 1]]))]
def f11 : Fn := ⟨2, 2, [true, true], b11⟩
abbrev b_relation_in := b11
abbrev f_relation_in := f11
/-- 12: relation_of(stretch, other_stretch) -/
def b12 : List S := [.expr (.call 9 [.var 0] [0]), .expr (.call 9 [.var 1] [0]), .ret (.call 11 [.var 0, .var 1] [0, 1])]
def f12 : Fn := ⟨2, 2, [true, true], b12⟩
abbrev b_relation_of := b12
abbrev f_relation_of := f12
/-- 13: is_lot(thing) -/
def b13 : List S := [.ret (.and (.call 3 [.con (.non), .var 0] [0, 1]) (.and (.bi .all [.lc (.call 2 [.glo 0, .var 1] [0, 1]) [1] (.name 1) .seq [.var 0] []]) (.call 4 [.var 0] [0])))]
def f13 : Fn := ⟨1, 2, [true], b13⟩
abbrev b_is_lot := b13
abbrev f_is_lot := f13
/-- 14: check_lot(thing) -/
def b14 : List S := [.ite (.not (.call 13 [.var 0] [0])) [.raise 2] []]
def f14 : Fn := ⟨1, 1, [true], b14⟩
abbrev b_check_lot := b14
abbrev f_check_lot := f14
/-- 15: turned_lot(lot) -/
def b15 : List S := [.expr (.call 14 [.var 0] [0]), .ret (.bi .tuple [.lc (.bin .sub (.bin .sub (.glo 0) (.con (.int 1))) (.var 1)) [1] (.name 1) .seq [.rev (.var 0)] []])]
def f15 : Fn := ⟨1, 2, [true], b15⟩
abbrev b_turned_lot := b15
abbrev f_turned_lot := f15
/-- 16: _law_source(script, at) -/
def b16 : List S := [.asg (.name 2) (.ite (.cmp .lt (.var 1) (.bi .len [.var 0])) (.bi .int [.bi .abs [.ix (.var 0) (.var 1)]]) (.bin .add (.bin .add (.bin .mul (.con (.int 73)) (.var 1)) (.con (.int 46))) (.bin .mod (.bi .int [.bin .mul (.bi .sum [.cut (.var 0) (.con .non) (.con (.int 63))]) (.con (.int 7919))]) (.bin .add (.bin .pow (.con (.int 10)) (.con (.int 9))) (.con (.int 7)))))), .asg (.name 2) (.bin .mod (.bi .int [.var 2]) (.bin .mul (.bin .mul (.bin .mul (.bin .pow (.con (.int 10)) (.con (.int 60))) (.bin .pow (.con (.int 10)) (.con (.int 60)))) (.bin .pow (.con (.int 10)) (.con (.int 60)))) (.bin .pow (.con (.int 10)) (.con (.int 60))))), .ret (.lst [.ite (.cmp .ge (.var 2) (.bin .pow (.con (.int 10)) (.con (.int 18)))) (.var 2) (.con (.int 0)), .bin .mod (.bi .int [.var 2]) (.bin .add (.bin .pow (.con (.int 10)) (.con (.int 18))) (.con (.int 9))), .bin .mul (.con (.int 5)) (.var 1)])]
def f16 : Fn := ⟨2, 3, [true, true], b16⟩
abbrev b_l_source := b16
abbrev f_l_source := f16
/-- 17: _law_draw(source, many) -/
def b17 : List S := [.ite (.cmp .gt (.ix (.var 0) (.con (.int 0))) (.con (.int 0))) [.asg (.name 2) (.bin .mod (.bi .int [.ix (.var 0) (.con (.int 0))]) (.var 1)), .set 0 (.con (.int 0)) (.bin .fdiv (.ix (.var 0) (.con (.int 0))) (.var 1)), .ret (.var 2)] [], .set 0 (.con (.int 2)) (.bin .add (.ix (.var 0) (.con (.int 2))) (.con (.int 1))), .asg (.name 3) (.bin .mod (.bi .int [.bin .add (.bin .mul (.bin .add (.bin .add (.ix (.var 0) (.con (.int 1))) (.bin .mul (.con (.int 104711)) (.ix (.var 0) (.con (.int 2))))) (.con (.int 17))) (.con (.int 92821))) (.con (.int 401))]) (.con (.int 2147483477))), .asg (.name 3) (.bin .mod (.bi .int [.bin .add (.bin .mul (.var 3) (.var 3)) (.bin .mul (.con (.int 23)) (.ix (.var 0) (.con (.int 2))))]) (.con (.int 2147483399))), .ret (.bin .mod (.bi .int [.bin .fdiv (.var 3) (.con (.int 29))]) (.var 1))]
def f17 : Fn := ⟨2, 4, [true, true], b17⟩
abbrev b_l_draw := b17
abbrev f_l_draw := f17
/-- 18: _law_pick(source, things) -/
def b18 : List S := [.ret (.ix (.var 1) (.call 17 [.var 0, .bi .len [.var 1]] [0, 1]))]
def f18 : Fn := ⟨2, 2, [true, true], b18⟩
abbrev b_l_pick := b18
abbrev f_l_pick := f18
/-- 19: _law_same(found, due) -/
def b19 : List S := [.ite (.isin (.var 1) [.tuple, .list]) [.ite (.or (.not (.isin (.var 0) [.tuple, .list])) (.or (.cmp .ne (.isin (.var 0) [.tuple]) (.isin (.var 1) [.tuple])) (.cmp .ne (.bi .len [.var 0]) (.bi .len [.var 1])))) [.ret (.con (.bl false))] [], .ret (.bi .all [.lc (.call 19 [.ix (.var 0) (.var 2), .ix (.var 1) (.var 2)] [0, 1]) [2] (.name 2) .range [.bi .len [.var 1]] []])] [], .ite (.cmp .is (.var 1) (.con (.non))) [.ret (.cmp .is (.var 0) (.con (.non)))] [], .ite (.isin (.var 1) [.bool]) [.ret (.and (.isin (.var 0) [.bool]) (.cmp .eq (.var 0) (.var 1)))] [], .ite (.isin (.var 1) [.str]) [.ret (.and (.isin (.var 0) [.str]) (.cmp .eq (.var 0) (.var 1)))] [], .ret (.and (.isin (.var 0) [.int]) (.and (.not (.isin (.var 0) [.bool])) (.cmp .eq (.var 0) (.var 1))))]
def f19 : Fn := ⟨2, 3, [true, true], b19⟩
abbrev b_l_same := b19
abbrev f_l_same := f19
/-- 20: _law_ahead(one, other) -/
def b20 : List S := [.ret (.cmp .lt (.bin .mul (.ix (.var 0) (.con (.int 0))) (.ix (.var 1) (.con (.int 1)))) (.bin .mul (.ix (.var 1) (.con (.int 0))) (.ix (.var 0) (.con (.int 1)))))]
def f20 : Fn := ⟨2, 2, [true, true], b20⟩
abbrev b_l_ahead := b20
abbrev f_l_ahead := f20
/-- 21: _law_low(top, bottom) -/
def b21 : List S := [.par [2, 3] [.bi .abs [.var 0], .var 1], .fo (.name 4) .range [.con (.int 500)] [.ite (.cmp .gt (.var 3) (.con (.int 0))) [.par [2, 3] [.var 3, .bin .mod (.bi .int [.var 2]) (.var 3)]] []], .ret (.tup [.bin .fdiv (.var 0) (.var 2), .bin .fdiv (.var 1) (.var 2)])]
def f21 : Fn := ⟨2, 5, [true, true], b21⟩
abbrev b_l_low := b21
abbrev f_l_low := f21
/-- 22: _law_sorted(numbers) -/
def b22 : List S := [.asg (.name 1) (.lst []), .fo (.name 2) .seq [.var 0] [.ite (.cmp .notin (.var 2) (.var 1)) [.asg (.name 3) (.bi .len [.lc (.var 4) [4] (.name 4) .seq [.var 1] [.call 20 [.var 4, .var 2] [0, 1]]]), .asg (.name 1) (.bin .add (.bin .add (.cut (.var 1) (.con .non) (.var 3)) (.lst [.var 2])) (.cut (.var 1) (.var 3) (.con .non)))] []], .ret (.var 1)]
def f22 : Fn := ⟨1, 5, [true], b22⟩
abbrev b_l_sorted := b22
abbrev f_l_sorted := f22
/-- 23: _law_number(source) -/
def b23 : List S := [.par [1, 2] [.call 17 [.var 0, .con (.int 8)] [0, 1], .bin .sub (.call 17 [.var 0, .con (.int 11)] [0, 1]) (.con (.int 5))], .ite (.cmp .lt (.var 1) (.con (.int 4))) [.ret (.tup [.var 2, .con (.int 1)])] [], .ite (.cmp .lt (.var 1) (.con (.int 6))) [.ret (.call 21 [.bin .add (.bin .mul (.con (.int 2)) (.var 2)) (.con (.int 1)), .bin .add (.con (.int 1)) (.call 17 [.var 0, .con (.int 6)] [0, 1])] [0, 1])] [], .asg (.name 3) (.bin .mul (.bin .add (.bin .pow (.con (.int 10)) (.con (.int 29))) (.con (.int 7))) (.bin .sub (.bin .mul (.con (.int 2)) (.call 17 [.var 0, .con (.int 2)] [0, 1])) (.con (.int 1)))), .ret (.ite (.cmp .eq (.var 1) (.con (.int 6))) (.tup [.bin .add (.var 3) (.var 2), .con (.int 1)]) (.call 21 [.bin .add (.bin .mul (.con (.int 3)) (.var 3)) (.var 2), .con (.int 3)] [0, 1]))]
def f23 : Fn := ⟨1, 4, [true], b23⟩
abbrev b_l_number := b23
abbrev f_l_number := f23
/-- 24: _law_constants(source, many) -/
def b24 : List S := [.ret (.bi .tuple [.call 22 [.lc (.call 23 [.var 0] [0]) [2] (.name 2) .range [.call 17 [.var 0, .bin .add (.var 1) (.con (.int 1))] [0, 1]] []] [0]])]
def f24 : Fn := ⟨2, 3, [true, true], b24⟩
abbrev b_l_constants := b24
abbrev f_l_constants := f24
/-- 25: _law_between(one, other, at, many) -/
def b25 : List S := [.asg (.name 4) (.bin .add (.bin .mul (.bin .mul (.ix (.var 0) (.con (.int 0))) (.ix (.var 1) (.con (.int 1)))) (.bin .sub (.var 3) (.var 2))) (.bin .mul (.bin .mul (.ix (.var 1) (.con (.int 0))) (.ix (.var 0) (.con (.int 1)))) (.var 2))), .ret (.call 21 [.var 4, .bin .mul (.bin .mul (.ix (.var 0) (.con (.int 1))) (.ix (.var 1) (.con (.int 1)))) (.var 3)] [0, 1])]
def f25 : Fn := ⟨4, 5, [true, true, true, true], b25⟩
abbrev b_l_between := b25
abbrev f_l_between := f25
/-- 26: _law_row(constants, many) -/
def b26 : List S := [.ite (.cmp .eq (.var 0) (.tup [])) [.ret (.lc (.tup [.var 7, .con (.int 1)]) [7] (.name 7) .range [.var 1] [])] [], .par [2, 3, 4] [.ix (.var 0) (.con (.int 0)), .ix (.var 0) (.neg (.con (.int 1))), .lst []], .ext 4 (.lc (.tup [.bin .sub (.ix (.var 2) (.con (.int 0))) (.bin .mul (.bin .sub (.var 1) (.var 7)) (.ix (.var 2) (.con (.int 1)))), .ix (.var 2) (.con (.int 1))]) [7] (.name 7) .range [.var 1] []), .fo (.tup [5, 6]) .enum [.var 0] [.app 4 (.var 6), .ite (.cmp .lt (.bin .add (.var 5) (.con (.int 1))) (.bi .len [.var 0])) [.ext 4 (.lc (.call 25 [.var 6, .ix (.var 0) (.bin .add (.var 5) (.con (.int 1))), .bin .add (.var 7) (.con (.int 1)), .bin .add (.var 1) (.con (.int 1))] [0, 1, 2, 3]) [7] (.name 7) .range [.var 1] [])] []], .ret (.bin .add (.var 4) (.lc (.tup [.bin .add (.ix (.var 3) (.con (.int 0))) (.bin .mul (.bin .add (.var 7) (.con (.int 1))) (.ix (.var 3) (.con (.int 1)))), .ix (.var 3) (.con (.int 1))]) [7] (.name 7) .range [.var 1] []))]
def f26 : Fn := ⟨2, 8, [true, true], b26⟩
abbrev b_l_row := b26
abbrev f_l_row := f26
/-- 27: _law_relation(one, two) -/
def b27 : List S := [.par [2, 3, 4, 5] [.ix (.var 0) (.con (.int 0)), .ix (.var 0) (.con (.int 1)), .ix (.var 1) (.con (.int 0)), .ix (.var 1) (.con (.int 1))], .asg (.name 6) (.lst [.call 20 [.var 3, .var 4] [0, 1], .cmp .eq (.var 3) (.var 4), .and (.call 20 [.var 2, .var 4] [0, 1]) (.and (.call 20 [.var 4, .var 3] [0, 1]) (.call 20 [.var 3, .var 5] [0, 1])), .and (.cmp .eq (.var 2) (.var 4)) (.call 20 [.var 3, .var 5] [0, 1])]), .asg (.name 6) (.bin .add (.var 6) (.lst [.and (.call 20 [.var 4, .var 2] [0, 1]) (.call 20 [.var 3, .var 5] [0, 1]), .and (.call 20 [.var 4, .var 2] [0, 1]) (.cmp .eq (.var 3) (.var 5)), .and (.cmp .eq (.var 2) (.var 4)) (.cmp .eq (.var 3) (.var 5))])), .asg (.name 6) (.bin .add (.var 6) (.lst [.and (.call 20 [.var 2, .var 4] [0, 1]) (.cmp .eq (.var 3) (.var 5)), .and (.call 20 [.var 2, .var 4] [0, 1]) (.call 20 [.var 5, .var 3] [0, 1]), .and (.cmp .eq (.var 2) (.var 4)) (.call 20 [.var 5, .var 3] [0, 1])])), .asg (.name 6) (.bin .add (.var 6) (.lst [.and (.call 20 [.var 4, .var 2] [0, 1]) (.and (.call 20 [.var 2, .var 5] [0, 1]) (.call 20 [.var 5, .var 3] [0, 1])), .cmp .eq (.var 2) (.var 5), .call 20 [.var 5, .var 2] [0, 1]])), .ret (.idx (.var 6) (.con (.bl true)))]
def f27 : Fn := ⟨2, 7, [true, true], b27⟩
abbrev b_l_relation := b27
abbrev f_l_relation := f27
/-- 28: _law_lot(source) -/
def b28 : List S := [.asg (.name 1) (.bin .add (.con (.int 1)) (.call 17 [.var 0, .con (.int 4)] [0, 1])), .ret (.bi .tuple [.lc (.var 2) [2] (.name 2) .range [.con (.int 13)] [.cmp .lt (.call 17 [.var 0, .con (.int 6)] [0, 1]) (.var 1)]])]
def f28 : Fn := ⟨1, 3, [true], b28⟩
abbrev b_l_lot := b28
abbrev f_l_lot := f28
/-- 29: _law_stretch(source, row) -/
def b29 : List S := [.asg (.name 2) (.call 22 [.lst [.call 18 [.var 0, .var 1] [0, 1], .call 18 [.var 0, .var 1] [0, 1]]] [0]), .ret (.ite (.cmp .eq (.bi .len [.var 2]) (.con (.int 2))) (.tup [.ix (.var 2) (.con (.int 0)), .ix (.var 2) (.con (.int 1))]) (.tup [.ix (.var 2) (.con (.int 0)), .tup [.bin .add (.ix (.ix (.var 2) (.con (.int 0))) (.con (.int 0))) (.ix (.ix (.var 2) (.con (.int 0))) (.con (.int 1))), .ix (.ix (.var 2) (.con (.int 0))) (.con (.int 1))]]))]
def f29 : Fn := ⟨2, 3, [true, true], b29⟩
abbrev b_l_stretch := b29
abbrev f_l_stretch := f29
/-- 30: _law_odd_lot(source) -/
def b30 : List S := [.ret (.call 18 [.var 0, .lst [.con (.non), .con (.int 3), .con (.str "lot"), .lst [.con (.int 0), .con (.int 1)], .tup [.con (.int 1), .con (.int 0)], .tup [.con (.int 2), .con (.int 2)], .tup [.con (.int 13)], .tup [.neg (.con (.int 1)), .con (.int 3)], .tup [.con (.bl true)], .tup [.con (.int 0), .con (.int 1), .con (.bl true)], .tup [.con (.non)], .tup [.tup [.con (.int 0)]], .tup [.con (.int 0), .con (.int 12), .con (.int 13)], .tup [.bin .pow (.con (.int 10)) (.con (.int 20))]]] [0, 1])]
def f30 : Fn := ⟨1, 1, [true], b30⟩
abbrev b_l_odd_lot := b30
abbrev f_l_odd_lot := f30
/-- 31: _law_turned_lot(lot) -/
def b31 : List S := [.ret (.bi .tuple [.lc (.bin .sub (.con (.int 12)) (.var 1)) [1] (.name 1) .seq [.rev (.var 0)] []])]
def f31 : Fn := ⟨1, 2, [true], b31⟩
abbrev b_l_turned_lot := b31
abbrev f_l_turned_lot := f31
/-- 32: _law_caught(way, one, two) -/
def b32 : List S := [.par [3, 4] [.con (.str ""), .con (.non)], .tr [.asg (.name 4) (.ite (.cmp .eq (.var 0) (.con (.int 0))) (.call 12 [.var 1, .var 2] [0, 1]) (.call 15 [.var 1] [0]))] [(1, none, [.asg 3 (.con (.str "stretch"))]), (2, none, [.asg 3 (.con (.str "lot"))])], .ret (.tup [.var 3, .var 4])]
def f32 : Fn := ⟨3, 5, [true, true, true], b32⟩
abbrev b_l_caught := b32
abbrev f_l_caught := f32
/-- 33: _law_odd(source, one) -/
def b33 : List S := [.asg (.tup [2, 3]) (.var 1), .asg (.name 4) (.call 18 [.var 0, .lst [.con (.int 3), .con (.non), .tup [.con (.int 2), .con (.int 4)], .tup [.con (.int 1), .con (.int 0)], .con (.bl true), .con (.str "1"), .tup [.con (.int 1)]]] [0, 1]), .ret (.call 18 [.var 0, .lst [.con (.non), .tup [], .tup [.var 2], .tup [.var 2, .var 3, .var 3], .lst [.var 2, .var 3], .tup [.var 3, .var 2], .tup [.var 2, .var 2], .tup [.var 4, .var 3], .tup [.var 2, .var 4], .con (.int 7), .con (.str "stretch"), .tup [.var 4, .var 4]]] [0, 1])]
def f33 : Fn := ⟨2, 5, [true, true], b33⟩
abbrev b_l_odd := b33
abbrev f_l_odd := f33
/-- 34: _law_right(source) -/
def b34 : List S := [.asg (.name 1) (.bin .add (.call 26 [.call 24 [.var 0, .con (.int 3)] [0, 1], .con (.int 2)] [0, 1]) (.lst [.call 23 [.var 0] [0]])), .fo (.name 2) .range [.con (.int 12)] [.par [3, 4] [.call 29 [.var 0, .var 1] [0, 1], .call 29 [.var 0, .var 1] [0, 1]], .asg (.name 5) (.call 27 [.var 3, .var 4] [0, 1]), .ite (.or (.cmp .isnot (.call 8 [.var 3] [0]) (.con (.bl true))) (.not (.call 19 [.call 12 [.var 3, .var 4] [0, 1], .var 5] [0, 1]))) [.ret (.con (.bl false))] [], .ite (.not (.call 19 [.lst [.call 12 [.var 3, .var 4] [1, 0], .call 12 [.var 3, .var 3] [0, 1]], .lst [.bin .sub (.con (.int 12)) (.var 5), .con (.int 6)]] [0, 1])) [.ret (.con (.bl false))] [], .asg (.name 6) (.lc (.bi .tuple [.lc (.call 21 [.bin .add (.bin .mul (.con (.int 3)) (.var 11)) (.bin .mul (.con (.int 2)) (.var 12)), .bin .mul (.con (.int 5)) (.var 12)] [0, 1]) [11, 12] (.tup [11, 12]) .seq [.var 10] []]) [10] (.name 10) .seq [.tup [.var 3, .var 4]] []), .ite (.not (.call 19 [.call 12 [.ix (.var 6) (.con (.int 0)), .ix (.var 6) (.con (.int 1))] [0, 1], .var 5] [0, 1])) [.ret (.con (.bl false))] [], .par [7, 8] [.call 33 [.var 0, .var 3] [0, 1], .call 28 [.var 0] [0]], .ite (.or (.cmp .isnot (.call 8 [.var 7] [0]) (.con (.bl false))) (.not (.call 19 [.call 15 [.var 8] [0], .call 31 [.var 8] [0]] [0, 1]))) [.ret (.con (.bl false))] [], .asg (.name 9) (.lst [.call 32 [.con (.int 0), .var 7, .call 18 [.var 0, .lst [.var 4, .con (.non)]] [0, 1]] [0, 1, 2], .call 32 [.con (.int 0), .var 3, .var 7] [0, 1, 2], .call 32 [.con (.int 1), .call 30 [.var 0] [0], .con (.non)] [0, 1, 2]]), .ite (.not (.call 19 [.var 9, .lst [.tup [.con (.str "stretch"), .con (.non)], .tup [.con (.str "stretch"), .con (.non)], .tup [.con (.str "lot"), .con (.non)]]] [0, 1])) [.ret (.con (.bl false))] []], .ret (.and (.call 19 [.call 15 [.rng true [.con (.int 13)]] [0], .rng true [.con (.int 13)]] [0, 1]) (.call 19 [.call 15 [.tup []] [0], .tup []] [0, 1]))]
def f34 : Fn := ⟨1, 13, [true], b34⟩
abbrev b_l_right := b34
abbrev f_l_right := f34
/-- 35: law(script) -/
def b35 : List S := [.fo (.name 1) .range [.bi .max [.con (.int 2), .bi .min [.con (.int 5), .bi .len [.var 0]]]] [.ite (.not (.call1 34 (.call 16 [.var 0, .var 1] [0, 1]))) [.ret (.con (.bl false))] []], .ret (.con (.bl true))]
def f35 : Fn := ⟨1, 2, [true], b35⟩
abbrev b_law := b35
abbrev f_law := f35
def P : Pg := ⟨[f0, f1, f2, f3, f4, f5, f6, f7, f8, f9, f10, f11, f12, f13, f14, f15, f16, f17, f18, f19, f20, f21, f22, f23, f24, f25, f26, f27, f28, f29, f30, f31, f32, f33, f34, f35], [.int 13], [[true, false, false], [true, true, false], [true, false, true]], [[([(-1 : Int), (-1 : Int)], (2 : Int)), ([(0 : Int), (-1 : Int)], (3 : Int)), ([(1 : Int), (-1 : Int)], (4 : Int)), ([(1 : Int), (0 : Int)], (5 : Int)), ([(0 : Int), (0 : Int)], (6 : Int)), ([(-1 : Int), (0 : Int)], (7 : Int)), ([(-1 : Int), (1 : Int)], (8 : Int)), ([(0 : Int), (1 : Int)], (9 : Int)), ([(1 : Int), (1 : Int)], (10 : Int))]]⟩
theorem g0 : P.G[0]? = some f0 := rfl
theorem g_is_integer : P.G[0]? = some f_is_integer := rfl
theorem g1 : P.G[1]? = some f1 := rfl
theorem g_is_from : P.G[1]? = some f_is_from := rfl
theorem g2 : P.G[2]? = some f2 := rfl
theorem g_is_below : P.G[2]? = some f_is_below := rfl
theorem g3 : P.G[3]? = some f3 := rfl
theorem g_is_tuple : P.G[3]? = some f_is_tuple := rfl
theorem g4 : P.G[4]? = some f4 := rfl
theorem g_is_ascending : P.G[4]? = some f_is_ascending := rfl
theorem g5 : P.G[5]? = some f5 := rfl
theorem g_is_number : P.G[5]? = some f_is_number := rfl
theorem g6 : P.G[6]? = some f6 := rfl
theorem g_ahead : P.G[6]? = some f_ahead := rfl
theorem g7 : P.G[7]? = some f7 := rfl
theorem g_is_stretch_in : P.G[7]? = some f_is_stretch_in := rfl
theorem g8 : P.G[8]? = some f8 := rfl
theorem g_is_stretch : P.G[8]? = some f_is_stretch := rfl
theorem g9 : P.G[9]? = some f9 := rfl
theorem g_check_stretch : P.G[9]? = some f_check_stretch := rfl
theorem g10 : P.G[10]? = some f10 := rfl
theorem g_way_of_two : P.G[10]? = some f_way_of_two := rfl
theorem g11 : P.G[11]? = some f11 := rfl
theorem g_relation_in : P.G[11]? = some f_relation_in := rfl
theorem g12 : P.G[12]? = some f12 := rfl
theorem g_relation_of : P.G[12]? = some f_relation_of := rfl
theorem g13 : P.G[13]? = some f13 := rfl
theorem g_is_lot : P.G[13]? = some f_is_lot := rfl
theorem g14 : P.G[14]? = some f14 := rfl
theorem g_check_lot : P.G[14]? = some f_check_lot := rfl
theorem g15 : P.G[15]? = some f15 := rfl
theorem g_turned_lot : P.G[15]? = some f_turned_lot := rfl
theorem g16 : P.G[16]? = some f16 := rfl
theorem g_l_source : P.G[16]? = some f_l_source := rfl
theorem g17 : P.G[17]? = some f17 := rfl
theorem g_l_draw : P.G[17]? = some f_l_draw := rfl
theorem g18 : P.G[18]? = some f18 := rfl
theorem g_l_pick : P.G[18]? = some f_l_pick := rfl
theorem g19 : P.G[19]? = some f19 := rfl
theorem g_l_same : P.G[19]? = some f_l_same := rfl
theorem g20 : P.G[20]? = some f20 := rfl
theorem g_l_ahead : P.G[20]? = some f_l_ahead := rfl
theorem g21 : P.G[21]? = some f21 := rfl
theorem g_l_low : P.G[21]? = some f_l_low := rfl
theorem g22 : P.G[22]? = some f22 := rfl
theorem g_l_sorted : P.G[22]? = some f_l_sorted := rfl
theorem g23 : P.G[23]? = some f23 := rfl
theorem g_l_number : P.G[23]? = some f_l_number := rfl
theorem g24 : P.G[24]? = some f24 := rfl
theorem g_l_constants : P.G[24]? = some f_l_constants := rfl
theorem g25 : P.G[25]? = some f25 := rfl
theorem g_l_between : P.G[25]? = some f_l_between := rfl
theorem g26 : P.G[26]? = some f26 := rfl
theorem g_l_row : P.G[26]? = some f_l_row := rfl
theorem g27 : P.G[27]? = some f27 := rfl
theorem g_l_relation : P.G[27]? = some f_l_relation := rfl
theorem g28 : P.G[28]? = some f28 := rfl
theorem g_l_lot : P.G[28]? = some f_l_lot := rfl
theorem g29 : P.G[29]? = some f29 := rfl
theorem g_l_stretch : P.G[29]? = some f_l_stretch := rfl
theorem g30 : P.G[30]? = some f30 := rfl
theorem g_l_odd_lot : P.G[30]? = some f_l_odd_lot := rfl
theorem g31 : P.G[31]? = some f31 := rfl
theorem g_l_turned_lot : P.G[31]? = some f_l_turned_lot := rfl
theorem g32 : P.G[32]? = some f32 := rfl
theorem g_l_caught : P.G[32]? = some f_l_caught := rfl
theorem g33 : P.G[33]? = some f33 := rfl
theorem g_l_odd : P.G[33]? = some f_l_odd := rfl
theorem g34 : P.G[34]? = some f34 := rfl
theorem g_l_right : P.G[34]? = some f_l_right := rfl
theorem g35 : P.G[35]? = some f35 := rfl
theorem g_law : P.G[35]? = some f_law := rfl
end Lk83

set_option Elab.async false
set_option linter.all false
set_option maxRecDepth 100000
set_option maxHeartbeats 4000000
namespace Vk83
open Pi Lk83
theorem c_is_integer (n : Nat) (d : D) : callF P (n + 1) 0 [.sh d] = .ok (.bl (tyD d .int && !tyD d .bool)) false [.sh d] := by
  cases d <;> rfl
theorem c_is_from (n : Nat) (lo : Int) (d : D) : callF P (n + 2) 1 [.sh (.int lo), .sh d] = .ok (.bl (match d with | .int i => decide (lo ≤ i) | _ => false)) false [.sh (.int lo), .sh d] := by
  cases d <;> rfl
theorem c_is_tuple (n : Nat) (m : Int) (d : D) : callF P (n + 1) 3 [.sh (.int m), .sh d] = .ok (.bl (match d with | .tup xs => decide ((xs.length : Int) = m) | _ => false)) false [.sh (.int m), .sh d] := by
  cases d <;> rfl
theorem c_is_tupleN (n : Nat) (d : D) : callF P (n + 1) 3 [.sh .non, .sh d] = .ok (.bl (match d with | .tup xs => true | _ => false)) false [.sh .non, .sh d] := by
  cases d <;> rfl
theorem c_is_below (n : Nat) (m : Int) (d : D) : callF P (n + 3) 2 [.sh (.int m), .sh d] = .ok (.bl (match d with | .int i => decide (0 ≤ i) && decide (i < m) | _ => false)) false [.sh (.int m), .sh d] := by
  cases d <;> first | rfl | skip
  rename_i i
  rw [callF_of g_is_below rfl rfl]
  by_cases h : 0 ≤ i <;> simp [f_is_below, b_is_below, f2, b2, f2, b2, execs, exec, eval, argOf, Arg.peek, pureR, args, peeks, outF, doCall, takes, gives, lib_bor g_is_from, f_is_from, f1, f1, c_is_from, h]
theorem c_is_number (n : Nat) (d : D) : callF P (n + 3) 5 [.sh d] = .ok (.bl (isNum d)) false [.sh d] := by
  cases d with
  | tup xs =>
    rcases xs with _ | ⟨x, _ | ⟨y, _ | ⟨z, r⟩⟩⟩
    · rfl
    · cases x <;> rfl
    · cases x <;> cases y <;> first | rfl | skip
      rename_i a b
      rw [callF_of g_is_number rfl rfl]
      by_cases hb : 1 ≤ b <;> simp [f_is_number, b_is_number, f5, b5, execs, exec, eval, argOf, Arg.peek, pureR, args, peeks, outF, Tg.store, evals, doCall, takes, gives, lib_bor g_is_integer, f_is_integer, f0, lib_bor g_is_from, f_is_from, f1, lib_bor g_is_tuple, f_is_tuple, f3, f_is_integer, f_is_from, f_is_tuple, c_is_integer, c_is_from, c_is_tuple, tyD, isNum, hb]
    · rw [callF_of g_is_number rfl rfl]
      have : ¬ ((r.length : Int) + 1 + 1 + 1 = 2) := by omega
      simp [f_is_number, b_is_number, f5, b5, execs, exec, eval, argOf, Arg.peek, pureR, args, peeks, outF, Tg.store, evals, doCall, takes, gives, lib_bor g_is_integer, f_is_integer, f0, lib_bor g_is_from, f_is_from, f1, lib_bor g_is_tuple, f_is_tuple, f3, f_is_integer, f_is_from, f_is_tuple, c_is_integer, c_is_from, c_is_tuple, tyD, isNum, this]
  | _ => rfl
theorem c_ahead (n : Nat) (a b c d : Int) (h1 : mulOk a d) (h2 : mulOk c b) : callF P (n + 1) 6 [.sh (num a b), .sh (num c d)] = .ok (.bl (decide (a * d < c * b))) false [.sh (num a b), .sh (num c d)] := by
  rw [callF_of g_ahead rfl rfl]
  simp [f_ahead, b_ahead, f6, b6, execs, exec, eval, argOf, Arg.peek, pureR, args, peeks, outF, h1, h2]
end Vk83


set_option Elab.async false
set_option linter.all false
set_option maxRecDepth 100000
set_option maxHeartbeats 4000000
namespace Vk83
open Pi Lk83
theorem allInts_map : ∀ ns : List Int, allInts (ns.map D.int) = some ns
  | [] => rfl
  | n :: ns => by simp only [List.map_cons, allInts, allInts_map ns, Option.map_some]
theorem cutL_map (ns : List Int) (lo hi : Option Int) : cutL (ns.map D.int) lo hi = (cutL ns lo hi).map D.int := by
  unfold cutL
  rw [List.length_map, List.map_take, List.map_drop]
theorem c_l_source (n : Nat) (ns : List Int) (k : Nat) (hk : k < 5) : ∃ c e, 0 ≤ c ∧ c < big ∧ 0 ≤ e ∧ e < 2 ^ 60 ∧ callF P (n + 1) 16 [.sh (.lst (ns.map D.int)), .sh (.int k)] = .ok (pou c e (5 * k)) true [.sh (.lst (ns.map D.int)), .sh (.int k)] := by
  have m1 : mulOk (10 ^ 60) (10 ^ 60) := by decide +kernel
  have m2 : mulOk (10 ^ 60 * 10 ^ 60) (10 ^ 60) := by decide +kernel
  have m3 : mulOk (10 ^ 60 * 10 ^ 60 * 10 ^ 60) (10 ^ 60) := by decide +kernel
  have m4 : mulOk 73 (k : Int) := mulOk_of 10 5 (by decide) (by omega) (by decide)
  have m5 : mulOk 5 (k : Int) := mulOk_of 5 5 (by decide) (by omega) (by decide)
  have m6 : ∀ x : Int, mulOk x 7919 := fun x => mulOk_r (by decide)
  have p1 : opD .pow (.int 10) (.int 60) = some (.int (10 ^ 60), false) := opD_pow (by decide)
  have p2 : opD .pow (.int 10) (.int 18) = some (.int (10 ^ 18), false) := opD_pow (by decide)
  have p3 : opD .pow (.int 10) (.int 9) = some (.int 1000000000, false) := by rw [opD_pow (by decide)]; rfl
  have hb : (10 ^ 60 * 10 ^ 60 * 10 ^ 60 * 10 ^ 60 : Int) = big := by decide +kernel
  have hp : (0 : Int) < big := by decide +kernel
  have e1 : opD .mul (.int (10 ^ 60)) (.int (10 ^ 60)) = some (.int (10 ^ 60 * 10 ^ 60), false) := opD_mul m1
  have e2 : opD .mul (.int (10 ^ 60 * 10 ^ 60)) (.int (10 ^ 60)) = some (.int (10 ^ 60 * 10 ^ 60 * 10 ^ 60), false) := opD_mul m2
  have e3 : opD .mul (.int (10 ^ 60 * 10 ^ 60 * 10 ^ 60)) (.int (10 ^ 60)) = some (.int big, false) := by rw [opD_mul m3, hb]
  have g18 : (0 : Int) < 10 ^ 18 + 9 ∧ (10 ^ 18 + 9 : Int) < 2 ^ 60 := by decide
  have sm : ∀ ns : List Int, biD .sum [.lst (cutL (ns.map D.int) none (some 63))] = some (.int (cutL ns none (some 63)).sum, false) := fun ns => by
    rw [cutL_map, biD_sum, allInts_map]; rfl
  generalize hG : (10 ^ 60 : Int) = G at *
  generalize hG2 : G * G = G2 at *
  generalize hG3 : G2 * G = G3 at *
  generalize hG18 : (10 ^ 18 : Int) = G18 at *
  have key : ∀ z : Int, ∃ c e, 0 ≤ c ∧ c < big ∧ 0 ≤ e ∧ e < 2 ^ 60 ∧ D.lst [.int (if G18 ≤ z % big then z % big else 0), .int ((z % big) % (G18 + 9)), .int (5 * (k : Int))] = pou c e (5 * k) := fun z => by
    refine ⟨_, _, ?_, ?_, ?_, ?_, rfl⟩
    · split
      · exact Int.emod_nonneg _ (by omega)
      · omega
    · split
      · exact Int.emod_lt_of_pos _ hp
      · exact hp
    · exact Int.emod_nonneg _ (by omega)
    · have := Int.emod_lt_of_pos (z % big) (show 0 < G18 + 9 by omega); omega
  by_cases hl : k < ns.length
  · obtain ⟨c, e, h1, h2, h3, h4, h5⟩ := key (if ns[k] < 0 then -ns[k] else ns[k])
    refine ⟨c, e, h1, h2, h3, h4, ?_⟩
    have hl2 : (k : Int) < ns.length := by omega
    rw [callF_of g_l_source rfl rfl, ← h5]
    by_cases hz : G18 ≤ (if ns[k] < 0 then -ns[k] else ns[k]) % big <;>
      simp [f16, b16, execs, exec, eval, evals, argOf, Arg.peek, pureR, args, peeks, outF, Tg.store, p1, p2, e1, e2, e3, hp, m4, m5, hl, hl2, g18.1, hz]
  · obtain ⟨c, e, h1, h2, h3, h4, h5⟩ := key (73 * (k : Int) + 46 + ((cutL ns none (some 63)).sum * 7919) % 1000000007)
    refine ⟨c, e, h1, h2, h3, h4, ?_⟩
    have hl2 : ¬ (k : Int) < ns.length := by omega
    have sm := sm ns
    rw [callF_of g_l_source rfl rfl, ← h5]
    have hL : ((ns.map D.int).length : Int) = ns.length := by simp
    generalize ns.map D.int = L at *
    generalize (cutL ns none (some 63)).sum = s at *
    by_cases hz : G18 ≤ (73 * (k : Int) + 46 + (s * 7919) % 1000000007) % big <;>
      simp [f16, b16, execs, exec, eval, evals, argOf, Arg.peek, pureR, args, peeks, outF, Tg.store, partOf, cutD, p1, p2, p3, e1, e2, e3, hp, m4, m5, m6, hl2, hL, g18.1, hz, sm]
/-- a source: m turns at most were drawn from it -/
theorem c_l_draw (n : Nat) (p : D) (m : Int) (w : Int) (hp : Src m p) (hm : m ≤ 100000) (hw : 0 < w) (hw2 : w ≤ 1000) : ∃ r p', 0 ≤ r ∧ r < w ∧ Src (m + 1) p' ∧
    callF P (n + 1) 17 [.ow false p, .sh (.int w)] = .ok (.int r) false [.ow false p', .sh (.int w)] := by
  obtain ⟨c, e, t, rfl, hc, hcb, he, heb, ht, htm⟩ := hp
  have dw : divOk w := divOk_of 10 hw (by omega) (by decide)
  have d29 : divOk 29 := divOk_of 5 (by decide) (by decide) (by decide)
  by_cases h0 : 0 < c
  · refine ⟨c % w, pou (c / w) e t, Int.emod_nonneg _ (by omega), Int.emod_lt_of_pos _ hw, ⟨_, _, _, rfl, Int.ediv_nonneg hc (by omega), ?_, he, heb, ht, by omega⟩, ?_⟩
    · have := Int.ediv_le_self w hc
      omega
    · rw [callF_of g_l_draw rfl rfl]
      simp [f17, b17, execs, exec, eval, evals, argOf, Arg.peek, pureR, args, peeks, outF, Tg.store, h0, hw, dw]
  · have m1 : mulOk 104711 (t + 1) := mulOk_of 20 20 (by decide) (by omega) (by decide)
    have m2 : mulOk (e + 104711 * (t + 1) + 17) 92821 := mulOk_r (by decide)
    have m4 : mulOk 23 (t + 1) := mulOk_of 20 20 (by decide) (by omega) (by decide)
    generalize hA : ((e + 104711 * (t + 1) + 17) * 92821 + 401) % 2147483477 = A at *
    have a0 : 0 ≤ A := by rw [← hA]; exact Int.emod_nonneg _ (by decide)
    have a1 : A < 2147483477 := by rw [← hA]; exact Int.emod_lt_of_pos _ (by decide)
    have m3 : mulOk A A := mulOk_of 31 31 (by omega) (by omega) (by decide)
    refine ⟨(A * A + 23 * (t + 1)) % 2147483399 / 29 % w, pou c e (t + 1), Int.emod_nonneg _ (by omega), Int.emod_lt_of_pos _ hw, ⟨_, _, _, rfl, hc, hcb, he, heb, by omega, by omega⟩, ?_⟩
    rw [callF_of g_l_draw rfl rfl]
    simp [f17, b17, execs, exec, eval, evals, argOf, Arg.peek, pureR, args, peeks, outF, Tg.store, h0, hw, dw, d29, m1, m2, m3, m4, hA]
theorem c_l_pick (n : Nat) (p : D) (m : Int) (rows : List D) (hp : Src m p) (hm : m ≤ 100000) (h0 : rows ≠ []) (h1 : rows.length ≤ 1000) : ∃ d p', d ∈ rows ∧ Src (m + 1) p' ∧
    callF P (n + 2) 18 [.ow false p, .sh (.lst rows)] = .ok d false [.ow false p', .sh (.lst rows)] := by
  have hl : 0 < rows.length := List.length_pos_iff.mpr h0
  obtain ⟨r, p', r0, r1, hp', e⟩ := c_l_draw n p m rows.length hp hm (by omega) (by omega)
  obtain ⟨k, rfl⟩ : ∃ k : Nat, r = k := ⟨r.toNat, by omega⟩
  have hk : k < rows.length := by omega
  refine ⟨rows[k], p', List.getElem_mem hk, hp', ?_⟩
  rw [callF_of g_l_pick rfl rfl]
  simp [f18, b18, execs, exec, eval, evals, argOf, Arg.peek, pureR, args, peeks, outF, Tg.store, doCall, takes, gives, lib_bor g_l_draw, f17, e, hk]
theorem c_l_pickO (n : Nat) (p : D) (m : Int) (rows : List D) (hp : Src m p) (hm : m ≤ 100000) (h0 : rows ≠ []) (h1 : rows.length ≤ 1000) : ∃ d p', d ∈ rows ∧ Src (m + 1) p' ∧
    callF P (n + 2) 18 [.ow false p, .ow false (.lst rows)] = .ok d false [.ow false p', .ow false (.lst rows)] := by
  have hl : 0 < rows.length := List.length_pos_iff.mpr h0
  obtain ⟨r, p', r0, r1, hp', e⟩ := c_l_draw n p m rows.length hp hm (by omega) (by omega)
  obtain ⟨k, rfl⟩ : ∃ k : Nat, r = k := ⟨r.toNat, by omega⟩
  have hk : k < rows.length := by omega
  refine ⟨rows[k], p', List.getElem_mem hk, hp', ?_⟩
  rw [callF_of g_l_pick rfl rfl]
  simp [f18, b18, execs, exec, eval, evals, argOf, Arg.peek, pureR, args, peeks, outF, Tg.store, doCall, takes, gives, lib_bor g_l_draw, f17, e, hk]
end Vk83


set_option Elab.async false
set_option linter.all false
set_option maxRecDepth 100000
set_option maxHeartbeats 4000000
namespace Vk83
open Pi Lk83
theorem same_item (n : Nat) (s : D) (a0 : Sl) (ha : a0 = .sh s ∨ a0 = .ow false s) (x : D) (k : Nat) (hix : ixD s (.int k) = some x) (e : callF P n 19 [.sh x, .sh x] = .ok (.bl true) false [.sh x, .sh x]) :
    eval (P.lib (callF P n)) (.call 19 [.ix (.var 0) (.var 2), .ix (.var 1) (.var 2)] [0, 1]) [a0, .sh s, .sh (.int k)] = .ok (.bl true, false) [a0, .sh s, .sh (.int k)] := by
  rcases ha with rfl | rfl <;> simp [eval, args, argOf, Arg.peek, pureR, doCall, takes, lib_bor g_l_same, f_l_same, f19, f_l_same, e, hix]
theorem same_it (n : Nat) (s : D) (a0 : Sl) (xs : List D) (hs : s = .tup xs ∨ s = .lst xs) (hz : xs.length ≤ 1000) :
    ((args (P.lib (callF P n)) [.bi .len [.var 1]] [a0, .sh s, .no]).bind (walkB .range)) = .ok (rangeD 0 xs.length) [a0, .sh s, .no] := by
  have ha : args (P.lib (callF P n)) [.bi .len [.var 1]] [a0, .sh s, .no] = .ok [.val (.int xs.length)] [a0, .sh s, .no] := by
    rcases hs with rfl | rfl <;> rfl
  rw [ha, Res.bind_ok]
  exact walkB_of (ds := [.int xs.length]) rfl (iter_len xs hz)
theorem same_lc (n : Nat) (s : D) (a0 : Sl) (ha : a0 = .sh s ∨ a0 = .ow false s) (xs : List D) (hs : s = .tup xs ∨ s = .lst xs) (hz : xs.length ≤ 1000) (ih : ∀ x ∈ xs, callF P n 19 [.sh x, .sh x] = .ok (.bl true) false [.sh x, .sh x]) :
    eval (P.lib (callF P n)) (.lc (.call 19 [.ix (.var 0) (.var 2), .ix (.var 1) (.var 2)] [0, 1]) [2] (.name 2) .range [.bi .len [.var 1]] []) [a0, .sh s, .no] = .ok (.lst ((rangeD 0 xs.length).map fun _ => .bl true), true) [a0, .sh s, .no] := by
  have hix : ∀ (k : Nat) (hk : k < xs.length), ixD s (.int k) = some xs[k] := by
    intro k hk
    rcases hs with rfl | rfl <;> simp [hk]
  have hl : ([] : List D).length + (rangeD 0 xs.length).length ≤ 100000 := by rw [rangeD_len, List.length_nil]; omega
  rw [eval, same_it n s a0 xs hs hz, Res.bind_ok]
  rw [show wipeE [a0, .sh s, .no] [2] = [a0, .sh s, .no] from rfl]
  rw [lcLoop_all (g := fun _ => .bl true) ?hx hl]
  case hx =>
    intro x hx
    obtain ⟨k, hk', rfl⟩ := rangeD_mem hx
    have e := same_item n s a0 ha xs[k] k (hix k hk') (ih xs[k] (List.getElem_mem hk'))
    rw [Int.zero_add]
    simp [Tg.store, holds, e, wipeE]
  rfl
theorem same_seq (n : Nat) (s : D) (a0 : Sl) (ha : a0 = .sh s ∨ a0 = .ow false s) (xs : List D) (hs : s = .tup xs ∨ s = .lst xs) (hz : xs.length ≤ 1000) (ih : ∀ x ∈ xs, callF P n 19 [.sh x, .sh x] = .ok (.bl true) false [.sh x, .sh x]) :
    callF P (n + 1) 19 [a0, .sh s] = .ok (.bl true) false [a0, .sh s] := by
  rw [callF_of g_l_same rfl (by rcases ha with rfl | rfl <;> rfl)]
  have lc := same_lc n s a0 ha xs hs hz ih
  have al := bi_one (f := .all) (by simp) lc
  rw [biD_all, allBls_map (fun _ => true), Option.map_some, pureR_some] at al
  have tr : ((rangeD 0 xs.length).map fun _ => true).all id = true := by simp
  rw [tr] at al
  show outF 2 (execs (P.lib (callF P n)) [.ite (.isin (.var 1) [.tuple, .list]) [.ite (.or (.not (.isin (.var 0) [.tuple, .list])) (.or (.cmp .ne (.isin (.var 0) [.tuple]) (.isin (.var 1) [.tuple])) (.cmp .ne (.bi .len [.var 0]) (.bi .len [.var 1])))) [.ret (.con (.bl false))] [], .ret (.bi .all [.lc (.call 19 [.ix (.var 0) (.var 2), .ix (.var 1) (.var 2)] [0, 1]) [2] (.name 2) .range [.bi .len [.var 1]] []])] [], .ite (.cmp .is (.var 1) (.con (.non))) [.ret (.cmp .is (.var 0) (.con (.non)))] [], .ite (.isin (.var 1) [.bool]) [.ret (.and (.isin (.var 0) [.bool]) (.cmp .eq (.var 0) (.var 1)))] [], .ite (.isin (.var 1) [.str]) [.ret (.and (.isin (.var 0) [.str]) (.cmp .eq (.var 0) (.var 1)))] [], .ret (.and (.isin (.var 0) [.int]) (.and (.not (.isin (.var 0) [.bool])) (.cmp .eq (.var 0) (.var 1))))] [a0, .sh s, .no]) = _
  have e0 : eval (P.lib (callF P n)) (.isin (.var 1) [.tuple, .list]) [a0, .sh s, .no] = .ok (.bl true, false) [a0, .sh s, .no] := by
    rcases ha with rfl | rfl <;> rcases hs with rfl | rfl <;> rfl
  have e1 : eval (P.lib (callF P n)) (.or (.not (.isin (.var 0) [.tuple, .list])) (.or (.cmp .ne (.isin (.var 0) [.tuple]) (.isin (.var 1) [.tuple])) (.cmp .ne (.bi .len [.var 0]) (.bi .len [.var 1])))) [a0, .sh s, .no] = .ok (.bl false, false) [a0, .sh s, .no] := by
    refine or_of (x := false) (y := false) (fr1 := false) (fr2 := false) ?_ (or_of (x := false) (y := false) (fr1 := false) (fr2 := false) ?_ ?_)
    · rcases ha with rfl | rfl <;> rcases hs with rfl | rfl <;> rfl
    · rcases ha with rfl | rfl <;> rcases hs with rfl | rfl <;> rfl
    · rcases ha with rfl | rfl <;> rcases hs with rfl | rfl <;> simp [eval, args, argOf, Arg.peek, peeks]
  rw [ss_rt (d := .bl true) (fr := false) (env' := [a0, .sh s, .no])]
  · rfl
  rw [ite_of (by simp) e0]
  simp only [truth_bl, if_true]
  rw [ite_no (by simp) e1]
  exact ss_rt (ret_of (by simp) al)
theorem c_l_same (n : Nat) : ∀ (k : Nat) (d : D), d.depth ≤ k → D.fine d → callF P (n + k + 1) 19 [.sh d, .sh d] = .ok (.bl true) false [.sh d, .sh d] := by
  intro k
  induction k with
  | zero =>
    intro d hd hf
    rw [callF_of g_l_same rfl rfl]
    cases d with
    | tup xs => simp [D.depth] at hd
    | lst xs => simp [D.depth] at hd
    | _ => simp [f_l_same, b_l_same, f19, b19, execs, exec, eval, evals, argOf, Arg.peek, pureR, args, peeks, outF, tyD, cmpD, D.depth, D.eqb]
  | succ k ih =>
    intro d hd hf
    cases d with
    | tup xs =>
      simp only [D.depth] at hd
      simp only [D.fine] at hf
      exact same_seq (n + k + 1) (.tup xs) _ (.inl rfl) xs (.inl rfl) hf.1 fun x hx => ih x (Nat.le_trans (depths_mem hx) (by omega)) (fines_mem hf.2 hx)
    | lst xs =>
      simp only [D.depth] at hd
      simp only [D.fine] at hf
      exact same_seq (n + k + 1) (.lst xs) _ (.inl rfl) xs (.inr rfl) hf.1 fun x hx => ih x (Nat.le_trans (depths_mem hx) (by omega)) (fines_mem hf.2 hx)
    | _ =>
      rw [callF_of g_l_same rfl rfl]
      simp [f_l_same, b_l_same, f19, b19, execs, exec, eval, evals, argOf, Arg.peek, pureR, args, peeks, outF, tyD, cmpD, D.depth, D.eqb]

theorem c_l_ahead (n : Nat) (a b c d : Int) (h1 : mulOk a d) (h2 : mulOk c b) : callF P (n + 1) 20 [.sh (num a b), .sh (num c d)] = .ok (.bl (decide (a * d < c * b))) false [.sh (num a b), .sh (num c d)] := by
  rw [callF_of g_l_ahead rfl rfl]
  simp [f_l_ahead, b_l_ahead, f20, b20, execs, exec, eval, argOf, Arg.peek, pureR, args, peeks, outF, h1, h2]
theorem emod_half {x y : Int} (hy : 0 < y) (hxy : y ≤ x) : 2 * (x % y) ≤ x := by
  have e := Int.emod_add_mul_ediv x y
  have r1 := Int.emod_lt_of_pos x hy
  have d1 : 1 ≤ x / y := (Int.le_ediv_iff_mul_le hy (a := 1) (b := x)).mpr (by omega)
  have : y ≤ y * (x / y) := by
    have := Int.mul_le_mul_of_nonneg_left d1 (show 0 ≤ y by omega)
    omega
  omega
theorem abs_le_pow {t : Int} {k : Nat} (h : t.natAbs < 2 ^ k) : (t.natAbs : Int) ≤ 2 ^ k := by
  have h1 := Int.ofNat_lt.mpr h
  rw [Int.natCast_pow] at h1
  exact Int.le_of_lt h1
theorem c_l_low (n : Nat) (t b : Int) (hb : 0 < b) (ht : t.natAbs < 2 ^ 240) (hs : b.natAbs < 2 ^ 240) : callF P (n + 1) 21 [.sh (.int t), .sh (.int b)] = .ok (num (t / gcdI t b) (b / gcdI t b)) false [.sh (.int t), .sh (.int b)] := by
  have ab : (if t < 0 then -t else t) = (t.natAbs : Int) := by split <;> omega
  have g0 := gcdI_pos (t := t) hb
  have dg : divOk (gcdI t b) := divOk_gcd 240 hb hs (by decide)
  have gs : ∀ x y : Int, 0 ≤ x → 0 < y → Nat.gcd y.natAbs (x % y).natAbs = Nat.gcd x.natAbs y.natAbs := by
    intro x y hx hy
    rw [Int.natAbs_emod_of_nonneg hx, Nat.gcd_comm, ← Nat.gcd_rec, Nat.gcd_comm]
  have hprod : (t.natAbs : Int) * b ≤ 2 ^ 480 := by
    have h1 : (t.natAbs : Int) ≤ 2 ^ 240 := abs_le_pow ht
    have h2 : b ≤ 2 ^ 240 := by have := abs_le_pow hs; omega
    have h3 : (t.natAbs : Int) * b ≤ 2 ^ 240 * 2 ^ 240 := Int.mul_le_mul h1 h2 (by omega) (by decide +kernel)
    have h4 : (2 : Int) ^ 240 * 2 ^ 240 = 2 ^ 480 := by decide +kernel
    omega
  have key : Ok (exec (P.lib (callF P n)) (.fo (.name 4) .range [.con (.int 500)] [.ite (.cmp .gt (.var 3) (.con (.int 0))) [.par [2, 3] [.var 3, .bin .mod (.bi .int [.var 2]) (.var 3)]] []]) [.sh (.int t), .sh (.int b), .sh (.int (t.natAbs : Int)), .sh (.int b), .no]) fun fl e => fl = .nx ∧ ∃ y4, e = [.sh (.int t), .sh (.int b), .sh (.int (gcdI t b)), .sh (.int 0), y4] := by
    refine Ok_fo (range_of _ 500 500 rfl (by decide) _) ((Ok_loop (fun j env => ∃ (x y : Int) (y4 : Sl), env = [.sh (.int t), .sh (.int b), .sh (.int x), .sh (.int y), y4] ∧ 0 ≤ x ∧ 0 ≤ y ∧ Nat.gcd x.natAbs y.natAbs = Nat.gcd t.natAbs b.natAbs ∧ (1 ≤ j → y < x) ∧ x * y * 2 ^ (j - 1) ≤ 2 ^ 480)
      ⟨(t.natAbs : Int), b, .no, rfl, by omega, by omega, by rw [Int.natAbs_natCast], fun h => absurd h (by decide), by simpa using hprod⟩ fun j hj env ⟨x, y, y4, he, hx, hy, hg, hlt, hpr⟩ => ?_).mono fun fl e ⟨h1, x, y, y4, he, hx, hy, hg, hlt, hpr⟩ => ⟨h1, y4, ?_⟩)
    · subst he
      refine Ok_turn (by simp) ?_
      by_cases h0 : 0 < y
      · have hm : y * (x % y) ≤ x * y := by
          have h1 : x % y ≤ x := by
            by_cases hxy : y ≤ x
            · have := Int.emod_lt_of_pos x h0; omega
            · rw [Int.emod_eq_of_lt hx (by omega)]; exact Int.le_refl _
          rw [Int.mul_comm x y]
          exact Int.mul_le_mul_of_nonneg_left h1 hy
        refine Ok.of (a := .nx) (e := [.sh (.int t), .sh (.int b), .sh (.int y), .sh (.int (x % y)), .sh (rangeD 0 500)[j]]) (by simp [execs, exec, eval, evals, argOf, Arg.peek, pureR, args, peeks, h0]) ⟨.inl rfl, y, x % y, _, rfl, hy, Int.emod_nonneg _ (by omega), ?_, fun _ => Int.emod_lt_of_pos _ h0, ?_⟩
        · rw [gs x y hx h0]; exact hg
        · by_cases hj0 : j = 0
          · subst hj0
            simp only [Nat.zero_add, Nat.sub_self, Nat.zero_sub, Int.pow_zero, Int.mul_one] at hpr ⊢
            omega
          · have hxy := hlt (by omega)
            have hh := emod_half h0 (show y ≤ x by omega)
            have h2 : y * (x % y) * 2 ≤ x * y := by
              have := Int.mul_le_mul_of_nonneg_left hh hy
              rw [Int.mul_comm x y]
              have e : y * (x % y) * 2 = y * (2 * (x % y)) := by rw [Int.mul_assoc, Int.mul_comm (x % y) 2]
              omega
            have e : y * (x % y) * 2 ^ (j + 1 - 1) = y * (x % y) * 2 * 2 ^ (j - 1) := by
              rw [show j + 1 - 1 = (j - 1) + 1 by omega, Int.pow_succ, Int.mul_comm (2 ^ (j - 1)) 2, ← Int.mul_assoc]
            rw [e]
            exact Int.le_trans (Int.mul_le_mul_of_nonneg_right h2 (Int.le_of_lt (Int.pow_pos (by decide)))) hpr
      · have hy0 : y = 0 := by omega
        subst hy0
        refine Ok.of (a := .nx) (e := [.sh (.int t), .sh (.int b), .sh (.int x), .sh (.int 0), .sh (rangeD 0 500)[j]]) (by simp [execs, exec, eval, argOf, Arg.peek]) ⟨.inl rfl, x, 0, _, rfl, hx, by omega, hg, fun _ => ?_, by simp; exact Int.le_of_lt (Int.pow_pos (by decide))⟩
        have hgp : 0 < Nat.gcd t.natAbs b.natAbs := Nat.gcd_pos_of_pos_right _ (by omega)
        rw [← hg] at hgp
        simp only [Int.natAbs_zero, Nat.gcd_zero_right] at hgp
        omega
    · rw [rangeD_len] at hlt hpr
      have hxy := hlt (by decide)
      have hy0 : y = 0 := by
        by_cases h0 : y = 0
        · exact h0
        · exfalso
          have h1 : 1 ≤ x * y := by
            have := Int.mul_pos (show 0 < x by omega) (show 0 < y by omega)
            omega
          have h2 : (1 : Int) * 2 ^ (500 - 1) ≤ x * y * 2 ^ (500 - 1) := Int.mul_le_mul_of_nonneg_right h1 (Int.le_of_lt (Int.pow_pos (by decide)))
          have h3 : (2 : Int) ^ 480 < 1 * 2 ^ (500 - 1) := by decide +kernel
          omega
      subst hy0
      simp only [Int.natAbs_zero, Nat.gcd_zero_right] at hg
      have hx2 : x = gcdI t b := by show x = ((Nat.gcd t.natAbs b.natAbs : Nat) : Int); omega
      rw [he, hx2]
  obtain ⟨fl, e, hx, rfl, y4, rfl⟩ := key.ex
  rw [callF_of g_l_low rfl rfl]
  show outF 2 (execs (P.lib (callF P n)) [.par [2, 3] [.bi .abs [.var 0], .var 1], .fo (.name 4) .range [.con (.int 500)] [.ite (.cmp .gt (.var 3) (.con (.int 0))) [.par [2, 3] [.var 3, .bin .mod (.bi .int [.var 2]) (.var 3)]] []], .ret (.tup [.bin .fdiv (.var 0) (.var 2), .bin .fdiv (.var 1) (.var 2)])] [.sh (.int t), .sh (.int b), .no, .no, .no]) = _
  rw [ss_nx (env' := [.sh (.int t), .sh (.int b), .sh (.int (t.natAbs : Int)), .sh (.int b), .no]) (by simp [exec, eval, args, argOf, Arg.peek, peeks, ab]), ss_nx hx]
  simp [execs, exec, eval, evals, argOf, Arg.peek, outF, dg]
theorem c_l_number (n : Nat) (p : D) (m : Int) (hp : Src m p) (hm : m ≤ 90000) : ∃ a b p', Nm a b ∧ Src (m + 3) p' ∧ callF P (n + 2) 23 [.ow false p] = .ok (num a b) false [.ow false p'] := by
  obtain ⟨r, p1, r0, r1, hp1, e1⟩ := c_l_draw n p m 8 hp (by omega) (by decide) (by decide)
  obtain ⟨u, p2, u0, u1, hp2, e2⟩ := c_l_draw n p1 (m + 1) 11 hp1 (by omega) (by decide) (by decide)
  obtain ⟨v, p3, v0, v1, hp3, e3⟩ := c_l_draw n p2 (m + 1 + 1) 6 hp2 (by omega) (by decide) (by decide)
  obtain ⟨w, p4, w0, w1, hp4, e4⟩ := c_l_draw n p2 (m + 1 + 1) 2 hp2 (by omega) (by decide) (by decide)
  have m1 : mulOk 2 (u - 5) := mulOk_of 5 5 (by decide) (by omega) (by decide)
  have m2 : mulOk 2 w := mulOk_of 5 5 (by decide) (by omega) (by decide)
  have G0 : (10 ^ 29 : Int) + 7 < 2 ^ 101 := by decide +kernel
  have p29 : opD .pow (.int 10) (.int 29) = some (.int (10 ^ 29), false) := opD_pow (by decide)
  have Gp : (0 : Int) < 10 ^ 29 := by decide
  generalize hG : (10 ^ 29 : Int) = G at *
  have m3 : mulOk (G + 7) (2 * w - 1) := mulOk_of 101 5 (small_of _ (by omega) (by omega)) (by omega) (by decide)
  have hw : w = 0 ∨ w = 1 := by omega
  have hg1 : ((G + 7) * (2 * w - 1) + (u - 5)).natAbs < 2 ^ 110 := by
    rcases hw with rfl | rfl <;> omega
  have hg3 : (3 * ((G + 7) * (2 * w - 1)) + (u - 5)).natAbs < 2 ^ 110 := by
    rcases hw with rfl | rfl <;> omega
  have hg2 : ((G + 7) * (2 * w - 1)).natAbs < 2 ^ 105 := by
    rcases hw with rfl | rfl <;> omega
  have m4 : mulOk 3 ((G + 7) * (2 * w - 1)) := mulOk_of 5 105 (by decide) hg2 (by decide)
  have k110 : (2 : Nat) ^ 110 ≤ 2 ^ 240 := Nat.pow_le_pow_right (by decide) (by decide)
  have e21 := c_l_low n (2 * (u - 5) + 1) (1 + v) (by omega) (by omega) (by omega)
  have e22 := c_l_low n (3 * ((G + 7) * (2 * w - 1)) + (u - 5)) 3 (by decide) (by omega) (by decide)
  have bD : (P.lib (callF P (n + 1))).bor 17 = f17.bor := lib_bor g_l_draw _
  have bL : (P.lib (callF P (n + 1))).bor 21 = f21.bor := lib_bor g_l_low _
  by_cases h4 : r < 4
  · refine ⟨u - 5, 1, p2, ⟨by decide, by show ((Nat.gcd _ 1 : Nat) : Int) = 1; rw [Nat.gcd_one_right]; rfl, by omega, by decide⟩, hp2.le (by omega), ?_⟩
    rw [callF_of g_l_number rfl rfl]
    simp [f23, b23, execs, exec, eval, evals, argOf, Arg.peek, pureR, args, peeks, outF, Tg.store, storeT, doCall, takes, gives, bD, f17, e1, e2, h4]
  · by_cases h6 : r < 6
    · refine ⟨_, _, p3, low_nm (t := 2 * (u - 5) + 1) (b := 1 + v) (by omega) (by omega) (by omega), hp3.le (by omega), ?_⟩
      rw [callF_of g_l_number rfl rfl]
      simp [f23, b23, execs, exec, eval, evals, argOf, Arg.peek, pureR, args, peeks, outF, Tg.store, storeT, doCall, takes, gives, bD, f17, bL, f21, e1, e2, e3, h4, h6, m1, e21]
    · by_cases h7 : r = 6
      · refine ⟨(G + 7) * (2 * w - 1) + (u - 5), 1, p4, ⟨by decide, by show ((Nat.gcd _ 1 : Nat) : Int) = 1; rw [Nat.gcd_one_right]; rfl, hg1, by decide⟩, hp4.le (by omega), ?_⟩
        rw [callF_of g_l_number rfl rfl]
        simp [f23, b23, execs, exec, eval, evals, argOf, Arg.peek, pureR, args, peeks, outF, Tg.store, storeT, doCall, takes, gives, bD, f17, e1, e2, e4, h7, m2, m3, p29]
      · refine ⟨_, _, p4, low_nm (t := 3 * ((G + 7) * (2 * w - 1)) + (u - 5)) (b := 3) (by decide) hg3 (by decide), hp4.le (by omega), ?_⟩
        rw [callF_of g_l_number rfl rfl]
        simp [f23, b23, execs, exec, eval, evals, argOf, Arg.peek, pureR, args, peeks, outF, Tg.store, storeT, doCall, takes, gives, bD, f17, bL, f21, e1, e2, e4, h4, h6, h7, m2, m3, m4, p29, e22]
end Vk83


set_option Elab.async false
set_option linter.all false
set_option maxRecDepth 100000
set_option maxHeartbeats 4000000
namespace Vk83
open Pi Lk83
theorem l_sorted_body (n : Nat) (x0 y2 y3 : Sl) (p : Nu) (acc : List Nu) (hz : acc.length ≤ 1000) (hp : Nb 1000 p) (ha : ∀ q ∈ acc, Nb 1000 q) :
    ∃ z3, execs (P.lib (callF P (n + 1))) [.ite (.cmp .notin (.var 2) (.var 1)) [.asg (.name 3) (.bi .len [.lc (.var 4) [4] (.name 4) .seq [.var 1] [.call 20 [.var 4, .var 2] [0, 1]]]), .asg (.name 1) (.bin .add (.bin .add (.cut (.var 1) (.con .non) (.var 3)) (.lst [.var 2])) (.cut (.var 1) (.var 3) (.con .non)))] []]
      [x0, .ow true (.lst (acc.map nD)), .sh (nD p), y3, .no] = .ok .nx [x0, .ow true (.lst ((ins p acc).map nD)), .sh (nD p), z3, .no] := by
  have hin : cmpD .notin (nD p) (.lst (acc.map nD)) = some (!decide (p ∈ acc)) := by
    show (if (nD p).depth ≤ 63 ∧ D.depths (acc.map nD) ≤ 63 then some (!(acc.map nD).any fun y => y.eqb (nD p)) else none) = _
    rw [if_pos ⟨by rw [nD_depth]; decide, Nat.le_trans (nD_depths acc) (by decide)⟩, nD_any]
  by_cases hm : p ∈ acc
  · refine ⟨y3, ?_⟩
    simp [execs, exec, eval, evals, argOf, Arg.peek, pureR, args, peeks, hin, hm, ins]
  · have hk : (acc.filter (lt2 · p)).length ≤ acc.length := List.length_filter_le _ _
    generalize hK : (acc.filter (lt2 · p)).length = k at hk
    have lc : eval (P.lib (callF P (n + 1))) (.lc (.var 4) [4] (.name 4) .seq [.var 1] [.call 20 [.var 4, .var 2] [0, 1]]) [x0, .ow true (.lst (acc.map nD)), .sh (nD p), y3, .no] = .ok (.lst ((acc.filter (lt2 · p)).map nD), true) [x0, .sh (.lst (acc.map nD)), .sh (nD p), y3, .no] := by
      have hi : (args (P.lib (callF P (n + 1))) [.var 1] [x0, .ow true (.lst (acc.map nD)), .sh (nD p), y3, .no]).bind (walkB .seq) = .ok (acc.map nD) [x0, .sh (.lst (acc.map nD)), .sh (nD p), y3, .no] := rfl
      have fm := filt_nD (lt2 · p) acc
      have := lc_of (L := P.lib (callF P (n + 1))) (elt := .var 4) (own := [4]) (tg := .name 4) (conds := [.call 20 [.var 4, .var 2] [0, 1]]) hi (lcLoop_fm (h := pickD (lt2 · p)) (fun x hx => ?_) (by simp; omega))
      · rw [this, fm]
        rfl
      · obtain ⟨q, hq, rfl⟩ := List.mem_map.mp hx
        obtain ⟨a, b⟩ := q
        obtain ⟨c, d⟩ := p
        have e := c_l_ahead n a b c d (mulSz (ha _ hq).sz.ta hp.sz.tb) (mulSz hp.sz.ta (ha _ hq).sz.tb)
        by_cases h : a * d < c * b
        · simp [wipeE, Tg.store, holds, eval, args, argOf, Arg.peek, doCall, takes, lib_bor g_l_ahead, f20, e, nD, lt2, h, pickD]
        · simp [wipeE, Tg.store, holds, eval, args, argOf, Arg.peek, doCall, takes, lib_bor g_l_ahead, f20, e, nD, lt2, h, pickD]
    have e1 : exec (P.lib (callF P (n + 1))) (.asg (.name 3) (.bi .len [.lc (.var 4) [4] (.name 4) .seq [.var 1] [.call 20 [.var 4, .var 2] [0, 1]]])) [x0, .ow true (.lst (acc.map nD)), .sh (nD p), y3, .no] = .ok .nx [x0, .sh (.lst (acc.map nD)), .sh (nD p), .sh (.int (k : Nat)), .no] := by
      have b1 := bi_one (f := .len) (by simp) lc
      simp only [exec, b1]
      simp [pureR, Tg.store, hK]
    have e2 : exec (P.lib (callF P (n + 1))) (.asg (.name 1) (.bin .add (.bin .add (.cut (.var 1) (.con .non) (.var 3)) (.lst [.var 2])) (.cut (.var 1) (.var 3) (.con .non)))) [x0, .sh (.lst (acc.map nD)), .sh (nD p), .sh (.int (k : Nat)), .no] = .ok .nx [x0, .ow true (.lst ((ins p acc).map nD)), .sh (nD p), .sh (.int (k : Nat)), .no] := by
      have c1 : cutL (acc.map nD) none (some (k : Int)) = (acc.map nD).take k := cutL_to (by simpa using hk)
      have c2 : cutL (acc.map nD) (some (k : Int)) none = (acc.map nD).drop k := cutL_from (by simpa using hk)
      have h1 : min k acc.length + 1 ≤ 100000 := by omega
      have h2 : min k acc.length + 1 + (acc.length - k) ≤ 100000 := by omega
      simp [exec, eval, evals, argOf, Arg.peek, pureR, args, peeks, Tg.store, partOf, cutD, c1, c2, h1, h2, ins, hm, hK, List.map_take, List.map_drop]
    refine ⟨.sh (.int (k : Nat)), ?_⟩
    have hc : eval (P.lib (callF P (n + 1))) (.cmp .notin (.var 2) (.var 1)) [x0, .ow true (.lst (acc.map nD)), .sh (nD p), y3, .no] = .ok (.bl true, false) [x0, .ow true (.lst (acc.map nD)), .sh (nD p), y3, .no] := by
      simp [eval, argOf, Arg.peek, pureR, hin, hm]
    have st : exec (P.lib (callF P (n + 1))) (.ite (.cmp .notin (.var 2) (.var 1)) [.asg (.name 3) (.bi .len [.lc (.var 4) [4] (.name 4) .seq [.var 1] [.call 20 [.var 4, .var 2] [0, 1]]]), .asg (.name 1) (.bin .add (.bin .add (.cut (.var 1) (.con .non) (.var 3)) (.lst [.var 2])) (.cut (.var 1) (.var 3) (.con .non)))] []) [x0, .ow true (.lst (acc.map nD)), .sh (nD p), y3, .no] = .ok .nx [x0, .ow true (.lst ((ins p acc).map nD)), .sh (nD p), .sh (.int (k : Nat)), .no] := by
      rw [ite_of (by simp) hc]
      simp only [truth_bl, if_true]
      rw [ss_nx e1, ss_nx e2, execs]
    rw [ss_nx st, execs]
theorem c_l_sortedA (n : Nat) (l : List Nu) (a0 : Sl) (h0 : a0 = .sh (.lst (l.map nD)) ∨ a0 = .ow false (.lst (l.map nD))) (hz : l.length ≤ 1000) (hl : ∀ q ∈ l, Nb 1000 q) : callF P (n + 2) 22 [a0] = .ok (.lst ((srt l).map nD)) true [.sh (.lst (l.map nD))] := by
  have key : Ok (exec (P.lib (callF P (n + 1))) (.fo (.name 2) .seq [.var 0] [.ite (.cmp .notin (.var 2) (.var 1)) [.asg (.name 3) (.bi .len [.lc (.var 4) [4] (.name 4) .seq [.var 1] [.call 20 [.var 4, .var 2] [0, 1]]]), .asg (.name 1) (.bin .add (.bin .add (.cut (.var 1) (.con .non) (.var 3)) (.lst [.var 2])) (.cut (.var 1) (.var 3) (.con .non)))] []]) [a0, .ow true (.lst []), .no, .no, .no]) fun fl e => fl = .nx ∧ ∃ y2 y3, e = [.sh (.lst (l.map nD)), .ow true (.lst ((srt l).map nD)), y2, y3, .no] := by
    refine Ok_for (items := l.map nD) (env1 := [.sh (.lst (l.map nD)), .ow true (.lst []), .no, .no, .no]) (by rcases h0 with rfl | rfl <;> rfl) ?_
    refine (Ok_loop (fun j env => ∃ y2 y3, env = [.sh (.lst (l.map nD)), .ow true (.lst ((srt (l.take j)).map nD)), y2, y3, .no]) ⟨_, _, rfl⟩ fun j hj env ⟨y2, y3, he⟩ => ?_).mono fun fl e ⟨h1, h2⟩ => ⟨h1, ?_⟩
    · subst he
      have hj' : j < l.length := by simpa using hj
      have hs : (srt (l.take j)).length ≤ 1000 := Nat.le_trans (srt_len _) (by rw [List.length_take]; omega)
      obtain ⟨z3, e⟩ := l_sorted_body n (.sh (.lst (l.map nD))) y2 y3 l[j] (srt (l.take j)) hs (hl _ (List.getElem_mem hj')) fun q hq => hl q (List.mem_of_mem_take (srt_mem.mp hq))
      have hj2 : (l.map nD)[j] = nD l[j] := List.getElem_map _
      rw [hj2]
      show Ok (execs (P.lib (callF P (n + 1))) _ [.sh (.lst (l.map nD)), .ow true (.lst ((srt (l.take j)).map nD)), .sh (nD l[j]), y3, .no]) _
      rw [e, Ok_ok, take_succ_map l hj', srt_snoc]
      exact ⟨.inl rfl, _, _, rfl⟩
    · simp only [List.length_map, List.take_length] at h2
      exact h2
  obtain ⟨fl, e, h1, rfl, y2, y3, rfl⟩ := key.ex
  rw [callF_of g_l_sorted rfl (by rcases h0 with rfl | rfl <;> rfl)]
  show outF 1 (execs (P.lib (callF P (n + 1))) [.asg (.name 1) (.lst []), .fo (.name 2) .seq [.var 0] [.ite (.cmp .notin (.var 2) (.var 1)) [.asg (.name 3) (.bi .len [.lc (.var 4) [4] (.name 4) .seq [.var 1] [.call 20 [.var 4, .var 2] [0, 1]]]), .asg (.name 1) (.bin .add (.bin .add (.cut (.var 1) (.con .non) (.var 3)) (.lst [.var 2])) (.cut (.var 1) (.var 3) (.con .non)))] []], .ret (.var 1)] [a0, .no, .no, .no, .no]) = _
  rw [ss_nx (env' := [a0, .ow true (.lst []), .no, .no, .no]) rfl, ss_nx h1]
  rfl
theorem c_l_sorted (n : Nat) (l : List Nu) (hz : l.length ≤ 1000) (hl : ∀ q ∈ l, Nb 1000 q) : callF P (n + 2) 22 [.sh (.lst (l.map nD))] = .ok (.lst ((srt l).map nD)) true [.sh (.lst (l.map nD))] := c_l_sortedA n l _ (.inl rfl) hz hl
end Vk83


set_option Elab.async false
set_option linter.all false
set_option maxRecDepth 100000
set_option maxHeartbeats 4000000
namespace Vk83
open Pi Lk83
theorem c_l_constants (n : Nat) (p : D) (m : Int) (many : Int) (hp : Src m p) (hm : m ≤ 80000) (h0 : 0 ≤ many) (h1 : many ≤ 100) : ∃ (l : List Nu) (p' : D), (l.length : Int) ≤ many ∧ (∀ q ∈ l, NmP q) ∧ Src (m + 3 * many + 1) p' ∧
    callF P (n + 4) 24 [.ow false p, .sh (.int many)] = .ok (.tup ((srt l).map nD)) false [.ow false p', .sh (.int many)] := by
  obtain ⟨r, p1, r0, r1, hp1, e1⟩ := c_l_draw (n + 2) p m (many + 1) hp (by omega) (by omega) (by omega)
  obtain ⟨k, rfl⟩ : ∃ k : Nat, r = k := ⟨r.toNat, by omega⟩
  have e1 : callF P (n + 3) 17 [.ow false p, .sh (.int (many + 1))] = _ := e1
  have bS : (P.lib (callF P (n + 3))).bor 17 = f17.bor := lib_bor g_l_draw _
  have bN : (P.lib (callF P (n + 3))).bor 23 = f23.bor := lib_bor g_l_number _
  have hi : (args (P.lib (callF P (n + 3))) [.call 17 [.var 0, .bin .add (.var 1) (.con (.int 1))] [0, 1]] [.ow false p, .sh (.int many), .no]).bind (walkB .range) = .ok (rangeD 0 k) [.ow false p1, .sh (.int many), .no] := by
    have ha : args (P.lib (callF P (n + 3))) [.call 17 [.var 0, .bin .add (.var 1) (.con (.int 1))] [0, 1]] [.ow false p, .sh (.int many), .no] = .ok [.val (.int (k : Nat))] [.ow false p1, .sh (.int many), .no] := by
      simp [args, eval, argOf, Arg.peek, doCall, takes, gives, bS, f17, e1]
    rw [ha, Res.bind_ok]
    have := iterD_range (i := (k : Int)) (by omega) (by omega)
    rw [Int.toNat_natCast] at this
    exact walkB_of (ds := [.int k]) rfl this
  have lc := Ok_lc (f := fun d e => match (Tg.name 2).store d false e with
            | none => .bad
            | some e1 => (holds (P.lib (callF P (n + 3))) [] e1).bind fun b e2 => if b then (eval (P.lib (callF P (n + 3))) (.call 23 [.var 0] [0]) e2).bind fun r e3 => .ok (some r.1) (wipeE e3 [2]) else .ok none (wipeE e2 [2]))
    (fun j ds env => ∃ (l : List Nu) (q : D), ds = l.map nD ∧ l.length = j ∧ (∀ q ∈ l, NmP q) ∧ Src (m + 1 + 3 * j) q ∧ env = [.ow false q, .sh (.int many), .no])
    (items := rangeD 0 k) (env := [.ow false p1, .sh (.int many), .no]) (by rw [rangeD_len]; omega) ⟨[], p1, rfl, rfl, by simp, by simpa using hp1, rfl⟩ fun j hj acc env hl ⟨l, q, ha, hl2, hl3, hq, he⟩ => by
      subst he ha
      rw [rangeD_len] at hj
      obtain ⟨a, b, q2, hn, hq2, e2⟩ := c_l_number (n + 1) q (m + 1 + 3 * j) hq (by omega)
      have e2 : callF P (n + 3) 23 [.ow false q] = _ := e2
      refine Ok.of (a := some (num a b)) (e := [.ow false q2, .sh (.int many), .no]) (by simp [Tg.store, holds, eval, args, argOf, Arg.peek, doCall, takes, gives, bN, f23, e2, wipeE]) ⟨_, rfl, l ++ [(a, b)], q2, by simp, by simp [hl2], fun x hx => ?_, hq2.le (by omega), rfl⟩
      rcases List.mem_append.mp hx with h | h
      · exact hl3 x h
      · rw [List.mem_singleton] at h; subst h; exact hn
  obtain ⟨ds, env2, h2, h3, l, q, rfl, hl, hl3, hq, rfl⟩ := lc.ex
  rw [rangeD_len] at hl h3 hq
  have lcE := lc_of (L := P.lib (callF P (n + 3))) (elt := .call 23 [.var 0] [0]) (own := [2]) (tg := .name 2) (conds := []) hi h2
  have e3 := c_l_sorted (n + 1) l (by omega) (fun q hq => (nm_nb (hl3 q hq)).le (by decide))
  have e3 : callF P (n + 3) 22 [.sh (.lst (l.map nD))] = _ := e3
  have b1 := call_one (f := 22) (by simp) lcE
  have e4 : doCall (P.lib (callF P (n + 3))) 22 [.val (.lst (l.map nD))] [0] (backE [.ow false p1, .sh (.int many), .no] [.ow false q, .sh (.int many), .no] [2]) = .ok (.lst ((srt l).map nD), true) [.ow false q, .sh (.int many), .no] := by
    simp [doCall, takes, gives, lib_bor g_l_sorted, f22, e3, backE]
  rw [e4] at b1
  have b2 := bi_one (f := .tuple) (by simp) b1
  refine ⟨l, q, by omega, hl3, hq.le (by omega), ?_⟩
  rw [callF_of g_l_constants rfl rfl]
  show outF 2 (execs (P.lib (callF P (n + 3))) [.ret (.bi .tuple [.call 22 [.lc (.call 23 [.var 0] [0]) [2] (.name 2) .range [.call 17 [.var 0, .bin .add (.var 1) (.con (.int 1))] [0, 1]] []] [0]])] [.ow false p, .sh (.int many), .no]) = _
  rw [ss_rt (ret_of (by simp) b2)]
  rfl
end Vk83


set_option Elab.async false
set_option linter.all false
set_option maxRecDepth 100000
set_option maxHeartbeats 4000000
namespace Vk83
open Pi Lk83
theorem fuel {F F' j : Nat} {as : List Sl} {r : CRes} (h : callF P F j as = r) (e : F = F') : callF P F' j as = r := e ▸ h
theorem c_lib {F j : Nat} {as : List Sl} {r : CRes} (h : callF P F j as = r) : (P.lib (callF P F)).C j as = r := h
def btw (p q : Nu) (a m : Int) : Nu := lowN (p.1 * q.2 * (m - a) + q.1 * p.2 * a) (p.2 * q.2 * m)
theorem btw_facts {p q : Nu} {a m : Int} (hp : Nb 110 p) (hq : Nb 110 q) (ha : 0 ≤ a) (ham : a ≤ m) (h1 : 1 ≤ m) (hm : m ≤ 7) : 0 < p.2 * q.2 * m ∧ (p.1 * q.2 * (m - a) + q.1 * p.2 * a).natAbs < 2 ^ 226 ∧ (p.2 * q.2 * m).natAbs < 2 ^ 226 := by
  have a1 := abs_mul hp.sz.ta hq.sz.tb
  have a2 := abs_mul hq.sz.ta hp.sz.tb
  have a3 := abs_mul hp.sz.tb hq.sz.tb
  have b1 : (p.1 * q.2 * (m - a)).natAbs < 2 ^ (110 + 110 + 3) := abs_mul (k := 3) a1 (by omega)
  have b2 : (q.1 * p.2 * a).natAbs < 2 ^ (110 + 110 + 3) := abs_mul (k := 3) a2 (by omega)
  have b3 : (p.2 * q.2 * m).natAbs < 2 ^ (110 + 110 + 3) := abs_mul (k := 3) a3 (by omega)
  exact ⟨Int.mul_pos (Int.mul_pos hp.nz.pos hq.nz.pos) (by omega), Nat.lt_of_lt_of_le (abs_add b1 b2) (Nat.pow_le_pow_right (by decide) (by decide)), Nat.lt_of_lt_of_le b3 (Nat.pow_le_pow_right (by decide) (by decide))⟩
theorem btw_nb {p q : Nu} {a m : Int} (hp : Nb 110 p) (hq : Nb 110 q) (ha : 0 ≤ a) (ham : a ≤ m) (h1 : 1 ≤ m) (hm : m ≤ 7) : Nb 226 (btw p q a m) := by
  obtain ⟨h2, h3, h4⟩ := btw_facts hp hq ha ham h1 hm
  exact ⟨lowN_nz h2, lowN_sz h2 h3 h4⟩
theorem st_between {L : Lib} {a b c d x m : Int} {r : D} (bL : L.bor 21 = f21.bor) (m1 : mulOk a d) (m2 : mulOk (a * d) (m - x)) (m3 : mulOk c b) (m4 : mulOk (c * b) x) (m5 : mulOk b d) (m6 : mulOk (b * d) m) (e : L.C 21 [.sh (.int (a * d * (m - x) + c * b * x)), .sh (.int (b * d * m))] = .ok r false [.sh (.int (a * d * (m - x) + c * b * x)), .sh (.int (b * d * m))]) :
    outF 4 (execs L b25 [.sh (num a b), .sh (num c d), .sh (.int x), .sh (.int m), .no]) = .ok r false [.sh (num a b), .sh (num c d), .sh (.int x), .sh (.int m)] := by
  simp [b25, execs, exec, eval, args, argOf, Arg.peek, Tg.store, doCall, takes, gives, bL, f21, m1, m2, m3, m4, m5, m6, e, outF]
theorem c_l_between (n : Nat) (p q : Nu) (a m : Int) (hp : Nb 110 p) (hq : Nb 110 q) (ha : 0 ≤ a) (ham : a ≤ m) (h1 : 1 ≤ m) (hm : m ≤ 7) : callF P (n + 2) 25 [.sh (nD p), .sh (nD q), .sh (.int a), .sh (.int m)] = .ok (nD (btw p q a m)) false [.sh (nD p), .sh (nD q), .sh (.int a), .sh (.int m)] := by
  obtain ⟨h2, h3, h4⟩ := btw_facts hp hq ha ham h1 hm
  have a1 := abs_mul hp.sz.ta hq.sz.tb
  have a2 := abs_mul hq.sz.ta hp.sz.tb
  have a3 := abs_mul hp.sz.tb hq.sz.tb
  have e := c_l_low n _ _ h2 (Nat.lt_of_lt_of_le h3 (Nat.pow_le_pow_right (by decide) (by decide))) (Nat.lt_of_lt_of_le h4 (Nat.pow_le_pow_right (by decide) (by decide)))
  rw [callF_of g_l_between rfl rfl]
  exact st_between (lib_bor g_l_low _) (mulSz hp.sz.ta hq.sz.tb) (mulSz (j := 4) a1 (by omega)) (mulSz hq.sz.ta hp.sz.tb) (mulSz (j := 4) a2 (by omega)) (mulSz hp.sz.tb hq.sz.tb) (mulSz (j := 4) a3 (by omega)) (c_lib e)
/-! the row -/
def headE : E := .lc (.tup [.bin .sub (.ix (.var 2) (.con (.int 0))) (.bin .mul (.bin .sub (.var 1) (.var 7)) (.ix (.var 2) (.con (.int 1)))), .ix (.var 2) (.con (.int 1))]) [7] (.name 7) .range [.var 1] []
def lastE : E := .lc (.tup [.bin .add (.ix (.var 3) (.con (.int 0))) (.bin .mul (.bin .add (.var 7) (.con (.int 1))) (.ix (.var 3) (.con (.int 1)))), .ix (.var 3) (.con (.int 1))]) [7] (.name 7) .range [.var 1] []
def gapE : E := .lc (.call 25 [.var 6, .ix (.var 0) (.bin .add (.var 5) (.con (.int 1))), .bin .add (.var 7) (.con (.int 1)), .bin .add (.var 1) (.con (.int 1))] [0, 1, 2, 3]) [7] (.name 7) .range [.var 1] []
def zeroE : E := .lc (.tup [.var 7, .con (.int 1)]) [7] (.name 7) .range [.var 1] []
def rowB : List S := [.app 4 (.var 6), .ite (.cmp .lt (.bin .add (.var 5) (.con (.int 1))) (.bi .len [.var 0])) [.ext 4 gapE] []]
theorem row_body : b26 = [.ite (.cmp .eq (.var 0) (.tup [])) [.ret zeroE] [], .par [2, 3, 4] [.ix (.var 0) (.con (.int 0)), .ix (.var 0) (.neg (.con (.int 1))), .lst []], .ext 4 headE, .fo (.tup [5, 6]) .enum [.var 0] rowB, .ret (.bin .add (.var 4) lastE)] := rfl
section
variable {L : Lib} {many : Nat} {x0 x2 x3 x4 x5 x6 x7 : Sl}
theorem row_it (hm : many ≤ 6) : (args L [.var 1] [x0, .sh (.int many), x2, x3, x4, x5, x6, x7]).bind (walkB .range) = .ok (rangeD 0 many) [x0, .sh (.int many), x2, x3, x4, x5, x6, x7] := range_walkS (k := many) (i := 1) (by omega) (by simp [args, argOf]) rfl
theorem row_zero (hm : many ≤ 6) : eval L zeroE [x0, .sh (.int many), x2, x3, x4, x5, x6, x7] = .ok (.lst (((List.range many).map fun (i : Nat) => ((i : Int), (1 : Int))).map nD), true) [x0, .sh (.int many), x2, x3, x4, x5, x6, x7] := by
  have lc := lc_mapR (L := L) (env := [x0, .sh (.int many), x2, x3, x4, x5, x6, x7]) (env1 := [x0, .sh (.int many), x2, x3, x4, x5, x6, x7]) (elt := .tup [.var 7, .con (.int 1)]) (own := [7]) (tg := .name 7) (fun (i : Nat) => nD ((i : Int), (1 : Int))) (row_it hm) (by omega) fun i hi => ⟨_, [x0, .sh (.int many), x2, x3, x4, x5, x6, .sh (.int i)], false, rfl, by simp [wipeE, eval, evals], rfl⟩
  unfold zeroE
  rw [lc, List.map_map]
  simp [backE, wipeE]
theorem row_head (hm : many ≤ 6) {a b : Int} (hb : b.natAbs < 2 ^ 110) : eval L headE [x0, .sh (.int many), .sh (num a b), x3, x4, x5, x6, x7] = .ok (.lst (((List.range many).map fun (i : Nat) => (a - ((many : Int) - i) * b, b)).map nD), true) [x0, .sh (.int many), .sh (num a b), x3, x4, x5, x6, x7] := by
  have lc := lc_mapR (L := L) (env := [x0, .sh (.int many), .sh (num a b), x3, x4, x5, x6, x7]) (env1 := [x0, .sh (.int many), .sh (num a b), x3, x4, x5, x6, x7]) (elt := .tup [.bin .sub (.ix (.var 2) (.con (.int 0))) (.bin .mul (.bin .sub (.var 1) (.var 7)) (.ix (.var 2) (.con (.int 1)))), .ix (.var 2) (.con (.int 1))]) (own := [7]) (tg := .name 7) (fun (i : Nat) => nD (a - ((many : Int) - i) * b, b)) (row_it hm) (by omega) fun i hi => ⟨_, [x0, .sh (.int many), .sh (num a b), x3, x4, x5, x6, .sh (.int i)], false, rfl, by
    have m1 : mulOk ((many : Int) - i) b := mulSz (i := 4) (by omega) hb
    simp [wipeE, eval, evals, argOf, Arg.peek, m1], rfl⟩
  unfold headE
  rw [lc, List.map_map]
  simp [backE, wipeE]
theorem row_last (hm : many ≤ 6) {a b : Int} (hb : b.natAbs < 2 ^ 110) : eval L lastE [x0, .sh (.int many), x2, .sh (num a b), x4, x5, x6, x7] = .ok (.lst (((List.range many).map fun (i : Nat) => (a + ((i : Int) + 1) * b, b)).map nD), true) [x0, .sh (.int many), x2, .sh (num a b), x4, x5, x6, x7] := by
  have lc := lc_mapR (L := L) (env := [x0, .sh (.int many), x2, .sh (num a b), x4, x5, x6, x7]) (env1 := [x0, .sh (.int many), x2, .sh (num a b), x4, x5, x6, x7]) (elt := .tup [.bin .add (.ix (.var 3) (.con (.int 0))) (.bin .mul (.bin .add (.var 7) (.con (.int 1))) (.ix (.var 3) (.con (.int 1)))), .ix (.var 3) (.con (.int 1))]) (own := [7]) (tg := .name 7) (fun (i : Nat) => nD (a + ((i : Int) + 1) * b, b)) (row_it hm) (by omega) fun i hi => ⟨_, [x0, .sh (.int many), x2, .sh (num a b), x4, x5, x6, .sh (.int i)], false, rfl, by
    have m1 : mulOk ((i : Int) + 1) b := mulSz (i := 4) (by omega) hb
    simp [wipeE, eval, evals, argOf, Arg.peek, m1], rfl⟩
  unfold lastE
  rw [lc, List.map_map]
  simp [backE, wipeE]
theorem row_gap (hm : many ≤ 6) {C : List D} {j : Nat} {p q : Nu} (bB : L.bor 25 = f25.bor) (ix : C[j + 1]? = some (nD q))
    (e : ∀ i : Nat, i < many → L.C 25 [.sh (nD p), .sh (nD q), .sh (.int ((i : Int) + 1)), .sh (.int ((many : Int) + 1))] = .ok (nD (btw p q ((i : Int) + 1) ((many : Int) + 1))) false [.sh (nD p), .sh (nD q), .sh (.int ((i : Int) + 1)), .sh (.int ((many : Int) + 1))]) :
    eval L gapE [.sh (.tup C), .sh (.int many), x2, x3, x4, .sh (.int j), .sh (nD p), x7] = .ok (.lst (((List.range many).map fun (i : Nat) => btw p q ((i : Int) + 1) ((many : Int) + 1)).map nD), true) [.sh (.tup C), .sh (.int many), x2, x3, x4, .sh (.int j), .sh (nD p), x7] := by
  have aj : L2.atI C ((j : Int) + 1) = some (nD q) := by
    have : ((j : Int) + 1) = ((j + 1 : Nat) : Int) := by omega
    rw [this, atI_n]; exact ix
  have lc := lc_mapR (L := L) (env := [.sh (.tup C), .sh (.int many), x2, x3, x4, .sh (.int j), .sh (nD p), x7]) (env1 := [.sh (.tup C), .sh (.int many), x2, x3, x4, .sh (.int j), .sh (nD p), x7]) (elt := .call 25 [.var 6, .ix (.var 0) (.bin .add (.var 5) (.con (.int 1))), .bin .add (.var 7) (.con (.int 1)), .bin .add (.var 1) (.con (.int 1))] [0, 1, 2, 3]) (own := [7]) (tg := .name 7) (fun (i : Nat) => nD (btw p q ((i : Int) + 1) ((many : Int) + 1))) (row_it hm) (by omega) fun i hi => ⟨_, [.sh (.tup C), .sh (.int many), x2, x3, x4, .sh (.int j), .sh (nD p), .sh (.int i)], false, rfl, by
    have e := e i hi
    generalize nD (btw p q ((i : Int) + 1) ((many : Int) + 1)) = r at *
    generalize nD p = P' at *
    generalize nD q = Q' at *
    simp [wipeE, eval, args, argOf, Arg.peek, doCall, takes, gives, bB, f25, aj, e], rfl⟩
  unfold gapE
  rw [lc, List.map_map]
  simp [backE, wipeE]
theorem row_step (hm : many ≤ 6) {C : List D} {j K : Nat} {p : Nu} (hj : j < K) (len : C.length = K) {acc : List Nu} (hL : acc.length ≤ 900) (G : List Nu) (hG : G.length ≤ 6) (hK : K ≤ 50)
    {ge : E} (eg : j + 1 < K → ∀ x4, eval L ge [.sh (.tup C), .sh (.int many), x2, x3, x4, .sh (.int j), .sh (nD p), x7] = .ok (.lst (G.map nD), true) [.sh (.tup C), .sh (.int many), x2, x3, x4, .sh (.int j), .sh (nD p), x7]) :
    execs L [.app 4 (.var 6), .ite (.cmp .lt (.bin .add (.var 5) (.con (.int 1))) (.bi .len [.var 0])) [.ext 4 ge] []] [.sh (.tup C), .sh (.int many), x2, x3, .ow true (.lst (acc.map nD)), .sh (.int j), .sh (nD p), x7] = .ok .nx [.sh (.tup C), .sh (.int many), x2, x3, .ow true (.lst ((acc ++ p :: (if j + 1 < K then G else [])).map nD)), .sh (.int j), .sh (nD p), x7] := by
  have hz : (acc.map nD).length < 100000 := by rw [List.length_map]; omega
  have hz2 : (acc.map nD).length + 1 + (G.map nD).length ≤ 100000 := by rw [List.length_map, List.length_map]; omega
  rw [List.map_append, List.map_cons]
  generalize acc.map nD = A at *
  generalize nD p = P' at *
  by_cases hlt : j + 1 < K
  · rw [if_pos hlt]
    have eg := eg hlt
    have hlt' : ((j : Int) + 1 < K) := by omega
    generalize G.map nD = G' at *
    simp [execs, exec, eval, args, argOf, Arg.peek, peeks, len, hlt', hz, eg, hz2]
  · rw [if_neg hlt]
    have hlt' : ¬ ((j : Int) + 1 < K) := by omega
    simp [execs, exec, eval, args, argOf, Arg.peek, peeks, len, hlt', hz]
end
theorem near_nb {p : Nu} {j : Int} (hp : Nb 110 p) (hj : j.natAbs ≤ 7) : Nb 226 ((p.1 + j * p.2, p.2) : Nu) := by
  refine ⟨⟨hp.nz.pos, ?_⟩, ⟨?_, Nat.lt_of_lt_of_le hp.sz.tb (Nat.pow_le_pow_right (by decide) (by decide))⟩⟩
  · have h1 := hp.nz.one
    have e : Int.gcd (p.1 + j * p.2) p.2 = Int.gcd p.1 p.2 := by rw [Int.gcd_add_mul_right_left]
    show ((Nat.gcd (p.1 + j * p.2).natAbs p.2.natAbs : Nat) : Int) = 1
    show ((Int.gcd (p.1 + j * p.2) p.2 : Nat) : Int) = 1
    rw [e]
    exact h1
  · have h1 := hp.sz.ta
    have h2 := hp.sz.tb
    have h3 : (j * p.2).natAbs ≤ 7 * p.2.natAbs := by rw [Int.natAbs_mul]; exact Nat.mul_le_mul_right _ hj
    show (p.1 + j * p.2).natAbs < 2 ^ 226
    omega
theorem c_l_row (n many : Nat) (cs : List Nu) (hm : many ≤ 6) (hm0 : 1 ≤ many) (hz : cs.length ≤ 50) (hc : ∀ q ∈ cs, Nb 110 q) : ∃ R : List Nu, (∀ p ∈ R, Nb 226 p) ∧ R ≠ [] ∧ R.length ≤ 400 ∧
    callF P (n + 3) 26 [.sh (.tup (cs.map nD)), .sh (.int many)] = .ok (.lst (R.map nD)) true [.sh (.tup (cs.map nD)), .sh (.int many)] := by
  have q0 : cmpD .eq (.tup (cs.map nD)) (.tup []) = some (decide (cs = [])) := by
    rw [cmpD_eq (by rw [depth_tup]; have := nD_depths cs; omega) (by simp [D.depth, D.depths])]
    cases cs <;> simp [D.eqb, D.eqbs]
  rw [callF_of g_l_row rfl rfl]
  show ∃ R, _ ∧ _ ∧ _ ∧ outF 2 (execs (P.lib (callF P (n + 2))) b26 [.sh (.tup (cs.map nD)), .sh (.int many), .no, .no, .no, .no, .no, .no]) = _
  rw [row_body]
  by_cases h0 : cs = []
  · rw [decide_eq_true h0] at q0
    refine ⟨(List.range many).map fun (i : Nat) => ((i : Int), (1 : Int)), fun p hp => ?_, fun z => ?_, by simp; omega, ?_⟩
    · obtain ⟨i, hi, rfl⟩ := List.mem_map.mp hp
      have := List.mem_range.mp hi
      exact ⟨⟨by show (0 : Int) < 1; decide, by show ((Nat.gcd _ 1 : Nat) : Int) = 1; rw [Nat.gcd_one_right]; rfl⟩, ⟨by show (i : Int).natAbs < _; omega, by show (1 : Int).natAbs < _; decide⟩⟩
    · have := congrArg List.length z
      simp at this
      omega
    · generalize cs.map nD = C at *
      rw [ite_ret (fr := false) (by simp) (by simp [eval, evals, argOf, Arg.peek, q0]) (by simp [zeroE]) (row_zero hm)]
      simp [outF]
  · rw [decide_eq_false h0] at q0
    have hpos := List.length_pos_iff.mpr h0
    have ix : ∀ i, i < cs.length → (cs.map nD)[i]? = some (nD (nth cs i)) := fun i hi => map_nth hi
    have ixl : L2.atI (cs.map nD) (-1) = some (nD (nth cs (cs.length - 1))) := by
      rw [atI_m1 (by simpa using h0), List.length_map]; exact map_nth (by omega)
    have len : (cs.map nD).length = cs.length := List.length_map _
    have nb : ∀ i, i < cs.length → Nb 110 (nth cs i) := fun i hi => hc _ (nth_mem hi)
    have nl := nb (cs.length - 1) (by omega)
    have n0 := nb 0 hpos
    have ix0 := ix 0 hpos
    have ei : (List.range (cs.map nD).length).zipWith (fun (k : Nat) x => D.tup [.int k, x]) (cs.map nD) = (List.range cs.length).map fun (k : Nat) => D.tup [.int k, nD (nth cs k)] := by
      apply List.ext_getElem
      · simp
      · intro i h1 h2
        simp only [List.length_map, List.length_range] at h2
        have := ix i h2
        rw [List.getElem?_eq_getElem (by rw [len]; exact h2)] at this
        have := Option.some.inj this
        simp only [List.getElem_zipWith, List.getElem_range, List.getElem_map] at this ⊢
        rw [this]
    have bB : (P.lib (callF P (n + 2))).bor 25 = f25.bor := lib_bor g_l_between _
    have eb : ∀ i, i + 1 < cs.length → ∀ t : Nat, t < many → (P.lib (callF P (n + 2))).C 25 [.sh (nD (nth cs i)), .sh (nD (nth cs (i + 1))), .sh (.int ((t : Int) + 1)), .sh (.int ((many : Int) + 1))] = .ok (nD (btw (nth cs i) (nth cs (i + 1)) ((t : Int) + 1) ((many : Int) + 1))) false [.sh (nD (nth cs i)), .sh (nD (nth cs (i + 1))), .sh (.int ((t : Int) + 1)), .sh (.int ((many : Int) + 1))] := fun i hi t ht =>
      c_lib (c_l_between n _ _ _ _ (nb i (by omega)) (nb (i + 1) hi) (by omega) (by omega) (by omega) (by omega))
    generalize hL : P.lib (callF P (n + 2)) = L at *
    clear hL
    generalize hf : nth cs 0 = f0 at *
    generalize hl : nth cs (cs.length - 1) = l0 at *
    obtain ⟨fa, fb⟩ := f0
    obtain ⟨la, lb⟩ := l0
    have e2 : exec L (.par [2, 3, 4] [.ix (.var 0) (.con (.int 0)), .ix (.var 0) (.neg (.con (.int 1))), .lst []]) [.sh (.tup (cs.map nD)), .sh (.int many), .no, .no, .no, .no, .no, .no] = .ok .nx [.sh (.tup (cs.map nD)), .sh (.int many), .sh (num fa fb), .sh (num la lb), .ow true (.lst []), .no, .no, .no] := by
      generalize cs.map nD = C at *
      simp [exec, eval, evals, argOf, Arg.peek, ix0, ixl]
    have hh := row_head (L := L) (x0 := .sh (.tup (cs.map nD))) (x3 := .sh (num la lb)) (x4 := .ow true (.lst [])) (x5 := .no) (x6 := .no) (x7 := .no) hm (a := fa) (b := fb) n0.sz.tb
    have hlen : ((List.range many).map fun (i : Nat) => (fa - ((many : Int) - i) * fb, fb)).length ≤ 6 := by simp; exact hm
    have hnb : ∀ p ∈ (List.range many).map fun (i : Nat) => (fa - ((many : Int) - i) * fb, fb), Nb 226 p := fun p hp => by
      obtain ⟨i, hi, rfl⟩ := List.mem_map.mp hp
      have := List.mem_range.mp hi
      have := near_nb (j := -((many : Int) - i)) n0 (by omega)
      rwa [Int.neg_mul, ← Int.sub_eq_add_neg] at this
    have hne : (List.range many).map (fun (i : Nat) => (fa - ((many : Int) - i) * fb, fb)) ≠ [] := fun z => by
      have := congrArg List.length z
      simp at this
      omega
    generalize (List.range many).map (fun (i : Nat) => (fa - ((many : Int) - i) * fb, fb)) = HN at *
    have e3 : exec L (.ext 4 headE) [.sh (.tup (cs.map nD)), .sh (.int many), .sh (num fa fb), .sh (num la lb), .ow true (.lst []), .no, .no, .no] = .ok .nx [.sh (.tup (cs.map nD)), .sh (.int many), .sh (num fa fb), .sh (num la lb), .ow true (.lst (HN.map nD)), .no, .no, .no] := by
      have hz1 : (HN.map nD).length ≤ 100000 := by rw [List.length_map]; omega
      generalize HN.map nD = H' at *
      generalize cs.map nD = C at *
      simp [exec, hh, hz1]
    have lp := Ok_foM (L := L) (tg := .tup [5, 6]) (k := .enum) (b := rowB) (es := [.var 0]) (env := [.sh (.tup (cs.map nD)), .sh (.int many), .sh (num fa fb), .sh (num la lb), .ow true (.lst (HN.map nD)), .no, .no, .no]) (env1 := [.sh (.tup (cs.map nD)), .sh (.int many), .sh (num fa fb), .sh (num la lb), .ow true (.lst (HN.map nD)), .no, .no, .no]) (xs := List.range cs.length) (fun (k : Nat) => D.tup [.int k, nD (nth cs k)])
      (by rw [← ei]; rfl) (fun j env => ∃ (A : List Nu) (y5 y6 : Sl), env = [.sh (.tup (cs.map nD)), .sh (.int many), .sh (num fa fb), .sh (num la lb), .ow true (.lst (A.map nD)), y5, y6, .no] ∧ (∀ p ∈ A, Nb 226 p) ∧ A ≠ [] ∧ A.length ≤ 6 + 7 * j) ⟨HN, .no, .no, rfl, hnb, hne, by omega⟩ (fun j hj env ⟨A, y5, y6, he, h1, h2, h3⟩ => by
        subst he
        simp only [List.length_range] at hj
        rw [List.getElem_range]
        have nj := nb j hj
        have st := row_step (L := L) (ge := gapE) (x2 := .sh (num fa fb)) (x3 := .sh (num la lb)) (x7 := .no) (p := nth cs j) (acc := A) hm hj len (by omega) ((List.range many).map fun (i : Nat) => btw (nth cs j) (nth cs (j + 1)) ((i : Int) + 1) ((many : Int) + 1)) (by simp; exact hm) hz (fun hlt x4 => row_gap hm bB (ix (j + 1) hlt) (eb j hlt))
        refine Ok_turnT (e1 := [.sh (.tup (cs.map nD)), .sh (.int many), .sh (num fa fb), .sh (num la lb), .ow true (.lst (A.map nD)), .sh (.int j), .sh (nD (nth cs j)), .no]) rfl (Ok.of st ⟨.inl rfl, _, _, _, rfl, fun p hp => ?_, by simp, ?_⟩)
        · rcases List.mem_append.mp hp with hp | hp
          · exact h1 p hp
          · rcases List.mem_cons.mp hp with rfl | hp
            · exact nj.le (by decide)
            · split at hp
              · rename_i hlt
                obtain ⟨i, hi, rfl⟩ := List.mem_map.mp hp
                have := List.mem_range.mp hi
                exact btw_nb nj (nb (j + 1) hlt) (by omega) (by omega) (by omega) (by omega)
              · cases hp
        · rw [List.length_append, List.length_cons]
          split
          · simp; omega
          · simp; omega)
    obtain ⟨fl, e, hx, rfl, A, y5, y6, rfl, h1, h2, h3⟩ := lp.ex
    simp only [List.length_range] at h3
    have hla := row_last (L := L) (x0 := .sh (.tup (cs.map nD))) (x2 := .sh (num fa fb)) (x4 := .ow true (.lst (A.map nD))) (x5 := y5) (x6 := y6) (x7 := .no) hm (a := la) (b := lb) nl.sz.tb
    have lnb : ∀ p ∈ (List.range many).map fun (i : Nat) => (la + ((i : Int) + 1) * lb, lb), Nb 226 p := fun p hp => by
      obtain ⟨i, hi, rfl⟩ := List.mem_map.mp hp
      have := List.mem_range.mp hi
      exact near_nb (j := (i : Int) + 1) nl (by omega)
    have llen : ((List.range many).map fun (i : Nat) => (la + ((i : Int) + 1) * lb, lb)).length ≤ 6 := by simp; exact hm
    generalize (List.range many).map (fun (i : Nat) => (la + ((i : Int) + 1) * lb, lb)) = LN at *
    have hz3 : (A.map nD).length + (LN.map nD).length ≤ 100000 := by rw [List.length_map, List.length_map]; omega
    have b1 : eval L (.bin .add (.var 4) lastE) [.sh (.tup (cs.map nD)), .sh (.int many), .sh (num fa fb), .sh (num la lb), .ow true (.lst (A.map nD)), y5, y6, .no] = .ok (.lst (A.map nD ++ LN.map nD), true) [.sh (.tup (cs.map nD)), .sh (.int many), .sh (num fa fb), .sh (num la lb), .ow true (.lst (A.map nD)), y5, y6, .no] :=
      bin_slot (.inr ⟨true, .lst (A.map nD), rfl⟩) (by simp [lastE]) hla rfl (opD_lst hz3)
    refine ⟨A ++ LN, fun p hp => (List.mem_append.mp hp).elim (h1 p) (lnb p), by simp [h2], by rw [List.length_append]; omega, ?_⟩
    rw [ite_no (fr := false) (env' := [.sh (.tup (cs.map nD)), .sh (.int many), .no, .no, .no, .no, .no, .no]) (by simp) (by
      generalize cs.map nD = C at *
      simp [eval, evals, argOf, Arg.peek, q0]), ss_nx e2, ss_nx e3, ss_nx hx, ss_rt (ret_of (by simp) b1), List.map_append]
    simp [outF]
end Vk83


set_option Elab.async false
set_option linter.all false
set_option maxRecDepth 100000
set_option maxHeartbeats 4000000
namespace Vk83
open Pi Lk83
/-! relations -/
abbrev sD (b e : Nu) : D := .tup [nD b, nD e]
section
variable {p q : Nu} (hp : Nb 2000 p) (hq : Nb 2000 q)
include hp hq
theorem c_ahead2 (n : Nat) : callF P (n + 1) 6 [.sh (nD p), .sh (nD q)] = .ok (.bl (lt2 p q)) false [.sh (nD p), .sh (nD q)] :=
  c_ahead n p.1 p.2 q.1 q.2 (mulSz hp.sz.ta hq.sz.tb) (mulSz hq.sz.ta hp.sz.tb)
theorem c_l_ahead2 (n : Nat) : callF P (n + 1) 20 [.sh (nD p), .sh (nD q)] = .ok (.bl (lt2 p q)) false [.sh (nD p), .sh (nD q)] :=
  c_l_ahead n p.1 p.2 q.1 q.2 (mulSz hp.sz.ta hq.sz.tb) (mulSz hq.sz.ta hp.sz.tb)
end
theorem st_way {L : Lib} {x y : D} {u v : Bool} (bA : L.bor 6 = f6.bor) (e1 : L.C 6 [.sh y, .sh x] = .ok (.bl u) false [.sh y, .sh x]) (e2 : L.C 6 [.sh x, .sh y] = .ok (.bl v) false [.sh x, .sh y]) :
    outF 2 (execs L b10 [.sh x, .sh y]) = .ok (.int ((if u then 1 else 0) - (if v then 1 else 0))) false [.sh x, .sh y] := by
  simp [b10, execs, exec, eval, args, argOf, Arg.peek, peeks, doCall, takes, gives, bA, f6, e1, e2, outF]
theorem c_way (n : Nat) {p q : Nu} (hp : Nb 2000 p) (hq : Nb 2000 q) : callF P (n + 2) 10 [.sh (nD p), .sh (nD q)] = .ok (.int (wy p q)) false [.sh (nD p), .sh (nD q)] := by
  rw [callF_of g_way_of_two rfl rfl]
  exact st_way (lib_bor g_ahead _) (c_lib (c_ahead2 hq hp n)) (c_lib (c_ahead2 hp hq n))
theorem st_rel {L : Lib} {b e l h : D} {u v c1 c2 : Bool} {x y r : Int} (bA : L.bor 6 = f6.bor) (bW : L.bor 10 = f10.bor)
    (e1 : L.C 6 [.sh l, .sh e] = .ok (.bl u) false [.sh l, .sh e]) (e2 : L.C 6 [.sh b, .sh h] = .ok (.bl v) false [.sh b, .sh h]) (q1 : cmpD .eq e l = some c1) (q2 : cmpD .eq b h = some c2)
    (e3 : L.C 10 [.sh b, .sh l] = .ok (.int x) false [.sh b, .sh l]) (e4 : L.C 10 [.sh e, .sh h] = .ok (.int y) false [.sh e, .sh h]) (dc : L.dic 0 = some metL) (dd : dicD metL (.tup [.int x, .int y]) = some (.int r, false)) :
    outF 2 (execs L b11 [.sh (.tup [b, e]), .sh (.tup [l, h])]) = .ok (.int (if u = false then (if c1 then 1 else 0) else if v = false then (if c2 then 11 else 12) else r)) false [.sh (.tup [b, e]), .sh (.tup [l, h])] := by
  cases u
  · cases c1 <;> simp [b11, execs, exec, eval, args, argOf, Arg.peek, doCall, takes, gives, bA, f6, e1, q1, outF]
  · cases v
    · cases c2 <;> simp [b11, execs, exec, eval, args, argOf, Arg.peek, doCall, takes, gives, bA, f6, e1, e2, q2, outF]
    · simp [b11, execs, exec, eval, evals, args, argOf, Arg.peek, doCall, takes, gives, bA, f6, bW, f10, e1, e2, e3, e4, dc, dd, outF]
theorem nD_cmp (p q : Nu) : cmpD .eq (nD p) (nD q) = some (decide (p = q)) := by
  rw [cmpD_eq (by rw [nD_depth]; decide) (by rw [nD_depth]; decide), nD_eqb]
theorem c_relation_in (n : Nat) {b e l h : Nu} (hb : Nb 2000 b) (he : Nb 2000 e) (hl : Nb 2000 l) (hh : Nb 2000 h) : callF P (n + 3) 11 [.sh (sD b e), .sh (sD l h)] = .ok (.int (rel b e l h)) false [.sh (sD b e), .sh (sD l h)] := by
  rw [callF_of g_relation_in rfl rfl]
  have := st_rel (L := P.lib (callF P (n + 2))) (lib_bor g_ahead _) (lib_bor g_way_of_two _) (c_lib (c_ahead2 hl he (n + 1))) (c_lib (c_ahead2 hb hh (n + 1))) (nD_cmp e l) (nD_cmp b h) (c_lib (c_way n hb hl)) (c_lib (c_way n he hh)) rfl (met_dic b l e h)
  simp only [decide_eq_true_eq] at this
  exact this
/-- what is a stretch -/
def isSt : D → Bool
  | .tup [x, y] => isNum x && isNum y && lt2 (unN x) (unN y)
  | _ => false
theorem isNum_nD {x : D} (h : isNum x = true) : x = nD (unN x) ∧ Nz (unN x) := by
  cases x with
  | tup xs =>
    rcases xs with _ | ⟨a, _ | ⟨b, _ | ⟨c, r⟩⟩⟩
    · cases h
    · cases a <;> cases h
    · cases a <;> cases b <;> first | (cases h; done) | skip
      rename_i a b
      simp only [isNum, Bool.and_eq_true, decide_eq_true_eq] at h
      exact ⟨rfl, by show (0 : Int) < b; omega, h.2⟩
    · cases a <;> cases b <;> cases h
  | _ => cases h
/-- small numbers, if they are numbers -/
def SmN (x : D) : Prop := isNum x = true → Sz 2000 (unN x)
theorem smN_nD {p : Nu} (h : Nb 2000 p) : SmN (nD p) := fun _ => h.sz
theorem st_is2 {L : Lib} {x y : D} {a b c : Bool} (bT : L.bor 3 = f3.bor) (bN : L.bor 5 = f5.bor) (bA : L.bor 6 = f6.bor)
    (e0 : L.C 3 [.sh (.int 2), .sh (.tup [x, y])] = .ok (.bl true) false [.sh (.int 2), .sh (.tup [x, y])]) (e1 : L.C 5 [.sh x] = .ok (.bl a) false [.sh x]) (e2 : L.C 5 [.sh y] = .ok (.bl b) false [.sh y])
    (e3 : a = true → b = true → L.C 6 [.sh x, .sh y] = .ok (.bl c) false [.sh x, .sh y]) : outF 1 (execs L b7 [.sh (.tup [x, y])]) = .ok (.bl (a && b && c)) false [.sh (.tup [x, y])] := by
  cases a
  · simp [b7, execs, exec, eval, args, argOf, Arg.peek, doCall, takes, gives, bT, f3, bN, f5, e0, e1, outF]
  · cases b
    · simp [b7, execs, exec, eval, args, argOf, Arg.peek, doCall, takes, gives, bT, f3, bN, f5, e0, e1, e2, outF]
    · have e3 := e3 rfl rfl
      simp [b7, execs, exec, eval, args, argOf, Arg.peek, doCall, takes, gives, bT, f3, bN, f5, bA, f6, e0, e1, e2, e3, outF]
theorem st_is0 {L : Lib} {d : D} (bT : L.bor 3 = f3.bor) (e0 : L.C 3 [.sh (.int 2), .sh d] = .ok (.bl false) false [.sh (.int 2), .sh d]) : outF 1 (execs L b7 [.sh d]) = .ok (.bl false) false [.sh d] := by
  simp [b7, execs, exec, eval, args, argOf, Arg.peek, doCall, takes, gives, bT, f3, e0, outF]
theorem c_is_stretch_in (n : Nat) (d : D) (h : ∀ x y, d = .tup [x, y] → SmN x ∧ SmN y) : callF P (n + 4) 7 [.sh d] = .ok (.bl (isSt d)) false [.sh d] := by
  have e0 := c_is_tuple (n + 2) 2 d
  rw [callF_of g_is_stretch_in rfl rfl]
  by_cases hd : ∃ x y, d = .tup [x, y]
  · obtain ⟨x, y, rfl⟩ := hd
    obtain ⟨h1, h2⟩ := h x y rfl
    refine st_is2 (L := P.lib (callF P (n + 3))) (lib_bor g_is_tuple _) (lib_bor g_is_number _) (lib_bor g_ahead _) (c_lib e0) (c_lib (c_is_number n x)) (c_lib (c_is_number n y)) fun a b => ?_
    obtain ⟨e1, z1⟩ := isNum_nD a
    obtain ⟨e2, z2⟩ := isNum_nD b
    have := c_ahead2 (p := unN x) (q := unN y) ⟨z1, h1 a⟩ ⟨z2, h2 b⟩ (n + 2)
    rw [← e1, ← e2] at this
    exact c_lib this
  · have e1 : isSt d = false := by
      cases d with
      | tup xs =>
        rcases xs with _ | ⟨a, _ | ⟨b, _ | ⟨c, r⟩⟩⟩ <;> first | rfl | exact absurd ⟨_, _, rfl⟩ hd
      | _ => rfl
    rw [e1]
    refine st_is0 (L := P.lib (callF P (n + 3))) (lib_bor g_is_tuple _) (c_lib (e0.trans ?_))
    cases d with
    | tup xs =>
      have : ¬ (xs.length : Int) = 2 := fun z => by
        rcases xs with _ | ⟨a, _ | ⟨b, _ | ⟨c, r⟩⟩⟩ <;> simp at z
        · exact hd ⟨_, _, rfl⟩
        · omega
      simp [this]
    | _ => rfl
theorem st_is {L : Lib} {d : D} {r : Bool} (bI : L.bor 7 = f7.bor) (e : L.C 7 [.sh d] = .ok (.bl r) false [.sh d]) : outF 1 (execs L b8 [.sh d]) = .ok (.bl r) false [.sh d] := by
  simp [b8, execs, exec, eval, args, argOf, Arg.peek, doCall, takes, gives, bI, f7, e, outF]
theorem c_is_stretch (n : Nat) (d : D) (h : ∀ x y, d = .tup [x, y] → SmN x ∧ SmN y) : callF P (n + 5) 8 [.sh d] = .ok (.bl (isSt d)) false [.sh d] := by
  rw [callF_of g_is_stretch rfl rfl]
  exact st_is (lib_bor g_is_stretch_in _) (c_lib (c_is_stretch_in n d h))
theorem st_ck {L : Lib} {d : D} {r : Bool} (bI : L.bor 7 = f7.bor) (e : L.C 7 [.sh d] = .ok (.bl r) false [.sh d]) : outF 1 (execs L b9 [.sh d]) = if r then .ok .non false [.sh d] else .ex ⟨1, none⟩ := by
  cases r <;> simp [b9, execs, exec, eval, args, argOf, Arg.peek, doCall, takes, gives, bI, f7, e, outF]
theorem c_check_stretch (n : Nat) (d : D) (h : ∀ x y, d = .tup [x, y] → SmN x ∧ SmN y) : callF P (n + 5) 9 [.sh d] = if isSt d then .ok .non false [.sh d] else .ex ⟨1, none⟩ := by
  rw [callF_of g_check_stretch rfl rfl]
  exact st_ck (lib_bor g_is_stretch_in _) (c_lib (c_is_stretch_in n d h))
/-- a drawn stretch -/
structure Stc (K : Nat) (b e : Nu) : Prop where
  bb : Nb K b
  ee : Nb K e
  lt : lt2 b e = true
theorem Stc.is {K : Nat} {b e : Nu} (h : Stc K b e) : isSt (sD b e) = true := by
  have h1 := nb_num h.bb
  have h2 := nb_num h.ee
  have h3 : lt2 (unN (nD b)) (unN (nD e)) = true := h.lt
  show (isNum (nD b) && isNum (nD e) && lt2 (unN (nD b)) (unN (nD e))) = true
  rw [h1, h2, h3]; rfl
theorem Stc.sm {K : Nat} {b e : Nu} (h : Stc K b e) (hK : K ≤ 2000) : ∀ x y, sD b e = .tup [x, y] → SmN x ∧ SmN y := fun x y hxy => by
  simp only [D.tup.injEq, List.cons.injEq, and_true] at hxy
  obtain ⟨rfl, rfl⟩ := hxy
  exact ⟨smN_nD (h.bb.le hK), smN_nD (h.ee.le hK)⟩
theorem st_relof {L : Lib} {d e : D} {r : D} (bC : L.bor 9 = f9.bor) (bR : L.bor 11 = f11.bor) (e1 : L.C 9 [.sh d] = .ok .non false [.sh d]) (e2 : L.C 9 [.sh e] = .ok .non false [.sh e]) (e3 : L.C 11 [.sh d, .sh e] = .ok r false [.sh d, .sh e]) :
    outF 2 (execs L b12 [.sh d, .sh e]) = .ok r false [.sh d, .sh e] := by
  simp [b12, execs, exec, eval, args, argOf, Arg.peek, doCall, takes, gives, bC, f9, bR, f11, e1, e2, e3, outF]
theorem st_relof1 {L : Lib} {d e : D} {x : Exc} (bC : L.bor 9 = f9.bor) (e1 : L.C 9 [.sh d] = .ex x) : outF 2 (execs L b12 [.sh d, .sh e]) = .ex x := by
  simp [b12, execs, exec, eval, args, argOf, Arg.peek, doCall, takes, gives, bC, f9, e1, outF]
theorem st_relof2 {L : Lib} {d e : D} {x : Exc} (bC : L.bor 9 = f9.bor) (e1 : L.C 9 [.sh d] = .ok .non false [.sh d]) (e2 : L.C 9 [.sh e] = .ex x) : outF 2 (execs L b12 [.sh d, .sh e]) = .ex x := by
  simp [b12, execs, exec, eval, args, argOf, Arg.peek, doCall, takes, gives, bC, f9, e1, e2, outF]
theorem c_relation_of (n : Nat) {K : Nat} {b e l h : Nu} (h1 : Stc K b e) (h2 : Stc K l h) (hK : K ≤ 2000) : callF P (n + 6) 12 [.sh (sD b e), .sh (sD l h)] = .ok (.int (rel b e l h)) false [.sh (sD b e), .sh (sD l h)] := by
  have c1 := c_check_stretch n (sD b e) (h1.sm hK)
  have c2 := c_check_stretch n (sD l h) (h2.sm hK)
  rw [if_pos h1.is] at c1
  rw [if_pos h2.is] at c2
  rw [callF_of g_relation_of rfl rfl]
  exact st_relof (lib_bor g_check_stretch _) (lib_bor g_relation_in _) (c_lib c1) (c_lib c2) (c_lib (c_relation_in (n + 2) (h1.bb.le hK) (h1.ee.le hK) (h2.bb.le hK) (h2.ee.le hK)))
theorem x_relation_of1 (n : Nat) (d e : D) (h : ∀ x y, d = .tup [x, y] → SmN x ∧ SmN y) (hd : isSt d = false) : callF P (n + 6) 12 [.sh d, .sh e] = .ex ⟨1, none⟩ := by
  have c1 := c_check_stretch n d h
  rw [hd, if_neg (by simp)] at c1
  rw [callF_of g_relation_of rfl rfl]
  exact st_relof1 (lib_bor g_check_stretch _) (c_lib c1)
theorem x_relation_of2 (n : Nat) {K : Nat} {b e : Nu} (h1 : Stc K b e) (hK : K ≤ 2000) (d : D) (h : ∀ x y, d = .tup [x, y] → SmN x ∧ SmN y) (hd : isSt d = false) : callF P (n + 6) 12 [.sh (sD b e), .sh d] = .ex ⟨1, none⟩ := by
  have c1 := c_check_stretch n (sD b e) (h1.sm hK)
  have c2 := c_check_stretch n d h
  rw [if_pos h1.is] at c1
  rw [hd, if_neg (by simp)] at c2
  rw [callF_of g_relation_of rfl rfl]
  exact st_relof2 (lib_bor g_check_stretch _) (c_lib c1) (c_lib c2)
/-- the law's own relation -/
theorem idx_bl (xs : List Bool) (h : xs.length ≤ 1000) : idxD (xs.map D.bl) (.bl true) = (xs.findIdx? fun x => x == true).map fun j => (.int (j : Nat), false) := by
  have hd : D.depths (xs.map D.bl) ≤ 63 := depths_of fun y hy => by
    obtain ⟨s, _, rfl⟩ := List.mem_map.mp hy
    simp [D.depth]
  show (if _ then _ else _) = _
  rw [if_pos ⟨by simp [D.depth], hd⟩, List.findIdx?_map]
  rfl
theorem st_lrel {L : Lib} {b e l h : D} {el bl le eh lb he bh hb : Bool} {cel cbl ceh cbh : Bool} {r : Int} (bA : L.bor 20 = f20.bor)
    (e1 : L.C 20 [.sh e, .sh l] = .ok (.bl el) false [.sh e, .sh l]) (e2 : L.C 20 [.sh b, .sh l] = .ok (.bl bl) false [.sh b, .sh l]) (e3 : L.C 20 [.sh l, .sh e] = .ok (.bl le) false [.sh l, .sh e]) (e4 : L.C 20 [.sh e, .sh h] = .ok (.bl eh) false [.sh e, .sh h])
    (e5 : L.C 20 [.sh l, .sh b] = .ok (.bl lb) false [.sh l, .sh b]) (e6 : L.C 20 [.sh h, .sh e] = .ok (.bl he) false [.sh h, .sh e]) (e7 : L.C 20 [.sh b, .sh h] = .ok (.bl bh) false [.sh b, .sh h]) (e8 : L.C 20 [.sh h, .sh b] = .ok (.bl hb) false [.sh h, .sh b])
    (q1 : cmpD .eq e l = some cel) (q2 : cmpD .eq b l = some cbl) (q3 : cmpD .eq e h = some ceh) (q4 : cmpD .eq b h = some cbh)
    (hi : idxD [.bl el, .bl cel, .bl (bl && (le && eh)), .bl (cbl && eh), .bl (lb && eh), .bl (lb && ceh), .bl (cbl && ceh), .bl (bl && ceh), .bl (bl && he), .bl (cbl && he), .bl (lb && (bh && he)), .bl cbh, .bl hb] (.bl true) = some (.int r, false)) :
    outF 2 (execs L b27 [.sh (.tup [b, e]), .sh (.tup [l, h]), .no, .no, .no, .no, .no]) = .ok (.int r) false [.sh (.tup [b, e]), .sh (.tup [l, h])] := by
  have an : ∀ (x y : E) (u v : Bool) (env : Env), eval L x env = .ok (.bl u, false) env → eval L y env = .ok (.bl v, false) env → eval L (.and x y) env = .ok (.bl (u && v), false) env := fun x y u v env hx hy => by
    cases u
    · simp [eval, hx]
    · simp [eval, hx, hy]
  generalize hE : ([.sh (.tup [b, e]), .sh (.tup [l, h]), .sh b, .sh e, .sh l, .sh h] : List Sl) = E0
  have ah : ∀ (i j : Nat) (x y : D) (u : Bool) (s : Sl), (i = 2 ∨ i = 3 ∨ i = 4 ∨ i = 5) → (j = 2 ∨ j = 3 ∨ j = 4 ∨ j = 5) → E0[i]? = some (.sh x) → E0[j]? = some (.sh y) → L.C 20 [.sh x, .sh y] = .ok (.bl u) false [.sh x, .sh y] → eval L (.call 20 [.var i, .var j] [0, 1]) (E0 ++ [s]) = .ok (.bl u, false) (E0 ++ [s]) := by
    intro i j x y u s hi hj h1 h2 h3
    subst hE
    rcases hi with rfl | rfl | rfl | rfl <;> rcases hj with rfl | rfl | rfl | rfl <;> simp at h1 h2 <;> subst h1 h2 <;> simp [eval, args, argOf, doCall, takes, gives, bA, f20, h3]
  have eq : ∀ (i j : Nat) (x y : D) (u : Bool) (s : Sl), (i = 2 ∨ i = 3 ∨ i = 4 ∨ i = 5) → (j = 2 ∨ j = 3 ∨ j = 4 ∨ j = 5) → E0[i]? = some (.sh x) → E0[j]? = some (.sh y) → cmpD .eq x y = some u → eval L (.cmp .eq (.var i) (.var j)) (E0 ++ [s]) = .ok (.bl u, false) (E0 ++ [s]) := by
    intro i j x y u s hi hj h1 h2 h3
    subst hE
    rcases hi with rfl | rfl | rfl | rfl <;> rcases hj with rfl | rfl | rfl | rfl <;> simp at h1 h2 <;> subst h1 h2 <;> simp [eval, argOf, Arg.peek, h3]
  have x2 : E0[2]? = some (.sh b) := by subst hE; rfl
  have x3 : E0[3]? = some (.sh e) := by subst hE; rfl
  have x4 : E0[4]? = some (.sh l) := by subst hE; rfl
  have x5 : E0[5]? = some (.sh h) := by subst hE; rfl
  have i2 : ∀ {i : Nat}, i = 2 → i = 2 ∨ i = 3 ∨ i = 4 ∨ i = 5 := fun h => .inl h
  have a1 := fun s => ah 3 4 e l el s (by simp) (by simp) x3 x4 e1
  have a2 := fun s => ah 2 4 b l bl s (by simp) (by simp) x2 x4 e2
  have a3 := fun s => ah 4 3 l e le s (by simp) (by simp) x4 x3 e3
  have a4 := fun s => ah 3 5 e h eh s (by simp) (by simp) x3 x5 e4
  have a5 := fun s => ah 4 2 l b lb s (by simp) (by simp) x4 x2 e5
  have a6 := fun s => ah 5 3 h e he s (by simp) (by simp) x5 x3 e6
  have a7 := fun s => ah 2 5 b h bh s (by simp) (by simp) x2 x5 e7
  have a8 := fun s => ah 5 2 h b hb s (by simp) (by simp) x5 x2 e8
  have c1 := fun s => eq 3 4 e l cel s (by simp) (by simp) x3 x4 q1
  have c2 := fun s => eq 2 4 b l cbl s (by simp) (by simp) x2 x4 q2
  have c3 := fun s => eq 3 5 e h ceh s (by simp) (by simp) x3 x5 q3
  have c4 := fun s => eq 2 5 b h cbh s (by simp) (by simp) x2 x5 q4
  have l4 : ∀ (s : Sl) (w x y z : E) (a b c d : D) (f1 f2 f3 f4 : Bool), eval L w (E0 ++ [s]) = .ok (a, f1) (E0 ++ [s]) → eval L x (E0 ++ [s]) = .ok (b, f2) (E0 ++ [s]) → eval L y (E0 ++ [s]) = .ok (c, f3) (E0 ++ [s]) → eval L z (E0 ++ [s]) = .ok (d, f4) (E0 ++ [s]) → eval L (.lst [w, x, y, z]) (E0 ++ [s]) = .ok (.lst [a, b, c, d], true) (E0 ++ [s]) := by
    intro s w x y z a b c d f1 f2 f3 f4 h1 h2 h3 h4
    simp [eval, evals, h1, h2, h3, h4]
  have l3 : ∀ (s : Sl) (w x y : E) (a b c : D) (f1 f2 f3 : Bool), eval L w (E0 ++ [s]) = .ok (a, f1) (E0 ++ [s]) → eval L x (E0 ++ [s]) = .ok (b, f2) (E0 ++ [s]) → eval L y (E0 ++ [s]) = .ok (c, f3) (E0 ++ [s]) → eval L (.lst [w, x, y]) (E0 ++ [s]) = .ok (.lst [a, b, c], true) (E0 ++ [s]) := by
    intro s w x y a b c f1 f2 f3 h1 h2 h3
    simp [eval, evals, h1, h2, h3]
  have len : E0.length = 6 := by subst hE; rfl
  have st0 : ∀ (w : E) (d : D), eval L w (E0 ++ [.no]) = .ok (d, true) (E0 ++ [.no]) → exec L (.asg (.name 6) w) (E0 ++ [.no]) = .ok .nx (E0 ++ [.ow true d]) := by
    intro w d h
    rw [exec, h]
    subst hE
    simp [Tg.store]
  have st1 : ∀ (w : E) (xs ys : List D), (∀ i, w ≠ .var i) → xs.length + ys.length ≤ 100000 → (∀ s, eval L w (E0 ++ [s]) = .ok (.lst ys, true) (E0 ++ [s])) → exec L (.asg (.name 6) (.bin .add (.var 6) w)) (E0 ++ [.ow true (.lst xs)]) = .ok .nx (E0 ++ [.ow true (.lst (xs ++ ys))]) := by
    intro w xs ys hv hz h
    have g6 : (E0 ++ [.ow true (.lst xs)])[6]? = some (Sl.ow true (.lst xs)) := by subst hE; rfl
    have b1 := bin_slot (o := .add) (i := 6) (.inr ⟨true, .lst xs, g6⟩) hv (h _) (by simp only [Arg.peek, g6]) (opD_lst hz)
    rw [exec, b1]
    subst hE
    simp [Tg.store]
  have s1 := st0 _ _ (l4 .no _ _ _ _ _ _ _ _ _ _ _ _ (a1 _) (c1 _) (an _ _ _ _ _ (a2 _) (an _ _ _ _ _ (a3 _) (a4 _))) (an _ _ _ _ _ (c2 _) (a4 _)))
  have s2 := st1 _ [.bl el, .bl cel, .bl (bl && (le && eh)), .bl (cbl && eh)] _ (by simp) (by simp) fun s => l3 s _ _ _ _ _ _ _ _ _ (an _ _ _ _ _ (a5 s) (a4 s)) (an _ _ _ _ _ (a5 s) (c3 s)) (an _ _ _ _ _ (c2 s) (c3 s))
  have s3 := st1 _ ([.bl el, .bl cel, .bl (bl && (le && eh)), .bl (cbl && eh)] ++ [.bl (lb && eh), .bl (lb && ceh), .bl (cbl && ceh)]) _ (by simp) (by simp) fun s => l3 s _ _ _ _ _ _ _ _ _ (an _ _ _ _ _ (a2 s) (c3 s)) (an _ _ _ _ _ (a2 s) (a6 s)) (an _ _ _ _ _ (c2 s) (a6 s))
  have s4 := st1 _ ([.bl el, .bl cel, .bl (bl && (le && eh)), .bl (cbl && eh)] ++ [.bl (lb && eh), .bl (lb && ceh), .bl (cbl && ceh)] ++ [.bl (bl && ceh), .bl (bl && he), .bl (cbl && he)]) _ (by simp) (by simp) fun s => l3 s _ _ _ _ _ _ _ _ _ (an _ _ _ _ _ (a5 s) (an _ _ _ _ _ (a7 s) (a6 s))) (c4 s) (a8 s)
  have s0 : exec L (.par [2, 3, 4, 5] [.ix (.var 0) (.con (.int 0)), .ix (.var 0) (.con (.int 1)), .ix (.var 1) (.con (.int 0)), .ix (.var 1) (.con (.int 1))]) [.sh (.tup [b, e]), .sh (.tup [l, h]), .no, .no, .no, .no, .no] = .ok .nx (E0 ++ [.no]) := by
    subst hE
    simp [exec, eval, argOf, Arg.peek]
  unfold b27
  rw [ss_nx s0, ss_nx s1, ss_nx s2, ss_nx s3, ss_nx s4]
  have fin : eval L (.idx (.var 6) (.con (.bl true))) (E0 ++ [.ow true (.lst ([.bl el, .bl cel, .bl (bl && (le && eh)), .bl (cbl && eh)] ++ [.bl (lb && eh), .bl (lb && ceh), .bl (cbl && ceh)] ++ [.bl (bl && ceh), .bl (bl && he), .bl (cbl && he)] ++ [.bl (lb && (bh && he)), .bl cbh, .bl hb]))]) = .ok (.int r, false) (E0 ++ [.sh (.lst ([.bl el, .bl cel, .bl (bl && (le && eh)), .bl (cbl && eh)] ++ [.bl (lb && eh), .bl (lb && ceh), .bl (cbl && ceh)] ++ [.bl (bl && ceh), .bl (bl && he), .bl (cbl && he)] ++ [.bl (lb && (bh && he)), .bl cbh, .bl hb]))]) := by
    simp only [List.cons_append, List.nil_append]
    generalize ([D.bl el, .bl cel, .bl (bl && (le && eh)), .bl (cbl && eh), .bl (lb && eh), .bl (lb && ceh), .bl (cbl && ceh), .bl (bl && ceh), .bl (bl && he), .bl (cbl && he), .bl (lb && (bh && he)), .bl cbh, .bl hb] : List D) = T at *
    subst hE
    simp [eval, hi]
  rw [ss_rt (ret_of (by simp) fin)]
  subst hE
  simp [outF]
theorem c_l_relation (n : Nat) {b e l h : Nu} (h1 : Stc 2000 b e) (h2 : Stc 2000 l h) : callF P (n + 2) 27 [.sh (sD b e), .sh (sD l h)] = .ok (.int (rel b e l h)) false [.sh (sD b e), .sh (sD l h)] := by
  rw [callF_of g_l_relation rfl rfl]
  obtain ⟨t1, t2⟩ := truths_idx h1.bb.nz h1.ee.nz h2.bb.nz h2.ee.nz h1.lt h2.lt
  have hi := idx_bl (truths b e l h) (by simp [truths])
  rw [t1] at hi
  have e0 : (((rel b e l h).toNat : Nat) : Int) = rel b e l h := Int.toNat_of_nonneg t2
  simp only [Option.map_some, e0] at hi
  have ah := fun {p q : Nu} (hp : Nb 2000 p) (hq : Nb 2000 q) => c_lib (c_l_ahead2 hp hq n)
  exact st_lrel (L := P.lib (callF P (n + 1))) (lib_bor g_l_ahead _) (ah h1.ee h2.bb) (ah h1.bb h2.bb) (ah h2.bb h1.ee) (ah h1.ee h2.ee) (ah h2.bb h1.bb) (ah h2.ee h1.ee) (ah h1.bb h2.ee) (ah h2.ee h1.bb) (nD_cmp e l) (nD_cmp b l) (nD_cmp e h) (nD_cmp b h) hi
end Vk83


set_option Elab.async false
set_option linter.all false
set_option maxRecDepth 100000
set_option maxHeartbeats 4000000
namespace Vk83
open Pi Lk83
/-! lots -/
structure LotOk (ls : List Int) : Prop where
  lo : ∀ x ∈ ls, 0 ≤ x ∧ x < 13
  up : ls.Pairwise (· < ·)
  len : ls.length ≤ 13
abbrev iD (ls : List Int) : List D := ls.map D.int
def pairsI (ls : List Int) : List (Int × Int) := ls.zip (ls.drop 1)
theorem pairs_zip (ls : List Int) : List.zipWith (fun x y => D.tup [x, y]) (iD ls) ((iD ls).drop 1) = (pairsI ls).map fun p => D.tup [.int p.1, .int p.2] := by
  unfold pairsI iD
  rw [← List.map_drop]
  generalize ls.drop 1 = ms
  induction ls generalizing ms with
  | nil => simp
  | cons x xs ih => cases ms <;> simp [ih]
theorem pairs_lt {ls : List Int} (h : ls.Pairwise (· < ·)) : ∀ p ∈ pairsI ls, p.1 < p.2 := by
  unfold pairsI
  induction ls with
  | nil => intro p hp; simp at hp
  | cons x xs ih =>
    intro p hp
    cases xs with
    | nil => simp at hp
    | cons y ys =>
      simp only [List.drop_succ_cons, List.drop_zero, List.zip_cons_cons, List.mem_cons] at hp
      rcases hp with rfl | hp
      · exact (List.pairwise_cons.mp h).1 y List.mem_cons_self
      · exact ih (List.pairwise_cons.mp h).2 p (by simpa using hp)
theorem c_is_ascending (n : Nat) {ls : List Int} (h : LotOk ls) : callF P (n + 1) 4 [.sh (.tup (iD ls))] = .ok (.bl true) false [.sh (.tup (iD ls))] := by
  have c1 : cutL (iD ls) (some (1 : Int)) none = (iD ls).drop 1 := cutL_drop _ 1
  have hi : (args (P.lib (callF P n)) [.var 0, .cut (.var 0) (.con (.int 1)) (.con .non)] [.sh (.tup (iD ls)), .no, .no]).bind (walkB .zip) = .ok ((pairsI ls).map fun p => D.tup [.int p.1, .int p.2]) [.sh (.tup (iD ls)), .no, .no] := by
    rw [← pairs_zip]
    have ha : args (P.lib (callF P n)) [.var 0, .cut (.var 0) (.con (.int 1)) (.con .non)] [.sh (.tup (iD ls)), .no, .no] = .ok [.slot 0, .val (.tup ((iD ls).drop 1))] [.sh (.tup (iD ls)), .no, .no] := by
      generalize iD ls = X at *
      simp [args, eval, argOf, Arg.peek, partOf, cutD, c1]
    rw [ha, Res.bind_ok]
    exact walkB_of (ds := [.tup (iD ls), .tup ((iD ls).drop 1)]) rfl rfl
  have hl : (pairsI ls).length ≤ 100000 := by have := h.len; unfold pairsI; rw [List.length_zip]; omega
  have lc := lc_of_loop (elt := .cmp .lt (.var 1) (.var 2)) (own := [1, 2]) (tg := .tup [1, 2]) (fun p : Int × Int => D.tup [.int p.1, .int p.2]) (fun p => .bl (decide (p.1 < p.2))) hi hl fun p hp => ⟨_, [.sh (.tup (iD ls)), .sh (.int p.1), .sh (.int p.2)], false, rfl, by
    generalize iD ls = X at *
    simp [wipeE, eval, argOf, Arg.peek], rfl⟩
  have b1 := bi_one (f := .all) (by simp) lc
  rw [biD_all, allBls_map, Option.map_some, pureR_some, all_map_id] at b1
  have e : (pairsI ls).all (fun p => decide (p.1 < p.2)) = true := List.all_eq_true.mpr fun p hp => by simpa using pairs_lt h.up p hp
  rw [e] at b1
  rw [callF_of g_is_ascending rfl rfl]
  show outF 1 (execs (P.lib (callF P n)) [.ret (.bi .all [.lc (.cmp .lt (.var 1) (.var 2)) [1, 2] (.tup [1, 2]) .zip [.var 0, .cut (.var 0) (.con (.int 1)) (.con .non)] []])] [.sh (.tup (iD ls)), .no, .no]) = _
  rw [ss_rt (ret_of (by simp) b1)]
  rfl
theorem st_lot {L : Lib} {X : List D} {pe : E} (bT : L.bor 3 = f3.bor) (bS : L.bor 4 = f4.bor) (e0 : L.C 3 [.sh .non, .sh (.tup X)] = .ok (.bl true) false [.sh .non, .sh (.tup X)])
    (e1 : eval L pe [.sh (.tup X), .no] = .ok (.bl true, false) [.sh (.tup X), .no]) (e2 : L.C 4 [.sh (.tup X)] = .ok (.bl true) false [.sh (.tup X)]) :
    outF 1 (execs L [.ret (.and (.call 3 [.con (.non), .var 0] [0, 1]) (.and pe (.call 4 [.var 0] [0])))] [.sh (.tup X), .no]) = .ok (.bl true) false [.sh (.tup X)] := by
  simp [execs, exec, eval, args, argOf, Arg.peek, doCall, takes, gives, bT, f3, bS, f4, e0, e1, e2, outF]
theorem c_is_lot (n : Nat) {ls : List Int} (h : LotOk ls) : callF P (n + 4) 13 [.sh (.tup (iD ls))] = .ok (.bl true) false [.sh (.tup (iD ls))] := by
  have bB : (P.lib (callF P (n + 3))).bor 2 = f2.bor := lib_bor g_is_below _
  have hl : ls.length ≤ 100000 := by have := h.len; omega
  have hi : (args (P.lib (callF P (n + 3))) [.var 0] [.sh (.tup (iD ls)), .no]).bind (walkB .seq) = .ok (ls.map D.int) [.sh (.tup (iD ls)), .no] := rfl
  have gc : (P.lib (callF P (n + 3))).con 0 = some (.int 13) := rfl
  have lc := lc_of_loop (elt := .call 2 [.glo 0, .var 1] [0, 1]) (own := [1]) (tg := .name 1) D.int (fun _ => .bl true) hi hl fun x hx => ⟨_, [.sh (.tup (iD ls)), .sh (.int x)], false, rfl, by
    have e := c_is_below n 13 (.int x)
    obtain ⟨h1, h2⟩ := h.lo x hx
    simp only [h1, h2, decide_true, Bool.and_self] at e
    have e := c_lib e
    generalize iD ls = X at *
    generalize P.lib (callF P (n + 3)) = L at *
    simp [wipeE, eval, args, argOf, Arg.peek, doCall, takes, gives, bB, f2, gc, e], rfl⟩
  have b1 := bi_one (f := .all) (by simp) lc
  have ab : allBls (ls.map fun _ => D.bl true) = some (ls.map fun _ => true) := allBls_map (fun _ => true) ls
  rw [biD_all, ab, Option.map_some, pureR_some] at b1
  have e : (ls.map fun _ => true).all id = true := by simp
  rw [e] at b1
  rw [callF_of g_is_lot rfl rfl]
  exact st_lot (L := P.lib (callF P (n + 3))) (lib_bor g_is_tuple _) (lib_bor g_is_ascending _) (c_lib (c_is_tupleN (n + 2) (.tup (iD ls)))) b1 (c_lib (c_is_ascending (n + 2) h))
theorem st_ckl {L : Lib} {d : D} {r : Bool} (bI : L.bor 13 = f13.bor) (e : L.C 13 [.sh d] = .ok (.bl r) false [.sh d]) : outF 1 (execs L b14 [.sh d]) = if r then .ok .non false [.sh d] else .ex ⟨2, none⟩ := by
  cases r <;> simp [b14, execs, exec, eval, args, argOf, Arg.peek, doCall, takes, gives, bI, f13, e, outF]
theorem st_tl {L : Lib} {d r : D} {pe : E} {x : Sl} (bC : L.bor 14 = f14.bor) (hv : ∀ i, pe ≠ .var i) (e0 : L.C 14 [.sh d] = .ok .non false [.sh d]) (e1 : eval L pe [.sh d, .no] = .ok (r, false) [.sh d, x]) :
    outF 1 (execs L [.expr (.call 14 [.var 0] [0]), .ret pe] [.sh d, .no]) = .ok r false [.sh d] := by
  have e2 := ret_of hv e1
  simp [execs, exec, eval, args, argOf, Arg.peek, doCall, takes, gives, bC, f14, e0, outF]
  simp only [exec] at e2
  rw [e2]
  simp
theorem st_tlx {L : Lib} {d : D} {x : Exc} {pe : E} (bC : L.bor 14 = f14.bor) (e0 : L.C 14 [.sh d] = .ex x) :
    outF 1 (execs L [.expr (.call 14 [.var 0] [0]), .ret pe] [.sh d, .no]) = .ex x := by
  simp [execs, exec, eval, args, argOf, Arg.peek, doCall, takes, gives, bC, f14, e0, outF]
theorem c_check_lot (n : Nat) {ls : List Int} (h : LotOk ls) : callF P (n + 5) 14 [.sh (.tup (iD ls))] = .ok .non false [.sh (.tup (iD ls))] := by
  rw [callF_of g_check_lot rfl rfl]
  exact st_ckl (r := true) (lib_bor g_is_lot _) (c_lib (c_is_lot n h))
def turned (ls : List Int) : List Int := ls.reverse.map fun x => 12 - x
theorem c_turned_lot (n : Nat) {ls : List Int} (h : LotOk ls) : callF P (n + 6) 15 [.sh (.tup (iD ls))] = .ok (.tup (iD (turned ls))) false [.sh (.tup (iD ls))] := by
  have hl : ls.reverse.length ≤ 100000 := by have := h.len; rw [List.length_reverse]; omega
  have gc : (P.lib (callF P (n + 5))).con 0 = some (.int 13) := rfl
  have hi : (args (P.lib (callF P (n + 5))) [.rev (.var 0)] [.sh (.tup (iD ls)), .no]).bind (walkB .seq) = .ok (ls.reverse.map D.int) [.sh (.tup (iD ls)), .no] := by
    have : (iD ls).reverse = ls.reverse.map D.int := by simp [iD]
    rw [← this]
    generalize iD ls = X at *
    exact walk_seq (fr := false) (by simp) (.inl (by simp [eval, argOf, Arg.peek, revD]))
  have lc := lc_of_loop (elt := .bin .sub (.bin .sub (.glo 0) (.con (.int 1))) (.var 1)) (own := [1]) (tg := .name 1) D.int (fun x => .int (12 - x)) hi hl fun x hx => ⟨_, [.sh (.tup (iD ls)), .sh (.int x)], false, rfl, by
    generalize iD ls = X at *
    generalize P.lib (callF P (n + 5)) = L at *
    simp [wipeE, eval, argOf, Arg.peek, gc], rfl⟩
  have b1 := bi_one (f := .tuple) (by simp) lc
  rw [biD_tupleL, pureR_some] at b1
  have e : ls.reverse.map (fun x => D.int (12 - x)) = iD (turned ls) := by rw [iD, turned, List.map_map]; rfl
  rw [e] at b1
  rw [callF_of g_turned_lot rfl rfl]
  exact st_tl (L := P.lib (callF P (n + 5))) (lib_bor g_check_lot _) (by simp) (c_lib (c_check_lot n h)) b1
theorem c_l_turned_lot (n : Nat) {ls : List Int} (h : LotOk ls) : callF P (n + 1) 31 [.sh (.tup (iD ls))] = .ok (.tup (iD (turned ls))) false [.sh (.tup (iD ls))] := by
  have hl : ls.reverse.length ≤ 100000 := by have := h.len; rw [List.length_reverse]; omega
  have hi : (args (P.lib (callF P n)) [.rev (.var 0)] [.sh (.tup (iD ls)), .no]).bind (walkB .seq) = .ok (ls.reverse.map D.int) [.sh (.tup (iD ls)), .no] := by
    have : (iD ls).reverse = ls.reverse.map D.int := by simp [iD]
    rw [← this]
    generalize iD ls = X at *
    exact walk_seq (fr := false) (by simp) (.inl (by simp [eval, argOf, Arg.peek, revD]))
  have lc := lc_of_loop (elt := .bin .sub (.con (.int 12)) (.var 1)) (own := [1]) (tg := .name 1) D.int (fun x => .int (12 - x)) hi hl fun x hx => ⟨_, [.sh (.tup (iD ls)), .sh (.int x)], false, rfl, by
    generalize iD ls = X at *
    simp [wipeE, eval, argOf, Arg.peek], rfl⟩
  have b1 := bi_one (f := .tuple) (by simp) lc
  rw [biD_tupleL, pureR_some] at b1
  have e : ls.reverse.map (fun x => D.int (12 - x)) = iD (turned ls) := by rw [iD, turned, List.map_map]; rfl
  rw [e] at b1
  rw [callF_of g_l_turned_lot rfl rfl]
  show outF 1 (execs (P.lib (callF P n)) [.ret (.bi .tuple [.lc (.bin .sub (.con (.int 12)) (.var 1)) [1] (.name 1) .seq [.rev (.var 0)] []])] [.sh (.tup (iD ls)), .no]) = _
  rw [ss_rt (ret_of (by simp) b1)]
  rfl
/-! drawn lots -/
theorem st_ld {L : Lib} {s sh : Int} {p q : D} (bD : L.bor 17 = f17.bor) {r : Int} {x2 : Sl} (e : L.C 17 [.ow false p, .sh (.int 6)] = .ok (.int r) false [.ow false q, .sh (.int 6)]) :
    holds L [.cmp .lt (.call 17 [.var 0, .con (.int 6)] [0, 1]) (.var 1)] [.ow false p, .sh (.int sh), x2] = .ok (decide (r < sh)) [.ow false q, .sh (.int sh), x2] := by
  by_cases h : r < sh <;> simp [holds, eval, args, argOf, Arg.peek, doCall, takes, gives, bD, f17, e, h]
theorem c_l_lot (n : Nat) (p : D) (m : Int) (hp : Src m p) (hm : m ≤ 90000) : ∃ (ls : List Int) (q : D), LotOk ls ∧ Src (m + 14) q ∧ callF P (n + 2) 28 [.ow false p] = .ok (.tup (iD ls)) false [.ow false q] := by
  have bD : (P.lib (callF P (n + 1))).bor 17 = f17.bor := lib_bor g_l_draw _
  obtain ⟨r, p1, r0, r1, hp1, e1⟩ := c_l_draw n p m 4 hp (by omega) (by decide) (by decide)
  have lc := Ok_lcF (f := fun d e => match (Tg.name 2).store d false e with
            | none => .bad
            | some e1 => (holds (P.lib (callF P (n + 1))) [.cmp .lt (.call 17 [.var 0, .con (.int 6)] [0, 1]) (.var 1)] e1).bind fun b e2 => if b then (eval (P.lib (callF P (n + 1))) (.var 2) e2).bind fun r e3 => .ok (some r.1) (wipeE e3 [2]) else .ok none (wipeE e2 [2]))
    (fun j ds env => ∃ (ls : List Int) (q : D), ds = iD ls ∧ (∀ x ∈ ls, 0 ≤ x ∧ x < j) ∧ ls.Pairwise (· < ·) ∧ Src (m + 1 + j) q ∧ env = [.ow false q, .sh (.int (1 + r)), .no])
    (items := rangeD 0 13) (env := [.ow false p1, .sh (.int (1 + r)), .no]) (by rw [rangeD_len]; decide) ⟨[], p1, rfl, by simp, .nil, by simpa using hp1, rfl⟩ fun j hj acc env hl ⟨ls, q, ha, h1, h2, hq, he⟩ => by
      subst he ha
      rw [rangeD_len] at hj
      have ij : (rangeD 0 13)[j]'(by rw [rangeD_len]; exact hj) = .int j := by simp [rangeD]
      rw [ij]
      obtain ⟨u, q2, u0, u1, hq2, e2⟩ := c_l_draw n q (m + 1 + j) 6 hq (by omega) (by decide) (by decide)
      have hh := st_ld (L := P.lib (callF P (n + 1))) (s := 0) (sh := 1 + r) (x2 := .sh (.int j)) bD (c_lib e2)
      generalize P.lib (callF P (n + 1)) = L at *
      by_cases hu : u < 1 + r
      · rw [decide_eq_true hu] at hh
        refine Ok.of (a := some (.int j)) (e := [.ow false q2, .sh (.int (1 + r)), .no]) (by simp [Tg.store, hh, eval, wipeE]) (.inl ⟨_, rfl, ls ++ [(j : Int)], q2, by simp [iD], fun x hx => ?_, ?_, hq2.le (by omega), rfl⟩)
        · rcases List.mem_append.mp hx with h | h
          · have := h1 x h; omega
          · rw [List.mem_singleton] at h; omega
        · rw [List.pairwise_append]
          refine ⟨h2, by simp, fun a ha b hb => ?_⟩
          rw [List.mem_singleton] at hb
          have := h1 a ha
          omega
      · rw [decide_eq_false hu] at hh
        exact Ok.of (a := none) (e := [.ow false q2, .sh (.int (1 + r)), .no]) (by simp [Tg.store, hh, wipeE]) (.inr ⟨rfl, ls, q2, rfl, fun x hx => by have := h1 x hx; omega, h2, hq2.le (by omega), rfl⟩)
  obtain ⟨ds, env2, h2, h3, ls, q, rfl, h4, h5, hq, rfl⟩ := lc.ex
  rw [rangeD_len] at h3 h4 hq
  have lcE := lc_of (L := P.lib (callF P (n + 1))) (elt := .var 2) (own := [2]) (tg := .name 2) (conds := [.cmp .lt (.call 17 [.var 0, .con (.int 6)] [0, 1]) (.var 1)]) (range_of _ 13 13 rfl (by decide) [.ow false p1, .sh (.int (1 + r)), .no]) h2
  have b1 := bi_one (f := .tuple) (by simp) lcE
  rw [biD_tupleL, pureR_some] at b1
  refine ⟨ls, q, ⟨fun x hx => by have := h4 x hx; omega, h5, by simpa [iD] using h3⟩, hq.le (by omega), ?_⟩
  rw [callF_of g_l_lot rfl rfl]
  show outF 1 (execs (P.lib (callF P (n + 1))) [.asg (.name 1) (.bin .add (.con (.int 1)) (.call 17 [.var 0, .con (.int 4)] [0, 1])), .ret (.bi .tuple [.lc (.var 2) [2] (.name 2) .range [.con (.int 13)] [.cmp .lt (.call 17 [.var 0, .con (.int 6)] [0, 1]) (.var 1)]])] [.ow false p, .no, .no]) = _
  have s1 : exec (P.lib (callF P (n + 1))) (.asg (.name 1) (.bin .add (.con (.int 1)) (.call 17 [.var 0, .con (.int 4)] [0, 1]))) [.ow false p, .no, .no] = .ok .nx [.ow false p1, .sh (.int (1 + r)), .no] := by
    have e1 := c_lib e1
    generalize P.lib (callF P (n + 1)) = L at *
    simp [exec, eval, args, argOf, Arg.peek, doCall, takes, gives, bD, f17, e1, Tg.store]
  rw [ss_nx s1, ss_rt (ret_of (by simp) b1)]
  rfl
def oddLots : List D := [.non, .int 3, .str "lot", .lst [.int 0, .int 1], .tup [.int 1, .int 0], .tup [.int 2, .int 2], .tup [.int 13], .tup [.int (-1), .int 3], .tup [.bl true], .tup [.int 0, .int 1, .bl true], .tup [.non], .tup [.tup [.int 0]], .tup [.int 0, .int 12, .int 13], .tup [.int (10 ^ 20)]]
theorem x_turned_lot (n : Nat) {d : D} (h : d ∈ oddLots) : callF P (n + 7) 15 [.sh d] = .ex ⟨2, none⟩ := by
  simp only [oddLots, List.mem_cons, List.not_mem_nil, or_false] at h
  rcases h with rfl | rfl | rfl | rfl | rfl | rfl | rfl | rfl | rfl | rfl | rfl | rfl | rfl | rfl <;> rfl
theorem st_odl {L : Lib} {p q r : D} (bP : L.bor 18 = f18.bor) (e : L.C 18 [.ow false p, .sh (.lst oddLots)] = .ok r false [.ow false q, .sh (.lst oddLots)]) : outF 1 (execs L b30 [.ow false p]) = .ok r false [.ow false q] := by
  have p20 : opD .pow (.int 10) (.int 20) = some (.int (10 ^ 20), false) := opD_pow (by decide)
  unfold oddLots at e
  generalize (10 ^ 20 : Int) = G at *
  simp [b30, execs, exec, eval, evals, args, argOf, Arg.peek, doCall, takes, gives, bP, f18, p20, e, outF]
theorem c_l_odd_lot (n : Nat) (p : D) (m : Int) (hp : Src m p) (hm : m ≤ 90000) : ∃ (d q : D), d ∈ oddLots ∧ Src (m + 1) q ∧ callF P (n + 3) 30 [.ow false p] = .ok d false [.ow false q] := by
  obtain ⟨d, q, hd, hq, e⟩ := c_l_pick n p m oddLots hp (by omega) (by simp [oddLots]) (by simp [oddLots])
  refine ⟨d, q, hd, hq, ?_⟩
  rw [callF_of g_l_odd_lot rfl rfl]
  exact st_odl (lib_bor g_l_pick _) (c_lib e)
/-! what is caught -/
theorem st_c1 {L : Lib} {d e : D} (bR : L.bor 12 = f12.bor) (s1 : L.sub 1 1 = true) (e1 : L.C 12 [.sh d, .sh e] = .ex ⟨1, none⟩) :
    outF 3 (execs L b32 [.sh (.int 0), .sh d, .sh e, .no, .no]) = .ok (.tup [.str "stretch", .non]) false [.sh (.int 0), .sh d, .sh e] := by
  simp [b32, execs, exec, eval, evals, args, argOf, Arg.peek, doCall, takes, gives, bR, f12, e1, catchX, execX, evalX, s1, outF]
theorem st_c2 {L : Lib} {d e : D} (bR : L.bor 15 = f15.bor) (s1 : L.sub 2 2 = true) (s2 : L.sub 2 1 = false) (e1 : L.C 15 [.sh d] = .ex ⟨2, none⟩) :
    outF 3 (execs L b32 [.sh (.int 1), .sh d, .sh e, .no, .no]) = .ok (.tup [.str "lot", .non]) false [.sh (.int 1), .sh d, .sh e] := by
  simp [b32, execs, exec, eval, evals, args, argOf, Arg.peek, doCall, takes, gives, bR, f15, e1, catchX, execX, evalX, s1, s2, outF]
theorem c_caught1 (n : Nat) (d e : D) (h : callF P n 12 [.sh d, .sh e] = .ex ⟨1, none⟩) : callF P (n + 1) 32 [.sh (.int 0), .sh d, .sh e] = .ok (.tup [.str "stretch", .non]) false [.sh (.int 0), .sh d, .sh e] := by
  rw [callF_of g_l_caught rfl rfl]
  exact st_c1 (lib_bor g_relation_of _) rfl (c_lib h)
theorem c_caught2 (n : Nat) (d e : D) (h : callF P n 15 [.sh d] = .ex ⟨2, none⟩) : callF P (n + 1) 32 [.sh (.int 1), .sh d, .sh e] = .ok (.tup [.str "lot", .non]) false [.sh (.int 1), .sh d, .sh e] := by
  rw [callF_of g_l_caught rfl rfl]
  exact st_c2 (lib_bor g_turned_lot _) rfl rfl (c_lib h)
/-! odd things -/
def odd7 : List D := [.int 3, .non, .tup [.int 2, .int 4], .tup [.int 1, .int 0], .bl true, .str "1", .tup [.int 1]]
def odd12 (l h o : D) : List D := [.non, .tup [], .tup [l], .tup [l, h, h], .lst [l, h], .tup [h, l], .tup [l, l], .tup [o, h], .tup [l, o], .int 7, .str "stretch", .tup [o, o]]
theorem odd7_no {o : D} (h : o ∈ odd7) : isNum o = false := by
  simp only [odd7, List.mem_cons, List.not_mem_nil, or_false] at h
  rcases h with rfl | rfl | rfl | rfl | rfl | rfl | rfl <;> first | rfl | decide +kernel
theorem odd_no {K : Nat} {b e : Nu} (hs : Stc K b e) (hK : K ≤ 2000) {o d : D} (ho : o ∈ odd7) (hd : d ∈ odd12 (nD b) (nD e) o) : isSt d = false ∧ ∀ x y, d = .tup [x, y] → SmN x ∧ SmN y := by
  have h1 := odd7_no ho
  have so : SmN o := fun z => by rw [h1] at z; cases z
  have sb := smN_nD (hs.bb.le hK)
  have se := smN_nD (hs.ee.le hK)
  have nb := nb_num hs.bb
  have ne := nb_num hs.ee
  have two : ∀ x y : D, SmN x → SmN y → ∀ x' y', D.tup [x, y] = .tup [x', y'] → SmN x' ∧ SmN y' := fun x y hx hy x' y' hxy => by
    simp only [D.tup.injEq, List.cons.injEq, and_true] at hxy
    obtain ⟨rfl, rfl⟩ := hxy
    exact ⟨hx, hy⟩
  simp only [odd12, List.mem_cons, List.not_mem_nil, or_false] at hd
  rcases hd with rfl | rfl | rfl | rfl | rfl | rfl | rfl | rfl | rfl | rfl | rfl | rfl
  · exact ⟨rfl, fun x y h => by cases h⟩
  · exact ⟨rfl, fun x y h => by cases h⟩
  · exact ⟨rfl, fun x y h => by cases h⟩
  · exact ⟨rfl, fun x y h => by cases h⟩
  · exact ⟨rfl, fun x y h => by cases h⟩
  · refine ⟨?_, two _ _ se sb⟩
    have h3 : lt2 (unN (nD e)) (unN (nD b)) = false := lt2_asymm hs.lt
    show (isNum (nD e) && isNum (nD b) && lt2 (unN (nD e)) (unN (nD b))) = false
    rw [h3]; simp
  · refine ⟨?_, two _ _ sb sb⟩
    have h3 : lt2 (unN (nD b)) (unN (nD b)) = false := lt2_irrefl
    show (isNum (nD b) && isNum (nD b) && lt2 (unN (nD b)) (unN (nD b))) = false
    rw [h3]; simp
  · refine ⟨?_, two _ _ so se⟩
    show (isNum o && isNum (nD e) && lt2 (unN o) (unN (nD e))) = false
    rw [h1]; rfl
  · refine ⟨?_, two _ _ sb so⟩
    show (isNum (nD b) && isNum o && lt2 (unN (nD b)) (unN o)) = false
    rw [h1]; simp
  · exact ⟨rfl, fun x y h => by cases h⟩
  · exact ⟨rfl, fun x y h => by cases h⟩
  · refine ⟨?_, two _ _ so so⟩
    show (isNum o && isNum o && lt2 (unN o) (unN o)) = false
    rw [h1]; rfl
theorem st_odd {L : Lib} {p q q2 l h o r : D} (bP : L.bor 18 = f18.bor) (e1 : L.C 18 [.ow false p, .sh (.lst odd7)] = .ok o false [.ow false q, .sh (.lst odd7)]) (e2 : L.C 18 [.ow false q, .sh (.lst (odd12 l h o))] = .ok r false [.ow false q2, .sh (.lst (odd12 l h o))]) :
    outF 2 (execs L b33 [.ow false p, .sh (.tup [l, h]), .no, .no, .no]) = .ok r false [.ow false q2, .sh (.tup [l, h])] := by
  unfold odd7 at e1
  unfold odd12 at e2
  simp [b33, execs, exec, eval, evals, args, argOf, Arg.peek, doCall, takes, gives, bP, f18, e1, e2, Tg.store, storeT, outF]
theorem c_l_odd (n : Nat) (p : D) (m : Int) (hp : Src m p) (hm : m ≤ 90000) {K : Nat} {b e : Nu} (hs : Stc K b e) (hK : K ≤ 2000) : ∃ (d q : D), isSt d = false ∧ (∀ x y, d = .tup [x, y] → SmN x ∧ SmN y) ∧ Src (m + 2) q ∧ callF P (n + 3) 33 [.ow false p, .sh (sD b e)] = .ok d false [.ow false q, .sh (sD b e)] := by
  obtain ⟨o, q, ho, hq, e1⟩ := c_l_pick n p m odd7 hp (by omega) (by simp [odd7]) (by simp [odd7])
  obtain ⟨d, q2, hd, hq2, e2⟩ := c_l_pick n q (m + 1) (odd12 (nD b) (nD e) o) hq (by omega) (by simp [odd12]) (by simp [odd12])
  obtain ⟨h1, h2⟩ := odd_no hs hK ho hd
  refine ⟨d, q2, h1, h2, hq2.le (by omega), ?_⟩
  rw [callF_of g_l_odd rfl rfl]
  exact st_odd (lib_bor g_l_pick _) (c_lib e1) (c_lib e2)
/-! drawn stretches -/
theorem st_stc2 {L : Lib} {p q q2 x y u v : D} {R : List D} (bP : L.bor 18 = f18.bor) (bS : L.bor 22 = f22.bor) (e1 : L.C 18 [.ow false p, .ow false (.lst R)] = .ok x false [.ow false q, .ow false (.lst R)]) (e2 : L.C 18 [.ow false q, .ow false (.lst R)] = .ok y false [.ow false q2, .ow false (.lst R)])
    (e3 : L.C 22 [.sh (.lst [x, y])] = .ok (.lst [u, v]) true [.sh (.lst [x, y])]) :
    outF 2 (execs L b29 [.ow false p, .ow false (.lst R), .no]) = .ok (.tup [u, v]) false [.ow false q2, .ow false (.lst R)] := by
  simp [b29, execs, exec, eval, evals, args, argOf, Arg.peek, peeks, doCall, takes, gives, bP, f18, bS, f22, e1, e2, e3, Tg.store, outF]
theorem st_stc1 {L : Lib} {p q q2 x y : D} {a b : Int} {R : List D} (bP : L.bor 18 = f18.bor) (bS : L.bor 22 = f22.bor) (e1 : L.C 18 [.ow false p, .ow false (.lst R)] = .ok x false [.ow false q, .ow false (.lst R)]) (e2 : L.C 18 [.ow false q, .ow false (.lst R)] = .ok y false [.ow false q2, .ow false (.lst R)])
    (e3 : L.C 22 [.sh (.lst [x, y])] = .ok (.lst [num a b]) true [.sh (.lst [x, y])]) :
    outF 2 (execs L b29 [.ow false p, .ow false (.lst R), .no]) = .ok (.tup [num a b, num (a + b) b]) false [.ow false q2, .ow false (.lst R)] := by
  simp [b29, execs, exec, eval, evals, args, argOf, Arg.peek, peeks, doCall, takes, gives, bP, f18, bS, f22, e1, e2, e3, Tg.store, outF]
theorem c_l_stretch (n : Nat) (p : D) (m : Int) (hp : Src m p) (hm : m ≤ 90000) (R : List Nu) (hR : R ≠ []) (hz : R.length ≤ 1000) (hb : ∀ r ∈ R, Nb 226 r) : ∃ (b e : Nu) (q : D), Stc 227 b e ∧ Src (m + 2) q ∧ callF P (n + 3) 29 [.ow false p, .ow false (.lst (R.map nD))] = .ok (sD b e) false [.ow false q, .ow false (.lst (R.map nD))] := by
  obtain ⟨x, q, hx, hq, e1⟩ := c_l_pickO n p m (R.map nD) hp (by omega) (by simpa using hR) (by simpa using hz)
  obtain ⟨y, q2, hy, hq2, e2⟩ := c_l_pickO n q (m + 1) (R.map nD) hq (by omega) (by simpa using hR) (by simpa using hz)
  obtain ⟨x, hx', rfl⟩ := List.mem_map.mp hx
  obtain ⟨y, hy', rfl⟩ := List.mem_map.mp hy
  have nx := hb x hx'
  have ny := hb y hy'
  have so := c_l_sorted n [x, y] (by simp) (fun r hr => by
    simp only [List.mem_cons, List.not_mem_nil, or_false] at hr
    rcases hr with rfl | rfl
    · exact nx.le (by decide)
    · exact ny.le (by decide))
  rcases srt_two nx.nz ny.nz with ⟨rfl, h⟩ | ⟨u, v, h, hl, hu, hv⟩
  · rw [h] at so
    obtain ⟨z1, z2⟩ := nz_next nx.nz
    refine ⟨x, (x.1 + x.2, x.2), q2, ⟨nx.le (by decide), ⟨z1, ⟨abs_add nx.sz.ta nx.sz.tb, (nx.le (by decide) : Nb 227 x).sz.tb⟩⟩, z2⟩, hq2.le (by omega), ?_⟩
    rw [callF_of g_l_stretch rfl rfl]
    exact st_stc1 (L := P.lib (callF P (n + 2))) (lib_bor g_l_pick _) (lib_bor g_l_sorted _) (c_lib e1) (c_lib e2) (c_lib so)
  · rw [h] at so
    have nu : Nb 226 u := by rcases hu with rfl | rfl <;> assumption
    have nv : Nb 226 v := by rcases hv with rfl | rfl <;> assumption
    refine ⟨u, v, q2, ⟨nu.le (by decide), nv.le (by decide), hl⟩, hq2.le (by omega), ?_⟩
    rw [callF_of g_l_stretch rfl rfl]
    exact st_stc2 (L := P.lib (callF P (n + 2))) (lib_bor g_l_pick _) (lib_bor g_l_sorted _) (c_lib e1) (c_lib e2) (c_lib so)
end Vk83


set_option Elab.async false
set_option linter.all false
set_option maxRecDepth 100000
set_option maxHeartbeats 4000000
namespace Vk83
open Pi Lk83
/-! the law -/

def mvI : E := .lc (.call 21 [.bin .add (.bin .mul (.con (.int 3)) (.var 11)) (.bin .mul (.con (.int 2)) (.var 12)), .bin .mul (.con (.int 5)) (.var 12)] [0, 1]) [11, 12] (.tup [11, 12]) .seq [.var 10] []
def r1 : S := .asg (.name 1) (.bin .add (.call 26 [.call 24 [.var 0, .con (.int 3)] [0, 1], .con (.int 2)] [0, 1]) (.lst [.call 23 [.var 0] [0]]))
def b1 : S := .par [3, 4] [.call 29 [.var 0, .var 1] [0, 1], .call 29 [.var 0, .var 1] [0, 1]]
def b2 : S := .asg (.name 5) (.call 27 [.var 3, .var 4] [0, 1])
def b3 : S := .ite (.or (.cmp .isnot (.call 8 [.var 3] [0]) (.con (.bl true))) (.not (.call 19 [.call 12 [.var 3, .var 4] [0, 1], .var 5] [0, 1]))) [.ret (.con (.bl false))] []
def b4 : S := .ite (.not (.call 19 [.lst [.call 12 [.var 3, .var 4] [1, 0], .call 12 [.var 3, .var 3] [0, 1]], .lst [.bin .sub (.con (.int 12)) (.var 5), .con (.int 6)]] [0, 1])) [.ret (.con (.bl false))] []
def b5 : S := .asg (.name 6) (.lc (.bi .tuple [mvI]) [10] (.name 10) .seq [.tup [.var 3, .var 4]] [])
def b6 : S := .ite (.not (.call 19 [.call 12 [.ix (.var 6) (.con (.int 0)), .ix (.var 6) (.con (.int 1))] [0, 1], .var 5] [0, 1])) [.ret (.con (.bl false))] []
def b7 : S := .par [7, 8] [.call 33 [.var 0, .var 3] [0, 1], .call 28 [.var 0] [0]]
def b8 : S := .ite (.or (.cmp .isnot (.call 8 [.var 7] [0]) (.con (.bl false))) (.not (.call 19 [.call 15 [.var 8] [0], .call 31 [.var 8] [0]] [0, 1]))) [.ret (.con (.bl false))] []
def b9 : S := .asg (.name 9) (.lst [.call 32 [.con (.int 0), .var 7, .call 18 [.var 0, .lst [.var 4, .con (.non)]] [0, 1]] [0, 1, 2], .call 32 [.con (.int 0), .var 3, .var 7] [0, 1, 2], .call 32 [.con (.int 1), .call 30 [.var 0] [0], .con (.non)] [0, 1, 2]])
def b10 : S := .ite (.not (.call 19 [.var 9, .lst [.tup [.con (.str "stretch"), .con (.non)], .tup [.con (.str "stretch"), .con (.non)], .tup [.con (.str "lot"), .con (.non)]]] [0, 1])) [.ret (.con (.bl false))] []
def turnB : List S := [b1, b2, b3, b4, b5, b6, b7, b8, b9, b10]
def fin : S := .ret (.and (.call 19 [.call 15 [.rng true [.con (.int 13)]] [0], .rng true [.con (.int 13)]] [0, 1]) (.call 19 [.call 15 [.tup []] [0], .tup []] [0, 1]))
theorem right_body : b34 = [r1, .fo (.name 2) .range [.con (.int 12)] turnB, fin] := rfl
abbrev LN (n : Nat) : Lib := P.lib (callF P (n + 60))
theorem b_sub {j : Nat} {fn : Fn} (n : Nat) (h : P.G[j]? = some fn) : (LN n).bor j = fn.bor := lib_bor h _
theorem fuelC {n F j : Nat} {as : List Sl} {r : CRes} (h : callF P F j as = r) (e : F = n + 60) : (LN n).C j as = r := by subst e; exact h
theorem same_n (n : Nat) {d : D} (hd : d.depth ≤ 20) (hf : D.fine d) : callF P (n + 60) 19 [.sh d, .sh d] = .ok (.bl true) false [.sh d, .sh d] := by
  have := c_l_same (n + 39) 20 d hd hf
  exact this
theorem isnot_tt : cmpD .isnot (.bl true) (.bl true) = some false := rfl
theorem isnot_ff : cmpD .isnot (.bl false) (.bl false) = some false := rfl
theorem st_r1 {L : Lib} {x1 x2 x3 x4 x5 x6 x7 x8 x9 x10 x11 x12 : Sl} {p p1 p2 nu : D} {C R : List D} (b_l_row : L.bor 26 = f26.bor) (b_l_constants : L.bor 24 = f24.bor) (b_l_number : L.bor 23 = f23.bor) (e1 : L.C 24 [.ow false p, .sh (.int 3)] = .ok (.tup C) false [.ow false p1, .sh (.int 3)]) (e2 : L.C 26 [.sh (.tup C), .sh (.int 2)] = .ok (.lst R) true [.sh (.tup C), .sh (.int 2)]) (e3 : L.C 23 [.ow false p1] = .ok nu false [.ow false p2]) (hz : R.length + 1 ≤ 100000) : exec L r1 [.ow false p, x1, x2, x3, x4, x5, x6, x7, x8, x9, x10, x11, x12] = .ok .nx [.ow false p2, .ow true (.lst (R ++ [nu])), x2, x3, x4, x5, x6, x7, x8, x9, x10, x11, x12] := by
  simp [isnot_tt, isnot_ff, exec, execs, eval, evals, evalsF, storeF, args, argOf, Arg.peek, peeks, doCall, takes, gives, Tg.store, storeT, r1, b_l_row, f26, b_l_constants, f24, b_l_number, f23, e1, e2, e3, hz]
theorem st_b1 {L : Lib} {x2 x3 x4 x5 x6 x7 x8 x9 x10 x11 x12 : Sl} {p p1 p2 d1 d2 R : D} (b_l_stretch : L.bor 29 = f29.bor) (e1 : L.C 29 [.ow false p, .ow false R] = .ok d1 false [.ow false p1, .ow false R]) (e2 : L.C 29 [.ow false p1, .ow false R] = .ok d2 false [.ow false p2, .ow false R]) : exec L b1 [.ow false p, .ow true R, x2, x3, x4, x5, x6, x7, x8, x9, x10, x11, x12] = .ok .nx [.ow false p2, .ow true R, x2, .sh d1, .sh d2, x5, x6, x7, x8, x9, x10, x11, x12] := by
  simp [isnot_tt, isnot_ff, exec, execs, eval, evals, evalsF, storeF, args, argOf, Arg.peek, peeks, doCall, takes, gives, Tg.store, storeT, b1, b_l_stretch, f29, e1, e2]
theorem st_b2 {L : Lib} {x0 x1 x2 x5 x6 x7 x8 x9 x10 x11 x12 : Sl} {d1 d2 r : D} (b_l_relation : L.bor 27 = f27.bor) (e1 : L.C 27 [.sh d1, .sh d2] = .ok r false [.sh d1, .sh d2]) : exec L b2 [x0, x1, x2, .sh d1, .sh d2, x5, x6, x7, x8, x9, x10, x11, x12] = .ok .nx [x0, x1, x2, .sh d1, .sh d2, .sh r, x6, x7, x8, x9, x10, x11, x12] := by
  simp [isnot_tt, isnot_ff, exec, execs, eval, evals, evalsF, storeF, args, argOf, Arg.peek, peeks, doCall, takes, gives, Tg.store, storeT, b2, b_l_relation, f27, e1]
theorem st_b3 {L : Lib} {x0 x1 x2 x6 x7 x8 x9 x10 x11 x12 : Sl} {d1 d2 r : D} (b_is_stretch : L.bor 8 = f8.bor) (b_relation_of : L.bor 12 = f12.bor) (b_l_same : L.bor 19 = f19.bor) (e1 : L.C 8 [.sh d1] = .ok (.bl true) false [.sh d1]) (e2 : L.C 12 [.sh d1, .sh d2] = .ok r false [.sh d1, .sh d2]) (e3 : L.C 19 [.sh r, .sh r] = .ok (.bl true) false [.sh r, .sh r]) : exec L b3 [x0, x1, x2, .sh d1, .sh d2, .sh r, x6, x7, x8, x9, x10, x11, x12] = .ok .nx [x0, x1, x2, .sh d1, .sh d2, .sh r, x6, x7, x8, x9, x10, x11, x12] := by
  simp [isnot_tt, isnot_ff, exec, execs, eval, evals, evalsF, storeF, args, argOf, Arg.peek, peeks, doCall, takes, gives, Tg.store, storeT, b3, b_is_stretch, f8, b_relation_of, f12, b_l_same, f19, e1, e2, e3]
theorem st_b4 {L : Lib} {x0 x1 x2 x6 x7 x8 x9 x10 x11 x12 : Sl} {d1 d2 : D} {r : Int} (b_relation_of : L.bor 12 = f12.bor) (b_l_same : L.bor 19 = f19.bor) (e1 : L.C 12 [.sh d2, .sh d1] = .ok (.int (12 - r)) false [.sh d2, .sh d1]) (e2 : L.C 12 [.sh d1, .sh d1] = .ok (.int 6) false [.sh d1, .sh d1]) (e3 : L.C 19 [.sh (.lst [.int (12 - r), .int 6]), .sh (.lst [.int (12 - r), .int 6])] = .ok (.bl true) false [.sh (.lst [.int (12 - r), .int 6]), .sh (.lst [.int (12 - r), .int 6])]) : exec L b4 [x0, x1, x2, .sh d1, .sh d2, .sh (.int r), x6, x7, x8, x9, x10, x11, x12] = .ok .nx [x0, x1, x2, .sh d1, .sh d2, .sh (.int r), x6, x7, x8, x9, x10, x11, x12] := by
  simp [isnot_tt, isnot_ff, exec, execs, eval, evals, evalsF, storeF, args, argOf, Arg.peek, peeks, doCall, takes, gives, Tg.store, storeT, b4, b_relation_of, f12, b_l_same, f19, e1, e2, e3]
theorem st_b6 {L : Lib} {x0 x1 x2 x3 x4 x7 x8 x9 x10 x11 x12 : Sl} {d1 d2 r : D} (b_relation_of : L.bor 12 = f12.bor) (b_l_same : L.bor 19 = f19.bor) (e1 : L.C 12 [.sh d1, .sh d2] = .ok r false [.sh d1, .sh d2]) (e3 : L.C 19 [.sh r, .sh r] = .ok (.bl true) false [.sh r, .sh r]) : exec L b6 [x0, x1, x2, x3, x4, .sh r, .ow true (.lst [d1, d2]), x7, x8, x9, x10, x11, x12] = .ok .nx [x0, x1, x2, x3, x4, .sh r, .ow true (.lst [d1, d2]), x7, x8, x9, x10, x11, x12] := by
  simp [isnot_tt, isnot_ff, exec, execs, eval, evals, evalsF, storeF, args, argOf, Arg.peek, peeks, doCall, takes, gives, Tg.store, storeT, b6, b_relation_of, f12, b_l_same, f19, e1, e3]
theorem st_b7 {L : Lib} {x1 x2 x4 x5 x6 x7 x8 x9 x10 x11 x12 : Sl} {p p1 p2 d1 od lo : D} (b_l_odd : L.bor 33 = f33.bor) (b_l_lot : L.bor 28 = f28.bor) (e1 : L.C 33 [.ow false p, .sh d1] = .ok od false [.ow false p1, .sh d1]) (e2 : L.C 28 [.ow false p1] = .ok lo false [.ow false p2]) : exec L b7 [.ow false p, x1, x2, .sh d1, x4, x5, x6, x7, x8, x9, x10, x11, x12] = .ok .nx [.ow false p2, x1, x2, .sh d1, x4, x5, x6, .sh od, .sh lo, x9, x10, x11, x12] := by
  simp [isnot_tt, isnot_ff, exec, execs, eval, evals, evalsF, storeF, args, argOf, Arg.peek, peeks, doCall, takes, gives, Tg.store, storeT, b7, b_l_odd, f33, b_l_lot, f28, e1, e2]
theorem st_b8 {L : Lib} {x0 x1 x2 x3 x4 x5 x6 x9 x10 x11 x12 : Sl} {od lo t : D} (b_is_stretch : L.bor 8 = f8.bor) (b_turned_lot : L.bor 15 = f15.bor) (b_l_turned_lot : L.bor 31 = f31.bor) (b_l_same : L.bor 19 = f19.bor) (e1 : L.C 8 [.sh od] = .ok (.bl false) false [.sh od]) (e2 : L.C 15 [.sh lo] = .ok t false [.sh lo]) (e3 : L.C 31 [.sh lo] = .ok t false [.sh lo]) (e4 : L.C 19 [.sh t, .sh t] = .ok (.bl true) false [.sh t, .sh t]) : exec L b8 [x0, x1, x2, x3, x4, x5, x6, .sh od, .sh lo, x9, x10, x11, x12] = .ok .nx [x0, x1, x2, x3, x4, x5, x6, .sh od, .sh lo, x9, x10, x11, x12] := by
  simp [isnot_tt, isnot_ff, exec, execs, eval, evals, evalsF, storeF, args, argOf, Arg.peek, peeks, doCall, takes, gives, Tg.store, storeT, b8, b_is_stretch, f8, b_turned_lot, f15, b_l_turned_lot, f31, b_l_same, f19, e1, e2, e3, e4]
theorem st_b9 {L : Lib} {x1 x2 x5 x6 x8 x9 x10 x11 x12 : Sl} {p p1 p2 d1 d2 od pk ol t1 t2 t3 : D} (b_l_caught : L.bor 32 = f32.bor) (b_l_pick : L.bor 18 = f18.bor) (b_l_odd_lot : L.bor 30 = f30.bor) (e1 : L.C 18 [.ow false p, .sh (.lst [d2, .non])] = .ok pk false [.ow false p1, .sh (.lst [d2, .non])]) (e2 : L.C 32 [.sh (.int 0), .sh od, .sh pk] = .ok t1 false [.sh (.int 0), .sh od, .sh pk]) (e3 : L.C 32 [.sh (.int 0), .sh d1, .sh od] = .ok t2 false [.sh (.int 0), .sh d1, .sh od]) (e4 : L.C 30 [.ow false p1] = .ok ol false [.ow false p2]) (e5 : L.C 32 [.sh (.int 1), .sh ol, .sh .non] = .ok t3 false [.sh (.int 1), .sh ol, .sh .non]) : exec L b9 [.ow false p, x1, x2, .sh d1, .sh d2, x5, x6, .sh od, x8, x9, x10, x11, x12] = .ok .nx [.ow false p2, x1, x2, .sh d1, .sh d2, x5, x6, .sh od, x8, .ow true (.lst [t1, t2, t3]), x10, x11, x12] := by
  simp [isnot_tt, isnot_ff, exec, execs, eval, evals, evalsF, storeF, args, argOf, Arg.peek, peeks, doCall, takes, gives, Tg.store, storeT, b9, b_l_caught, f32, b_l_pick, f18, b_l_odd_lot, f30, e1, e2, e3, e4, e5]
theorem st_b10 {L : Lib} {x0 x1 x2 x3 x4 x5 x6 x7 x8 x10 x11 x12 : Sl}  (b_l_same : L.bor 19 = f19.bor) (e1 : L.C 19 [.ow false (.lst [.tup [.str "stretch", .non], .tup [.str "stretch", .non], .tup [.str "lot", .non]]), .sh (.lst [.tup [.str "stretch", .non], .tup [.str "stretch", .non], .tup [.str "lot", .non]])] = .ok (.bl true) false [.ow false (.lst [.tup [.str "stretch", .non], .tup [.str "stretch", .non], .tup [.str "lot", .non]]), .sh (.lst [.tup [.str "stretch", .non], .tup [.str "stretch", .non], .tup [.str "lot", .non]])]) : exec L b10 [x0, x1, x2, x3, x4, x5, x6, x7, x8, .ow true (.lst [.tup [.str "stretch", .non], .tup [.str "stretch", .non], .tup [.str "lot", .non]]), x10, x11, x12] = .ok .nx [x0, x1, x2, x3, x4, x5, x6, x7, x8, .ow true (.lst [.tup [.str "stretch", .non], .tup [.str "stretch", .non], .tup [.str "lot", .non]]), x10, x11, x12] := by
  simp [isnot_tt, isnot_ff, exec, execs, eval, evals, evalsF, storeF, args, argOf, Arg.peek, peeks, doCall, takes, gives, Tg.store, storeT, b10, b_l_same, f19, e1]
theorem st_fin {L : Lib} {x0 x1 x2 x3 x4 x5 x6 x7 x8 x9 x10 x11 x12 : Sl} {T : List D} (b_turned_lot : L.bor 15 = f15.bor) (b_l_same : L.bor 19 = f19.bor) (hr : iterD .range [.int 13] = some T) (hl : T.length ≤ 100000) (e1 : L.C 15 [.sh (.tup T)] = .ok (.tup T) false [.sh (.tup T)]) (e2 : L.C 19 [.sh (.tup T), .sh (.tup T)] = .ok (.bl true) false [.sh (.tup T), .sh (.tup T)])
    (e3 : L.C 15 [.sh (.tup [])] = .ok (.tup []) false [.sh (.tup [])]) (e4 : L.C 19 [.sh (.tup []), .sh (.tup [])] = .ok (.bl true) false [.sh (.tup []), .sh (.tup [])]) : exec L fin [x0, x1, x2, x3, x4, x5, x6, x7, x8, x9, x10, x11, x12] = .ok (.rt (.bl true) false) [x0, x1, x2, x3, x4, x5, x6, x7, x8, x9, x10, x11, x12] := by
  simp [isnot_tt, isnot_ff, exec, execs, eval, evals, evalsF, storeF, args, argOf, Arg.peek, peeks, doCall, takes, gives, Tg.store, storeT, fin, b_turned_lot, f15, b_l_same, f19, hr, hl, e1, e2, e3, e4]
theorem mvd_nb7 {p : Nu} (h : Nb 227 p) : Nb 232 (mvd p) ∧ 0 < 5 * p.2 ∧ (3 * p.1 + 2 * p.2).natAbs < 2 ^ 232 ∧ (5 * p.2).natAbs < 2 ^ 232 := by
  have h1 := h.sz.ta
  have h2 := h.sz.tb
  have h3 := h.nz.pos
  have a1 : (3 * p.1 + 2 * p.2).natAbs < 2 ^ 232 := by omega
  have a2 : (5 * p.2).natAbs < 2 ^ 232 := by omega
  have a3 : 0 < 5 * p.2 := by omega
  exact ⟨⟨lowN_nz a3, lowN_sz a3 a1 a2⟩, a3, a1, a2⟩
theorem Stc.mvd {b e : Nu} (h : Stc 227 b e) : Stc 232 (mvd b) (mvd e) := ⟨(mvd_nb7 h.bb).1, (mvd_nb7 h.ee).1, by rw [mvd_lt h.bb.nz h.ee.nz]; exact h.lt⟩
theorem st_mv {L : Lib} {x0 x1 x2 x3 x4 x5 x6 x7 x8 x9 x10 : Sl} {a b : Int} {r : D} (b_l_low : L.bor 21 = f21.bor) (m1 : mulOk 3 a) (m2 : mulOk 2 b) (m3 : mulOk 5 b) (e : L.C 21 [.sh (.int (3 * a + 2 * b)), .sh (.int (5 * b))] = .ok r false [.sh (.int (3 * a + 2 * b)), .sh (.int (5 * b))]) :
    eval L (.call 21 [.bin .add (.bin .mul (.con (.int 3)) (.var 11)) (.bin .mul (.con (.int 2)) (.var 12)), .bin .mul (.con (.int 5)) (.var 12)] [0, 1]) [x0, x1, x2, x3, x4, x5, x6, x7, x8, x9, x10, .sh (.int a), .sh (.int b)] = .ok (r, false) [x0, x1, x2, x3, x4, x5, x6, x7, x8, x9, x10, .sh (.int a), .sh (.int b)] := by
  simp [isnot_tt, isnot_ff, exec, execs, eval, evals, evalsF, storeF, args, argOf, Arg.peek, peeks, doCall, takes, gives, Tg.store, storeT, b_l_low, f21, m1, m2, m3, e]
theorem mv_in {n : Nat} {p q : Nu} {x0 x1 x2 x3 x4 x5 x6 x7 x8 x9 x11 x12 : Sl} (hp : Nb 227 p) (hq : Nb 227 q) : eval (LN n) mvI [x0, x1, x2, x3, x4, x5, x6, x7, x8, x9, .sh (sD p q), x11, x12] = .ok (.lst [nD (mvd p), nD (mvd q)], true) [x0, x1, x2, x3, x4, x5, x6, x7, x8, x9, .sh (sD p q), x11, x12] := by
  have hi : (args (LN n) [.var 10] [x0, x1, x2, x3, x4, x5, x6, x7, x8, x9, .sh (sD p q), x11, x12]).bind (walkB .seq) = .ok ([p, q].map nD) [x0, x1, x2, x3, x4, x5, x6, x7, x8, x9, .sh (sD p q), x11, x12] := rfl
  have bL := b_sub n g_l_low
  have lc := lc_of_loop (elt := .call 21 [.bin .add (.bin .mul (.con (.int 3)) (.var 11)) (.bin .mul (.con (.int 2)) (.var 12)), .bin .mul (.con (.int 5)) (.var 12)] [0, 1]) (own := [11, 12]) (tg := .tup [11, 12]) nD (fun p => nD (mvd p)) hi (by simp) fun r hr => ?_
  · exact lc
  · have nb : Nb 227 r := by
      simp only [List.mem_cons, List.not_mem_nil, or_false] at hr
      rcases hr with rfl | rfl <;> assumption
    obtain ⟨_, a3, a1, a2⟩ := mvd_nb7 nb
    have e := c_l_low (n + 59) (3 * r.1 + 2 * r.2) (5 * r.2) a3 (Nat.lt_of_lt_of_le a1 (Nat.pow_le_pow_right (by decide) (by decide))) (Nat.lt_of_lt_of_le a2 (Nat.pow_le_pow_right (by decide) (by decide)))
    exact ⟨_, [x0, x1, x2, x3, x4, x5, x6, x7, x8, x9, .sh (sD p q), .sh (.int r.1), .sh (.int r.2)], false, rfl, st_mv bL (mulOk_of 3 230 (by decide) (Nat.lt_of_lt_of_le nb.sz.ta (Nat.pow_le_pow_right (by decide) (by decide))) (by decide)) (mulOk_of 3 230 (by decide) (Nat.lt_of_lt_of_le nb.sz.tb (Nat.pow_le_pow_right (by decide) (by decide))) (by decide)) (mulOk_of 3 230 (by decide) (Nat.lt_of_lt_of_le nb.sz.tb (Nat.pow_le_pow_right (by decide) (by decide))) (by decide)) (c_lib e), rfl⟩
theorem s_b5 {n : Nat} {b e l h : Nu} {x0 x1 x2 x5 x6 x7 x8 x9 x10 x11 x12 : Sl} (h1 : Stc 227 b e) (h2 : Stc 227 l h) : exec (LN n) b5 [x0, x1, x2, .sh (sD b e), .sh (sD l h), x5, x6, x7, x8, x9, x10, x11, x12] = .ok .nx [x0, x1, x2, .sh (sD b e), .sh (sD l h), x5, .ow true (.lst [sD (mvd b) (mvd e), sD (mvd l) (mvd h)]), x7, x8, x9, x10, x11, x12] := by
  have hi : (args (LN n) [.tup [.var 3, .var 4]] [x0, x1, x2, .sh (sD b e), .sh (sD l h), x5, x6, x7, x8, x9, x10, x11, x12]).bind (walkB .seq) = .ok ([(b, e), (l, h)].map fun s : Nu × Nu => sD s.1 s.2) [x0, x1, x2, .sh (sD b e), .sh (sD l h), x5, x6, x7, x8, x9, x10, x11, x12] := rfl
  have lc := lc_of_loop (elt := .bi .tuple [mvI]) (own := [10]) (tg := .name 10) (fun s : Nu × Nu => sD s.1 s.2) (fun s => sD (mvd s.1) (mvd s.2)) hi (by simp) fun s hs => ?_
  · exact asg_of (i := 6) lc rfl
  · have hst : Stc 227 s.1 s.2 := by
      simp only [List.mem_cons, List.not_mem_nil, or_false] at hs
      rcases hs with rfl | rfl <;> assumption
    have b1 := bi_one (f := .tuple) (by simp [mvI]) (mv_in (n := n) (x0 := x0) (x1 := x1) (x2 := x2) (x3 := .sh (sD b e)) (x4 := .sh (sD l h)) (x5 := x5) (x6 := x6) (x7 := x7) (x8 := x8) (x9 := x9) (x11 := x11) (x12 := x12) hst.bb hst.ee)
    rw [biD_tupleL, pureR_some] at b1
    exact ⟨_, [x0, x1, x2, .sh (sD b e), .sh (sD l h), x5, x6, x7, x8, x9, .sh (sD s.1 s.2), x11, x12], false, rfl, b1, rfl⟩
theorem LotOk.fine {ls : List Int} (h : LotOk ls) : D.fine (.tup (iD ls)) ∧ (D.tup (iD ls)).depth ≤ 20 := by
  have hl := h.len
  refine ⟨⟨by rw [List.length_map]; omega, fines_of fun x hx => ?_⟩, ?_⟩
  · obtain ⟨i, _, rfl⟩ := List.mem_map.mp hx; trivial
  · have := depths_of (k := 0) (xs := iD ls) fun x hx => by obtain ⟨i, _, rfl⟩ := List.mem_map.mp hx; simp [D.depth]
    rw [depth_tup]; omega
theorem LotOk.turned {ls : List Int} (h : LotOk ls) : LotOk (turned ls) := by
  refine ⟨fun x hx => ?_, ?_, by have := h.len; simpa [Vk83.turned] using this⟩
  · obtain ⟨y, hy, rfl⟩ := List.mem_map.mp hx
    have := h.lo y (List.mem_reverse.mp hy)
    omega
  · unfold Vk83.turned
    rw [List.pairwise_map, List.pairwise_reverse]
    exact h.up.imp fun {a b} hab => by omega
theorem turn {n : Nat} {p : D} {m : Int} {R : List Nu} {x2 x3 x4 x5 x6 x7 x8 x9 x10 x11 x12 : Sl} (hp : Src m p) (hm : m ≤ 80000) (hR : R ≠ []) (hz : R.length ≤ 1000) (hb : ∀ r ∈ R, Nb 226 r) :
    Ok (execs (LN n) turnB [.ow false p, .ow true (.lst (R.map nD)), x2, x3, x4, x5, x6, x7, x8, x9, x10, x11, x12]) fun fl env => fl = .nx ∧ ∃ (q : D) (y3 y4 y5 y6 y7 y8 y9 : Sl), Src (m + 22) q ∧ env = [.ow false q, .ow true (.lst (R.map nD)), x2, y3, y4, y5, y6, y7, y8, y9, x10, x11, x12] := by
  obtain ⟨b, e, p1, s1, hp1, e1⟩ := c_l_stretch (n + 57) p m hp (by omega) R hR hz hb
  obtain ⟨l, h, p2, s2, hp2, e2⟩ := c_l_stretch (n + 57) p1 (m + 2) hp1 (by omega) R hR hz hb
  have bR := b_sub n g_relation_of
  have bS := b_sub n g_l_same
  have bI := b_sub n g_is_stretch
  have bC := b_sub n g_l_caught
  have bT := b_sub n g_turned_lot
  refine Ok_cons (Ok.of (st_b1 (b_sub n g_l_stretch) (fuelC e1 (by omega)) (fuelC e2 (by omega))) ⟨rfl, ?_⟩)
  have k1 : Stc 2000 b e := ⟨s1.bb.le (by decide), s1.ee.le (by decide), s1.lt⟩
  have k2 : Stc 2000 l h := ⟨s2.bb.le (by decide), s2.ee.le (by decide), s2.lt⟩
  refine Ok_cons (Ok.of (st_b2 (b_sub n g_l_relation) (fuelC (c_l_relation (n + 58) k1 k2) (by omega))) ⟨rfl, ?_⟩)
  have c1 := c_is_stretch (n + 55) (sD b e) (s1.sm (by decide))
  rw [s1.is] at c1
  have sr := same_n n (d := .int (rel b e l h)) (by simp [D.depth]) trivial
  refine Ok_cons (Ok.of (st_b3 bI bR bS (fuelC c1 (by omega)) (fuelC (c_relation_of (n + 54) s1 s2 (by decide)) (by omega)) (c_lib sr)) ⟨rfl, ?_⟩)
  have t1 := c_relation_of (n + 54) s2 s1 (by decide)
  rw [rel_turn s1.bb.nz s1.ee.nz s2.bb.nz s2.ee.nz s1.lt s2.lt] at t1
  have t2 := c_relation_of (n + 54) s1 s1 (by decide)
  rw [rel_self s1.lt] at t2
  have t3 := same_n n (d := .lst [.int (12 - rel b e l h), .int 6]) (by simp [D.depth, D.depths]) (by simp [D.fine, D.fines])
  refine Ok_cons (Ok.of (st_b4 bR bS (fuelC t1 (by omega)) (fuelC t2 (by omega)) (c_lib t3)) ⟨rfl, ?_⟩)
  refine Ok_cons (Ok.of (s_b5 s1 s2) ⟨rfl, ?_⟩)
  have u1 := c_relation_of (n + 54) s1.mvd s2.mvd (by decide)
  rw [rel_mvd s1.bb.nz s1.ee.nz s2.bb.nz s2.ee.nz] at u1
  refine Ok_cons (Ok.of (st_b6 bR bS (fuelC u1 (by omega)) (c_lib sr)) ⟨rfl, ?_⟩)
  obtain ⟨od, p3, o1, o2, hp3, e3⟩ := c_l_odd (n + 57) p2 (m + 2 + 2) hp2 (by omega) s1 (by decide)
  obtain ⟨ls, p4, hL, hp4, e4⟩ := c_l_lot (n + 58) p3 (m + 2 + 2 + 2) hp3 (by omega)
  refine Ok_cons (Ok.of (st_b7 (b_sub n g_l_odd) (b_sub n g_l_lot) (fuelC e3 (by omega)) (fuelC e4 (by omega))) ⟨rfl, ?_⟩)
  have c2 := c_is_stretch (n + 55) od o2
  rw [o1] at c2
  have tl := hL.turned.fine
  refine Ok_cons (Ok.of (st_b8 bI bT (b_sub n g_l_turned_lot) bS (fuelC c2 (by omega)) (fuelC (c_turned_lot (n + 54) hL) (by omega)) (fuelC (c_l_turned_lot (n + 59) hL) (by omega)) (c_lib (same_n n tl.2 tl.1))) ⟨rfl, ?_⟩)
  obtain ⟨pk, p5, hk, hp5, e5⟩ := c_l_pick (n + 58) p4 _ [sD l h, .non] hp4 (by omega) (by simp) (by simp)
  obtain ⟨ol, p6, ho, hp6, e6⟩ := c_l_odd_lot (n + 57) p5 _ hp5 (by omega)
  have g1 := c_caught1 (n + 59) od pk (x_relation_of1 (n + 53) od pk o2 o1)
  have g2 := c_caught1 (n + 59) (sD b e) od (x_relation_of2 (n + 53) s1 (by decide) od o2 o1)
  have g3 := c_caught2 (n + 59) ol .non (x_turned_lot (n + 52) ho)
  refine Ok_cons (Ok.of (st_b9 bC (b_sub n g_l_pick) (b_sub n g_l_odd_lot) (fuelC e5 (by omega)) (fuelC g1 (by omega)) (fuelC g2 (by omega)) (fuelC e6 (by omega)) (fuelC g3 (by omega))) ⟨rfl, ?_⟩)
  have q1 := same_seq (n + 59) (.lst [.tup [.str "stretch", .non], .tup [.str "stretch", .non], .tup [.str "lot", .non]]) (.ow false (.lst [.tup [.str "stretch", .non], .tup [.str "stretch", .non], .tup [.str "lot", .non]])) (.inr rfl) _ (.inr rfl) (by simp) (fun x hx => by
    have := c_l_same (n + 57) 1 x (by simp only [List.mem_cons, List.not_mem_nil, or_false] at hx; rcases hx with rfl | rfl | rfl <;> simp [D.depth, D.depths]) (by simp only [List.mem_cons, List.not_mem_nil, or_false] at hx; rcases hx with rfl | rfl | rfl <;> simp [D.fine, D.fines])
    exact this)
  refine Ok_cons (Ok.of (st_b10 bS (fuelC q1 (by omega))) ⟨rfl, ?_⟩)
  exact Ok_nil ⟨rfl, p6, _, _, _, _, _, _, _, hp6.le (by omega), rfl⟩
def lot13 : List Int := [0, 1, 2, 3, 4, 5, 6, 7, 8, 9, 10, 11, 12]
theorem lot13_ok : LotOk lot13 := ⟨by decide, by decide, by decide⟩
theorem lot0_ok : LotOk [] := ⟨by simp, .nil, by simp⟩
theorem right (n : Nat) {p : D} {m : Int} (hp : Src m p) (hm : m ≤ 100) : ∃ ps, callF P (n + 61) 34 [.ow false p] = .ok (.bl true) false ps := by
  obtain ⟨cs, p1, h1, h2, hp1, e1⟩ := c_l_constants (n + 56) p m 3 hp (by omega) (by decide) (by decide)
  have hsl := srt_len cs
  obtain ⟨R, r1, r2, r3, e2⟩ := c_l_row (n + 57) 2 (srt cs) (by decide) (by decide) (by omega) fun q hq => nm_nb (h2 q (srt_mem.mp hq))
  obtain ⟨a, b, p2, hn, hp2, e3⟩ := c_l_number (n + 58) p1 _ hp1 (by omega)
  rw [callF_of g_l_right rfl rfl]
  show ∃ ps, outF 1 (execs (LN n) b34 [.ow false p, .no, .no, .no, .no, .no, .no, .no, .no, .no, .no, .no, .no]) = _
  rw [right_body]
  have s1 := st_r1 (L := LN n) (x1 := .no) (x2 := .no) (x3 := .no) (x4 := .no) (x5 := .no) (x6 := .no) (x7 := .no) (x8 := .no) (x9 := .no) (x10 := .no) (x11 := .no) (x12 := .no) (b_sub n g_l_row) (b_sub n g_l_constants) (b_sub n g_l_number) (fuelC e1 (by omega)) (fuelC e2 (by omega)) (fuelC e3 (by omega)) (by rw [List.length_map]; omega)
  rw [ss_nx s1]
  have er : R.map nD ++ [num a b] = (R ++ [(a, b)]).map nD := by simp
  rw [er]
  have hb : ∀ r ∈ R ++ [(a, b)], Nb 226 r := fun r hr => by
    rcases List.mem_append.mp hr with h | h
    · exact r1 r h
    · rw [List.mem_singleton] at h; subst h; exact (nm_nb hn).le (by decide)
  have hz : (R ++ [(a, b)]).length ≤ 1000 := by rw [List.length_append]; simp; omega
  have hne : R ++ [(a, b)] ≠ [] := by simp
  generalize R ++ [(a, b)] = R2 at *
  have key := Ok_foR (tg := .name 2) (b := turnB) (range_of (LN n) 12 12 rfl (by decide) [.ow false p2, .ow true (.lst (R2.map nD)), .no, .no, .no, .no, .no, .no, .no, .no, .no, .no, .no]) (fun j env => ∃ (q : D) (y2 y3 y4 y5 y6 y7 y8 y9 : Sl), Src (m + 13 + 22 * j) q ∧ env = [.ow false q, .ow true (.lst (R2.map nD)), y2, y3, y4, y5, y6, y7, y8, y9, .no, .no, .no])
    ⟨p2, .no, .no, .no, .no, .no, .no, .no, .no, hp2.le (by omega), rfl⟩ (fun j hj env ⟨q, y2, y3, y4, y5, y6, y7, y8, y9, hq, he⟩ => by
      subst he
      exact Ok_turn (by simp) ((turn (n := n) (x2 := .sh (.int (0 + j))) (x3 := y3) (x4 := y4) (x5 := y5) (x6 := y6) (x7 := y7) (x8 := y8) (x9 := y9) (x10 := .no) (x11 := .no) (x12 := .no) hq (by omega) hne hz hb).mono fun fl e ⟨hf, q2, z3, z4, z5, z6, z7, z8, z9, hq2, he⟩ => ⟨.inl hf, q2, _, z3, z4, z5, z6, z7, z8, z9, hq2.le (by omega), he⟩))
  obtain ⟨fl, env, hx, rfl, q, y2, y3, y4, y5, y6, y7, y8, y9, hq, rfl⟩ := key.ex
  rw [ss_nx hx]
  have hr : iterD .range [.int 13] = some (iD lot13) := rfl
  have w1 := c_turned_lot (n + 54) lot13_ok
  have t13 : turned lot13 = lot13 := by decide
  rw [t13] at w1
  have w3 := c_turned_lot (n + 54) lot0_ok
  rw [ss_rt (st_fin (b_sub n g_turned_lot) (b_sub n g_l_same) hr (by decide) (fuelC w1 (by omega)) (c_lib (same_n n lot13_ok.fine.2 lot13_ok.fine.1)) (fuelC w3 (by omega)) (c_lib (same_n n lot0_ok.fine.2 lot0_ok.fine.1)))]
  exact ⟨_, rfl⟩
theorem st_cell {L : Lib} {S src : D} {k : Int} {ps : List Sl} (bO : L.bor 16 = f16.bor) (bR : L.bor 34 = f34.bor) (e1 : L.C 16 [.sh S, .sh (.int k)] = .ok src true [.sh S, .sh (.int k)]) (e2 : L.C 34 [.ow false src] = .ok (.bl true) false ps) :
    execs L [.ite (.not (.call1 34 (.call 16 [.var 0, .var 1] [0, 1]))) [.ret (.con (.bl false))] []] [.sh S, .sh (.int k)] = .ok .nx [.sh S, .sh (.int k)] := by
  simp [isnot_tt, isnot_ff, exec, execs, eval, evals, evalsF, storeF, args, argOf, Arg.peek, peeks, doCall, takes, gives, Tg.store, storeT, newCall, bO, f16, bR, f34, e1, e2]
theorem law (n : Nat) (ns : List Int) (hns : ns.length ≤ 63) : callF P (n + 62) 35 [.sh (.lst (ns.map D.int))] = .ok (.bl true) false [.sh (.lst (ns.map D.int))] := by
  rw [callF_of g_law rfl rfl]
  show outF 1 (execs (P.lib (callF P (n + 61))) [.fo (.name 1) .range [.bi .max [.con (.int 2), .bi .min [.con (.int 5), .bi .len [.var 0]]]] [.ite (.not (.call1 34 (.call 16 [.var 0, .var 1] [0, 1]))) [.ret (.con (.bl false))] []], .ret (.con (.bl true))] [.sh (.lst (ns.map D.int)), .no]) = _
  have bO : (P.lib (callF P (n + 61))).bor 16 = f16.bor := lib_bor g_l_source _
  have bR : (P.lib (callF P (n + 61))).bor 34 = f34.bor := lib_bor g_l_right _
  obtain ⟨K, hK, hi⟩ : ∃ K : Nat, K ≤ 5 ∧ (args (P.lib (callF P (n + 61))) [.bi .max [.con (.int 2), .bi .min [.con (.int 5), .bi .len [.var 0]]]] [.sh (.lst (ns.map D.int)), .no]).bind (walkB .range) = .ok (rangeD 0 K) [.sh (.lst (ns.map D.int)), .no] := by
    have hlen : (ns.map D.int).length = ns.length := List.length_map _
    refine ⟨(max 2 (min 5 ns.length)), by omega, range_walk (k := max 2 (min 5 ns.length)) (by omega) ?_⟩
    generalize P.lib (callF P (n + 61)) = L at *
    generalize ns.map D.int = X at *
    simp [isnot_tt, isnot_ff, exec, execs, eval, evals, evalsF, storeF, args, argOf, Arg.peek, peeks, doCall, takes, gives, Tg.store, storeT, hlen]
    omega
  have key := Ok_foR (tg := .name 1) (b := [.ite (.not (.call1 34 (.call 16 [.var 0, .var 1] [0, 1]))) [.ret (.con (.bl false))] []]) hi (fun j env => ∃ y : Sl, env = [.sh (.lst (ns.map D.int)), y]) ⟨_, rfl⟩ (fun j hj env ⟨y, he⟩ => by
    subst he
    obtain ⟨c, f, c0, c1, f0, f1, e1⟩ := c_l_source (n + 60) ns j (by omega)
    obtain ⟨ps, e2⟩ := right n (p := pou c f (5 * j)) (m := 5 * j) ⟨c, f, _, rfl, c0, c1, f0, f1, by omega, by omega⟩ (by omega)
    have e1 : callF P (n + 61) 16 [.sh (.lst (ns.map D.int)), .sh (.int j)] = .ok (pou c f (5 * j)) true [.sh (.lst (ns.map D.int)), .sh (.int j)] := e1
    rw [Int.zero_add]
    exact Ok_turn (by simp) (Ok.of (st_cell bO bR (c_lib e1) (c_lib e2)) ⟨.inl rfl, _, rfl⟩))
  obtain ⟨fl, env, hx, rfl, y, rfl⟩ := key.ex
  rw [ss_nx hx]
  rfl
theorem plain (ns : List Int) (h : ns.length ≤ 63) : ∃ fr ps, callF P 200 35 [.sh (.lst (ns.map D.int))] = .ok (.bl true) fr ps := ⟨_, _, law 138 ns h⟩
end Vk83


set_option Elab.async false
set_option linter.all false
set_option maxRecDepth 100000
set_option maxHeartbeats 0
namespace Lk83
open PySem PySem.Spec PyProof.Rows L2 Pi
def top (i : Nat) : Stmt := PySem.Challenge.pw_onlycompared_k83_stretches_and_relations.main.body.getD i (.Pass ⟨0, 0, 0, 0⟩)
def i0 : DefI := ⟨"is_integer", top 6, ([("thing" : PySem.Str)] : List PySem.Str), 1, [], [true], [(1, [], [0])]⟩
def i1 : DefI := ⟨"is_from", top 7, ([("low" : PySem.Str), ("thing" : PySem.Str)] : List PySem.Str), 2, [], [true, true], [(2, [], [0, 1])]⟩
def i2 : DefI := ⟨"is_below", top 8, ([("many" : PySem.Str), ("thing" : PySem.Str)] : List PySem.Str), 2, [], [true, true], [(2, [], [0, 1])]⟩
def i3 : DefI := ⟨"is_tuple", top 9, ([("many" : PySem.Str), ("thing" : PySem.Str)] : List PySem.Str), 2, [], [true, true], [(2, [], [0, 1])]⟩
def i4 : DefI := ⟨"is_ascending", top 10, ([("members" : PySem.Str), ("one" : PySem.Str), ("later" : PySem.Str)] : List PySem.Str), 1, [], [true], [(1, [], [0])]⟩
def i5 : DefI := ⟨"is_number", top 12, ([("value" : PySem.Str)] : List PySem.Str), 1, [], [true], [(1, [], [0])]⟩
def i6 : DefI := ⟨"ahead", top 13, ([("number" : PySem.Str), ("other" : PySem.Str)] : List PySem.Str), 2, [], [true, true], [(2, [], [0, 1])]⟩
def i7 : DefI := ⟨"is_stretch_in", top 17, ([("thing" : PySem.Str)] : List PySem.Str), 1, [], [true], [(1, [], [0])]⟩
def i8 : DefI := ⟨"is_stretch", top 18, ([("value" : PySem.Str)] : List PySem.Str), 1, [], [true], [(0, ["value"], [0]), (1, [], [0])]⟩
def i9 : DefI := ⟨"check_stretch", top 19, ([("thing" : PySem.Str)] : List PySem.Str), 1, [], [true], [(1, [], [0])]⟩
def i10 : DefI := ⟨"way_of_two", top 20, ([("number" : PySem.Str), ("other" : PySem.Str)] : List PySem.Str), 2, [], [true, true], [(2, [], [0, 1])]⟩
def i11 : DefI := ⟨"relation_in", top 21, ([("one" : PySem.Str), ("two" : PySem.Str)] : List PySem.Str), 2, [], [true, true], [(2, [], [0, 1])]⟩
def i12 : DefI := ⟨"relation_of", top 22, ([("stretch" : PySem.Str), ("other_stretch" : PySem.Str)] : List PySem.Str), 2, [], [true, true], [(0, ["other_stretch", "stretch"], [1, 0]), (2, [], [0, 1])]⟩
def i13 : DefI := ⟨"is_lot", top 23, ([("thing" : PySem.Str), ("one" : PySem.Str)] : List PySem.Str), 1, [], [true], [(1, [], [0])]⟩
def i14 : DefI := ⟨"check_lot", top 24, ([("thing" : PySem.Str)] : List PySem.Str), 1, [], [true], [(1, [], [0])]⟩
def i15 : DefI := ⟨"turned_lot", top 25, ([("lot" : PySem.Str), ("relation" : PySem.Str)] : List PySem.Str), 1, [], [true], [(0, ["lot"], [0]), (1, [], [0])]⟩
def i16 : DefI := ⟨"_law_source", top 27, ([("script" : PySem.Str), ("at" : PySem.Str), ("cell" : PySem.Str)] : List PySem.Str), 2, [2], [true, true], [(2, [], [0, 1])]⟩
def i17 : DefI := ⟨"_law_draw", top 28, ([("source" : PySem.Str), ("many" : PySem.Str), ("figure" : PySem.Str), ("one" : PySem.Str)] : List PySem.Str), 2, [2, 3], [true, true], [(2, [], [0, 1])]⟩
def i18 : DefI := ⟨"_law_pick", top 29, ([("source" : PySem.Str), ("things" : PySem.Str)] : List PySem.Str), 2, [], [true, true], [(2, [], [0, 1])]⟩
def i19 : DefI := ⟨"_law_same", top 30, ([("found" : PySem.Str), ("due" : PySem.Str), ("at" : PySem.Str)] : List PySem.Str), 2, [], [true, true], [(2, [], [0, 1])]⟩
def i20 : DefI := ⟨"_law_ahead", top 31, ([("one" : PySem.Str), ("other" : PySem.Str)] : List PySem.Str), 2, [], [true, true], [(2, [], [0, 1])]⟩
def i21 : DefI := ⟨"_law_low", top 32, ([("top" : PySem.Str), ("bottom" : PySem.Str), ("one" : PySem.Str), ("two" : PySem.Str), ("turn" : PySem.Str)] : List PySem.Str), 2, [2, 3, 4], [true, true], [(2, [], [0, 1])]⟩
def i22 : DefI := ⟨"_law_sorted", top 33, ([("numbers" : PySem.Str), ("found" : PySem.Str), ("number" : PySem.Str), ("at" : PySem.Str), ("one" : PySem.Str)] : List PySem.Str), 1, [1, 2, 3], [true], [(1, [], [0])]⟩
def i23 : DefI := ⟨"_law_number", top 34, ([("source" : PySem.Str), ("way" : PySem.Str), ("top" : PySem.Str), ("great" : PySem.Str)] : List PySem.Str), 1, [1, 2, 3], [true], [(1, [], [0])]⟩
def i24 : DefI := ⟨"_law_constants", top 35, ([("source" : PySem.Str), ("many" : PySem.Str), ("turn" : PySem.Str)] : List PySem.Str), 2, [], [true, true], [(2, [], [0, 1])]⟩
def i25 : DefI := ⟨"_law_between", top 36, ([("one" : PySem.Str), ("other" : PySem.Str), ("at" : PySem.Str), ("many" : PySem.Str), ("top" : PySem.Str)] : List PySem.Str), 4, [4], [true, true, true, true], [(4, [], [0, 1, 2, 3])]⟩
def i26 : DefI := ⟨"_law_row", top 37, ([("constants" : PySem.Str), ("many" : PySem.Str), ("first" : PySem.Str), ("last" : PySem.Str), ("row" : PySem.Str), ("place" : PySem.Str), ("number" : PySem.Str), ("at" : PySem.Str)] : List PySem.Str), 2, [2, 3, 4, 5, 6], [true, true], [(2, [], [0, 1])]⟩
def i27 : DefI := ⟨"_law_relation", top 38, ([("one" : PySem.Str), ("two" : PySem.Str), ("b" : PySem.Str), ("e" : PySem.Str), ("low" : PySem.Str), ("high" : PySem.Str), ("truths" : PySem.Str)] : List PySem.Str), 2, [2, 3, 4, 5, 6], [true, true], [(2, [], [0, 1])]⟩
def i28 : DefI := ⟨"_law_lot", top 39, ([("source" : PySem.Str), ("share" : PySem.Str), ("relation" : PySem.Str)] : List PySem.Str), 1, [1], [true], [(1, [], [0])]⟩
def i29 : DefI := ⟨"_law_stretch", top 40, ([("source" : PySem.Str), ("row" : PySem.Str), ("two" : PySem.Str)] : List PySem.Str), 2, [2], [true, true], [(2, [], [0, 1])]⟩
def i30 : DefI := ⟨"_law_odd_lot", top 41, ([("source" : PySem.Str)] : List PySem.Str), 1, [], [true], [(1, [], [0])]⟩
def i31 : DefI := ⟨"_law_turned_lot", top 42, ([("lot" : PySem.Str), ("relation" : PySem.Str)] : List PySem.Str), 1, [], [true], [(1, [], [0])]⟩
def i32 : DefI := ⟨"_law_caught", top 43, ([("way" : PySem.Str), ("one" : PySem.Str), ("two" : PySem.Str), ("word" : PySem.Str), ("told" : PySem.Str)] : List PySem.Str), 3, [3, 4], [true, true, true], [(3, [], [0, 1, 2])]⟩
def i33 : DefI := ⟨"_law_odd", top 44, ([("source" : PySem.Str), ("one" : PySem.Str), ("low" : PySem.Str), ("high" : PySem.Str), ("odd" : PySem.Str)] : List PySem.Str), 2, [2, 3, 4], [true, true], [(2, [], [0, 1])]⟩
def i34 : DefI := ⟨"_law_right", top 45, (List.append ([("source" : PySem.Str), ("row" : PySem.Str), ("turn" : PySem.Str), ("one" : PySem.Str), ("two" : PySem.Str), ("relation" : PySem.Str), ("moved" : PySem.Str), ("odd" : PySem.Str), ("lot" : PySem.Str), ("told" : PySem.Str), ("stretch" : PySem.Str), ("top" : PySem.Str)] : List PySem.Str) ([("bottom" : PySem.Str)] : List PySem.Str)), 1, [1, 2, 3, 4, 5, 6, 7, 8, 9], [true], [(1, [], [0])]⟩
def i35 : DefI := ⟨"law", top 46, ([("script" : PySem.Str), ("at" : PySem.Str)] : List PySem.Str), 1, [1], [true], []⟩
def defs : List DefI := [i0, i1, i2, i3, i4, i5, i6, i7, i8, i9, i10, i11, i12, i13, i14, i15, i16, i17, i18, i19, i20, i21, i22, i23, i24, i25, i26, i27, i28, i29, i30, i31, i32, i33, i34, i35]
def flds : List FldI := []
def T : Tab := ⟨tabFns defs, (List.append ([("abs" : PySem.Str), ("all" : PySem.Str), ("bool" : PySem.Str), ("enumerate" : PySem.Str), ("int" : PySem.Str), ("isinstance" : PySem.Str), ("len" : PySem.Str), ("list" : PySem.Str), ("max" : PySem.Str), ("min" : PySem.Str), ("range" : PySem.Str), ("str" : PySem.Str)] : List PySem.Str) ([("sum" : PySem.Str), ("tuple" : PySem.Str), ("zip" : PySem.Str)] : List PySem.Str)), [("CompareError", 0), ("InvalidStretch", 1), ("InvalidLot", 2)], [("RELATIONS", 0)], true, [("MET", 0)], false, none, tabFld flds, [23, 28, 30, 34]⟩
def t : Text := ⟨defs, T, P, flds⟩
theorem c0 : i0.fn T = some f0 := by kernel_rfl
theorem c1 : i1.fn T = some f1 := by kernel_rfl
theorem c2 : i2.fn T = some f2 := by kernel_rfl
theorem c3 : i3.fn T = some f3 := by kernel_rfl
theorem c4 : i4.fn T = some f4 := by kernel_rfl
theorem c5 : i5.fn T = some f5 := by kernel_rfl
theorem c6 : i6.fn T = some f6 := by kernel_rfl
theorem c7 : i7.fn T = some f7 := by kernel_rfl
theorem c8 : i8.fn T = some f8 := by kernel_rfl
theorem c9 : i9.fn T = some f9 := by kernel_rfl
theorem c10 : i10.fn T = some f10 := by kernel_rfl
theorem c11 : i11.fn T = some f11 := by kernel_rfl
theorem c12 : i12.fn T = some f12 := by kernel_rfl
theorem c13 : i13.fn T = some f13 := by kernel_rfl
theorem c14 : i14.fn T = some f14 := by kernel_rfl
theorem c15 : i15.fn T = some f15 := by kernel_rfl
theorem c16 : i16.fn T = some f16 := by kernel_rfl
theorem c17 : i17.fn T = some f17 := by kernel_rfl
theorem c18 : i18.fn T = some f18 := by kernel_rfl
theorem c19 : i19.fn T = some f19 := by kernel_rfl
theorem c20 : i20.fn T = some f20 := by kernel_rfl
theorem c21 : i21.fn T = some f21 := by kernel_rfl
theorem c22 : i22.fn T = some f22 := by kernel_rfl
theorem c23 : i23.fn T = some f23 := by kernel_rfl
theorem c24 : i24.fn T = some f24 := by kernel_rfl
theorem c25 : i25.fn T = some f25 := by kernel_rfl
theorem c26 : i26.fn T = some f26 := by kernel_rfl
theorem c27 : i27.fn T = some f27 := by kernel_rfl
theorem c28 : i28.fn T = some f28 := by kernel_rfl
theorem c29 : i29.fn T = some f29 := by kernel_rfl
theorem c30 : i30.fn T = some f30 := by kernel_rfl
theorem c31 : i31.fn T = some f31 := by kernel_rfl
theorem c32 : i32.fn T = some f32 := by kernel_rfl
theorem c33 : i33.fn T = some f33 := by kernel_rfl
theorem c34 : i34.fn T = some f34 := by kernel_rfl
theorem c35 : i35.fn T = some f35 := by kernel_rfl
theorem comp : defs.map (·.fn T) = P.G.map some := by
  show [i0.fn T, i1.fn T, i2.fn T, i3.fn T, i4.fn T, i5.fn T, i6.fn T, i7.fn T, i8.fn T, i9.fn T, i10.fn T, i11.fn T, i12.fn T, i13.fn T, i14.fn T, i15.fn T, i16.fn T, i17.fn T, i18.fn T, i19.fn T, i20.fn T, i21.fn T, i22.fn T, i23.fn T, i24.fn T, i25.fn T, i26.fn T, i27.fn T, i28.fn T, i29.fn T, i30.fn T, i31.fn T, i32.fn T, i33.fn T, i34.fn T, i35.fn T] = [some f0, some f1, some f2, some f3, some f4, some f5, some f6, some f7, some f8, some f9, some f10, some f11, some f12, some f13, some f14, some f15, some f16, some f17, some f18, some f19, some f20, some f21, some f22, some f23, some f24, some f25, some f26, some f27, some f28, some f29, some f30, some f31, some f32, some f33, some f34, some f35]
  rw [c0, c1, c2, c3, c4, c5, c6, c7, c8, c9, c10, c11, c12, c13, c14, c15, c16, c17, c18, c19, c20, c21, c22, c23, c24, c25, c26, c27, c28, c29, c30, c31, c32, c33, c34, c35]
theorem okB : defs.all DefI.okB = true := by kernel_rfl
theorem bd0 : i0.Bd := List.forall_mem_cons.mpr ⟨fun kV doc pm an cdv ct us ws hu hw => match us, ws, hu, hw with | [_], [], _, _ => rfl, (List.forall_mem_nil _)⟩
theorem bd1 : i1.Bd := List.forall_mem_cons.mpr ⟨fun kV doc pm an cdv ct us ws hu hw => match us, ws, hu, hw with | [_, _], [], _, _ => rfl, (List.forall_mem_nil _)⟩
theorem bd2 : i2.Bd := List.forall_mem_cons.mpr ⟨fun kV doc pm an cdv ct us ws hu hw => match us, ws, hu, hw with | [_, _], [], _, _ => rfl, (List.forall_mem_nil _)⟩
theorem bd3 : i3.Bd := List.forall_mem_cons.mpr ⟨fun kV doc pm an cdv ct us ws hu hw => match us, ws, hu, hw with | [_, _], [], _, _ => rfl, (List.forall_mem_nil _)⟩
theorem bd4 : i4.Bd := List.forall_mem_cons.mpr ⟨fun kV doc pm an cdv ct us ws hu hw => match us, ws, hu, hw with | [_], [], _, _ => rfl, (List.forall_mem_nil _)⟩
theorem bd5 : i5.Bd := List.forall_mem_cons.mpr ⟨fun kV doc pm an cdv ct us ws hu hw => match us, ws, hu, hw with | [_], [], _, _ => rfl, (List.forall_mem_nil _)⟩
theorem bd6 : i6.Bd := List.forall_mem_cons.mpr ⟨fun kV doc pm an cdv ct us ws hu hw => match us, ws, hu, hw with | [_, _], [], _, _ => rfl, (List.forall_mem_nil _)⟩
theorem bd7 : i7.Bd := List.forall_mem_cons.mpr ⟨fun kV doc pm an cdv ct us ws hu hw => match us, ws, hu, hw with | [_], [], _, _ => rfl, (List.forall_mem_nil _)⟩
theorem bd8 : i8.Bd := List.forall_mem_cons.mpr ⟨fun kV doc pm an cdv ct us ws hu hw => match us, ws, hu, hw with | [], [_], _, _ => rfl, List.forall_mem_cons.mpr ⟨fun kV doc pm an cdv ct us ws hu hw => match us, ws, hu, hw with | [_], [], _, _ => rfl, (List.forall_mem_nil _)⟩⟩
theorem bd9 : i9.Bd := List.forall_mem_cons.mpr ⟨fun kV doc pm an cdv ct us ws hu hw => match us, ws, hu, hw with | [_], [], _, _ => rfl, (List.forall_mem_nil _)⟩
theorem bd10 : i10.Bd := List.forall_mem_cons.mpr ⟨fun kV doc pm an cdv ct us ws hu hw => match us, ws, hu, hw with | [_, _], [], _, _ => rfl, (List.forall_mem_nil _)⟩
theorem bd11 : i11.Bd := List.forall_mem_cons.mpr ⟨fun kV doc pm an cdv ct us ws hu hw => match us, ws, hu, hw with | [_, _], [], _, _ => rfl, (List.forall_mem_nil _)⟩
theorem bd12 : i12.Bd := List.forall_mem_cons.mpr ⟨fun kV doc pm an cdv ct us ws hu hw => match us, ws, hu, hw with | [], [_, _], _, _ => rfl, List.forall_mem_cons.mpr ⟨fun kV doc pm an cdv ct us ws hu hw => match us, ws, hu, hw with | [_, _], [], _, _ => rfl, (List.forall_mem_nil _)⟩⟩
theorem bd13 : i13.Bd := List.forall_mem_cons.mpr ⟨fun kV doc pm an cdv ct us ws hu hw => match us, ws, hu, hw with | [_], [], _, _ => rfl, (List.forall_mem_nil _)⟩
theorem bd14 : i14.Bd := List.forall_mem_cons.mpr ⟨fun kV doc pm an cdv ct us ws hu hw => match us, ws, hu, hw with | [_], [], _, _ => rfl, (List.forall_mem_nil _)⟩
theorem bd15 : i15.Bd := List.forall_mem_cons.mpr ⟨fun kV doc pm an cdv ct us ws hu hw => match us, ws, hu, hw with | [], [_], _, _ => rfl, List.forall_mem_cons.mpr ⟨fun kV doc pm an cdv ct us ws hu hw => match us, ws, hu, hw with | [_], [], _, _ => rfl, (List.forall_mem_nil _)⟩⟩
theorem bd16 : i16.Bd := List.forall_mem_cons.mpr ⟨fun kV doc pm an cdv ct us ws hu hw => match us, ws, hu, hw with | [_, _], [], _, _ => rfl, (List.forall_mem_nil _)⟩
theorem bd17 : i17.Bd := List.forall_mem_cons.mpr ⟨fun kV doc pm an cdv ct us ws hu hw => match us, ws, hu, hw with | [_, _], [], _, _ => rfl, (List.forall_mem_nil _)⟩
theorem bd18 : i18.Bd := List.forall_mem_cons.mpr ⟨fun kV doc pm an cdv ct us ws hu hw => match us, ws, hu, hw with | [_, _], [], _, _ => rfl, (List.forall_mem_nil _)⟩
theorem bd19 : i19.Bd := List.forall_mem_cons.mpr ⟨fun kV doc pm an cdv ct us ws hu hw => match us, ws, hu, hw with | [_, _], [], _, _ => rfl, (List.forall_mem_nil _)⟩
theorem bd20 : i20.Bd := List.forall_mem_cons.mpr ⟨fun kV doc pm an cdv ct us ws hu hw => match us, ws, hu, hw with | [_, _], [], _, _ => rfl, (List.forall_mem_nil _)⟩
theorem bd21 : i21.Bd := List.forall_mem_cons.mpr ⟨fun kV doc pm an cdv ct us ws hu hw => match us, ws, hu, hw with | [_, _], [], _, _ => rfl, (List.forall_mem_nil _)⟩
theorem bd22 : i22.Bd := List.forall_mem_cons.mpr ⟨fun kV doc pm an cdv ct us ws hu hw => match us, ws, hu, hw with | [_], [], _, _ => rfl, (List.forall_mem_nil _)⟩
theorem bd23 : i23.Bd := List.forall_mem_cons.mpr ⟨fun kV doc pm an cdv ct us ws hu hw => match us, ws, hu, hw with | [_], [], _, _ => rfl, (List.forall_mem_nil _)⟩
theorem bd24 : i24.Bd := List.forall_mem_cons.mpr ⟨fun kV doc pm an cdv ct us ws hu hw => match us, ws, hu, hw with | [_, _], [], _, _ => rfl, (List.forall_mem_nil _)⟩
theorem bd25 : i25.Bd := List.forall_mem_cons.mpr ⟨fun kV doc pm an cdv ct us ws hu hw => match us, ws, hu, hw with | [_, _, _, _], [], _, _ => rfl, (List.forall_mem_nil _)⟩
theorem bd26 : i26.Bd := List.forall_mem_cons.mpr ⟨fun kV doc pm an cdv ct us ws hu hw => match us, ws, hu, hw with | [_, _], [], _, _ => rfl, (List.forall_mem_nil _)⟩
theorem bd27 : i27.Bd := List.forall_mem_cons.mpr ⟨fun kV doc pm an cdv ct us ws hu hw => match us, ws, hu, hw with | [_, _], [], _, _ => rfl, (List.forall_mem_nil _)⟩
theorem bd28 : i28.Bd := List.forall_mem_cons.mpr ⟨fun kV doc pm an cdv ct us ws hu hw => match us, ws, hu, hw with | [_], [], _, _ => rfl, (List.forall_mem_nil _)⟩
theorem bd29 : i29.Bd := List.forall_mem_cons.mpr ⟨fun kV doc pm an cdv ct us ws hu hw => match us, ws, hu, hw with | [_, _], [], _, _ => rfl, (List.forall_mem_nil _)⟩
theorem bd30 : i30.Bd := List.forall_mem_cons.mpr ⟨fun kV doc pm an cdv ct us ws hu hw => match us, ws, hu, hw with | [_], [], _, _ => rfl, (List.forall_mem_nil _)⟩
theorem bd31 : i31.Bd := List.forall_mem_cons.mpr ⟨fun kV doc pm an cdv ct us ws hu hw => match us, ws, hu, hw with | [_], [], _, _ => rfl, (List.forall_mem_nil _)⟩
theorem bd32 : i32.Bd := List.forall_mem_cons.mpr ⟨fun kV doc pm an cdv ct us ws hu hw => match us, ws, hu, hw with | [_, _, _], [], _, _ => rfl, (List.forall_mem_nil _)⟩
theorem bd33 : i33.Bd := List.forall_mem_cons.mpr ⟨fun kV doc pm an cdv ct us ws hu hw => match us, ws, hu, hw with | [_, _], [], _, _ => rfl, (List.forall_mem_nil _)⟩
theorem bd34 : i34.Bd := List.forall_mem_cons.mpr ⟨fun kV doc pm an cdv ct us ws hu hw => match us, ws, hu, hw with | [_], [], _, _ => rfl, (List.forall_mem_nil _)⟩
theorem bd35 : i35.Bd := fun _ h => nomatch h
theorem ok : t.Ok := ⟨comp, okB, rfl, List.forall_mem_cons.mpr ⟨bd0, List.forall_mem_cons.mpr ⟨bd1, List.forall_mem_cons.mpr ⟨bd2, List.forall_mem_cons.mpr ⟨bd3, List.forall_mem_cons.mpr ⟨bd4, List.forall_mem_cons.mpr ⟨bd5, List.forall_mem_cons.mpr ⟨bd6, List.forall_mem_cons.mpr ⟨bd7, List.forall_mem_cons.mpr ⟨bd8, List.forall_mem_cons.mpr ⟨bd9, List.forall_mem_cons.mpr ⟨bd10, List.forall_mem_cons.mpr ⟨bd11, List.forall_mem_cons.mpr ⟨bd12, List.forall_mem_cons.mpr ⟨bd13, List.forall_mem_cons.mpr ⟨bd14, List.forall_mem_cons.mpr ⟨bd15, List.forall_mem_cons.mpr ⟨bd16, List.forall_mem_cons.mpr ⟨bd17, List.forall_mem_cons.mpr ⟨bd18, List.forall_mem_cons.mpr ⟨bd19, List.forall_mem_cons.mpr ⟨bd20, List.forall_mem_cons.mpr ⟨bd21, List.forall_mem_cons.mpr ⟨bd22, List.forall_mem_cons.mpr ⟨bd23, List.forall_mem_cons.mpr ⟨bd24, List.forall_mem_cons.mpr ⟨bd25, List.forall_mem_cons.mpr ⟨bd26, List.forall_mem_cons.mpr ⟨bd27, List.forall_mem_cons.mpr ⟨bd28, List.forall_mem_cons.mpr ⟨bd29, List.forall_mem_cons.mpr ⟨bd30, List.forall_mem_cons.mpr ⟨bd31, List.forall_mem_cons.mpr ⟨bd32, List.forall_mem_cons.mpr ⟨bd33, List.forall_mem_cons.mpr ⟨bd34, List.forall_mem_cons.mpr ⟨bd35, (List.forall_mem_nil _)⟩⟩⟩⟩⟩⟩⟩⟩⟩⟩⟩⟩⟩⟩⟩⟩⟩⟩⟩⟩⟩⟩⟩⟩⟩⟩⟩⟩⟩⟩⟩⟩⟩⟩⟩⟩, rfl, by decide +kernel, (List.forall_mem_nil _)⟩
theorem bLaw (kV doc pm : Value) (an : Option Addr) (cdv ct : Value) (us : List Value) (h : us.length = i35.ps.length) : bindArgs (PySem.W.fnOf i35.name i35.name (defArgs i35.st) (defBody i35.st) (defScope i35.st) .none kV doc pm an cdv ct) ⟨us, []⟩ = pure (i35.ps.zip us) := match us, h with | [_], _ => rfl
def loose : List PySem.Str := (List.append ([("gcd" : PySem.Str), ("CompareError" : PySem.Str), ("InvalidStretch" : PySem.Str), ("InvalidLot" : PySem.Str), ("is_integer" : PySem.Str), ("is_from" : PySem.Str), ("is_below" : PySem.Str), ("is_tuple" : PySem.Str), ("is_ascending" : PySem.Str), ("is_number" : PySem.Str), ("ahead" : PySem.Str), ("RELATIONS" : PySem.Str)] : List PySem.Str) (List.append ([("MET" : PySem.Str), ("is_stretch_in" : PySem.Str), ("is_stretch" : PySem.Str), ("check_stretch" : PySem.Str), ("way_of_two" : PySem.Str), ("relation_in" : PySem.Str), ("relation_of" : PySem.Str), ("is_lot" : PySem.Str), ("check_lot" : PySem.Str), ("turned_lot" : PySem.Str), ("_law_source" : PySem.Str), ("_law_draw" : PySem.Str)] : List PySem.Str) (List.append ([("_law_pick" : PySem.Str), ("_law_same" : PySem.Str), ("_law_ahead" : PySem.Str), ("_law_low" : PySem.Str), ("_law_sorted" : PySem.Str), ("_law_number" : PySem.Str), ("_law_constants" : PySem.Str), ("_law_between" : PySem.Str), ("_law_row" : PySem.Str), ("_law_relation" : PySem.Str), ("_law_lot" : PySem.Str), ("_law_stretch" : PySem.Str)] : List PySem.Str) ([("_law_odd_lot" : PySem.Str), ("_law_turned_lot" : PySem.Str), ("_law_caught" : PySem.Str), ("_law_odd" : PySem.Str), ("_law_right" : PySem.Str)] : List PySem.Str))))
abbrev R : PySem.W.OpenRow := PySem.W.OpenLaw.row PySem.Challenge.rw_onlycompared_k83_stretches_and_relations
abbrev hk : PySem.W.Hook := hookP 4 t
def ob (s : PySem.W.SharedT) : AlP := obsPG 4 t (HandSHeadRun.getT s)
theorem ob_eq (s : PySem.W.SharedT) : ob s = hk.obs s.abs := obsPG_eq (HandSHeadRun.getT_eq s)
theorem runB (w : World) (g : String → Bool) : ∀ b : Bool, HandSHeadRun.RunEqI R (PySem.W.view R.prog [46]) hk ob 20000 loose (wat w b g)
  | true => by unfold HandSHeadRun.RunEqI; kernel_rfl
  | false => by unfold HandSHeadRun.RunEqI; kernel_rfl
theorem run (w : World) : HandSHeadRun.RunEqI R (PySem.W.view R.prog [46]) hk ob 20000 loose w := by
  have h := runB w w.params.followText (w.params.followText "special-get-raises")
  rwa [← w_split w] at h
theorem holds_of (pl : ∀ ns : List Int, ns.length ≤ 63 → LawIs P 200 35 ns) : (PySem.Challenge.rw_onlycompared_k83_stretches_and_relations).Holds := by
  w_on; o_law
  refine HandSHeadRun.head_imp (r := R) (q := PySem.W.view R.prog [46]) (H := hk) (ob := ob) (M := 20000) (loose := loose) (d := HandSHeadRun.topDef R.prog 46) (kwd := []) ob_eq
    run (by kernel_rfl) (by kernel_rfl) (by kernel_rfl) (by rfl) (by first | assumption | decide +kernel) (by decide +kernel) ⟨rfl, rfl, rfl, rfl, rfl, by decide +kernel⟩ ?hw ?hc
  case hw => w_witness2
  case hc =>
    refine LamX.walk_ofTsE (l := PySem.Challenge.rw_onlycompared_k83_stretches_and_relations) (n := 63) (k := 202) (x := "script") (CX := fun _ => L2.CX0) rfl (by decide) (by kernel_rfl) ⟨rfl, by decide, by decide⟩ ?F (fun _ _ _ _ _ z => z)
    intro w mg fa h Y G hmg0
    have hmg : mg ("law" : PySem.Str) = some (.ref fa) := by
      have e : (HandSHeadRun.topDef R.prog 46).name = ("law" : PySem.Str) := by kernel_rfl
      rw [← e]
      exact hmg0
    exact law_F ok (d := i35) (i := 35) rfl rfl rfl bLaw pl Y G hmg
end Lk83

theorem PySem.Challenge.cw_onlycompared_k83_stretches_and_relations_holds : PySem.Challenge.rw_onlycompared_k83_stretches_and_relations.Holds := by
  exact Lk83.holds_of Vk83.plain
